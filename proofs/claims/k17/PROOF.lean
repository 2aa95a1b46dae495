import PyProof.Rows.All
import Wide.All
import OpenK.AllK
import Wide.FinOn
import HandS.ForMost
import HandS.IsInst
import HandS.More
import HandS.Defaults
import HandS.MakeKw
import HandS.MakeKwOnly
import HandS.TupAny
import HandS.TupLen
import HandS.CallLocal
import HandS.Codes
import HandS.SetKeys
import HandS.Zip
import HandS.DictComp
import HandS.DictTup
import PySem.Str
import HandS.Wide
import HandS.WideMore
import KE.KDictDisplayH
import KE.KDictCopyH
import HandS.Conv
import HandS.Keys
import HandS.TupSets
import HandS.SetBool
import KE.GoesEnum
import KE.KUnpackStar
import PyProof.EqAt
import HandS.TupMul
import HandS.ClsMeth
import HandS.Style
import KE.KStateDown
import Lean
import HandS.Ends
import HandS.Words
import HandS.WordsExc
import HandS.Head0
import HandS.Head1
import HandS.Head2
import HandS.HeadEnd
import HandS.HeadHook1
import HandS.HeadHook2
import HandS.HeadHook3
import PySem.Challenge.RW_guessmill_k17_long_runs
set_option linter.all false
/-! Gm0: values by value (tuples are data), a store of numbered objects, and what expressions, statements and defs do on them, as plain functions. -/
namespace Gm
open PySem (Str)

/-- a value: a tuple is data (tup), so is a list that never changes (cl); ref n: the n-th object of the store; wt: a written tuple; glo x: what the module's name x stands for (a def, a class, a table) -/
inductive W where
  | non | bl (b : Bool) | int (i : Int) | str (x : Str) | tup (xs : List W) | cl (xs : List W) | wt (xs : List W) | ref (n : Nat) | glo (x : Str)
deriving Inhabited

/-- an object; gone: not to be looked at; dct false: keys are ints and texts; dct true: keys are tuples of these -/
inductive Ob where
  | lst (xs : List W)
  | dct (t : Bool) (kvs : List (W × W))
  | ins (c : Str) (fs : List (Str × W))
  | gone
deriving Inhabited

abbrev Env := List (Option W)
abbrev Store := List Ob
abbrev R (a : Type) := Option (a × Store)
abbrev ME := Env → Store → R W
abbrev MA := Env → Store → R (List W)
abbrev MT := Env → Store → R Bool
inductive Fl where
  | nx (e : Env) | rt (v : W) | bk (e : Env) | ct (e : Env)
abbrev MS := Env → Store → R Fl
abbrev MG := W → Env → Store → R Env
abbrev Fn := List W → Store → R W
/-- what a loop walks: at each turn its item, or its end -/
abbrev Src := Nat → Store → Option (Option W)
abbrev MI := Env → Store → R Src

def wInt : W → Option Int
  | .int i => some i
  | _ => none
def wBl : W → Option Bool
  | .bl b => some b
  | _ => none
def wStr : W → Option Str
  | .str x => some x
  | _ => none

/-! ### data and its equality -/
def strOk (x : Str) : Bool := x.cps.all fun c => decide (c < 1114112)
mutual
/-- the data that a value is, lists of the store read out, n deep -/
def rd (S : Store) : Nat → W → Option W
  | 0, _ => none
  | n + 1, .ref a => match S[a]? with
    | some (.lst ws) => (rds S n ws).map .cl
    | _ => none
  | n + 1, .tup ws => (rds S n ws).map .tup
  | n + 1, .cl ws => none
  | n + 1, .wt ws => (rds S n ws).map .tup
  | n + 1, .str x => if strOk x then some (.str x) else none
  | n + 1, .glo x => none
  | n + 1, .non => some .non
  | n + 1, .bl b => some (.bl b)
  | n + 1, .int i => some (.int i)
def rds (S : Store) : Nat → List W → Option (List W)
  | _, [] => some []
  | n, w :: ws => match rd S n w, rds S n ws with
    | some d, some ds => some (d :: ds)
    | _, _ => none
end
def b2i (b : Bool) : Int := if b then 1 else 0
mutual
def eqd : W → W → Bool
  | .non, .non => true
  | .bl a, .bl b => a == b
  | .bl a, .int j => b2i a == j
  | .int i, .bl b => i == b2i b
  | .int i, .int j => i == j
  | .str x, .str y => x == y
  | .tup xs, .tup ys => eqds xs ys
  | .cl xs, .cl ys => eqds xs ys
  | _, _ => false
def eqds : List W → List W → Bool
  | [], [] => true
  | x :: xs, y :: ys => eqd x y && eqds xs ys
  | _, _ => false
end
/-- == of scalars, else of data -/
def isSc : W → Bool
  | .non => true | .int _ => true | .str _ => true | .bl _ => true
  | _ => false
def eqW (S : Store) (x y : W) : Option Bool :=
  if isSc x && isSc y then some (eqd x y) else match rd S 40 x, rd S 40 y with
    | some d, some e => some (eqd d e)
    | _, _ => none

/-! ### expressions -/
section
variable {a b : Type}
def bindR (m : Env → Store → R a) (k : a → Env → Store → R b) : Env → Store → R b := fun e S => match m e S with
  | some (x, S') => k x e S'
  | none => none
end
def mVar (i : Nat) : ME := fun e S => match e[i]? with
  | some (some w) => some (w, S)
  | _ => none
def mC (w : W) : ME := fun _ S => some (w, S)
/-- a pure operation -/
def op2 (f : W → W → Store → Option W) (ma mb : ME) : ME := fun e S => match ma e S with
  | some (x, S1) => match mb e S1 with
    | some (y, S2) => match f x y S2 with
      | some z => some (z, S2)
      | none => none
    | none => none
  | none => none
def op1 (f : W → Store → Option W) (ma : ME) : ME := fun e S => match ma e S with
  | some (x, S1) => match f x S1 with
    | some z => some (z, S1)
    | none => none
  | none => none
def onI (f : Int → Int → Option W) : W → W → Store → Option W := fun x y _ => match x, y with
  | .int i, .int j => f i j
  | _, _ => none
def fAdd : W → W → Store → Option W := fun x y _ => match x, y with
  | .int i, .int j => some (.int (i + j))
  | .tup xs, .tup ys => if xs.length + ys.length ≤ 100000 then some (.tup (xs ++ ys)) else none
  | .str s, .str t => if s.length + t.length ≤ 100000 then some (.str (s ++ t)) else none
  | _, _ => none
def fSub := onI fun i j => some (.int (i - j))
def inLine (i : Int) : Bool := decide (-(2 ^ 64) < i) && decide (i < 2 ^ 64)
/-- a list's or tuple's times: see mRep; here onI, one below 2 ^ 64 -/
def fMul := onI fun i j => if inLine i || inLine j then some (.int (i * j)) else none
def fMod := onI fun i j => if 0 < j then some (.int (i % j)) else none
def fDiv := onI fun i j => if 0 < j ∧ j < 18446744073709551616 then some (.int (i / j)) else none
def fPow := onI fun i j => if 0 ≤ j ∧ j ≤ 1000 ∧ i.natAbs < 2 ^ 64 then some (.int (i ^ j.toNat)) else none
def fLt := onI fun i j => some (.bl (decide (i < j)))
def fLe := onI fun i j => some (.bl (decide (i ≤ j)))
def fGt := onI fun i j => some (.bl (decide (j < i)))
def fGe := onI fun i j => some (.bl (decide (j ≤ i)))
def fEq : W → W → Store → Option W := fun x y S => (eqW S x y).map .bl
def fNe : W → W → Store → Option W := fun x y S => (eqW S x y).map fun b => .bl (!b)
def fNeg : W → Store → Option W := fun x _ => match x with
  | .int i => some (.int (-i))
  | _ => none
/-- is None, is not None -/
def isNon : W → Bool
  | .non => true
  | _ => false
def fIsN : W → Store → Option W := fun x _ => some (.bl (isNon x))
def fNotN : W → Store → Option W := fun x _ => some (.bl (!isNon x))
/-- x in a list or tuple of scalars -/
def fIn : W → W → Store → Option W := fun x y S => match y with
  | .tup ys => if isSc x && ys.all isSc then some (.bl (ys.any fun z => eqd z x)) else none
  | .cl ys => if isSc x && ys.all isSc then some (.bl (ys.any fun z => eqd z x)) else none
  | .wt ys => if isSc x && ys.all isSc then some (.bl (ys.any fun z => eqd z x)) else none
  | .ref a => match S[a]? with
    | some (.lst ys) => if isSc x && ys.all isSc then some (.bl (ys.any fun z => eqd z x)) else none
    | _ => none
  | _ => none
def negW : Option W → Option W
  | some (.bl b) => some (.bl (!b))
  | _ => none
def fNotIn : W → W → Store → Option W := fun x y S => negW (fIn x y S)
/-- a sign in a text -/
def fInSign : W → W → Store → Option W := fun x y _ => match x, y with
  | .str s, .str t => match s.cps.toList with
    | [c] => some (.bl (decide (c ∈ t.cps.toList)))
    | _ => none
  | _, _ => none
def fNotInSign : W → W → Store → Option W := fun x y S => negW (fInSign x y S)

/-! ### and, or, not, tests -/
def mAnd (ma mb : ME) : ME := fun e S => match ma e S with
  | some (.bl true, S1) => mb e S1
  | some (.bl false, S1) => some (.bl false, S1)
  | _ => none
def mOr (ma mb : ME) : ME := fun e S => match ma e S with
  | some (.bl true, S1) => some (.bl true, S1)
  | some (.bl false, S1) => mb e S1
  | _ => none
def mNot (ma : ME) : ME := fun e S => match ma e S with
  | some (.bl b, S1) => some (.bl (!b), S1)
  | _ => none
/-- a value that is a bool, as a test -/
def tVal (ma : ME) : MT := fun e S => match ma e S with
  | some (.bl b, S1) => some (b, S1)
  | _ => none
def tAnd (ma mb : MT) : MT := fun e S => match ma e S with
  | some (true, S1) => mb e S1
  | some (false, S1) => some (false, S1)
  | none => none
def tOr (ma mb : MT) : MT := fun e S => match ma e S with
  | some (true, S1) => some (true, S1)
  | some (false, S1) => mb e S1
  | none => none
def tNot (ma : MT) : MT := fun e S => match ma e S with
  | some (b, S1) => some (!b, S1)
  | none => none
def mIf (mt : MT) (ma mb : ME) : ME := fun e S => match mt e S with
  | some (true, S1) => ma e S1
  | some (false, S1) => mb e S1
  | none => none
/-- a < b < c -/
def mChain (f g : W → W → Store → Option W) (ma mb mc : ME) : ME := fun e S => match ma e S with
  | some (x, S1) => match mb e S1 with
    | some (y, S2) => match f x y S2 with
      | some (.bl true) => match mc e S2 with
        | some (z, S3) => match g y z S3 with
          | some v => some (v, S3)
          | none => none
        | none => none
      | some (.bl false) => some (.bl false, S2)
      | _ => none
    | none => none
  | none => none

/-! ### lists of values: arguments, displays, tuples -/
def aNil : MA := fun _ S => some ([], S)
def aCons (ma : ME) (mr : MA) : MA := fun e S => match ma e S with
  | some (x, S1) => match mr e S1 with
    | some (xs, S2) => some (x :: xs, S2)
    | none => none
  | none => none
def mTup (m : MA) : ME := fun e S => match m e S with
  | some (xs, S1) => if xs.length ≤ 100000 then some (.tup xs, S1) else none
  | none => none
/-- a new list as an object -/
def mNew (m : MA) : ME := fun e S => match m e S with
  | some (xs, S1) => if xs.length ≤ 100000 then some (.ref S1.length, S1 ++ [.lst xs]) else none
  | none => none
/-- all, any, tuple, len, sum of a list just made -/
def wBls : List W → Option (List Bool)
  | [] => some []
  | .bl b :: r => (wBls r).map (b :: ·)
  | _ :: _ => none
def wInts : List W → Option (List Int)
  | [] => some []
  | .int b :: r => (wInts r).map (b :: ·)
  | _ :: _ => none
def mAll (m : MA) : ME := fun e S => match m e S with
  | some (xs, S1) => (wBls xs).map fun bs => (.bl (bs.all id), S1)
  | none => none
def mAny (m : MA) : ME := fun e S => match m e S with
  | some (xs, S1) => (wBls xs).map fun bs => (.bl (bs.any id), S1)
  | none => none
/-- the items of a list or tuple -/
def seqOf (S : Store) : W → Option (List W)
  | .tup ws => some ws
  | .cl ws => some ws
  | .wt ws => some ws
  | .ref a => match S[a]? with
    | some (.lst ws) => some ws
    | _ => none
  | _ => none
/-- list(x), as a list of values -/
def aSeq (ma : ME) : MA := fun e S => match ma e S with
  | some (x, S1) => (seqOf S1 x).map fun ws => (ws, S1)
  | none => none
def aCat (ma mb : MA) : MA := fun e S => match ma e S with
  | some (xs, S1) => match mb e S1 with
    | some (ys, S2) => if xs.length + ys.length ≤ 100000 then some (xs ++ ys, S2) else none
    | none => none
  | none => none
/-- a list of the store, then one just made -/
def aCatE (ma : ME) (mb : MA) : MA := fun e S => match ma e S with
  | some (.ref a, S1) => match mb e S1 with
    | some (ys, S2) => match S2[a]? with
      | some (.lst xs) => if xs.length + ys.length ≤ 100000 then some (xs ++ ys, S2) else none
      | _ => none
    | none => none
  | _ => none
def aRep (ma : MA) (mb : ME) : MA := fun e S => match ma e S with
  | some (xs, S1) => match mb e S1 with
    | some (.int k, S2) => if -(2 ^ 62) < k ∧ k < 2 ^ 62 ∧ xs.length * k.toNat ≤ 100000 then some ((List.replicate k.toNat xs).flatten, S2) else none
    | _ => none
  | none => none
def fRepT : W → W → Store → Option W := fun x y _ => match x, y with
  | .tup xs, .int k => if -(2 ^ 62) < k ∧ k < 2 ^ 62 ∧ xs.length * k.toNat ≤ 100000 then some (.tup (List.replicate k.toNat xs).flatten) else none
  | _, _ => none
def mLen (ma : ME) : ME := op1 (fun x S => match x with
  | .str s => if s.length ≤ 100000 then some (.int s.length) else none
  | .ref a => match S[a]? with
    | some (.lst ws) => some (.int ws.length)
    | some (.dct _ kvs) => some (.int kvs.length)
    | _ => none
  | .tup ws => some (.int ws.length)
  | .cl ws => some (.int ws.length)
  | .wt ws => some (.int ws.length)
  | _ => none) ma
/-- an index, of any sign -/
def ixN (n : Nat) (i : Int) : Option Nat := if 0 ≤ i then (if i < n then some i.toNat else none) else if -(n : Int) ≤ i then some (i + n).toNat else none
def fIx : W → W → Store → Option W := fun x y S => match y with
  | .int i => match seqOf S x with
    | some ws => (ixN ws.length i).bind fun j => ws[j]?
    | none => none
  | _ => none
/-- the places of a slice -/
def slIx (n : Nat) (d : Nat) : Option Int → Nat
  | none => d
  | some i => if i < 0 then (i + n).toNat else min i.toNat n

/-! ### instances, fields -/
def fld (cs : List Str) (f : Str) : W → Store → Option W := fun x S => match x with
  | .ref a => match S[a]? with
    | some (.ins c fs) => if c ∈ cs then fs.lookup f else none
    | _ => none
  | _ => none
def putF (f : Str) (v : W) : List (Str × W) → List (Str × W)
  | [] => [(f, v)]
  | (g, w) :: r => if g = f then (g, v) :: r else (g, w) :: putF f v r

/-! ### calls -/
def mCall (F : Fn) (m : MA) : ME := fun e S => match m e S with
  | some (ws, S1) => F ws S1
  | none => none
/-- o.m(..), o of the class c -/
def mMeth (c m : Str) (F : Fn) (mo : ME) (ma : MA) : ME := fun e S => match mo e S with
  | some (.ref a, S1) => match S1[a]? with
    | some (.ins c' fs) => if c' = c ∧ fs.lookup m = none then (match ma e S1 with
      | some (ws, S2) => F (.ref a :: ws) S2
      | none => none) else none
    | _ => none
  | _ => none
/-- one way or the other -/
def mEither (m1 m2 : ME) : ME := fun e S => match m1 e S with
  | some r => some r
  | none => m2 e S
/-- C(..), by its __init__ -/
def mMake (c : Str) (F : Fn) (m : MA) : ME := fun e S => match m e S with
  | some (ws, S1) => match F (.ref S1.length :: ws) (S1 ++ [.ins c []]) with
    | some (.non, S2) => some (.ref S1.length, S2)
    | _ => none
  | none => none

/-! ### loops and comprehensions -/
def turns : Nat := 1000000
/-- over a sequence: read anew at each turn -/
def sSeq (x : W) : Src := fun i S => (seqOf S x).map fun ws => ws[i]?
def sEnum (s : Src) : Src := fun i S => (s i S).map fun o => o.map fun w => .tup [.int i, w]
def sZip (s t : Src) : Src := fun i S => match s i S, t i S with
  | some (some x), some (some y) => some (some (.tup [x, y]))
  | some _, some _ => some none
  | _, _ => none
def sStr (x : Str) : Src := fun i _ => some (x.cps.toList[i]?.map fun c => .str ⟨#[c]⟩)
def sRange (lo : Int) (n : Nat) : Src := fun i _ => some (if i < n then some (.int (lo + i)) else none)
def sFix (ws : List W) : Src := fun i _ => some ws[i]?

def forN (s : Src) (g : MG) (body : MS) : Nat → Nat → Env → Store → R Fl
  | 0, _, _, _ => none
  | n + 1, i, e, S => match s i S with
    | none => none
    | some none => some (.nx e, S)
    | some (some w) => match g w e S with
      | none => none
      | some (e1, S1) => match body e1 S1 with
        | some (.nx e2, S2) => forN s g body n (i + 1) e2 S2
        | some (.ct e2, S2) => forN s g body n (i + 1) e2 S2
        | some (.bk e2, S2) => some (.nx e2, S2)
        | some (.rt v, S2) => some (.rt v, S2)
        | none => none
def whileN (t : MT) (body : MS) : Nat → Env → Store → R Fl
  | 0, _, _ => none
  | n + 1, e, S => match t e S with
    | none => none
    | some (false, S1) => some (.nx e, S1)
    | some (true, S1) => match body e S1 with
      | some (.nx e2, S2) => whileN t body n e2 S2
      | some (.ct e2, S2) => whileN t body n e2 S2
      | some (.bk e2, S2) => some (.nx e2, S2)
      | some (.rt v, S2) => some (.rt v, S2)
      | none => none
/-- the places of a comprehension's own names forgotten -/
def wipe (e : Env) : List Nat → Env
  | [] => e
  | v :: vs => (wipe e vs).set v none
def compN (s : Src) (g : MG) (t : MT) (m : ME) (vs : List Nat) : Nat → Nat → List W → Env → Store → R (List W)
  | 0, _, _, _, _ => none
  | n + 1, i, acc, e, S => match s i S with
    | none => none
    | some none => some (acc, S)
    | some (some w) => match g w (wipe e vs) S with
      | none => none
      | some (e1, S1) => match t e1 S1 with
        | none => none
        | some (false, S2) => compN s g t m vs n (i + 1) acc e S2
        | some (true, S2) => match m e1 S2 with
          | none => none
          | some (v, S3) => if acc.length < 100000 then compN s g t m vs n (i + 1) (acc ++ [v]) e S3 else none
def aComp (mi : MI) (g : MG) (t : MT) (m : ME) (vs : List Nat) : MA := fun e S => match mi e S with
  | some (s, S1) => compN s g t m vs turns 0 [] e S1
  | none => none
def tYes : MT := fun _ S => some (true, S)
/-- what is walked -/
def walkable : W → Bool
  | .tup _ => true
  | .wt _ => true
  | .ref _ => true
  | _ => false
def iSeq (m : ME) : MI := fun e S => match m e S with
  | some (x, S1) => match seqOf S1 x with
    | some _ => if walkable x then some (sSeq x, S1) else none
    | none => none
  | none => none
def iStr (m : ME) : MI := fun e S => match m e S with
  | some (.str x, S1) => some (sStr x, S1)
  | _ => none
def iRange1 (m : ME) : MI := fun e S => match m e S with
  | some (.int n, S1) => if -(2 ^ 62) ≤ n ∧ n < 2 ^ 62 then some (sRange 0 n.toNat, S1) else none
  | _ => none
def iRange2 (ma mb : ME) : MI := fun e S => match ma e S with
  | some (.int i, S1) => match mb e S1 with
    | some (.int j, S2) => if -(2 ^ 62) ≤ i ∧ i < 2 ^ 62 ∧ -(2 ^ 62) ≤ j ∧ j < 2 ^ 62 then some (sRange i (j - i).toNat, S2) else none
    | _ => none
  | _ => none
def iEnum (m : ME) : MI := fun e S => match m e S with
  | some (x, S1) => match seqOf S1 x with
    | some _ => if walkable x then some (sEnum (sSeq x), S1) else none
    | none => none
  | none => none

/-! ### statements -/
def gName (i : Nat) : MG := fun w e S => some (e.set i (some w), S)
def gNil : List W → Env → Store → R Env := fun ws e S => match ws with
  | [] => some (e, S)
  | _ => none
def gCons (g : MG) (r : List W → Env → Store → R Env) : List W → Env → Store → R Env := fun ws e S => match ws with
  | w :: ws => match g w e S with
    | some (e1, S1) => r ws e1 S1
    | none => none
  | [] => none
/-- (a, b, ..) = a tuple -/
def gTup (r : List W → Env → Store → R Env) : MG := fun w e S => match w with
  | .tup ws => r ws e S
  | _ => none
/-- a list that is unpacked: the same -/
def gSeq (r : List W → Env → Store → R Env) : MG := fun w e S => match seqOf S w with
  | some ws => r ws e S
  | none => none
def sAsg (m : ME) (g : MG) : MS := fun e S => match m e S with
  | some (w, S1) => match g w e S1 with
    | some (e1, S2) => some (.nx e1, S2)
    | none => none
  | none => none
def sFld (cs : List Str) (mo : ME) (f : Str) (m : ME) : MS := fun e S => match m e S with
  | some (w, S1) => match mo e S1 with
    | some (.ref a, S2) => match S2[a]? with
      | some (.ins c fs) => if c ∈ cs ∧ fs.length < 1000 then some (.nx e, S2.set a (.ins c (putF f w fs))) else none
      | _ => none
    | _ => none
  | none => none
def sSeq2 (s t : MS) : MS := fun e S => match s e S with
  | some (.nx e1, S1) => t e1 S1
  | r => r
def sNil : MS := fun e S => some (.nx e, S)
def sRet (m : ME) : MS := fun e S => match m e S with
  | some (w, S1) => some (.rt w, S1)
  | none => none
def sDrop (m : ME) : MS := fun e S => match m e S with
  | some (_, S1) => some (.nx e, S1)
  | none => none
def sIf (t : MT) (a b : MS) : MS := fun e S => match t e S with
  | some (true, S1) => a e S1
  | some (false, S1) => b e S1
  | none => none
def sNever : MS := fun _ _ => none
def sBreak : MS := fun e S => some (.bk e, S)
def sCont : MS := fun e S => some (.ct e, S)
def sFor (mi : MI) (g : MG) (body : MS) : MS := fun e S => match mi e S with
  | some (s, S1) => forN s g body turns 0 e S1
  | none => none
def sWhile (t : MT) (body : MS) : MS := whileN t body turns
/-- a def by its body: n names -/
def fnOf (n : Nat) (body : MS) : Fn := fun ws S => match body (ws.map some ++ List.replicate (n - ws.length) none) S with
  | some (.rt v, S1) => some (v, S1)
  | some (.nx _, S1) => some (.non, S1)
  | _ => none
/-- at most so many -/
def aMax (m : MA) : MA := fun e S => match m e S with
  | some (ws, S') => if ws.length ≤ 100000 then some (ws, S') else none
  | none => none
/-- tuple(x), x a tuple or a list of the store -/
def mTupOf (m : ME) : ME := fun e S => match m e S with
  | some (.tup ws, S1) => some (.tup ws, S1)
  | some (.ref i, S1) => match S1[i]? with
    | some (.lst ws) => some (.tup ws, S1)
    | _ => none
  | _ => none
/-- a list just made, asked for its length -/
def mLenL (m : MA) : ME := fun e S => match m e S with
  | some (xs, S1) => some (.int xs.length, S1)
  | none => none
/-- sum of a list just made, or of the store -/
def mSumE (m : ME) : ME := op1 (fun x S => match seqOf S x with
  | some ws => match x with
    | .ref _ => (wInts ws).map fun ns => .int ns.sum
    | _ => none
  | none => none) m
def tyW (S : Store) : W → Option String
  | .non => some "NoneType"
  | .bl _ => some "bool"
  | .int _ => some "int"
  | .str _ => some "str"
  | .tup _ => some "tuple"
  | .wt _ => some "tuple"
  | .ref i => match S[i]? with
    | some (.lst _) => some "list"
    | some (.dct _ _) => some "dict"
    | _ => none
  | _ => none
def isTy (c t : String) : Bool := t == c || (c == "int" && t == "bool")
def fIs (c : String) : W → Store → Option W := fun x S => (tyW S x).map fun t => .bl (isTy c t)
def fIs2 (c d : String) : W → Store → Option W := fun x S => (tyW S x).map fun t => .bl (isTy c t || isTy d t)
/-- a tuple of so many -/
def gTupN (n : Nat) (gr : List W → Env → Store → R Env) : MG := fun w e S => match w with
  | .tup ws => if ws.length = n then gr ws e S else none
  | _ => none
/-- a, b = x, y -/
def sPar (i j : Nat) (m : MA) : MS := fun e S => match m e S with
  | some ([v, w], S1) => some (.nx ((e.set i (some v)).set j (some w)), S1)
  | _ => none
/-- name op= e, ints -/
def sAug (i : Nat) (f : Int → Int → Int) (m : ME) : MS := fun e S => match e[i]? with
  | some (some (.int x)) => match m e S with
    | some (.int y, S1) => some (.nx (e.set i (some (.int (f x y)))), S1)
    | _ => none
  | _ => none
/-- o.f op= e, ints -/
def sFldAug (cs : List Str) (mo : ME) (f : Str) (fo : Int → Int → Int) (m : ME) : MS := fun e S => match mo e S with
  | some (.ref a, S1) => match S1[a]? with
    | some (.ins c fs) => if c ∈ cs then (match fs.lookup f with
      | some (.int x) => match m e S1 with
        | some (.int y, S2) => match S2[a]? with
          | some (.ins c' fs') => if c' = c ∧ fs'.length < 1000 then some (.nx e, S2.set a (.ins c' (putF f (.int (fo x y)) fs'))) else none
          | _ => none
        | _ => none
      | _ => none) else none
    | _ => none
  | _ => none
/-- a call with so many arguments -/
def mCallN (n : Nat) (F : Fn) (m : MA) : ME := fun e S => match m e S with
  | some (ws, S1) => if ws.length = n then F ws S1 else none
  | none => none
/-- o.m(e, ..) -/
def mMethN (c m : Str) (n : Nat) (F : Fn) (mo : ME) (ma : MA) : ME := fun e S => match mo e S with
  | some (.ref a, S1) => match S1[a]? with
    | some (.ins c' fs) => if c' = c ∧ fs.lookup m = none then (match ma e S1 with
      | some (ws, S2) => if ws.length + 1 = n then F (.ref a :: ws) S2 else none
      | none => none) else none
    | _ => none
  | _ => none
/-- C(e, ..), by its __init__ -/
def mMakeN (c : Str) (n : Nat) (F : Fn) (m : MA) : ME := fun e S => match m e S with
  | some (ws, S1) => if ws.length + 1 = n then (match F (.ref S1.length :: ws) (S1 ++ [.ins c []]) with
    | some (.non, S2) => some (.ref S1.length, S2)
    | _ => none) else none
  | none => none
end Gm

set_option linter.all false
/-! Gn0: more plain functions: methods of lists, stores of items, dicts, sums of values. -/
namespace Gm
open PySem (Str)
/-! ### lists -/
def mAppend (mo me : ME) : ME := fun e S => match mo e S with
  | some (.ref a, S1) => match S1[a]? with
    | some (.lst _) => match me e S1 with
      | some (v, S2) => match S2[a]? with
        | some (.lst ws) => if ws.length < 100000 then some (.non, S2.set a (.lst (ws ++ [v]))) else none
        | _ => none
      | none => none
    | _ => none
  | _ => none
def mExtend (mo me : ME) : ME := fun e S => match mo e S with
  | some (.ref a, S1) => match S1[a]? with
    | some (.lst _) => match me e S1 with
      | some (.ref b, S2) => match S2[a]?, S2[b]? with
        | some (.lst ws), some (.lst us) => if ws.length + us.length ≤ 100000 then some (.non, S2.set a (.lst (ws ++ us))) else none
        | _, _ => none
      | _ => none
    | _ => none
  | _ => none
def mPop (mo : ME) : ME := fun e S => match mo e S with
  | some (.ref a, S1) => match S1[a]? with
    | some (.lst ws) => match ws[ws.length - 1]? with
      | some v => some (v, S1.set a (.lst ws.dropLast))
      | none => none
    | _ => none
  | _ => none
/-- o[i] = v -/
def sSetIx (mv mo mi : ME) : MS := fun e S => match mv e S with
  | some (v, S1) => match mo e S1 with
    | some (.ref a, S2) => match mi e S2 with
      | some (.int i, S3) => match S3[a]? with
        | some (.lst ws) => match ixN ws.length i with
          | some j => some (.nx e, S3.set a (.lst (ws.set j v)))
          | none => none
        | _ => none
      | _ => none
    | _ => none
  | none => none
/-- xs[:k] = ys of another list -/
def sSetSl (mv mo mk : ME) : MS := fun e S => match mv e S with
  | some (.ref b, S1) => match mo e S1 with
    | some (.ref a, S2) => match mk e S2 with
      | some (.int k, S3) => match S3[a]?, S3[b]? with
        | some (.lst ws), some (.lst us) => if a ≠ b ∧ 0 ≤ k ∧ k ≤ ws.length ∧ ws.length + us.length ≤ 100000 then some (.nx e, S3.set a (.lst (us ++ ws.drop k.toNat))) else none
        | _, _ => none
      | _ => none
    | _ => none
  | _ => none
/-! ### sums -/
def fInt : W → Store → Option W := fun x _ => match x with
  | .int i => some (.int i)
  | .bl b => some (.int (if b then 1 else 0))
  | _ => none
def fAbs : W → Store → Option W := fun x _ => match x with
  | .int i => some (.int (if i < 0 then -i else i))
  | _ => none
def fMax2 := onI fun i j => some (.int (if j > i then j else i))
def fMin2 := onI fun i j => some (.int (if j < i then j else i))
/-! ### dicts -/
def kOne : W → Option (Sum Int Str)
  | .int i => some (.inl i)
  | .str x => some (.inr x)
  | _ => none
def kAll : List W → Option (List (Sum Int Str))
  | [] => some []
  | w :: ws => match kOne w, kAll ws with
    | some k, some ks => some (k :: ks)
    | _, _ => none
def kTup : W → Option (List (Sum Int Str))
  | .tup ws => kAll ws
  | _ => none
/-- a key of a dict of that kind -/
def kOk : Bool → W → Bool
  | false, k => (kOne k).isSome
  | true, k => (kTup k).isSome
def sameK : Bool → W → W → Bool
  | false, a, b => decide (kOne a = kOne b)
  | true, a, b => decide (kTup a = kTup b)
def dVal (t : Bool) (kvs : List (W × W)) (k : W) : Option W := (kvs.find? fun kv => sameK t kv.1 k).map (·.2)
def dPut (t : Bool) (kvs : List (W × W)) (k v : W) : List (W × W) :=
  if (kvs.any fun kv => sameK t kv.1 k) = true then kvs.map (fun kv => if sameK t kv.1 k then (kv.1, v) else kv) else kvs ++ [(k, v)]
def fGetD : W → W → Store → Option W := fun x k S => match x with
  | .ref a => match S[a]? with
    | some (.dct t kvs) => if kOk t k then dVal t kvs k else none
    | _ => none
  | _ => none
def fInD : W → W → Store → Option W := fun k x S => match x with
  | .ref a => match S[a]? with
    | some (.dct t kvs) => if kOk t k then some (.bl (dVal t kvs k).isSome) else none
    | _ => none
  | _ => none
def fNotInD : W → W → Store → Option W := fun k x S => negW (fInD k x S)
/-- o[k] = v -/
def sPutD (mv mo mk : ME) : MS := fun e S => match mv e S with
  | some (v, S1) => match mo e S1 with
    | some (.ref a, S2) => match mk e S2 with
      | some (k, S3) => match S3[a]? with
        | some (.dct t kvs) => if kOk t k ∧ kvs.length < 100000 then some (.nx e, S3.set a (.dct t (dPut t kvs k v))) else none
        | _ => none
      | none => none
    | _ => none
  | none => none
/-- o[k] op= v, ints -/
def sAugD (mo mk : ME) (f : W → W → Store → Option W) (mv : ME) : MS := fun e S => match mo e S with
  | some (.ref a, S1) => match mk e S1 with
    | some (k, S2) => match S2[a]? with
      | some (.dct t kvs) => if kOk t k then (match dVal t kvs k with
        | some x => match mv e S2 with
          | some (y, S3) => match f x y S3 with
            | some z => match S3[a]? with
              | some (.dct t' kvs') => if t' = t ∧ kvs'.length < 100000 then some (.nx e, S3.set a (.dct t (dPut t kvs' k z))) else none
              | _ => none
            | none => none
          | none => none
        | none => none) else none
      | _ => none
    | none => none
  | _ => none
/-- o.get(k) -/
def mGet1 (mo mk : ME) : ME := fun e S => match mo e S with
  | some (.ref a, S1) => match S1[a]? with
    | some (.dct _ _) => match mk e S1 with
      | some (k, S2) => match S2[a]? with
        | some (.dct t kvs) => if kOk t k then some ((dVal t kvs k).getD .non, S2) else none
        | _ => none
      | none => none
    | _ => none
  | _ => none
/-- o.setdefault(k, v) -/
def mSetD (mo mk mv : ME) : ME := fun e S => match mo e S with
  | some (.ref a, S1) => match S1[a]? with
    | some (.dct _ _) => match mk e S1 with
      | some (k, S2) => match mv e S2 with
        | some (v, S3) => match S3[a]? with
          | some (.dct t kvs) => if kOk t k ∧ kvs.length < 100000 then (match dVal t kvs k with
            | some x => some (x, S3)
            | none => some (v, S3.set a (.dct t (dPut t kvs k v)))) else none
          | _ => none
        | none => none
      | none => none
    | _ => none
  | _ => none
/-- {} -/
def mDNew (t : Bool) : ME := fun _ S => some (.ref S.length, S ++ [.dct t []])
/-- the pairs of a display -/
def pNil : Env → Store → R (List (W × W)) := fun _ S => some ([], S)
def pCons (mk mv : ME) (r : Env → Store → R (List (W × W))) : Env → Store → R (List (W × W)) := fun e S => match mk e S with
  | some (k, S1) => match mv e S1 with
    | some (v, S2) => match r e S2 with
      | some (kvs, S3) => some ((k, v) :: kvs, S3)
      | none => none
    | none => none
  | none => none
def dAll (t : Bool) : List (W × W) → List (W × W) → List (W × W)
  | acc, [] => acc
  | acc, (k, v) :: r => dAll t (dPut t acc k v) r
/-- {k: v, ..} -/
def mDisp (t : Bool) (m : Env → Store → R (List (W × W))) : ME := fun e S => match m e S with
  | some (kvs, S1) => if (kvs.all fun kv => kOk t kv.1) ∧ kvs.length ≤ 15 then some (.ref S1.length, S1 ++ [.dct t (dAll t [] kvs)]) else none
  | none => none
/-- dict(d) -/
def mDCopy (mo : ME) : ME := fun e S => match mo e S with
  | some (.ref a, S1) => match S1[a]? with
    | some (.dct t kvs) => some (.ref S1.length, S1 ++ [.dct t kvs])
    | _ => none
  | _ => none
end Gm
namespace Gm
open PySem (Str)
/-- dict(d), d of few keys if these are tuples -/
def mDictOf (mo : ME) : ME := fun e S => match mo e S with
  | some (.ref a, S1) => match S1[a]? with
    | some (.dct t kvs) => if t = false ∨ kvs.length ≤ 1 then some (.ref S1.length, S1 ++ [.dct t kvs]) else none
    | _ => none
  | _ => none
/-- dict(a list of no pairs) -/
def mDictP (mo : ME) : ME := fun e S => match mo e S with
  | some (.ref a, S1) => match S1[a]? with
    | some (.lst []) => some (.ref S1.length, S1 ++ [.dct false []])
    | _ => none
  | _ => none
/-- sorted(d), a list just made: d of few keys -/
def aSortD (mo : ME) : MA := fun e S => match mo e S with
  | some (.ref a, S1) => match S1[a]? with
    | some (.dct true kvs) => if kvs.length ≤ 1 then some (kvs.map (·.1), S1) else none
    | _ => none
  | _ => none
/-- over a list just made -/
def iLst (m : MA) : MI := fun e S => match m e S with
  | some (ws, S1) => some (sFix ws, S1)
  | none => none
/-- {k: v for ..} -/
def dcN (t : Bool) (s : Src) (g : MG) (mt : MT) (mk mv : ME) (vs : List Nat) : Nat → Nat → List (W × W) → Env → Store → R (List (W × W))
  | 0, _, _, _, _ => none
  | n + 1, i, acc, e, S => match s i S with
    | none => none
    | some none => some (acc, S)
    | some (some w) => match g w (wipe e vs) S with
      | none => none
      | some (e1, S1) => match mt e1 S1 with
        | none => none
        | some (false, S2) => dcN t s g mt mk mv vs n (i + 1) acc e S2
        | some (true, S2) => match mk e1 S2 with
          | none => none
          | some (k, S3) => match mv e1 S3 with
            | none => none
            | some (v, S4) => if acc.length < 100000 ∧ kOk t k then dcN t s g mt mk mv vs n (i + 1) (dPut t acc k v) e S4 else none
def mDcomp (t : Bool) (mi : MI) (g : MG) (mt : MT) (mk mv : ME) (vs : List Nat) : ME := fun e S => match mi e S with
  | some (s, S1) => match dcN t s g mt mk mv vs turns 0 [] e S1 with
    | some (kvs, S2) => some (.ref S2.length, S2 ++ [.dct t kvs])
    | none => none
  | none => none
end Gm
namespace Gm
open PySem (Str)
/-- the members of {m for ..}, each once, in the order they come -/
def scN (s : Src) (g : MG) (t : MT) (m : ME) (vs : List Nat) : Nat → Nat → List W → Env → Store → R (List W)
  | 0, _, _, _, _ => none
  | n + 1, i, acc, e, S => match s i S with
    | none => none
    | some none => some (acc, S)
    | some (some w) => match g w (wipe e vs) S with
      | none => none
      | some (e1, S1) => match t e1 S1 with
        | none => none
        | some (false, S2) => scN s g t m vs n (i + 1) acc e S2
        | some (true, S2) => match m e1 S2 with
          | none => none
          | some (v, S3) => if acc.length < 60 ∧ kOk false v then scN s g t m vs n (i + 1) (if acc.any fun w => sameK false w v then acc else acc ++ [v]) e S3 else none
/-- len({m for ..}) -/
def mLenSet (mi : MI) (g : MG) (t : MT) (m : ME) (vs : List Nat) : ME := fun e S => match mi e S with
  | some (s, S1) => match scN s g t m vs turns 0 [] e S1 with
    | some (ws, S2) => some (.int ws.length, S2)
    | none => none
  | none => none
end Gm
namespace Gm
open PySem (Str)
/-- enumerate(a tuple) -/
def sEnumT (ws : List W) : Src := fun i _ => if i ≤ ws.length then some (ws[i]?.map fun w => .tup [.int i, w]) else none
/-- enumerate(x), x a tuple or a list of the store -/
def iEnumX (m : ME) : MI := fun e S => match m e S with
  | some (.tup ws, S1) => some (sEnumT ws, S1)
  | some (.ref a, S1) => match S1[a]? with
    | some (.lst _) => some (sEnum (sSeq (.ref a)), S1)
    | _ => none
  | _ => none
/-- zip(a text, a list) -/
def sZipSL (x : Str) (a : Nat) : Src := fun i S => match S[a]? with
  | some (.lst ws) => if i ≤ x.cps.toList.length ∧ i ≤ ws.length then (match x.cps.toList[i]?, ws[i]? with
    | some c, some w => some (some (.tup [.str ⟨#[c]⟩, w]))
    | _, _ => some none) else none
  | _ => none
def sZip2 (x y : W) : Src := fun i S => match seqOf S x, seqOf S y with
  | some xs, some ys => match xs[i]?, ys[i]? with
    | some v, some w => some (some (.tup [v, w]))
    | _, _ => some none
  | _, _ => none
/-- zip(x, y): a text and a list, two tuples, two lists -/
def iZipX (ma mb : ME) : MI := fun e S => match ma e S with
  | some (x, S1) => match mb e S1 with
    | some (y, S2) => match x, y with
      | .str z, .ref a => (match S2[a]? with
        | some (.lst _) => some (sZipSL z a, S2)
        | _ => none)
      | .tup xs, .tup ys => some (sZip2 (.tup xs) (.tup ys), S2)
      | .ref a, .ref b => (match S2[a]?, S2[b]? with
        | some (.lst _), some (.lst _) => some (sZip2 (.ref a) (.ref b), S2)
        | _, _ => none)
      | _, _ => none
    | none => none
  | none => none
end Gm
namespace Gm
open PySem (Str)
/-- a, *b = a tuple -/
def gStar (g1 g2 : MG) : MG := fun w e S => match w with
  | .tup (x :: xs) => if xs.length ≤ 10000 then (match g1 x e (S ++ [.lst xs]) with
    | some (e1, S1) => g2 (.ref S.length) e1 S1
    | none => none) else none
  | _ => none
/-- word in a written table, by what the table has -/
def fInK (tbl : List (Str × W)) : W → Store → Option W := fun x _ => match x with
  | .str z => (tbl.lookup z).map fun _ => .bl true
  | _ => none
def fNotInK (tbl : List (Str × W)) : W → Store → Option W := fun x _ => match x with
  | .str z => (tbl.lookup z).map fun _ => .bl false
  | _ => none
def fGetK (tbl : List (Str × W)) : W → Store → Option W := fun x _ => match x with
  | .str z => tbl.lookup z
  | _ => none
/-- f(e, ..), f a name that holds one of these defs -/
def mCallV (i n : Nat) (fs : List (Str × Fn)) (m : MA) : ME := fun e S => match e[i]? with
  | some (some (.glo x)) => match fs.lookup x with
    | some F => match m e S with
      | some (ws, S1) => if ws.length = n then F ws S1 else none
      | none => none
    | none => none
  | _ => none
/-- ==, lists of other lengths told at once -/
def fEqL : W → W → Store → Option W := fun x y S => match x, y with
  | .ref a, .ref b => (match S[a]?, S[b]? with
    | some (.lst xs), some (.lst ys) => if xs.length = ys.length then fEq x y S else some (.bl false)
    | _, _ => none)
  | _, _ => none
end Gm
namespace Gm
open PySem (Str)
def fTimes : W → W → Store → Option W := fun x y _ => match x, y with
  | .tup xs, .int k => if 1 ≤ xs.length ∧ xs.length ≤ 1000 ∧ 0 ≤ k ∧ k ≤ 1000 then some (.tup (List.replicate k.toNat xs).flatten) else none
  | _, _ => none
end Gm
namespace Gm
open PySem (Str)
/-- a call with so many arguments and so many keywords, these in the parameters' order, defaults behind -/
def mCallK (n m : Nat) (F : Fn) (ma mk : MA) : ME := fun e S => match ma e S with
  | some (ws, S1) => match mk e S1 with
    | some (us, S2) => if ws.length = n ∧ us.length = m then F (ws ++ us) S2 else none
    | none => none
  | none => none
def mMakeK (c : Str) (n m : Nat) (F : Fn) (ma mk : MA) : ME := fun e S => match ma e S with
  | some (ws, S1) => match mk e S1 with
    | some (us, S2) => if ws.length = n ∧ us.length = m then (match F (.ref S2.length :: (ws ++ us)) (S2 ++ [.ins c []]) with
      | some (.non, S3) => some (.ref S2.length, S3)
      | _ => none) else none
    | none => none
  | none => none
/-- o.m(k = e, ..) -/
def mMethK (c m : Str) (n : Nat) (F : Fn) (mo : ME) (mk : MA) : ME := fun e S => match mo e S with
  | some (.ref a, S1) => match S1[a]? with
    | some (.ins c' fs) => if c' = c ∧ fs.lookup m = none then (match mk e S1 with
      | some (ws, S2) => if ws.length = n then F (.ref a :: ws) S2 else none
      | none => none) else none
    | _ => none
  | _ => none
/-- C(e, ..), defaults behind -/
def mMakeD (c : Str) (n : Nat) (dws : List W) (F : Fn) (m : MA) : ME := fun e S => match m e S with
  | some (ws, S1) => if ws.length = n then (match F (.ref S1.length :: (ws ++ dws)) (S1 ++ [.ins c []]) with
    | some (.non, S2) => some (.ref S1.length, S2)
    | _ => none) else none
  | none => none
end Gm
namespace Gm
open PySem (Str)
/-- a def of which nothing is promised -/
def noF : Fn := fun _ _ => none
end Gm
namespace Gm
open PySem (Str)
/-- [m for .. in name.items() if ..], the dict not looked at meanwhile -/
def aItemsV (i : Nat) (g : MG) (t : MT) (m : ME) (vs : List Nat) : MA := fun e S => match e[i]? with
  | some (some (.ref a)) => match S[a]? with
    | some (.dct true kvs) => match compN (sFix (kvs.map fun kv => .tup [kv.1, kv.2])) g t m vs turns 0 [] e (S.set a .gone) with
      | some (ws, S2) => match S2[a]? with
        | some .gone => some (ws, S2.set a (.dct true kvs))
        | _ => none
      | none => none
    | _ => none
  | _ => none
end Gm
namespace Gm
open PySem (Str)
/-- a, b, c = x, y, z -/
def sPar3 (i j l : Nat) (m : MA) : MS := fun e S => match m e S with
  | some ([u, v, w], S1) => some (.nx (((e.set i (some u)).set j (some v)).set l (some w)), S1)
  | _ => none
end Gm

set_option Elab.async false
set_option linter.all false
set_option maxRecDepth 100000
set_option maxHeartbeats 2000000
/-! Gm1: the layer's judgements lifted to the plain functions of Gm0. -/
namespace Gm
open PySem PySem.Spec PyProof.Rows L2

/-! ### how a value, an object, a store lie in the layer's heap -/
section
variable (K : PySem.W.Frag) (mg : Str → Option Value)
/-- a list of the written part -/
def KL (a : Addr) (xs : List V) : Prop := ∃ (o : Obj) (its : Array Value) (n : Nat), K.lookup a = some o ∧ o.cls = .type "list" ∧ o.dict = none ∧ o.data = .seq its n ∧ its.size ≤ sizeLine ∧ Vals xs its.toList
/-- a tuple of the written part -/
def KT (a : Addr) (xs : List V) : Prop := ∃ (o : Obj) (its : Array Value) (n : Nat), K.lookup a = some o ∧ o.cls = .type "tuple" ∧ o.data = .seq its n ∧ its.size ≤ sizeLine ∧ Vals xs its.toList
/-- a list that never changes, or a tuple of the written part -/
def FrL (H : Hp) (a : Addr) (xs : List V) : Prop := (∃ o, H a = some (.frz o (.lst xs))) ∨ KL K a xs ∨ KT K a xs
theorem FrL.sq {K : PySem.W.Frag} {H : Hp} {a : Addr} {xs : List V} (h : FrL K H a xs) : SqL K H a xs ∨ SqT K H a xs := by
  rcases h with ⟨o, h⟩ | h | h
  · exact .inl (.inl (.inr ⟨o, h⟩))
  · exact .inl (.inr h)
  · exact .inr (.inr h)
mutual
def VR (r : Nat → Addr) (n : Nat) (H : Hp) : W → V → Prop
  | .non, v => v = .non
  | .bl b, v => v = .bl b
  | .int i, v => v = .int i
  | .str x, v => v = .str x
  | .tup ws, v => ∃ a vs, v = .ref a ∧ H a = some (.tup vs) ∧ VRs r n H ws vs
  | .cl ws, v => ∃ a vs, v = .ref a ∧ FrL K H a vs ∧ VRs r n H ws vs
  | .wt ws, v => ∃ a vs, v = .ref a ∧ KT K a vs ∧ VRs r n H ws vs
  | .ref i, v => i < n ∧ v = .ref (r i)
  | .glo x, v => ∃ a, v = .ref a ∧ mg x = some (.ref a)
def VRs (r : Nat → Addr) (n : Nat) (H : Hp) : List W → List V → Prop
  | [], vs => vs = []
  | w :: ws, vs => ∃ v us, vs = v :: us ∧ VR r n H w v ∧ VRs r n H ws us
end
def FR (r : Nat → Addr) (n : Nat) (H : Hp) : List (Str × W) → List (Str × V) → Prop
  | [], vs => vs = []
  | (f, w) :: ws, vs => ∃ v us, vs = (f, v) :: us ∧ VR K mg r n H w v ∧ FR r n H ws us
def keyOf : W → Option Key
  | .int i => some (.inl i)
  | .str x => some (.inr x)
  | _ => none
def keysOf : List W → Option (List Key)
  | [] => some []
  | w :: ws => match keyOf w, keysOf ws with
    | some k, some ks => some (k :: ks)
    | _, _ => none
def tkeyOf : W → Option (List Key)
  | .tup ws => keysOf ws
  | _ => none
def KR {κ : Type} (ko : W → Option κ) (r : Nat → Addr) (n : Nat) (H : Hp) : List (W × W) → List (κ × V) → Prop
  | [], vs => vs = []
  | (k, w) :: ws, vs => ∃ q v us, vs = (q, v) :: us ∧ ko k = some q ∧ VR K mg r n H w v ∧ KR ko r n H ws us
def OR (r : Nat → Addr) (n : Nat) (H : Hp) : Ob → HO → Prop
  | .lst ws, ho => ∃ vs, ho = .lst vs ∧ VRs K mg r n H ws vs
  | .dct false kvs, ho => ∃ ks, ho = .dK ks ∧ KR K mg keyOf r n H kvs ks
  | .dct true kvs, ho => ∃ ks, ho = .dT ks ∧ KR K mg tkeyOf r n H kvs ks
  | .gone, _ => True
  | .ins c fs, ho => ∃ C dx us, ho = .ins C dx us ∧ mg c = some (.ref C) ∧ FR K mg r n H fs us
structure Rep (r : Nat → Addr) (S : Store) (H : Hp) : Prop where
  ob : ∀ i o, S[i]? = some o → ∃ ho, H (r i) = some ho ∧ OR K mg r S.length H o ho
  inj : ∀ i j, i < S.length → j < S.length → r i = r j → i = j
/-- what stays -/
structure Keep (H H' : Hp) : Prop where
  tups : ∀ a xs, H a = some (.tup xs) → H' a = some (.tup xs)
  frzs : ∀ a o u, H a = some (.frz o u) → H' a = some (.frz o u)
structure Ex (r : Nat → Addr) (n : Nat) (H : Hp) (r' : Nat → Addr) (n' : Nat) (H' : Hp) : Prop where
  ag : ∀ i, i < n → r' i = r i
  le : n ≤ n'
  kp : Keep H H'
  un : ∀ a o, H a = some o → (∀ i, i < n → r i ≠ a) → H' a = some o
  fr : ∀ i, n ≤ i → i < n' → H (r' i) = none
  th : ∀ a, H' a = none → H a = none
end
section
variable {K : PySem.W.Frag} {mg : Str → Option Value} {r r' r'' : Nat → Addr} {n n' n'' : Nat} {H H' H'' : Hp} {S S' : Store}
theorem Keep.refl (H : Hp) : Keep H H := ⟨fun _ _ h => h, fun _ _ _ h => h⟩
theorem Keep.trans (a : Keep H H') (b : Keep H' H'') : Keep H H'' := ⟨fun x xs h => b.tups x xs (a.tups x xs h), fun x o u h => b.frzs x o u (a.frzs x o u h)⟩
theorem Ex.refl : Ex r n H r n H := ⟨fun _ _ => rfl, Nat.le_refl _, Keep.refl H, fun _ _ h _ => h, fun i h1 h2 => absurd h2 (Nat.not_lt.mpr h1), fun _ h => h⟩
/-- what the store does not name, it does not name later -/
theorem Ex.out (x : Ex r n H r' n' H') {a : Addr} {o : HO} (h : H a = some o) (hn : ∀ i, i < n → r i ≠ a) : ∀ i, i < n' → r' i ≠ a := fun i hi e => by
  by_cases hl : i < n
  · rw [x.ag i hl] at e
    exact hn i hl e
  · have q := x.fr i (Nat.le_of_not_lt hl) hi
    rw [e, h] at q
    cases q
theorem Ex.trans (a : Ex r n H r' n' H') (b : Ex r' n' H' r'' n'' H'') : Ex r n H r'' n'' H'' :=
  ⟨fun i hi => (b.ag i (Nat.lt_of_lt_of_le hi a.le)).trans (a.ag i hi), Nat.le_trans a.le b.le, a.kp.trans b.kp, fun c o h hn => b.un c o (a.un c o h hn) (a.out h hn),
    fun i h1 h2 => by
      by_cases hl : i < n'
      · rw [b.ag i hl]
        exact a.fr i h1 hl
      · exact a.th _ (b.fr i (Nat.le_of_not_lt hl) h2),
    fun c h => a.th c (b.th c h)⟩
/-- what mono asks -/
structure Ex0 (r : Nat → Addr) (n : Nat) (H : Hp) (r' : Nat → Addr) (n' : Nat) (H' : Hp) : Prop where
  ag : ∀ i, i < n → r' i = r i
  le : n ≤ n'
  kp : Keep H H'
theorem Ex.e0 (x : Ex r n H r' n' H') : Ex0 r n H r' n' H' := ⟨x.ag, x.le, x.kp⟩
/-- what the values ask -/
structure Keep0 (H H' : Hp) : Prop where
  tups : ∀ a xs, H a = some (.tup xs) → H' a = some (.tup xs)
  frzs : ∀ a o xs, H a = some (.frz o (.lst xs)) → H' a = some (.frz o (.lst xs))
structure Ex1 (r : Nat → Addr) (n : Nat) (H : Hp) (r' : Nat → Addr) (n' : Nat) (H' : Hp) : Prop where
  ag : ∀ i, i < n → r' i = r i
  le : n ≤ n'
  kp : Keep0 H H'
theorem Keep.k0 (k : Keep H H') : Keep0 H H' := ⟨k.tups, fun a o xs h => k.frzs a o _ h⟩
theorem Ex0.e1 (x : Ex0 r n H r' n' H') : Ex1 r n H r' n' H' := ⟨x.ag, x.le, x.kp.k0⟩
theorem Keep.t {a : Addr} {xs : List V} (k : Keep H H') (h : SqT K H a xs) : SqT K H' a xs := by
  rcases h with (h | ⟨o, h⟩) | h
  · exact .inl (.inl (k.tups _ _ h))
  · exact .inl (.inr ⟨o, k.frzs _ _ _ h⟩)
  · exact .inr h
theorem Keep0.f {a : Addr} {xs : List V} (k : Keep0 H H') (h : FrL K H a xs) : FrL K H' a xs := by
  rcases h with ⟨o, h⟩ | h
  · exact .inl ⟨o, k.frzs _ _ _ h⟩
  · exact .inr h
mutual
theorem VR.mono1 (x : Ex1 r n H r' n' H') : ∀ (w : W) (v : V), VR K mg r n H w v → VR K mg r' n' H' w v
  | .non, v, h => by simpa [VR] using h
  | .bl b, v, h => by simpa [VR] using h
  | .int i, v, h => by simpa [VR] using h
  | .str y, v, h => by simpa [VR] using h
  | .tup ws, v, h => by
    unfold VR at h ⊢
    obtain ⟨a, vs, e, h1, h2⟩ := h
    exact ⟨a, vs, e, x.kp.tups _ _ h1, VRs.mono1 x ws vs h2⟩
  | .cl ws, v, h => by
    unfold VR at h ⊢
    obtain ⟨a, vs, e, h1, h2⟩ := h
    exact ⟨a, vs, e, x.kp.f h1, VRs.mono1 x ws vs h2⟩
  | .wt ws, v, h => by
    unfold VR at h ⊢
    obtain ⟨a, vs, e, h1, h2⟩ := h
    exact ⟨a, vs, e, h1, VRs.mono1 x ws vs h2⟩
  | .ref i, v, h => by
    unfold VR at h ⊢
    exact ⟨Nat.lt_of_lt_of_le h.1 x.le, by rw [x.ag i h.1]; exact h.2⟩
  | .glo y, v, h => by simpa [VR] using h
theorem VRs.mono1 (x : Ex1 r n H r' n' H') : ∀ (ws : List W) (vs : List V), VRs K mg r n H ws vs → VRs K mg r' n' H' ws vs
  | [], vs, h => by simpa [VRs] using h
  | w :: ws, vs, h => by
    unfold VRs at h ⊢
    obtain ⟨v, us, e, h1, h2⟩ := h
    exact ⟨v, us, e, VR.mono1 x w v h1, VRs.mono1 x ws us h2⟩
end
theorem VR.mono0 (x : Ex0 r n H r' n' H') (w : W) (v : V) (h : VR K mg r n H w v) : VR K mg r' n' H' w v := VR.mono1 x.e1 w v h
theorem VRs.mono0 (x : Ex0 r n H r' n' H') (ws : List W) (vs : List V) (h : VRs K mg r n H ws vs) : VRs K mg r' n' H' ws vs := VRs.mono1 x.e1 ws vs h
theorem VR.mono (x : Ex r n H r' n' H') (w : W) (v : V) (h : VR K mg r n H w v) : VR K mg r' n' H' w v := VR.mono0 x.e0 w v h
theorem VRs.mono (x : Ex r n H r' n' H') (ws : List W) (vs : List V) (h : VRs K mg r n H ws vs) : VRs K mg r' n' H' ws vs := VRs.mono0 x.e0 ws vs h
theorem FR.mono1 (x : Ex1 r n H r' n' H') : ∀ (ws : List (Str × W)) (vs : List (Str × V)), FR K mg r n H ws vs → FR K mg r' n' H' ws vs
  | [], vs, h => by simpa [FR] using h
  | (f, w) :: ws, vs, h => by
    unfold FR at h ⊢
    obtain ⟨v, us, e, h1, h2⟩ := h
    exact ⟨v, us, e, VR.mono1 x w v h1, FR.mono1 x ws us h2⟩
theorem KR.mono1 {κ : Type} {ko : W → Option κ} (x : Ex1 r n H r' n' H') : ∀ (ws : List (W × W)) (vs : List (κ × V)), KR K mg ko r n H ws vs → KR K mg ko r' n' H' ws vs
  | [], vs, h => by simpa [KR] using h
  | (f, w) :: ws, vs, h => by
    unfold KR at h ⊢
    obtain ⟨q, v, us, e, h0, h1, h2⟩ := h
    exact ⟨q, v, us, e, h0, VR.mono1 x w v h1, KR.mono1 x ws us h2⟩
theorem OR.mono1 (x : Ex1 r n H r' n' H') {o : Ob} {ho : HO} (h : OR K mg r n H o ho) : OR K mg r' n' H' o ho := by
  cases o with
  | lst ws =>
    obtain ⟨vs, e, h⟩ := h
    exact ⟨vs, e, VRs.mono1 x _ _ h⟩
  | dct t kvs =>
    cases t <;>
    · obtain ⟨ks, e, h⟩ := h
      exact ⟨ks, e, KR.mono1 x _ _ h⟩
  | gone => exact True.intro
  | ins c fs =>
    obtain ⟨C, dx, us, e, e2, h⟩ := h
    exact ⟨C, dx, us, e, e2, FR.mono1 x _ _ h⟩
theorem FR.mono0 (x : Ex0 r n H r' n' H') (ws : List (Str × W)) (vs : List (Str × V)) (h : FR K mg r n H ws vs) : FR K mg r' n' H' ws vs := FR.mono1 x.e1 ws vs h
theorem KR.mono0 {κ : Type} {ko : W → Option κ} (x : Ex0 r n H r' n' H') (ws : List (W × W)) (vs : List (κ × V)) (h : KR K mg ko r n H ws vs) : KR K mg ko r' n' H' ws vs := KR.mono1 x.e1 ws vs h
theorem OR.mono0 (x : Ex0 r n H r' n' H') {o : Ob} {ho : HO} (h : OR K mg r n H o ho) : OR K mg r' n' H' o ho := OR.mono1 x.e1 h
theorem OR.mono (x : Ex r n H r' n' H') {o : Ob} {ho : HO} (h : OR K mg r n H o ho) : OR K mg r' n' H' o ho := OR.mono0 x.e0 h
theorem OR.monoK (kp : Keep H H') {o : Ob} {ho : HO} (h : OR K mg r n H o ho) : OR K mg r n H' o ho := OR.mono0 ⟨fun _ _ => rfl, Nat.le_refl _, kp⟩ h
theorem FR.mono (x : Ex r n H r' n' H') (ws : List (Str × W)) (vs : List (Str × V)) (h : FR K mg r n H ws vs) : FR K mg r' n' H' ws vs := FR.mono0 x.e0 ws vs h
theorem KR.mono {κ : Type} {ko : W → Option κ} (x : Ex r n H r' n' H') (ws : List (W × W)) (vs : List (κ × V)) (h : KR K mg ko r n H ws vs) : KR K mg ko r' n' H' ws vs := KR.mono0 x.e0 ws vs h
theorem VRs.length : ∀ {ws : List W} {vs : List V}, VRs K mg r n H ws vs → ws.length = vs.length
  | [], vs, h => by
    unfold VRs at h
    subst h
    rfl
  | w :: ws, vs, h => by
    unfold VRs at h
    obtain ⟨v, us, e, _, h2⟩ := h
    rw [e, List.length_cons, List.length_cons, VRs.length h2]
theorem VRs.get : ∀ {ws : List W} {vs : List V} {i : Nat} {w : W}, VRs K mg r n H ws vs → ws[i]? = some w → ∃ v, vs[i]? = some v ∧ VR K mg r n H w v
  | [], vs, i, w, h, e => by simp at e
  | x :: ws, vs, 0, w, h, e => by
    unfold VRs at h
    obtain ⟨v, us, e1, h1, _⟩ := h
    have e2 : x = w := by simpa using e
    subst e1 e2
    exact ⟨v, rfl, h1⟩
  | x :: ws, vs, i + 1, w, h, e => by
    unfold VRs at h
    obtain ⟨v, us, e1, _, h2⟩ := h
    obtain ⟨u, q1, q2⟩ := VRs.get (i := i) h2 (by simpa using e)
    subst e1
    exact ⟨u, by simpa using q1, q2⟩
theorem VRs.append : ∀ {ws xs : List W} {vs us : List V}, VRs K mg r n H ws vs → VRs K mg r n H xs us → VRs K mg r n H (ws ++ xs) (vs ++ us)
  | [], xs, vs, us, h, h' => by
    unfold VRs at h
    rw [h]
    exact h'
  | w :: ws, xs, vs, us, h, h' => by
    unfold VRs at h
    obtain ⟨v, vr, e1, h1, h2⟩ := h
    subst e1
    show VRs K mg r n H (w :: (ws ++ xs)) (v :: (vr ++ us))
    unfold VRs
    exact ⟨v, vr ++ us, rfl, h1, VRs.append h2 h'⟩
theorem VRs.cons {w : W} {ws : List W} {v : V} {vs : List V} (h : VR K mg r n H w v) (h' : VRs K mg r n H ws vs) : VRs K mg r n H (w :: ws) (v :: vs) := by
  unfold VRs
  exact ⟨v, vs, rfl, h, h'⟩
theorem VRs.nil : VRs K mg r n H [] [] := by
  unfold VRs
  rfl
theorem VRs.set : ∀ {ws : List W} {vs : List V} {w : W} {v : V} (i : Nat), VRs K mg r n H ws vs → VR K mg r n H w v → VRs K mg r n H (ws.set i w) (vs.set i v)
  | [], vs, w, v, i, h, _ => by
    unfold VRs at h
    rw [h]
    exact VRs.nil
  | x :: ws, vs, w, v, 0, h, h' => by
    unfold VRs at h
    obtain ⟨y, us, e1, h1, h2⟩ := h
    subst e1
    exact VRs.cons h' h2
  | x :: ws, vs, w, v, i + 1, h, h' => by
    unfold VRs at h
    obtain ⟨y, us, e1, h1, h2⟩ := h
    subst e1
    exact VRs.cons h1 (VRs.set i h2 h')
theorem FR.look : ∀ {fs : List (Str × W)} {us : List (Str × V)} {f : Str} {w : W}, FR K mg r n H fs us → fs.lookup f = some w → ∃ v, us.lookup f = some v ∧ VR K mg r n H w v
  | [], us, f, w, h, e => by simp at e
  | (g, x) :: fs, us, f, w, h, e => by
    unfold FR at h
    obtain ⟨v, vs, e1, h1, h2⟩ := h
    subst e1
    rw [List.lookup_cons] at e ⊢
    cases hb : f == g with
    | true =>
      rw [hb] at e
      have e2 : x = w := Option.some.inj e
      subst e2
      exact ⟨v, rfl, h1⟩
    | false =>
      rw [hb] at e
      exact FR.look h2 e
theorem FR.look0 : ∀ {fs : List (Str × W)} {us : List (Str × V)} {f : Str}, FR K mg r n H fs us → fs.lookup f = none → us.lookup f = none
  | [], us, f, h, e => by
    unfold FR at h
    rw [h]
    rfl
  | (g, x) :: fs, us, f, h, e => by
    unfold FR at h
    obtain ⟨v, vs, e1, h1, h2⟩ := h
    subst e1
    rw [List.lookup_cons] at e ⊢
    cases hb : f == g with
    | true =>
      rw [hb] at e
      cases e
    | false =>
      rw [hb] at e
      exact FR.look0 h2 e
theorem FR.length : ∀ {fs : List (Str × W)} {us : List (Str × V)}, FR K mg r n H fs us → fs.length = us.length
  | [], us, h => by
    unfold FR at h
    rw [h]
    rfl
  | (g, x) :: fs, us, h => by
    unfold FR at h
    obtain ⟨v, vs, e1, h1, h2⟩ := h
    subst e1
    rw [List.length_cons, List.length_cons, FR.length h2]
theorem FR.put : ∀ {fs : List (Str × W)} {us : List (Str × V)} {f : Str} {w : W} {v : V}, FR K mg r n H fs us → VR K mg r n H w v → FR K mg r n H (putF f w fs) (L2.putF f v us)
  | [], us, f, w, v, h, h' => by
    unfold FR at h
    subst h
    show FR K mg r n H [(f, w)] [(f, v)]
    unfold FR
    exact ⟨v, [], rfl, h', by unfold FR; rfl⟩
  | (g, x) :: fs, us, f, w, v, h, h' => by
    unfold FR at h
    obtain ⟨y, vs, e1, h1, h2⟩ := h
    subst e1
    unfold putF L2.putF
    by_cases e : g = f
    · rw [if_pos e, if_pos e]
      unfold FR
      exact ⟨v, vs, rfl, h', h2⟩
    · rw [if_neg e, if_neg e]
      unfold FR
      exact ⟨y, _, rfl, h1, FR.put h2 h'⟩

/-! ### the store changes -/
theorem Rep.at (R : Rep K mg r S H) {i : Nat} {o : Ob} (h : S[i]? = some o) : ∃ ho, H (r i) = some ho ∧ OR K mg r S.length H o ho := R.ob i o h
theorem Rep.lst (R : Rep K mg r S H) {i : Nat} {ws : List W} (h : S[i]? = some (.lst ws)) : ∃ vs, H (r i) = some (.lst vs) ∧ VRs K mg r S.length H ws vs := by
  obtain ⟨ho, h1, vs, e, h2⟩ := R.ob i _ h
  subst e
  exact ⟨vs, h1, h2⟩
theorem Rep.ins (R : Rep K mg r S H) {i : Nat} {c : Str} {fs : List (Str × W)} (h : S[i]? = some (.ins c fs)) : ∃ C dx us, H (r i) = some (.ins C dx us) ∧ mg c = some (.ref C) ∧ FR K mg r S.length H fs us := by
  obtain ⟨ho, h1, C, dx, us, e, h2, h3⟩ := R.ob i _ h
  subst e
  exact ⟨C, dx, us, h1, h2, h3⟩
/-- a mutable object of the layer: what is stored there changes nothing that must stay -/
def MutO : HO → Prop
  | .tup _ => False
  | .frz _ _ => False
  | _ => True
theorem Keep.wr {a : Addr} {ho ho' : HO} (h : H a = some ho) (m : MutO ho) : Keep H (upd H a ho') := by
  refine ⟨fun b xs e => ?_, fun b o u e => ?_⟩
  · by_cases hb : b = a
    · subst hb
      rw [h] at e
      cases e
      exact m.elim
    · rw [upd_ne hb]
      exact e
  · by_cases hb : b = a
    · subst hb
      rw [h] at e
      cases e
      exact m.elim
    · rw [upd_ne hb]
      exact e
theorem Keep.new {a : Addr} {ho : HO} (h : H a = none) : Keep H (upd H a ho) :=
  ⟨fun b xs e => by rw [upd_ne (ne_of_none e h)]; exact e, fun b o u e => by rw [upd_ne (ne_of_none e h)]; exact e⟩
theorem OR.mut {o : Ob} {ho : HO} (h : OR K mg r n H o ho) (hn : o ≠ .gone) : MutO ho := by
  cases o with
  | lst ws =>
    obtain ⟨vs, e, _⟩ := h
    subst e
    exact True.intro
  | dct t kvs =>
    cases t <;> (obtain ⟨ks, e, _⟩ := h; subst e; exact True.intro)
  | gone => exact (hn rfl).elim
  | ins c fs =>
    obtain ⟨C, dx, us, e, _⟩ := h
    subst e
    exact True.intro
theorem Rep.set (R : Rep K mg r S H) {i : Nat} {o o' : Ob} {ho' : HO} (h : S[i]? = some o) (h' : OR K mg r S.length H o' ho') (hn : o ≠ .gone := by intro h; cases h) :
    Rep K mg r (S.set i o') (upd H (r i) ho') ∧ Ex r S.length H r (S.set i o').length (upd H (r i) ho') := by
  obtain ⟨ho, h1, h2⟩ := R.ob i o h
  have hi : i < S.length := (List.getElem?_eq_some_iff.mp h).1
  have x : Ex r S.length H r (S.set i o').length (upd H (r i) ho') := ⟨fun _ _ => rfl, by rw [List.length_set]; exact Nat.le_refl _, Keep.wr h1 (h2.mut hn),
    fun a u e hn => by rw [upd_ne (fun z => hn i hi z.symm)]; exact e, fun j g1 g2 => by rw [List.length_set] at g2; exact absurd g2 (Nat.not_lt.mpr g1),
    fun a e => by
      by_cases z : a = r i
      · rw [z, upd_same] at e
        cases e
      · rw [upd_ne z] at e
        exact e⟩
  refine ⟨⟨fun j u hj => ?_, fun j k hj hk e => ?_⟩, x⟩
  · by_cases e : j = i
    · subst e
      rw [List.getElem?_set_self hi] at hj
      cases hj
      exact ⟨ho', upd_same, h'.mono x⟩
    · rw [List.getElem?_set_ne (Ne.symm e)] at hj
      obtain ⟨hu, g1, g2⟩ := R.ob j u hj
      have hjl : j < S.length := (List.getElem?_eq_some_iff.mp hj).1
      exact ⟨hu, by rw [upd_ne fun z => e (R.inj j i hjl hi z)]; exact g1, g2.mono x⟩
  · rw [List.length_set] at hj hk
    exact R.inj j k hj hk e
theorem upd_none {p a : Addr} {ho : HO} (e : L2.upd H p ho a = none) : H a = none := by
  by_cases z : a = p
  · rw [z, upd_same] at e
    cases e
  · rw [upd_ne z] at e
    exact e
/-- one address more -/
def ext (r : Nat → Addr) (n : Nat) (p : Addr) : Nat → Addr := fun i => if i = n then p else r i
theorem ext_lt {p : Addr} {i : Nat} (h : i < n) : ext r n p i = r i := by
  unfold ext
  rw [if_neg (Nat.ne_of_lt h)]
theorem ext_eq {p : Addr} : ext r n p n = p := by
  unfold ext
  rw [if_pos rfl]
/-- what is in the layer's heap besides may grow -/
theorem Rep.more (R : Rep K mg r S H) (k : ∀ i ho, i < S.length → H (r i) = some ho → H' (r i) = some ho) (kp : Keep H H') : Rep K mg r S H' :=
  ⟨fun i o h => by
    obtain ⟨ho, h1, h2⟩ := R.ob i o h
    exact ⟨ho, k i ho (List.getElem?_eq_some_iff.mp h).1 h1, h2.monoK kp⟩, R.inj⟩
theorem Rep.new (R : Rep K mg r S H) {p : Addr} {o : Ob} {ho : HO} (hp : H p = none) (h : OR K mg r S.length H o ho) :
    Rep K mg (ext r S.length p) (S ++ [o]) (upd H p ho) ∧ Ex r S.length H (ext r S.length p) (S ++ [o]).length (upd H p ho) := by
  have x : Ex r S.length H (ext r S.length p) (S ++ [o]).length (upd H p ho) := ⟨fun i hi => ext_lt hi, by rw [List.length_append]; exact Nat.le_add_right _ _, Keep.new hp,
    fun a u e hn => by rw [upd_ne (ne_of_none e hp)]; exact e,
    fun j g1 g2 => by
      rw [List.length_append, List.length_singleton] at g2
      have : j = S.length := by omega
      rw [this, ext_eq]
      exact hp,
    fun a e => upd_none e⟩
  have np : ∀ i, i < S.length → r i ≠ p := fun i hi e => by
    obtain ⟨hu, g1, _⟩ := R.ob i _ (List.getElem?_eq_getElem hi)
    rw [e, hp] at g1
    cases g1
  refine ⟨⟨fun i u hi => ?_, fun i j hi hj e => ?_⟩, x⟩
  · by_cases hl : i < S.length
    · rw [List.getElem?_append_left hl] at hi
      obtain ⟨hu, g1, g2⟩ := R.ob i u hi
      exact ⟨hu, by rw [ext_lt hl, upd_ne (np i hl)]; exact g1, g2.mono x⟩
    · rw [List.getElem?_append_right (Nat.le_of_not_lt hl)] at hi
      have h0 : i - S.length = 0 := by
        by_cases z : i - S.length = 0
        · exact z
        · rw [List.getElem?_eq_none (by simp; omega)] at hi
          cases hi
      have hi2 : i = S.length := by omega
      subst hi2
      rw [h0] at hi
      cases hi
      exact ⟨ho, by rw [ext_eq]; exact upd_same, h.mono x⟩
  · rw [List.length_append, List.length_singleton] at hi hj
    by_cases a : i < S.length
    · by_cases b : j < S.length
      · rw [ext_lt a, ext_lt b] at e
        exact R.inj i j a b e
      · have hj2 : j = S.length := by omega
        subst hj2
        rw [ext_lt a, ext_eq] at e
        exact (np i a e).elim
    · have hi2 : i = S.length := by omega
      subst hi2
      by_cases b : j < S.length
      · rw [ext_lt b, ext_eq] at e
        exact (np j b e.symm).elim
      · omega
/-- something new that the store does not name -/
theorem Rep.junk (R : Rep K mg r S H) {p : Addr} {ho : HO} (hp : H p = none) : Rep K mg r S (upd H p ho) ∧ Ex r S.length H r S.length (upd H p ho) := by
  refine ⟨R.more (fun i hu hi e => ?_) (Keep.new hp), fun _ _ => rfl, Nat.le_refl _, Keep.new hp, fun a u e hn => by rw [upd_ne (ne_of_none e hp)]; exact e, fun j g1 g2 => absurd g2 (Nat.not_lt.mpr g1), fun a e => upd_none e⟩
  rw [upd_ne (ne_of_none e hp)]
  exact e

/-! ### the names' values -/
structure Ok (K : PySem.W.Frag) (mg : Str → Option Value) (r : Nat → Addr) (S : Store) (e : Env) (σ : L2.St) (H : Hp) : Prop where
  rep : Rep K mg r S H
  len : e.length = σ.length
  var : ∀ (i : Nat) (w : W), e[i]? = some (some w) → ∃ v, σ[i]? = some (some v) ∧ VR K mg r S.length H w v
theorem Ok.mono {e : Env} {σ : L2.St} (k : Ok K mg r S e σ H) (x : Ex r S.length H r' S'.length H') (R : Rep K mg r' S' H') : Ok K mg r' S' e σ H' :=
  ⟨R, k.len, fun i w h => by
    obtain ⟨v, h1, h2⟩ := k.var i w h
    exact ⟨v, h1, VR.mono x _ _ h2⟩⟩
theorem Ok.mono0 {e : Env} {σ : L2.St} (k : Ok K mg r S e σ H) (x : Ex0 r S.length H r' S'.length H') (R : Rep K mg r' S' H') : Ok K mg r' S' e σ H' :=
  ⟨R, k.len, fun i w h => by
    obtain ⟨v, h1, h2⟩ := k.var i w h
    exact ⟨v, h1, VR.mono0 x _ _ h2⟩⟩
theorem Ok.set {e : Env} {σ : L2.St} (k : Ok K mg r S e σ H) {w : W} {v : V} (i : Nat) (h : VR K mg r S.length H w v) : Ok K mg r S (e.set i (some w)) (σ.set i (some v)) H := by
  refine ⟨k.rep, by rw [List.length_set, List.length_set]; exact k.len, fun j u hj => ?_⟩
  by_cases z : i = j
  · subst z
    by_cases hi : i < e.length
    · rw [List.getElem?_set_self hi] at hj
      cases hj
      exact ⟨v, List.getElem?_set_self (by rw [← k.len]; exact hi), h⟩
    · rw [List.getElem?_eq_none (by rw [List.length_set]; exact Nat.le_of_not_lt hi)] at hj
      cases hj
  · rw [List.getElem?_set_ne z] at hj ⊢
    exact k.var j u hj
theorem Ok.unset {e : Env} {σ : L2.St} (k : Ok K mg r S e σ H) (i : Nat) : Ok K mg r S (e.set i none) (σ.set i none) H := by
  refine ⟨k.rep, by rw [List.length_set, List.length_set]; exact k.len, fun j u hj => ?_⟩
  by_cases z : i = j
  · subst z
    by_cases hi : i < e.length
    · rw [List.getElem?_set_self hi] at hj
      cases hj
    · rw [List.getElem?_eq_none (by rw [List.length_set]; exact Nat.le_of_not_lt hi)] at hj
      cases hj
  · rw [List.getElem?_set_ne z] at hj ⊢
    exact k.var j u hj
theorem Ok.wipe {e : Env} {σ : L2.St} (k : Ok K mg r S e σ H) : ∀ vs : List Nat, Ok K mg r S (wipe e vs) (L2.wipe σ vs) H
  | [] => k
  | v :: vs => (Ok.wipe k vs).unset v
end

/-! ### the readings of the plain functions -/
section
variable (K : PySem.W.Frag) (mg : Str → Option Value)
def LfE (m : ME) : TE := fun σ H Q => ∃ r S e w S', Ok K mg r S e σ H ∧ m e S = some (w, S') ∧ ∀ r' H' u, Ex r S.length H r' S'.length H' → Ok K mg r' S' e σ H' → VR K mg r' S'.length H' w u → Q u H'
def LfT (m : MT) : TT := fun σ H Q => ∃ r S e b S', Ok K mg r S e σ H ∧ m e S = some (b, S') ∧ ∀ r' H', Ex r S.length H r' S'.length H' → Ok K mg r' S' e σ H' → Q b H'
def LfA (m : MA) : TA := fun σ H Q => ∃ r S e ws S', Ok K mg r S e σ H ∧ m e S = some (ws, S') ∧ ∀ r' H' us, Ex r S.length H r' S'.length H' → Ok K mg r' S' e σ H' → VRs K mg r' S'.length H' ws us → Q us H'
/-- a new list that the store does not name, of these values -/
def LfL (m : MA) : TE := fun σ H Q => ∃ r S e ws S', Ok K mg r S e σ H ∧ m e S = some (ws, S') ∧ ∀ r' H' p us, Ex r S.length H r' S'.length H' → Ok K mg r' S' e σ H' → (∀ i, i < S'.length → r' i ≠ p) → H p = none → H' p = some (.lst us) → VRs K mg r' S'.length H' ws us → Q (.ref p) H'
def FlQ (r : Nat → Addr) (n : Nat) (H : Hp) (S' : Store) (D : Ends) : Fl → Prop
  | .nx e' => ∀ r' H' σ', Ex r n H r' S'.length H' → Ok K mg r' S' e' σ' H' → D.nx σ' H'
  | .bk e' => ∀ r' H' σ', Ex r n H r' S'.length H' → Ok K mg r' S' e' σ' H' → D.bk σ' H'
  | .ct e' => ∀ r' H' σ', Ex r n H r' S'.length H' → Ok K mg r' S' e' σ' H' → D.ct σ' H'
  | .rt w => ∀ r' H' u, Ex r n H r' S'.length H' → Rep K mg r' S' H' → VR K mg r' S'.length H' w u → D.rt u H'
def LfS (m : MS) : TS := fun D σ H => ∃ r S e f S', Ok K mg r S e σ H ∧ m e S = some (f, S') ∧ FlQ K mg r S.length H S' D f
def LfG (m : MG) : TG := fun v σ H Q => ∃ r S e w e' S', Ok K mg r S e σ H ∧ VR K mg r S.length H w v ∧ m w e S = some (e', S') ∧ ∀ r' H' σ', Ex r S.length H r' S'.length H' → Ok K mg r' S' e' σ' H' → Q σ' H'
def LfGs (m : List W → Env → Store → R Env) : TGs := fun vs σ H Q => ∃ r S e ws e' S', Ok K mg r S e σ H ∧ VRs K mg r S.length H ws vs ∧ m ws e S = some (e', S') ∧ ∀ r' H' σ', Ex r S.length H r' S'.length H' → Ok K mg r' S' e' σ' H' → Q σ' H'
/-- a def's promise: what the plain function does -/
def LfF (n : Nat) (F : Fn) : Sp := fun vs H Q _ => ∃ r S ws w S', Rep K mg r S H ∧ VRs K mg r S.length H ws vs ∧ ws.length = n ∧ F ws S = some (w, S') ∧ ∀ r' H' u, Ex r S.length H r' S'.length H' → Rep K mg r' S' H' → VR K mg r' S'.length H' w u → Q u H'
end
theorem FlQ.pre {K : PySem.W.Frag} {mg : Str → Option Value} {r r1 : Nat → Addr} {n n1 : Nat} {H H1 : Hp} {S' : Store} {D : Ends} {f : Fl} (h : FlQ K mg r n H S' D f) (x : Ex r n H r1 n1 H1) : FlQ K mg r1 n1 H1 S' D f := by
  cases f with
  | nx e => exact fun r' H' σ' y k => h r' H' σ' (x.trans y) k
  | bk e => exact fun r' H' σ' y k => h r' H' σ' (x.trans y) k
  | ct e => exact fun r' H' σ' y k => h r' H' σ' (x.trans y) k
  | rt w => exact fun r' H' u y k => h r' H' u (x.trans y) k

section
variable {X : Cx} {e : Expr} {es : List Expr} {st : Stmt} {sts : List Stmt}
theorem PEi {t t' : TE} (h : PE X e t) (k : ∀ σ H Q, t' σ H Q → t σ H Q) : PE X e t' := ⟨fun pins s σ H Q I q => h.run pins s σ H Q I (k σ H Q q)⟩
theorem PTi {t t' : TT} (h : PT X e t) (k : ∀ σ H Q, t' σ H Q → t σ H Q) : PT X e t' := ⟨fun pins s σ H Q I q => h.run pins s σ H Q I (k σ H Q q)⟩
theorem PWi {t t' : TT} (h : PW X e t) (k : ∀ σ H Q, t' σ H Q → t σ H Q) : PW X e t' := ⟨fun wh pins s σ H Q I q => h.run wh pins s σ H Q I (k σ H Q q)⟩
theorem PAi {t t' : TA} (h : PA X es t) (k : ∀ σ H Q, t' σ H Q → t σ H Q) : PA X es t' := ⟨fun pos pins s σ H Q I q => h.run pos pins s σ H Q I (k σ H Q q)⟩
theorem PSi {t t' : TS} (h : PS X st t) (k : ∀ D σ H, t' D σ H → t D σ H) : PS X st t' := ⟨fun pins s σ H D I q => h.run pins s σ H D I (k D σ H q)⟩
theorem PSsi {t t' : TS} (h : PSs X sts t) (k : ∀ D σ H, t' D σ H → t D σ H) : PSs X sts t' := ⟨fun pins s σ H D I q => h.run pins s σ H D I (k D σ H q)⟩
theorem PGi {t t' : TG} (h : PG X e t) (k : ∀ v σ H Q, t' v σ H Q → t v σ H Q) : PG X e t' := ⟨fun pins s σ H v u Q I r q => h.run pins s σ H v u Q I r (k v σ H Q q)⟩
theorem PGsi {t t' : TGs} (h : PGs X es t) (k : ∀ v σ H Q, t' v σ H Q → t v σ H Q) : PGs X es t' := ⟨fun pins s σ H v u Q I r q => h.run pins s σ H v u Q I r (k v σ H Q q)⟩
theorem PTsi {t t' : TT} (h : PTs X es t) (k : ∀ σ H Q, t' σ H Q → t σ H Q) : PTs X es t' := ⟨fun pins s σ H Q I q => h.run pins s σ H Q I (k σ H Q q)⟩
end
abbrev XE (X : Cx) (e : Expr) (m : ME) : Prop := PE X e (LfE X.K X.mg m)
abbrev XT (X : Cx) (e : Expr) (m : MT) : Prop := PT X e (LfT X.K X.mg m)
abbrev XW (X : Cx) (e : Expr) (m : MT) : Prop := PW X e (LfT X.K X.mg m)
abbrev XA (X : Cx) (es : List Expr) (m : MA) : Prop := PA X es (LfA X.K X.mg m)
abbrev XL (X : Cx) (e : Expr) (m : MA) : Prop := PE X e (LfL X.K X.mg m)
abbrev XS (X : Cx) (st : Stmt) (m : MS) : Prop := PS X st (LfS X.K X.mg m)
abbrev XSs (X : Cx) (st : List Stmt) (m : MS) : Prop := PSs X st (LfS X.K X.mg m)
abbrev XG (X : Cx) (e : Expr) (m : MG) : Prop := PG X e (LfG X.K X.mg m)
abbrev XGs (X : Cx) (es : List Expr) (m : List W → Env → Store → R Env) : Prop := PGs X es (LfGs X.K X.mg m)
end Gm

set_option Elab.async false
set_option linter.all false
set_option maxRecDepth 100000
set_option maxHeartbeats 2000000
/-! Gm2: the rules for expressions, tests, statements, loops, defs, over the plain functions. -/
namespace Gm
open PySem PySem.Spec PyProof.Rows L2
section
variable {K : PySem.W.Frag} {mg : Str → Option Value} {r r' : Nat → Addr} {n n' : Nat} {H H' : Hp} {S S' : Store} {v : V}
theorem vr_non : VR K mg r n H .non v ↔ v = .non := by unfold VR; exact Iff.rfl
theorem vr_bl {b : Bool} : VR K mg r n H (.bl b) v ↔ v = .bl b := by unfold VR; exact Iff.rfl
theorem vr_int {i : Int} : VR K mg r n H (.int i) v ↔ v = .int i := by unfold VR; exact Iff.rfl
theorem vr_str {x : Str} : VR K mg r n H (.str x) v ↔ v = .str x := by unfold VR; exact Iff.rfl
theorem vr_tup {ws : List W} : VR K mg r n H (.tup ws) v ↔ ∃ a vs, v = .ref a ∧ H a = some (.tup vs) ∧ VRs K mg r n H ws vs := by
  conv => lhs; unfold VR
theorem vr_cl {ws : List W} : VR K mg r n H (.cl ws) v ↔ ∃ a vs, v = .ref a ∧ FrL K H a vs ∧ VRs K mg r n H ws vs := by
  conv => lhs; unfold VR
theorem vr_wt {ws : List W} : VR K mg r n H (.wt ws) v ↔ ∃ a vs, v = .ref a ∧ KT K a vs ∧ VRs K mg r n H ws vs := by
  conv => lhs; unfold VR
theorem vr_ref {i : Nat} : VR K mg r n H (.ref i) v ↔ i < n ∧ v = .ref (r i) := by
  conv => lhs; unfold VR
theorem vr_glo {x : Str} : VR K mg r n H (.glo x) v ↔ ∃ a, v = .ref a ∧ mg x = some (.ref a) := by
  conv => lhs; unfold VR
end
/-! ### names, constants -/
section
variable {X : Cx} {pos : Pos}
theorem xe_const {e : Expr} {w : W} {v : V} (h : PE X e (tC v)) (hv : ∀ r n H, VR X.K X.mg r n H w v) : XE X e (mC w) := PEi h fun σ H Q q => by
  obtain ⟨r, S, e, w', S', ok, hm, k⟩ := q
  cases hm
  exact k r H v Ex.refl ok (hv r _ H)
theorem xe_int {i j} : XE X (.Constant (.int i) j pos) (mC (.int i)) := xe_const pe_int fun _ _ _ => vr_int.mpr rfl
theorem xe_bl {b j} : XE X (.Constant (.bool b) j pos) (mC (.bl b)) := xe_const pe_bl fun _ _ _ => vr_bl.mpr rfl
theorem xe_non {j} : XE X (.Constant .none j pos) (mC .non) := xe_const pe_non fun _ _ _ => vr_non.mpr rfl
theorem xe_str {x j} : XE X (.Constant (.str x) j pos) (mC (.str x)) := xe_const pe_str fun _ _ _ => vr_str.mpr rfl
theorem xe_var {e : Expr} {i : Nat} (h : PE X e (tVar i)) : XE X e (mVar i) := PEi h fun σ H Q q => by
  obtain ⟨r, S, e, w, S', ok, hm, k⟩ := q
  unfold mVar at hm
  split at hm
  · rename_i u hu
    cases hm
    obtain ⟨v, h1, h2⟩ := ok.var i w hu
    exact ⟨v, h1, k r H v Ex.refl ok h2⟩
  · cases hm
theorem xv (i : Nat) {x : Str} {pos : Pos} (hN : X.N[i]? = some x := by rfl) (hv : Vis X.env.scope x := by first | exact Or.inl rfl | exact Or.inr (Or.inl rfl) | exact Or.inr (Or.inr rfl)) (hd : (x == ("__debug__" : Str)) = false := by decide)
    (hcd : (x == ("__classdict__" : Str)) = false := by decide) : XE X (.Name x pos) (mVar i) := xe_var (pe_var hN hv hd hcd)
/-- a module's int, text -/
theorem xe_gint {x : Str} {i : Int} (hg : Gl X x) (hm : ∃ t, X.mg x = some (.int i t)) (hd : (x == ("__debug__" : Str)) = false := by decide) : XE X (.Name x pos) (mC (.int i)) := by
  obtain ⟨t, hm⟩ := hm
  exact xe_const (pe_glob (v := .int i) hg hm ⟨t, rfl⟩ hd) fun _ _ _ => vr_int.mpr rfl
theorem xe_gstr {x y : Str} (hg : Gl X x) (hm : ∃ t, X.mg x = some (.str y t)) (hd : (x == ("__debug__" : Str)) = false := by decide) : XE X (.Name x pos) (mC (.str y)) := by
  obtain ⟨t, hm⟩ := hm
  exact xe_const (pe_glob (v := .str y) hg hm ⟨t, rfl⟩ hd) fun _ _ _ => vr_str.mpr rfl
/-- a module's object by its name -/
theorem xe_glo {x : Str} (hg : Gl X x) (hm : ∃ a, X.mg x = some (.ref a)) (hd : (x == ("__debug__" : Str)) = false := by decide) : XE X (.Name x pos) (mC (.glo x)) := by
  obtain ⟨a, hm⟩ := hm
  exact xe_const (pe_glob (v := .ref a) hg hm rfl hd) fun _ _ _ => vr_glo.mpr ⟨a, rfl, hm⟩
/-- a module's tuple of written values -/
def FlatRel : List W → List V → Prop
  | [], vs => vs = []
  | w :: ws, vs => ∃ v us, vs = v :: us ∧ (∀ K mg r n H, VR K mg r n H w v) ∧ FlatRel ws us
theorem FlatRel.vrs {K : PySem.W.Frag} {mg : Str → Option Value} {r : Nat → Addr} {n : Nat} {H : Hp} : ∀ {ws : List W} {vs : List V}, FlatRel ws vs → VRs K mg r n H ws vs
  | [], vs, h => by
    unfold FlatRel at h
    subst h
    exact VRs.nil
  | w :: ws, vs, h => by
    unfold FlatRel at h
    obtain ⟨v, us, e, h1, h2⟩ := h
    subst e
    exact VRs.cons (h1 K mg r n H) (FlatRel.vrs h2)
theorem xe_gtup {x : Str} {ws : List W} (hg : Gl X x) (hm : ∃ a vs, X.mg x = some (.ref a) ∧ KT X.K a vs ∧ FlatRel ws vs) (hd : (x == ("__debug__" : Str)) = false := by decide) : XE X (.Name x pos) (mC (.wt ws)) := by
  obtain ⟨a, vs, hm, h1, h2⟩ := hm
  exact xe_const (pe_glob (v := .ref a) hg hm rfl hd) fun r n H => vr_wt.mpr ⟨a, vs, rfl, h1, h2.vrs⟩
end

/-! ### operators -/
def OpL (K : PySem.W.Frag) (mg : Str → Option Value) (r2 : R2) (f : W → W → Store → Option W) : Prop :=
  ∀ (r : Nat → Addr) (S : Store) (H : Hp) (x y z : W) (u v : V) (Q : VK), Rep K mg r S H → VR K mg r S.length H x u → VR K mg r S.length H y v → f x y S = some z →
    (∀ H' t, Ex r S.length H r S.length H' → Rep K mg r S H' → VR K mg r S.length H' z t → Q t H') → r2 u v H Q
def UnL (K : PySem.W.Frag) (mg : Str → Option Value) (r1 : V → Hp → VK → Prop) (f : W → Store → Option W) : Prop :=
  ∀ (r : Nat → Addr) (S : Store) (H : Hp) (x z : W) (u : V) (Q : VK), Rep K mg r S H → VR K mg r S.length H x u → f x S = some z →
    (∀ H' t, Ex r S.length H r S.length H' → Rep K mg r S H' → VR K mg r S.length H' z t → Q t H') → r1 u H Q
section
variable {K : PySem.W.Frag} {mg : Str → Option Value}
theorem lf_op2 {ma mb : ME} {f : W → W → Store → Option W} {r2 : R2} (hf : OpL K mg r2 f) {σ : L2.St} {H : Hp} {Q : VK} (q : LfE K mg (op2 f ma mb) σ H Q) : tOp r2 (LfE K mg ma) (LfE K mg mb) σ H Q := by
  obtain ⟨r, S, e, w, S', ok, hm, k⟩ := q
  unfold op2 at hm
  split at hm
  · rename_i x S1 e1
    split at hm
    · rename_i y S2 e2
      split at hm
      · rename_i z e3
        cases hm
        refine ⟨r, S, e, x, S1, ok, e1, fun r1 H1 u x1 ok1 vu => ⟨r1, S1, e, y, S', ok1, e2, fun r2 H2 v x2 ok2 vv => ?_⟩⟩
        exact hf r2 S' H2 x y w u v Q ok2.rep (VR.mono x2 _ _ vu) vv e3 fun H3 t x3 R3 vt => k r2 H3 t (x1.trans (x2.trans x3)) (ok2.mono x3 R3) vt
      · cases hm
    · cases hm
  · cases hm
theorem lf_op1 {ma : ME} {f : W → Store → Option W} {r1 : V → Hp → VK → Prop} (hf : UnL K mg r1 f) {σ : L2.St} {H : Hp} {Q : VK} (q : LfE K mg (op1 f ma) σ H Q) : tUn r1 (LfE K mg ma) σ H Q := by
  obtain ⟨r, S, e, w, S', ok, hm, k⟩ := q
  unfold op1 at hm
  split at hm
  · rename_i x S1 e1
    split at hm
    · rename_i z e3
      cases hm
      refine ⟨r, S, e, x, S', ok, e1, fun r1 H1 u x1 ok1 vu => ?_⟩
      exact hf r1 S' H1 x w u Q ok1.rep vu e3 fun H3 t x3 R3 vt => k r1 H3 t (x1.trans x3) (ok1.mono x3 R3) vt
    · cases hm
  · cases hm
variable {X : Cx} {a b c : Expr} {ma mb mc : ME} {pos : Pos} {f g : W → W → Store → Option W}
theorem xe_op2 {op : Operator} {r2 : R2} (ho : OpR X (binaryOp op) r2) (hf : OpL X.K X.mg r2 f) (ha : XE X a ma) (hb : XE X b mb) : XE X (.BinOp a op b pos) (op2 f ma mb) := PEi (pe_op ho ha hb) fun σ H Q q => lf_op2 hf q
theorem xe_cmp {op : CmpOp} {r2 : R2} (ho : OpR X (compareOp op) r2) (hf : OpL X.K X.mg r2 f) (ha : XE X a ma) (hb : XE X b mb) (hm : behindInMarks op b = false) : XE X (.Compare a [op] [b] pos) (op2 f ma mb) := PEi (pe_cmpR ho ha hb hm) fun σ H Q q => lf_op2 hf q
theorem xe_un {op : UnaryOp} {f : W → Store → Option W} {r1 : V → Hp → VK → Prop} (ho : UnR X (unaryOp op) r1) (hf : UnL X.K X.mg r1 f) (ha : XE X a ma) : XE X (.UnaryOp op a pos) (op1 f ma) := PEi (pe_un ho ha) fun σ H Q q => lf_op1 hf q
theorem opl_ints {C : Int → Int → Prop} {g : Int → Int → V} {f : Int → Int → Option W} (h : ∀ i j z, f i j = some z → C i j ∧ ∀ r n H, VR K mg r n H z (g i j)) : OpL K mg (rI C g) (onI f) := by
  intro r S H x y z u v Q R hx hy e k
  unfold onI at e
  split at e
  · rename_i i j
    obtain ⟨h1, h2⟩ := h i j z e
    exact ⟨i, j, vr_int.mp hx, vr_int.mp hy, h1, k H _ Ex.refl R (h2 _ _ _)⟩
  · cases e
theorem opl_ints0 {g : Int → Int → V} {f : Int → Int → Option W} (h : ∀ i j z, f i j = some z → ∀ r n H, VR K mg r n H z (g i j)) : OpL K mg (rI0 g) (onI f) := by
  intro r S H x y z u v Q R hx hy e k
  unfold onI at e
  split at e
  · rename_i i j
    exact ⟨i, j, vr_int.mp hx, vr_int.mp hy, k H _ Ex.refl R (h i j z e _ _ _)⟩
  · cases e
theorem xe_sub (ha : XE X a ma) (hb : XE X b mb) : XE X (.BinOp a .Sub b pos) (op2 fSub ma mb) :=
  xe_op2 op_sub (opl_ints0 fun i j z e r n H => by cases e; exact vr_int.mpr rfl) ha hb
theorem inLine_ok {i : Int} (h : inLine i = true) : -(2 ^ 64) < i ∧ i < 2 ^ 64 := by
  unfold inLine at h
  simp only [Bool.and_eq_true, decide_eq_true_eq] at h
  exact h
theorem xe_mul (ha : XE X a ma) (hb : XE X b mb) : XE X (.BinOp a .Mult b pos) (op2 fMul ma mb) :=
  xe_op2 op_mul (opl_ints fun i j z e => by
    split at e
    · rename_i hc
      cases e
      simp only [Bool.or_eq_true] at hc
      refine ⟨?_, fun r n H => vr_int.mpr rfl⟩
      rcases hc with hc | hc
      · exact .inl (inLine_ok hc)
      · exact .inr (inLine_ok hc)
    · cases e) ha hb
theorem xe_mod (ha : XE X a ma) (hb : XE X b mb) : XE X (.BinOp a .Mod b pos) (op2 fMod ma mb) :=
  xe_op2 op_mod (opl_ints fun i j z e => by
    split at e
    · rename_i hc
      cases e
      exact ⟨hc, fun r n H => vr_int.mpr rfl⟩
    · cases e) ha hb
theorem cdivW {j : Int} (h : 0 < j ∧ j < 18446744073709551616) {i : Int} : CDivW i j := wide_div (b := 64) h.1 (by omega) (by decide) (by decide)
theorem xe_div (ha : XE X a ma) (hb : XE X b mb) : XE X (.BinOp a .FloorDiv b pos) (op2 fDiv ma mb) :=
  xe_op2 op_fdivW (opl_ints fun i j z e => by
    split at e
    · rename_i hc
      cases e
      exact ⟨cdivW hc, fun r n H => vr_int.mpr rfl⟩
    · cases e) ha hb
theorem xe_pow (ha : XE X a ma) (hb : XE X b mb) : XE X (.BinOp a .Pow b pos) (op2 fPow ma mb) :=
  xe_op2 op_pow (opl_ints fun i j z e => by
    split at e
    · rename_i hc
      cases e
      exact ⟨⟨hc.1, Int.le_trans hc.2.1 (by decide), hc.2.2⟩, fun r n H => vr_int.mpr rfl⟩
    · cases e) ha hb
theorem xe_lt (ha : XE X a ma) (hb : XE X b mb) : XE X (.Compare a [.Lt] [b] pos) (op2 fLt ma mb) := xe_cmp op_lt (opl_ints0 fun i j z e r n H => by cases e; exact vr_bl.mpr rfl) ha hb (nomark _)
theorem xe_le (ha : XE X a ma) (hb : XE X b mb) : XE X (.Compare a [.LtE] [b] pos) (op2 fLe ma mb) := xe_cmp op_le (opl_ints0 fun i j z e r n H => by cases e; exact vr_bl.mpr rfl) ha hb (nomark _)
theorem xe_gt (ha : XE X a ma) (hb : XE X b mb) : XE X (.Compare a [.Gt] [b] pos) (op2 fGt ma mb) := xe_cmp op_gt (opl_ints0 fun i j z e r n H => by cases e; exact vr_bl.mpr rfl) ha hb (nomark _)
theorem xe_ge (ha : XE X a ma) (hb : XE X b mb) : XE X (.Compare a [.GtE] [b] pos) (op2 fGe ma mb) := xe_cmp op_ge (opl_ints0 fun i j z e r n H => by cases e; exact vr_bl.mpr rfl) ha hb (nomark _)
theorem xe_neg (ha : XE X a ma) : XE X (.UnaryOp .USub a pos) (op1 fNeg ma) := xe_un un_neg (fun r S H x z u Q R hx e k => by
  unfold fNeg at e
  split at e
  · rename_i i
    cases e
    exact ⟨i, vr_int.mp hx, k H _ Ex.refl R (vr_int.mpr rfl)⟩
  · cases e) ha
/-- + of ints, tuples, texts -/
def rPlus (K : PySem.W.Frag) : R2 := fun x y H Q => (rI0 fun i j => .int (i + j)) x y H Q ∨ rCatA K x y H Q ∨ ∃ i j, x = .str i ∧ y = .str j ∧ i.length + j.length ≤ sizeLine ∧ Q (.str (i ++ j)) H
theorem lineK {k : Nat} (h : k ≤ 100000) : k ≤ sizeLine := Nat.le_trans h (by decide)
theorem lineL {k : Nat} (h : k < 100000) : k < sizeLine := Nat.lt_of_lt_of_le h (by decide)
theorem op_plus : OpR X (binaryOp .Add) (rPlus X.K) := OpR.or op_add (OpR.or op_catA op_add_str)
theorem opl_plus : OpL K mg (rPlus K) fAdd := by
  intro r S H x y z u v Q R hx hy e k
  unfold fAdd at e
  split at e
  · rename_i i j
    cases e
    exact .inl ⟨i, j, vr_int.mp hx, vr_int.mp hy, k H _ Ex.refl R (vr_int.mpr rfl)⟩
  · rename_i xs ys
    split at e
    · rename_i hl
      cases e
      obtain ⟨p, us, rfl, h1, h2⟩ := vr_tup.mp hx
      obtain ⟨q, vs, rfl, h3, h4⟩ := vr_tup.mp hy
      refine .inr (.inl ⟨p, q, us, vs, rfl, rfl, SqT.of h1, SqT.of h3, ?_, ?_⟩)
      · rw [← h2.length, ← h4.length]
        exact lineK hl
      · refine ⟨fun z => k H _ Ex.refl R (vr_tup.mpr ⟨_, _, rfl, h3, ?_⟩), fun z1 z2 => k H _ Ex.refl R (vr_tup.mpr ⟨_, _, rfl, h1, ?_⟩), fun z1 z2 p hp => ?_⟩
        · have h5 := VRs.append h2 h4
          subst z
          simpa using h5
        · have h5 := VRs.append h2 h4
          subst z2
          simpa using h5
        · obtain ⟨R2, x2⟩ := R.junk (ho := .tup (us ++ vs)) hp
          exact k _ _ x2 R2 (vr_tup.mpr ⟨p, _, rfl, upd_same, VRs.mono x2 _ _ (VRs.append h2 h4)⟩)
    · cases e
  · rename_i s t
    split at e
    · rename_i hl
      cases e
      exact .inr (.inr ⟨s, t, vr_str.mp hx, vr_str.mp hy, lineK hl, k H _ Ex.refl R (vr_str.mpr rfl)⟩)
    · cases e
  · cases e
theorem xe_add (ha : XE X a ma) (hb : XE X b mb) : XE X (.BinOp a .Add b pos) (op2 fAdd ma mb) := xe_op2 op_plus opl_plus ha hb
end
end Gm

set_option Elab.async false
set_option linter.all false
set_option maxRecDepth 100000
set_option maxHeartbeats 2000000
/-! Gm3: equality of data; is None; in; and, or, not, tests; displays; all, any, tuple, list, len; an index. -/
namespace Gm
open PySem PySem.Spec PyProof.Rows L2
/-! ### == of data -/
mutual
def toD : W → PyData
  | .non => .none
  | .bl b => .bool b
  | .int i => .int i
  | .str x => .str x
  | .tup ws => .tuple (toDs ws)
  | .cl ws => .list (toDs ws)
  | .wt _ => .dict []
  | .ref _ => .dict []
  | .glo _ => .dict []
def toDs : List W → List PyData
  | [] => []
  | w :: ws => toD w :: toDs ws
end
mutual
theorem eqd_eqv : ∀ x y : W, eqd x y = PyData.eqv (toD x) (toD y)
  | .non, y => by cases y <;> simp [eqd, toD, PyData.eqv]
  | .bl b, y => by cases y <;> simp [eqd, toD, PyData.eqv, b2i]
  | .int b, y => by cases y <;> simp [eqd, toD, PyData.eqv, b2i]
  | .str b, y => by cases y <;> simp [eqd, toD, PyData.eqv]
  | .ref b, y => by cases y <;> simp [eqd, toD, PyData.eqv]
  | .wt b, y => by cases y <;> simp [eqd, toD, PyData.eqv]
  | .glo b, y => by cases y <;> simp [eqd, toD, PyData.eqv]
  | .tup xs, y => by
    cases y with
    | tup ys =>
      simp only [eqd, toD, PyData.eqv]
      exact eqds_eqv xs ys
    | _ => simp [eqd, toD, PyData.eqv]
  | .cl xs, y => by
    cases y with
    | cl ys =>
      simp only [eqd, toD, PyData.eqv]
      exact eqds_eqv xs ys
    | _ => simp [eqd, toD, PyData.eqv]
theorem eqds_eqv : ∀ xs ys : List W, eqds xs ys = PyData.eqvAll (toDs xs) (toDs ys)
  | [], ys => by cases ys <;> simp [eqds, toDs, PyData.eqvAll]
  | x :: xs, ys => by
    cases ys with
    | nil => simp [eqds, toDs, PyData.eqvAll]
    | cons y ys =>
      simp only [eqds, toDs, PyData.eqvAll]
      rw [eqd_eqv x y, eqds_eqv xs ys]
end
section
variable {K : PySem.W.Frag} {mg : Str → Option Value} {r : Nat → Addr} {H : Hp} {S : Store}
theorem strOk_eq (x : Str) : strOk x = PyData.strOk x := rfl
/-- what is read out is data of the layer -/
structure DpW (K : PySem.W.Frag) (H : Hp) (v : V) (d : W) (n : Nat) : Prop where
  dp : Dp K H v (toD d)
  lay : PyData.canLay0 (toD d) = true
  dep : PyData.depth (toD d) ≤ n
structure DpWs (K : PySem.W.Frag) (H : Hp) (vs : List V) (ds : List W) (n : Nat) : Prop where
  dp : DpAll K H vs (toDs ds)
  lay : PyData.canLayAll0 (toDs ds) = true
  dep : PyData.depthAll (toDs ds) ≤ n
theorem rd_dp (R : Rep K mg r S H) : ∀ (n : Nat) (w : W) (v : V) (d : W), VR K mg r S.length H w v → rd S n w = some d → DpW K H v d n := by
  intro n
  induction n with
  | zero =>
    intro w v d h e
    unfold rd at e
    cases e
  | succ n ih =>
    have all : ∀ (ws : List W) (vs : List V) (ds : List W), VRs K mg r S.length H ws vs → rds S n ws = some ds → DpWs K H vs ds n := by
      intro ws
      induction ws with
      | nil =>
        intro vs ds h e
        unfold VRs at h
        unfold rds at e
        cases e
        subst h
        exact ⟨.nil, by simp [toDs, PyData.canLayAll0], by simp [toDs, PyData.depthAll]⟩
      | cons w ws ih2 =>
        intro vs ds h e
        unfold VRs at h
        obtain ⟨v, us, e1, h1, h2⟩ := h
        subst e1
        unfold rds at e
        split at e
        · rename_i d1 ds1 g1 g2
          cases e
          have q1 := ih w v d1 h1 g1
          have q2 := ih2 us ds1 h2 g2
          refine ⟨?_, ?_, ?_⟩
          · simp only [toDs]
            exact .cons q1.dp q2.dp
          · simp only [toDs, PyData.canLayAll0]
            rw [q1.lay, q2.lay]
            rfl
          · simp only [toDs, PyData.depthAll]
            exact Nat.max_le.mpr ⟨q1.dep, q2.dep⟩
        · cases e
    intro w v d h e
    cases w with
    | non =>
      unfold rd at e
      cases e
      cases vr_non.mp h
      exact ⟨.non, by simp [toD, PyData.canLay0], by simp [toD, PyData.depth]⟩
    | bl b =>
      unfold rd at e
      cases e
      cases vr_bl.mp h
      exact ⟨.bl b, by simp [toD, PyData.canLay0], by simp [toD, PyData.depth]⟩
    | int b =>
      unfold rd at e
      cases e
      cases vr_int.mp h
      exact ⟨.int b, by simp [toD, PyData.canLay0], by simp [toD, PyData.depth]⟩
    | str b =>
      unfold rd at e
      split at e
      · rename_i hb
        cases e
        cases vr_str.mp h
        exact ⟨.str b, by simp only [toD, PyData.canLay0]; exact hb, by simp [toD, PyData.depth]⟩
      · cases e
    | glo x =>
      unfold rd at e
      cases e
    | cl ws =>
      unfold rd at e
      cases e
    | wt ws =>
      obtain ⟨a, vs, rfl, h1, h2⟩ := vr_wt.mp h
      unfold rd at e
      cases g : rds S n ws with
      | none =>
        rw [g] at e
        cases e
      | some ds =>
        rw [g] at e
        cases e
        have q := all ws vs ds h2 g
        exact ⟨by simp only [toD]; exact .tup (.inr h1) q.dp, by simp only [toD, PyData.canLay0]; exact q.lay, by simp only [toD, PyData.depth]; exact Nat.succ_le_succ q.dep⟩
    | tup ws =>
      obtain ⟨a, vs, rfl, h1, h2⟩ := vr_tup.mp h
      unfold rd at e
      cases g : rds S n ws with
      | none =>
        rw [g] at e
        cases e
      | some ds =>
        rw [g] at e
        cases e
        have q := all ws vs ds h2 g
        exact ⟨by simp only [toD]; exact .tup (SqT.of h1) q.dp, by simp only [toD, PyData.canLay0]; exact q.lay, by simp only [toD, PyData.depth]; exact Nat.succ_le_succ q.dep⟩
    | ref i =>
      unfold rd at e
      split at e
      · rename_i ws hi
        obtain ⟨hl, rfl⟩ := vr_ref.mp h
        obtain ⟨vs, h1, h2⟩ := R.lst hi
        cases g : rds S n ws with
        | none =>
          rw [g] at e
          cases e
        | some ds =>
          rw [g] at e
          cases e
          have q := all ws vs ds h2 g
          exact ⟨by simp only [toD]; exact .lst (SqL.of h1) q.dp, by simp only [toD, PyData.canLay0]; exact q.lay, by simp only [toD, PyData.depth]; exact Nat.succ_le_succ q.dep⟩
      · cases e
theorem DpW.shaped {v : V} {d : W} {n : Nat} (h : DpW K H v d n) (hn : n ≤ 64) : SeqAt.shaped (toD d) = true := by
  unfold SeqAt.shaped
  rw [h.lay]
  exact decide_eq_true (Nat.le_trans h.dep hn)
theorem isSc_V {x : W} {u : V} {n : Nat} (h : VR K mg r n H x u) (hx : isSc x = true) : (u = .non ∧ x = .non) ∨ (∃ b, u = .bl b ∧ x = .bl b) ∨ (∃ i, u = .int i ∧ x = .int i) ∨ ∃ y, u = .str y ∧ x = .str y := by
  cases x with
  | non => exact .inl ⟨vr_non.mp h, rfl⟩
  | bl b => exact .inr (.inl ⟨b, vr_bl.mp h, rfl⟩)
  | int i => exact .inr (.inr (.inl ⟨i, vr_int.mp h, rfl⟩))
  | str y => exact .inr (.inr (.inr ⟨y, vr_str.mp h, rfl⟩))
  | _ => cases hx
def rEqX (K : PySem.W.Frag) : R2 := fun x y H Q => rEq x y H Q ∨ rEqD K x y H Q
def rNeX (K : PySem.W.Frag) : R2 := fun x y H Q => rNe x y H Q ∨ rNeD K x y H Q
theorem eqW_ok (R : Rep K mg r S H) {x y : W} {u v : V} {b : Bool} (hx : VR K mg r S.length H x u) (hy : VR K mg r S.length H y v) (e : eqW S x y = some b) :
    (scal u v = true ∧ decide (u = v) = b) ∨ ∃ d1 d2, Dp K H u d1 ∧ Dp K H v d2 ∧ SeqAt.shaped d1 = true ∧ SeqAt.shaped d2 = true ∧ PyData.eqv d1 d2 = b := by
  unfold eqW at e
  split at e
  · rename_i hs
    cases e
    simp only [Bool.and_eq_true] at hs
    rcases isSc_V hx hs.1 with ⟨rfl, rfl⟩ | ⟨b1, rfl, rfl⟩ | ⟨i1, rfl, rfl⟩ | ⟨s1, rfl, rfl⟩ <;>
      rcases isSc_V hy hs.2 with ⟨rfl, rfl⟩ | ⟨b2, rfl, rfl⟩ | ⟨i2, rfl, rfl⟩ | ⟨s2, rfl, rfl⟩ <;>
      first
      | exact .inl ⟨rfl, dec_bl⟩
      | exact .inl ⟨rfl, dec_int⟩
      | exact .inl ⟨rfl, dec_str⟩
      | exact .inl ⟨rfl, rfl⟩
      | exact .inr ⟨.bool _, .int _, .bl _, .int _, rfl, rfl, by simp [eqd, PyData.eqv, b2i]⟩
      | exact .inr ⟨.int _, .bool _, .int _, .bl _, rfl, rfl, by simp [eqd, PyData.eqv, b2i]⟩
  · split at e
    · rename_i d1 d2 g1 g2
      cases e
      have q1 := rd_dp R 40 x u d1 hx g1
      have q2 := rd_dp R 40 y v d2 hy g2
      exact .inr ⟨_, _, q1.dp, q2.dp, q1.shaped (by decide), q2.shaped (by decide), (eqd_eqv d1 d2).symm⟩
    · cases e
theorem opl_eq : OpL K mg (rEqX K) fEq := by
  intro r S H x y z u v Q R hx hy e k
  unfold fEq at e
  cases g : eqW S x y with
  | none =>
    rw [g] at e
    cases e
  | some b =>
    rw [g] at e
    cases e
    have q := k H (.bl b) Ex.refl R (vr_bl.mpr rfl)
    rcases eqW_ok R hx hy g with ⟨h1, h2⟩ | ⟨d1, d2, h1, h2, h3, h4, h5⟩
    · exact .inl ⟨h1, by rw [h2]; exact q⟩
    · exact .inr ⟨d1, d2, h1, h2, h3, h4, by rw [h5]; exact q⟩
theorem opl_ne : OpL K mg (rNeX K) fNe := by
  intro r S H x y z u v Q R hx hy e k
  unfold fNe at e
  cases g : eqW S x y with
  | none =>
    rw [g] at e
    cases e
  | some b =>
    rw [g] at e
    cases e
    have q := k H (.bl (!b)) Ex.refl R (vr_bl.mpr rfl)
    rcases eqW_ok R hx hy g with ⟨h1, h2⟩ | ⟨d1, d2, h1, h2, h3, h4, h5⟩
    · exact .inl ⟨h1, by rw [h2]; exact q⟩
    · exact .inr ⟨d1, d2, h1, h2, h3, h4, by rw [h5]; exact q⟩
end
section
variable {X : Cx} {a b c : Expr} {ma mb mc : ME} {pos : Pos} {f g : W → W → Store → Option W}
theorem op_eqX (hu : X.A.units + 64 < cLine) : OpR X (compareOp .Eq) (rEqX X.K) := OpR.or op_eq (op_eqD hu)
theorem op_neX (hu : X.A.units + 64 < cLine) : OpR X (compareOp .NotEq) (rNeX X.K) := OpR.or op_ne (op_neD hu)
theorem xe_eq (hu : X.A.units + 64 < cLine) (ha : XE X a ma) (hb : XE X b mb) : XE X (.Compare a [.Eq] [b] pos) (op2 fEq ma mb) := xe_cmp (op_eqX hu) opl_eq ha hb (nomark _)
theorem xe_ne (hu : X.A.units + 64 < cLine) (ha : XE X a ma) (hb : XE X b mb) : XE X (.Compare a [.NotEq] [b] pos) (op2 fNe ma mb) := xe_cmp (op_neX hu) opl_ne ha hb (nomark _)

/-! ### is None -/
theorem isNon_V {K : PySem.W.Frag} {mg : Str → Option Value} {r : Nat → Addr} {H : Hp} {n : Nat} {x : W} {u : V} (h : VR K mg r n H x u) : decide (u = .non) = isNon x := by
  cases x with
  | non => cases vr_non.mp h; rfl
  | bl b => cases vr_bl.mp h; rfl
  | int b => cases vr_int.mp h; rfl
  | str b => cases vr_str.mp h; rfl
  | tup ws => obtain ⟨a, vs, rfl, _⟩ := vr_tup.mp h; rfl
  | cl ws => obtain ⟨a, vs, rfl, _⟩ := vr_cl.mp h; rfl
  | wt ws => obtain ⟨a, vs, rfl, _⟩ := vr_wt.mp h; rfl
  | ref i => obtain ⟨_, rfl⟩ := vr_ref.mp h; rfl
  | glo x => obtain ⟨a, rfl, _⟩ := vr_glo.mp h; rfl
theorem xe_isN {j pos'} (ha : XE X a ma) : XE X (.Compare a [.Is] [.Constant .none j pos'] pos) (op1 fIsN ma) := PEi (pe_cmp (pc_isN ha)) fun σ H Q q =>
  lf_op1 (r1 := fun x H Q => Q (.bl (decide (x = .non))) H) (fun r S H x z u Q R hx e k => by
    unfold fIsN at e
    cases e
    show Q (.bl (decide (u = .non))) H
    rw [isNon_V hx]
    exact k H _ Ex.refl R (vr_bl.mpr rfl)) q
theorem xe_notN {j pos'} (ha : XE X a ma) : XE X (.Compare a [.IsNot] [.Constant .none j pos'] pos) (op1 fNotN ma) := PEi (pe_cmp (pc_notN ha)) fun σ H Q q =>
  lf_op1 (r1 := fun x H Q => Q (.bl (!decide (x = .non))) H) (fun r S H x z u Q R hx e k => by
    unfold fNotN at e
    cases e
    show Q (.bl (!decide (u = .non))) H
    rw [isNon_V hx]
    exact k H _ Ex.refl R (vr_bl.mpr rfl)) q

/-! ### in -/
theorem sc_flat {K : PySem.W.Frag} {mg : Str → Option Value} {r : Nat → Addr} {H : Hp} {n : Nat} {x : W} {u : V} (h : VR K mg r n H x u) (hx : isSc x = true) : flatV u = true := by
  rcases isSc_V h hx with ⟨rfl, rfl⟩ | ⟨b1, rfl, rfl⟩ | ⟨i1, rfl, rfl⟩ | ⟨s1, rfl, rfl⟩ <;> rfl
theorem sc_eqV {K : PySem.W.Frag} {mg : Str → Option Value} {r : Nat → Addr} {H : Hp} {n : Nat} {x y : W} {u v : V} (h : VR K mg r n H x u) (hx : isSc x = true) (h' : VR K mg r n H y v) (hy : isSc y = true) : eqV u v = eqd x y := by
  rcases isSc_V h hx with ⟨rfl, rfl⟩ | ⟨b1, rfl, rfl⟩ | ⟨i1, rfl, rfl⟩ | ⟨s1, rfl, rfl⟩ <;>
    rcases isSc_V h' hy with ⟨rfl, rfl⟩ | ⟨b2, rfl, rfl⟩ | ⟨i2, rfl, rfl⟩ | ⟨s2, rfl, rfl⟩ <;> simp [eqV, eqd, b2i]
theorem sc_all {K : PySem.W.Frag} {mg : Str → Option Value} {r : Nat → Addr} {H : Hp} {n : Nat} : ∀ {ws : List W} {us : List V}, VRs K mg r n H ws us → ws.all isSc = true → us.all flatV = true
  | [], us, h, _ => by
    unfold VRs at h
    subst h
    rfl
  | w :: ws, us, h, e => by
    unfold VRs at h
    obtain ⟨v, vs, e1, h1, h2⟩ := h
    subst e1
    simp only [List.all_cons, Bool.and_eq_true] at e ⊢
    exact ⟨sc_flat h1 e.1, sc_all h2 e.2⟩
theorem sc_in {K : PySem.W.Frag} {mg : Str → Option Value} {r : Nat → Addr} {H : Hp} {n : Nat} {x : W} {u : V} (h : VR K mg r n H x u) (hx : isSc x = true) : ∀ {ws : List W} {us : List V}, VRs K mg r n H ws us → ws.all isSc = true → inV u us = ws.any fun z => eqd z x
  | [], us, h, _ => by
    unfold VRs at h
    subst h
    rfl
  | w :: ws, us, h', e => by
    unfold VRs at h'
    obtain ⟨v, vs, e1, h1, h2⟩ := h'
    subst e1
    simp only [List.all_cons, Bool.and_eq_true] at e
    have ih := sc_in h hx h2 e.2
    unfold inV at ih ⊢
    rw [List.any_cons, List.any_cons, ih, sc_eqV h1 e.1 h hx]
theorem opl_in {K : PySem.W.Frag} {mg : Str → Option Value} {neg : Bool} {f : W → W → Store → Option W} (hf : ∀ x y S z, f x y S = some z → ∃ b, fIn x y S = some (.bl b) ∧ z = .bl (if neg then !b else b)) : OpL K mg (rIn K neg) f := by
  intro r S H x y z u v Q R hx hy e k
  obtain ⟨b, e2, rfl⟩ := hf x y S z e
  unfold fIn at e2
  have fin : ∀ {ws : List W} {us : List V} {p : Addr}, v = .ref p → (SqL K H p us ∨ SqT K H p us) → VRs K mg r S.length H ws us → (if isSc x && ws.all isSc then some (W.bl (ws.any fun z => eqd z x)) else none) = some (W.bl b) → rIn K neg u v H Q := by
    intro ws us p ev hs hv he
    split at he
    · rename_i hc
      cases he
      simp only [Bool.and_eq_true] at hc
      refine ⟨p, us, ev, hs, sc_flat hx hc.1, sc_all hv hc.2, ?_⟩
      rw [sc_in hx hc.1 hv hc.2]
      exact k H _ Ex.refl R (vr_bl.mpr rfl)
    · cases he
  split at e2
  · obtain ⟨a, vs, rfl, h1, h2⟩ := vr_tup.mp hy
    exact fin rfl (.inr (SqT.of h1)) h2 e2
  · obtain ⟨a, vs, rfl, h1, h2⟩ := vr_cl.mp hy
    exact fin rfl h1.sq h2 e2
  · obtain ⟨a, vs, rfl, h1, h2⟩ := vr_wt.mp hy
    exact fin rfl (.inr (.inr h1)) h2 e2
  · obtain ⟨hl, rfl⟩ := vr_ref.mp hy
    split at e2
    · rename_i ys hi
      obtain ⟨vs, h1, h2⟩ := R.lst hi
      exact fin rfl (.inl (SqL.of h1)) h2 e2
    · cases e2
  · cases e2
theorem xe_in (ha : XE X a ma) (hb : XE X b mb) (hm : behindInMarks .In b = false := by rfl) : XE X (.Compare a [.In] [b] pos) (op2 fIn ma mb) := xe_cmp op_in_seq (opl_in (neg := false) fun x y S z e => by
  unfold fIn at e
  have : ∃ b, z = W.bl b := by
    split at e
    · split at e
      · cases e; exact ⟨_, rfl⟩
      · cases e
    · split at e
      · cases e; exact ⟨_, rfl⟩
      · cases e
    · split at e
      · cases e; exact ⟨_, rfl⟩
      · cases e
    · split at e
      · split at e
        · cases e; exact ⟨_, rfl⟩
        · cases e
      · cases e
    · cases e
  obtain ⟨b, rfl⟩ := this
  exact ⟨b, e, rfl⟩) ha hb hm
theorem negW_some {o : Option W} {z : W} (e : negW o = some z) : ∃ b, o = some (.bl b) ∧ z = .bl (!b) := by
  unfold negW at e
  split at e
  · cases e
    exact ⟨_, rfl, rfl⟩
  · cases e
theorem xe_notIn (ha : XE X a ma) (hb : XE X b mb) (hm : behindInMarks .NotIn b = false := by rfl) : XE X (.Compare a [.NotIn] [b] pos) (op2 fNotIn ma mb) := xe_cmp op_notIn_seq (opl_in (neg := true) fun x y S z e => negW_some e) ha hb hm
end
end Gm

set_option Elab.async false
set_option linter.all false
set_option maxRecDepth 100000
set_option maxHeartbeats 2000000
/-! Gm4: and, or, not, tests; displays; all, any, tuple, list, len; an index; fields; calls. -/
namespace Gm
open PySem PySem.Spec PyProof.Rows L2
section
variable {K : PySem.W.Frag} {mg : Str → Option Value} {σ : L2.St} {H : Hp}
/-! ### readings of the parts -/
theorem lf_andV {ma mb : ME} {Q : VK} (q : LfE K mg (mAnd ma mb) σ H Q) : tAndV (LfE K mg ma) (LfE K mg mb) σ H Q := by
  obtain ⟨r, S, e, w, S', ok, hm, k⟩ := q
  unfold mAnd at hm
  split at hm
  · rename_i S1 e1
    refine ⟨r, S, e, _, S1, ok, e1, fun r1 H1 u x1 ok1 vu => ⟨true, vr_bl.mp vu, ?_⟩⟩
    refine iteT ?_
    exact ⟨r1, S1, e, w, S', ok1, hm, fun r2 H2 v x2 ok2 vv => k r2 H2 v (x1.trans x2) ok2 vv⟩
  · rename_i S1 e1
    cases hm
    refine ⟨r, S, e, _, S', ok, e1, fun r1 H1 u x1 ok1 vu => ⟨false, vr_bl.mp vu, ?_⟩⟩
    refine iteF ?_
    exact k r1 H1 _ x1 ok1 (vr_bl.mpr rfl)
  · cases hm
theorem lf_orV {ma mb : ME} {Q : VK} (q : LfE K mg (mOr ma mb) σ H Q) : tOrV (LfE K mg ma) (LfE K mg mb) σ H Q := by
  obtain ⟨r, S, e, w, S', ok, hm, k⟩ := q
  unfold mOr at hm
  split at hm
  · rename_i S1 e1
    cases hm
    refine ⟨r, S, e, _, S', ok, e1, fun r1 H1 u x1 ok1 vu => ⟨true, vr_bl.mp vu, ?_⟩⟩
    refine iteT ?_
    exact k r1 H1 _ x1 ok1 (vr_bl.mpr rfl)
  · rename_i S1 e1
    refine ⟨r, S, e, _, S1, ok, e1, fun r1 H1 u x1 ok1 vu => ⟨false, vr_bl.mp vu, ?_⟩⟩
    refine iteF ?_
    exact ⟨r1, S1, e, w, S', ok1, hm, fun r2 H2 v x2 ok2 vv => k r2 H2 v (x1.trans x2) ok2 vv⟩
  · cases hm
theorem lf_notV {ma : ME} {Q : VK} (q : LfE K mg (mNot ma) σ H Q) : tNotV (LfE K mg ma) σ H Q := by
  obtain ⟨r, S, e, w, S', ok, hm, k⟩ := q
  unfold mNot at hm
  split at hm
  · rename_i b S1 e1
    cases hm
    exact ⟨r, S, e, _, S', ok, e1, fun r1 H1 u x1 ok1 vu => ⟨b, vr_bl.mp vu, k r1 H1 _ x1 ok1 (vr_bl.mpr rfl)⟩⟩
  · cases hm
/-- a bool's value taken -/
theorem lf_tval {ma : ME} {Q : Bool → Hp → Prop} (q : LfT K mg (tVal ma) σ H Q) : LfE K mg ma σ H fun x H1 => ∃ c, x = .bl c ∧ Q c H1 := by
  obtain ⟨r, S, e, b, S', ok, hm, k⟩ := q
  unfold tVal at hm
  split at hm
  · rename_i b1 S1 e1
    cases hm
    exact ⟨r, S, e, _, S', ok, e1, fun r1 H1 u x1 ok1 vu => ⟨b, vr_bl.mp vu, k r1 H1 x1 ok1⟩⟩
  · cases hm
theorem lf_tand {ma mb : MT} {Q : Bool → Hp → Prop} (q : LfT K mg (tAnd ma mb) σ H Q) : L2.tAnd (LfT K mg ma) (LfT K mg mb) σ H Q := by
  obtain ⟨r, S, e, w, S', ok, hm, k⟩ := q
  unfold tAnd at hm
  split at hm
  · rename_i S1 e1
    refine ⟨r, S, e, _, S1, ok, e1, fun r1 H1 x1 ok1 => ?_⟩
    refine iteT ?_
    exact ⟨r1, S1, e, w, S', ok1, hm, fun r2 H2 x2 ok2 => k r2 H2 (x1.trans x2) ok2⟩
  · rename_i S1 e1
    cases hm
    refine ⟨r, S, e, _, S', ok, e1, fun r1 H1 x1 ok1 => ?_⟩
    refine iteF ?_
    exact k r1 H1 x1 ok1
  · cases hm
theorem lf_tor {ma mb : MT} {Q : Bool → Hp → Prop} (q : LfT K mg (tOr ma mb) σ H Q) : L2.tOr (LfT K mg ma) (LfT K mg mb) σ H Q := by
  obtain ⟨r, S, e, w, S', ok, hm, k⟩ := q
  unfold tOr at hm
  split at hm
  · rename_i S1 e1
    cases hm
    refine ⟨r, S, e, _, S', ok, e1, fun r1 H1 x1 ok1 => ?_⟩
    refine iteT ?_
    exact k r1 H1 x1 ok1
  · rename_i S1 e1
    refine ⟨r, S, e, _, S1, ok, e1, fun r1 H1 x1 ok1 => ?_⟩
    refine iteF ?_
    exact ⟨r1, S1, e, w, S', ok1, hm, fun r2 H2 x2 ok2 => k r2 H2 (x1.trans x2) ok2⟩
  · cases hm
theorem lf_tnot {ma : MT} {Q : Bool → Hp → Prop} (q : LfT K mg (tNot ma) σ H Q) : L2.tNot (LfT K mg ma) σ H Q := by
  obtain ⟨r, S, e, w, S', ok, hm, k⟩ := q
  unfold tNot at hm
  split at hm
  · rename_i b S1 e1
    cases hm
    exact ⟨r, S, e, _, S', ok, e1, fun r1 H1 x1 ok1 => k r1 H1 x1 ok1⟩
  · cases hm
theorem lf_mif {mt : MT} {ma mb : ME} {Q : VK} (q : LfE K mg (mIf mt ma mb) σ H Q) : L2.tIf (LfT K mg mt) (LfE K mg ma) (LfE K mg mb) σ H Q := by
  obtain ⟨r, S, e, w, S', ok, hm, k⟩ := q
  unfold mIf at hm
  split at hm
  · rename_i S1 e1
    refine ⟨r, S, e, _, S1, ok, e1, fun r1 H1 x1 ok1 => ?_⟩
    refine iteT ?_
    exact ⟨r1, S1, e, w, S', ok1, hm, fun r2 H2 v x2 ok2 vv => k r2 H2 v (x1.trans x2) ok2 vv⟩
  · rename_i S1 e1
    refine ⟨r, S, e, _, S1, ok, e1, fun r1 H1 x1 ok1 => ?_⟩
    refine iteF ?_
    exact ⟨r1, S1, e, w, S', ok1, hm, fun r2 H2 v x2 ok2 vv => k r2 H2 v (x1.trans x2) ok2 vv⟩
  · cases hm
theorem lf_chain {f g : W → W → Store → Option W} {r1 r2 : R2} {ma mb mc : ME} {Q : VK} (hf : OpL K mg r1 f) (hg : OpL K mg r2 g) (q : LfE K mg (mChain f g ma mb mc) σ H Q) :
    tChain r1 r2 (LfE K mg ma) (LfE K mg mb) (LfE K mg mc) σ H Q := by
  obtain ⟨r, S, e, w, S', ok, hm, k⟩ := q
  unfold mChain at hm
  split at hm
  · rename_i x S1 e1
    split at hm
    · rename_i y S2 e2
      refine ⟨r, S, e, x, S1, ok, e1, fun r1 H1 u x1 ok1 vu => ⟨r1, S1, e, y, S2, ok1, e2, fun r2 H2 v x2 ok2 vv => ?_⟩⟩
      split at hm
      · rename_i e3
        refine hf r2 S2 H2 x y _ u v _ ok2.rep (VR.mono x2 _ _ vu) vv e3 fun H3 t x3 R3 vt => ⟨true, vr_bl.mp vt, ?_⟩
        refine iteT ?_
        split at hm
        · rename_i z S3 e4
          split at hm
          · rename_i v2 e5
            cases hm
            refine ⟨r2, S2, e, z, S', ok2.mono x3 R3, e4, fun r4 H4 t4 x4 ok4 v4 => ?_⟩
            exact hg r4 S' H4 y z w v t4 Q ok4.rep (VR.mono (x3.trans x4) _ _ vv) v4 e5 fun H5 t5 x5 R5 v5 => k r4 H5 t5 (x1.trans (x2.trans (x3.trans (x4.trans x5)))) (ok4.mono x5 R5) v5
          · cases hm
        · cases hm
      · rename_i e3
        cases hm
        refine hf r2 S' H2 x y _ u v _ ok2.rep (VR.mono x2 _ _ vu) vv e3 fun H3 t x3 R3 vt => ⟨false, vr_bl.mp vt, ?_⟩
        refine iteF ?_
        exact k r2 H3 _ (x1.trans (x2.trans x3)) (ok2.mono x3 R3) (vr_bl.mpr rfl)
      · cases hm
    · cases hm
  · cases hm
theorem lf_nil {Q : List V → Hp → Prop} (q : LfA K mg aNil σ H Q) : L2.tNil σ H Q := by
  obtain ⟨r, S, e, w, S', ok, hm, k⟩ := q
  cases hm
  exact k r H [] Ex.refl ok VRs.nil
theorem lf_cons {ma : ME} {mr : MA} {Q : List V → Hp → Prop} (q : LfA K mg (aCons ma mr) σ H Q) : L2.tCons (LfE K mg ma) (LfA K mg mr) σ H Q := by
  obtain ⟨r, S, e, ws, S', ok, hm, k⟩ := q
  unfold aCons at hm
  split at hm
  · rename_i x S1 e1
    split at hm
    · rename_i xs S2 e2
      cases hm
      refine ⟨r, S, e, x, S1, ok, e1, fun r1 H1 u x1 ok1 vu => ⟨r1, S1, e, xs, S', ok1, e2, fun r2 H2 us x2 ok2 vv => ?_⟩⟩
      exact k r2 H2 (u :: us) (x1.trans x2) ok2 (VRs.cons (VR.mono x2 _ _ vu) vv)
    · cases hm
  · cases hm
theorem lf_tup {m : MA} {Q : VK} (q : LfE K mg (mTup m) σ H Q) : L2.tTup (LfA K mg m) σ H Q := by
  obtain ⟨r, S, e, w, S', ok, hm, k⟩ := q
  unfold mTup at hm
  split at hm
  · rename_i xs S1 e1
    split at hm
    · rename_i hl
      cases hm
      refine ⟨r, S, e, xs, S', ok, e1, fun r1 H1 us x1 ok1 vu => ⟨by rw [← vu.length]; exact lineK hl, fun p hp => ?_⟩⟩
      obtain ⟨R2, x2⟩ := ok1.rep.junk (ho := .tup us) hp
      exact k r1 _ _ (x1.trans x2) (ok1.mono x2 R2) (vr_tup.mpr ⟨p, us, rfl, upd_same, VRs.mono x2 _ _ vu⟩)
    · cases hm
  · cases hm
/-- a new list that the store does not name -/
theorem lf_lst {m : MA} {Q : VK} (hl : ∀ e S ws S', m e S = some (ws, S') → ws.length ≤ 100000) (q : LfL K mg m σ H Q) : L2.tLst (LfA K mg m) σ H Q := by
  obtain ⟨r, S, e, ws, S', ok, hm, k⟩ := q
  refine ⟨r, S, e, ws, S', ok, hm, fun r1 H1 us x1 ok1 vu => ⟨by rw [← vu.length]; exact lineK (hl _ _ _ _ hm), fun p hp => ?_⟩⟩
  obtain ⟨R2, x2⟩ := ok1.rep.junk (ho := .lst us) hp
  refine k r1 _ p us (x1.trans x2) (ok1.mono x2 R2) (fun i hi e => ?_) (x1.th _ hp) upd_same (VRs.mono x2 _ _ vu)
  obtain ⟨hu, g1, _⟩ := ok1.rep.ob i _ (List.getElem?_eq_getElem hi)
  rw [e, hp] at g1
  cases g1
/-- a list just made becomes an object -/
theorem lf_new {m : MA} {Q : VK} (q : LfE K mg (mNew m) σ H Q) : LfL K mg m σ H Q := by
  obtain ⟨r, S, e, w, S', ok, hm, k⟩ := q
  unfold mNew at hm
  split at hm
  · rename_i xs S1 e1
    split at hm
    · cases hm
      refine ⟨r, S, e, xs, S1, ok, e1, fun r1 H1 p us x1 ok1 hn h0 hp vu => ?_⟩
      have x2 : Ex0 r1 S1.length H1 (ext r1 S1.length p) (S1 ++ [Ob.lst xs]).length H1 := ⟨fun i hi => ext_lt hi, by rw [List.length_append]; exact Nat.le_add_right _ _, Keep.refl _⟩
      have x3 : Ex r S.length H (ext r1 S1.length p) (S1 ++ [Ob.lst xs]).length H1 := ⟨fun i hi => (ext_lt (Nat.lt_of_lt_of_le hi x1.le)).trans (x1.ag i hi), Nat.le_trans x1.le x2.le, x1.kp, x1.un, fun i g1 g2 => by
          by_cases hl : i < S1.length
          · rw [ext_lt hl]
            exact x1.fr i g1 hl
          · rw [List.length_append, List.length_singleton] at g2
            have : i = S1.length := by omega
            rw [this, ext_eq]
            exact h0, x1.th⟩
      have R2 : Rep K mg (ext r1 S1.length p) (S1 ++ [Ob.lst xs]) H1 := by
        refine ⟨fun i o hi => ?_, fun i j hi hj e => ?_⟩
        · by_cases hl : i < S1.length
          · rw [List.getElem?_append_left hl] at hi
            obtain ⟨hu, g1, g2⟩ := ok1.rep.ob i o hi
            exact ⟨hu, by rw [ext_lt hl]; exact g1, g2.mono0 x2⟩
          · rw [List.getElem?_append_right (Nat.le_of_not_lt hl)] at hi
            have h0 : i - S1.length = 0 := by
              by_cases z : i - S1.length = 0
              · exact z
              · rw [List.getElem?_eq_none (by simp; omega)] at hi
                cases hi
            have hi2 : i = S1.length := by omega
            subst hi2
            rw [h0] at hi
            cases hi
            exact ⟨_, by rw [ext_eq]; exact hp, us, rfl, VRs.mono0 x2 _ _ vu⟩
        · rw [List.length_append, List.length_singleton] at hi hj
          by_cases a : i < S1.length
          · by_cases b : j < S1.length
            · rw [ext_lt a, ext_lt b] at e
              exact ok1.rep.inj i j a b e
            · have hj2 : j = S1.length := by omega
              subst hj2
              rw [ext_lt a, ext_eq] at e
              exact (hn i a e).elim
          · have hi2 : i = S1.length := by omega
            subst hi2
            by_cases b : j < S1.length
            · rw [ext_lt b, ext_eq] at e
              exact (hn j b e.symm).elim
            · omega
      exact k _ H1 _ x3 (ok1.mono0 x2 R2) (vr_ref.mpr ⟨by rw [List.length_append]; exact Nat.lt_succ_self _, by rw [ext_eq]⟩)
    · cases hm
  · cases hm
end
section
variable {X : Cx} {a b c : Expr} {rest es : List Expr} {ma mb mc : ME} {mt mu : MT} {mr : MA} {pos : Pos}
theorem xe_one {op} (h : XE X a ma) : XE X (.BoolOp op [a] pos) ma := pe_one h
theorem xe_and (ha : XE X a ma) (hb : XE X (.BoolOp .And (b :: rest) pos) mb) : XE X (.BoolOp .And (a :: b :: rest) pos) (mAnd ma mb) := PEi (pe_and ha hb) fun _ _ _ q => lf_andV q
theorem xe_or (ha : XE X a ma) (hb : XE X (.BoolOp .Or (b :: rest) pos) mb) : XE X (.BoolOp .Or (a :: b :: rest) pos) (mOr ma mb) := PEi (pe_or ha hb) fun _ _ _ q => lf_orV q
theorem xe_not (ha : XE X a ma) : XE X (.UnaryOp .Not a pos) (mNot ma) := PEi (pe_not ha) fun _ _ _ q => lf_notV q
/-- a value as a test -/
theorem xt_val (ha : XE X a ma) (he : ∀ whole, isTrue a X.env whole = (do let v ← whole; standAt a.pos; holding [v] (truthy v)) := by intro _; rfl) : XT X a (tVal ma) := PTi (pt_val ha he) fun _ _ _ q => lf_tval q
/-- a comparison as a test -/
theorem xt_cmp {op : CmpOp} {r2 : R2} {f : W → W → Store → Option W} (ho : OpR X (compareOp op) r2) (hf : OpL X.K X.mg r2 f) (ha : XE X a ma) (hb : XE X b mb) (hm : behindInMarks op b = false) : XT X (.Compare a [op] [b] pos) (tVal (op2 f ma mb)) :=
  PTi (pt_cmpR ho ha hb hm) fun _ _ _ q => lf_op2 hf (lf_tval q)
theorem xt_isN {j pos'} (ha : XE X a ma) : XT X (.Compare a [.Is] [.Constant .none j pos'] pos) (tVal (op1 fIsN ma)) := PTi (pt_cmp (pc_isN ha)) fun σ H Q q =>
  lf_op1 (r1 := fun x H Q => Q (.bl (decide (x = .non))) H) (fun r S H x z u Q R hx e k => by
    unfold fIsN at e
    cases e
    show Q (.bl (decide (u = .non))) H
    rw [isNon_V hx]
    exact k H _ Ex.refl R (vr_bl.mpr rfl)) (lf_tval q)
theorem xt_notN {j pos'} (ha : XE X a ma) : XT X (.Compare a [.IsNot] [.Constant .none j pos'] pos) (tVal (op1 fNotN ma)) := PTi (pt_cmp (pc_notN ha)) fun σ H Q q =>
  lf_op1 (r1 := fun x H Q => Q (.bl (!decide (x = .non))) H) (fun r S H x z u Q R hx e k => by
    unfold fNotN at e
    cases e
    show Q (.bl (!decide (u = .non))) H
    rw [isNon_V hx]
    exact k H _ Ex.refl R (vr_bl.mpr rfl)) (lf_tval q)
theorem xt_lt (ha : XE X a ma) (hb : XE X b mb) : XT X (.Compare a [.Lt] [b] pos) (tVal (op2 fLt ma mb)) := xt_cmp op_lt (opl_ints0 fun i j z e r n H => by cases e; exact vr_bl.mpr rfl) ha hb (nomark _)
theorem xt_le (ha : XE X a ma) (hb : XE X b mb) : XT X (.Compare a [.LtE] [b] pos) (tVal (op2 fLe ma mb)) := xt_cmp op_le (opl_ints0 fun i j z e r n H => by cases e; exact vr_bl.mpr rfl) ha hb (nomark _)
theorem xt_gt (ha : XE X a ma) (hb : XE X b mb) : XT X (.Compare a [.Gt] [b] pos) (tVal (op2 fGt ma mb)) := xt_cmp op_gt (opl_ints0 fun i j z e r n H => by cases e; exact vr_bl.mpr rfl) ha hb (nomark _)
theorem xt_ge (ha : XE X a ma) (hb : XE X b mb) : XT X (.Compare a [.GtE] [b] pos) (tVal (op2 fGe ma mb)) := xt_cmp op_ge (opl_ints0 fun i j z e r n H => by cases e; exact vr_bl.mpr rfl) ha hb (nomark _)
theorem xt_eq (hu : X.A.units + 64 < cLine) (ha : XE X a ma) (hb : XE X b mb) : XT X (.Compare a [.Eq] [b] pos) (tVal (op2 fEq ma mb)) := xt_cmp (op_eqX hu) opl_eq ha hb (nomark _)
theorem xt_ne (hu : X.A.units + 64 < cLine) (ha : XE X a ma) (hb : XE X b mb) : XT X (.Compare a [.NotEq] [b] pos) (tVal (op2 fNe ma mb)) := xt_cmp (op_neX hu) opl_ne ha hb (nomark _)
theorem fIn_bl {x y z : W} {S : Store} (e : fIn x y S = some z) : ∃ b, z = W.bl b := by
  unfold fIn at e
  split at e
  · split at e
    · cases e; exact ⟨_, rfl⟩
    · cases e
  · split at e
    · cases e; exact ⟨_, rfl⟩
    · cases e
  · split at e
    · cases e; exact ⟨_, rfl⟩
    · cases e
  · split at e
    · split at e
      · cases e; exact ⟨_, rfl⟩
      · cases e
    · cases e
  · cases e
theorem xt_in (ha : XE X a ma) (hb : XE X b mb) (hm : behindInMarks .In b = false := by rfl) : XT X (.Compare a [.In] [b] pos) (tVal (op2 fIn ma mb)) := xt_cmp op_in_seq (opl_in (neg := false) fun x y S z e => by
  obtain ⟨b, rfl⟩ := fIn_bl e
  exact ⟨b, e, rfl⟩) ha hb hm
theorem xt_notIn (ha : XE X a ma) (hb : XE X b mb) (hm : behindInMarks .NotIn b = false := by rfl) : XT X (.Compare a [.NotIn] [b] pos) (tVal (op2 fNotIn ma mb)) := xt_cmp op_notIn_seq (opl_in (neg := true) fun x y S z e => negW_some e) ha hb hm
theorem xw_and1 (ha : XT X a mt) : XW X (.BoolOp .And [a] pos) mt := pw_and1 ha
theorem xw_or1 (ha : XT X a mt) : XW X (.BoolOp .Or [a] pos) mt := pw_or1 ha
theorem xw_and (ha : XT X a mt) (hb : XW X (.BoolOp .And (b :: rest) pos) mu) : XW X (.BoolOp .And (a :: b :: rest) pos) (tAnd mt mu) := PWi (pw_and ha hb) fun _ _ _ q => lf_tand q
theorem xw_or (ha : XT X a mt) (hb : XW X (.BoolOp .Or (b :: rest) pos) mu) : XW X (.BoolOp .Or (a :: b :: rest) pos) (tOr mt mu) := PWi (pw_or ha hb) fun _ _ _ q => lf_tor q
theorem xt_not (ha : XT X a mt) : XT X (.UnaryOp .Not a pos) (tNot mt) := PTi (pt_not ha) fun _ _ _ q => lf_tnot q
theorem xe_if (hc : XT X c mt) (ha : XE X a ma) (hb : XE X b mb) : XE X (.IfExp c a b pos) (mIf mt ma mb) := PEi (pe_ifExp hc ha hb) fun _ _ _ q => lf_mif q
theorem lm_le (c : Expr) : lastMarks [CmpOp.LtE, CmpOp.LtE] [b, c] = false := nomark c
theorem xe_chain {op op' : CmpOp} {r1 r2 : R2} {f g : W → W → Store → Option W} (ho : OpR X (compareOp op) r1) (ho' : OpR X (compareOp op') r2) (hf : OpL X.K X.mg r1 f) (hg : OpL X.K X.mg r2 g) (ha : XE X a ma) (hb : XE X b mb) (hc : XE X c mc) (hm : lastMarks [op, op'] [b, c] = false) : XE X (.Compare a [op, op'] [b, c] pos) (mChain f g ma mb mc) :=
  PEi (pe_chain ho ho' ha hb hc hm) fun _ _ _ q => lf_chain hf hg q
theorem opl_le {K : PySem.W.Frag} {mg : Str → Option Value} : OpL K mg (rI0 fun i j => .bl (decide (i ≤ j))) fLe := opl_ints0 fun i j z e r n H => by cases e; exact vr_bl.mpr rfl
theorem xe_lele (ha : XE X a ma) (hb : XE X b mb) (hc : XE X c mc) : XE X (.Compare a [.LtE, .LtE] [b, c] pos) (mChain fLe fLe ma mb mc) := xe_chain op_le op_le opl_le opl_le ha hb hc (lm_le c)
theorem xt_lele (ha : XE X a ma) (hb : XE X b mb) (hc : XE X c mc) : XT X (.Compare a [.LtE, .LtE] [b, c] pos) (tVal (mChain fLe fLe ma mb mc)) := PTi (pt_chain op_le op_le ha hb hc (lm_le c)) fun σ H Q q => by
  have q2 := lf_chain opl_le opl_le (lf_tval q)
  exact q2
theorem xa_nil : XA X [] aNil := PAi pa_nil fun _ _ _ q => lf_nil q
theorem xa_cons (ha : XE X a ma) (hr : XA X es mr) (hs : starEach (a :: es) X.env = (false, eval a X.env) :: starEach es X.env := by rfl) : XA X (a :: es) (aCons ma mr) := PAi (pa_cons ha hr hs) fun _ _ _ q => lf_cons q
theorem xe_tup {k} (h : XA X es mr) : XE X (.Tuple es k pos) (mTup mr) := PEi (pe_tup h) fun _ _ _ q => lf_tup q
theorem aMax_le {m : MA} {e : Env} {S S' : Store} {ws : List W} (h : aMax m e S = some (ws, S')) : ws.length ≤ 100000 := by
  unfold aMax at h
  split at h
  · split at h
    · rename_i hl
      cases h
      exact hl
    · cases h
  · cases h
theorem xa_max (h : XA X es mr) : XA X es (aMax mr) := PAi h fun σ H Q q => by
  obtain ⟨r, S, e, ws, S', ok, hm, k⟩ := q
  unfold aMax at hm
  split at hm
  · rename_i xs S1 e1
    split at hm
    · cases hm
      exact ⟨r, S, e, _, _, ok, e1, k⟩
    · cases hm
  · cases hm
theorem xl_lst (h : XA X es mr) : XL X (.List es pos) (aMax mr) := PEi (pe_lst (xa_max h)) fun _ _ _ q => lf_lst (fun _ _ _ _ h => aMax_le h) q
theorem xe_new (h : XL X a mr) : XE X a (mNew mr) := PEi h fun _ _ _ q => lf_new q
end
end Gm

set_option Elab.async false
set_option linter.all false
set_option maxRecDepth 100000
set_option maxHeartbeats 2000000
/-! Gm5: calls of built-ins, isinstance, an index, fields; assignments, blocks, if, return. -/
namespace Gm
open PySem PySem.Spec PyProof.Rows L2
section
variable {K : PySem.W.Frag} {mg : Str → Option Value} {σ : L2.St} {H : Hp} {r : Nat → Addr} {n : Nat}
theorem wBls_V : ∀ {ws : List W} {bs : List Bool} {us : List V}, VRs K mg r n H ws us → wBls ws = some bs → us = bs.map V.bl
  | [], bs, us, h, e => by
    unfold VRs at h
    unfold wBls at e
    cases e
    subst h
    rfl
  | w :: ws, bs, us, h, e => by
    unfold VRs at h
    obtain ⟨v, vs, rfl, h1, h2⟩ := h
    unfold wBls at e
    split at e
    · rename_i e0
      cases e0
    · rename_i b rest e0
      cases e0
      cases g : wBls ws with
      | none => rw [g] at e; cases e
      | some cs =>
        rw [g] at e
        cases e
        rw [wBls_V h2 g, vr_bl.mp h1]
        rfl
    · cases e
theorem wInts_V : ∀ {ws : List W} {bs : List Int} {us : List V}, VRs K mg r n H ws us → wInts ws = some bs → us = bs.map V.int
  | [], bs, us, h, e => by
    unfold VRs at h
    unfold wInts at e
    cases e
    subst h
    rfl
  | w :: ws, bs, us, h, e => by
    unfold VRs at h
    obtain ⟨v, vs, rfl, h1, h2⟩ := h
    unfold wInts at e
    split at e
    · rename_i e0
      cases e0
    · rename_i b rest e0
      cases e0
      cases g : wInts ws with
      | none => rw [g] at e; cases e
      | some cs =>
        rw [g] at e
        cases e
        rw [wInts_V h2 g, vr_int.mp h1]
        rfl
    · cases e
theorem seq_V {S : Store} {w : W} {v : V} {ws : List W} (R : Rep K mg r S H) (h : VR K mg r S.length H w v) (e : seqOf S w = some ws) : ∃ a us, v = .ref a ∧ (SqL K H a us ∨ SqT K H a us) ∧ VRs K mg r S.length H ws us := by
  unfold seqOf at e
  split at e
  · cases e
    obtain ⟨a, vs, rfl, h1, h2⟩ := vr_tup.mp h
    exact ⟨a, vs, rfl, .inr (SqT.of h1), h2⟩
  · cases e
    obtain ⟨a, vs, rfl, h1, h2⟩ := vr_cl.mp h
    exact ⟨a, vs, rfl, h1.sq, h2⟩
  · cases e
    obtain ⟨a, vs, rfl, h1, h2⟩ := vr_wt.mp h
    exact ⟨a, vs, rfl, .inr (.inr h1), h2⟩
  · split at e
    · rename_i hi
      cases e
      obtain ⟨hl, rfl⟩ := vr_ref.mp h
      obtain ⟨vs, h1, h2⟩ := R.lst hi
      exact ⟨_, vs, rfl, .inl (SqL.of h1), h2⟩
    · cases e
  · cases e
/-- one argument that is a new list -/
theorem lf_arg1 {m : MA} {rd : List V → Hp → VK → Prop} {Q : VK} (q : LfL K mg m σ H fun u H1 => rd [u] H1 Q) : tCB rd (L2.tCons (LfE K mg (mNew m)) L2.tNil) σ H Q → True := fun _ => trivial
end
section
variable {X : Cx} {a b c e : Expr} {es : List Expr} {ma mb : ME} {mr : MA} {pos p : Pos} {x : Str}
/-- a built-in of one argument: a new list -/
theorem pe_callL1 {id : String} {rdg : List V → Hp → VK → Prop} {t : TE} (hc : CallR X (.builtin id) rdg) (hg : Gl X x) (hm : X.mg x = none) (hv : bootBuiltins x = some (.builtin id)) (ha : PE X a t) (hn : x ≠ "__name__" := by decide) (hdb : (x == ("__debug__" : Str)) = false := by decide)
    (he : starEach [a] X.env = (false, eval a X.env) :: starEach [] X.env := by rfl) : PE X (.Call (.Name x p) [a] [] pos) (fun σ H Q => t σ H fun u H1 => rdg [u] H1 Q) :=
  PEi (pe_callB hc hg hm hv (pa_cons ha pa_nil he) hn hdb he) fun _ _ _ q => q
theorem pe_callL1T {id : String} {rdg : List V → Hp → VK → Prop} {t : TE} (hc : CallR X (.type id) rdg) (hg : Gl X x) (hm : X.mg x = none) (hv : bootBuiltins x = some (.type id)) (ha : PE X a t) (hn : x ≠ "__name__" := by decide) (hdb : (x == ("__debug__" : Str)) = false := by decide)
    (he : starEach [a] X.env = (false, eval a X.env) :: starEach [] X.env := by rfl) : PE X (.Call (.Name x p) [a] [] pos) (fun σ H Q => t σ H fun u H1 => rdg [u] H1 Q) :=
  PEi (pe_callTy hc hg hm hv (pa_cons ha pa_nil he) hn hdb he) fun _ _ _ q => q
theorem xe_all (hc : X.calm = true) (hg : Gl X "all") (hm : X.mg "all" = none) (ha : XL X a mr) (he : starEach [a] X.env = (false, eval a X.env) :: starEach [] X.env := by rfl) : XE X (.Call (.Name "all" p) [a] [] pos) (mAll mr) :=
  PEi (pe_callL1 (cr_all hc) hg hm boot_all ha (by decide) (by decide) he) fun σ H Q q => by
    obtain ⟨r, S, e, w, S', ok, hm, k⟩ := q
    unfold mAll at hm
    split at hm
    · rename_i xs S1 e1
      cases g : wBls xs with
      | none => rw [g] at hm; cases hm
      | some bs =>
        rw [g] at hm
        cases hm
        exact ⟨r, S, e, xs, S', ok, e1, fun r1 H1 q us x1 ok1 _ _ hq hu => ⟨q, bs, rfl, by rw [← wBls_V hu g]; exact SqL.of hq, k r1 H1 _ x1 ok1 (vr_bl.mpr rfl)⟩⟩
    · cases hm
theorem xe_any (hc : X.calm = true) (hg : Gl X "any") (hm : X.mg "any" = none) (ha : XL X a mr) (he : starEach [a] X.env = (false, eval a X.env) :: starEach [] X.env := by rfl) : XE X (.Call (.Name "any" p) [a] [] pos) (mAny mr) :=
  PEi (pe_callL1 (cr_any hc) hg hm boot_any ha (by decide) (by decide) he) fun σ H Q q => by
    obtain ⟨r, S, e, w, S', ok, hm, k⟩ := q
    unfold mAny at hm
    split at hm
    · rename_i xs S1 e1
      cases g : wBls xs with
      | none => rw [g] at hm; cases hm
      | some bs =>
        rw [g] at hm
        cases hm
        exact ⟨r, S, e, xs, S', ok, e1, fun r1 H1 q us x1 ok1 _ _ hq hu => ⟨q, bs, rfl, by rw [← wBls_V hu g]; exact SqL.of hq, k r1 H1 _ x1 ok1 (vr_bl.mpr rfl)⟩⟩
    · cases hm
/-- tuple(a new list) -/
theorem xe_tupL (hg : Gl X "tuple") (hm : X.mg "tuple" = none) (ha : XL X a mr) (he : starEach [a] X.env = (false, eval a X.env) :: starEach [] X.env := by rfl) : XE X (.Call (.Name "tuple" p) [a] [] pos) (mTup mr) :=
  PEi (pe_callL1T call_tuple_of hg hm PyProof.Rows.boot_tuple ha (by decide) (by decide) he) fun σ H Q q => by
    obtain ⟨r, S, e, w, S', ok, hm, k⟩ := q
    unfold mTup at hm
    split at hm
    · rename_i xs S1 e1
      split at hm
      · cases hm
        refine ⟨r, S, e, xs, S', ok, e1, fun r1 H1 q us x1 ok1 _ _ hq hu => ⟨q, us, rfl, .inl ⟨SqL.of hq, fun l hl => ?_⟩⟩⟩
        obtain ⟨R2, x2⟩ := ok1.rep.junk (ho := .tup us) hl
        exact k r1 _ _ (x1.trans x2) (ok1.mono x2 R2) (vr_tup.mpr ⟨l, us, rfl, upd_same, VRs.mono x2 _ _ hu⟩)
      · cases hm
    · cases hm
theorem xe_tupE (hg : Gl X "tuple") (hm : X.mg "tuple" = none) (ha : XE X a ma) (he : starEach [a] X.env = (false, eval a X.env) :: starEach [] X.env := by rfl) : XE X (.Call (.Name "tuple" p) [a] [] pos) (mTupOf ma) :=
  PEi (pe_callL1T call_tuple_of hg hm PyProof.Rows.boot_tuple ha (by decide) (by decide) he) fun σ H Q q => by
    obtain ⟨r, S, e, w, S', ok, hm, k⟩ := q
    unfold mTupOf at hm
    split at hm
    · rename_i xs S1 e1
      cases hm
      refine ⟨r, S, e, _, _, ok, e1, fun r1 H1 u x1 ok1 hu => ?_⟩
      obtain ⟨q, vs, rfl, h1, h2⟩ := vr_tup.mp hu
      exact ⟨q, vs, rfl, .inr ⟨SqT.of h1, k r1 H1 _ x1 ok1 hu⟩⟩
    · rename_i i S1 e1
      split at hm
      · rename_i ws hi
        cases hm
        refine ⟨r, S, e, _, _, ok, e1, fun r1 H1 u x1 ok1 hu => ?_⟩
        obtain ⟨hl, rfl⟩ := vr_ref.mp hu
        obtain ⟨vs, h1, h2⟩ := ok1.rep.lst hi
        refine ⟨_, vs, rfl, .inl ⟨SqL.of h1, fun l hl => ?_⟩⟩
        obtain ⟨R2, x2⟩ := ok1.rep.junk (ho := .tup vs) hl
        exact k r1 _ _ (x1.trans x2) (ok1.mono x2 R2) (vr_tup.mpr ⟨l, vs, rfl, upd_same, VRs.mono x2 _ _ h2⟩)
      · cases hm
    · cases hm
/-- list(x) of a sequence -/
theorem xl_list (hg : Gl X "list") (hm : X.mg "list" = none) (ha : XE X a ma) (he : starEach [a] X.env = (false, eval a X.env) :: starEach [] X.env := by rfl) : XL X (.Call (.Name "list" p) [a] [] pos) (aSeq ma) :=
  PEi (pe_callL1T call_list_of hg hm PyProof.Rows.boot_list ha (by decide) (by decide) he) fun σ H Q q => by
    obtain ⟨r, S, e, w, S', ok, hm, k⟩ := q
    unfold aSeq at hm
    split at hm
    · rename_i y S1 e1
      cases g : seqOf S1 y with
      | none => rw [g] at hm; cases hm
      | some ws =>
        rw [g] at hm
        cases hm
        refine ⟨r, S, e, y, S', ok, e1, fun r1 H1 u x1 ok1 hu => ?_⟩
        obtain ⟨q, us, rfl, h1, h2⟩ := seq_V ok1.rep hu g
        refine ⟨q, us, rfl, h1, fun l hl => ?_⟩
        obtain ⟨R2, x2⟩ := ok1.rep.junk (ho := .lst us) hl
        refine k r1 _ l us (x1.trans x2) (ok1.mono x2 R2) (fun i hi e => ?_) (x1.th _ hl) upd_same (VRs.mono x2 _ _ h2)
        obtain ⟨hu, g1, _⟩ := ok1.rep.ob i _ (List.getElem?_eq_getElem hi)
        rw [e, hl] at g1
        cases g1
    · cases hm
theorem xe_lenL (hg : Gl X "len") (hm : X.mg "len" = none) (ha : XL X a mr) (he : starEach [a] X.env = (false, eval a X.env) :: starEach [] X.env := by rfl) : XE X (.Call (.Name "len" p) [a] [] pos) (mLenL mr) :=
  PEi (pe_callL1 call_len_seq hg hm PySem.boot_len ha (by decide) (by decide) he) fun σ H Q q => by
    obtain ⟨r, S, e, w, S', ok, hm, k⟩ := q
    unfold mLenL at hm
    split at hm
    · rename_i xs S1 e1
      cases hm
      exact ⟨r, S, e, xs, S', ok, e1, fun r1 H1 q us x1 ok1 _ _ hq hu => ⟨q, us, rfl, .inl (SqL.of hq), by rw [← hu.length]; exact k r1 H1 _ x1 ok1 (vr_int.mpr rfl)⟩⟩
    · cases hm
theorem xe_sumE (hc : X.calm = true) (hg : Gl X "sum") (hm : X.mg "sum" = none) (ha : XE X a ma) (he : starEach [a] X.env = (false, eval a X.env) :: starEach [] X.env := by rfl) : XE X (.Call (.Name "sum" p) [a] [] pos) (mSumE ma) :=
  PEi (pe_callL1 (cr_sum hc) hg hm PyProof.Rows.boot_sum ha (by decide) (by decide) he) fun σ H Q q => lf_op1 (r1 := fun u H Q => rSum X.K [u] H Q) (fun r S H x z u Q R hx e k => by
    split at e
    · rename_i ws h1
      split at e
      · rename_i i
        cases g : wInts ws with
        | none => rw [g] at e; cases e
        | some ns =>
          rw [g] at e
          cases e
          unfold seqOf at h1
          simp only at h1
          split at h1
          · rename_i hi
            cases h1
            obtain ⟨hl, rfl⟩ := vr_ref.mp hx
            obtain ⟨vs, h2, h3⟩ := R.lst hi
            exact ⟨_, ns, rfl, by rw [← wInts_V h3 g]; exact SqL.of h2, k H _ Ex.refl R (vr_int.mpr rfl)⟩
          · cases h1
      · cases e
    · cases e) q

/-! ### len -/
theorem CallR.or {f : Value} {r1 r2 : List V → Hp → VK → Prop} (h1 : CallR X f r1) (h2 : CallR X f r2) : CallR X f (fun vs H Q => r1 vs H Q ∨ r2 vs H Q) := by
  intro pins s σ H xs us Q I r h
  rcases h with h | h
  · exact h1 pins s σ H xs us Q I r h
  · exact h2 pins s σ H xs us Q I r h
theorem KR.length {κ : Type} {ko : W → Option κ} {K : PySem.W.Frag} {mg : Str → Option Value} {r : Nat → Addr} {n : Nat} {H : Hp} : ∀ {ws : List (W × W)} {vs : List (κ × V)}, KR K mg ko r n H ws vs → ws.length = vs.length
  | [], vs, h => by
    unfold KR at h
    subst h
    rfl
  | (k, w) :: ws, vs, h => by
    unfold KR at h
    obtain ⟨q, v, us, rfl, _, _, h2⟩ := h
    rw [List.length_cons, List.length_cons, KR.length h2]
def rLenX (K : PySem.W.Frag) : List V → Hp → VK → Prop := fun xs H Q => (∃ z, xs = [.str z] ∧ z.length ≤ sizeLine ∧ Q (.int z.length) H) ∨ (∃ p ys, xs = [.ref p] ∧ (SqL K H p ys ∨ SqT K H p ys) ∧ Q (.int ys.length) H) ∨
  (∃ d kvs, xs = [.ref d] ∧ H d = some (.dK kvs) ∧ Q (.int kvs.length) H) ∨ ∃ d kvs, xs = [.ref d] ∧ H d = some (.dT kvs) ∧ Q (.int kvs.length) H
theorem call_lenX : CallR X (.builtin "len") (rLenX X.K) := CallR.or call_len_str (CallR.or call_len_seq (CallR.or call_lenD call_len_dT))
theorem xe_len (hg : Gl X "len") (hm : X.mg "len" = none) (ha : XE X a ma) (he : starEach [a] X.env = (false, eval a X.env) :: starEach [] X.env := by rfl) : XE X (.Call (.Name "len" p) [a] [] pos) (mLen ma) :=
  PEi (pe_callL1 call_lenX hg hm PySem.boot_len ha (by decide) (by decide) he) fun σ H Q q => lf_op1 (r1 := fun u H Q => rLenX X.K [u] H Q) (fun r S H x z u Q R hx e k => by
    split at e
    · rename_i s
      split at e
      · rename_i hl
        cases e
        exact .inl ⟨s, by rw [vr_str.mp hx], lineK hl, k H _ Ex.refl R (vr_int.mpr rfl)⟩
      · cases e
    · rename_i i
      obtain ⟨hl, rfl⟩ := vr_ref.mp hx
      split at e
      · rename_i ws hi
        cases e
        obtain ⟨vs, h1, h2⟩ := R.lst hi
        exact .inr (.inl ⟨_, vs, rfl, .inl (SqL.of h1), by rw [← h2.length]; exact k H _ Ex.refl R (vr_int.mpr rfl)⟩)
      · rename_i tg kvs hi
        have e' := Option.some.inj e
        subst e'
        obtain ⟨ho, h1, h2⟩ := R.ob _ _ hi
        cases tg with
        | false =>
          obtain ⟨ks, rfl, h2⟩ := h2
          exact .inr (.inr (.inl ⟨_, ks, rfl, h1, by rw [← KR.length h2]; exact k H _ Ex.refl R (vr_int.mpr rfl)⟩))
        | true =>
          obtain ⟨ks, rfl, h2⟩ := h2
          exact .inr (.inr (.inr ⟨_, ks, rfl, h1, by rw [← KR.length h2]; exact k H _ Ex.refl R (vr_int.mpr rfl)⟩))
      · cases e
    · obtain ⟨q, vs, rfl, h1, h2⟩ := vr_tup.mp hx
      cases e
      exact .inr (.inl ⟨q, vs, rfl, .inr (SqT.of h1), by rw [← h2.length]; exact k H _ Ex.refl R (vr_int.mpr rfl)⟩)
    · obtain ⟨q, vs, rfl, h1, h2⟩ := vr_cl.mp hx
      cases e
      exact .inr (.inl ⟨q, vs, rfl, h1.sq, by rw [← h2.length]; exact k H _ Ex.refl R (vr_int.mpr rfl)⟩)
    · obtain ⟨q, vs, rfl, h1, h2⟩ := vr_wt.mp hx
      cases e
      exact .inr (.inl ⟨q, vs, rfl, .inr (.inr h1), by rw [← h2.length]; exact k H _ Ex.refl R (vr_int.mpr rfl)⟩)
    · cases e) q

/-! ### an index -/
theorem ixN_eq (n : Nat) (i : Int) : ixN n i = L2.ixN n i := rfl
theorem xe_ix (ha : XE X a ma) (hb : XE X b mb) (hs : PlainIx b := by exact fun _ _ => rfl) : XE X (.Subscript a b pos) (op2 fIx ma mb) :=
  PEi (pe_ix ix_seq ha hb hs) fun σ H Q q => lf_op2 (fun r S H x y z u v Q R hx hy e k => by
    unfold fIx at e
    split at e
    · rename_i i
      split at e
      · rename_i ws h1
        obtain ⟨q, us, rfl, h2, h3⟩ := seq_V R hx h1
        cases g : ixN ws.length i with
        | none => rw [g] at e; cases e
        | some j =>
          rw [g] at e
          obtain ⟨v1, e1, e2⟩ := h3.get (show ws[j]? = some z from e)
          have e3 : atI us i = some v1 := by
            unfold atI
            rw [← ixN_eq, ← h3.length, g]
            exact e1
          have q2 := k H _ Ex.refl R e2
          rcases h2 with h2 | h2
          · exact .inl ⟨q, us, i, v1, rfl, vr_int.mp hy, h2, e3, q2⟩
          · exact .inr (.inl ⟨q, us, i, v1, rfl, vr_int.mp hy, h2, e3, q2⟩)
      · cases e
    · cases e) q

/-! ### isinstance -/
theorem tyW_cases {S : Store} {x : W} {t : String} (e : tyW S x = some t) : t = "NoneType" ∨ t = "bool" ∨ t = "int" ∨ t = "str" ∨ t = "tuple" ∨ t = "list" ∨ t = "dict" := by
  unfold tyW at e
  split at e
  · cases e; simp
  · cases e; simp
  · cases e; simp
  · cases e; simp
  · cases e; simp
  · cases e; simp
  · split at e
    · cases e; simp
    · cases e; simp
    · cases e
  · cases e
theorem tyX {K : PySem.W.Frag} {mg : Str → Option Value} {r : Nat → Addr} {H : Hp} {S : Store} {x : W} {u : V} {t : String} (R : Rep K mg r S H) (h : VR K mg r S.length H x u) (e : tyW S x = some t) : TyX K H u (.type t) := by
  unfold tyW at e
  split at e
  · cases e; cases vr_non.mp h; exact .base .non
  · cases e; cases vr_bl.mp h; exact .base (.bl _)
  · cases e; cases vr_int.mp h; exact .base (.int _)
  · cases e; cases vr_str.mp h; exact .base (.str _)
  · cases e
    obtain ⟨a, vs, rfl, h1, h2⟩ := vr_tup.mp h
    exact .base (.tup h1)
  · cases e
    obtain ⟨a, vs, rfl, ⟨o, its, n, q1, q2, q3, q4, q5⟩, h2⟩ := vr_wt.mp h
    exact .kTuple q1 q2
  · obtain ⟨hl, rfl⟩ := vr_ref.mp h
    split at e
    · rename_i hi
      cases e
      obtain ⟨vs, h1, h2⟩ := R.lst hi
      exact .base (.lst h1)
    · rename_i tg kvs hi
      have e' := Option.some.inj e
      subst e'
      obtain ⟨ho, h1, h2⟩ := R.ob _ _ hi
      cases tg with
      | false =>
        obtain ⟨ks, rfl, h2⟩ := h2
        exact .base (.dK h1)
      | true =>
        obtain ⟨ks, rfl, h2⟩ := h2
        exact .base (.dT h1)
    · cases e
  · cases e
/-- the class that is asked for -/
def AskTy (c : String) : Prop := c = "int" ∨ c = "bool" ∨ c = "str" ∨ c = "list" ∨ c = "tuple" ∨ c = "dict"
theorem kit_all {K : PySem.W.Frag} {t c : String} (ht : t = "NoneType" ∨ t = "bool" ∨ t = "int" ∨ t = "str" ∨ t = "tuple" ∨ t = "list" ∨ t = "dict") (hc : AskTy c) : PySem.W.kitOne K (.type t) (.type c) = some (isTy c t) := by
  rcases ht with rfl | rfl | rfl | rfl | rfl | rfl | rfl <;> rcases hc with rfl | rfl | rfl | rfl | rfl | rfl <;> exact kit_ty (by decide +kernel)
theorem xe_isi {T : String} {pT : Pos} {y : Str} (hg : Gl X "isinstance") (hm : X.mg "isinstance" = none) (ha : XE X a ma) (hgT : Gl X y) (hmT : X.mg y = none) (hvT : bootBuiltins y = some (.type T)) (hT : AskTy T) (hn : y ≠ "__name__") (hdb : (y == ("__debug__" : Str)) = false)
    (he : starEach [a, .Name y pT] X.env = (false, eval a X.env) :: starEach [.Name y pT] X.env := by rfl) : XE X (.Call (.Name "isinstance" p) [a, .Name y pT] [] pos) (op1 (fIs T) ma) :=
  PEi (pe_callB call_isi hg hm boot_isinstance (pa_cons ha (pa_cons (pe_bltn (v := .ty T) hgT hmT hvT rfl hn hdb) pa_nil) he) (by decide) (by decide) he) fun σ H Q q =>
    lf_op1 (r1 := fun u H Q => rIsi X.K [u, .ty T] H Q) (fun r S H x z u Q R hx e k => by
      unfold fIs at e
      cases g : tyW S x with
      | none => rw [g] at e; cases e
      | some t =>
        rw [g] at e
        cases e
        exact ⟨u, .ty T, _, _, isTy T t, rfl, .ty T, tyX R hx g, kit_all (tyW_cases g) hT, k H _ Ex.refl R (vr_bl.mpr rfl)⟩) q
theorem xe_isi2 {T U : String} {pT pU pt : Pos} {y z : Str} {kt} (hg : Gl X "isinstance") (hm : X.mg "isinstance" = none) (ha : XE X a ma) (hgT : Gl X y) (hmT : X.mg y = none) (hvT : bootBuiltins y = some (.type T)) (hT : AskTy T) (hn : y ≠ "__name__") (hdb : (y == ("__debug__" : Str)) = false)
    (hgU : Gl X z) (hmU : X.mg z = none) (hvU : bootBuiltins z = some (.type U)) (hU : AskTy U) (hnU : z ≠ "__name__") (hdbU : (z == ("__debug__" : Str)) = false)
    (he : starEach [a, .Tuple [.Name y pT, .Name z pU] kt pt] X.env = (false, eval a X.env) :: starEach [.Tuple [.Name y pT, .Name z pU] kt pt] X.env := by rfl) : XE X (.Call (.Name "isinstance" p) [a, .Tuple [.Name y pT, .Name z pU] kt pt] [] pos) (op1 (fIs2 T U) ma) :=
  PEi (pe_callB call_isiT hg hm boot_isinstance (pa_cons ha (pa_cons (pe_tup (pa_cons (pe_bltn (v := .ty T) hgT hmT hvT rfl hn hdb) (pa_cons (pe_bltn (v := .ty U) hgU hmU hvU rfl hnU hdbU) pa_nil))) pa_nil) he) (by decide) (by decide) he) fun σ H Q q =>
    lf_op1 (r1 := fun u H Q => (2 : Nat) ≤ sizeLine ∧ ∀ p, H p = none → rIsiT X.K [u, .ref p] (upd H p (.tup [.ty T, .ty U])) Q) (fun r S H x z u Q R hx e k => by
      unfold fIs2 at e
      cases g : tyW S x with
      | none => rw [g] at e; cases e
      | some t =>
        rw [g] at e
        cases e
        refine ⟨by decide, fun p hp => ?_⟩
        obtain ⟨R2, x2⟩ := R.junk (ho := .tup [.ty T, .ty U]) hp
        refine ⟨u, p, [.ty T, .ty U], _, [.type T, .type U], isTy T t || isTy U t, rfl, upd_same, .cons (.ty T) (.cons (.ty U) .nil), tyX R2 (VR.mono x2 _ _ hx) g, ?_, k _ _ x2 R2 (vr_bl.mpr rfl)⟩
        have k1 := kit_all (K := X.K) (tyW_cases g) hT
        have k2 := kit_all (K := X.K) (tyW_cases g) hU
        refine kitAny_cons k1 (fun h1 => ?_) (fun h1 => by rw [h1]; rfl)
        rw [h1, Bool.false_or]
        refine kitAny_cons k2 (fun h2 => ?_) (fun h2 => h2)
        rw [h2]
        exact kitAny_nil) q
end
end Gm

set_option Elab.async false
set_option linter.all false
set_option maxRecDepth 100000
set_option maxHeartbeats 2000000
/-! Gm6: fields; targets, assignments, blocks, if, return; for, while; comprehensions; calls, methods, new instances; a def by its body. -/
namespace Gm
open PySem PySem.Spec PyProof.Rows L2
/-! ### fields -/
/-- what is known of the classes whose field f is read or stored -/
def HasFld (K : PySem.W.Frag) (mg : Str → Option Value) (cs : List Str) (f : Str) : Prop := ∀ c ∈ cs, ∀ C, mg c = some (.ref C) → Cls K C ∧ NoAttr K C f
section
variable {X : Cx} {a b c o e value : Expr} {es : List Expr} {ma mb mo mv : ME} {mr : MA} {mt : MT} {pos p pos' tpos : Pos} {x f : Str} {cs : List Str} {sa sb : MS} {st : Stmt} {sts rest : List Stmt} {g : MG}
theorem xe_fld (hF : HasFld X.K X.mg cs f) (he : XE X e ma) (hb : attributeBase e f X.env (eval e X.env) = eval e X.env := by rfl) : XE X (.Attribute e f pos) (op1 (fld cs f) ma) :=
  PEi (pe_fld he hb) fun σ H Q q => lf_op1 (r1 := fun x H1 Q => ∃ a C dx fs v, x = .ref a ∧ H1 a = some (.ins C dx fs) ∧ Cls X.K C ∧ NoAttr X.K C f ∧ fs.lookup f = some v ∧ Q v H1) (fun r S H x z u Q R hx e k => by
    unfold fld at e
    split at e
    · rename_i i
      obtain ⟨hl, rfl⟩ := vr_ref.mp hx
      split at e
      · rename_i c fs hi
        split at e
        · rename_i hc
          obtain ⟨C, dx, us, h1, h2, h3⟩ := R.ins hi
          obtain ⟨v, h4, h5⟩ := h3.look e
          obtain ⟨k1, k2⟩ := hF c hc C h2
          exact ⟨_, C, dx, us, v, rfl, h1, k1, k2, h4, k H v Ex.refl R h5⟩
        · cases e
      · cases e
    · cases e) q
theorem xs_fld (hF : HasFld X.K X.mg cs f) (ha : XE X o mo) (hv : XE X value mv) (hs : swapsWith value (some (.Attribute o f pos')) pos.line X.env = pure false := by rfl) : XS X (.Assign [.Attribute o f pos'] value pos) (sFld cs mo f mv) :=
  PSi (ps_fld ha hv hs) fun D σ H q => by
    obtain ⟨r, S, e, fl, S', ok, hm, k⟩ := q
    unfold sFld at hm
    split at hm
    · rename_i w S1 e1
      split at hm
      · rename_i i S2 e2
        split at hm
        · rename_i c fs hi
          split at hm
          · rename_i hc
            cases hm
            refine ⟨r, S, e, w, S1, ok, e1, fun r1 H1 u x1 ok1 hu => ⟨r1, S1, e, _, S2, ok1, e2, fun r2 H2 v x2 ok2 hv => ?_⟩⟩
            obtain ⟨hl, rfl⟩ := vr_ref.mp hv
            obtain ⟨C, dx, us, h1, h2, h3⟩ := ok2.rep.ins hi
            obtain ⟨k1, k2⟩ := hF c hc.1 C h2
            refine ⟨_, C, dx, us, rfl, h1, k1, k2, by rw [← h3.length]; exact hc.2, ?_⟩
            obtain ⟨R3, x3⟩ := ok2.rep.set (o' := .ins c (putF f w fs)) (ho' := .ins C dx (L2.putF f u us)) hi ⟨C, dx, _, rfl, h2, h3.put (VR.mono x2 _ _ hu)⟩
            exact k r2 _ σ (x1.trans (x2.trans x3)) (ok2.mono x3 R3)
          · cases hm
        · cases hm
      · cases hm
    · cases hm
/-! ### targets -/
theorem xg_of {i : Nat} (h : PG X e (L2.gName i)) : XG X e (gName i) := PGi h fun v σ H Q q => by
  obtain ⟨r, S, e, w, e', S', ok, hv, hm, k⟩ := q
  cases hm
  exact k r H _ Ex.refl (ok.set i hv)
theorem xg_name {i : Nat} (hN : X.N.Nodup) (hi : X.N[i]? = some x) (hx : Loc X.env.scope x) (hf : X.fn x = true ∨ X.env.scope.names.lookup x = some .local := by first | exact .inl rfl | exact .inr rfl | assumption) : XG X (.Name x pos) (gName i) := xg_of (pg_name hN hi hx hf)
theorem xgs_nil : XGs X [] gNil := PGsi pgs_nil fun v σ H Q q => by
  obtain ⟨r, S, e, ws, e', S', ok, hv, hm, k⟩ := q
  unfold gNil at hm
  split at hm
  · cases hm
    unfold VRs at hv
    exact ⟨hv, k r H σ Ex.refl ok⟩
  · cases hm
theorem xgs_cons {gr : List W → Env → Store → R Env} (h1 : XG X e g) (h2 : XGs X es gr) (hs : (assignEach (e :: es) X.env).map (·.2) = assign e X.env :: (assignEach es X.env).map (·.2) := by rfl) : XGs X (e :: es) (gCons g gr) := PGsi (pgs_cons h1 h2 hs) fun v σ H Q q => by
  obtain ⟨r, S, e, ws, e', S', ok, hv, hm, k⟩ := q
  unfold gCons at hm
  split at hm
  · rename_i w ws
    unfold VRs at hv
    obtain ⟨v1, us, rfl, h3, h4⟩ := hv
    split at hm
    · rename_i e1 S1 g1
      exact ⟨v1, us, rfl, r, S, e, w, e1, S1, ok, h3, g1, fun r1 H1 σ1 x1 ok1 => ⟨r1, S1, e1, ws, e', S', ok1, VRs.mono x1 _ _ h4, hm, fun r2 H2 σ2 x2 ok2 => k r2 H2 σ2 (x1.trans x2) ok2⟩⟩
    · cases hm
  · cases hm
theorem xg_tup {kt n : Nat} {gr : List W → Env → Store → R Env} (hc : X.calm = true) (h : XGs X es gr) (hn : (assignEach es X.env).length = n := by rfl) (hst : (assignEach es X.env).findIdx? (·.1) = none := by rfl) : XG X (.Tuple es kt pos) (gTupN n gr) := PGi (pg_tup hc h hn hst) fun v σ H Q q => by
  obtain ⟨r, S, e, w, e', S', ok, hv, hm, k⟩ := q
  unfold gTupN at hm
  split at hm
  · split at hm
    · rename_i ws hl
      obtain ⟨a, vs, rfl, h1, h2⟩ := vr_tup.mp hv
      exact ⟨a, vs, rfl, SqT.of h1, by rw [← h2.length]; exact hl, r, S, e, ws, e', S', ok, h2, hm, k⟩
    · cases hm
  · cases hm
/-! ### assignments, blocks -/
theorem xs_asg (he : XE X value mv) (hg : XG X e g) (hs : swapsWithSole [e] value pos.line X.env = pure false := by rfl) (hw : swappedStores [e] value X.env = pure none := by rfl)
    (h1 : (assignEach [e] X.env).map (·.2) = [assign e X.env] := by rfl) : XS X (.Assign [e] value pos) (sAsg mv g) := PSi (ps_asg he hg hs hw h1) fun D σ H q => by
  obtain ⟨r, S, e, fl, S', ok, hm, k⟩ := q
  unfold sAsg at hm
  split at hm
  · rename_i w S1 e1
    split at hm
    · rename_i e2 S2 g1
      cases hm
      exact ⟨r, S, e, w, S1, ok, e1, fun r1 H1 u x1 ok1 hu => ⟨r1, S1, e, w, e2, S', ok1, hu, g1, fun r2 H2 σ2 x2 ok2 => k r2 H2 σ2 (x1.trans x2) ok2⟩⟩
    · cases hm
  · cases hm
/-- name = value -/
theorem xs_set {i : Nat} (hN : X.N.Nodup) (hi : X.N[i]? = some x) (hx : Loc X.env.scope x) (he : XE X value mv) (hs : swapsWith value (some (.Name x pos')) pos.line X.env = pure false := by rfl) (hf : X.fn x = true ∨ X.env.scope.names.lookup x = some .local := by first | exact .inl rfl | exact .inr rfl | assumption) :
    XS X (.Assign [.Name x pos'] value pos) (sAsg mv (gName i)) := PSi (ps_set hN hi hx he hs hf) fun D σ H q => by
  obtain ⟨r, S, e, fl, S', ok, hm, k⟩ := q
  unfold sAsg at hm
  split at hm
  · rename_i w S1 e1
    simp only [gName] at hm
    cases hm
    exact ⟨r, S, e, w, S', ok, e1, fun r1 H1 u x1 ok1 hu => k r1 H1 _ x1 (ok1.set i hu)⟩
  · cases hm
theorem xs_expr (he : XE X e ma) (hs : swapsWith e none pos.line X.env = pure false := by rfl) : XS X (.Expr e pos) (sDrop ma) := PSi (ps_expr he hs) fun D σ H q => by
  obtain ⟨r, S, e, fl, S', ok, hm, k⟩ := q
  unfold sDrop at hm
  split at hm
  · rename_i w S1 e1
    cases hm
    exact ⟨r, S, e, w, S', ok, e1, fun r1 H1 u x1 ok1 hu => k r1 H1 σ x1 ok1⟩
  · cases hm
theorem xs_ret (he : XE X e ma) : XS X (.Return (some e) pos) (sRet ma) := PSi (ps_ret he) fun D σ H q => by
  obtain ⟨r, S, e, fl, S', ok, hm, k⟩ := q
  unfold sRet at hm
  split at hm
  · rename_i w S1 e1
    cases hm
    exact ⟨r, S, e, w, S', ok, e1, fun r1 H1 u x1 ok1 hu => k r1 H1 u x1 ok1.rep hu⟩
  · cases hm
theorem xs_retN : XS X (.Return none pos) (sRet (mC .non)) := PSi ps_retN fun D σ H q => by
  obtain ⟨r, S, e, fl, S', ok, hm, k⟩ := q
  cases hm
  exact k r H _ Ex.refl ok.rep (vr_non.mpr rfl)
theorem xs_doc {y j} : XS X (.Expr (.Constant (.str y) j pos) pos') sNil := PSi ps_doc fun D σ H q => by
  obtain ⟨r, S, e, fl, S', ok, hm, k⟩ := q
  cases hm
  exact k r H σ Ex.refl ok
theorem xs_pass : XS X (.Pass pos) sNil := PSi ps_pass fun D σ H q => by
  obtain ⟨r, S, e, fl, S', ok, hm, k⟩ := q
  cases hm
  exact k r H σ Ex.refl ok
theorem xs_never : XS X st sNever := PSi ps_never fun D σ H q => by
  obtain ⟨r, S, e, fl, S', ok, hm, k⟩ := q
  cases hm
theorem xs_break : XS X (.Break pos) sBreak := PSi ps_break fun D σ H q => by
  obtain ⟨r, S, e, fl, S', ok, hm, k⟩ := q
  cases hm
  exact k r H σ Ex.refl ok
theorem xs_cont : XS X (.Continue pos) sCont := PSi ps_continue fun D σ H q => by
  obtain ⟨r, S, e, fl, S', ok, hm, k⟩ := q
  cases hm
  exact k r H σ Ex.refl ok
theorem xss_nil : XSs X [] sNil := PSsi pss_nil fun D σ H q => by
  obtain ⟨r, S, e, fl, S', ok, hm, k⟩ := q
  cases hm
  exact k r H σ Ex.refl ok
theorem xss_one (h : XS X st sa) : XSs X [st] sa := pss_one h
theorem xss_cons (h1 : XS X st sa) (h2 : XSs X rest sb) : XSs X (st :: rest) (sSeq2 sa sb) := PSsi (pss_cons h1 h2) fun D σ H q => by
  obtain ⟨r, S, e, fl, S', ok, hm, k⟩ := q
  unfold sSeq2 at hm
  split at hm
  · rename_i e1 S1 g1
    exact ⟨r, S, e, .nx e1, S1, ok, g1, fun r1 H1 σ1 x1 ok1 => ⟨r1, S1, e1, fl, S', ok1, hm, k.pre x1⟩⟩
  · rename_i hne
    refine ⟨r, S, e, fl, S', ok, hm, ?_⟩
    cases fl with
    | nx e2 => exact (hne _ _ hm).elim
    | rt w => exact k
    | bk e2 => exact k
    | ct e2 => exact k
theorem xs_if (hc : XT X c mt) (ha : XSs X sts sa) (hb : XSs X rest sb) : XS X (.If c sts rest pos) (sIf mt sa sb) := PSi (ps_if hc ha hb) fun D σ H q => by
  obtain ⟨r, S, e, fl, S', ok, hm, k⟩ := q
  unfold sIf at hm
  split at hm
  · rename_i S1 e1
    refine ⟨r, S, e, true, S1, ok, e1, fun r1 H1 x1 ok1 => ?_⟩
    refine iteT ?_
    exact ⟨r1, S1, e, fl, S', ok1, hm, k.pre x1⟩
  · rename_i S1 e1
    refine ⟨r, S, e, false, S1, ok, e1, fun r1 H1 x1 ok1 => ?_⟩
    refine iteF ?_
    exact ⟨r1, S1, e, fl, S', ok1, hm, k.pre x1⟩
  · cases hm
theorem xs_par {i j : Nat} {y : Str} {px py pt : Pos} {kt k2 pt2} (hc : X.calm = true) (hN : X.N.Nodup) (hi : X.N[i]? = some x) (hj : X.N[j]? = some y) (hij : i ≠ j)
    (hx : X.env.scope.names.lookup x = some .local) (hy : X.env.scope.names.lookup y = some .local) (ha : XA X [a, b] mr)
    (hw : swappedStores [.Tuple [.Name x px, .Name y py] kt pt] (.Tuple [a, b] k2 pt2) X.env = pure (some [x, y]))
    (hs : swapsWithSole [.Tuple [.Name x px, .Name y py] kt pt] (.Tuple [a, b] k2 pt2) pos.line X.env = pure false := by rfl) :
    XS X (.Assign [.Tuple [.Name x px, .Name y py] kt pt] (.Tuple [a, b] k2 pt2) pos) (sPar i j mr) := PSi (ps_par hc hN hi hj hij hx hy ha hw hs) fun D σ H q => by
  obtain ⟨r, S, e, fl, S', ok, hm, k⟩ := q
  unfold sPar at hm
  split at hm
  · rename_i v w S1 e1
    cases hm
    refine ⟨r, S, e, _, S', ok, e1, fun r1 H1 us x1 ok1 hu => ?_⟩
    unfold VRs at hu
    obtain ⟨u1, us1, rfl, h1, hu⟩ := hu
    unfold VRs at hu
    obtain ⟨u2, us2, rfl, h2, hu⟩ := hu
    unfold VRs at hu
    subst hu
    exact ⟨u1, u2, rfl, k r1 H1 _ x1 ((ok1.set i h1).set j h2)⟩
  · cases hm
theorem xs_aug {i : Nat} {op : Operator} {fo : Int → Int → Int} (ho : PIp X op (ipI fo)) (hN : X.N.Nodup) (hi : X.N[i]? = some x) (hx : Loc X.env.scope x) (he : XE X e ma) (hf : X.fn x = true ∨ X.env.scope.names.lookup x = some .local := by first | exact .inl rfl | exact .inr rfl | assumption) :
    XS X (.AugAssign (.Name x pos') op e pos) (sAug i fo ma) := PSi (ps_aug hN hi hx he ho hf) fun D σ H q => by
  obtain ⟨r, S, e, fl, S', ok, hm, k⟩ := q
  unfold sAug at hm
  split at hm
  · rename_i y hy
    split at hm
    · rename_i z S1 e1
      cases hm
      obtain ⟨v, h1, h2⟩ := ok.var i _ hy
      cases vr_int.mp h2
      refine ⟨_, h1, r, S, e, _, S', ok, e1, fun r1 H1 u x1 ok1 hu => ⟨y, z, rfl, vr_int.mp hu, ?_⟩⟩
      exact k r1 H1 _ x1 (ok1.set i (vr_int.mpr rfl))
    · cases hm
  · cases hm
theorem xs_fldaug {op : Operator} {fo : Int → Int → Int} (hop : InOp X op (fun x y H Q => ∃ i j, x = .int i ∧ y = .int j ∧ Q (.int (fo i j)) H)) (hF : HasFld X.K X.mg cs f) (ha : XE X o mo) (hv : XE X value mv) : XS X (.AugAssign (.Attribute o f tpos) op value pos) (sFldAug cs mo f fo mv) :=
  PSi (ps_fldaug ha hv hop) fun D σ H q => by
    obtain ⟨r, S, e, fl, S', ok, hm, k⟩ := q
    unfold sFldAug at hm
    split at hm
    · rename_i i S1 e1
      split at hm
      · rename_i c fs hi
        split at hm
        · rename_i hc
          split at hm
          · rename_i y hy
            split at hm
            · rename_i z S2 e2
              split at hm
              · rename_i c' fs' hi'
                split at hm
                · rename_i hc'
                  cases hm
                  obtain ⟨hc1, hc2⟩ := hc'
                  subst hc1
                  refine ⟨r, S, e, _, S1, ok, e1, fun r1 H1 u x1 ok1 hu => ?_⟩
                  obtain ⟨hl, rfl⟩ := vr_ref.mp hu
                  obtain ⟨C, dx, us, h1, h2, h3⟩ := ok1.rep.ins hi
                  obtain ⟨k1, k2⟩ := hF _ hc C h2
                  obtain ⟨v, h4, h5⟩ := h3.look hy
                  cases vr_int.mp h5
                  refine ⟨_, C, dx, us, _, rfl, h1, k1, k2, h4, r1, S1, e, _, S2, ok1, e2, fun r2 H2 v2 x2 ok2 hv2 => ⟨y, z, rfl, vr_int.mp hv2, ?_⟩⟩
                  obtain ⟨C', dx', us', h1', h2', h3'⟩ := ok2.rep.ins hi'
                  have eC : C' = C := by
                    rw [h2] at h2'
                    cases h2'
                    rfl
                  subst eC
                  have er : r2 i = r1 i := x2.ag i hl
                  refine ⟨dx', us', by rw [← er]; exact h1', by rw [← h3'.length]; exact hc2, ?_⟩
                  obtain ⟨R3, x3⟩ := ok2.rep.set (o' := .ins _ (putF f (.int (fo y z)) fs')) (ho' := .ins C' dx' (L2.putF f (.int (fo y z)) us')) hi' ⟨C', dx', _, rfl, h2', h3'.put (vr_int.mpr rfl)⟩
                  rw [← er]
                  exact k r2 _ σ (x1.trans (x2.trans x3)) (ok2.mono x3 R3)
                · cases hm
              · cases hm
            · cases hm
          · cases hm
        · cases hm
      · cases hm
    · cases hm
end
end Gm

set_option Elab.async false
set_option linter.all false
set_option maxRecDepth 100000
set_option maxHeartbeats 2000000
/-! Gm7: what is walked; for, while; comprehensions. -/
namespace Gm
open PySem PySem.Spec PyProof.Rows L2
section
variable (K : PySem.W.Frag) (mg : Str → Option Value)
/-- the layer's iterator goes as the plain source tells -/
def ItOk (r0 : Nat → Addr) (n0 : Nat) (H0 : Hp) (s : Src) (J : It) : Prop := ∀ r S H i, Ex r0 n0 H0 r S.length H → Rep K mg r S H →
  (s i S = some none → J.stop i H) ∧ ∀ w, s i S = some (some w) → J.go i H ∧ ∀ x H', J.yld i H x H' → Rep K mg r S H' ∧ Ex r S.length H r S.length H' ∧ VR K mg r S.length H' w x
def LfI (m : MI) : TI := fun σ H R => ∃ r S e s S', Ok K mg r S e σ H ∧ m e S = some (s, S') ∧ ∀ r' H' J, Ex r S.length H r' S'.length H' → Ok K mg r' S' e σ H' → ItOk K mg r' S'.length H' s J → R J H'
end
section
variable {K : PySem.W.Frag} {mg : Str → Option Value}
theorem ItOk.mono {r0 r1 : Nat → Addr} {n0 n1 : Nat} {H0 H1 : Hp} {s : Src} {J : It} (h : ItOk K mg r0 n0 H0 s J) (x : Ex r0 n0 H0 r1 n1 H1) : ItOk K mg r1 n1 H1 s J := fun r S H i y R => h r S H i (x.trans y) R
end
theorem PIi {X : Cx} {tg iter : Expr} {t t' : TI} (h : PI X tg iter t) (k : ∀ σ H R, t' σ H R → t σ H R) : PI X tg iter t' := ⟨fun pins s σ H R I q => h.run pins s σ H R I (k σ H R q)⟩
abbrev XI (X : Cx) (tg iter : Expr) (m : MI) : Prop := PI X tg iter (LfI X.K X.mg m)
section
variable {X : Cx} {tg iter e c : Expr} {mi : MI} {g : MG} {sb : MS} {mt : MT} {body : List Stmt} {pos : Pos} {ma : ME}
/-! ### for, while -/
theorem xs_for (hp : PassesOwn (model X.prog X.w) X.A X.env X.xe) (hc : X.calm = true) (hi : XI X tg iter mi) (hg : XG X tg g) (hb : XSs X body sb) (hs : ∀ x, foldedSetIterable iter X.env x = pure x := by intro _; rfl) : XS X (.For tg iter body [] pos) (sFor mi g sb) :=
  PSi (ps_for hp hc hi hg hb hs) fun D σ H q => by
    obtain ⟨r, S, e, fl, S', ok, hm, k⟩ := q
    unfold sFor at hm
    split at hm
    · rename_i s S1 e1
      refine ⟨r, S, e, s, S1, ok, e1, fun r1 H1 J x1 ok1 io => ?_⟩
      refine ⟨fun i m σ' H' => ∃ r' S2 e2, Ex r1 S1.length H1 r' S2.length H' ∧ Ok X.K X.mg r' S2 e2 σ' H' ∧ forN s g sb m i e2 S2 = some (fl, S'), ⟨turns, r1, S1, e, Ex.refl, ok1, hm⟩, ?_⟩
      rintro i m σ2 H2 ⟨r2, S2, e2, x2, ok2, h2⟩
      obtain ⟨i1, i2⟩ := io r2 S2 H2 i x2 ok2.rep
      cases m with
      | zero =>
        unfold forN at h2
        cases h2
      | succ m =>
        unfold forN at h2
        split at h2
        · cases h2
        · rename_i hs2
          cases h2
          exact .inl ⟨i1 hs2, k r2 H2 σ2 (x1.trans x2) ok2⟩
        · rename_i w hs2
          obtain ⟨go, yl⟩ := i2 w hs2
          refine .inr ⟨go, fun σ' H' => ∃ r' S2 e2, Ex r1 S1.length H1 r' S2.length H' ∧ Ok X.K X.mg r' S2 e2 σ' H' ∧ forN s g sb m (i + 1) e2 S2 = some (fl, S'), fun σ' H' h => ⟨m, Nat.lt_succ_self _, h⟩, fun x H3 y => ?_⟩
          obtain ⟨R3, x3, hw⟩ := yl x H3 y
          split at h2
          · cases h2
          · rename_i e3 S3 g3
            refine ⟨r2, S2, e2, w, e3, S3, ok2.mono x3 R3, hw, g3, fun r4 H4 σ4 x4 ok4 => ?_⟩
            have xx := x2.trans (x3.trans x4)
            split at h2
            · rename_i e5 S5 g5
              exact ⟨r4, S3, e3, _, S5, ok4, g5, fun r6 H6 σ6 x6 ok6 => ⟨r6, S5, e5, xx.trans x6, ok6, h2⟩⟩
            · rename_i e5 S5 g5
              exact ⟨r4, S3, e3, _, S5, ok4, g5, fun r6 H6 σ6 x6 ok6 => ⟨r6, S5, e5, xx.trans x6, ok6, h2⟩⟩
            · rename_i e5 S5 g5
              cases h2
              exact ⟨r4, S3, e3, _, S', ok4, g5, fun r6 H6 σ6 x6 ok6 => k r6 H6 σ6 (x1.trans (xx.trans x6)) ok6⟩
            · rename_i v S5 g5
              cases h2
              exact ⟨r4, S3, e3, _, S', ok4, g5, fun r6 H6 u x6 R6 hv => k r6 H6 u (x1.trans (xx.trans x6)) R6 hv⟩
            · cases h2
    · cases hm
theorem xs_while (hp : PassesOwn (model X.prog X.w) X.A X.env X.xe) (hc : XT X c mt) (hb : XSs X body sb) : XS X (.While c body [] pos) (sWhile mt sb) := PSi (ps_while hp hc hb) fun D σ H q => by
  obtain ⟨r, S, e, fl, S', ok, hm, k⟩ := q
  unfold sWhile at hm
  refine ⟨fun m σ' H' => ∃ r' S2 e2, Ex r S.length H r' S2.length H' ∧ Ok X.K X.mg r' S2 e2 σ' H' ∧ whileN mt sb m e2 S2 = some (fl, S'), ⟨turns, r, S, e, Ex.refl, ok, hm⟩, ?_⟩
  rintro m σ2 H2 ⟨r2, S2, e2, x2, ok2, h2⟩
  cases m with
  | zero =>
    unfold whileN at h2
    cases h2
  | succ m =>
    unfold whileN at h2
    split at h2
    · cases h2
    · rename_i S3 g3
      cases h2
      refine ⟨r2, S2, e2, false, S', ok2, g3, fun r4 H4 x4 ok4 => ?_⟩
      refine iteF ?_
      exact k r4 H4 σ2 (x2.trans x4) ok4
    · rename_i S3 g3
      refine ⟨r2, S2, e2, true, S3, ok2, g3, fun r4 H4 x4 ok4 => ?_⟩
      refine iteT ?_
      refine ⟨fun σ' H' => ∃ r' S2 e2, Ex r S.length H r' S2.length H' ∧ Ok X.K X.mg r' S2 e2 σ' H' ∧ whileN mt sb m e2 S2 = some (fl, S'), fun σ' H' h => ⟨m, Nat.lt_succ_self _, h⟩, ?_⟩
      have xx := x2.trans x4
      split at h2
      · rename_i e5 S5 g5
        exact ⟨r4, S3, e2, _, S5, ok4, g5, fun r6 H6 σ6 x6 ok6 => ⟨r6, S5, e5, xx.trans x6, ok6, h2⟩⟩
      · rename_i e5 S5 g5
        exact ⟨r4, S3, e2, _, S5, ok4, g5, fun r6 H6 σ6 x6 ok6 => ⟨r6, S5, e5, xx.trans x6, ok6, h2⟩⟩
      · rename_i e5 S5 g5
        cases h2
        exact ⟨r4, S3, e2, _, S', ok4, g5, fun r6 H6 σ6 x6 ok6 => k r6 H6 σ6 (xx.trans x6) ok6⟩
      · rename_i v S5 g5
        cases h2
        exact ⟨r4, S3, e2, _, S', ok4, g5, fun r6 H6 u x6 R6 hv => k r6 H6 u (xx.trans x6) R6 hv⟩
      · cases h2
end
/-! ### a comprehension's targets: names of its own -/
section
variable (K : PySem.W.Frag) (mg : Str → Option Value)
def LfGc (m : MG) (ts : List Nat) : TG := fun v σ H Q => ∃ r S e w e' S', Ok K mg r S e σ H ∧ VR K mg r S.length H w v ∧ m w e S = some (e', S') ∧ ∀ r' H' σ', Ex r S.length H r' S'.length H' → Ok K mg r' S' e' σ' H' → σ'.length = σ.length → (∀ j, j ∉ ts → σ'[j]? = σ[j]?) → Q σ' H'
def LfGcs (m : List W → Env → Store → R Env) (ts : List Nat) : TGs := fun vs σ H Q => ∃ r S e ws e' S', Ok K mg r S e σ H ∧ VRs K mg r S.length H ws vs ∧ m ws e S = some (e', S') ∧ ∀ r' H' σ', Ex r S.length H r' S'.length H' → Ok K mg r' S' e' σ' H' → σ'.length = σ.length → (∀ j, j ∉ ts → σ'[j]? = σ[j]?) → Q σ' H'
end
abbrev XGc (X : Cx) (e : Expr) (m : MG) (ts : List Nat) : Prop := PG X e (LfGc X.K X.mg m ts)
abbrev XGcs (X : Cx) (es : List Expr) (m : List W → Env → Store → R Env) (ts : List Nat) : Prop := PGs X es (LfGcs X.K X.mg m ts)
section
variable {X : Cx} {e a : Expr} {es : List Expr} {g : MG} {gr : List W → Env → Store → R Env} {ts us : List Nat} {pos : Pos} {x : Str}
theorem xgc_name {i : Nat} (hN : X.N.Nodup) (hi : X.N[i]? = some x) (hx : Loc X.env.scope x) (hf : X.fn x = true ∨ X.env.scope.names.lookup x = some .local := by first | exact .inl rfl | exact .inr rfl | assumption) : XGc X (.Name x pos) (gName i) [i] := PGi (pg_name hN hi hx hf) fun v σ H Q q => by
  obtain ⟨r, S, e, w, e', S', ok, hv, hm, k⟩ := q
  cases hm
  exact k r H _ Ex.refl (ok.set i hv) List.length_set fun j hj => List.getElem?_set_ne fun z => hj (by rw [z]; exact List.mem_singleton_self _)
theorem xgcs_nil : XGcs X [] gNil [] := PGsi pgs_nil fun v σ H Q q => by
  obtain ⟨r, S, e, ws, e', S', ok, hv, hm, k⟩ := q
  unfold gNil at hm
  split at hm
  · cases hm
    unfold VRs at hv
    exact ⟨hv, k r H σ Ex.refl ok rfl fun _ _ => rfl⟩
  · cases hm
theorem xgcs_cons (h1 : XGc X e g ts) (h2 : XGcs X es gr us) (hs : (assignEach (e :: es) X.env).map (·.2) = assign e X.env :: (assignEach es X.env).map (·.2) := by rfl) : XGcs X (e :: es) (gCons g gr) (ts ++ us) := PGsi (pgs_cons h1 h2 hs) fun v σ H Q q => by
  obtain ⟨r, S, e, ws, e', S', ok, hv, hm, k⟩ := q
  unfold gCons at hm
  split at hm
  · rename_i w ws
    unfold VRs at hv
    obtain ⟨v1, vs, rfl, h3, h4⟩ := hv
    split at hm
    · rename_i e1 S1 g1
      exact ⟨v1, vs, rfl, r, S, e, w, e1, S1, ok, h3, g1, fun r1 H1 σ1 x1 ok1 l1 n1 => ⟨r1, S1, e1, ws, e', S', ok1, VRs.mono x1 _ _ h4, hm, fun r2 H2 σ2 x2 ok2 l2 n2 => k r2 H2 σ2 (x1.trans x2) ok2 (l2.trans l1) fun j hj =>
        (n2 j fun z => hj (List.mem_append_right _ z)).trans (n1 j fun z => hj (List.mem_append_left _ z))⟩⟩
    · cases hm
  · cases hm
theorem xgc_tup {kt n : Nat} (hc : X.calm = true) (h : XGcs X es gr ts) (hn : (assignEach es X.env).length = n := by rfl) (hst : (assignEach es X.env).findIdx? (·.1) = none := by rfl) : XGc X (.Tuple es kt pos) (gTupN n gr) ts := PGi (pg_tup hc h hn hst) fun v σ H Q q => by
  obtain ⟨r, S, e, w, e', S', ok, hv, hm, k⟩ := q
  unfold gTupN at hm
  split at hm
  · split at hm
    · rename_i ws hl
      obtain ⟨a, vs, rfl, h1, h2⟩ := vr_tup.mp hv
      exact ⟨a, vs, rfl, SqT.of h1, by rw [← h2.length]; exact hl, r, S, e, ws, e', S', ok, h2, hm, k⟩
    · cases hm
  · cases hm
theorem wipe_get (σ : L2.St) : ∀ (vs : List Nat) (j : Nat), (L2.wipe σ vs)[j]? = if j ∈ vs then (if j < σ.length then some none else none) else σ[j]?
  | [], j => by
    rw [if_neg (by simp)]
    rfl
  | v :: vs, j => by
    unfold L2.wipe
    by_cases h : v = j
    · subst h
      rw [if_pos (List.mem_cons_self ..)]
      by_cases hl : v < σ.length
      · rw [List.getElem?_set_self (by rw [wipe_length]; exact hl), if_pos hl]
      · rw [List.getElem?_eq_none (by rw [List.length_set, wipe_length]; exact Nat.le_of_not_lt hl), if_neg hl]
    · rw [List.getElem?_set_ne h, wipe_get σ vs j]
      by_cases h2 : j ∈ vs
      · rw [if_pos h2, if_pos (List.mem_cons_of_mem _ h2)]
      · rw [if_neg h2, if_neg (by simp only [List.mem_cons, not_or]; exact ⟨fun z => h z.symm, h2⟩)]
theorem wipe_same {σ σ' : L2.St} {vs ts : List Nat} (hl : σ'.length = σ.length) (h : ∀ j, j ∉ ts → σ'[j]? = (L2.wipe σ vs)[j]?) (hs : ∀ j ∈ ts, j ∈ vs) : L2.wipe σ' vs = L2.wipe σ vs := by
  refine List.ext_getElem? fun j => ?_
  rw [wipe_get, wipe_get, hl]
  by_cases hj : j ∈ vs
  · rw [if_pos hj, if_pos hj]
  · rw [if_neg hj, if_neg hj, h j (fun z => hj (hs j z)), wipe_get, if_neg hj]
/-! ### list comprehensions -/
theorem lc_core {K : PySem.W.Frag} {mg : Str → Option Value} {g : MG} {t : MT} {m : ME} {vs ts : List Nat} (hts : ∀ j ∈ ts, j ∈ vs) {σ : L2.St} {H1 : Hp} {Q : VK} {r1 : Nat → Addr} {S1 S' : Store} {e : Env} {s : Src} {J : It} {ws : List W} (ok1 : Ok K mg r1 S1 e σ H1) (io : ItOk K mg r1 S1.length H1 s J)
    (hm : compN s g t m vs turns 0 [] e S1 = some (ws, S')) (k : ∀ r' H' p us, Ex r1 S1.length H1 r' S'.length H' → Ok K mg r' S' e σ H' → (∀ i, i < S'.length → r' i ≠ p) → H1 p = none → H' p = some (.lst us) → VRs K mg r' S'.length H' ws us → Q (.ref p) H') :
    tLc (fun _ H R => R J H) (LfGc K mg g ts) (LfT K mg t) (LfE K mg m) vs σ H1 Q := by
  intro D hD
  have np1 : ∀ i, i < S1.length → r1 i ≠ D := fun i hi z => by
    obtain ⟨hu, g1, _⟩ := ok1.rep.ob i _ (List.getElem?_eq_getElem hi)
    rw [z, hD] at g1
    cases g1
  refine ⟨fun i n H' => ∃ r' S2 acc us, Ex r1 S1.length H1 r' S2.length H' ∧ Ok K mg r' S2 e σ H' ∧ (∀ i, i < S2.length → r' i ≠ D) ∧ H' D = some (.lst us) ∧ VRs K mg r' S2.length H' acc us ∧ compN s g t m vs n i acc e S2 = some (ws, S'), ⟨turns, r1, S1, [], [], ?_⟩, ?_⟩
  · obtain ⟨R2, x2⟩ := ok1.rep.junk (ho := .lst []) hD
    exact ⟨x2, ok1.mono x2 R2, np1, upd_same, VRs.nil, hm⟩
  · rintro i n H2 ⟨r2, S2, acc, us, x2, ok2, np2, hD2, va, h2⟩
    obtain ⟨i1, i2⟩ := io r2 S2 H2 i x2 ok2.rep
    cases n with
    | zero =>
      unfold compN at h2
      cases h2
    | succ n =>
      unfold compN at h2
      split at h2
      · cases h2
      · rename_i hs2
        cases h2
        exact .inl ⟨i1 hs2, k r2 H2 D us x2 ok2 np2 hD hD2 va⟩
      · rename_i w hs2
        obtain ⟨go, yl⟩ := i2 w hs2
        refine .inr ⟨go, fun H' => ∃ r' S2 acc us, Ex r1 S1.length H1 r' S2.length H' ∧ Ok K mg r' S2 e σ H' ∧ (∀ i, i < S2.length → r' i ≠ D) ∧ H' D = some (.lst us) ∧ VRs K mg r' S2.length H' acc us ∧ compN s g t m vs n (i + 1) acc e S2 = some (ws, S'), fun H' h => ⟨n, Nat.lt_succ_self _, h⟩, fun x H3 y => ?_⟩
        obtain ⟨R3, x3, hw⟩ := yl x H3 y
        split at h2
        · cases h2
        · rename_i e3 S3 g3
          have ok3 := ok2.mono x3 R3
          refine ⟨r2, S2, wipe e vs, w, e3, S3, ok3.wipe vs, hw, g3, fun r4 H4 σ4 x4 ok4 l4 n4 => ⟨wipe_same (l4.trans (wipe_length _ _)) n4 hts, ?_⟩⟩
          have hD4 := x4.un D _ (x3.un D _ hD2 np2) np2
          have np4 := x4.out (x3.un D _ hD2 np2) np2
          have va4 := VRs.mono (x3.trans x4) _ _ va
          split at h2
          · cases h2
          · rename_i S5 g5
            refine ⟨r4, S3, e3, false, S5, ok4, g5, fun r6 H6 x6 ok6 => ?_⟩
            refine iteF ?_
            have x36 := x3.trans (x4.trans x6)
            exact ⟨r6, S5, acc, us, x2.trans x36, ok2.mono x36 ok6.rep, x6.out hD4 np4, x6.un D _ hD4 np4, VRs.mono x6 _ _ va4, h2⟩
          · rename_i S5 g5
            refine ⟨r4, S3, e3, true, S5, ok4, g5, fun r6 H6 x6 ok6 => ?_⟩
            refine iteT ?_
            split at h2
            · cases h2
            · rename_i v S7 g7
              split at h2
              · rename_i hl
                refine ⟨r6, S5, e3, v, S7, ok6, g7, fun r8 H8 u x8 ok8 hu => ?_⟩
                have hD6 := x6.un D _ hD4 np4
                have np6 := x6.out hD4 np4
                have hD8 := x8.un D _ hD6 np6
                have np8 := x8.out hD6 np6
                have va8 := VRs.mono (x6.trans x8) _ _ va4
                have x38 := x3.trans (x4.trans (x6.trans x8))
                have x9 : Ex0 r8 S7.length H8 r8 S7.length (upd H8 D (.lst (us ++ [u]))) := ⟨fun _ _ => rfl, Nat.le_refl _, Keep.wr hD8 True.intro⟩
                have R9 : Rep K mg r8 S7 (upd H8 D (.lst (us ++ [u]))) := ok8.rep.more (fun i ho hi e => by rw [upd_ne (np8 i hi)]; exact e) x9.kp
                have x19 : Ex r1 S1.length H1 r8 S7.length (upd H8 D (.lst (us ++ [u]))) := by
                  have y := x2.trans x38
                  refine ⟨y.ag, y.le, y.kp.trans x9.kp, fun a o e hn => ?_, y.fr, fun a e => y.th a (upd_none e)⟩
                  by_cases z : a = D
                  · rw [z, hD] at e
                    cases e
                  · rw [upd_ne z]
                    exact y.un a o e hn
                refine ⟨us, hD8, by rw [← va8.length]; exact lineL hl, r8, S7, acc ++ [v], us ++ [u], x19, (ok2.mono x38 ok8.rep).mono0 x9 R9, np8, upd_same, VRs.mono0 x9 _ _ (va8.append (VRs.cons hu VRs.nil)), h2⟩
              · cases h2
theorem lf_lc {K : PySem.W.Frag} {mg : Str → Option Value} {mi : MI} {g : MG} {t : MT} {m : ME} {vs ts : List Nat} (hts : ∀ j ∈ ts, j ∈ vs) {σ : L2.St} {H : Hp} {Q : VK} (q : LfL K mg (aComp mi g t m vs) σ H Q) : tLc (LfI K mg mi) (LfGc K mg g ts) (LfT K mg t) (LfE K mg m) vs σ H Q := by
  obtain ⟨r, S, e, ws, S', ok, hm, k⟩ := q
  unfold aComp at hm
  split at hm
  · rename_i s S1 e1
    exact ⟨r, S, e, s, S1, ok, e1, fun r1 H1 J x1 ok1 io => lc_core hts ok1 io hm fun r' H' p us x ok' np h0 hp hv => k r' H' p us (x1.trans x) ok' np (x1.th _ h0) hp hv⟩
  · cases hm
end
end Gm

set_option Elab.async false
set_option linter.all false
set_option maxRecDepth 100000
set_option maxHeartbeats 2000000
/-! Gm8: comprehensions as rules; sources; calls, methods, new instances; a def by its body. -/
namespace Gm
open PySem PySem.Spec PyProof.Rows L2
section
variable {X : Cx} {tg iter elt c e : Expr} {ifs : List Expr} {mi : MI} {g : MG} {t : MT} {m ma mb : ME} {pos p : Pos} {scope : Scope} {own : List (PySem.Str × Nat)} {ts : List Nat} {mr : MA}
theorem xts_nil : PTs X [] (LfT X.K X.mg tYes) := PTsi pts_nil fun σ H Q q => by
  obtain ⟨r, S, e, b, S', ok, hm, k⟩ := q
  cases hm
  exact k r H Ex.refl ok
theorem xts_one (h : XT X c t) : PTs X [c] (LfT X.K X.mg t) := pts_one h
theorem xl_lc (hc : X.calm = true) (hN : X.N.Nodup) (hi : XI X tg iter mi) (ok : BlkOk X.N X.env.scope scope own)
    (hg : ∀ (s : Shared) (H : Hp) (C : Addr) (cl : List (PySem.Str × Addr)) (fp : List Addr), XGc (X.blk s H scope (compEnvC scope cl C X.env) fp) tg g ts)
    (ht : ∀ (s : Shared) (H : Hp) (C : Addr) (cl : List (PySem.Str × Addr)) (fp : List Addr), PTs (X.blk s H scope (compEnvC scope cl C X.env) fp) ifs (LfT X.K X.mg t))
    (he : ∀ (s : Shared) (H : Hp) (C : Addr) (cl : List (PySem.Str × Addr)) (fp : List Addr), XE (X.blk s H scope (compEnvC scope cl C X.env) fp) elt m)
    (hts : ∀ j ∈ ts, j ∈ own.map (·.2)) (hs : ∀ x, foldedSetIterable iter X.env x = pure x := by intro _; rfl) : XL X (.ListComp elt [⟨tg, iter, ifs, 0⟩] scope pos) (aComp mi g t m (own.map (·.2))) :=
  PEi (pe_lc hc hN hi ok hg ht he hs) fun σ H Q q => lf_lc hts q
theorem xs_setLc {i : Nat} {y : PySem.Str} {py spos : Pos} (hc : X.calm = true) (hN : X.N.Nodup) (hy : X.N[i]? = some y) (hyl : X.env.scope.names.lookup y = some .local)
    (hsw : swapsWith (.ListComp elt [⟨tg, iter, ifs, 0⟩] scope pos) (some (.Name y py)) spos.line X.env = pure true) (hi : XI X tg iter mi) (ok : BlkOk X.N X.env.scope scope own)
    (hg : ∀ (s : Shared) (H : Hp) (C : Addr) (cl : List (PySem.Str × Addr)) (fp : List Addr), XGc (X.blk s H scope (compEnvC scope cl C X.env) fp) tg g ts)
    (ht : ∀ (s : Shared) (H : Hp) (C : Addr) (cl : List (PySem.Str × Addr)) (fp : List Addr), PTs (X.blk s H scope (compEnvC scope cl C X.env) fp) ifs (LfT X.K X.mg t))
    (he : ∀ (s : Shared) (H : Hp) (C : Addr) (cl : List (PySem.Str × Addr)) (fp : List Addr), XE (X.blk s H scope (compEnvC scope cl C X.env) fp) elt m)
    (hts : ∀ j ∈ ts, j ∈ own.map (·.2)) (hs : ∀ x, foldedSetIterable iter X.env x = pure x := by intro _; rfl) : XS X (.Assign [.Name y py] (.ListComp elt [⟨tg, iter, ifs, 0⟩] scope pos) spos) (sAsg (mNew (aComp mi g t m (own.map (·.2)))) (gName i)) :=
  PSi (ps_setLc hc hN hy hyl hsw hi ok hg ht he hs) fun D σ H q => by
    have q2 : LfE X.K X.mg (mNew (aComp mi g t m (own.map (·.2)))) σ H (fun x H1 => L2.gName i x σ H1 D.nx) := by
      obtain ⟨r, S, e, fl, S', ok, hm, k⟩ := q
      unfold sAsg at hm
      split at hm
      · rename_i w S1 e1
        simp only [gName] at hm
        cases hm
        exact ⟨r, S, e, w, S', ok, e1, fun r1 H1 u x1 ok1 hu => k r1 H1 _ x1 (ok1.set i hu)⟩
      · cases hm
    exact lf_lc hts (lf_new q2)
/-! ### sources -/
theorem PIor {t1 t2 : TI} (h1 : PI X tg iter t1) (h2 : PI X tg iter t2) : PI X tg iter (fun σ H R => t1 σ H R ∨ t2 σ H R) := ⟨fun pins s σ H R I q => q.elim (h1.run pins s σ H R I) (h2.run pins s σ H R I)⟩
theorem itok_tup {K : PySem.W.Frag} {mg : PySem.Str → Option Value} {r0 : Nat → Addr} {n0 : Nat} {H0 : Hp} {ws : List W} {a : Addr} {vs : List V} (h1 : H0 a = some (.tup vs)) (h2 : VRs K mg r0 n0 H0 ws vs) : ItOk K mg r0 n0 H0 (sSeq (.tup ws)) (Itt K a) := by
  intro r S H i x R
  have h3 := x.kp.tups _ _ h1
  have h4 := VRs.mono x _ _ h2
  have hl := h4.length
  refine ⟨fun e => ⟨vs, SqT.of h3, ?_⟩, fun w e => ?_⟩
  · have e2 : ws[i]? = none := Option.some.inj e
    rw [← hl]
    exact List.getElem?_eq_none_iff.mp e2
  · have e2 : ws[i]? = some w := Option.some.inj e
    obtain ⟨v, g1, g2⟩ := h4.get e2
    refine ⟨⟨vs, v, SqT.of h3, g1⟩, fun y H' hy => ?_⟩
    obtain ⟨rfl, hy⟩ := hy
    have := hy vs (SqT.of h3)
    rw [g1] at this
    cases this
    exact ⟨R, Ex.refl, g2⟩
theorem itok_wt {K : PySem.W.Frag} {mg : PySem.Str → Option Value} {r0 : Nat → Addr} {n0 : Nat} {H0 : Hp} {ws : List W} {a : Addr} {vs : List V} (h1 : KT K a vs) (h2 : VRs K mg r0 n0 H0 ws vs) : ItOk K mg r0 n0 H0 (sSeq (.wt ws)) (Itt K a) := by
  intro r S H i x R
  have h4 := VRs.mono x _ _ h2
  have hl := h4.length
  have h3 : SqT K H a vs := .inr h1
  refine ⟨fun e => ⟨vs, h3, ?_⟩, fun w e => ?_⟩
  · have e2 : ws[i]? = none := Option.some.inj e
    rw [← hl]
    exact List.getElem?_eq_none_iff.mp e2
  · have e2 : ws[i]? = some w := Option.some.inj e
    obtain ⟨v, g1, g2⟩ := h4.get e2
    refine ⟨⟨vs, v, h3, g1⟩, fun y H' hy => ?_⟩
    obtain ⟨rfl, hy⟩ := hy
    have := hy vs h3
    rw [g1] at this
    cases this
    exact ⟨R, Ex.refl, g2⟩
theorem itok_lst {K : PySem.W.Frag} {mg : PySem.Str → Option Value} {r0 : Nat → Addr} {n0 : Nat} {H0 : Hp} {j : Nat} (hj : j < n0) : ItOk K mg r0 n0 H0 (sSeq (.ref j)) (Itl K (r0 j)) := by
  intro r S H i x R
  have hr := x.ag j hj
  unfold sSeq seqOf
  refine ⟨fun e => ?_, fun w e => ?_⟩
  · simp only at e
    split at e
    · rename_i ws hi
      obtain ⟨vs, h1, h2⟩ := R.lst hi
      have e2 : ws[i]? = none := Option.some.inj e
      exact ⟨vs, SqL.of (by rw [← hr]; exact h1), by rw [← h2.length]; exact List.getElem?_eq_none_iff.mp e2⟩
    · cases e
  · simp only at e
    split at e
    · rename_i ws hi
      obtain ⟨vs, h1, h2⟩ := R.lst hi
      rw [hr] at h1
      have e2 : ws[i]? = some w := Option.some.inj e
      obtain ⟨v, g1, g2⟩ := h2.get e2
      refine ⟨⟨vs, v, SqL.of h1, g1⟩, fun y H' hy => ?_⟩
      obtain ⟨rfl, hy⟩ := hy
      have := hy vs (SqL.of h1)
      rw [g1] at this
      cases this
      exact ⟨R, Ex.refl, g2⟩
    · cases e
theorem xi_seq (h : XE X iter m) : XI X tg iter (iSeq m) := PIi (PIor (pi_tup h) (pi_list h)) fun σ H R q => by
  obtain ⟨r, S, e, s, S', ok, hm, k⟩ := q
  unfold iSeq at hm
  split at hm
  · rename_i x S1 e1
    split at hm
    · rename_i ws h1
      split at hm
      · rename_i hw
        cases hm
        cases x with
        | tup us =>
          refine .inl ⟨r, S, e, _, S', ok, e1, fun r1 H1 u x1 ok1 hu => ?_⟩
          obtain ⟨a, vs, rfl, h2, h3⟩ := vr_tup.mp hu
          exact ⟨a, rfl, ⟨vs, SqT.of h2⟩, k r1 H1 _ x1 ok1 (itok_tup h2 h3)⟩
        | wt us =>
          refine .inl ⟨r, S, e, _, S', ok, e1, fun r1 H1 u x1 ok1 hu => ?_⟩
          obtain ⟨a, vs, rfl, h2, h3⟩ := vr_wt.mp hu
          exact ⟨a, rfl, ⟨vs, .inr h2⟩, k r1 H1 _ x1 ok1 (itok_wt h2 h3)⟩
        | ref j =>
          refine .inr ⟨r, S, e, _, S', ok, e1, fun r1 H1 u x1 ok1 hu => ?_⟩
          obtain ⟨hl, rfl⟩ := vr_ref.mp hu
          unfold seqOf at h1
          simp only at h1
          split at h1
          · rename_i hi
            obtain ⟨vs, h2, h3⟩ := ok1.rep.lst hi
            exact ⟨_, rfl, ⟨vs, SqL.of h2⟩, k r1 H1 _ x1 ok1 (itok_lst hl)⟩
          · cases h1
        | _ => cases hw
      · cases hm
    · cases hm
  · cases hm
theorem xi_str (h : XE X iter m) : XI X tg iter (iStr m) := PIi (pi_str h) fun σ H R q => by
  obtain ⟨r, S, e, s, S', ok, hm, k⟩ := q
  unfold iStr at hm
  split at hm
  · rename_i x S1 e1
    cases hm
    refine ⟨r, S, e, _, S', ok, e1, fun r1 H1 u x1 ok1 hu => ⟨x, vr_str.mp hu, k r1 H1 _ x1 ok1 ?_⟩⟩
    intro r2 S2 H2 i x2 R2
    unfold sStr
    refine ⟨fun e => ?_, fun w e => ?_⟩
    · have e2 : x.cps.toList[i]? = none := Option.map_eq_none_iff.mp (Option.some.inj e)
      have h3 := List.getElem?_eq_none_iff.mp e2
      show x.cps.size ≤ i
      simpa using h3
    · have e2 := Option.some.inj e
      cases g : x.cps.toList[i]? with
      | none =>
        rw [g] at e2
        cases e2
      | some c =>
        rw [g] at e2
        cases e2
        have gl : i < x.cps.size := by
          have := (List.getElem?_eq_some_iff.mp g).1
          simpa using this
        have g3 : x.cps[i]? = some c := by
          rw [← g]
          simp
        refine ⟨gl, fun y H' hy => ?_⟩
        obtain ⟨rfl, c2, hc2, rfl⟩ := hy
        rw [g3] at hc2
        cases hc2
        exact ⟨R2, Ex.refl, vr_str.mpr rfl⟩
  · cases hm
theorem itok_range {K : PySem.W.Frag} {mg : PySem.Str → Option Value} {r0 : Nat → Addr} {n0 : Nat} {H0 : Hp} (lo : Int) (n : Nat) : ItOk K mg r0 n0 H0 (sRange lo n) (Itr lo n) := by
  intro r S H i x R
  unfold sRange
  refine ⟨fun e => ?_, fun w e => ?_⟩
  · have e2 := Option.some.inj e
    split at e2
    · cases e2
    · rename_i h
      exact Nat.le_of_not_lt h
  · have e2 := Option.some.inj e
    split at e2
    · rename_i h
      cases e2
      refine ⟨h, fun y H' hy => ?_⟩
      obtain ⟨rfl, rfl⟩ := hy
      exact ⟨R, Ex.refl, vr_int.mpr rfl⟩
    · cases e2
theorem xi_range1 (hg : Gl X "range") (hm : X.mg "range" = none) (ha : XE X e ma) (hs : starEach [e] X.env = [(false, eval e X.env)] := by rfl) : XI X tg (.Call (.Name "range" p) [e] [] pos) (iRange1 ma) :=
  PIi (pi_range1 hg hm (pa_cons ha pa_nil hs) hs) fun σ H R q => by
    obtain ⟨r, S, e, s, S', ok, hm, k⟩ := q
    unfold iRange1 at hm
    split at hm
    · rename_i n S1 e1
      split at hm
      · rename_i hb
        cases hm
        exact ⟨r, S, e, _, S', ok, e1, fun r1 H1 u x1 ok1 hu => ⟨n, by rw [vr_int.mp hu], hb.1, hb.2, k r1 H1 _ x1 ok1 (itok_range 0 _)⟩⟩
      · cases hm
    · cases hm
theorem xi_range2 {e2 : Expr} (hg : Gl X "range") (hm : X.mg "range" = none) (ha : XE X e ma) (hb : XE X e2 mb) (hs : starEach [e, e2] X.env = [(false, eval e X.env), (false, eval e2 X.env)] := by rfl) (hs1 : starEach [e2] X.env = [(false, eval e2 X.env)] := by rfl) : XI X tg (.Call (.Name "range" p) [e, e2] [] pos) (iRange2 ma mb) :=
  PIi (pi_range2 hg hm (pa_cons ha (pa_cons hb pa_nil hs1) (by rw [hs, hs1])) hs hs1) fun σ H R q => by
    obtain ⟨r, S, e, s, S', ok, hm, k⟩ := q
    unfold iRange2 at hm
    split at hm
    · rename_i i S1 e1
      split at hm
      · rename_i j S2 e2
        split at hm
        · rename_i hb
          cases hm
          exact ⟨r, S, e, _, S1, ok, e1, fun r1 H1 u x1 ok1 hu => ⟨r1, S1, e, _, S', ok1, e2, fun r2 H2 v x2 ok2 hv => ⟨i, j, by rw [vr_int.mp hu, vr_int.mp hv], hb, k r2 H2 _ (x1.trans x2) ok2 (itok_range i _)⟩⟩⟩
        · cases hm
      · cases hm
    · cases hm
end
/-! ### defs -/
/-- the def at f does what F does, by n parameters -/
structure Cl (P : Program) (w : World) (K : PySem.W.Frag) (mg : PySem.Str → Option Value) (base : Heap) (k : Nat) (f : Addr) (n : Nat) (F : Fn) : Prop where
  ex : ∃ (fd : FuncData) (ps : List PySem.Str), FnOk P w K mg base CX0 k f fd ps (LfF K mg n F) ∧ PySem.W.keepIn K (.ref f) = true ∧ Binds K fd ps []
theorem Cl.mono {P : Program} {w : World} {K : PySem.W.Frag} {mg : PySem.Str → Option Value} {base : Heap} {j k : Nat} {f : Addr} {n : Nat} {F : Fn} (h : Cl P w K mg base j f n F) (hk : j ≤ k) : Cl P w K mg base k f n F := by
  obtain ⟨fd, ps, h1, h2, h3⟩ := h.ex
  exact ⟨fd, ps, h1.mono hk, h2, h3⟩
section
variable {K : PySem.W.Frag} {mg : PySem.Str → Option Value}
theorem lf_call {n : Nat} {F : Fn} {m : MA} {σ : L2.St} {H : Hp} {Q : VK} (q : LfE K mg (mCallN n F m) σ H Q) : L2.tCall (LfF K mg n F) [] E0 (LfA K mg m) σ H Q := by
  obtain ⟨r, S, e, w, S', ok, hm, k⟩ := q
  unfold mCallN at hm
  split at hm
  · rename_i ws S1 e1
    split at hm
    · rename_i hl
      refine ⟨r, S, e, ws, S1, ok, e1, fun r1 H1 us x1 ok1 hu => ?_⟩
      show LfF K mg n F (us ++ []) H1 Q E0
      rw [List.append_nil]
      exact ⟨r1, S1, ws, w, S', ok1.rep, hu, hl, hm, fun r2 H2 u x2 R2 hu2 => k r2 H2 u (x1.trans x2) (ok1.mono x2 R2) hu2⟩
    · cases hm
  · cases hm
/-- the start of a def's body -/
theorem start_ok {r : Nat → Addr} {S : Store} {H : Hp} {N : List PySem.Str} {ws : List W} {vs : List V} (R : Rep K mg r S H) (h : VRs K mg r S.length H ws vs) : Ok K mg r S (ws.map some ++ List.replicate (N.length - ws.length) none) (L2.start N vs) H := by
  have hl := h.length
  refine ⟨R, by unfold L2.start; rw [List.length_append, List.length_append, List.length_map, List.length_map, List.length_replicate, List.length_replicate, hl], fun i w e => ?_⟩
  by_cases hi : i < ws.length
  · rw [List.getElem?_append_left (by rw [List.length_map]; exact hi), List.getElem?_map] at e
    cases g : ws[i]? with
    | none =>
      rw [g] at e
      cases e
    | some y =>
      rw [g] at e
      cases e
      obtain ⟨v, g1, g2⟩ := h.get g
      refine ⟨v, ?_, g2⟩
      unfold L2.start
      rw [List.getElem?_append_left (by rw [List.length_map, ← hl]; exact hi), List.getElem?_map, g1]
      rfl
  · rw [List.getElem?_append_right (by rw [List.length_map]; exact Nat.le_of_not_lt hi), List.getElem?_replicate] at e
    split at e <;> cases e
theorem lf_body {N : List PySem.Str} {m : MS} {vs : List V} {H : Hp} {Q : VK} {E : XK} {n : Nat} (q : LfF K mg n (fnOf N.length m) vs H Q E) : LfS K mg m { nx := fun _ H' => Q .non H', rt := Q } (L2.start N vs) H := by
  obtain ⟨r, S, ws, w, S', R, hv, hl, hm, k⟩ := q
  unfold fnOf at hm
  split at hm
  · rename_i v S1 e1
    cases hm
    exact ⟨r, S, _, _, S', start_ok R hv, e1, fun r' H' u x R' hu => k r' H' u x R' hu⟩
  · rename_i e2 S1 e1
    cases hm
    exact ⟨r, S, _, _, S', start_ok R hv, e1, fun r' H' σ' x ok => k r' H' _ x ok.rep (vr_non.mpr rfl)⟩
  · cases hm
end
section
variable {P : Program} {w : World} {K : PySem.W.Frag} {mg : PySem.Str → Option Value} {base : Heap} {x qual : PySem.Str} {params : Arguments} {body : List Stmt} {scope : Scope} {dvs : List V} {kws : List (PySem.Str × V)} {f : Addr} {fd : FuncData} {N ps : List PySem.Str} {k n : Nat} {m : MS}
/-- THE RULE for a def: its body's plain function -/
theorem fn_lift (F : FunD K x qual params body scope dvs kws f fd) (Sc : FnScope N ps scope) (hn : ps.length = n)
    (hb : ∀ (cdv : Value) (A : Around) (outer : List PySem.Env) (s : Shared) (H : Hp) (E : XK), Room k (A.deeper (envOfC qual scope s.heap.objs.size f cdv)) → XSs (cxOf CX0 P w K mg base N qual scope f cdv A outer s H E).nox body m) :
    FnOk P w K mg base CX0 (k + 1) f fd ps (LfF K mg n (fnOf N.length m)) := by
  refine F.ok Sc (fun vs H Q E h => ?_) fun cdv A outer s H vs Q E hr h => ⟨LfS K mg m, (hb cdv A outer s H E hr).nox, lf_body h⟩
  obtain ⟨r, S, ws, w, S', R, hv, hl, _⟩ := h
  rw [← hv.length, hl, hn]
end
section
variable {X : Cx} {e o : Expr} {es : List Expr} {mr : MA} {mo ma : ME} {pos p apos : Pos} {x mm c : PySem.Str} {k j n : Nat} {F : Fn}
/-- f(e, ..), every parameter written -/
theorem xe_call (hF : ∃ f, X.mg x = some (.ref f) ∧ Cl X.prog X.w X.K X.mg X.base k f n F) (hr : Room k X.A) (hg : Gl X x) (ha : XA X (e :: es) mr) (hdb : (x == ("__debug__" : PySem.Str)) = false := by decide)
    (he : starEach (e :: es) X.env = (false, eval e X.env) :: starEach es X.env := by rfl) (hpl : (backTo pos (starEach es X.env)).any (·.1) = false := by rfl) : XE X (.Call (.Name x p) (e :: es) [] pos) (mCallN n F mr) := by
  obtain ⟨f, hm, h⟩ := hF
  obtain ⟨fd, ps, h1, h2, h3⟩ := h.ex
  exact PEi (pe_call h1 hr hg hm h2 h3 .nil pass0 ha hdb he hpl) fun σ H Q q => lf_call q
theorem xe_call0 (hF : ∃ f, X.mg x = some (.ref f) ∧ Cl X.prog X.w X.K X.mg X.base k f n F) (hr : Room k X.A) (hg : Gl X x) (hdb : (x == ("__debug__" : PySem.Str)) = false := by decide) : XE X (.Call (.Name x p) [] [] pos) (mCallN n F aNil) := by
  obtain ⟨f, hm, h⟩ := hF
  obtain ⟨fd, ps, h1, h2, h3⟩ := h.ex
  refine PEi (pe_call0 h1 hr hg hm h2 h3 .nil pass0 hdb) fun σ H Q q => ?_
  obtain ⟨r, S, e, w, S', ok, hm, k⟩ := lf_call q
  cases hm
  exact k r H [] Ex.refl ok VRs.nil
theorem lf_meth {K : PySem.W.Frag} {mg : PySem.Str → Option Value} {C : Addr} (hC : mg c = some (.ref C)) {σ : L2.St} {H : Hp} {Q : VK} (q : LfE K mg (mMethN c mm n F mo mr) σ H Q) : L2.tMeth C mm (LfF K mg n F) [] E0 (LfE K mg mo) (LfA K mg mr) σ H Q := by
  obtain ⟨r, S, e, w, S', ok, hm, k⟩ := q
  unfold mMethN at hm
  split at hm
  · rename_i a S1 e1
    split at hm
    · rename_i c' fs hi
      split at hm
      · rename_i hc
        obtain ⟨rfl, hc2⟩ := hc
        refine ⟨r, S, e, _, S1, ok, e1, fun r1 H1 u x1 ok1 hu => ?_⟩
        obtain ⟨hl, rfl⟩ := vr_ref.mp hu
        obtain ⟨C', dx, us, h1, h2, h3⟩ := ok1.rep.ins hi
        rw [hC] at h2
        cases h2
        split at hm
        · rename_i ws S2 e2
          split at hm
          · rename_i hn
            refine ⟨_, dx, us, rfl, h1, h3.look0 hc2, r1, S1, e, ws, S2, ok1, e2, fun r2 H2 vs x2 ok2 hv => ?_⟩
            show LfF K mg n F (V.ref (r1 a) :: (vs ++ [])) H2 Q E0
            rw [List.append_nil]
            refine ⟨r2, S2, .ref a :: ws, w, S', ok2.rep, VRs.cons (VR.mono x2 _ _ hu) hv, hn, hm, fun r3 H3 u3 x3 R3 hu3 => k r3 H3 u3 (x1.trans (x2.trans x3)) (ok2.mono x3 R3) hu3⟩
          · cases hm
        · cases hm
      · cases hm
    · cases hm
  · cases hm
/-- the method m of the class c does what F does -/
def HasMeth (P : Program) (w : World) (K : PySem.W.Frag) (mg : PySem.Str → Option Value) (base : Heap) (k : Nat) (c m : PySem.Str) (n : Nat) (F : Fn) : Prop := ∃ C f, mg c = some (.ref C) ∧ Cls K C ∧ Meth K C m f ∧ Cl P w K mg base k f n F
theorem xe_meth {pl : Sem Bool} (hM : HasMeth X.prog X.w X.K X.mg X.base k c mm n F) (hr : Room k X.A) (ho : XE X o mo) (ha : XA X (e :: es) mr)
    (hst : starEach (e :: es) X.env = (false, eval e X.env) :: starEach es X.env := by rfl) (hpl : (backTo pos (starEach es X.env)).any (·.1) = false := by rfl)
    (ht : eval (.Call (.Attribute o mm apos) (e :: es) [] pos) X.env = (do
      let ov ← eval o X.env
      standAt apos.atName
      let (f, first) ← holding [ov] (getMethod ov mm pl)
      callWith pos f first (backTo pos (starEach (e :: es) X.env)) (backToKw pos (keywordEach [] X.env))) := by rfl) : XE X (.Call (.Attribute o mm apos) (e :: es) [] pos) (mMethN c mm n F mo mr) := by
  obtain ⟨C, f, hC, hc, hm, h⟩ := hM
  obtain ⟨fd, ps, h1, h2, h3⟩ := h.ex
  exact PEi (pe_meth ho hc hm h1 hr h3 .nil pass0 ha hst hpl ht) fun σ H Q q => lf_meth hC q
theorem xe_meth0 {pl : Sem Bool} (hM : HasMeth X.prog X.w X.K X.mg X.base k c mm n F) (hr : Room k X.A) (ho : XE X o mo)
    (ht : eval (.Call (.Attribute o mm apos) [] [] pos) X.env = (do
      let ov ← eval o X.env
      standAt apos.atName
      let (f, first) ← holding [ov] (getMethod ov mm pl)
      callWith pos f first (backTo pos (starEach [] X.env)) (backToKw pos (keywordEach [] X.env))) := by rfl) : XE X (.Call (.Attribute o mm apos) [] [] pos) (mMethN c mm n F mo aNil) := by
  obtain ⟨C, f, hC, hc, hm, h⟩ := hM
  obtain ⟨fd, ps, h1, h2, h3⟩ := h.ex
  refine PEi (pe_meth0 ho hc hm h1 hr h3 .nil pass0 ht) fun σ H Q q => ?_
  obtain ⟨r, S, e, w, S', ok, hm, k⟩ := lf_meth hC q
  refine ⟨r, S, e, w, S', ok, hm, fun r1 H1 u x1 ok1 hu => ?_⟩
  obtain ⟨a, dx, fs, e1, e2, e3, e4⟩ := k r1 H1 u x1 ok1 hu
  refine ⟨a, dx, fs, e1, e2, e3, ?_⟩
  exact lf_nil e4
theorem xe_either {m1 m2 : ME} (h1 : XE X e m1) (h2 : XE X e m2) : XE X e (mEither m1 m2) := ⟨fun pins s σ H Q I q => by
  obtain ⟨r, S, e, w, S', ok, hm, k⟩ := q
  unfold mEither at hm
  split at hm
  · rename_i g
    cases hm
    exact h1.run pins s σ H Q I ⟨r, S, e, w, S', ok, g, k⟩
  · exact h2.run pins s σ H Q I ⟨r, S, e, w, S', ok, hm, k⟩⟩
/-- a new instance of the class c -/
theorem Rep.made {K : PySem.W.Frag} {mg : PySem.Str → Option Value} {r : Nat → Addr} {S : Store} {H : Hp} (R : Rep K mg r S H) {y dx C : Addr} (hC : mg c = some (.ref C)) (hx : H y = none) (hd : H dx = none) (hne : dx ≠ y) :
    Rep K mg (ext r S.length y) (S ++ [.ins c []]) (L2.upd (L2.upd H dx (.own y)) y (.ins C dx [])) ∧ Ex r S.length H (ext r S.length y) (S ++ [Ob.ins c []]).length (L2.upd (L2.upd H dx (.own y)) y (.ins C dx [])) := by
  obtain ⟨R1, x1⟩ := R.junk (ho := .own y) hd
  have hx2 : L2.upd H dx (.own y) y = none := by rw [upd_ne (Ne.symm hne)]; exact hx
  obtain ⟨R2, x2⟩ := R1.new (o := .ins c []) (ho := .ins C dx []) hx2 ⟨C, dx, [], rfl, hC, by unfold FR; rfl⟩
  exact ⟨R2, x1.trans x2⟩
theorem lf_make {K : PySem.W.Frag} {mg : PySem.Str → Option Value} {C : Addr} (hC : mg c = some (.ref C)) {σ : L2.St} {H : Hp} {Q : VK} (q : LfE K mg (mMakeN c n F mr) σ H Q) : L2.tMake C (LfF K mg n F) [] E0 (LfA K mg mr) σ H Q := by
  obtain ⟨r, S, e, w, S', ok, hm, k⟩ := q
  unfold mMakeN at hm
  split at hm
  · rename_i ws S1 e1
    split at hm
    · rename_i hn
      split at hm
      · rename_i S2 e2
        cases hm
        refine ⟨r, S, e, ws, S1, ok, e1, fun r1 H1 us x1 ok1 hu y dx hy hd hne => ?_⟩
        obtain ⟨R2, x2⟩ := ok1.rep.made hC hy hd hne
        rw [List.append_nil]
        have hlt : S1.length < (S1 ++ [Ob.ins c []]).length := by rw [List.length_append]; exact Nat.lt_succ_self _
        refine ⟨ext r1 S1.length y, S1 ++ [.ins c []], .ref S1.length :: ws, .non, S', R2, VRs.cons (vr_ref.mpr ⟨hlt, by rw [ext_eq]⟩) (VRs.mono x2 _ _ hu), hn, e2, fun r3 H3 u x3 R3 hu3 => ⟨vr_non.mp hu3, ?_⟩⟩
        refine k r3 H3 _ (x1.trans (x2.trans x3)) (ok1.mono (x2.trans x3) R3) (vr_ref.mpr ⟨Nat.lt_of_lt_of_le hlt x3.le, ?_⟩)
        rw [x3.ag _ hlt, ext_eq]
      · cases hm
    · cases hm
  · cases hm
def HasMake (P : Program) (w : World) (K : PySem.W.Frag) (mg : PySem.Str → Option Value) (base : Heap) (k : Nat) (c : PySem.Str) (n : Nat) (F : Fn) : Prop := ∃ C f, mg c = some (.ref C) ∧ Mk K C f ∧ Cl P w K mg base k f n F
theorem xe_make (hM : HasMake X.prog X.w X.K X.mg X.base k c n F) (hr : Room (k + 1) X.A) (hg : Gl X c) (ha : XA X (e :: es) mr) (hdb : (c == ("__debug__" : PySem.Str)) = false := by decide)
    (he : starEach (e :: es) X.env = (false, eval e X.env) :: starEach es X.env := by rfl) (hpl : (backTo pos (starEach es X.env)).any (·.1) = false := by rfl) : XE X (.Call (.Name c p) (e :: es) [] pos) (mMakeN c n F mr) := by
  obtain ⟨C, f, hC, hm, h⟩ := hM
  obtain ⟨fd, ps, h1, h2, h3⟩ := h.ex
  exact PEi (pe_make hm h1 hr hg hC h3 .nil pass0 ha hdb he hpl) fun σ H Q q => lf_make hC q
end
end Gm

set_option Elab.async false
set_option linter.all false
set_option maxRecDepth 100000
set_option maxHeartbeats 2000000
/-! Gm9: names of built-ins; a def by its name. -/
namespace Gm
open PySem PySem.Spec PyProof.Rows L2
theorem bt_int : bootBuiltins "int" = some (.type "int") := by decide +kernel
theorem bt_bool : bootBuiltins "bool" = some (.type "bool") := by decide +kernel
theorem bt_str : bootBuiltins "str" = some (.type "str") := by decide +kernel
theorem bt_list : bootBuiltins "list" = some (.type "list") := by decide +kernel
theorem bt_tuple : bootBuiltins "tuple" = some (.type "tuple") := by decide +kernel
theorem bt_dict : bootBuiltins "dict" = some (.type "dict") := by decide +kernel
def CalG (P : Program) (w : World) (K : PySem.W.Frag) (mg : PySem.Str → Option Value) (base : Heap) (k : Nat) (x : PySem.Str) (n : Nat) (F : Fn) : Prop := ∃ f, mg x = some (.ref f) ∧ Cl P w K mg base k f n F
end Gm

set_option Elab.async false
set_option linter.all false
set_option maxRecDepth 100000
set_option maxHeartbeats 2000000
/-! Gm10: methods of lists, stores of items, sums of values. -/
namespace Gm
open PySem PySem.Spec PyProof.Rows L2
section
variable {K : PySem.W.Frag} {mg : Str → Option Value} {r : Nat → Addr} {H : Hp} {S : Store}
theorem tyV_lst {a : Addr} {xs : List V} (h : H a = some (.lst xs)) : tyV K "list" (.ref a) H := .inl ⟨rfl, _, SqL.of h⟩
end
section
variable {X : Cx} {a b c o e i value : Expr} {es : List Expr} {ma mb mo me mv mi : ME} {mr : MA} {pos p apos cpos pos' tpos : Pos} {x : Str}
theorem MtM.r {id : String} {r : V → List V → Hp → VK → Prop} (h : MtM X id r) : MtR X id r := h
theorem xe_append (ho : XE X o mo) (he : XE X e me) (hbase : attributeBase o "append" X.env (eval o X.env) = eval o X.env := by rfl)
    (hfew : ((backTo cpos (starEach (e :: []) X.env)).all (fun x => !x.1) && (backToKw cpos (keywordEach [] X.env)).all (fun x => x.1.isSome)
      && decide ((e :: []).length + ([] : List Keyword).length + (if ([] : List Keyword).isEmpty then 0 else 1) < 30)) = true := by rfl)
    (hline : (apos.endLine == cpos.line) = true := by rfl) (hs : starEach (e :: []) X.env = (false, eval e X.env) :: starEach [] X.env := by rfl) :
    XE X (.Call (.Attribute o "append" apos) [e] [] cpos) (mAppend mo me) :=
  PEi (pe_bm PySem.F.plainAttrs_list PySem.F.slot_list_append PySem.F.type_list_append mt_append ho (pa_cons he pa_nil hs) hbase hfew hline hs) fun σ H Q q => by
    obtain ⟨r, S, e, w, S', ok, hm, k⟩ := q
    unfold mAppend at hm
    split at hm
    · rename_i a S1 e1
      split at hm
      · rename_i ws0 hi
        split at hm
        · rename_i v S2 e2
          split at hm
          · rename_i ws hi2
            split at hm
            · rename_i hl
              cases hm
              refine ⟨r, S, e, _, S1, ok, e1, fun r1 H1 u x1 ok1 hu => ?_⟩
              obtain ⟨hl1, rfl⟩ := vr_ref.mp hu
              obtain ⟨vs, h1, h2⟩ := ok1.rep.lst hi
              refine ⟨tyV_lst h1, r1, S1, e, v, S2, ok1, e2, fun r2 H2 u2 x2 ok2 hv => ?_⟩
              obtain ⟨vs2, h3, h4⟩ := ok2.rep.lst hi2
              have er : r2 a = r1 a := x2.ag a hl1
              refine ⟨_, vs2, u2, rfl, rfl, by rw [← er]; exact h3, by rw [← h4.length]; exact lineL hl, ?_⟩
              obtain ⟨R3, x3⟩ := ok2.rep.set (o' := .lst (ws ++ [v])) (ho' := .lst (vs2 ++ [u2])) hi2 ⟨_, rfl, VRs.append h4 (VRs.cons hv VRs.nil)⟩
              rw [← er]
              exact k r2 _ _ (x1.trans (x2.trans x3)) (ok2.mono x3 R3) (vr_non.mpr rfl)
            · cases hm
          · cases hm
        · cases hm
      · cases hm
    · cases hm
theorem xe_extend (ho : XE X o mo) (he : XE X e me) (hbase : attributeBase o "extend" X.env (eval o X.env) = eval o X.env := by rfl)
    (hfew : ((backTo cpos (starEach (e :: []) X.env)).all (fun x => !x.1) && (backToKw cpos (keywordEach [] X.env)).all (fun x => x.1.isSome)
      && decide ((e :: []).length + ([] : List Keyword).length + (if ([] : List Keyword).isEmpty then 0 else 1) < 30)) = true := by rfl)
    (hline : (apos.endLine == cpos.line) = true := by rfl) (hs : starEach (e :: []) X.env = (false, eval e X.env) :: starEach [] X.env := by rfl) :
    XE X (.Call (.Attribute o "extend" apos) [e] [] cpos) (mExtend mo me) :=
  PEi (pe_bm PySem.F.plainAttrs_list PySem.F.slot_list_extend PySem.F.type_list_extend mt_extend ho (pa_cons he pa_nil hs) hbase hfew hline hs) fun σ H Q q => by
    obtain ⟨r, S, e, w, S', ok, hm, k⟩ := q
    unfold mExtend at hm
    split at hm
    · rename_i a S1 e1
      split at hm
      · rename_i ws0 hi
        split at hm
        · rename_i b S2 e2
          split at hm
          · rename_i ws us hi2 hi3
            split at hm
            · rename_i hl
              cases hm
              refine ⟨r, S, e, _, S1, ok, e1, fun r1 H1 u x1 ok1 hu => ?_⟩
              obtain ⟨hl1, rfl⟩ := vr_ref.mp hu
              obtain ⟨vs, h1, h2⟩ := ok1.rep.lst hi
              refine ⟨tyV_lst h1, r1, S1, e, _, S2, ok1, e2, fun r2 H2 u2 x2 ok2 hv => ?_⟩
              obtain ⟨hl2, rfl⟩ := vr_ref.mp hv
              obtain ⟨vs2, h3, h4⟩ := ok2.rep.lst hi2
              obtain ⟨vs3, h5, h6⟩ := ok2.rep.lst hi3
              have er : r2 a = r1 a := x2.ag a hl1
              refine ⟨_, _, vs2, vs3, rfl, rfl, by rw [← er]; exact h3, h5, by rw [← h4.length, ← h6.length]; exact lineK hl, ?_⟩
              obtain ⟨R3, x3⟩ := ok2.rep.set (o' := .lst (ws ++ us)) (ho' := .lst (vs2 ++ vs3)) hi2 ⟨_, rfl, VRs.append h4 h6⟩
              rw [← er]
              exact k r2 _ _ (x1.trans (x2.trans x3)) (ok2.mono x3 R3) (vr_non.mpr rfl)
            · cases hm
          · cases hm
        · cases hm
      · cases hm
    · cases hm
theorem VRs.dropLast {K : PySem.W.Frag} {mg : Str → Option Value} {r : Nat → Addr} {n : Nat} {H : Hp} : ∀ {ws : List W} {vs : List V}, VRs K mg r n H ws vs → VRs K mg r n H ws.dropLast vs.dropLast
  | [], vs, h => by
    unfold VRs at h
    subst h
    exact VRs.nil
  | [w], vs, h => by
    unfold VRs at h
    obtain ⟨v, us, rfl, h1, h2⟩ := h
    unfold VRs at h2
    subst h2
    exact VRs.nil
  | w :: w2 :: ws, vs, h => by
    unfold VRs at h
    obtain ⟨v, us, rfl, h1, h2⟩ := h
    have h3 := VRs.dropLast h2
    have h4 := h2
    unfold VRs at h4
    obtain ⟨v2, us2, rfl, _, _⟩ := h4
    exact VRs.cons h1 h3
theorem xe_pop (ho : XE X o mo) (hbase : attributeBase o "pop" X.env (eval o X.env) = eval o X.env := by rfl) (hline : (apos.endLine == cpos.line) = true := by rfl) :
    XE X (.Call (.Attribute o "pop" apos) [] [] cpos) (mPop mo) :=
  PEi (pe_bm0 PySem.F.plainAttrs_list PySem.F.slot_list_pop PySem.F.type_list_pop mt_pop ho hbase hline) fun σ H Q q => by
    obtain ⟨r, S, e, w, S', ok, hm, k⟩ := q
    unfold mPop at hm
    split at hm
    · rename_i a S1 e1
      split at hm
      · rename_i ws hi
        split at hm
        · rename_i v hv
          cases hm
          refine ⟨r, S, e, _, S1, ok, e1, fun r1 H1 u x1 ok1 hu => ?_⟩
          obtain ⟨hl1, rfl⟩ := vr_ref.mp hu
          obtain ⟨vs, h1, h2⟩ := ok1.rep.lst hi
          obtain ⟨v2, h3, h4⟩ := h2.get hv
          refine ⟨tyV_lst h1, _, vs, v2, rfl, rfl, h1, by rw [← h2.length]; exact h3, ?_⟩
          obtain ⟨R3, x3⟩ := ok1.rep.set (o' := .lst ws.dropLast) (ho' := .lst vs.dropLast) hi ⟨_, rfl, VRs.dropLast h2⟩
          exact k r1 _ _ (x1.trans x3) (ok1.mono x3 R3) (VR.mono x3 _ _ h4)
        · cases hm
      · cases hm
    · cases hm
/-- o[i] = v -/
theorem xs_setIx (hv : XE X value mv) (ho : XE X o mo) (hi : XE X i mi)
    (ha : ∀ v, assign (.Subscript o i pos') X.env v = (do
      let ov ← holding [v] (eval o X.env)
      let iv ← holding [v, ov] (eval i X.env)
      standAt pos'
      holding [v, ov, iv] (setItem ov iv v)
      release [v, ov, iv] []) := by intro _; rfl)
    (hs : swapsWithSole [.Subscript o i pos'] value pos.line X.env = pure false := by rfl) (hw : swappedStores [.Subscript o i pos'] value X.env = pure none := by rfl)
    (h1 : (assignEach [.Subscript o i pos'] X.env).map (·.2) = [assign (.Subscript o i pos') X.env] := by rfl) : XS X (.Assign [.Subscript o i pos'] value pos) (sSetIx mv mo mi) :=
  PSi (ps_asg hv (pg_sub ho hi set_list ha) hs hw h1) fun D σ H q => by
    obtain ⟨r, S, e, fl, S', ok, hm, k⟩ := q
    unfold sSetIx at hm
    split at hm
    · rename_i v S1 e1
      split at hm
      · rename_i a S2 e2
        split at hm
        · rename_i n S3 e3
          split at hm
          · rename_i ws hi
            split at hm
            · rename_i j hj
              cases hm
              refine ⟨r, S, e, v, S1, ok, e1, fun r1 H1 u x1 ok1 hu => ?_⟩
              refine ⟨r1, S1, e, _, S2, ok1, e2, fun r2 H2 u2 x2 ok2 hu2 => ⟨r2, S2, e, _, S3, ok2, e3, fun r3 H3 u3 x3 ok3 hu3 => ?_⟩⟩
              obtain ⟨hl1, rfl⟩ := vr_ref.mp hu2
              obtain ⟨vs, h1, h2⟩ := ok3.rep.lst hi
              have er : r3 a = r2 a := x3.ag a hl1
              refine ⟨_, vs, n, j, rfl, vr_int.mp hu3, by rw [← er]; exact h1, by rw [← h2.length]; exact hj, ?_⟩
              obtain ⟨R4, x4⟩ := ok3.rep.set (o' := .lst (ws.set j v)) (ho' := .lst (vs.set j u)) hi ⟨_, rfl, VRs.set j h2 (VR.mono (x2.trans x3) _ _ hu)⟩
              rw [← er]
              exact k r3 _ _ (x1.trans (x2.trans (x3.trans x4))) (ok3.mono x4 R4)
            · cases hm
          · cases hm
        · cases hm
      · cases hm
    · cases hm
/-! ### built-ins -/
theorem xe_int1 (hg : Gl X "int") (hm : X.mg "int" = none) (ha : XE X a ma) (he : starEach [a] X.env = (false, eval a X.env) :: starEach [] X.env := by rfl) : XE X (.Call (.Name "int" p) [a] [] pos) (op1 fInt ma) :=
  PEi (pe_callL1T call_int1 hg hm bt_int ha (by decide) (by decide) he) fun σ H Q q => lf_op1 (r1 := fun u H Q => (∃ i, [u] = [V.int i] ∧ Q (V.int i) H) ∨ ∃ k, [u] = [V.bl k] ∧ Q (V.int (if k then 1 else 0)) H) (fun r S H x z u Q R hx e k => by
    unfold fInt at e
    split at e
    · cases e
      exact .inl ⟨_, by rw [vr_int.mp hx], k H _ Ex.refl R (vr_int.mpr rfl)⟩
    · cases e
      exact .inr ⟨_, by rw [vr_bl.mp hx], k H _ Ex.refl R (vr_int.mpr rfl)⟩
    · cases e) q
theorem xe_abs (hg : Gl X "abs") (hm : X.mg "abs" = none) (ha : XE X a ma) (he : starEach [a] X.env = (false, eval a X.env) :: starEach [] X.env := by rfl) : XE X (.Call (.Name "abs" p) [a] [] pos) (op1 fAbs ma) :=
  PEi (pe_callL1 call_abs hg hm (by decide +kernel) ha (by decide) (by decide) he) fun σ H Q q => lf_op1 (r1 := fun u H Q => (∃ i, [u] = [V.int i] ∧ Q (V.int (if i < 0 then -i else i)) H)) (fun r S H x z u Q R hx e k => by
    unfold fAbs at e
    split at e
    · cases e
      exact ⟨_, by rw [vr_int.mp hx], k H _ Ex.refl R (vr_int.mpr rfl)⟩
    · cases e) q
theorem pe_callL2 {id : String} {rdg : List V → Hp → VK → Prop} {t u : TE} (hc : CallR X (.builtin id) rdg) (hg : Gl X x) (hm : X.mg x = none) (hv : bootBuiltins x = some (.builtin id)) (ha : PE X a t) (hb : PE X b u) (hn : x ≠ "__name__" := by decide) (hdb : (x == ("__debug__" : Str)) = false := by decide)
    (he : starEach [a, b] X.env = (false, eval a X.env) :: starEach [b] X.env := by rfl) (he2 : starEach [b] X.env = (false, eval b X.env) :: starEach [] X.env := by rfl) : PE X (.Call (.Name x p) [a, b] [] pos) (fun σ H Q => t σ H fun v H1 => u σ H1 fun w H2 => rdg [v, w] H2 Q) :=
  PEi (pe_callB hc hg hm hv (pa_cons ha (pa_cons hb pa_nil he2) he) hn hdb he (by rw [he2]; rfl)) fun _ _ _ q => q
theorem xe_max2 (hc : X.calm = true) (hg : Gl X "max") (hm : X.mg "max" = none) (ha : XE X a ma) (hb : XE X b mb) (he : starEach [a, b] X.env = (false, eval a X.env) :: starEach [b] X.env := by rfl) (he2 : starEach [b] X.env = (false, eval b X.env) :: starEach [] X.env := by rfl) : XE X (.Call (.Name "max" p) [a, b] [] pos) (op2 fMax2 ma mb) :=
  PEi (pe_callL2 (call_max2 hc) hg hm (by decide +kernel) ha hb (by decide) (by decide) he he2) fun σ H Q q => lf_op2 (r2 := fun x y H Q => ∃ i j, [x, y] = [V.int i, V.int j] ∧ Q (V.int (if j > i then j else i)) H) (fun r S H x y z u v Q R hx hy e k => by
    unfold fMax2 onI at e
    split at e
    · cases e
      exact ⟨_, _, by rw [vr_int.mp hx, vr_int.mp hy], k H _ Ex.refl R (vr_int.mpr rfl)⟩
    · cases e) q
theorem xe_min2 (hc : X.calm = true) (hg : Gl X "min") (hm : X.mg "min" = none) (ha : XE X a ma) (hb : XE X b mb) (he : starEach [a, b] X.env = (false, eval a X.env) :: starEach [b] X.env := by rfl) (he2 : starEach [b] X.env = (false, eval b X.env) :: starEach [] X.env := by rfl) : XE X (.Call (.Name "min" p) [a, b] [] pos) (op2 fMin2 ma mb) :=
  PEi (pe_callL2 (call_min2 hc) hg hm (by decide +kernel) ha hb (by decide) (by decide) he he2) fun σ H Q q => lf_op2 (r2 := fun x y H Q => ∃ i j, [x, y] = [V.int i, V.int j] ∧ Q (V.int (if j < i then j else i)) H) (fun r S H x y z u v Q R hx hy e k => by
    unfold fMin2 onI at e
    split at e
    · cases e
      exact ⟨_, _, by rw [vr_int.mp hx, vr_int.mp hy], k H _ Ex.refl R (vr_int.mpr rfl)⟩
    · cases e) q
/-! ### a sign in a text -/
theorem opl_inSign {K : PySem.W.Frag} {mg : Str → Option Value} : OpL K mg (fun x y H Q => ∃ (c : Nat) (z : Str), x = .str ⟨#[c]⟩ ∧ y = .str z ∧ Q (.bl (decide (c ∈ z.cps.toList))) H) fInSign := by
  intro r S H x y z u v Q R hx hy e k
  unfold fInSign at e
  split at e
  · rename_i s t
    split at e
    · rename_i c hc
      cases e
      refine ⟨c, t, ?_, vr_str.mp hy, k H _ Ex.refl R (vr_bl.mpr rfl)⟩
      rw [vr_str.mp hx]
      obtain ⟨⟨l⟩⟩ := s
      cases hc
      rfl
    · cases e
  · cases e
theorem opl_notInSign {K : PySem.W.Frag} {mg : Str → Option Value} : OpL K mg (fun x y H Q => ∃ (c : Nat) (z : Str), x = .str ⟨#[c]⟩ ∧ y = .str z ∧ Q (.bl (!decide (c ∈ z.cps.toList))) H) fNotInSign := by
  intro r S H x y z u v Q R hx hy e k
  unfold fNotInSign fInSign at e
  split at e
  · rename_i s t
    split at e
    · rename_i c hc
      cases e
      refine ⟨c, t, ?_, vr_str.mp hy, k H _ Ex.refl R (vr_bl.mpr rfl)⟩
      rw [vr_str.mp hx]
      obtain ⟨⟨l⟩⟩ := s
      cases hc
      rfl
    · cases e
  · cases e
theorem xe_inSign (ha : XE X a ma) (hb : XE X b mb) (hm : behindInMarks .In b = false := by rfl) : XE X (.Compare a [.In] [b] pos) (op2 fInSign ma mb) := xe_cmp op_in_sign opl_inSign ha hb hm
theorem xe_notInSign (ha : XE X a ma) (hb : XE X b mb) (hm : behindInMarks .NotIn b = false := by rfl) : XE X (.Compare a [.NotIn] [b] pos) (op2 fNotInSign ma mb) := xe_cmp op_notIn_sign opl_notInSign ha hb hm
theorem xt_inSign (ha : XE X a ma) (hb : XE X b mb) (hm : behindInMarks .In b = false := by rfl) : XT X (.Compare a [.In] [b] pos) (tVal (op2 fInSign ma mb)) := xt_cmp op_in_sign opl_inSign ha hb hm
theorem xt_notInSign (ha : XE X a ma) (hb : XE X b mb) (hm : behindInMarks .NotIn b = false := by rfl) : XT X (.Compare a [.NotIn] [b] pos) (tVal (op2 fNotInSign ma mb)) := xt_cmp op_notIn_sign opl_notInSign ha hb hm
/-! ### lists joined, repeated -/
/-- what a sum of two parts asks, the first of them a new list -/
theorem lf_catL {K : PySem.W.Frag} {mg : Str → Option Value} {m1 m2 : MA} {σ : L2.St} {H : Hp} {Q : VK} (q : LfL K mg (aCat m1 m2) σ H Q) : tOp rCat (LfL K mg m1) (LfL K mg m2) σ H Q := by
  obtain ⟨r, S, e, ws, S', ok, hm, k⟩ := q
  unfold aCat at hm
  split at hm
  · rename_i xs S1 e1
    split at hm
    · rename_i ys S2 e2
      split at hm
      · rename_i hl
        cases hm
        refine ⟨r, S, e, xs, S1, ok, e1, fun r1 H1 p us x1 ok1 np h0 hp hu => ⟨r1, S1, e, ys, S', ok1, e2, fun r2 H2 p2 us2 x2 ok2 np2 h02 hp2 hu2 => ?_⟩⟩
        have hp' := x2.un p _ hp np
        have hu' := VRs.mono x2 _ _ hu
        refine ⟨p, p2, us, us2, rfl, rfl, hp', hp2, by rw [← hu'.length, ← hu2.length]; exact lineK hl, fun l hl => ?_⟩
        obtain ⟨R3, x3⟩ := ok2.rep.junk (ho := .lst (us ++ us2)) hl
        refine k r2 _ l (us ++ us2) (x1.trans (x2.trans x3)) (ok2.mono x3 R3) (fun i hi z => ?_) (x1.th _ (x2.th _ hl)) upd_same (VRs.mono x3 _ _ (VRs.append hu' hu2))
        obtain ⟨hu, g1, _⟩ := ok2.rep.ob i _ (List.getElem?_eq_getElem hi)
        rw [z, hl] at g1
        cases g1
      · cases hm
    · cases hm
  · cases hm
theorem lf_catE {K : PySem.W.Frag} {mg : Str → Option Value} {m1 : ME} {m2 : MA} {σ : L2.St} {H : Hp} {Q : VK} (q : LfL K mg (aCatE m1 m2) σ H Q) : tOp rCat (LfE K mg m1) (LfL K mg m2) σ H Q := by
  obtain ⟨r, S, e, ws, S', ok, hm, k⟩ := q
  unfold aCatE at hm
  split at hm
  · rename_i i S1 e1
    split at hm
    · rename_i ys S2 e2
      split at hm
      · rename_i xs hi
        split at hm
        · rename_i hl
          cases hm
          refine ⟨r, S, e, _, S1, ok, e1, fun r1 H1 u x1 ok1 hu => ⟨r1, S1, e, ys, S', ok1, e2, fun r2 H2 p2 us2 x2 ok2 np2 h02 hp2 hu2 => ?_⟩⟩
          obtain ⟨hl1, rfl⟩ := vr_ref.mp hu
          obtain ⟨us, hp', hu'⟩ := ok2.rep.lst hi
          have er : r2 i = r1 i := x2.ag i hl1
          refine ⟨_, p2, us, us2, rfl, rfl, by rw [← er]; exact hp', hp2, by rw [← hu'.length, ← hu2.length]; exact lineK hl, fun l hl => ?_⟩
          obtain ⟨R3, x3⟩ := ok2.rep.junk (ho := .lst (us ++ us2)) hl
          refine k r2 _ l (us ++ us2) (x1.trans (x2.trans x3)) (ok2.mono x3 R3) (fun i hi z => ?_) (x1.th _ (x2.th _ hl)) upd_same (VRs.mono x3 _ _ (VRs.append hu' hu2))
          obtain ⟨hu, g1, _⟩ := ok2.rep.ob i _ (List.getElem?_eq_getElem hi)
          rw [z, hl] at g1
          cases g1
        · cases hm
      · cases hm
    · cases hm
  · cases hm
theorem xl_cat {m1 m2 : MA} (ha : XL X a m1) (hb : XL X b m2) : XL X (.BinOp a .Add b pos) (aCat m1 m2) := PEi (pe_op op_cat ha hb) fun σ H Q q => lf_catL q
theorem xl_catE {m2 : MA} (ha : XE X a ma) (hb : XL X b m2) : XL X (.BinOp a .Add b pos) (aCatE ma m2) := PEi (pe_op op_cat ha hb) fun σ H Q q => lf_catE q
theorem VRs.rep {K : PySem.W.Frag} {mg : Str → Option Value} {r : Nat → Addr} {n : Nat} {H : Hp} {ws : List W} {vs : List V} (h : VRs K mg r n H ws vs) : ∀ k : Nat, VRs K mg r n H (List.replicate k ws).flatten (List.replicate k vs).flatten
  | 0 => VRs.nil
  | k + 1 => by
    rw [List.replicate_succ, List.replicate_succ, List.flatten_cons, List.flatten_cons]
    exact VRs.append h (VRs.rep h k)
theorem xl_rep {m1 : MA} (ha : XL X a m1) (hb : XE X b mb) : XL X (.BinOp a .Mult b pos) (aRep m1 mb) := PEi (pe_op op_rep ha hb) fun σ H Q q => by
  obtain ⟨r, S, e, ws, S', ok, hm, k⟩ := q
  unfold aRep at hm
  split at hm
  · rename_i xs S1 e1
    split at hm
    · rename_i n S2 e2
      split at hm
      · rename_i hl
        cases hm
        refine ⟨r, S, e, xs, S1, ok, e1, fun r1 H1 p us x1 ok1 np h0 hp hu => ⟨r1, S1, e, _, S', ok1, e2, fun r2 H2 u2 x2 ok2 hu2 => ?_⟩⟩
        have hp' := x2.un p _ hp np
        have hu' := VRs.mono x2 _ _ hu
        refine ⟨p, n, us, rfl, vr_int.mp hu2, hp', Int.le_trans (by decide) (Int.le_of_lt hl.1), Int.lt_trans hl.2.1 (by decide), by rw [← hu'.length]; exact lineK hl.2.2, fun l hl => ?_⟩
        obtain ⟨R3, x3⟩ := ok2.rep.junk (ho := .lst (List.replicate n.toNat us).flatten) hl
        refine k r2 _ l _ (x1.trans (x2.trans x3)) (ok2.mono x3 R3) (fun i hi z => ?_) (x1.th _ (x2.th _ hl)) upd_same (VRs.mono x3 _ _ (VRs.rep hu' _))
        obtain ⟨hu, g1, _⟩ := ok2.rep.ob i _ (List.getElem?_eq_getElem hi)
        rw [z, hl] at g1
        cases g1
      · cases hm
    · cases hm
  · cases hm
end
end Gm

set_option Elab.async false
set_option linter.all false
set_option maxRecDepth 100000
set_option maxHeartbeats 2000000
/-! Gm11: dicts. -/
namespace Gm
open PySem PySem.Spec PyProof.Rows L2
theorem kOne_eq (w : W) : kOne w = keyOf w := by cases w <;> rfl
theorem kAll_eq : ∀ ws : List W, kAll ws = keysOf ws
  | [] => rfl
  | w :: ws => by
    unfold kAll keysOf
    rw [kOne_eq, kAll_eq ws]
    cases keyOf w <;> cases keysOf ws <;> rfl
theorem kTup_eq (w : W) : kTup w = tkeyOf w := by
  cases w with
  | tup ws => exact kAll_eq ws
  | _ => rfl
theorem sameK_f (a b : W) : sameK false a b = decide (keyOf a = keyOf b) := by
  show decide (kOne a = kOne b) = _
  rw [kOne_eq, kOne_eq]
theorem sameK_t (a b : W) : sameK true a b = decide (tkeyOf a = tkeyOf b) := by
  show decide (kTup a = kTup b) = _
  rw [kTup_eq, kTup_eq]
section
variable {K : PySem.W.Frag} {mg : Str → Option Value} {r : Nat → Addr} {n : Nat} {H : Hp} {S : Store}
/-- what is found, what is there -/
def Fnd (K : PySem.W.Frag) (mg : Str → Option Value) (r : Nat → Addr) (n : Nat) (H : Hp) (a : Option W) (b : Option V) : Prop := (a = none ∧ b = none) ∨ ∃ w v, a = some w ∧ b = some v ∧ VR K mg r n H w v
theorem KR.val {κ : Type} [DecidableEq κ] {ko : W → Option κ} {sk : W → W → Bool} (hs : ∀ a b, sk a b = decide (ko a = ko b)) {k : W} {q : κ} (hk : ko k = some q) :
    ∀ {kvs : List (W × W)} {ks : List (κ × V)}, KR K mg ko r n H kvs ks → Fnd K mg r n H ((kvs.find? fun kv => sk kv.1 k).map (·.2)) (valV ks q)
  | [], ks, h => by
    unfold KR at h
    subst h
    exact .inl ⟨rfl, rfl⟩
  | (k1, w) :: kvs, ks, h => by
    unfold KR at h
    obtain ⟨q1, v, us, rfl, h1, h2, h3⟩ := h
    by_cases e : q1 = q
    · subst e
      refine .inr ⟨w, v, ?_, valV_pos rfl, h2⟩
      rw [List.find?_cons_of_pos (by simp only [hs]; rw [h1, hk]; exact decide_eq_true rfl)]
      rfl
    · rw [List.find?_cons_of_neg (by simp only [hs]; rw [h1, hk]; simpa using e), valV_neg (by exact e)]
      exact KR.val hs hk h3
theorem KR.anyK {κ : Type} [DecidableEq κ] {ko : W → Option κ} {sk : W → W → Bool} (hs : ∀ a b, sk a b = decide (ko a = ko b)) {k : W} {q : κ} (hk : ko k = some q) :
    ∀ {kvs : List (W × W)} {ks : List (κ × V)}, KR K mg ko r n H kvs ks → (kvs.any fun kv => sk kv.1 k) = (ks.any fun kv => decide (kv.1 = q))
  | [], ks, h => by
    unfold KR at h
    subst h
    rfl
  | (k1, w) :: kvs, ks, h => by
    unfold KR at h
    obtain ⟨q1, v, us, rfl, h1, h2, h3⟩ := h
    rw [List.any_cons, List.any_cons, KR.anyK hs hk h3, hs, h1, hk]
    congr 1
    simp
theorem KR.mapK {κ : Type} [DecidableEq κ] {ko : W → Option κ} {sk : W → W → Bool} (hs : ∀ a b, sk a b = decide (ko a = ko b)) {k : W} {q : κ} (hk : ko k = some q) {w : W} {v : V} (hv : VR K mg r n H w v) :
    ∀ {kvs : List (W × W)} {ks : List (κ × V)}, KR K mg ko r n H kvs ks → KR K mg ko r n H (kvs.map fun kv => if sk kv.1 k then (kv.1, w) else kv) (ks.map fun kv => if kv.1 = q then (kv.1, v) else kv)
  | [], ks, h => by
    unfold KR at h
    subst h
    unfold KR
    rfl
  | (k1, w1) :: kvs, ks, h => by
    unfold KR at h
    obtain ⟨q1, v1, us, rfl, h1, h2, h3⟩ := h
    have ih := KR.mapK hs hk hv h3
    rw [List.map_cons, List.map_cons]
    by_cases e : q1 = q
    · have e2 : sk k1 k = true := by rw [hs, h1, hk, e]; exact decide_eq_true rfl
      rw [if_pos e2, if_pos e]
      unfold KR
      exact ⟨q1, v, _, rfl, h1, hv, ih⟩
    · have e2 : ¬ sk k1 k = true := by rw [hs, h1, hk]; simpa using e
      rw [if_neg e2, if_neg e]
      unfold KR
      exact ⟨q1, v1, _, rfl, h1, h2, ih⟩
theorem KR.append {κ : Type} {ko : W → Option κ} : ∀ {kvs lvs : List (W × W)} {ks ls : List (κ × V)}, KR K mg ko r n H kvs ks → KR K mg ko r n H lvs ls → KR K mg ko r n H (kvs ++ lvs) (ks ++ ls)
  | [], lvs, ks, ls, h, h' => by
    unfold KR at h
    subst h
    exact h'
  | (k1, w) :: kvs, lvs, ks, ls, h, h' => by
    unfold KR at h
    obtain ⟨q1, v, us, rfl, h1, h2, h3⟩ := h
    show KR K mg ko r n H ((k1, w) :: (kvs ++ lvs)) ((q1, v) :: (us ++ ls))
    unfold KR
    exact ⟨q1, v, _, rfl, h1, h2, KR.append h3 h'⟩
theorem KR.one {κ : Type} {ko : W → Option κ} {k w : W} {q : κ} {v : V} (h1 : ko k = some q) (h2 : VR K mg r n H w v) : KR K mg ko r n H [(k, w)] [(q, v)] := by
  unfold KR
  exact ⟨q, v, [], rfl, h1, h2, by unfold KR; rfl⟩
theorem KR.nil {κ : Type} {ko : W → Option κ} : KR K mg ko r n H [] [] := by
  unfold KR
  rfl
theorem KR.putf {k w : W} {q : Key} {v : V} (hk : keyOf k = some q) (hv : VR K mg r n H w v) {kvs : List (W × W)} {ks : List (Key × V)} (h : KR K mg keyOf r n H kvs ks) : KR K mg keyOf r n H (dPut false kvs k w) (putK ks q v) := by
  unfold dPut putK
  rw [KR.anyK sameK_f hk h]
  split
  · exact KR.mapK sameK_f hk hv h
  · exact KR.append h (KR.one hk hv)
theorem KR.putt {k w : W} {q : List Key} {v : V} (hk : tkeyOf k = some q) (hv : VR K mg r n H w v) {kvs : List (W × W)} {ks : List (List Key × V)} (h : KR K mg tkeyOf r n H kvs ks) : KR K mg tkeyOf r n H (dPut true kvs k w) (putK ks q v) := by
  unfold dPut putK
  rw [KR.anyK sameK_t hk h]
  split
  · exact KR.mapK sameK_t hk hv h
  · exact KR.append h (KR.one hk hv)
/-- a key's value -/
theorem key_V {k : W} {y : V} {q : Key} (h : VR K mg r n H k y) (e : keyOf k = some q) : y = kV q := by
  cases k with
  | int i =>
    cases e
    exact vr_int.mp h
  | str x =>
    cases e
    exact vr_str.mp h
  | _ => cases e
theorem keys_V : ∀ {ws : List W} {vs : List V} {qs : List Key}, VRs K mg r n H ws vs → keysOf ws = some qs → vs = qs.map kV
  | [], vs, qs, h, e => by
    unfold VRs at h
    cases e
    exact h
  | w :: ws, vs, qs, h, e => by
    unfold VRs at h
    obtain ⟨v, us, rfl, h1, h2⟩ := h
    unfold keysOf at e
    split at e
    · rename_i k ks e1 e2
      cases e
      rw [key_V h1 e1, keys_V h2 e2]
      rfl
    · cases e
theorem tkey_V {k : W} {y : V} {q : List Key} (h : VR K mg r n H k y) (e : tkeyOf k = some q) : ∃ b, y = .ref b ∧ H b = some (.tup (q.map kV)) := by
  cases k with
  | tup ws =>
    obtain ⟨b, vs, rfl, h1, h2⟩ := vr_tup.mp h
    rw [keys_V h2 e] at h1
    exact ⟨b, rfl, h1⟩
  | _ => cases e
theorem Rep.dct (R : Rep K mg r S H) {i : Nat} {t : Bool} {kvs : List (W × W)} (h : S[i]? = some (.dct t kvs)) :
    (t = false ∧ ∃ ks, H (r i) = some (.dK ks) ∧ KR K mg keyOf r S.length H kvs ks) ∨ (t = true ∧ ∃ ks, H (r i) = some (.dT ks) ∧ KR K mg tkeyOf r S.length H kvs ks) := by
  obtain ⟨ho, h1, h2⟩ := R.ob i _ h
  cases t with
  | false =>
    obtain ⟨ks, rfl, h2⟩ := h2
    exact .inl ⟨rfl, ks, h1, h2⟩
  | true =>
    obtain ⟨ks, rfl, h2⟩ := h2
    exact .inr ⟨rfl, ks, h1, h2⟩
theorem kOk_f {k : W} (h : kOk false k = true) : ∃ q, keyOf k = some q := by
  have h : (kOne k).isSome = true := h
  rw [kOne_eq] at h
  exact Option.isSome_iff_exists.mp h
theorem kOk_t {k : W} (h : kOk true k = true) : ∃ q, tkeyOf k = some q := by
  have h : (kTup k).isSome = true := h
  rw [kTup_eq] at h
  exact Option.isSome_iff_exists.mp h
theorem dget {a : Nat} {t : Bool} {kvs : List (W × W)} {k : W} {y : V} (R : Rep K mg r S H) (hi : S[a]? = some (.dct t kvs)) (hk : VR K mg r n H k y) (ok : kOk t k = true) : ∃ o, DGet H (r a) y o ∧ Fnd K mg r S.length H (dVal t kvs k) o := by
  rcases R.dct hi with ⟨rfl, ks, h1, h2⟩ | ⟨rfl, ks, h1, h2⟩
  · obtain ⟨q, hq⟩ := kOk_f ok
    refine ⟨valV ks q, by rw [key_V hk hq]; exact DGet.k h1, KR.val sameK_f hq h2⟩
  · obtain ⟨q, hq⟩ := kOk_t ok
    obtain ⟨b, rfl, hb⟩ := tkey_V hk hq
    exact ⟨valV ks q, DGet.t h1 hb, KR.val sameK_t hq h2⟩
theorem dput {a : Nat} {t : Bool} {kvs : List (W × W)} {k w : W} {y v : V} (R : Rep K mg r S H) (hi : S[a]? = some (.dct t kvs)) (hk : VR K mg r n H k y) (ok : kOk t k = true) (hv : VR K mg r S.length H w v) (hl : kvs.length < 100000) :
    ∃ ho, DPut H (r a) y v (upd H (r a) ho) ∧ OR K mg r S.length H (.dct t (dPut t kvs k w)) ho := by
  rcases R.dct hi with ⟨rfl, ks, h1, h2⟩ | ⟨rfl, ks, h1, h2⟩
  · obtain ⟨q, hq⟩ := kOk_f ok
    refine ⟨_, by rw [key_V hk hq]; exact DPut.k h1 (by rw [← KR.length h2]; exact lineL hl), _, rfl, KR.putf hq hv h2⟩
  · obtain ⟨q, hq⟩ := kOk_t ok
    obtain ⟨b, rfl, hb⟩ := tkey_V hk hq
    exact ⟨_, DPut.t h1 hb (by rw [← KR.length h2]; exact lineL hl), _, rfl, KR.putt hq hv h2⟩
theorem isD_dct {a : Nat} {t : Bool} {kvs : List (W × W)} (R : Rep K mg r S H) (hi : S[a]? = some (.dct t kvs)) : IsD H (r a) := by
  rcases R.dct hi with ⟨rfl, ks, h1, h2⟩ | ⟨rfl, ks, h1, h2⟩
  · exact .inl ⟨ks, .inl h1⟩
  · exact .inr ⟨ks, .inl h1⟩
end
section
variable {X : Cx} {a b c o e f i k value : Expr} {es : List Expr} {ma mb mo me mv mi mk : ME} {mr : MA} {pos p apos cpos pos' tpos : Pos} {x : Str}
/-- o[k] of a dict -/
theorem xe_getD (hu : X.A.units + 64 < cLine) (ho : XE X o mo) (hi : XE X i mk) (hs : NoSl i := by exact fun _ _ => rfl) : XE X (.Subscript o i pos) (op2 fGetD mo mk) :=
  PEi (pe_dget (by omega) ho hi hs) fun σ H Q q => lf_op2 (r2 := fun x y H Q => ∃ a v, x = .ref a ∧ DGet H a y (some v) ∧ Q v H) (fun r S H x y z u v Q R hx hy e k => by
    unfold fGetD at e
    split at e
    · split at e
      · rename_i hi
        split at e
        · rename_i ok
          obtain ⟨hl, rfl⟩ := vr_ref.mp hx
          obtain ⟨o, h1, h2⟩ := dget R hi hy ok
          rcases h2 with ⟨h2, _⟩ | ⟨w, v2, h2, rfl, h3⟩
          · rw [h2] at e
            cases e
          · rw [h2] at e
            cases e
            exact ⟨_, v2, rfl, h1, k H _ Ex.refl R h3⟩
        · cases e
      · cases e
    · cases e) q
theorem xe_inD (hu : X.A.units + 64 < cLine) (hi : XE X i mk) (ho : XE X o mo) (hm : behindInMarks .In o = false := by rfl) : XE X (.Compare i [.In] [o] pos) (op2 fInD mk mo) :=
  PEi (pe_cmp (pc_din (by omega) hi ho) hm) fun σ H Q q => lf_op2 (r2 := fun y x H Q => ∃ a o, x = .ref a ∧ DGet H a y o ∧ Q (.bl o.isSome) H) (fun r S H y x z u v Q R hy hx e k => by
    unfold fInD at e
    split at e
    · split at e
      · rename_i hi
        split at e
        · rename_i ok
          cases e
          obtain ⟨hl, rfl⟩ := vr_ref.mp hx
          obtain ⟨o, h1, h2⟩ := dget R hi hy ok
          refine ⟨_, o, rfl, h1, k H _ Ex.refl R (vr_bl.mpr ?_)⟩
          rcases h2 with ⟨h2, rfl⟩ | ⟨w, v2, h2, rfl, h3⟩ <;> (rw [h2]; rfl)
        · cases e
      · cases e
    · cases e) q
theorem fInD_bl {y x z : W} {S : Store} (e : fNotInD y x S = some z) : ∃ b, fInD y x S = some (.bl b) ∧ z = .bl (!b) := by
  unfold fNotInD at e
  exact negW_some e
theorem lf_dnotin {σ : L2.St} {H : Hp} {Q : VK} {K : PySem.W.Frag} {mg : Str → Option Value} (q : LfE K mg (op2 fNotInD mk mo) σ H Q) : tDNotIn (LfE K mg mk) (LfE K mg mo) σ H Q :=
  lf_op2 (r2 := fun y x H Q => ∃ a o, x = .ref a ∧ DGet H a y o ∧ Q (.bl (!o.isSome)) H) (fun r S H y x z u v Q R hy hx e k => by
    obtain ⟨b, e', rfl⟩ := fInD_bl e
    unfold fInD at e'
    split at e'
    · split at e'
      · rename_i hi
        split at e'
        · rename_i ok
          cases e'
          obtain ⟨hl, rfl⟩ := vr_ref.mp hx
          obtain ⟨o, h1, h2⟩ := dget R hi hy ok
          refine ⟨_, o, rfl, h1, k H _ Ex.refl R (vr_bl.mpr ?_)⟩
          rcases h2 with ⟨h2, rfl⟩ | ⟨w, v2, h2, rfl, h3⟩ <;> (rw [h2]; rfl)
        · cases e'
      · cases e'
    · cases e') q
theorem lf_din {σ : L2.St} {H : Hp} {Q : VK} {K : PySem.W.Frag} {mg : Str → Option Value} (q : LfE K mg (op2 fInD mk mo) σ H Q) : tDIn (LfE K mg mk) (LfE K mg mo) σ H Q :=
  lf_op2 (r2 := fun y x H Q => ∃ a o, x = .ref a ∧ DGet H a y o ∧ Q (.bl o.isSome) H) (fun r S H y x z u v Q R hy hx e k => by
    unfold fInD at e
    split at e
    · split at e
      · rename_i hi
        split at e
        · rename_i ok
          cases e
          obtain ⟨hl, rfl⟩ := vr_ref.mp hx
          obtain ⟨o, h1, h2⟩ := dget R hi hy ok
          refine ⟨_, o, rfl, h1, k H _ Ex.refl R (vr_bl.mpr ?_)⟩
          rcases h2 with ⟨h2, rfl⟩ | ⟨w, v2, h2, rfl, h3⟩ <;> (rw [h2]; rfl)
        · cases e
      · cases e
    · cases e) q
theorem xe_notInD (hu : X.A.units + 64 < cLine) (hi : XE X i mk) (ho : XE X o mo) (hm : behindInMarks .NotIn o = false := by rfl) : XE X (.Compare i [.NotIn] [o] pos) (op2 fNotInD mk mo) := PEi (pe_cmp (pc_dnotin (by omega) hi ho) hm) fun σ H Q q => lf_dnotin q
theorem xt_inD (hu : X.A.units + 64 < cLine) (hi : XE X i mk) (ho : XE X o mo) (hm : behindInMarks .In o = false := by rfl) : XT X (.Compare i [.In] [o] pos) (tVal (op2 fInD mk mo)) := PTi (pt_cmp (pc_din (by omega) hi ho) hm) fun σ H Q q => lf_din (lf_tval q)
theorem xt_notInD (hu : X.A.units + 64 < cLine) (hi : XE X i mk) (ho : XE X o mo) (hm : behindInMarks .NotIn o = false := by rfl) : XT X (.Compare i [.NotIn] [o] pos) (tVal (op2 fNotInD mk mo)) := PTi (pt_cmp (pc_dnotin (by omega) hi ho) hm) fun σ H Q q => lf_dnotin (lf_tval q)
theorem xs_putD (hu : X.A.units + 64 < cLine) (hv : XE X value mv) (ho : XE X o mo) (hi : XE X i mk) (hs : swapsWith value (some (.Subscript o i pos')) pos.line X.env = pure false := by rfl) : XS X (.Assign [.Subscript o i pos'] value pos) (sPutD mv mo mk) :=
  PSi (ps_dput (by omega) ho hi hv hs) fun D σ H q => by
    obtain ⟨r, S, e, fl, S', ok, hm, k⟩ := q
    unfold sPutD at hm
    split at hm
    · rename_i v S1 e1
      split at hm
      · rename_i a S2 e2
        split at hm
        · rename_i ky S3 e3
          split at hm
          · rename_i t kvs hi
            split at hm
            · rename_i hc
              cases hm
              refine ⟨r, S, e, v, S1, ok, e1, fun r1 H1 u x1 ok1 hu => ⟨r1, S1, e, _, S2, ok1, e2, fun r2 H2 u2 x2 ok2 hu2 => ⟨r2, S2, e, _, S3, ok2, e3, fun r3 H3 u3 x3 ok3 hu3 => ?_⟩⟩⟩
              obtain ⟨hl1, rfl⟩ := vr_ref.mp hu2
              have er : r3 a = r2 a := x3.ag a hl1
              obtain ⟨ho, h1, h2⟩ := dput ok3.rep hi hu3 hc.1 (VR.mono (x2.trans x3) _ _ hu) hc.2
              obtain ⟨R4, x4⟩ := ok3.rep.set hi h2
              refine ⟨_, _, rfl, by rw [← er]; exact h1, ?_⟩
              exact k r3 _ _ (x1.trans (x2.trans (x3.trans x4))) (ok3.mono x4 R4)
            · cases hm
          · cases hm
        · cases hm
      · cases hm
    · cases hm
theorem xs_augD {op : Operator} {fo : W → W → Store → Option W} {rd : R2} (hu : X.A.units + 64 < cLine) (hop : InOp X op rd) (hf : OpL X.K X.mg rd fo) (ho : XE X o mo) (hi : XE X i mk) (hv : XE X value mv)
    (ha : ∀ ov iv new, augStore i ov iv new = (do holding [new, ov, iv] (setItem ov iv new); release [new, ov, iv] []; pure .next) := by intro _ _ _; rfl) : XS X (.AugAssign (.Subscript o i tpos) op value pos) (sAugD mo mk fo mv) :=
  PSi (ps_daug (by omega) ho hi hv hop ha) fun D σ H q => by
    obtain ⟨r, S, e, fl, S', ok, hm, k⟩ := q
    unfold sAugD at hm
    split at hm
    · rename_i a S1 e1
      split at hm
      · rename_i ky S2 e2
        split at hm
        · rename_i t kvs hi
          split at hm
          · rename_i hc
            split at hm
            · rename_i y0 hy0
              split at hm
              · rename_i y1 S3 e3
                split at hm
                · rename_i z hz
                  split at hm
                  · rename_i t' kvs' hi'
                    split at hm
                    · rename_i hc'
                      cases hm
                      obtain ⟨ht, hl⟩ := hc'
                      subst ht
                      refine ⟨r, S, e, _, S1, ok, e1, fun r1 H1 u x1 ok1 hu => ⟨r1, S1, e, _, S2, ok1, e2, fun r2 H2 u2 x2 ok2 hu2 => ?_⟩⟩
                      obtain ⟨hl1, rfl⟩ := vr_ref.mp hu
                      have er : r2 a = r1 a := x2.ag a hl1
                      obtain ⟨o, h1, h2⟩ := dget ok2.rep hi hu2 hc
                      rcases h2 with ⟨h2, _⟩ | ⟨w0, v0, h2, rfl, h3⟩
                      · rw [h2] at hy0
                        cases hy0
                      · rw [h2] at hy0
                        cases hy0
                        refine ⟨_, v0, rfl, by rw [← er]; exact h1, r2, S2, e, y1, S3, ok2, e3, fun r3 H3 u3 x3 ok3 hu3 => ?_⟩
                        refine hf r3 S3 H3 _ y1 z v0 u3 _ ok3.rep (VR.mono x3 _ _ h3) hu3 hz fun H4 t4 x4 R4 v4 => ?_
                        obtain ⟨ho, h5, h6⟩ := dput R4 hi' (VR.mono (x3.trans x4) _ _ hu2) hc v4 hl
                        obtain ⟨R5, x5⟩ := R4.set hi' h6
                        have hl2 : a < S2.length := Nat.lt_of_lt_of_le hl1 x2.le
                        have er3 : r3 a = r1 a := (x3.ag a hl2).trans er
                        refine ⟨_, by rw [← er3]; exact h5, ?_⟩
                        exact k r3 _ _ (x1.trans (x2.trans (x3.trans (x4.trans x5)))) ((ok3.mono x4 R4).mono x5 R5)
                    · cases hm
                  · cases hm
                · cases hm
              · cases hm
            · cases hm
          · cases hm
        · cases hm
      · cases hm
    · cases hm
theorem opl_div {K : PySem.W.Frag} {mg : Str → Option Value} : OpL K mg (rI CDivW fun i j => .int (i / j)) fDiv := opl_ints fun i j z e => by
  split at e
  · rename_i hc
    cases e
    exact ⟨cdivW hc, fun r n H => vr_int.mpr rfl⟩
  · cases e
theorem opl_add0 {K : PySem.W.Frag} {mg : Str → Option Value} : OpL K mg (rI0 fun i j => .int (i + j)) (onI fun i j => some (.int (i + j))) := opl_ints0 fun i j z e r n H => by cases e; exact vr_int.mpr rfl
theorem xe_get1 (hu : X.A.units + 64 < cLine) (ho : XE X o mo) (he : XE X e mk) (m : M1 X o "get" apos e cpos := by exact ⟨rfl, rfl, rfl, rfl⟩) : XE X (.Call (.Attribute o "get" apos) [e] [] cpos) (mGet1 mo mk) :=
  PEi (pe_dget1 (by omega) ho he m) fun σ H Q q => by
    obtain ⟨r, S, e, w, S', ok, hm, k⟩ := q
    unfold mGet1 at hm
    split at hm
    · rename_i a S1 e1
      split at hm
      · rename_i t0 kvs0 hi0
        split at hm
        · rename_i ky S2 e2
          split at hm
          · rename_i t kvs hi
            split at hm
            · rename_i hc
              cases hm
              refine ⟨r, S, e, _, S1, ok, e1, fun r1 H1 u x1 ok1 hu => ?_⟩
              obtain ⟨hl1, rfl⟩ := vr_ref.mp hu
              refine ⟨_, rfl, isD_dct ok1.rep hi0, r1, S1, e, ky, S', ok1, e2, fun r2 H2 u2 x2 ok2 hu2 => ?_⟩
              have er : r2 a = r1 a := x2.ag a hl1
              obtain ⟨o, h1, h2⟩ := dget ok2.rep hi hu2 hc
              refine ⟨o, by rw [← er]; exact h1, k r2 _ _ (x1.trans x2) ok2 ?_⟩
              rcases h2 with ⟨h2, rfl⟩ | ⟨w0, v0, h2, rfl, h3⟩
              · rw [h2]
                exact vr_non.mpr rfl
              · rw [h2]
                exact h3
            · cases hm
          · cases hm
        · cases hm
      · cases hm
    · cases hm
theorem xe_dNewF {pos : Pos} : XE X (.Dict [] [] pos) (mDNew false) := PEi pe_dnewK fun σ H Q q => by
  obtain ⟨r, S, e, w, S', ok, hm, k⟩ := q
  cases hm
  intro p hp
  obtain ⟨R2, x2⟩ := ok.rep.new (o := .dct false []) (ho := .dK []) hp ⟨[], rfl, KR.nil⟩
  exact k _ _ _ x2 (ok.mono x2 R2) (vr_ref.mpr ⟨by rw [List.length_append]; exact Nat.lt_succ_self _, by rw [ext_eq]⟩)
theorem xe_dNewT {pos : Pos} : XE X (.Dict [] [] pos) (mDNew true) := PEi pe_dnewT fun σ H Q q => by
  obtain ⟨r, S, e, w, S', ok, hm, k⟩ := q
  cases hm
  intro p hp
  obtain ⟨R2, x2⟩ := ok.rep.new (o := .dct true []) (ho := .dT []) hp ⟨[], rfl, KR.nil⟩
  exact k _ _ _ x2 (ok.mono x2 R2) (vr_ref.mpr ⟨by rw [List.length_append]; exact Nat.lt_succ_self _, by rw [ext_eq]⟩)
end
end Gm

set_option Elab.async false
set_option linter.all false
set_option maxRecDepth 100000
set_option maxHeartbeats 2000000
/-! Gm12: more of dicts: setdefault, displays, copies, sorted keys. -/
namespace Gm
open PySem PySem.Spec PyProof.Rows L2
section
variable {X : Cx} {pins : List (Addr × Obj)} {σ : L2.St} {H : Hp} {s : Shared} {a b : Addr} {u r : Value} {d : V} {k : List Key} {A : Around} {E : Value → Shared → Prop}
theorem d_setdT {kvs : List (List Key × V)} {Q : Value → Shared → Prop} (hu : A.units + 1 < cLine) (I : Inv X pins σ H s) (e : H a = some (.dT kvs)) (eb : H b = some (.tup (k.map kV))) (rd : RelV d r) (hl : kvs.length < sizeLine)
    (h1 : ∀ v, valV kvs k = some v → ∀ (w' : Value) (s' : Shared), Inv X pins σ H s' → RelV v w' → Q w' s') (h2 : valV kvs k = none → ∀ (w' : Value) (s' : Shared), Inv X pins σ (upd H a (.dT (putK kvs k d))) s' → RelV d w' → Q w' s') :
    wpAny (model X.prog X.w) A (call (.builtin "dict.setdefault") [.ref a, .ref b, r]) Q E s := by
  obtain ⟨z, hd, xs, rel, dd⟩ := dt_of I.hok e
  have hz : xs.length ≤ sizeLine := by rw [← Paired.length rel]; exact z
  refine call_setdefault_heap (hsz := hz) (knd := tupleKind (mixKind X.prog X.w)) (tupleKind_room_in1 hu) (key_of I.hok eb) hd dd (fun p hp => ?_) fun hn h' dd' hs => ?_
  · have q := rel.val k
    rw [hp] at q
    cases q0 : valV kvs k with
    | none =>
      rw [q0] at q
      exact (show False from q).elim
    | some v0 =>
      rw [q0] at q
      exact h1 v0 q0 _ _ (I.tok _) q
  · have q := rel.val k
    rw [hn] at q
    cases q0 : valV kvs k with
    | some v0 =>
      rw [q0] at q
      exact (show False from q).elim
    | none =>
      have hl2 : (putK kvs k d).length ≤ sizeLine := by
        have := length_putK kvs k d
        omega
      obtain ⟨q, es, ep, hq, g2, g3, g4, _, g5⟩ := dd'
      refine h2 q0 _ _ (d_write (t' := s.toks + _) I (by rw [e]; exact True.intro) hs ⟨q, hq⟩ ⟨hl2, hd, _, (rel.put k eb rd).keeps fun c ys ec => ?_, q, es, ep, hq, g2, g3, g4, g5⟩) rd
      rw [upd_ne (ne_of ec e (fun z => nomatch z))]
      exact ec
end
def tDSetX (td ty tx : TE) : TE := fun σ H Q => td σ H fun x H1 => ∃ a, x = .ref a ∧ IsD H1 a ∧ ty σ H1 fun y H2 => tx σ H2 fun z H3 =>
  (∃ (kvs : List (Key × V)) (k : Key), H3 a = some (.dK kvs) ∧ y = kV k ∧ kvs.length < sizeLine ∧ (∀ v, valV kvs k = some v → Q v H3) ∧ (valV kvs k = none → Q z (upd H3 a (.dK (putK kvs k z))))) ∨
  ∃ (kvs : List (List Key × V)) (k : List Key) (b : Addr), H3 a = some (.dT kvs) ∧ y = .ref b ∧ H3 b = some (.tup (k.map kV)) ∧ kvs.length < sizeLine ∧ (∀ v, valV kvs k = some v → Q v H3) ∧ (valV kvs k = none → Q z (upd H3 a (.dT (putK kvs k z))))
section
variable {X : Cx} {a b c o e f i k value : Expr} {es : List Expr} {ma mb mo me mv mi mk : ME} {mr : MA} {pos p apos cpos pos' tpos : Pos} {x : Str} {td ty tx : TE}
theorem pe_dsetX (hu : X.A.units + 1 < cLine) (ho : PE X o td) (he : PE X e ty) (hf : PE X f tx) (m : M2 X o "setdefault" apos e f cpos) : PE X (.Call (.Attribute o "setdefault" apos) [e, f] [] cpos) (tDSetX td ty tx) := by
  refine ⟨fun pins s σ H Q I h => ?_⟩
  refine wpAny_Call_method m.base m.few m.line PySem.F.plainAttrs_dict PySem.F.slot_dict_setdefault PySem.F.type_dict_setdefault (thn (ho.run pins s σ H _ I h) fun u s1 ⟨x, H1, I1, rx, a, ex, d, q1⟩ => ?_)
  subst ex
  obtain rfl : u = Value.ref a := rx
  obtain ⟨t1, t2, _⟩ := isD_at I1 d
  refine ⟨t1, t2, ?_⟩
  rw [m.trees]
  refine Calls.callWith_builtin rfl (Calls.evalArgs_plain (Calls.spliced_cons (thn (he.run pins s1 σ H1 _ I1 q1) fun iv s2 ⟨y, H2, I2, ry, q2⟩ =>
    Calls.spliced_cons (thn (hf.run pins s2 σ H2 _ I2 q2) fun fv s3 ⟨z, H3, I3, rz, q3⟩ => Calls.spliced_nil ?_))))
  rcases q3 with ⟨kvs, k, ea, ey, hl, q3, q4⟩ | ⟨kvs, k, b, ea, ey, eb, hl, q3, q4⟩
  · subst ey
    exact d_setd I3 ea ry rz hl (fun v hv w' s4 I4 rw' => ⟨v, _, I4, rw', q3 v hv⟩) fun hn w' s4 I4 rw' => ⟨z, _, I4, rw', q4 hn⟩
  · subst ey
    obtain rfl : iv = Value.ref b := ry
    exact d_setdT hu I3 ea eb rz hl (fun v hv w' s4 I4 rw' => ⟨v, _, I4, rw', q3 v hv⟩) fun hn w' s4 I4 rw' => ⟨z, _, I4, rw', q4 hn⟩
theorem Fnd.some_of {K : PySem.W.Frag} {mg : Str → Option Value} {r : Nat → Addr} {n : Nat} {H : Hp} {o : Option W} {q : Option V} {v : V} (h : Fnd K mg r n H o q) (e : q = some v) : ∃ w, o = some w ∧ VR K mg r n H w v := by
  rcases h with ⟨_, h⟩ | ⟨w, v2, h1, h2, h3⟩
  · rw [e] at h; cases h
  · rw [e] at h2; cases h2; exact ⟨w, h1, h3⟩
theorem Fnd.none_of {K : PySem.W.Frag} {mg : Str → Option Value} {r : Nat → Addr} {n : Nat} {H : Hp} {o : Option W} {q : Option V} (h : Fnd K mg r n H o q) (e : q = none) : o = none := by
  rcases h with ⟨h, _⟩ | ⟨w, v2, h1, h2, h3⟩
  · exact h
  · rw [e] at h2; cases h2
theorem xe_setd (hu : X.A.units + 64 < cLine) (ho : XE X o mo) (he : XE X e mk) (hf : XE X f mv) (m : M2 X o "setdefault" apos e f cpos := by exact ⟨rfl, rfl, rfl, rfl⟩) : XE X (.Call (.Attribute o "setdefault" apos) [e, f] [] cpos) (mSetD mo mk mv) :=
  PEi (pe_dsetX (by omega) ho he hf m) fun σ H Q q => by
    obtain ⟨r, S, e, w, S', ok, hm, k⟩ := q
    unfold mSetD at hm
    split at hm
    · rename_i a S1 e1
      split at hm
      · rename_i t0 kvs0 hi0
        split at hm
        · rename_i ky S2 e2
          split at hm
          · rename_i v S3 e3
            split at hm
            · rename_i t kvs hi
              split at hm
              · rename_i hc
                refine ⟨r, S, e, _, S1, ok, e1, fun r1 H1 u x1 ok1 hu => ?_⟩
                obtain ⟨hl1, rfl⟩ := vr_ref.mp hu
                refine ⟨_, rfl, isD_dct ok1.rep hi0, r1, S1, e, ky, S2, ok1, e2, fun r2 H2 u2 x2 ok2 hu2 => ⟨r2, S2, e, v, S3, ok2, e3, fun r3 H3 u3 x3 ok3 hu3 => ?_⟩⟩
                have er : r3 a = r1 a := (x3.ag a (Nat.lt_of_lt_of_le hl1 x2.le)).trans (x2.ag a hl1)
                have xx := x1.trans (x2.trans x3)
                have hu2' := VR.mono x3 _ _ hu2
                rcases ok3.rep.dct hi with ⟨rfl, ks, h1, h2⟩ | ⟨rfl, ks, h1, h2⟩
                · obtain ⟨q, hq⟩ := kOk_f hc.1
                  refine .inl ⟨ks, q, by rw [← er]; exact h1, key_V hu2' hq, by rw [← KR.length h2]; exact lineL hc.2, fun v2 hv2 => ?_, fun hn => ?_⟩
                  · obtain ⟨w2, g1, g2⟩ := (KR.val sameK_f hq h2).some_of hv2
                    have g1 : dVal false kvs ky = some w2 := g1
                    rw [g1] at hm
                    cases hm
                    exact k r3 H3 v2 xx ok3 g2
                  · have g1 : dVal false kvs ky = none := (KR.val sameK_f hq h2).none_of hn
                    rw [g1] at hm
                    cases hm
                    obtain ⟨R4, x4⟩ := ok3.rep.set (o' := .dct false (dPut false kvs ky w)) (ho' := .dK (putK ks q u3)) hi ⟨_, rfl, KR.putf hq hu3 h2⟩
                    rw [← er]
                    exact k r3 _ u3 (xx.trans x4) (ok3.mono x4 R4) (VR.mono x4 _ _ hu3)
                · obtain ⟨q, hq⟩ := kOk_t hc.1
                  obtain ⟨b, rfl, hb⟩ := tkey_V hu2' hq
                  refine .inr ⟨ks, q, b, by rw [← er]; exact h1, rfl, hb, by rw [← KR.length h2]; exact lineL hc.2, fun v2 hv2 => ?_, fun hn => ?_⟩
                  · obtain ⟨w2, g1, g2⟩ := (KR.val sameK_t hq h2).some_of hv2
                    have g1 : dVal true kvs ky = some w2 := g1
                    rw [g1] at hm
                    cases hm
                    exact k r3 H3 v2 xx ok3 g2
                  · have g1 : dVal true kvs ky = none := (KR.val sameK_t hq h2).none_of hn
                    rw [g1] at hm
                    cases hm
                    obtain ⟨R4, x4⟩ := ok3.rep.set (o' := .dct true (dPut true kvs ky w)) (ho' := .dT (putK ks q u3)) hi ⟨_, rfl, KR.putt hq hu3 h2⟩
                    rw [← er]
                    exact k r3 _ u3 (xx.trans x4) (ok3.mono x4 R4) (VR.mono x4 _ _ hu3)
              · cases hm
            · cases hm
          · cases hm
        · cases hm
      · cases hm
    · cases hm
/-! ### displays -/
abbrev MP := Env → Store → R (List (W × W))
end
section
variable (K : PySem.W.Frag) (mg : Str → Option Value)
def VPs (r : Nat → Addr) (n : Nat) (H : Hp) : List (W × W) → List (V × V) → Prop
  | [], vs => vs = []
  | (k, w) :: ws, vs => ∃ y v us, vs = (y, v) :: us ∧ VR K mg r n H k y ∧ VR K mg r n H w v ∧ VPs r n H ws us
def LfP (m : MP) : L2.St → Hp → (List (V × V) → Hp → Prop) → Prop := fun σ H Q => ∃ r S e ws S', Ok K mg r S e σ H ∧ m e S = some (ws, S') ∧ ∀ r' H' us, Ex r S.length H r' S'.length H' → Ok K mg r' S' e σ H' → VPs K mg r' S'.length H' ws us → Q us H'
/-- the pairs of a display, as the plain function tells -/
def XPs (X : Cx) (ks : List (Option Expr)) (vs : List Expr) (trs : List (TE × TE)) (m : MP) : Prop := (∀ pos, PPs X pos ks vs trs) ∧ ∀ σ H Q, LfP X.K X.mg m σ H Q → tPairs trs σ H Q
end
section
variable {X : Cx} {e f : Expr} {ks : List (Option Expr)} {vs : List Expr} {trs : List (TE × TE)} {mk mv : ME} {mp : MP} {pos : Pos}
theorem VPs.mono {K : PySem.W.Frag} {mg : Str → Option Value} {r r' : Nat → Addr} {n n' : Nat} {H H' : Hp} (x : Ex0 r n H r' n' H') : ∀ (ws : List (W × W)) (vs : List (V × V)), VPs K mg r n H ws vs → VPs K mg r' n' H' ws vs
  | [], vs, h => by simpa [VPs] using h
  | (k, w) :: ws, vs, h => by
    unfold VPs at h ⊢
    obtain ⟨y, v, us, rfl, h1, h2, h3⟩ := h
    exact ⟨y, v, us, rfl, VR.mono0 x k y h1, VR.mono0 x w v h2, VPs.mono x ws us h3⟩
theorem xps_nil : XPs X [] [] [] pNil := ⟨fun _ => pps_nil, fun σ H Q q => by
  obtain ⟨r, S, e, ws, S', ok, hm, k⟩ := q
  cases hm
  exact k r H [] Ex.refl ok (by unfold VPs; rfl)⟩
theorem xps_cons (hk : XE X e mk) (hv : XE X f mv) (hr : XPs X ks vs trs mp) : XPs X (some e :: ks) (f :: vs) ((LfE X.K X.mg mk, LfE X.K X.mg mv) :: trs) (pCons mk mv mp) := ⟨fun pos => pps_cons hk hv (hr.1 pos), fun σ H Q q => by
  obtain ⟨r, S, e, ws, S', ok, hm, k⟩ := q
  unfold pCons at hm
  split at hm
  · rename_i ky S1 e1
    split at hm
    · rename_i v S2 e2
      split at hm
      · rename_i kvs S3 e3
        cases hm
        refine ⟨r, S, e, ky, S1, ok, e1, fun r1 H1 u x1 ok1 hu => ⟨r1, S1, e, v, S2, ok1, e2, fun r2 H2 u2 x2 ok2 hu2 => hr.2 σ H2 _ ⟨r2, S2, e, kvs, S', ok2, e3, fun r3 H3 us x3 ok3 hus => ?_⟩⟩⟩
        refine k r3 H3 _ (x1.trans (x2.trans x3)) ok3 ?_
        unfold VPs
        exact ⟨_, _, _, rfl, VR.mono (x2.trans x3) _ _ hu, VR.mono x3 _ _ hu2, hus⟩
      · cases hm
    · cases hm
  · cases hm⟩
theorem dAll_f {K : PySem.W.Frag} {mg : Str → Option Value} {r : Nat → Addr} {n : Nat} {H : Hp} : ∀ {kvs : List (W × W)} {ps : List (V × V)} {acc : List (W × W)} {as : List (Key × V)}, VPs K mg r n H kvs ps → (kvs.all fun kv => kOk false kv.1) = true → KR K mg keyOf r n H acc as →
    ∃ ks : List (Key × V), ps = ks.map (fun kv => (kV kv.1, kv.2)) ∧ KR K mg keyOf r n H (dAll false acc kvs) (mergeK as ks) ∧ ks.length = kvs.length
  | [], ps, acc, as, h, _, ha => by
    unfold VPs at h
    subst h
    exact ⟨[], rfl, ha, rfl⟩
  | (k, w) :: kvs, ps, acc, as, h, hk, ha => by
    unfold VPs at h
    obtain ⟨y, v, us, rfl, h1, h2, h3⟩ := h
    rw [List.all_cons, Bool.and_eq_true] at hk
    obtain ⟨q, hq⟩ := kOk_f hk.1
    obtain ⟨ks, e1, e2, e3⟩ := dAll_f (acc := dPut false acc k w) (as := putK as q v) h3 hk.2 (KR.putf hq h2 ha)
    refine ⟨(q, v) :: ks, ?_, e2, by rw [List.length_cons, List.length_cons, e3]⟩
    rw [List.map_cons, e1, key_V h1 hq]
/-- a new object that stands already, not named by the store -/
theorem named {K : PySem.W.Frag} {mg : Str → Option Value} {r r1 : Nat → Addr} {n : Nat} {S1 : Store} {H H1 : Hp} {e : Env} {σ : L2.St} {p : Addr} {o : Ob} {ho : HO} (x1 : Ex r n H r1 S1.length H1) (ok1 : Ok K mg r1 S1 e σ H1) (hn : ∀ i, i < S1.length → r1 i ≠ p) (h0 : H p = none) (hp : H1 p = some ho)
    (vu : OR K mg r1 S1.length H1 o ho) : Ex r n H (ext r1 S1.length p) (S1 ++ [o]).length H1 ∧ Ok K mg (ext r1 S1.length p) (S1 ++ [o]) e σ H1 ∧ VR K mg (ext r1 S1.length p) (S1 ++ [o]).length H1 (.ref S1.length) (.ref p) := by
  have x2 : Ex0 r1 S1.length H1 (ext r1 S1.length p) (S1 ++ [o]).length H1 := ⟨fun i hi => ext_lt hi, by rw [List.length_append]; exact Nat.le_add_right _ _, Keep.refl _⟩
  have x3 : Ex r n H (ext r1 S1.length p) (S1 ++ [o]).length H1 := ⟨fun i hi => (ext_lt (Nat.lt_of_lt_of_le hi x1.le)).trans (x1.ag i hi), Nat.le_trans x1.le x2.le, x1.kp, x1.un, fun i g1 g2 => by
      by_cases hl : i < S1.length
      · rw [ext_lt hl]
        exact x1.fr i g1 hl
      · rw [List.length_append, List.length_singleton] at g2
        have : i = S1.length := by omega
        rw [this, ext_eq]
        exact h0, x1.th⟩
  have R2 : Rep K mg (ext r1 S1.length p) (S1 ++ [o]) H1 := by
    refine ⟨fun i o' hi => ?_, fun i j hi hj e => ?_⟩
    · by_cases hl : i < S1.length
      · rw [List.getElem?_append_left hl] at hi
        obtain ⟨hu, g1, g2⟩ := ok1.rep.ob i o' hi
        exact ⟨hu, by rw [ext_lt hl]; exact g1, g2.mono0 x2⟩
      · rw [List.getElem?_append_right (Nat.le_of_not_lt hl)] at hi
        have h0 : i - S1.length = 0 := by
          by_cases z : i - S1.length = 0
          · exact z
          · rw [List.getElem?_eq_none (by simp; omega)] at hi
            cases hi
        have hi2 : i = S1.length := by omega
        subst hi2
        rw [h0] at hi
        cases hi
        exact ⟨_, by rw [ext_eq]; exact hp, OR.mono0 x2 vu⟩
    · rw [List.length_append, List.length_singleton] at hi hj
      by_cases a : i < S1.length
      · by_cases b : j < S1.length
        · rw [ext_lt a, ext_lt b] at e
          exact ok1.rep.inj i j a b e
        · have hj2 : j = S1.length := by omega
          subst hj2
          rw [ext_lt a, ext_eq] at e
          exact (hn i a e).elim
      · have hi2 : i = S1.length := by omega
        subst hi2
        by_cases b : j < S1.length
        · rw [ext_lt b, ext_eq] at e
          exact (hn j b e.symm).elim
        · omega
  exact ⟨x3, ok1.mono0 x2 R2, vr_ref.mpr ⟨by rw [List.length_append]; exact Nat.lt_succ_self _, by rw [ext_eq]⟩⟩
theorem np_of {K : PySem.W.Frag} {mg : Str → Option Value} {r : Nat → Addr} {S : Store} {H : Hp} (R : Rep K mg r S H) {p : Addr} (hp : H p = none) : ∀ i, i < S.length → r i ≠ p := fun i hi e => by
  obtain ⟨hu, g1, _⟩ := R.ob i _ (List.getElem?_eq_getElem hi)
  rw [e, hp] at g1
  cases g1
/-- an unnamed object is written -/
theorem unn {K : PySem.W.Frag} {mg : Str → Option Value} {r r1 : Nat → Addr} {n : Nat} {S1 : Store} {H H1 : Hp} {e : Env} {σ : L2.St} {p : Addr} {ho ho' : HO} (x1 : Ex r n H r1 S1.length H1) (ok1 : Ok K mg r1 S1 e σ H1) (hn : ∀ i, i < S1.length → r1 i ≠ p) (h0 : H p = none) (hp : H1 p = some ho) (mu : MutO ho) :
    Ex r n H r1 S1.length (upd H1 p ho') ∧ Ok K mg r1 S1 e σ (upd H1 p ho') ∧ Ex0 r1 S1.length H1 r1 S1.length (upd H1 p ho') := by
  have x9 : Ex0 r1 S1.length H1 r1 S1.length (upd H1 p ho') := ⟨fun _ _ => rfl, Nat.le_refl _, Keep.wr hp mu⟩
  have R9 : Rep K mg r1 S1 (upd H1 p ho') := ok1.rep.more (fun i ho hi e => by rw [upd_ne (hn i hi)]; exact e) x9.kp
  refine ⟨⟨x1.ag, x1.le, x1.kp.trans x9.kp, fun a o e hn' => ?_, x1.fr, fun a e => x1.th a (upd_none e)⟩, ok1.mono0 x9 R9, x9⟩
  by_cases z : a = p
  · rw [z, h0] at e
    cases e
  · rw [upd_ne z]
    exact x1.un a o e hn'
theorem VPs.length {K : PySem.W.Frag} {mg : Str → Option Value} {r : Nat → Addr} {n : Nat} {H : Hp} : ∀ {ws : List (W × W)} {vs : List (V × V)}, VPs K mg r n H ws vs → ws.length = vs.length
  | [], vs, h => by
    unfold VPs at h
    subst h
    rfl
  | (k, w) :: ws, vs, h => by
    unfold VPs at h
    obtain ⟨y, v, us, rfl, h1, h2, h3⟩ := h
    rw [List.length_cons, List.length_cons, VPs.length h3]
theorem xe_dispF (h : XPs X ks vs trs mp) (hall : ks.all (·.isSome) = true) (hl : ks.length = vs.length) (h0 : ks ≠ []) (h15 : ks.length ≤ 15) : XE X (.Dict ks vs pos) (mDisp false mp) :=
  PEi (pe_disp (h.1 pos) hall hl h0 h15) fun σ H Q q => by
    obtain ⟨r, S, e, w, S', ok, hm, k⟩ := q
    unfold mDisp at hm
    split at hm
    · rename_i kvs S1 e1
      split at hm
      · rename_i hc
        cases hm
        intro p hp
        obtain ⟨R0, x0⟩ := ok.rep.junk (ho := .dK []) hp
        have np := np_of ok.rep hp
        refine h.2 σ _ _ ⟨r, S, e, kvs, S1, ok.mono x0 R0, e1, fun r1 H1 us x1 ok1 hus => ?_⟩
        have hp1 := x1.un p _ upd_same np
        have np1 := x1.out upd_same np
        refine ⟨hp1, ?_⟩
        obtain ⟨ks2, g1, g2, g3⟩ := dAll_f hus hc.1 KR.nil
        refine ⟨ks2, g1, by rw [g3]; exact hc.2, ?_⟩
        have x01 : Ex r S.length H r1 S1.length H1 := x0.trans x1
        obtain ⟨x3, ok3, x9⟩ := unn (ho' := .dK (mergeK [] ks2)) x01 ok1 np1 hp hp1 True.intro
        obtain ⟨x4, ok4, v4⟩ := named (o := .dct false (dAll false [] kvs)) x3 ok3 np1 hp upd_same ⟨_, rfl, KR.mono0 x9 _ _ g2⟩
        exact k _ _ _ x4 ok4 v4
      · cases hm
    · cases hm
end
end Gm

set_option Elab.async false
set_option linter.all false
set_option maxRecDepth 100000
set_option maxHeartbeats 400000
/-! Gm13: displays with keys that are tuples, copies of dicts, sorted keys. -/
namespace Gm
open PySem PySem.Spec PyProof.Rows L2
def mergeT (kvs more : List (List Key × V)) : List (List Key × V) := more.foldl (fun acc kv => putK acc kv.1 kv.2) kvs
theorem length_mergeT : ∀ (more kvs : List (List Key × V)), (mergeT kvs more).length ≤ kvs.length + more.length
  | [], kvs => by show kvs.length ≤ kvs.length + 0; omega
  | p :: r, kvs => by
    have h1 := length_mergeT r (putK kvs p.1 p.2)
    have h2 := length_putK kvs p.1 p.2
    show (mergeT (putK kvs p.1 p.2) r).length ≤ _
    rw [List.length_cons]; omega
theorem KT.merge {H : Hp} : ∀ {more : List (List Key × Addr × V)} {rs : List (List Key × Addr × Value)} {kvs : List (List Key × V)} {xs : List (List Key × Addr × Value)},
    Paired (fun (p : List Key × Addr × V) (q : List Key × Addr × Value) => p.1 = q.1 ∧ p.2.1 = q.2.1 ∧ H p.2.1 = some (.tup (p.1.map kV)) ∧ RelV p.2.2 q.2.2) more rs → L2.KT H kvs xs → L2.KT H (mergeT kvs (more.map fun kv => (kv.1, kv.2.2))) (storedAllH xs rs) := by
  intro more rs kvs xs r
  induction r generalizing kvs xs with
  | nil => intro q; exact q
  | @cons p q ps qs h t ih =>
    intro r0
    obtain ⟨h1, h2, h3, h4⟩ := h
    have e : L2.KT H (putK kvs p.1 p.2.2) (storedH xs q.1 q.2.1 q.2.2) := by
      have := L2.KT.put r0 p.1 h3 h4
      rw [← h1, ← h2]; exact this
    exact ih e
def tDispT (trs : List (TE × TE)) : TE := fun σ H Q => ∀ p, H p = none → tPairs trs σ (upd H p (.dT [])) fun ps H2 => H2 p = some (.dT []) ∧ ∃ kvs : List (List Key × Addr × V), ps = kvs.map (fun kv => (V.ref kv.2.1, kv.2.2)) ∧
  (∀ kv ∈ kvs, H2 kv.2.1 = some (.tup (kv.1.map kV))) ∧ kvs.length ≤ 15 ∧ Q (.ref p) (upd H2 p (.dT (mergeT [] (kvs.map fun kv => (kv.1, kv.2.2)))))
section
theorem carriesT {P : Program} {w : World} {H : Hp} {h : Heap} (ok : HOk P w H h) : ∀ {kvs : List (List Key × Addr × V)} {ws : List (Value × Value)}, (∀ kv ∈ kvs, H kv.2.1 = some (.tup (kv.1.map kV))) → VV (kvs.map fun kv => (V.ref kv.2.1, kv.2.2)) ws →
    ∃ rs, CarriesH (tupleKind (mixKind P w)) h ws rs ∧ Paired (fun (p : List Key × Addr × V) (q : List Key × Addr × Value) => p.1 = q.1 ∧ p.2.1 = q.2.1 ∧ H p.2.1 = some (.tup (p.1.map kV)) ∧ RelV p.2.2 q.2.2) kvs rs
  | [], _, _, r => by rw [List.map_nil] at r; cases r; exact ⟨[], True.intro, .nil⟩
  | p :: kvs, _, hk, r => by
    rw [List.map_cons] at r
    cases r with
    | @cons a b as bs h1 t =>
      obtain ⟨rs, c, q⟩ := carriesT ok (fun kv hkv => hk kv (List.mem_cons_of_mem _ hkv)) t
      obtain ⟨b1, b2⟩ := b
      obtain ⟨r1, r2⟩ := h1
      have e1 : b1 = Value.ref p.2.1 := r1
      have hp := hk p (List.mem_cons_self ..)
      exact ⟨(p.1, p.2.1, b2) :: rs, ⟨e1, rfl, key_of ok hp, c⟩, .cons ⟨rfl, rfl, hp, r2⟩ q⟩
theorem pe_dispT {X : Cx} {pos : Pos} {keys : List (Option Expr)} {values : List Expr} {trs : List (TE × TE)} (hu : X.A.units < cLine) (h : PPs X pos keys values trs) (hall : keys.all (·.isSome) = true) (hl : keys.length = values.length) (h0 : keys ≠ [])
    (h15 : keys.length ≤ 15) : PE X (.Dict keys values pos) (tDispT trs) := by
  refine ⟨fun pins s σ H Q I q => ?_⟩
  have hn := I.hok.fresh (Nat.le_refl s.heap.objs.size)
  have I1 := I.laid (a := s.heap.objs.size) (o := .dT []) (h' := s.heap.push { cls := .type "dict", data := .dict #[] }) (t' := s.toks) (fun _ _ q => Heap.get?_push_of_some _ q) (Nat.le_refl _) (dt_empty s.heap I.big)
  have hlen := pairTrees_length keys values X.env pos hall hl
  have hne : pairTrees keys values X.env pos ≠ [] := fun he => by
    rw [he] at hlen
    exact h0 (List.length_eq_zero_iff.mp hlen.symm)
  rw [arm_eval_Dict, zip_pairTrees keys values X.env pos hall hl, dictDisplay_pairs (pairTrees keys values X.env pos) hne (by rw [hlen]; omega)]
  refine wpAny_bind (wpAny_standAt (wpAny_bind (wpAny_subDictH (knd := tupleKind (mixKind X.prog X.w)) (Q := fun d s' => wpAny (model X.prog X.w) X.A (pure (Value.ref d)) (EP X pins σ Q) X.xe s') hu (by rw [hlen]; exact h15)
    (thn (h.run pins _ σ _ _ I1 (q _ hn)) fun ws s2 ⟨ps, H2, I2, rel, e, kvs, ep, hk, lk, q2⟩ => ?_))))
  subst ep
  obtain ⟨rs, c, pr⟩ := carriesT I2.hok hk rel
  obtain ⟨z, hd, xs0, r0, dd⟩ := dt_of I2.hok e
  cases r0
  refine ⟨rs, c, dd, fun h' tk dd' hs => wpAny_pure ⟨.ref s.heap.objs.size, _, ?_, rfl, q2⟩⟩
  have hz : (mergeT [] (kvs.map fun kv => (kv.1, kv.2.2))).length ≤ sizeLine := by
    have h1 := length_mergeT (kvs.map fun kv => (kv.1, kv.2.2)) []
    rw [List.length_nil, List.length_map] at h1
    rw [sizeLine_eq]; omega
  obtain ⟨o, es, ep, hq, g2, g3, g4, _, g5⟩ := dd'
  refine d_write I2 (by rw [e]; exact True.intro) hs ⟨o, hq⟩ ⟨hz, hd, _, (KT.merge pr (.nil : L2.KT H2 [] [])).keeps fun c ys ec => ?_, o, es, ep, hq, g2, g3, g4, g5⟩
  rw [upd_ne (ne_of ec e (fun z => nomatch z))]
  exact ec
end
section
variable {X : Cx} {a b c o e f i k value : Expr} {es : List Expr} {ma mb mo me mv mi mk : ME} {mr : MA} {pos p apos cpos pos' tpos : Pos} {x : Str} {ks : List (Option Expr)} {vs : List Expr} {trs : List (TE × TE)} {mp : MP}
theorem dAll_t {K : PySem.W.Frag} {mg : Str → Option Value} {r : Nat → Addr} {n : Nat} {H : Hp} : ∀ {kvs : List (W × W)} {ps : List (V × V)} {acc : List (W × W)} {as : List (List Key × V)}, VPs K mg r n H kvs ps → (kvs.all fun kv => kOk true kv.1) = true → KR K mg tkeyOf r n H acc as →
    ∃ ks : List (List Key × Addr × V), ps = ks.map (fun kv => (V.ref kv.2.1, kv.2.2)) ∧ (∀ kv ∈ ks, H kv.2.1 = some (.tup (kv.1.map kV))) ∧ KR K mg tkeyOf r n H (dAll true acc kvs) (mergeT as (ks.map fun kv => (kv.1, kv.2.2))) ∧ ks.length = kvs.length
  | [], ps, acc, as, h, _, ha => by
    unfold VPs at h
    subst h
    exact ⟨[], rfl, (by intro kv hkv; cases hkv), ha, rfl⟩
  | (k, w) :: kvs, ps, acc, as, h, hk, ha => by
    unfold VPs at h
    obtain ⟨y, v, us, rfl, h1, h2, h3⟩ := h
    rw [List.all_cons, Bool.and_eq_true] at hk
    obtain ⟨q, hq⟩ := kOk_t hk.1
    obtain ⟨ks, e1, e0, e2, e3⟩ := dAll_t (acc := dPut true acc k w) (as := putK as q v) h3 hk.2 (KR.putt hq h2 ha)
    obtain ⟨b, rfl, hb⟩ := tkey_V h1 hq
    refine ⟨(q, b, v) :: ks, ?_, fun kv hkv => ?_, e2, by rw [List.length_cons, List.length_cons, e3]⟩
    · rw [List.map_cons, e1]
    · rcases List.mem_cons.mp hkv with e | hkv
      · rw [e]
        exact hb
      · exact e0 kv hkv
theorem xe_dispT (hu : X.A.units + 64 < cLine) (h : XPs X ks vs trs mp) (hall : ks.all (·.isSome) = true) (hl : ks.length = vs.length) (h0 : ks ≠ []) (h15 : ks.length ≤ 15) : XE X (.Dict ks vs pos) (mDisp true mp) :=
  PEi (pe_dispT (by omega) (h.1 pos) hall hl h0 h15) fun σ H Q q => by
    obtain ⟨r, S, e, w, S', ok, hm, k⟩ := q
    unfold mDisp at hm
    split at hm
    · rename_i kvs S1 e1
      split at hm
      · rename_i hc
        cases hm
        intro p hp
        obtain ⟨R0, x0⟩ := ok.rep.junk (ho := .dT []) hp
        have np := np_of ok.rep hp
        refine h.2 σ _ _ ⟨r, S, e, kvs, S1, ok.mono x0 R0, e1, fun r1 H1 us x1 ok1 hus => ?_⟩
        have hp1 := x1.un p _ upd_same np
        have np1 := x1.out upd_same np
        refine ⟨hp1, ?_⟩
        obtain ⟨ks2, g1, g0, g2, g3⟩ := dAll_t hus hc.1 KR.nil
        refine ⟨ks2, g1, g0, by rw [g3]; exact hc.2, ?_⟩
        have x01 : Ex r S.length H r1 S1.length H1 := x0.trans x1
        obtain ⟨x3, ok3, x9⟩ := unn (ho' := .dT (mergeT [] (ks2.map fun kv => (kv.1, kv.2.2)))) x01 ok1 np1 hp hp1 True.intro
        obtain ⟨x4, ok4, v4⟩ := named (o := .dct true (dAll true [] kvs)) x3 ok3 np1 hp upd_same ⟨_, rfl, KR.mono0 x9 _ _ g2⟩
        exact k _ _ _ x4 ok4 v4
      · cases hm
    · cases hm
/-! ### dict(d) -/
theorem nodup_le1 {α β : Type} (f : α → β) : ∀ l : List α, l.length ≤ 1 → (l.map f).Nodup
  | [], _ => List.nodup_nil
  | [y], _ => by
    rw [List.map_cons, List.map_nil]
    exact List.pairwise_singleton _ _
theorem call_dictT1 : CallR X (.type "dict") (fun xs H Q => ∃ (a : Addr) (kvs : List (List Key × V)), X.A.units + 64 < cLine ∧ xs = [.ref a] ∧ H a = some (.dT kvs) ∧ kvs.length ≤ 1 ∧ ∀ p, H p = none → Q (.ref p) (upd H p (.dT kvs))) := by
  intro pins s σ H xs us Q I r q
  obtain ⟨o, kvs, hu, rfl, hd, hl, q⟩ := q
  obtain ⟨u, rfl, rx⟩ := vals1 r
  cases rx
  obtain ⟨z, hoS, ys, rel, dd⟩ := dt_of I.hok hd
  have hly : ys.length ≤ 1 := by rw [← Paired.length rel]; exact hl
  refine callType_codes (Q₁ := fun obj s₁ => obj = .ref s.heap.objs.size ∧ s₁ = { s with heap := s.heap.push { cls := .type "dict", data := .dict #[] } }) F.kt_called_dict (F.kt_typeCall_dict_1 _) F.entry_dict_init (kt_code_dict_new _ ⟨rfl, rfl⟩) ?_
  rintro obj s₁ ⟨rfl, rfl⟩
  have hdo : s.heap.objs.size ≠ o := by
    obtain ⟨_, _, _, hg, _⟩ := dd
    exact fun e => absurd (Heap.lt_size hg) (by rw [e]; exact Nat.lt_irrefl _)
  have I1 := I.laid (a := s.heap.objs.size) (o := .dT []) (h' := s.heap.push { cls := .type "dict", data := .dict #[] }) (t' := s.toks) (fun _ _ q => Heap.get?_push_of_some _ q) (Nat.le_refl _) (dt_empty s.heap I.big)
  have hpn := I.hok.fresh (Nat.le_refl s.heap.objs.size)
  obtain ⟨_, _, zs, relz, dd1⟩ := dt_of I1.hok (show (upd H s.heap.objs.size (.dT [])) o = some (.dT kvs) by rw [upd_ne (Ne.symm hdo)]; exact hd)
  have hlz : zs.length ≤ 1 := by rw [← Paired.length relz]; exact hl
  obtain ⟨_, hS2, _, rn, dn⟩ := dt_of I1.hok (upd_same (H := H) (a := s.heap.objs.size) (o := .dT []))
  cases rn
  refine ⟨dn.typeIs, F.args_dict_init_2 _ _, ?_⟩
  unfold Builtin.«dict.__init__»
  refine wpAny_bind ?_
  unfold Builtin.Dict.selfAndRest
  refine wpAny_bind (wpAny_notOrdered_dict dn.typeIs ?_)
  show wpAny _ _ (pure (s.heap.objs.size, [Value.ref o])) _ _ _
  refine wpAny_pure ?_
  show wpAny _ _ (Builtin.Dict.updateFrom "dict.__init__" s.heap.objs.size (.ref o) [] .none) _ _ _
  refine updateFrom_dictH (knd := tupleKind (mixKind X.prog X.w)) .none (show X.A.units + 1 + 1 < cLine by omega) hdo hoS dn dd1 (.inr ⟨fun x hx => ?_, ?_⟩) (by rw [List.length_nil, sizeLine_eq]; omega) fun h' d1 d2 hs => ?_
  · have his := dd1
    obtain ⟨_, _, _, _, _, _, _, his, _⟩ := his
    have h1 := his x hx
    exact HeapKind.Stays.tuple (knd := tupleKind (mixKind X.prog X.w)) tupleKind_stays (s := { s with heap := s.heap.push { cls := .type "dict", data := .dict #[] } }) h1
  · exact nodup_le1 _ zs hlz
  · rw [storedAllH_nil_of_nodup zs (nodup_le1 _ zs hlz)] at d1
    obtain ⟨q1, es, ep, hq, g2, g3, g4, _, g5⟩ := d1
    have I2 : Inv X pins σ (upd (upd H s.heap.objs.size (.dT [])) s.heap.objs.size (.dT kvs)) { s with heap := h', toks := s.toks } := d_write (s := { s with heap := s.heap.push { cls := .type "dict", data := .dict #[] } }) I1 (by rw [upd_same]; exact True.intro) hs ⟨q1, hq⟩ ⟨z, hS2, zs, relz.keeps fun c ys ec => ?_, q1, es, ep, hq, g2, g3, g4, g5⟩
    · rw [upd_upd] at I2
      exact ⟨rfl, .ref s.heap.objs.size, _, I2, rfl, q _ hpn⟩
    · rw [upd_ne (ne_of ec (upd_same (H := H) (a := s.heap.objs.size) (o := .dT [])) (fun z => nomatch z))]
      exact ec
theorem xe_dictOf (hu : X.A.units + 64 < cLine) (hg : Gl X "dict") (hm : X.mg "dict" = none) (ha : XE X a ma) (he : starEach [a] X.env = (false, eval a X.env) :: starEach [] X.env := by rfl) : XE X (.Call (.Name "dict" p) [a] [] pos) (mDictOf ma) :=
  PEi (pe_callL1T (CallR.or call_dictD call_dictT1) hg hm bt_dict ha (by decide) (by decide) he) fun σ H Q q => by
    obtain ⟨r, S, e, w, S', ok, hm, k⟩ := q
    unfold mDictOf at hm
    split at hm
    · rename_i i S1 e1
      split at hm
      · rename_i t kvs hi
        split at hm
        · rename_i hc
          cases hm
          refine ⟨r, S, e, _, S1, ok, e1, fun r1 H1 u x1 ok1 hu2 => ?_⟩
          obtain ⟨hl1, rfl⟩ := vr_ref.mp hu2
          have fin : ∀ p ho, H1 p = none → OR X.K X.mg r1 S1.length H1 (.dct t kvs) ho → Q (.ref p) (upd H1 p ho) := fun p ho hp ho' => by
            obtain ⟨R2, x2⟩ := ok1.rep.new (o := .dct t kvs) (ho := ho) hp ho'
            exact k _ _ _ (x1.trans x2) (ok1.mono x2 R2) (vr_ref.mpr ⟨by rw [List.length_append]; exact Nat.lt_succ_self _, by rw [ext_eq]⟩)
          rcases ok1.rep.dct hi with ⟨rfl, ks, h1, h2⟩ | ⟨rfl, ks, h1, h2⟩
          · exact .inl ⟨_, ks, rfl, .inl h1, fun p hp => fin p _ hp ⟨_, rfl, h2⟩⟩
          · refine .inr ⟨_, ks, hu, rfl, h1, ?_, fun p hp => fin p _ hp ⟨_, rfl, h2⟩⟩
            rw [← KR.length h2]
            rcases hc with hc | hc
            · cases hc
            · exact hc
        · cases hm
      · cases hm
    · cases hm
theorem xe_dictP (hc : X.calm = true) (hg : Gl X "dict") (hm : X.mg "dict" = none) (ha : XE X a ma) (he : starEach [a] X.env = (false, eval a X.env) :: starEach [] X.env := by rfl) : XE X (.Call (.Name "dict" p) [a] [] pos) (mDictP ma) :=
  PEi (pe_callL1T (call_dictP hc) hg hm bt_dict ha (by decide) (by decide) he) fun σ H Q q => by
    obtain ⟨r, S, e, w, S', ok, hm, k⟩ := q
    unfold mDictP at hm
    split at hm
    · rename_i i S1 e1
      split at hm
      · rename_i hi
        cases hm
        refine ⟨r, S, e, _, S1, ok, e1, fun r1 H1 u x1 ok1 hu2 => ?_⟩
        obtain ⟨hl1, rfl⟩ := vr_ref.mp hu2
        obtain ⟨vs, h1, h2⟩ := ok1.rep.lst hi
        unfold VRs at h2
        subst h2
        refine ⟨_, [], [], rfl, SqL.of h1, .nil, fun p hp => ?_⟩
        obtain ⟨R2, x2⟩ := ok1.rep.new (o := .dct false []) (ho := .dK (mergeK [] [])) hp ⟨[], rfl, KR.nil⟩
        exact k _ _ _ (x1.trans x2) (ok1.mono x2 R2) (vr_ref.mpr ⟨by rw [List.length_append]; exact Nat.lt_succ_self _, by rw [ext_eq]⟩)
      · cases hm
    · cases hm
end
end Gm

set_option Elab.async false
set_option linter.all false
set_option maxRecDepth 100000
set_option maxHeartbeats 400000
/-! Gm14: sorted keys; what walks a list just made; dict comprehensions. -/
namespace Gm
open PySem PySem.Spec PyProof.Rows L2
section
variable {X : Cx}
theorem cr_sortedT1 (hc : X.calm = true) : CallR X (.builtin "sorted") (fun xs H Q => ∃ d kvs, xs = [V.ref d] ∧ H d = some (.dT kvs) ∧ kvs.length ≤ 1 ∧ ∀ p bs, H p = none → IsKeys H kvs bs → Q (.ref p) (upd H p (.lst (bs.map V.ref)))) := by
  intro pins s σ H xs us Q I r h
  obtain ⟨d, kvs, rfl, hd, hl1, q⟩ := h
  obtain ⟨u, rfl, rx⟩ := r.one
  cases rx
  obtain ⟨z, hs, ks, pr, o, es, ep, ho, hx, hdt, he, hn⟩ := (show ObjOk X.prog X.w H s.heap d (.dT kvs) from I.hok d _ hd)
  have l1 : es.size = ks.length := size_of_entries he
  have l2 : kvs.length = ks.length := Paired.length pr
  have l3 : es.size ≤ sizeLine := by rw [sizeLine_eq]; omega
  refine Calls.call_function_entry PyProof.Rows.kind_sorted PyProof.Rows.plain_sorted PyProof.Rows.entry_sorted (PyProof.Rows.args_sorted1 _) ?_
  unfold Builtin.«sorted»
  refine wpAny_bind (m := checkCount "sorted" 1 1 _) (wpAny_pure ?_)
  refine wpAny_bind (PySem.W.kdu_collect (A := X.A.in1) (kdl_raw hs hx hdt) (I.ok.hd hc) ho l3 fun h' tk acc hk it => ?_)
  have ea : acc.toList = ks.map fun x => Value.ref x.2.1 := by
    have hl : acc.toList.length = ks.length := by rw [Array.length_toList, it.1]; exact l1
    apply List.ext_getElem?
    intro j
    rw [List.getElem?_map]
    cases hj : acc.toList[j]? with
    | none =>
      have h1 := List.getElem?_eq_none_iff.mp hj
      rw [List.getElem?_eq_none (by omega)]
      all_goals rfl
    | some v =>
      obtain ⟨en, hen, hv⟩ := it.2 j v (by rw [← Array.getElem?_toList]; exact hj)
      have qe := entry_at he j
      rw [hen] at qe
      cases hb : ks[j]? with
      | none =>
        rw [hb] at qe
        exact nomatch (show some en = none from qe)
      | some b =>
        rw [hb] at qe
        have e2 : en = entryOfKey (tupleKind (mixKind X.prog X.w)) b := Option.some.inj qe
        rw [hv, e2]
        all_goals rfl
  have eb : acc.toList = (ks.map fun x => x.2.1).map Value.ref := by rw [ea, List.map_map]; all_goals rfl
  have hal : acc.toList.length ≤ 1 := by rw [ea, List.length_map]; omega
  have I1 : Inv X pins σ H { s with heap := h', toks := tk } := I.kept hk
  refine wpAny_bind (wpAny_newList ?_ (by rw [sizeLine_eq]; omega))
  have hoL : (h'.push (seqObj "list" acc.toList.toArray 0)).get? h'.objs.size = some (seqObj "list" acc.toList.toArray 0) := Heap.get?_push_size _ rfl
  show wpAny _ _ _ _ _ { s with heap := h'.push (seqObj "list" acc.toList.toArray 0), toks := tk }
  refine wpAny_bind (wpAny_holding (wpAny_call_entry PyProof.Rows.slot_list_sort ⟨_, hoL, rfl⟩ PyProof.Rows.entry_list_sort
    (SK.plain_sort (s := { s with heap := h'.push (seqObj "list" acc.toList.toArray 0), toks := tk }) (r := fun _ => 0) hoL (by omega) (fun h2 => absurd h2 (by omega)) fun ps out h1 h2 h3 => ⟨_, rfl, ?_⟩)
    (PyProof.Rows.args_list_sort _)))
  have eo : out.toList = acc.toList := by
    have h4 : (ps.map Prod.snd).Perm ((acc.toList.zip acc.toList).map Prod.snd) := h2.map _
    have h5 : (acc.toList.zip acc.toList).map Prod.snd = acc.toList := by
      rw [List.map_snd_zip (Nat.le_refl _)]
    rw [h5, ← h1] at h4
    match hh : acc.toList, hal, h4 with
    | [], _, h4 => exact List.perm_nil.mp h4
    | [y], _, h4 => exact List.perm_singleton.mp h4
  obtain ⟨e', he'⟩ := PyProof.Rows.sortedHeap_at (vs := acc.toList) (out := out) hoL
  have rv : Vals ((ks.map fun x => x.2.1).map V.ref) out.toList := by rw [eo, eb]; exact vals_refs _
  have hz : ((ks.map fun x => x.2.1).map V.ref).length ≤ sizeLine := by rw [List.length_map, List.length_map, sizeLine_eq]; omega
  refine wpAny_pure ⟨_, rfl, .ref h'.objs.size, upd H h'.objs.size (.lst ((ks.map fun x => x.2.1).map V.ref)), I1.laid (t' := tk) (fun b u e => ?_) (Nat.le_refl _)
    (show ObjOk X.prog X.w _ _ _ (.lst ((ks.map fun x => x.2.1).map V.ref)) from ⟨hz, out.toList, e', rv, by rw [Array.toArray_toList]; exact he'⟩), rfl, q _ _ (I1.hok.fresh (Nat.le_refl _)) (isKeys_of pr)⟩
  have hb : b < h'.objs.size := Heap.lt_size e
  rw [PyProof.Rows.sortedHeap_old (Nat.ne_of_lt hb) (by rw [size_push']; exact Nat.lt_succ_of_lt hb)]
  exact Heap.get?_push_of_some _ e
end
section
variable {K : PySem.W.Frag} {mg : Str → Option Value} {r : Nat → Addr} {n : Nat} {H : Hp} {S : Store}
theorem keys_VR : ∀ {ws : List W} {qs : List Key}, keysOf ws = some qs → VRs K mg r n H ws (qs.map kV)
  | [], qs, e => by
    cases e
    exact VRs.nil
  | w :: ws, qs, e => by
    unfold keysOf at e
    split at e
    · rename_i k ks e1 e2
      cases e
      refine VRs.cons ?_ (keys_VR e2)
      cases w with
      | int i => cases e1; exact vr_int.mpr rfl
      | str x => cases e1; exact vr_str.mpr rfl
      | _ => cases e1
    · cases e
theorem keys_of : ∀ {kvs : List (W × W)} {ks : List (List Key × V)} {bs : List Addr}, KR K mg tkeyOf r n H kvs ks → IsKeys H ks bs → VRs K mg r n H (kvs.map (·.1)) (bs.map V.ref)
  | [], ks, bs, h, h' => by
    unfold KR at h
    subst h
    cases h'
    exact VRs.nil
  | (k, w) :: kvs, ks, bs, h, h' => by
    unfold KR at h
    obtain ⟨q, v, us, rfl, h1, h2, h3⟩ := h
    cases h' with
    | cons hb t =>
      refine VRs.cons ?_ (keys_of h3 t)
      cases k with
      | tup ws => exact vr_tup.mpr ⟨_, _, rfl, hb, keys_VR h1⟩
      | _ => cases h1
end
section
variable {X : Cx} {a b c o e f i k value tg iter : Expr} {es : List Expr} {ma mb mo me mv mi mk : ME} {mr : MA} {pos p apos cpos pos' tpos : Pos} {x : Str}
theorem xl_sortD (hc : X.calm = true) (hg : Gl X "sorted") (hm : X.mg "sorted" = none) (ha : XE X a ma) (he : starEach [a] X.env = (false, eval a X.env) :: starEach [] X.env := by rfl) : XL X (.Call (.Name "sorted" p) [a] [] pos) (aSortD ma) :=
  PEi (pe_callL1 (cr_sortedT1 hc) hg hm (by decide +kernel) ha (by decide) (by decide) he) fun σ H Q q => by
    obtain ⟨r, S, e, w, S', ok, hm, k⟩ := q
    unfold aSortD at hm
    split at hm
    · rename_i i S1 e1
      split at hm
      · rename_i kvs hi
        split at hm
        · rename_i hc
          cases hm
          refine ⟨r, S, e, _, _, ok, e1, fun r1 H1 u x1 ok1 hu2 => ?_⟩
          obtain ⟨hl1, rfl⟩ := vr_ref.mp hu2
          rcases ok1.rep.dct hi with ⟨h0, ks, h1, h2⟩ | ⟨_, ks, h1, h2⟩
          · cases h0
          refine ⟨_, ks, rfl, h1, by rw [← KR.length h2]; exact hc, fun p bs hp hb => ?_⟩
          obtain ⟨R2, x2⟩ := ok1.rep.junk (ho := .lst (bs.map V.ref)) hp
          exact k r1 _ p _ (x1.trans x2) (ok1.mono x2 R2) (np_of ok1.rep hp) (x1.th _ hp) upd_same (VRs.mono x2 _ _ (keys_of h2 hb))
        · cases hm
      · cases hm
    · cases hm
/-- a list just made is walked -/
theorem xi_L (h : XL X iter mr) : XI X tg iter (iLst mr) := PIi (pi_list h) fun σ H R q => by
  obtain ⟨r, S, e, s, S', ok, hm, k⟩ := q
  unfold iLst at hm
  split at hm
  · rename_i ws S1 e1
    cases hm
    refine ⟨r, S, e, ws, S', ok, e1, fun r1 H1 p us x1 ok1 np h0 hp hu => ⟨p, rfl, ⟨us, SqL.of hp⟩, k r1 H1 _ x1 ok1 ?_⟩⟩
    intro r2 S2 H2 i x R
    have h3 := x.un p _ hp np
    have h4 := VRs.mono x _ _ hu
    have hl := h4.length
    refine ⟨fun e => ⟨us, SqL.of h3, ?_⟩, fun w e => ?_⟩
    · have e2 : ws[i]? = none := Option.some.inj e
      rw [← hl]
      exact List.getElem?_eq_none_iff.mp e2
    · have e2 : ws[i]? = some w := Option.some.inj e
      obtain ⟨v, g1, g2⟩ := h4.get e2
      refine ⟨⟨us, v, SqL.of h3, g1⟩, fun y H' hy => ?_⟩
      obtain ⟨rfl, hy⟩ := hy
      have := hy us (SqL.of h3)
      rw [g1] at this
      cases this
      exact ⟨R, Ex.refl, g2⟩
  · cases hm
end
end Gm

set_option Elab.async false
set_option linter.all false
set_option maxRecDepth 100000
set_option maxHeartbeats 400000
/-! Gm15: the block of a comprehension that adds to a new object, whatever is added; dicts with keys that are tuples. -/
namespace Gm
open PySem PySem.Spec PyProof.Rows L2
/-- what a comprehension's loop asks of one turn, the element's step left open -/
def LoopW (P : Program) (w : World) (A : Around) (tg : Expr) (ifs : List Expr) (stepW : PySem.Env → Addr → (Shared → Prop) → (Value → Shared → Prop) → Shared → Prop) (node : Expr) : Prop :=
  ∀ (env : PySem.Env) (it : Value) (D : Addr) (R : Result → Shared → Prop) (I : Nat → Shared → Prop) (err : Value → Shared → Prop), err = notedBy (model P w) A env (fun e s' => R (.error e) s') →
    (∀ n s, I n s → wpAny (model P w) A (pyNext it) (fun r s1 => match r with
      | none => R (.ok .next) s1
      | some v => wpAny (model P w) A (letOwnedTupleGo tg it v) (fun _ s2 => wpAny (model P w) A (assign tg env v) (fun _ s3 =>
          wpAny (model P w) A (forIn ifs true fun c r => if r = true then do let ok ← isTrue c env (eval c env); pure (ForInStep.yield ok) else pure (ForInStep.yield r)) (fun ok s4 =>
            if ok = true then stepW env D (fun s5 => ∃ m, m < n ∧ I m s5) err s4 else ∃ m, m < n ∧ I m s4) err s3) err s2) err s1) err s) →
    ∀ n s, I n s → codeAny (model P w) A (.compLoop node 0 it (.ref D) env) R s
def StartW (P : Program) (w : World) (A : Around) (node : Expr) : Prop := ∀ (env : PySem.Env) (it D : Value) (R : Result → Shared → Prop) (s : Shared), codeAny (model P w) A (.compLoop node 0 it D env) R s →
  wpAny (model P w) A (pyIter it) (fun it' s' => codeAny (model P w) A (.compLoop node 0 it' D env) R s') (notedBy (model P w) A env fun x s' => R (.error x) s') s → codeAny (model P w) A (.compStart node 0 it D env) R s
def tAcc (h0 : Addr → HO) (wi : TI) (g : TG) (tt : TT) (ta : Addr → L2.St → Hp → (Hp → Prop) → Prop) (vs : List Nat) : TE := fun σ H Q => wi σ H fun J H1 => ∀ D, H1 D = none → ∃ W : Nat → Nat → Hp → Prop, (∃ m, W 0 m (upd H1 D (h0 D))) ∧ ∀ i m H, W i m H →
  (J.stop i H ∧ Q (.ref D) H) ∨ (J.go i H ∧ ∃ Nx : Hp → Prop, (∀ H', Nx H' → ∃ m', m' < m ∧ W (i + 1) m' H') ∧ ∀ x H', J.yld i H x H' → g x (L2.wipe σ vs) H' fun σ2 H2 => L2.wipe σ2 vs = L2.wipe σ vs ∧ tt σ2 H2 fun b H3 =>
    if b = true then ta D σ2 H3 Nx else Nx H3)
section
variable {X : Cx}
theorem acc_core {node tg iter : Expr} {ifs : List Expr} {scope : Scope} {own : List (Str × Nat)} {pos' : Pos} {wi : TI} {g : TG} {tt : TT} {ta : Addr → L2.St → Hp → (Hp → Prop) → Prop} {mk : Sem Value} {h0 : Addr → HO} {o0 : Heap → Obj}
    {stepW : PySem.Env → Addr → (Shared → Prop) → (Value → Shared → Prop) → Shared → Prop}
    (hc : X.calm = true) (hN : X.N.Nodup) (hi : PI X tg iter wi) (ok : BlkOk X.N X.env.scope scope own) (hcl : clausesOf node = [⟨tg, iter, ifs, 0⟩]) (hloop : LoopW X.prog X.w X.A tg ifs stepW node) (hstart : StartW X.prog X.w X.A node)
    (hnew : ∀ (s : Shared) (Q : Value → Shared → Prop) (E : Value → Shared → Prop), Q (.ref s.heap.objs.size) { s with heap := s.heap.push (o0 s.heap) } → wpAny (model X.prog X.w) X.A mk Q E s)
    (hobj : ∀ (h : Heap) (H : Hp), sysModules < h.objs.size → ObjOk X.prog X.w H (h.push (o0 h)) h.objs.size (h0 h.objs.size))
    (hg : ∀ (s : Shared) (H : Hp) (C : Addr) (cl : List (Str × Addr)) (fp : List Addr), PG (X.blk s H scope (compEnvC scope cl C X.env) fp) tg g)
    (ht : ∀ (s : Shared) (H : Hp) (C : Addr) (cl : List (Str × Addr)) (fp : List Addr), PTs (X.blk s H scope (compEnvC scope cl C X.env) fp) ifs tt)
    (he : ∀ (s : Shared) (H : Hp) (C : Addr) (cl : List (Str × Addr)) (fp : List Addr) (pins : List (Addr × Obj)) (s1 : Shared) (σ1 : L2.St) (H1 : Hp) (D : Addr) (Nx : Hp → Prop) (Qs : Shared → Prop) (E : Value → Shared → Prop),
      Inv (X.blk s H scope (compEnvC scope cl C X.env) fp) pins σ1 H1 s1 → ta D σ1 H1 Nx → (∀ s' H', Inv (X.blk s H scope (compEnvC scope cl C X.env) fp) pins σ1 H' s' → Nx H' → Qs s') → stepW (compEnvC scope cl C X.env) D Qs E s1)
    (hs : ∀ x, foldedSetIterable iter X.env x = pure x) (hev : eval node X.env = comprehension node scope X.env pos' mk false (eval iter X.env)) :
    PE X node (tAcc h0 wi g tt ta (own.map (·.2))) := by
  refine ⟨fun pins s σ H Q I h => ?_⟩
  rw [hev]
  have hfree : ∀ y ∈ scope.names, y.2 = .free → ∃ c, X.env.cells.lookup y.1 = some c := fun y hy e => (ok.free y hy e).elim (fun k => I.ok.has _ (.inl k)) fun k => I.ok.has _ (.inr k)
  refine wpAny_comprehension_free (use := none) hcl hs (closure_ok hfree) ok.kind (fun y hy e => by rw [ok.uniq y hy, e]) (thn (hi.run pins s σ H _ I h) fun xv s1 hx => thn hx fun itv s2 h2 => ?_)
  obtain ⟨it, fp, tn, J, H2, e, I2, T, st2, f2, q⟩ := h2
  subst e
  refine hnew _ _ _ (newEnv_comp ?_)
  have hDn : H2 s2.heap.objs.size = none := I2.hok.fresh (Nat.le_refl _)
  obtain ⟨W, ⟨m0, w0⟩, turn⟩ := q _ hDn
  have I3 : Inv X pins σ (upd H2 s2.heap.objs.size (h0 s2.heap.objs.size)) { s2 with heap := s2.heap.push (o0 s2.heap) } := I2.laid (t' := s2.toks) (fun b o e => Heap.get?_push_of_some _ e) (Nat.le_refl _) (hobj s2.heap _ I2.big)
  have kp : ∀ b o, s2.heap.get? b = some o → (s2.heap.push (o0 s2.heap)).get? b = some o := fun b o e => Heap.get?_push_of_some _ e
  generalize hD : s2.heap.objs.size = D at *
  generalize hs3 : ({ s2 with heap := s2.heap.push (o0 s2.heap) } : Shared) = s3 at *
  have h3 : s2.heap.push (o0 s2.heap) = s3.heap := by rw [← hs3]
  rw [h3] at kp
  have sz3 : s3.heap.objs.size = D + 1 := by rw [← h3, Heap.size_push, hD]
  generalize hH3 : upd H2 D (h0 D) = H3 at *
  have old : ∀ b ∈ fp, b < D := fun b hb => by
    obtain ⟨o, e, _⟩ := T.obj _ _ st2 b hb
    rw [← hD]
    exact Heap.lt_size e
  have nfp : ∀ b ∈ fp, H3 b = none := fun b hb => by
    rw [← hH3, upd_ne (Nat.ne_of_lt (old b hb))]
    exact (f2 b hb).1
  have f3 : ∀ b ∈ fp, FpOk X pins H3 b ∧ b < s3.heap.objs.size := fun b hb => ⟨⟨nfp b hb, (f2 b hb).2⟩, by rw [sz3]; exact Nat.lt_succ_of_lt (old b hb)⟩
  have I4 := block_start I3 ok hN f3
  have st4 : tn 0 (pushCells (s3.heap.push { cls := .type "dict", data := .dict #[] }) scope.names) := T.keep _ _ _ st2 fun b _ o e => pushCells_keeps _ _ _ _ (Heap.get?_push_of_some _ (kp b o e))
  -- the block's own context
  have pg := hg s3 H3 s3.heap.objs.size (cellsFrom (s3.heap.objs.size + 1) scope.names (cloFrom X.env.cells scope.names [])) fp
  have pt := ht s3 H3 s3.heap.objs.size (cellsFrom (s3.heap.objs.size + 1) scope.names (cloFrom X.env.cells scope.names [])) fp
  have pe := he s3 H3 s3.heap.objs.size (cellsFrom (s3.heap.objs.size + 1) scope.names (cloFrom X.env.cells scope.names [])) fp
  show codeAny _ _ (.compStart node 0 (.ref it) (.ref D) (compEnvC scope (cellsFrom (s3.heap.objs.size + 1) scope.names (cloFrom X.env.cells scope.names [])) s3.heap.objs.size X.env)) (compPost (model X.prog X.w) X.A X.xe none _ (.ref D) s3.heap.objs.size) { s3 with heap := pushCells (s3.heap.push { cls := .type "dict", data := .dict #[] }) scope.names }
  generalize hce : compEnvC scope (cellsFrom (s3.heap.objs.size + 1) scope.names (cloFrom X.env.cells scope.names [])) s3.heap.objs.size X.env = ce at I4 pg pt pe ⊢
  have cL : ce.locals = s3.heap.objs.size := by subst hce; rfl
  generalize hs4 : ({ s3 with heap := pushCells (s3.heap.push { cls := .type "dict", data := .dict #[] }) scope.names } : Shared) = s4 at I4 ⊢
  have st4 : tn 0 s4.heap := by rw [← hs4]; exact st4
  have stat : ∀ {σ' : L2.St} {H' : Hp} {s' : Shared}, Inv (X.blk s3 H3 scope ce fp) [] σ' H' s' → (∀ b ∈ fp, H' b = none) → ∀ b ∈ fp, FpOk (X.blk s3 H3 scope ce fp) [] H' b := fun I' hn b hb =>
    ⟨hn b hb, (I'.ok.exf b hb).1, I'.ok.exfs b hb, .inl hb, fun x c e => (I'.ok.exf b hb).2 x c e, fun p hp => absurd (show p ∈ ([] : List (Addr × Obj)) ++ [] from hp) (by simp)⟩
  have loop := hloop ce (.ref it) D (compPost (model X.prog X.w) X.A X.xe none (EP X pins σ Q) (.ref D) s3.heap.objs.size)
    (fun n s' => ∃ i H', Inv (X.blk s3 H3 scope ce fp) [] (L2.wipe σ (own.map (·.2))) H' s' ∧ tn i s'.heap ∧ (∀ b ∈ fp, H' b = none) ∧ W i n H') _ rfl (fun n s5 hI => by
      obtain ⟨i, H5, I5, st5, n5, w5⟩ := hI
      rcases turn i n H5 w5 with ⟨stop, qq⟩ | ⟨go, Nx, hNx, step⟩
      · refine thnF (T.done (X.blk s3 H3 scope ce fp) rfl rfl rfl hc i [] s5 _ H5 (fun _ _ => False) I5 (stat I5 n5) st5 stop) fun r s6 ⟨hr, I6⟩ => ?_
        subst hr
        have I7 : Inv X pins σ H5 s6 := I3.call' (ch := fp) I6.os I6.base I6.hok I6.bare fun b hb => ⟨(f3 b hb).1.2.2.2.1, (f3 b hb).1.2.1, (f3 b hb).1.2.2.2.2.1, (f3 b hb).1.2.2.2.2.2⟩
        have nC : H5 s3.heap.objs.size = none := by rw [← cL]; exact I6.free
        obtain ⟨m, hn, _⟩ := I6.loc
        have hn : s6.heap.Ns ce.locals m := hn
        rw [cL] at hn
        obtain ⟨f0, f1, _, f3', f4, f5⟩ := I3.fpOk (Nat.le_refl _) nC
        exact ⟨m, hn, fun h'' sb => ⟨.ref D, H5, I7.turned (t' := s6.toks) (fun b o hb e => (sb.2 b hb).trans e) f0 f1 f3' f4 f5, rfl, qq⟩⟩
      · refine thnF (T.item (X.blk s3 H3 scope ce fp) rfl rfl rfl hc i [] s5 _ H5 (fun _ _ => False) I5 (stat I5 n5) st5 go) fun r s6 ⟨u, hr, h6⟩ => ?_
        subst hr
        refine thnF h6 fun _ s7 ⟨x, H7, I7, r7, y7, st7, n7⟩ => ?_
        have I7' := I7.pinned (stat I7 n7) (T.obj _ _ st7)
        refine thnF (pg.run _ s7 _ H7 x u _ I7' r7 (step x H7 y7)) fun _ s8 ⟨σ8, H8, I8, hw8, q8⟩ => thnF (pt.run _ s8 σ8 H8 _ I8 q8) fun b s9 ⟨H9, I9, q9⟩ => ?_
        have fin : ∀ s' H', Inv (X.blk s3 H3 scope ce fp) ([] ++ pinsAt fp s7.heap) σ8 H' s' → Nx H' → ∃ m, m < n ∧ ∃ i H', Inv (X.blk s3 H3 scope ce fp) [] (L2.wipe σ (own.map (·.2))) H' s' ∧ tn i s'.heap ∧ (∀ b ∈ fp, H' b = none) ∧ W i m H' := fun s' H' I' nx => by
          obtain ⟨m', hm, w'⟩ := hNx H' nx
          have pin' : ∀ b ∈ fp, ∀ o, s7.heap.get? b = some o → s'.heap.get? b = some o ∧ H' b = none := fun b hb o e =>
            let z := I'.pin (b, o) (List.mem_append_right _ (List.mem_append_right _ (mem_pinsAt hb e)))
            ⟨z.1, z.2.1⟩
          refine ⟨m', hm, i + 1, H', (I'.unpinned (pins := [])).weak (by rw [← hw8, wipe_length]) (fun j v e => ?_), T.keep _ _ _ st7 fun b hb o e => (pin' b hb o e).1, fun b hb => ?_, w'⟩
          · rw [← hw8] at e
            exact (wipe_some e).1
          · obtain ⟨o, e, _⟩ := T.obj _ _ st7 b hb
            exact (pin' b hb o e).2
        cases b with
        | false => exact fin _ _ I9 q9
        | true => exact pe _ s9 σ8 H9 D Nx _ _ I9 q9 fin) m0 s4 ⟨0, H3, I4, st4, nfp, w0⟩
  exact hstart ce (.ref it) (.ref D) _ s4 loop (T.self X.A 0 _ _ _ st4 loop)
end
end Gm

set_option Elab.async false
set_option linter.all false
set_option maxRecDepth 100000
set_option maxHeartbeats 400000
/-! Gm16: {k: v for ..} with keys that are tuples. -/
namespace Gm
open PySem PySem.Spec PyProof.Rows L2
section
variable {X : Cx}
theorem d_dictSetT {X : Cx} {pins : List (Addr × Obj)} {σ : L2.St} {H : Hp} {s : Shared} {E : Value → Shared → Prop} {D b : Addr} {kvs : List (List Key × V)} {k : List Key} {v : V} {r : Value} {Q : Unit → Shared → Prop} (hu : X.A.units < cLine) (I : Inv X pins σ H s) (hD : H D = some (.dT kvs)) (hz : kvs.length < sizeLine)
    (eb : H b = some (.tup (k.map kV))) (rv : RelV v r) (h : ∀ s', Inv X pins σ (upd H D (.dT (putK kvs k v))) s' → Q () s') : wpAny (model X.prog X.w) X.A (dictSet D (.ref b) r) Q E s := by
  obtain ⟨z, hd, xs, rel, dd⟩ := dt_of I.hok hD
  have hx : xs.length ≤ sizeLine := by rw [← Paired.length rel]; exact z
  have hl : (putK kvs k v).length ≤ sizeLine := by have := length_putK kvs k v; omega
  refine wpAny_dictSet_heap (hsz := hx) (knd := tupleKind (mixKind X.prog X.w)) hu (key_of I.hok eb) dd fun h' dd' hs => h _ ?_
  obtain ⟨q, es, ep, hq, h2, h3, h4, _, h5⟩ := dd'
  refine d_write I (by rw [hD]; exact True.intro) hs ⟨q, hq⟩ ⟨hl, hd, _, (rel.put k eb rv).keeps fun c ys ec => ?_, q, es, ep, hq, h2, h3, h4, h5⟩
  rw [upd_ne (ne_of ec hD (fun z => nomatch z))]
  exact ec
def tdT (tk tv : TE) : Addr → L2.St → Hp → (Hp → Prop) → Prop := fun D σ H Nx => tk σ H fun y H4 => tv σ H4 fun z H5 => ∃ kvs k b, y = .ref b ∧ H5 b = some (.tup (k.map kV)) ∧ H5 D = some (.dT kvs) ∧ kvs.length < sizeLine ∧ Nx (upd H5 D (.dT (putK kvs k z)))
theorem pe_dcT {kx vx tg iter : Expr} {ifs : List Expr} {scope : Scope} {own : List (Str × Nat)} {pos : Pos} {wi : TI} {g : TG} {tt : TT} {tk tv : TE} (hu : X.A.units + 64 < cLine) (hc : X.calm = true) (hN : X.N.Nodup) (hi : PI X tg iter wi) (ok : BlkOk X.N X.env.scope scope own)
    (hg : ∀ (s : Shared) (H : Hp) (C : Addr) (cl : List (Str × Addr)) (fp : List Addr), PG (X.blk s H scope (compEnvC scope cl C X.env) fp) tg g) (ht : ∀ (s : Shared) (H : Hp) (C : Addr) (cl : List (Str × Addr)) (fp : List Addr), PTs (X.blk s H scope (compEnvC scope cl C X.env) fp) ifs tt)
    (hk : ∀ (s : Shared) (H : Hp) (C : Addr) (cl : List (Str × Addr)) (fp : List Addr), PE (X.blk s H scope (compEnvC scope cl C X.env) fp) kx tk)
    (he : ∀ (s : Shared) (H : Hp) (C : Addr) (cl : List (Str × Addr)) (fp : List Addr), PE (X.blk s H scope (compEnvC scope cl C X.env) fp) vx tv) (hs : ∀ x, foldedSetIterable iter X.env x = pure x := by intro _; rfl) :
    PE X (.DictComp kx vx [⟨tg, iter, ifs, 0⟩] scope pos) (tAcc (fun _ => .dT []) wi g tt (tdT tk tv) (own.map (·.2))) :=
  acc_core (o0 := fun _ => { cls := .type "dict", data := .dict #[] })
    (stepW := fun env D Qs E s => wpAny (model X.prog X.w) X.A (eval kx env) (fun kv s4 => wpAny (model X.prog X.w) X.A (eval vx env) (fun vv s5 => wpAny (model X.prog X.w) X.A (dictSet D kv vv) (fun _ s6 => Qs s6) E s5) E s4) E s)
    hc hN hi ok rfl (fun env it D R I err e turn n s h => by subst e; exact compLoop_anyD I turn n h) (fun env it D R s a b => codeAny_compStart_dict a b)
    (fun s Q E q => wpAny_newObj_type q) (fun h H hb => dt_empty h hb) hg ht
    (fun s H C cl fp pins s1 σ1 H1 D Nx Qs E I q fin => thnF ((hk s H C cl fp).run pins s1 σ1 H1 _ I q) fun kv s4 ⟨y, H4, I4, r4, q4⟩ => thnF ((he s H C cl fp).run pins s4 σ1 H4 _ I4 q4) fun vv s5 ⟨z, H5, I5, r5, q5⟩ => by
      obtain ⟨kvs, k, b, rfl, hb, hD, hz, nx⟩ := q5
      obtain rfl : kv = Value.ref b := r4
      exact d_dictSetT (X := X.blk s H scope (compEnvC scope cl C X.env) fp) (show X.A.units < cLine by omega) I5 hD hz hb r5 fun s' I' => fin s' _ I' nx)
    hs (arm_eval_DictComp ..)
end
section
variable {K : PySem.W.Frag} {mg : Str → Option Value}
theorem lf_dcT {mi : MI} {g : MG} {t : MT} {mk mv : ME} {vs ts : List Nat} (hts : ∀ j ∈ ts, j ∈ vs) {σ : L2.St} {H : Hp} {Q : VK} (q : LfE K mg (mDcomp true mi g t mk mv vs) σ H Q) : tAcc (fun _ => .dT []) (LfI K mg mi) (LfGc K mg g ts) (LfT K mg t) (tdT (LfE K mg mk) (LfE K mg mv)) vs σ H Q := by
  obtain ⟨r, S, e, w, S', ok, hm, k⟩ := q
  unfold mDcomp at hm
  split at hm
  · rename_i s S1 e1
    split at hm
    · rename_i kvs S2 ecmp
      cases hm
      refine ⟨r, S, e, s, S1, ok, e1, fun r1 H1 J x1 ok1 io D hD => ?_⟩
      have np1 := np_of ok1.rep hD
      refine ⟨fun i n H' => ∃ r' S3 acc us, Ex r1 S1.length H1 r' S3.length H' ∧ Ok K mg r' S3 e σ H' ∧ (∀ i, i < S3.length → r' i ≠ D) ∧ H' D = some (.dT us) ∧ KR K mg tkeyOf r' S3.length H' acc us ∧ dcN true s g t mk mv vs n i acc e S3 = some (kvs, S2), ⟨turns, r1, S1, [], [], ?_⟩, ?_⟩
      · obtain ⟨R2, x2⟩ := ok1.rep.junk (ho := .dT []) hD
        exact ⟨x2, ok1.mono x2 R2, np1, upd_same, KR.nil, ecmp⟩
      · rintro i n H2 ⟨r2, S2', acc, us, x2, ok2, np2, hD2, va, h2⟩
        obtain ⟨i1, i2⟩ := io r2 S2' H2 i x2 ok2.rep
        cases n with
        | zero =>
          unfold dcN at h2
          cases h2
        | succ n =>
          unfold dcN at h2
          split at h2
          · cases h2
          · rename_i hs2
            cases h2
            obtain ⟨x4, ok4, v4⟩ := named (o := .dct true kvs) (x1.trans x2) ok2 np2 (x1.th _ hD) hD2 ⟨_, rfl, va⟩
            exact .inl ⟨i1 hs2, k _ _ _ x4 ok4 v4⟩
          · rename_i w hs2
            obtain ⟨go, yl⟩ := i2 w hs2
            refine .inr ⟨go, fun H' => ∃ r' S3 acc us, Ex r1 S1.length H1 r' S3.length H' ∧ Ok K mg r' S3 e σ H' ∧ (∀ i, i < S3.length → r' i ≠ D) ∧ H' D = some (.dT us) ∧ KR K mg tkeyOf r' S3.length H' acc us ∧ dcN true s g t mk mv vs n (i + 1) acc e S3 = some (kvs, S2), fun H' h => ⟨n, Nat.lt_succ_self _, h⟩, fun x H3 y => ?_⟩
            obtain ⟨R3, x3, hw⟩ := yl x H3 y
            split at h2
            · cases h2
            · rename_i e3 S3 g3
              have ok3 := ok2.mono x3 R3
              refine ⟨r2, S2', wipe e vs, w, e3, S3, ok3.wipe vs, hw, g3, fun r4 H4 σ4 x4 ok4 l4 n4 => ⟨wipe_same (l4.trans (wipe_length _ _)) n4 hts, ?_⟩⟩
              have hD3 := x3.un D _ hD2 np2
              have hD4 := x4.un D _ hD3 np2
              have np4 := x4.out hD3 np2
              have va4 := KR.mono (x3.trans x4) _ _ va
              split at h2
              · cases h2
              · rename_i S5 g5
                refine ⟨r4, S3, e3, false, S5, ok4, g5, fun r6 H6 x6 ok6 => ?_⟩
                refine iteF ?_
                have x36 := x3.trans (x4.trans x6)
                exact ⟨r6, S5, acc, us, x2.trans x36, ok2.mono x36 ok6.rep, x6.out hD4 np4, x6.un D _ hD4 np4, KR.mono x6 _ _ va4, h2⟩
              · rename_i S5 g5
                refine ⟨r4, S3, e3, true, S5, ok4, g5, fun r6 H6 x6 ok6 => ?_⟩
                refine iteT ?_
                have hD6 := x6.un D _ hD4 np4
                have np6 := x6.out hD4 np4
                split at h2
                · cases h2
                · rename_i ky S7 g7
                  split at h2
                  · cases h2
                  · rename_i v S8 g8
                    split at h2
                    · rename_i hl
                      refine ⟨r6, S5, e3, ky, S7, ok6, g7, fun r7 H7 u7 x7 ok7 hu7 => ⟨r7, S7, e3, v, S8, ok7, g8, fun r8 H8 u x8 ok8 hu => ?_⟩⟩
                      have hD7 := x7.un D _ hD6 np6
                      have np7 := x7.out hD6 np6
                      have hD8 := x8.un D _ hD7 np7
                      have np8 := x8.out hD7 np7
                      have va8 := KR.mono (x6.trans (x7.trans x8)) _ _ va4
                      have x38 := x3.trans (x4.trans (x6.trans (x7.trans x8)))
                      obtain ⟨qk, hq⟩ := kOk_t hl.2
                      obtain ⟨b, rfl, hb⟩ := tkey_V (VR.mono x8 _ _ hu7) hq
                      obtain ⟨x9, ok9, x90⟩ := unn (ho' := .dT (putK us qk u)) (x2.trans x38) (ok2.mono x38 ok8.rep) np8 hD hD8 True.intro
                      exact ⟨us, qk, b, rfl, hb, hD8, by rw [← KR.length va8]; exact lineL hl.1, r8, S8, dPut true acc ky v, putK us qk u, x9, ok9, np8, upd_same, KR.mono0 x90 _ _ (KR.putt hq hu va8), h2⟩
                    · cases h2
    · cases hm
  · cases hm
end
section
variable {X : Cx} {tg iter kx vx : Expr} {ifs : List Expr} {mi : MI} {g : MG} {t : MT} {mk mv : ME} {pos : Pos} {scope : Scope} {own : List (Str × Nat)} {ts : List Nat}
theorem xe_dcT (hu : X.A.units + 64 < cLine) (hc : X.calm = true) (hN : X.N.Nodup) (hi : XI X tg iter mi) (ok : BlkOk X.N X.env.scope scope own)
    (hg : ∀ (s : Shared) (H : Hp) (C : Addr) (cl : List (Str × Addr)) (fp : List Addr), XGc (X.blk s H scope (compEnvC scope cl C X.env) fp) tg g ts)
    (ht : ∀ (s : Shared) (H : Hp) (C : Addr) (cl : List (Str × Addr)) (fp : List Addr), PTs (X.blk s H scope (compEnvC scope cl C X.env) fp) ifs (LfT X.K X.mg t))
    (hk : ∀ (s : Shared) (H : Hp) (C : Addr) (cl : List (Str × Addr)) (fp : List Addr), XE (X.blk s H scope (compEnvC scope cl C X.env) fp) kx mk)
    (he : ∀ (s : Shared) (H : Hp) (C : Addr) (cl : List (Str × Addr)) (fp : List Addr), XE (X.blk s H scope (compEnvC scope cl C X.env) fp) vx mv)
    (hts : ∀ j ∈ ts, j ∈ own.map (·.2)) (hs : ∀ x, foldedSetIterable iter X.env x = pure x := by intro _; rfl) : XE X (.DictComp kx vx [⟨tg, iter, ifs, 0⟩] scope pos) (mDcomp true mi g t mk mv (own.map (·.2))) :=
  PEi (pe_dcT hu hc hN hi ok hg ht hk he hs) fun σ H Q q => lf_dcT hts q
end
end Gm

set_option Elab.async false
set_option linter.all false
set_option maxRecDepth 100000
set_option maxHeartbeats 400000
/-! Gm17: len({e for ..}), ints and texts. -/
namespace Gm
open PySem PySem.Spec PyProof.Rows L2
section
variable {X : Cx}
def tdS (P : Program) (w : World) (te : TE) : Addr → L2.St → Hp → (Hp → Prop) → Prop := fun D σ H Nx => te σ H fun y H4 => ∃ (k : Key) (S : Key → Bool) (n : Nat), y = kV k ∧ H4 D = some (SetK P w D S n) ∧ n + 1 < scanBound ∧ Nx (upd H4 D (SetK P w D (fun j => S j || decide (j = k)) (if S k = true then n else n + 1)))
theorem pe_scK {elt tg iter : Expr} {ifs : List Expr} {scope : Scope} {own : List (Str × Nat)} {pos : Pos} {wi : TI} {g : TG} {tt : TT} {te : TE} (hc : X.calm = true) (hN : X.N.Nodup) (hi : PI X tg iter wi) (ok : BlkOk X.N X.env.scope scope own)
    (hg : ∀ (s : Shared) (H : Hp) (C : Addr) (cl : List (Str × Addr)) (fp : List Addr), PG (X.blk s H scope (compEnvC scope cl C X.env) fp) tg g) (ht : ∀ (s : Shared) (H : Hp) (C : Addr) (cl : List (Str × Addr)) (fp : List Addr), PTs (X.blk s H scope (compEnvC scope cl C X.env) fp) ifs tt)
    (he : ∀ (s : Shared) (H : Hp) (C : Addr) (cl : List (Str × Addr)) (fp : List Addr), PE (X.blk s H scope (compEnvC scope cl C X.env) fp) elt te) (hs : ∀ x, foldedSetIterable iter X.env x = pure x := by intro _; rfl) :
    PE X (.SetComp elt [⟨tg, iter, ifs, 0⟩] scope pos) (tAcc (fun D => SetK X.prog X.w D (fun _ => false) 0) wi g tt (tdS X.prog X.w te) (own.map (·.2))) :=
  acc_core (o0 := fun _ => { cls := .type "set", dict := none, data := .set #[] 0 (.fresh 0 0 (!X.w.params.followText "set-order")) })
    (stepW := fun env D Qs E s => wpAny (model X.prog X.w) X.A (eval elt env) (fun v s4 => wpAny (model X.prog X.w) X.A (call (.builtin "set.add") [.ref D, v]) (fun _ s5 => Qs s5) E s4) E s)
    hc hN hi ok rfl (fun env it D R I err e turn n s h => by subst e; exact PpSet.compLoopS_any I turn n h) (fun env it D R s a b => PpSet.codeAny_compStart_set a b)
    (fun s Q E q => PpSet.newSet_ok q) (fun h H hb => setK_new ⟨_, #[], 0, _, Heap.get?_push_size _ rfl, ⟨rfl, rfl, rfl⟩, rfl, (fun e he => by simp at he), (fun k => by simp), (by decide), (by rfl), rfl⟩) hg ht
    (fun s H C cl fp pins s1 σ1 H1 D Nx Qs E I q fin => thnF ((he s H C cl fp).run pins s1 σ1 H1 _ I q) fun v s4 ⟨y, H4, I4, r4, q4⟩ => by
      obtain ⟨k, S, n, rfl, hD, hn, nx⟩ := q4
      exact thnF (mt_saddK (X := (X.blk s H scope (compEnvC scope cl C X.env) fp)) pins s4 σ1 H4 (.ref D) [kV k] (.ref D) [v] (fun _ H' => H' = upd H4 D (SetK X.prog X.w D (fun j => S j || decide (j = k)) (if S k = true then n else n + 1))) I4 rfl (.cons r4 .nil) ⟨D, k, S, n, rfl, rfl, hD, hn, rfl⟩)
        fun u s5 ⟨z, H5, I5, r5, q5⟩ => fin s5 H5 I5 (by rw [q5]; exact nx))
    hs rfl
theorem cr_lenK : CallR X (.builtin "len") (fun xs H Q => ∃ a S n, xs = [V.ref a] ∧ H a = some (SetK X.prog X.w a S n) ∧ Q (.int n) H) := by
  intro pins s σ H xs us Q I r q
  obtain ⟨a, S, n, rfl, hd, q⟩ := q
  obtain ⟨u, rfl, rx⟩ := vals1 r
  cases rx
  obtain ⟨o, es, ep, t, ho, hx, hdt, _, _, hz, hf, hn⟩ := setK_get I hd
  have hb : scanBound < 2 ^ 62 := by decide
  exact call_len_set ho hx hdt hf (by omega) ⟨.int n, H, I.tok _, ⟨_, by rw [hn]⟩, q⟩
end
section
variable {K : PySem.W.Frag} {mg : Str → Option Value} {P : Program} {w : World}
/-- the members told -/
def memK (acc : List W) (j : Key) : Bool := acc.any fun w => decide (keyOf w = some j)
theorem lf_sc {mi : MI} {g : MG} {t : MT} {m : ME} {vs ts : List Nat} (hts : ∀ j ∈ ts, j ∈ vs) {σ : L2.St} {H : Hp} {Q : VK} (q : LfE K mg (mLenSet mi g t m vs) σ H Q) :
    tAcc (fun D => SetK P w D (fun _ => false) 0) (LfI K mg mi) (LfGc K mg g ts) (LfT K mg t) (tdS P w (LfE K mg m)) vs σ H (fun u H1 => ∃ a S n, [u] = [V.ref a] ∧ H1 a = some (SetK P w a S n) ∧ Q (.int n) H1) := by
  obtain ⟨r, S, e, w0, S', ok, hm, k⟩ := q
  unfold mLenSet at hm
  split at hm
  · rename_i s S1 e1
    split at hm
    · rename_i ws S2 ecmp
      cases hm
      refine ⟨r, S, e, s, S1, ok, e1, fun r1 H1 J x1 ok1 io D hD => ?_⟩
      have np1 := np_of ok1.rep hD
      refine ⟨fun i n H' => ∃ r' S3 acc Sf, Ex r1 S1.length H1 r' S3.length H' ∧ Ok K mg r' S3 e σ H' ∧ (∀ i, i < S3.length → r' i ≠ D) ∧ H' D = some (SetK P w D Sf acc.length) ∧ (∀ j, Sf j = memK acc j) ∧ scN s g t m vs n i acc e S3 = some (ws, S'), ⟨turns, r1, S1, [], fun _ => false, ?_⟩, ?_⟩
      · obtain ⟨R2, x2⟩ := ok1.rep.junk (ho := SetK P w D (fun _ => false) 0) hD
        exact ⟨x2, ok1.mono x2 R2, np1, upd_same, fun _ => rfl, ecmp⟩
      · rintro i n H2 ⟨r2, S2', acc, Sf, x2, ok2, np2, hD2, va, h2⟩
        obtain ⟨i1, i2⟩ := io r2 S2' H2 i x2 ok2.rep
        cases n with
        | zero =>
          unfold scN at h2
          cases h2
        | succ n =>
          unfold scN at h2
          split at h2
          · cases h2
          · rename_i hs2
            cases h2
            exact .inl ⟨i1 hs2, D, Sf, _, rfl, hD2, k r2 H2 _ (x1.trans x2) ok2 (vr_int.mpr rfl)⟩
          · rename_i w1 hs2
            obtain ⟨go, yl⟩ := i2 w1 hs2
            refine .inr ⟨go, fun H' => ∃ r' S3 acc Sf, Ex r1 S1.length H1 r' S3.length H' ∧ Ok K mg r' S3 e σ H' ∧ (∀ i, i < S3.length → r' i ≠ D) ∧ H' D = some (SetK P w D Sf acc.length) ∧ (∀ j, Sf j = memK acc j) ∧ scN s g t m vs n (i + 1) acc e S3 = some (ws, S'), fun H' h => ⟨n, Nat.lt_succ_self _, h⟩, fun x H3 y => ?_⟩
            obtain ⟨R3, x3, hw⟩ := yl x H3 y
            split at h2
            · cases h2
            · rename_i e3 S3 g3
              have ok3 := ok2.mono x3 R3
              refine ⟨r2, S2', wipe e vs, w1, e3, S3, ok3.wipe vs, hw, g3, fun r4 H4 σ4 x4 ok4 l4 n4 => ⟨wipe_same (l4.trans (wipe_length _ _)) n4 hts, ?_⟩⟩
              have hD3 := x3.un D _ hD2 np2
              have hD4 := x4.un D _ hD3 np2
              have np4 := x4.out hD3 np2
              split at h2
              · cases h2
              · rename_i S5 g5
                refine ⟨r4, S3, e3, false, S5, ok4, g5, fun r6 H6 x6 ok6 => ?_⟩
                refine iteF ?_
                have x36 := x3.trans (x4.trans x6)
                exact ⟨r6, S5, acc, Sf, x2.trans x36, ok2.mono x36 ok6.rep, x6.out hD4 np4, x6.un D _ hD4 np4, va, h2⟩
              · rename_i S5 g5
                refine ⟨r4, S3, e3, true, S5, ok4, g5, fun r6 H6 x6 ok6 => ?_⟩
                refine iteT ?_
                have hD6 := x6.un D _ hD4 np4
                have np6 := x6.out hD4 np4
                split at h2
                · cases h2
                · rename_i v S7 g7
                  split at h2
                  · rename_i hl
                    refine ⟨r6, S5, e3, v, S7, ok6, g7, fun r8 H8 u x8 ok8 hu => ?_⟩
                    have hD8 := x8.un D _ hD6 np6
                    have np8 := x8.out hD6 np6
                    have x38 := x3.trans (x4.trans (x6.trans x8))
                    obtain ⟨qk, hq⟩ := kOk_f hl.2
                    have hany : (acc.any fun w => sameK false w v) = memK acc qk := by
                      unfold memK
                      congr 1
                      funext z
                      rw [sameK_f, hq]
                    rw [hany] at h2
                    refine ⟨qk, Sf, acc.length, key_V hu hq, hD8, Nat.lt_of_le_of_lt (Nat.succ_le_of_lt hl.1) (by decide), ?_⟩
                    obtain ⟨x9, ok9, x90⟩ := unn (ho' := SetK P w D (fun j => Sf j || decide (j = qk)) (if Sf qk = true then acc.length else acc.length + 1)) (x2.trans x38) (ok2.mono x38 ok8.rep) np8 hD hD8 True.intro
                    refine ⟨r8, S7, _, fun j => Sf j || decide (j = qk), x9, ok9, np8, ?_, ?_, h2⟩
                    · rw [upd_same, va qk]
                      cases hh : memK acc qk with
                      | true => rfl
                      | false =>
                        simp
                    · intro j
                      show (Sf j || decide (j = qk)) = _
                      rw [va j]
                      cases hh : memK acc qk with
                      | true =>
                        simp only [if_true]
                        by_cases hj : j = qk
                        · subst hj; rw [hh]; simp
                        · simp [hj]
                      | false =>
                        simp only [Bool.false_eq_true, if_false]
                        unfold memK
                        rw [List.any_append]
                        congr 1
                        simp [hq, eq_comm]
                  · cases h2
    · cases hm
  · cases hm
end
section
variable {X : Cx} {tg iter elt : Expr} {ifs : List Expr} {mi : MI} {g : MG} {t : MT} {m : ME} {pos pos' p : Pos} {scope : Scope} {own : List (Str × Nat)} {ts : List Nat}
theorem xe_lenSet (hg0 : Gl X "len") (hm0 : X.mg "len" = none) (hc : X.calm = true) (hN : X.N.Nodup) (hi : XI X tg iter mi) (ok : BlkOk X.N X.env.scope scope own)
    (hg : ∀ (s : Shared) (H : Hp) (C : Addr) (cl : List (Str × Addr)) (fp : List Addr), XGc (X.blk s H scope (compEnvC scope cl C X.env) fp) tg g ts)
    (ht : ∀ (s : Shared) (H : Hp) (C : Addr) (cl : List (Str × Addr)) (fp : List Addr), PTs (X.blk s H scope (compEnvC scope cl C X.env) fp) ifs (LfT X.K X.mg t))
    (he : ∀ (s : Shared) (H : Hp) (C : Addr) (cl : List (Str × Addr)) (fp : List Addr), XE (X.blk s H scope (compEnvC scope cl C X.env) fp) elt m)
    (hts : ∀ j ∈ ts, j ∈ own.map (·.2)) (hs : ∀ x, foldedSetIterable iter X.env x = pure x := by intro _; rfl) (hst : starEach [.SetComp elt [⟨tg, iter, ifs, 0⟩] scope pos] X.env = (false, eval (.SetComp elt [⟨tg, iter, ifs, 0⟩] scope pos) X.env) :: starEach [] X.env := by rfl) :
    XE X (.Call (.Name "len" p) [.SetComp elt [⟨tg, iter, ifs, 0⟩] scope pos] [] pos') (mLenSet mi g t m (own.map (·.2))) :=
  PEi (pe_callL1 cr_lenK hg0 hm0 PySem.boot_len (pe_scK (g := LfGc X.K X.mg g ts) (te := LfE X.K X.mg m) hc hN hi ok hg ht he hs) (by decide) (by decide) hst) fun σ H Q q => by
    have q2 := lf_sc (P := X.prog) (w := X.w) hts q
    exact q2
end
end Gm

set_option Elab.async false
set_option linter.all false
set_option maxRecDepth 100000
set_option maxHeartbeats 400000
/-! Gm18: enumerate over tuples and lists, zip of texts with lists, of lists, of tuples. -/
namespace Gm
open PySem PySem.Spec PyProof.Rows L2
/-! ### enumerate(tuple) -/
theorem meets_enumerate_newT (t : Addr) (items : Array Value) :
    Meets (Builtin.«enumerate.__new__» ⟨[.type "enumerate", .ref t], []⟩) (fun _ R s => s.heap.IsTuple t items ∧
      R (.ok (.ret (.ref (s.heap.push { cls := .type "tuple_iterator", data := .fields #[.ref t, .int 0 0] }).objs.size)))
        { s with heap := (s.heap.push { cls := .type "tuple_iterator", data := .fields #[.ref t, .int 0 0] }).push { cls := .type "enumerate", data := .fields #[.none, .bool false, .ref s.heap.objs.size, rawInt 0, .none, .none] } }) :=
  .of_wp fun prog w A R s h => by
    obtain ⟨hp, g, d, tk, os⟩ := s
    obtain ⟨hL, h⟩ := h
    have hsub := sub_enumerate
    wp_walk
    refine wpAny_stack_any fun st => wpAny_pure ?_
    split
    · rename_i c _ _ _ _ _
      cases (c == Value.type "enumerate")
      · wp_walk using wpAny_pyIter_tuple hL
        exact ⟨_, rfl, h⟩
      · wp_walk using wpAny_pyIter_tuple hL
        exact ⟨_, rfl, h⟩
    · wp_walk using wpAny_pyIter_tuple hL
      exact ⟨_, rfl, h⟩
section
variable {prog : Program} {w : World} {A : Around} {E : Value → Shared → Prop} {s : Shared}
theorem call_enumerate_tup {t : Addr} {items : Array Value} {Q : Value → Shared → Prop} (hL : s.heap.IsTuple t items)
    (h : ∀ h', IsEnum h' (s.heap.objs.size + 1) s.heap.objs.size 0 .none → h'.IsTupleIter s.heap.objs.size t 0 → h'.objs.size = s.heap.objs.size + 2 →
      (∀ b o, s.heap.get? b = some o → h'.get? b = some o) → Q (.ref (s.heap.objs.size + 1)) { s with heap := h' }) :
    wpAny (model prog w) A (call (.type "enumerate") [.ref t]) Q E s := by
  refine callType_new F.called_enumerate (by decide) (F.typeCall_enumerate_1 _) (F.newCall_enumerate_1 _) (fun obj => F.args_object_init_2 obj _) F.entry_enumerate_new
    (meets_enumerate_newT t items) ⟨hL, ?_⟩
  have hz : (s.heap.push { cls := .type "tuple_iterator", data := .fields #[.ref t, .int 0 0] }).objs.size = s.heap.objs.size + 1 := Heap.size_push ..
  have he : ((s.heap.push { cls := .type "tuple_iterator", data := .fields #[.ref t, .int 0 0] }).push { cls := .type "enumerate", data := .fields #[.none, .bool false, .ref s.heap.objs.size, rawInt 0, .none, .none] }).get? (s.heap.objs.size + 1) = some { cls := .type "enumerate", data := .fields #[.none, .bool false, .ref s.heap.objs.size, rawInt 0, .none, .none] } := by
    have := Heap.get?_push_size (s.heap.push { cls := .type "tuple_iterator", data := .fields #[.ref t, .int 0 0] }) (o := { cls := .type "enumerate", data := .fields #[.none, .bool false, .ref s.heap.objs.size, rawInt 0, .none, .none] }) rfl
    rw [hz] at this; exact this
  show _ ∧ _
  rw [hz]
  exact ⟨⟨_, he, rfl⟩, h _ he ⟨_, Heap.get?_push_of_some _ (Heap.get?_push_size _ rfl), rfl, rfl⟩ (by rw [Heap.size_push, hz]) fun b o x => Heap.get?_push_of_some _ (Heap.get?_push_of_some _ x)⟩
end
def IteT (a : Addr) : It :=
  ⟨fun i H => ∃ (xs : List V) (x : V), H a = some (.tup xs) ∧ xs[i]? = some x, fun i H v H' => ∃ T x xs, v = .ref T ∧ H T = none ∧ H' = upd H T (.tup [.int (i : Nat), x]) ∧ H a = some (.tup xs) ∧ xs[i]? = some x, fun i H => ∃ xs : List V, H a = some (.tup xs) ∧ xs.length = i⟩
theorem turn_enumT {P : Program} {w : World} {K : PySem.W.Frag} {elts : List Expr} {kk : Nat} {tpos : Pos} (a e it : Addr) :
    Turn P w K (.Tuple elts kk tpos) (IteT a) [e, it] e (fun i h => (∃ old, IsEnum h e it ((i : Nat) : Int) old) ∧ h.IsTupleIter it a i ∧ e ≠ it ∧ a ≠ it ∧ a ≠ e) where
  mem := by simp
  obj := fun i h st b hb => by
    obtain ⟨⟨old, he⟩, ⟨o, ho, hc, hd⟩, _⟩ := st
    have e' : b = e ∨ b = it := by simpa using hb
    rcases e' with z | z
    · rw [z]; exact ⟨_, he, fun v q => nomatch q⟩
    · rw [z]; exact ⟨o, ho, fun v q => by rw [hd] at q; cases q⟩
  keep := fun i h h' st k => let ⟨⟨old, he⟩, hi, hne⟩ := st; ⟨⟨old, k e (by simp) _ he⟩, hi.at fun o q => k it (by simp) o q, hne⟩
  item := by
    intro X hP hw hK hc i pins s σ H E I hf st hg
    subst hP hw hK
    obtain ⟨⟨old, he⟩, hit, hne, hai, hae⟩ := st
    obtain ⟨xs, x, hq, hx⟩ := hg
    obtain ⟨its, rv, p, hz⟩ := I.tuple (SqT.of hq)
    obtain ⟨u, hu, ru⟩ := rv.get hx
    have hel : e < s.heap.objs.size := Heap.lt_size he
    have hil : it < s.heap.objs.size := by obtain ⟨_, q, _⟩ := hit; exact Heap.lt_size q
    have hlt : i < its.toArray.size := by
      have := (List.getElem?_eq_some_iff.mp hu).1
      simpa using this
    refine wpAny_pyNext_enum_itemD (Draws.tuple (show X.A.in1.handled = none from I.ok.hd hc) it a hai its.toArray) he ⟨hit, (show s.heap.IsTuple a its.toArray from p)⟩ hlt hne (by simp [hne, hae, Ne.symm hae]) fun y h' tk hy ho sn hT hsz hk => ?_
    obtain ⟨hit', _⟩ := sn
    have hyu : y = u := by
      have h1 : its.toArray[i]? = some u := by simpa using hu
      rw [h1] at hy
      exact (Option.some.inj hy).symm
    subst hyu
    refine ⟨_, rfl, wpAny_letOwnedTupleGo_enum (s := { s with heap := h', toks := tk + 1 }) ho fun h'' he' sb => ?_⟩
    have hT2 : h''.get? s.heap.objs.size = some { cls := .type "tuple", data := .seq #[.int i tk, y] } := (sb.2 _ (Nat.ne_of_gt hel)).trans hT
    have new : ObjOk X.prog X.w (upd H s.heap.objs.size (.tup [.int (i : Nat), x])) h'' s.heap.objs.size (.tup [.int (i : Nat), x]) :=
      ⟨by show 2 ≤ sizeLine; decide, [.int i tk, y], .cons ⟨_, rfl⟩ (.cons ru .nil), ⟨_, hT2, rfl, _, rfl⟩⟩
    have I1 : Inv X pins σ (upd H s.heap.objs.size (.tup [.int (i : Nat), x])) { s with heap := h'', toks := tk + 1 } :=
      I.turnedNew (ch := [e, it]) (fun b ob hb q => (sb.2 b (fun z => hb (by simp [z]))).trans (hk b ob (fun z => hb (by simp [z])) (fun z => hb (by simp [z])) q)) hf (Nat.le_refl _) new
    refine ⟨.ref s.heap.objs.size, _, I1, rfl, ⟨_, x, xs, rfl, I.hok.fresh (Nat.le_refl _), rfl, hq, hx⟩, ⟨⟨y, ?_⟩, hit'.at fun o q => (sb.2 it (Ne.symm hne)).trans q, hne, hai, hae⟩, fun b hb => ?_⟩
    · have e1 : ((i + 1 : Nat) : Int) = (i : Int) + 1 := by omega
      rw [e1]; exact he'
    · have hb' : b < s.heap.objs.size := by
        have e' : b = e ∨ b = it := by simpa using hb
        rcases e' with z | z
        · rw [z]; exact hel
        · rw [z]; exact hil
      rw [upd_ne (Nat.ne_of_lt hb')]
      exact (hf b hb).1
  done := by
    intro X hP hw hK hc i pins s σ H E I hf st hg
    subst hP hw hK
    obtain ⟨⟨old, he⟩, hit, hne, hai, hae⟩ := st
    obtain ⟨xs, hq, hx⟩ := hg
    obtain ⟨its, rv, p, hz⟩ := I.tuple (SqT.of hq)
    obtain ⟨f0, f1, f2, f3, f4, f5⟩ := hf it (by simp)
    have hl := rv.length
    have hi : i = its.toArray.size := by simp; omega
    subst hi
    exact wpAny_pyNext_enum_endD (Draws.tuple (show X.A.in1.handled = none from I.ok.hd hc) it a hai its.toArray) he ⟨hit, (show s.heap.IsTuple a its.toArray from p)⟩ fun h' eb => ⟨rfl, I.turned (t' := s.toks) (fun b o hb q => eb b o hb q) f0 f1 f3 f4 f5⟩
  self := fun A i s Q E st h => let ⟨⟨_, he⟩, _⟩ := st; wpAny_pyIter_enum he h
def iEnT (ta : TA) : TI := fun σ H R => ta σ H fun vs H1 => ∃ a xs, vs = [.ref a] ∧ H1 a = some (.tup xs) ∧ R (IteT a) H1
theorem pi_enumT {X : Cx} {e : Expr} {ta : TA} {p pos tpos : Pos} {elts : List Expr} {kk : Nat} (hg : Gl X "enumerate") (hm : X.mg "enumerate" = none) (ha : PA X [e] ta) (hs : starEach [e] X.env = [(false, eval e X.env)] := by rfl) :
    PI X (.Tuple elts kk tpos) (.Call (.Name "enumerate" p) [e] [] pos) (iEnT ta) := by
  refine ⟨fun pins s σ H R I h => ?_⟩
  refine Call_ (ld_blt I hg hm boot_enumerate (PyProof.Rows.callWith_type1 (thn (ha.run pos pins s σ H _ I h) fun us s1 ⟨vs, H1, I1, r1, q1⟩ => ?_) hs rfl))
  obtain ⟨a, xs, ex, hq, q⟩ := q1
  subst ex
  cases r1 with
  | cons r rr =>
    cases rr
    cases r
    obtain ⟨its, rv, p', hz⟩ := I1.tuple (SqT.of hq)
    have la : a < s1.heap.objs.size := by
      obtain ⟨o, ho, _⟩ := id p'
      exact Heap.lt_size ho
    refine call_enumerate_tup (show s1.heap.IsTuple a its.toArray from p') fun h' he hit hsz hk => wpAny_pyIter_enum he ?_
    have I2 : Inv X pins σ H1 { s1 with heap := h' } := I1.kept (t' := s1.toks) hk
    refine ⟨s1.heap.objs.size + 1, [s1.heap.objs.size + 1, s1.heap.objs.size], _, _, H1, rfl, I2, turn_enumT a (s1.heap.objs.size + 1) s1.heap.objs.size, ⟨⟨.none, he⟩, hit, Nat.succ_ne_self _, Nat.ne_of_lt la, Nat.ne_of_lt (Nat.lt_succ_of_lt la)⟩, fun b hb => ?_, q⟩
    have e' : b = s1.heap.objs.size + 1 ∨ b = s1.heap.objs.size := by simpa using hb
    have hle : s1.heap.objs.size ≤ b := by
      rcases e' with z | z
      · rw [z]; exact Nat.le_add_right _ _
      · rw [z]; exact Nat.le_refl _
    exact I1.fpOk hle (I1.hok.fresh hle)
/-! ### as the plain sources tell -/
section
variable {K : PySem.W.Frag} {mg : Str → Option Value}
theorem VRs.pair {r : Nat → Addr} {n : Nat} {H : Hp} {v w : W} {x y : V} (h1 : VR K mg r n H v x) (h2 : VR K mg r n H w y) : VRs K mg r n H [v, w] [x, y] := VRs.cons h1 (VRs.cons h2 VRs.nil)
theorem itok_enumT {r0 : Nat → Addr} {n0 : Nat} {H0 : Hp} {ws : List W} {a : Addr} {vs : List V} (h1 : H0 a = some (.tup vs)) (h2 : VRs K mg r0 n0 H0 ws vs) : ItOk K mg r0 n0 H0 (sEnumT ws) (IteT a) := by
  intro r S H i x R
  have h3 := x.kp.tups _ _ h1
  have h4 := VRs.mono x _ _ h2
  have hl := h4.length
  unfold sEnumT
  refine ⟨fun e => ?_, fun w e => ?_⟩
  · split at e
    · rename_i hi
      have e2 : ws[i]? = none := Option.map_eq_none_iff.mp (Option.some.inj e)
      have := List.getElem?_eq_none_iff.mp e2
      exact ⟨vs, h3, by omega⟩
    · cases e
  · split at e
    · cases g : ws[i]? with
      | none =>
        rw [g] at e
        cases e
      | some w2 =>
        rw [g] at e
        cases e
        obtain ⟨v, g1, g2⟩ := h4.get g
        refine ⟨⟨vs, v, h3, g1⟩, fun y H' hy => ?_⟩
        obtain ⟨T, x2, xs, rfl, hT, rfl, q1, q2⟩ := hy
        rw [h3] at q1
        cases q1
        rw [g1] at q2
        cases q2
        obtain ⟨R2, x2⟩ := R.junk (ho := .tup [.int (i : Nat), v]) hT
        exact ⟨R2, x2, vr_tup.mpr ⟨T, _, rfl, upd_same, VRs.pair (vr_int.mpr rfl) (VR.mono x2 _ _ g2)⟩⟩
    · cases e
theorem itok_enumL {r0 : Nat → Addr} {n0 : Nat} {H0 : Hp} {j : Nat} (hj : j < n0) : ItOk K mg r0 n0 H0 (sEnum (sSeq (.ref j))) (Ite K (r0 j)) := by
  intro r S H i x R
  have hr := x.ag j hj
  unfold sEnum sSeq seqOf
  simp only
  split
  · rename_i ws hi
    obtain ⟨vs, h1, h2⟩ := R.lst hi
    rw [hr] at h1
    refine ⟨fun e => ?_, fun w e => ?_⟩
    · have e2 : ws[i]? = none := Option.map_eq_none_iff.mp (Option.some.inj e)
      exact ⟨vs, SqL.of h1, by rw [← h2.length]; exact List.getElem?_eq_none_iff.mp e2⟩
    · have e2 : (ws[i]?.map fun w => W.tup [.int i, w]) = some w := Option.some.inj e
      cases g : ws[i]? with
      | none =>
        rw [g] at e2
        cases e2
      | some w2 =>
        rw [g] at e2
        cases e2
        obtain ⟨v, g1, g2⟩ := h2.get g
        refine ⟨⟨vs, v, SqL.of h1, g1⟩, fun y H' hy => ?_⟩
        obtain ⟨T, x2, rfl, hT, rfl, q1⟩ := hy
        have := q1 vs (SqL.of h1)
        rw [g1] at this
        cases this
        obtain ⟨R2, x2⟩ := R.junk (ho := .tup [.int (i : Nat), v]) hT
        exact ⟨R2, x2, vr_tup.mpr ⟨T, _, rfl, upd_same, VRs.pair (vr_int.mpr rfl) (VR.mono x2 _ _ g2)⟩⟩
  · exact ⟨fun e => (by cases e), fun w e => (by cases e)⟩
theorem itok_zipL {r0 : Nat → Addr} {n0 : Nat} {H0 : Hp} {j k : Nat} (hj : j < n0) (hk : k < n0) : ItOk K mg r0 n0 H0 (sZip2 (.ref j) (.ref k)) (Itz K (r0 j) (r0 k)) := by
  intro r S H i x R
  have hr := x.ag j hj
  have hr2 := x.ag k hk
  unfold sZip2
  split
  · rename_i xs ys hxs hys
    unfold seqOf at hxs hys
    simp only at hxs hys
    split at hxs
    · rename_i ws hi
      cases hxs
      split at hys
      · rename_i us hi2
        cases hys
        obtain ⟨vs, h1, h2⟩ := R.lst hi
        obtain ⟨vs2, h3, h4⟩ := R.lst hi2
        rw [hr] at h1
        rw [hr2] at h3
        split
        · rename_i v w g1 g2
          refine ⟨fun e => (by cases e), fun w e => ?_⟩
          cases e
          obtain ⟨v1, q1, q2⟩ := h2.get g1
          obtain ⟨v2, q3, q4⟩ := h4.get g2
          refine ⟨⟨vs, vs2, v1, v2, SqL.of h1, SqL.of h3, q1, q3⟩, fun y H' hy => ?_⟩
          obtain ⟨T, x2, y2, rfl, hT, rfl, p1, p2⟩ := hy
          have t1 := p1 vs (SqL.of h1)
          have t2 := p2 vs2 (SqL.of h3)
          rw [q1] at t1
          rw [q3] at t2
          cases t1
          cases t2
          obtain ⟨R2, x2⟩ := R.junk (ho := .tup [v1, v2]) hT
          exact ⟨R2, x2, vr_tup.mpr ⟨T, _, rfl, upd_same, VRs.pair (VR.mono x2 _ _ q2) (VR.mono x2 _ _ q4)⟩⟩
        · rename_i hno
          refine ⟨fun _ => ⟨vs, vs2, SqL.of h1, SqL.of h3, ?_⟩, fun w e => (by cases e)⟩
          rw [← h2.length, ← h4.length]
          cases a1 : xs[i]? with
          | none => exact .inl (List.getElem?_eq_none_iff.mp a1)
          | some v =>
            cases a2 : ys[i]? with
            | none => exact .inr (List.getElem?_eq_none_iff.mp a2)
            | some w => exact (hno v w a1 a2).elim
      · cases hys
    · cases hxs
  · exact ⟨fun e => (by cases e), fun w e => (by cases e)⟩
theorem itok_zipT {r0 : Nat → Addr} {n0 : Nat} {H0 : Hp} {ws us : List W} {a b : Addr} {vs vs2 : List V} (h1 : H0 a = some (.tup vs)) (h2 : VRs K mg r0 n0 H0 ws vs) (h3 : H0 b = some (.tup vs2)) (h4 : VRs K mg r0 n0 H0 us vs2) :
    ItOk K mg r0 n0 H0 (sZip2 (.tup ws) (.tup us)) (RZ.ItzT K a b) := by
  intro r S H i x R
  have h1 := x.kp.tups _ _ h1
  have h3 := x.kp.tups _ _ h3
  have h2 := VRs.mono x _ _ h2
  have h4 := VRs.mono x _ _ h4
  unfold sZip2 seqOf
  simp only
  split
  · rename_i v w g1 g2
    refine ⟨fun e => (by cases e), fun w e => ?_⟩
    cases e
    obtain ⟨v1, q1, q2⟩ := h2.get g1
    obtain ⟨v2, q3, q4⟩ := h4.get g2
    refine ⟨⟨vs, vs2, v1, v2, SqT.of h1, SqT.of h3, q1, q3⟩, fun y H' hy => ?_⟩
    obtain ⟨T, x2, y2, rfl, hT, rfl, p1, p2⟩ := hy
    have t1 := p1 vs (SqT.of h1)
    have t2 := p2 vs2 (SqT.of h3)
    rw [q1] at t1
    rw [q3] at t2
    cases t1
    cases t2
    obtain ⟨R2, x2⟩ := R.junk (ho := .tup [v1, v2]) hT
    exact ⟨R2, x2, vr_tup.mpr ⟨T, _, rfl, upd_same, VRs.pair (VR.mono x2 _ _ q2) (VR.mono x2 _ _ q4)⟩⟩
  · rename_i hno
    refine ⟨fun _ => ⟨vs, vs2, SqT.of h1, SqT.of h3, ?_⟩, fun w e => (by cases e)⟩
    rw [← h2.length, ← h4.length]
    cases a1 : ws[i]? with
    | none => exact .inl (List.getElem?_eq_none_iff.mp a1)
    | some v =>
      cases a2 : us[i]? with
      | none => exact .inr (List.getElem?_eq_none_iff.mp a2)
      | some w => exact (hno v w a1 a2).elim
end
section
variable {X : Cx} {e e2 : Expr} {ma mb : ME} {p pos tpos : Pos} {elts : List Expr} {kk : Nat}
theorem xi_enum (hg : Gl X "enumerate") (hm : X.mg "enumerate" = none) (ha : XE X e ma) (hs : starEach [e] X.env = [(false, eval e X.env)] := by rfl) : XI X (.Tuple elts kk tpos) (.Call (.Name "enumerate" p) [e] [] pos) (iEnumX ma) :=
  PIi (PIor (pi_enumT hg hm (pa_cons ha pa_nil hs) hs) (pi_enum hg hm (pa_cons ha pa_nil hs) hs)) fun σ H R q => by
    obtain ⟨r, S, e, s, S', ok, hm, k⟩ := q
    unfold iEnumX at hm
    split at hm
    · rename_i ws S1 e1
      cases hm
      refine .inl ⟨r, S, e, _, S', ok, e1, fun r1 H1 u x1 ok1 hu => ?_⟩
      obtain ⟨a, vs, rfl, h2, h3⟩ := vr_tup.mp hu
      exact ⟨a, vs, rfl, h2, k r1 H1 _ x1 ok1 (itok_enumT h2 h3)⟩
    · rename_i a S1 e1
      split at hm
      · rename_i ws hi
        cases hm
        refine .inr ⟨r, S, e, _, S', ok, e1, fun r1 H1 u x1 ok1 hu => ?_⟩
        obtain ⟨hl, rfl⟩ := vr_ref.mp hu
        obtain ⟨vs, h2, h3⟩ := ok1.rep.lst hi
        exact ⟨_, vs, rfl, SqL.of h2, k r1 H1 _ x1 ok1 (itok_enumL hl)⟩
      · cases hm
    · cases hm
end
end Gm

set_option Elab.async false
set_option linter.all false
set_option maxRecDepth 100000
set_option maxHeartbeats 400000
/-! Gm19: zip of a text with a list; zip as a rule. -/
namespace Gm
open PySem PySem.Spec PyProof.Rows L2
/-- the text z and the list at b -/
def ItzS (z : Str) (b : Addr) : It :=
  ⟨fun i H => ∃ (c : Nat) (ys : List V) (y : V), z.cps[i]? = some c ∧ H b = some (.lst ys) ∧ ys[i]? = some y,
    fun i H v H' => ∃ (T : Addr) (c : Nat) (ys : List V) (y : V), v = .ref T ∧ H T = none ∧ H' = upd H T (.tup [.str ⟨#[c]⟩, y]) ∧ z.cps[i]? = some c ∧ H b = some (.lst ys) ∧ ys[i]? = some y,
    fun i H => ∃ ys : List V, H b = some (.lst ys) ∧ i ≤ z.cps.size ∧ i ≤ ys.length ∧ (i = z.cps.size ∨ i = ys.length)⟩
theorem turn_zipS {P : Program} {w : World} {K : PySem.W.Frag} {elts : List Expr} {kk : Nat} {tpos : Pos} {x : Str} {t : Tok} {b z TI TO i1 i2 : Addr} (D : ZipSep2 z TI TO i1 i2 [i1] [i2, b]) (hb2 : b ≠ i2) :
    Turn P w K (.Tuple elts kk tpos) (ItzS x b) [z, TI, TO, i1, i2] z (fun i h => IsZip h z TI TO .none ∧ IsTupOf2 h TI (.ref i1) (.ref i2) ∧ (∃ a1 a2, IsTupOf2 h TO a1 a2) ∧ h.IsStrIter i1 (strIterType x) x t i ∧ h.IsListIter i2 b i) where
  mem := by simp
  obj := fun i h st c hc => by
    obtain ⟨hz, hTI, ⟨a1, a2, hTO⟩, ⟨o1, e1, _, d1⟩, ⟨o2, e2, _, d2⟩⟩ := st
    have e' : c = z ∨ c = TI ∨ c = TO ∨ c = i1 ∨ c = i2 := by simpa using hc
    rcases e' with q | q | q | q | q
    · rw [q]; exact ⟨_, hz, fun v q => nomatch q⟩
    · rw [q]; exact ⟨_, hTI, fun v q => nomatch q⟩
    · rw [q]; exact ⟨_, hTO, fun v q => nomatch q⟩
    · rw [q]; exact ⟨o1, e1, fun v q => by rw [d1] at q; cases q⟩
    · rw [q]; exact ⟨o2, e2, fun v q => by rw [d2] at q; cases q⟩
  keep := fun i h h' st k => by
    obtain ⟨hz, hTI, ⟨a1, a2, hTO⟩, ⟨o1, e1, r1⟩, h2⟩ := st
    exact ⟨k z (by simp) _ hz, k TI (by simp) _ hTI, ⟨a1, a2, k TO (by simp) _ hTO⟩, ⟨o1, k i1 (by simp) o1 e1, r1⟩, h2.at fun o q => k i2 (by simp) o q⟩
  item := by
    intro X hP hw hK hc i pins s σ H E I hf st hg
    subst hP hw hK
    obtain ⟨hz, hTI, ⟨x0, y0, hTO⟩, h1, h2⟩ := st
    obtain ⟨c, ys, y, hx, hqy, hy⟩ := hg
    obtain ⟨its2, rv2, p2, _⟩ := I.list (SqL.of hqy)
    obtain ⟨u2, hu2, ru2⟩ := rv2.get hy
    have hzl : z < s.heap.objs.size := Heap.lt_size hz
    have hh : X.A.in1.handled = none := I.ok.hd hc
    have hlt2 : i < its2.toArray.size := by
      have := (List.getElem?_eq_some_iff.mp hu2).1
      simpa using this
    refine wpAny_pyNext_zipD2_item D (Draws.text hh i1 x t) (Draws.list hh i2 b hb2 its2.toArray) hz hTI hTO h1 ⟨h2, p2.isList⟩ (Array.getElem?_eq_some_iff.mp hx).1 hlt2 fun v1 v2 h' tk q1 q2 z' TO' h1' h2' hT hsz hk => ?_
    obtain ⟨c', u, hc', rfl⟩ := q1
    rw [hx] at hc'
    cases hc'
    have hv2 : v2 = u2 := by
      have h1 : its2.toArray[i]? = some u2 := by simpa using hu2
      have q2 : its2.toArray[i]? = some v2 := q2
      rw [h1] at q2
      exact (Option.some.inj q2).symm
    subst hv2
    refine ⟨_, rfl, wpAny_letOwnedTupleGo_zip (s := { s with heap := h', toks := tk }) z' fun h'' z'' sb => ?_⟩
    have hT2 : h''.get? s.heap.objs.size = some { cls := .type "tuple", data := .seq #[.str ⟨#[c]⟩ u, v2] } := (sb.2 _ (Nat.ne_of_gt hzl)).trans hT
    have new : ObjOk X.prog X.w (upd H s.heap.objs.size (.tup [.str ⟨#[c]⟩, y])) h'' s.heap.objs.size (.tup [.str ⟨#[c]⟩, y]) :=
      ⟨by show 2 ≤ sizeLine; decide, [.str ⟨#[c]⟩ u, v2], .cons ⟨_, rfl⟩ (.cons ru2 .nil), ⟨_, hT2, rfl, _, rfl⟩⟩
    have I1 : Inv X pins σ (upd H s.heap.objs.size (.tup [.str ⟨#[c]⟩, y])) { s with heap := h'', toks := tk } :=
      I.turnedNew (t' := tk) (ch := [z, TI, TO, i1, i2]) (fun c o hb q => (sb.2 c (fun q' => hb (by simp [q']))).trans (hk c o (fun q' => hb (by simp [q'])) (fun q' => hb (by simp [q'])) (fun q' => hb (by simp [q'])) (fun q' => hb (by simp [q'])) q)) hf (Nat.le_refl _) new
    have i1z : i1 ≠ z := Ne.symm D.zi1
    have i2z : i2 ≠ z := Ne.symm D.zi2
    refine ⟨.ref s.heap.objs.size, _, I1, rfl, ⟨_, c, ys, y, rfl, I.hok.fresh (Nat.le_refl _), rfl, hx, hqy, hy⟩, ⟨z'', ?_, ⟨.str ⟨#[c]⟩ u, v2, ?_⟩, ?_, ?_⟩, fun c hcm => ?_⟩
    · exact (sb.2 _ D.TIz).trans (hk _ _ D.TIz D.TITO D.TIi1 D.TIi2 hTI)
    · exact (sb.2 _ D.TOz).trans TO'
    · obtain ⟨o1, e1, r1⟩ := h1'
      exact ⟨o1, (sb.2 _ i1z).trans e1, r1⟩
    · exact h2'.1.at fun o q => (sb.2 _ i2z).trans q
    · have hlt : c < s.heap.objs.size := by
        have e' : c = z ∨ c = TI ∨ c = TO ∨ c = i1 ∨ c = i2 := by simpa using hcm
        rcases e' with q | q | q | q | q
        · rw [q]; exact hzl
        · rw [q]; exact Heap.lt_size hTI
        · rw [q]; exact Heap.lt_size hTO
        · rw [q]; obtain ⟨_, e1, _⟩ := h1; exact Heap.lt_size e1
        · rw [q]; obtain ⟨_, e2, _⟩ := h2; exact Heap.lt_size e2
      rw [upd_ne (Nat.ne_of_lt hlt)]
      exact (hf c hcm).1
  done := by
    intro X hP hw hK hc i pins s σ H E I hf st hg
    subst hP hw hK
    obtain ⟨hz, hTI, ⟨x0, y0, hTO⟩, h1, h2⟩ := st
    obtain ⟨ys, hqy, hl1, hl2, hend⟩ := hg
    obtain ⟨its2, rv2, p2, _⟩ := I.list (SqL.of hqy)
    have l2 := rv2.length
    have hh : X.A.in1.handled = none := I.ok.hd hc
    have l3 : its2.toArray.size = ys.length := by simp; omega
    exact wpAny_pyNext_zipD2_end D (Draws.text hh i1 x t) (Draws.list hh i2 b hb2 its2.toArray) hz hTI hTO h1 ⟨h2, p2.isList⟩ hl1 (by omega) (by rw [l3]; exact hend) fun h' tk hk => ⟨rfl, I.turnedL (t' := tk) (ch := [z, TI, TO, i1, i2]) (fun c o hb q =>
      hk c o (fun q' => hb (by simp [q'])) (fun q' => hb (by simp [q'])) (fun q' => hb (by simp [q'])) (fun q' => hb (by simp [q'])) q) hf⟩
  self := fun A i s Q E st h => wpAny_pyIter_zip st.1 h
end Gm

set_option Elab.async false
set_option linter.all false
set_option maxRecDepth 100000
set_option maxHeartbeats 400000
/-! Gm19: zip of a text with a list; zip as a rule. -/
namespace Gm
open PySem PySem.Spec PyProof.Rows L2
def iZipS (ta : TA) : TI := fun σ H R => ta σ H fun vs H1 => ∃ x b ys, vs = [.str x, .ref b] ∧ H1 b = some (.lst ys) ∧ R (ItzS x b) H1
theorem pi_zipS {X : Cx} {e e2 : Expr} {ta : TA} {p pos tpos : Pos} {elts : List Expr} {kk : Nat} (hg : Gl X "zip") (hm : X.mg "zip" = none) (ha : PA X [e, e2] ta)
    (hs : starEach [e, e2] X.env = (false, eval e X.env) :: starEach [e2] X.env := by rfl) (hpl : (backTo pos (starEach [e2] X.env)).any (·.1) = false := by rfl) :
    PI X (.Tuple elts kk tpos) (.Call (.Name "zip" p) [e, e2] [] pos) (iZipS ta) := by
  refine ⟨fun pins s σ H R I h => ?_⟩
  refine Call_ (ld_blt I hg hm PyProof.Rows.boot_zip (PyProof.Rows.callWith_type1 (thn (ha.run pos pins s σ H _ I h) fun us s1 ⟨vs, H1, I1, r1, q1⟩ => ?_) hs hpl))
  obtain ⟨x, b, ys, ex, hqy, q⟩ := q1
  subst ex
  cases r1 with
  | cons r rr =>
    cases rr with
    | cons r' rr =>
      cases rr
      obtain ⟨t, rfl⟩ := r
      cases r'
      obtain ⟨its2, rv2, p2, _⟩ := I1.list (SqL.of hqy)
      have lb : b < s1.heap.objs.size := p2.lt
      refine zip_begins2 (begins_text x t) (begins_list b its2.toArray) trivial p2.isList fun h' hz hTI hTO h1 h2 hsz hk => wpAny_pyIter_zip hz ?_
      have I2 : Inv X pins σ H1 { s1 with heap := h' } := I1.kept (t' := s1.toks) hk
      refine ⟨s1.heap.objs.size + 4, [s1.heap.objs.size + 4, s1.heap.objs.size + 2, s1.heap.objs.size + 3, s1.heap.objs.size, s1.heap.objs.size + 1], _, _, H1, rfl, I2,
        turn_zipS (t := t) (zip_sep2 (fp1 := []) (fp2 := [b]) (fun c hc => nomatch hc) (fun c hc => by rw [List.mem_singleton.mp hc]; exact lb)) (Nat.ne_of_lt (Nat.lt_succ_of_lt lb)), ⟨hz, hTI, ⟨_, _, hTO⟩, ⟨_, h1, rfl, rfl⟩, ⟨_, h2, rfl, rfl⟩⟩, fun c hcm => ?_, q⟩
      have e' : c = s1.heap.objs.size + 4 ∨ c = s1.heap.objs.size + 2 ∨ c = s1.heap.objs.size + 3 ∨ c = s1.heap.objs.size ∨ c = s1.heap.objs.size + 1 := by simpa using hcm
      have hle : s1.heap.objs.size ≤ c := by
        rcases e' with z | z | z | z | z
        · rw [z]; exact Nat.le_add_right _ _
        · rw [z]; exact Nat.le_add_right _ _
        · rw [z]; exact Nat.le_add_right _ _
        · rw [z]; exact Nat.le_refl _
        · rw [z]; exact Nat.le_add_right _ _
      exact I1.fpOk hle (I1.hok.fresh hle)
end Gm

set_option Elab.async false
set_option linter.all false
set_option maxRecDepth 100000
set_option maxHeartbeats 400000
/-! Gm19: zip of a text with a list; zip as a rule. -/
namespace Gm
open PySem PySem.Spec PyProof.Rows L2
theorem itok_zipS {K : PySem.W.Frag} {mg : Str → Option Value} {r0 : Nat → Addr} {n0 : Nat} {H0 : Hp} {z : Str} {k : Nat} (hk : k < n0) : ItOk K mg r0 n0 H0 (sZipSL z k) (ItzS z (r0 k)) := by
  intro r S H i x R
  have hr2 := x.ag k hk
  have zl : z.cps.toList.length = z.cps.size := by simp
  unfold sZipSL
  split
  · rename_i ws hi
    obtain ⟨vs2, h3, h4⟩ := R.lst hi
    rw [hr2] at h3
    have hl := h4.length
    split
    · rename_i hb
      split
      · rename_i c w g1 g2
        refine ⟨fun e => (by cases e), fun w e => ?_⟩
        cases e
        obtain ⟨v2, q3, q4⟩ := h4.get g2
        have gc : z.cps[i]? = some c := by rw [← g1]; simp
        refine ⟨⟨c, vs2, v2, gc, h3, q3⟩, fun y H' hy => ?_⟩
        obtain ⟨T, c2, ys, y2, rfl, hT, rfl, p1, p2, p3⟩ := hy
        rw [gc] at p1
        rw [h3] at p2
        cases p1
        cases p2
        rw [q3] at p3
        cases p3
        obtain ⟨R2, x2⟩ := R.junk (ho := .tup [.str ⟨#[c]⟩, v2]) hT
        exact ⟨R2, x2, vr_tup.mpr ⟨T, _, rfl, upd_same, VRs.pair (vr_str.mpr rfl) (VR.mono x2 _ _ q4)⟩⟩
      · rename_i hno
        refine ⟨fun _ => ⟨vs2, h3, by omega, by omega, ?_⟩, fun w e => (by cases e)⟩
        cases a1 : z.cps.toList[i]? with
        | none => exact .inl (by have := List.getElem?_eq_none_iff.mp a1; omega)
        | some v =>
          cases a2 : ws[i]? with
          | none => exact .inr (by have := List.getElem?_eq_none_iff.mp a2; omega)
          | some w => exact (hno v w a1 a2).elim
    · exact ⟨fun e => (by cases e), fun w e => (by cases e)⟩
  · exact ⟨fun e => (by cases e), fun w e => (by cases e)⟩
end Gm

set_option Elab.async false
set_option linter.all false
set_option maxRecDepth 100000
set_option maxHeartbeats 400000
/-! Gm19: zip of a text with a list; zip as a rule. -/
namespace Gm
open PySem PySem.Spec PyProof.Rows L2
section
variable {X : Cx} {e e2 : Expr} {ma mb : ME} {p pos tpos : Pos} {elts : List Expr} {kk : Nat}
theorem xi_zip (hg : Gl X "zip") (hm : X.mg "zip" = none) (ha : XE X e ma) (hb : XE X e2 mb) (hs : starEach [e, e2] X.env = (false, eval e X.env) :: starEach [e2] X.env := by rfl) (hs2 : starEach [e2] X.env = (false, eval e2 X.env) :: starEach [] X.env := by rfl)
    (hpl : (backTo pos (starEach [e2] X.env)).any (·.1) = false := by rfl) : XI X (.Tuple elts kk tpos) (.Call (.Name "zip" p) [e, e2] [] pos) (iZipX ma mb) :=
  PIi (PIor (pi_zipS hg hm (pa_cons ha (pa_cons hb pa_nil hs2) hs) hs hpl) (RZ.pi_zipA hg hm (pa_cons ha (pa_cons hb pa_nil hs2) hs) hs hpl)) fun σ H R q => by
    obtain ⟨r, S, e, s, S', ok, hm, k⟩ := q
    unfold iZipX at hm
    split at hm
    · rename_i v1 S1 e1
      split at hm
      · rename_i v2 S2 e2
        split at hm
        · rename_i z a
          split at hm
          · rename_i ws hi
            cases hm
            refine .inl ⟨r, S, e, _, S1, ok, e1, fun r1 H1 u x1 ok1 hu => ⟨r1, S1, e, _, S', ok1, e2, fun r2 H2 u2 x2 ok2 hu2 => ?_⟩⟩
            obtain ⟨hl, rfl⟩ := vr_ref.mp hu2
            obtain ⟨vs, h2, h3⟩ := ok2.rep.lst hi
            exact ⟨z, _, vs, by rw [vr_str.mp hu], h2, k r2 H2 _ (x1.trans x2) ok2 (itok_zipS hl)⟩
          · cases hm
        · rename_i xs ys
          cases hm
          refine .inr ⟨r, S, e, _, S1, ok, e1, fun r1 H1 u x1 ok1 hu => ⟨r1, S1, e, _, S', ok1, e2, fun r2 H2 u2 x2 ok2 hu2 => ?_⟩⟩
          obtain ⟨a, vs, rfl, h1, h2⟩ := vr_tup.mp hu
          obtain ⟨b, vs2, rfl, h3, h4⟩ := vr_tup.mp hu2
          have h1' := x2.kp.tups _ _ h1
          exact ⟨a, b, vs, vs2, rfl, .inr ⟨SqT.of h1', SqT.of h3, k r2 H2 _ (x1.trans x2) ok2 (itok_zipT h1' (VRs.mono x2 _ _ h2) h3 h4)⟩⟩
        · rename_i a b
          split at hm
          · rename_i ws us hi hi2
            cases hm
            refine .inr ⟨r, S, e, _, S1, ok, e1, fun r1 H1 u x1 ok1 hu => ⟨r1, S1, e, _, S', ok1, e2, fun r2 H2 u2 x2 ok2 hu2 => ?_⟩⟩
            obtain ⟨hl, rfl⟩ := vr_ref.mp hu
            obtain ⟨hl2, rfl⟩ := vr_ref.mp hu2
            obtain ⟨vs, h2, h3⟩ := ok2.rep.lst hi
            obtain ⟨vs2, h4, h5⟩ := ok2.rep.lst hi2
            have er : r2 a = r1 a := x2.ag a hl
            refine ⟨_, _, vs, vs2, rfl, .inl ⟨SqL.of (by rw [← er]; exact h2), SqL.of h4, ?_⟩⟩
            rw [← er]
            exact k r2 H2 _ (x1.trans x2) ok2 (itok_zipL (Nat.lt_of_lt_of_le hl x2.le) hl2)
          · cases hm
        · cases hm
      · cases hm
    · cases hm
end
end Gm

set_option Elab.async false
set_option linter.all false
set_option maxRecDepth 100000
set_option maxHeartbeats 400000
/-! Gm20: xs[:k] = ys; a list against one of another length; a tuple's times, none or one. -/
namespace Gm
open PySem PySem.Spec PyProof.Rows L2
theorem bounds_to {c n : Nat} (hc : c ≤ n) : sliceBounds none (some (c : Int)) none n = (0, (c : Int), 1) := by
  simp only [sliceBounds, Option.getD_none]
  have h2 : ¬ ((c : Int) < 0) := by omega
  simp only [h2, if_false, show (1 : Int) > 0 by decide, if_true]
  congr 1
  congr 1
  omega
section
variable {prog : Program} {w : World} {A : Around} {E : Value → Shared → Prop} {s : Shared}
/-- list.__setitem__ with a slice up to c and another list -/
theorem setItem_to {l b sl : Addr} {items new : Array Value} {n n2 : Nat} {vu : Value} {c : Nat} {Q : Unit → Shared → Prop}
    (e : s.heap.get? l = some { cls := .type "list", data := .seq items n }) (e2 : s.heap.get? b = some { cls := .type "list", data := .seq new n2 }) (hne : l ≠ b)
    (hs : s.heap.IsSliceOf sl .none vu .none) (pu : IsPart vu (some (c : Int))) (hc : c ≤ items.size)
    (hsz : items.size + new.size ≤ sizeLine) (h : Q () { s with heap := s.heap.update l (Obj.mapSeq fun xs => xs.extract 0 0 ++ new ++ xs.extract c xs.size) }) :
    wpAny (model prog w) A (setItem (.ref l) (.ref sl) (.ref b)) Q E s := by
  have hl : s.heap.IsList l items := PySem.IsL.isList e
  have hb : s.heap.IsList b new := PySem.IsL.isList e2
  obtain ⟨os, hos, hcs, hds⟩ := id hs
  have hTs : s.TypeIs (.ref sl) "slice" := ⟨os, hos, hcs⟩
  have hstep : ¬ ((rawPart none == rawInt 0) = true) := Bool.false_ne_true
  have hsame : Builtin.List.listSameRef (.ref l) (.ref b) = false := by
    unfold Builtin.List.listSameRef
    exact beq_eq_false_iff_ne.mpr hne
  have hmax : (max (0 : Int) (c : Int)).toNat = c := by omega
  have hz' : ((fun xs : Array Value => xs.extract 0 0 ++ new ++ xs.extract c xs.size) items).size ≤ sizeLine + 1 := by
    simp only [Array.size_append, Array.size_extract]
    omega
  unfold setItem
  try with_reducible refine wpAny_holding ?_
  first | refine wpAny_bind (wpAny_pure ?_) | skip
  refine wpAny_bind (wpAny_sequenceKey hl.typeIs (by decide) ?_)
  refine wpAny_bind (wpAny_callSpecial?_slot (name := Str.ofString "__setitem__") hl.typeIs slot_list_setitem
    (wpAny_call_entry slot_list_setitem hl.typeIs entry_list_setitem ?_ (args_list_setitem _ _ _)))
  show wpAny _ _ (Builtin.List.listSubscript? (.ref sl) >>= _) _ _ s
  refine wpAny_bind ?_
  unfold Builtin.List.listSubscript?
  refine wpAny_bind (wpAny_specialOf hTs slice_no_index ?_)
  simp only [Option.isNone_none, if_true]
  refine wpAny_pure ?_
  show wpAny _ _ (typeOf (.ref sl) >>= _) _ _ s
  refine wpAny_bind (wpAny_typeOf hTs ?_)
  first
    | rw [if_neg (by decide)]
    | refine PySem.W.KFB.if_not (by decide) ?_
  rw [listSliceParts_eq]
  refine wpAny_bind (wpAny_bind (wpAny_field hos hds (x := .none) rfl (wpAny_bind (wpAny_listPart .none ?_))))
  rw [if_neg hstep]
  refine wpAny_bind (wpAny_field hos hds (x := .none) rfl (wpAny_bind (wpAny_listPart .none ?_)))
  refine wpAny_bind (wpAny_field hos hds (x := vu) rfl (wpAny_bind (wpAny_listPart pu (wpAny_pure ?_))))
  first
    | simp only [hsame, Bool.false_eq_true, if_false]
    | refine PySem.W.KFB.if_not hsame ?_
    | (dsimp only
       rw [if_neg (by rw [hsame]; exact Bool.false_ne_true)])
  refine wpAny_bind (m := Builtin.List.listAllItems (.ref b) "must assign iterable to extended slice") ?_
  unfold Builtin.List.listAllItems
  refine wpAny_bind (wpAny_typeOf hb.typeIs ?_)
  first
    | refine PySem.W.KFB.if_so (by decide) ?_
    | rw [if_pos (by decide)]
    | simp only [beq_self_eq_true, Bool.true_or, if_true]
  unfold Builtin.List.listItems
  refine wpAny_bind (wpAny_seqItems e2 rfl (wpAny_pure ?_))
  refine wpAny_bind (wpAny_bind (wpAny_seqItems e rfl (wpAny_pure ?_)))
  refine wpAny_bind (wpAny_of_eq ((sliceIndices_raw none (some (c : Int)) none items.size (by simp)).trans (congrArg (pure : Int × Int × Int → Sem (Int × Int × Int)) (bounds_to hc))) ?_)
  show wpAny _ _ (if ((1 : Int) == 1) = true then _ else _) _ _ s
  rw [if_pos (by decide)]
  refine wpAny_bind (wpAny_rule ?_)
  first
    | simp only [notLongL hsz, Bool.false_eq_true, if_false]
    | refine PySem.W.KFB.if_not (notLongL hsz) ?_
  first | refine wpAny_bind (wpAny_pure ?_) | skip
  show wpAny _ _ (updateSeq l (fun xs => xs.extract 0 ((0 : Int)).toNat ++ new ++ xs.extract (max (0 : Int) (c : Int)).toNat xs.size) >>= _) _ _ s
  rw [hmax]
  refine wpAny_bind (wpAny_updateSeq (hz := Nat.le_trans (Nat.le_add_right _ _) hsz) (_hz' := hz') e rfl ?_)
  refine wpAny_bind (wpAny_letGo ?_)
  first
    | exact wpAny_bind (wpAny_pure (wpAny_pure ⟨.none, rfl, wpAny_pure h⟩))
    | exact wpAny_pure ⟨.none, rfl, wpAny_pure h⟩
end
section
variable {X : Cx}
theorem set_to {pins : List (Addr × Obj)} {s : Shared} {σ : L2.St} {H : Hp} {l b sl : Addr} {xs ys : List V} {c : Int} {vu : Value} {Q : Unit → Shared → Prop} (I : Inv X pins σ H s)
    (hH : H l = some (.lst xs)) (hB : H b = some (.lst ys)) (hne : l ≠ b) (hs : s.heap.IsSliceOf sl .none vu .none) (rc : IsPart vu (some c)) (h0 : 0 ≤ c) (hc : c ≤ xs.length)
    (hz : xs.length + ys.length ≤ sizeLine) (h : ∀ s', Inv X pins σ (upd H l (.lst (ys ++ xs.drop c.toNat))) s' → Q () s') :
    wpAny (model X.prog X.w) X.A (setItem (.ref l) (.ref sl) (.ref b)) Q X.xe s := by
  obtain ⟨z, its, n, r, hl, e⟩ := I.lstM hH
  obtain ⟨z2, its2, n2, r2, hl2, e2⟩ := I.lstM hB
  obtain ⟨c', rfl⟩ := Int.eq_ofNat_of_zero_le h0
  simp only [Int.toNat_natCast] at h
  refine setItem_to (c := c') e e2 hne hs rc (by rw [List.size_toArray]; omega) (by rw [List.size_toArray, List.size_toArray]; omega) (h _ ?_)
  refine I.lset (its' := its2 ++ its.drop c') (t' := s.toks) hH e ?_ (Vals.append r2 (r.drop _)) ?_
  · have := splice_eq its its2 0 c'
    simpa using this
  · rw [List.length_append, List.length_drop]
    omega
/-- xs[:k] = .. -/
def gTo (to : TE) (th : TO) : TG := fun v σ H Q => to σ H fun o H1 => th σ H1 fun k H2 => ∃ l b xs ys c, o = .ref l ∧ v = .ref b ∧ k = some c ∧ H2 l = some (.lst xs) ∧ H2 b = some (.lst ys) ∧ l ≠ b ∧ 0 ≤ c ∧ c ≤ xs.length ∧ xs.length + ys.length ≤ sizeLine ∧
  Q σ (upd H2 l (.lst (ys ++ xs.drop c.toNat)))
theorem pg_to {o hi : Expr} {to : TE} {th : TO} {pos p2 : Pos} (ho : PE X o to) (hh : PO X (some hi) th)
    (ha : ∀ v, assign (.Subscript o (.Slice none (some hi) none p2) pos) X.env v = (do
      let ov ← holding [v] (eval o X.env)
      let iv ← holding [v, ov] (eval (.Slice none (some hi) none p2) X.env)
      standAt pos
      holding [v, ov, iv] (setItem ov iv v)
      release [iv, v, ov] []) := by intro _; rfl) : PG X (.Subscript o (.Slice none (some hi) none p2) pos) (gTo to th) := by
  refine ⟨fun pins s σ H v u Q I r h => ?_⟩
  rw [ha]
  refine wpAny_bind (wpAny_holding (thn (ho.run pins s σ H _ I h) fun ov s1 ⟨x, H1, I1, r1, q1⟩ => ?_))
  refine wpAny_bind (wpAny_holding (wpAny_Slice ?_))
  rw [evalPart_none]
  refine wpAny_pure ?_
  refine thn (hh.run pins s1 σ H1 _ I1 q1) fun vu s3 ⟨k, H3, I3, pu, q3⟩ => ?_
  refine wpAny_pure ?_
  obtain ⟨l, b, xs, ys, c, rfl, rfl, rfl, g1, g2, g3, g4, g5, g6, q⟩ := q3
  obtain rfl : ov = Value.ref l := r1
  obtain rfl : u = Value.ref b := r
  have I4 : Inv X pins σ H3 { s3 with heap := s3.heap.push { cls := .type "slice", data := .fields #[.none, vu, .none] } } := I3.kept (t' := s3.toks) fun b ob q => Heap.get?_push_of_some _ q
  refine wpAny_bind (wpAny_standAt (wpAny_bind (wpAny_holding (set_to I4 g1 g2 g3 (Heap.IsSliceOf.new ..) pu g4 g5 g6 fun s5 I5 => ?_))))
  exact wpAny_release ⟨σ, _, I5, q⟩
end
section
variable {X : Cx} {a b o hi value : Expr} {ma mb mv mo mk : ME} {pos p2 pos' : Pos}
theorem VRs.drop {K : PySem.W.Frag} {mg : Str → Option Value} {r : Nat → Addr} {n : Nat} {H : Hp} : ∀ (m : Nat) {ws : List W} {vs : List V}, VRs K mg r n H ws vs → VRs K mg r n H (ws.drop m) (vs.drop m)
  | 0, ws, vs, h => h
  | m + 1, [], vs, h => by
    unfold VRs at h
    subst h
    exact VRs.nil
  | m + 1, w :: ws, vs, h => by
    unfold VRs at h
    obtain ⟨v, us, rfl, _, h⟩ := h
    exact VRs.drop m h
theorem xs_setSl (hv : XE X value mv) (ho : XE X o mo) (hk : XE X hi mk)
    (ha : ∀ v, assign (.Subscript o (.Slice none (some hi) none p2) pos') X.env v = (do
      let ov ← holding [v] (eval o X.env)
      let iv ← holding [v, ov] (eval (.Slice none (some hi) none p2) X.env)
      standAt pos'
      holding [v, ov, iv] (setItem ov iv v)
      release [iv, v, ov] []) := by intro _; rfl)
    (hs : swapsWithSole [.Subscript o (.Slice none (some hi) none p2) pos'] value pos.line X.env = pure false := by rfl) (hw : swappedStores [.Subscript o (.Slice none (some hi) none p2) pos'] value X.env = pure none := by rfl)
    (h1 : (assignEach [.Subscript o (.Slice none (some hi) none p2) pos'] X.env).map (·.2) = [assign (.Subscript o (.Slice none (some hi) none p2) pos') X.env] := by rfl) : XS X (.Assign [.Subscript o (.Slice none (some hi) none p2) pos'] value pos) (sSetSl mv mo mk) :=
  PSi (ps_asg hv (pg_to ho (po_some hk) ha) hs hw h1) fun D σ H q => by
    obtain ⟨r, S, e, fl, S', ok, hm, k⟩ := q
    unfold sSetSl at hm
    split at hm
    · rename_i j S1 e1
      split at hm
      · rename_i i S2 e2
        split at hm
        · rename_i n S3 e3
          split at hm
          · rename_i ws us hi1 hi2
            split at hm
            · rename_i hc
              cases hm
              refine ⟨r, S, e, _, S1, ok, e1, fun r1 H1 u x1 ok1 hu => ⟨r1, S1, e, _, S2, ok1, e2, fun r2 H2 u2 x2 ok2 hu2 => ⟨r2, S2, e, _, S3, ok2, e3, fun r3 H3 u3 x3 ok3 hu3 => ?_⟩⟩⟩
              obtain ⟨hl1, rfl⟩ := vr_ref.mp hu
              obtain ⟨hl2, rfl⟩ := vr_ref.mp hu2
              obtain ⟨vs, h1, h2⟩ := ok3.rep.lst hi1
              obtain ⟨vs2, h3, h4⟩ := ok3.rep.lst hi2
              have er : r3 i = r2 i := x3.ag i hl2
              have hl13 : j < S3.length := Nat.lt_of_lt_of_le hl1 (Nat.le_trans x2.le x3.le)
              have er1 : r3 j = r1 j := (x3.ag j (Nat.lt_of_lt_of_le hl1 x2.le)).trans (x2.ag j hl1)
              have hl23 : i < S3.length := Nat.lt_of_lt_of_le hl2 x3.le
              refine ⟨n, vr_int.mp hu3, r2 i, r1 j, vs, vs2, n, rfl, rfl, rfl, by rw [← er]; exact h1, by rw [← er1]; exact h3, fun z => hc.1 (ok3.rep.inj i j hl23 hl13 (by rw [er, er1]; exact z)), hc.2.1, by rw [← h2.length]; exact hc.2.2.1, by rw [← h2.length, ← h4.length]; exact lineK hc.2.2.2, ?_⟩
              have hd := VRs.drop n.toNat h2
              obtain ⟨R4, x4⟩ := ok3.rep.set (o' := .lst (us ++ ws.drop n.toNat)) (ho' := .lst (vs2 ++ vs.drop n.toNat)) hi1 ⟨_, rfl, VRs.append h4 hd⟩
              rw [← er]
              exact k r3 _ _ (x1.trans (x2.trans (x3.trans x4))) (ok3.mono x4 R4)
            · cases hm
          · cases hm
        · cases hm
      · cases hm
    · cases hm
end
end Gm

set_option Elab.async false
set_option linter.all false
set_option maxRecDepth 100000
set_option maxHeartbeats 400000
/-! Gm21: a, *b = t; written tables; calls of a name that holds a def; lists of other lengths. -/
namespace Gm
open PySem PySem.Spec PyProof.Rows L2
section
variable {prog : Program} {w : World} {A : Around} {E : Value → Shared → Prop} {s : Shared}
theorem unpack_star {l : Addr} {items : Array Value} {Q : List Value → Shared → Prop} (hl : IsTup s.heap l items) (hh : A.handled = none) (h1 : 1 ≤ items.size) (hz : items.size ≤ 16384)
    (h : ∀ (h2 : Heap) (tk : Nat), (∀ b o, s.heap.get? b = some o → h2.get? b = some o) → Q (items.toList.take 1 ++ [.ref h2.objs.size]) { s with heap := h2.push (seqObj "list" (items.toList.drop 1).toArray 0), toks := tk }) :
    wpAny (model prog w) A (unpackItems (.ref l) 2 (some 1)) Q E s := by
  have hll : l < s.heap.objs.size := by obtain ⟨o, ho, _⟩ := id hl; exact Heap.lt_size ho
  have hlt : l ≠ s.heap.objs.size := Nat.ne_of_lt hll
  unfold unpackItems
  refine wpAny_bind ?_
  unfold notIterableAtAll
  refine wpAny_bind (wpAny_specialOf hl.typeIs slot_tuple_iter.lookup ?_)
  refine wpAny_pure ?_
  simp only [Bool.false_eq_true, if_false]
  refine wpAny_bind (wpAny_holding (iter_tuple hl ?_))
  refine wpAny_bind (wpAny_holding (draw_tuple hlt 1 0 _ _ ⟨_, Heap.get?_push_size _ rfl, rfl, rfl⟩ (hl.push _) (by omega) fun h₁ hit₁ hs₁ => ?_))
  have hl₁ : IsTup h₁ l items := (hl.push _).extBut hs₁.extBut hlt
  rw [Nat.zero_add] at hit₁
  obtain ⟨oi, hoi, _⟩ := id hit₁
  obtain ⟨ol, hol, _⟩ := id hl₁
  rw [List.drop_zero]
  have hfl : (items.toList.take 1).length = 1 := by rw [List.length_take, Array.length_toList]; omega
  rw [if_neg (show ¬ ((items.toList.take 1).length < 1) by rw [hfl]; omega)]
  refine wpAny_bind (wpAny_holding (PySem.W.kun_collect (s := { s with heap := h₁ }) (T := "tuple_iterator") (.inr (.inr (.inr rfl))) (Walks.tuple (A := A.in1) hh s.heap.objs.size l hlt items) (fun j u st => st.1.typeIs) (k := 1) (by omega) ⟨hit₁, hl₁⟩ (Heap.lt_size hoi) (Heap.lt_size hol) (fun h₂ tk hk => ?_) (by rw [sizeLine_eq]; omega)))
  have hrl : (items.toList.drop 1).length = items.size - 1 := by rw [List.length_drop, Array.length_toList]
  show wpAny _ _ (if (items.toList.drop 1).length < 2 - 1 - 1 then _ else _) _ _ _
  rw [if_neg (by rw [hrl]; omega)]
  show wpAny _ _ (newList ((items.toList.drop 1).take ((items.toList.drop 1).length - (2 - 1 - 1))) >>= fun d => pure (items.toList.take 1 ++ [d] ++ (items.toList.drop 1).drop ((items.toList.drop 1).length - (2 - 1 - 1)))) _ _ _
  have e0 : (items.toList.drop 1).length - (2 - 1 - 1) = (items.toList.drop 1).length := by omega
  rw [e0, List.take_length, List.drop_length]
  simp only [List.append_nil]
  have he : ∀ b o, s.heap.get? b = some o → h₂.get? b = some o := fun b o e => hk b o (Nat.ne_of_lt (Heap.lt_size e)) (hs₁.extBut b o (Nat.ne_of_lt (Heap.lt_size e)) (Heap.get?_push_of_some _ e))
  refine wpAny_bind (wpAny_newList (wpAny_pure (h h₂ tk he)) (by rw [hrl, sizeLine_eq]; omega))
end
def gStar2 (t1 t2 : TG) : TG := fun v σ H Q => ∃ a x xs, v = .ref a ∧ H a = some (.tup (x :: xs)) ∧ xs.length ≤ 10000 ∧ ∀ p, H p = none → t1 x σ (upd H p (.lst xs)) fun σ1 H1 => t2 (.ref p) σ1 H1 Q
section
variable {X : Cx} {e1 e2 : Expr} {t1 t2 : TG} {pos p2 : Pos} {k : Nat}
theorem pg_star (hc : X.calm = true) (h1 : PG X e1 t1) (h2 : PG X e2 t2) (hn : (assignEach [e1, .Starred e2 p2] X.env).length = 2 := by rfl) (hst : (assignEach [e1, .Starred e2 p2] X.env).findIdx? (·.1) = some 1 := by rfl)
    (hm : (assignEach [e1, .Starred e2 p2] X.env).map (·.2) = [assign e1 X.env, assign e2 X.env] := by rfl) : PG X (.Tuple [e1, .Starred e2 p2] k pos) (gStar2 t1 t2) := by
  refine ⟨fun pins s σ H v u Q I r q => ?_⟩
  obtain ⟨a, x, xs, rfl, ha, hl, q⟩ := q
  obtain rfl : u = Value.ref a := r
  obtain ⟨its, rv, ht, hz⟩ := I.tuple (SqT.of ha)
  rw [assign_Tuple]
  refine wpAny_bind (wpAny_standAt ?_)
  unfold unpack
  rw [hn, hst]
  cases rv with
  | @cons _ u1 _ us r1 rr =>
    have hlu := rr.length
    refine wpAny_bind (wpAny_holding (unpack_star ht (I.ok.hd hc) (by simp) (by simp; omega) fun h2' tk hk => ?_))
    rw [hm]
    have I2 : Inv X pins σ H { s with heap := h2', toks := tk } := I.kept hk
    have hp := I2.hok.fresh (Nat.le_refl _)
    have hzx : xs.length ≤ sizeLine := by rw [sizeLine_eq]; omega
    have I3 : Inv X pins σ (upd H h2'.objs.size (.lst xs)) { s with heap := h2'.push (seqObj "list" us.toArray 0), toks := tk } :=
      I2.laid (t' := tk) (o := .lst xs) (fun b ob q => Heap.get?_push_of_some _ q) (Nat.le_refl _) ⟨hzx, us, 0, rr, Heap.get?_push_size _ rfl⟩
    refine assignInOrder_cons (thn (h1.run pins _ σ _ x u1 _ I3 r1 (q _ hp)) fun _ s4 ⟨σ4, H4, I4, q4⟩ => ?_)
    exact assignInOrder_cons (thn (h2.run pins s4 σ4 H4 (.ref h2'.objs.size) (.ref h2'.objs.size) _ I4 rfl q4) fun _ s5 ⟨σ5, H5, I5, q5⟩ => assignInOrder_nil ⟨σ5, H5, I5, q5⟩)
theorem xg_star {g1 g2 : MG} (hc : X.calm = true) (h1 : XG X e1 g1) (h2 : XG X e2 g2) (hn : (assignEach [e1, .Starred e2 p2] X.env).length = 2 := by rfl) (hst : (assignEach [e1, .Starred e2 p2] X.env).findIdx? (·.1) = some 1 := by rfl)
    (hm : (assignEach [e1, .Starred e2 p2] X.env).map (·.2) = [assign e1 X.env, assign e2 X.env] := by rfl) : XG X (.Tuple [e1, .Starred e2 p2] k pos) (gStar g1 g2) := PGi (pg_star hc h1 h2 hn hst hm) fun v σ H Q q => by
  obtain ⟨r, S, e, w, e', S', ok, hv, hm, kk⟩ := q
  unfold gStar at hm
  split at hm
  · rename_i x xs
    split at hm
    · rename_i hl
      split at hm
      · rename_i e3 S1 g3
        obtain ⟨a, vs, rfl, h3, h4⟩ := vr_tup.mp hv
        unfold VRs at h4
        obtain ⟨v1, us, rfl, h5, h6⟩ := h4
        refine ⟨a, v1, us, rfl, h3, by rw [← h6.length]; exact hl, fun p hp => ?_⟩
        obtain ⟨R2, x2⟩ := ok.rep.new (o := .lst xs) (ho := .lst us) hp ⟨us, rfl, h6⟩
        have ok2 := ok.mono x2 R2
        refine ⟨_, _, e, x, e3, S1, ok2, VR.mono x2 _ _ h5, g3, fun r3 H3 σ3 x3 ok3 => ⟨r3, S1, e3, .ref S.length, e', S', ok3, ?_, hm, fun r4 H4 σ4 x4 ok4 => kk r4 H4 σ4 (x2.trans (x3.trans x4)) ok4⟩⟩
        have hlt : S.length < (S ++ [Ob.lst xs]).length := by rw [List.length_append]; exact Nat.lt_succ_self _
        exact vr_ref.mpr ⟨Nat.lt_of_lt_of_le hlt x3.le, by rw [x3.ag _ hlt, ext_eq]⟩
      · cases hm
    · cases hm
  · cases hm
end
/-! ### written tables -/
def HasKd (K : PySem.W.Frag) (w : World) (mg : Str → Option Value) (x : Str) (tbl : List (Str × W)) : Prop := ∃ d es n, mg x = some (.ref d) ∧ KDict K w d es n ∧ ∀ z wv, tbl.lookup z = some wv → ∃ u0 v0, PySem.W.nsIn K d z = some (some u0) ∧ RelV v0 u0 ∧ ∀ r n H, VR K mg r n H wv v0
section
variable {X : Cx} {a b i : Expr} {ma mb : ME} {x : Str} {tbl : List (Str × W)} {pos p : Pos}
theorem xe_inK (hg : Gl X x) (hK : HasKd X.K X.w X.mg x tbl) (ha : XE X a ma) (hd : (x == ("__debug__" : Str)) = false := by decide) (hm : behindInMarks .In (.Name x p) = false := by rfl) : XE X (.Compare a [.In] [.Name x p] pos) (op1 (fInK tbl) ma) := by
  obtain ⟨d, es, n, hx, kd, ht⟩ := hK
  exact PEi (pe_cmpR (op_in_kd kd) ha (pe_glob (v := .ref d) hg hx rfl hd) hm) fun σ H Q q => lf_op1 (r1 := fun u H Q => ∃ (z : Str) (r : Option Value), u = .str z ∧ V.ref d = .ref d ∧ PySem.W.nsIn X.K d z = some r ∧ Q (.bl r.isSome) H) (fun r S H x z u Q R hx e k => by
    unfold fInK at e
    split at e
    · rename_i y
      cases g : tbl.lookup y with
      | none => rw [g] at e; cases e
      | some wv =>
        rw [g] at e
        cases e
        obtain ⟨u0, v0, q1, q2, q3⟩ := ht y wv g
        exact ⟨y, _, vr_str.mp hx, rfl, q1, k H _ Ex.refl R (vr_bl.mpr rfl)⟩
    · cases e) q
theorem lf_notInK {σ : L2.St} {H : Hp} {Q : VK} {w : World} {K : PySem.W.Frag} {mg : Str → Option Value} {d : Addr} (ht : ∀ z wv, tbl.lookup z = some wv → ∃ u0 v0, PySem.W.nsIn K d z = some (some u0) ∧ RelV v0 u0 ∧ ∀ r n H, VR K mg r n H wv v0) (q : LfE K mg (op1 (fNotInK tbl) ma) σ H Q) :
    LfE K mg ma σ H (fun u H => ∃ (z : Str) (r : Option Value), u = .str z ∧ V.ref d = .ref d ∧ PySem.W.nsIn K d z = some r ∧ Q (.bl (!r.isSome)) H) :=
  lf_op1 (r1 := fun u H Q => ∃ (z : Str) (r : Option Value), u = .str z ∧ V.ref d = .ref d ∧ PySem.W.nsIn K d z = some r ∧ Q (.bl (!r.isSome)) H) (fun r S H x z u Q R hx e k => by
    unfold fNotInK at e
    split at e
    · rename_i y
      cases g : tbl.lookup y with
      | none => rw [g] at e; cases e
      | some wv =>
        rw [g] at e
        cases e
        obtain ⟨u0, v0, q1, q2, q3⟩ := ht y wv g
        exact ⟨y, _, vr_str.mp hx, rfl, q1, k H _ Ex.refl R (vr_bl.mpr rfl)⟩
    · cases e) q
theorem xe_notInK (hg : Gl X x) (hK : HasKd X.K X.w X.mg x tbl) (ha : XE X a ma) (hd : (x == ("__debug__" : Str)) = false := by decide) (hm : behindInMarks .NotIn (.Name x p) = false := by rfl) : XE X (.Compare a [.NotIn] [.Name x p] pos) (op1 (fNotInK tbl) ma) := by
  obtain ⟨d, es, n, hx, kd, ht⟩ := hK
  exact PEi (pe_cmpR (op_notIn_kd kd) ha (pe_glob (v := .ref d) hg hx rfl hd) hm) fun σ H Q q => lf_notInK (w := X.w) ht q
theorem xt_notInK (hg : Gl X x) (hK : HasKd X.K X.w X.mg x tbl) (ha : XE X a ma) (hd : (x == ("__debug__" : Str)) = false := by decide) (hm : behindInMarks .NotIn (.Name x p) = false := by rfl) : XT X (.Compare a [.NotIn] [.Name x p] pos) (tVal (op1 (fNotInK tbl) ma)) := by
  obtain ⟨d, es, n, hx, kd, ht⟩ := hK
  exact PTi (pt_cmpR (op_notIn_kd kd) ha (pe_glob (v := .ref d) hg hx rfl hd) hm) fun σ H Q q => lf_notInK (w := X.w) ht (lf_tval q)
theorem xe_getK (hg : Gl X x) (hK : HasKd X.K X.w X.mg x tbl) (hi : XE X i ma) (hd : (x == ("__debug__" : Str)) = false := by decide) (hs : PlainIx i := by exact fun _ _ => rfl) : XE X (.Subscript (.Name x p) i pos) (op1 (fGetK tbl) ma) := by
  obtain ⟨d, es, n, hx, kd, ht⟩ := hK
  exact PEi (pe_ix ix_kdict (pe_glob (v := .ref d) hg hx rfl hd) hi hs) fun σ H Q q => lf_op1 (r1 := fun u H Q => rIxD X.K X.w (.ref d) u H Q) (fun r S H x z u Q R hx e k => by
    unfold fGetK at e
    split at e
    · rename_i y
      obtain ⟨u0, v0, q1, q2, q3⟩ := ht y z e
      exact ⟨d, y, v0, rfl, vr_str.mp hx, ⟨es, n, u0, kd.at_, kd.lit, q1, q2⟩, k H _ Ex.refl R (q3 _ _ _)⟩
    · cases e) q
end
end Gm

set_option Elab.async false
set_option linter.all false
set_option maxRecDepth 100000
set_option maxHeartbeats 400000
/-! Gm22: calls of a name that holds a def; lists of other lengths; a tuple's times. -/
namespace Gm
open PySem PySem.Spec PyProof.Rows L2
section
variable {X : Cx} {a b e : Expr} {es : List Expr} {ma mb : ME} {mr : MA} {x : Str} {pos p : Pos} {i k n : Nat}
theorem xe_callV {fs : List (Str × Fn)} (hF : ∀ y F, fs.lookup y = some F → ∃ f, X.mg y = some (.ref f) ∧ Cl X.prog X.w X.K X.mg X.base k f n F) (hr : Room k X.A) (hN : X.N[i]? = some x) (hv : Vis X.env.scope x) (ha : XA X (e :: es) mr)
    (hdb : (x == ("__debug__" : Str)) = false := by decide) (hcd : (x == ("__classdict__" : Str)) = false := by decide)
    (he : starEach (e :: es) X.env = (false, eval e X.env) :: starEach es X.env := by rfl) (hpl : (backTo pos (starEach es X.env)).any (·.1) = false := by rfl) : XE X (.Call (.Name x p) (e :: es) [] pos) (mCallV i n fs mr) := by
  refine ⟨fun pins s σ H Q I q => ?_⟩
  obtain ⟨r, S, e1, w, S', ok, hm, kk⟩ := q
  unfold mCallV at hm
  split at hm
  · rename_i y hy
    split at hm
    · rename_i F hFy
      obtain ⟨f, hmg, h⟩ := hF y F hFy
      obtain ⟨fd, ps, h1, h2, h3⟩ := h.ex
      obtain ⟨v, hs, hv2⟩ := ok.var i _ hy
      obtain ⟨f', rfl, hf'⟩ := vr_glo.mp hv2
      rw [hmg] at hf'
      cases hf'
      refine (pe_callL (i := i) (f := f) (dvs := []) (E := fun _ _ _ => False) h1 hr hN hv h2 h3 .nil (fun _ _ _ _ _ _ _ z => z.elim) ha hdb hcd he hpl).run pins s σ H Q I ⟨hs, ?_⟩
      exact lf_call ⟨r, S, e1, w, S', ok, by unfold mCallN; exact hm, kk⟩
    · cases hm
  · cases hm
/-! ### lists of other lengths -/
theorem op_eqLen (hu : X.A.units < cLine) : OpR X (compareOp .Eq) (fun x y H Q => ∃ a b xs ys, x = .ref a ∧ y = .ref b ∧ H a = some (.lst xs) ∧ H b = some (.lst ys) ∧ xs.length ≠ ys.length ∧ Q (.bl false) H) := by
  intro pins s σ H x y v u Q I rx ry h
  obtain ⟨a, b, xs, ys, rfl, rfl, ha, hb, hl, q⟩ := h
  cases rx
  cases ry
  obtain ⟨its, r1, p1, _⟩ := I.list (SqL.of ha)
  obtain ⟨its2, r2, p2, _⟩ := I.list (SqL.of hb)
  have l1 := r1.length
  have l2 := r2.length
  exact PySem.SeqAt.eq_list_lengthsAt p1.isList p2.isList (by simp; omega) hu ⟨.bl false, H, I, rfl, q⟩
theorem opl_eqL {K : PySem.W.Frag} {mg : Str → Option Value} {r2 : R2} (h : OpL K mg r2 fEq) : OpL K mg (fun x y H Q => r2 x y H Q ∨ ∃ a b xs ys, x = .ref a ∧ y = .ref b ∧ H a = some (.lst xs) ∧ H b = some (.lst ys) ∧ xs.length ≠ ys.length ∧ Q (.bl false) H) fEqL := by
  intro r S H x y z u v Q R hx hy e k
  unfold fEqL at e
  split at e
  · split at e
    · rename_i xs ys h1 h2
      split at e
      · exact .inl (h r S H _ _ z u v Q R hx hy e k)
      · rename_i hne
        cases e
        obtain ⟨_, rfl⟩ := vr_ref.mp hx
        obtain ⟨_, rfl⟩ := vr_ref.mp hy
        obtain ⟨vs, g1, g2⟩ := R.lst h1
        obtain ⟨vs2, g3, g4⟩ := R.lst h2
        exact .inr ⟨_, _, vs, vs2, rfl, rfl, g1, g3, by rw [← g2.length, ← g4.length]; exact hne, k H _ Ex.refl R (vr_bl.mpr rfl)⟩
    · cases e
  · cases e
theorem xt_eqL (hu : X.A.units + 64 < cLine) (ha : XE X a ma) (hb : XE X b mb) : XT X (.Compare a [.Eq] [b] pos) (tVal (op2 fEqL ma mb)) := xt_cmp (OpR.or (op_eqX hu) (op_eqLen (by omega))) (opl_eqL opl_eq) ha hb (nomark _)
theorem xe_eqL (hu : X.A.units + 64 < cLine) (ha : XE X a ma) (hb : XE X b mb) : XE X (.Compare a [.Eq] [b] pos) (op2 fEqL ma mb) := xe_cmp (OpR.or (op_eqX hu) (op_eqLen (by omega))) (opl_eqL opl_eq) ha hb (nomark _)
/-! ### a tuple's times: none, once, more -/
end
section
/-- tuple.__mul__ by one: the tuple itself -/
theorem tuple_mul1 (l : Addr) (items : Array Value) (n : Nat) (dd : Option Addr) (sl : Array (Option Value)) (u : Tok) :
    Meets (Builtin.«tuple.__mul__» ⟨[.ref l, .int 1 u], []⟩) (fun _ R s => s.heap.get? l = some { cls := .type "tuple", dict := dd, data := .seq items n, slots := sl } ∧ R (.ok (.ret (Value.ref l))) s) :=
  .of_wp fun prog w A R s h => by
    obtain ⟨hp, g, d, tk, os⟩ := s
    obtain ⟨hl, h⟩ := h
    have f1 := AutoSeq1.idx_int
    wp_walk using AutoSeq1.wpAny_loadPart' hl
    exact ⟨_, rfl, h⟩
theorem tuple_mul0 (l : Addr) (items : Array Value) (n : Nat) (dd : Option Addr) (sl : Array (Option Value)) (u : Tok) :
    Meets (Builtin.«tuple.__mul__» ⟨[.ref l, .int 0 u], []⟩) (fun _ R s => s.heap.get? l = some { cls := .type "tuple", dict := dd, data := .seq items n, slots := sl } ∧ items.isEmpty = false ∧ R (.ok (.ret (Value.ref s.heap.objs.size))) { s with heap := s.heap.push { cls := .type "tuple", data := .seq #[] } }) :=
  .of_wp fun prog w A R s h => by
    obtain ⟨hp, g, d, tk, os⟩ := s
    obtain ⟨hl, hne, h⟩ := h
    have f1 := AutoSeq1.idx_int
    have c1 : (items.isEmpty || ((0 : Int) == 1)) = false := by rw [hne]; rfl
    have c2 : (decide ((0 : Int) ≤ 0) || items.isEmpty) = true := rfl
    wp_walk using AutoSeq1.wpAny_loadPart' hl
    repeat (first
      | (refine wpAny_ite_false (decide_eq_false (by rw [c1]; exact Bool.false_ne_true)) ?_; wp_walk using AutoSeq1.wpAny_loadPart' hl))
    exact ⟨_, rfl, h⟩
end
section
variable {X : Cx} {a b : Expr} {ma mb : ME} {pos : Pos}
theorem op_rep1 : OpR X (binaryOp .Mult) (fun x y H Q => ∃ l xs, x = .ref l ∧ y = .int 1 ∧ H l = some (.tup xs) ∧ Q (.ref l) H) := by
  intro pins s σ H x y v u Q I rx ry h
  obtain ⟨l, xs, rfl, rfl, hT, q⟩ := h
  cases rx
  obtain ⟨t, rfl⟩ := ry
  obtain ⟨its, r, ⟨⟨cls, dd, data, sl⟩, ho, hc, n, hd⟩, hs⟩ := I.tuple (SqT.of hT)
  simp only at hc hd
  subst hc hd
  exact wpAny_binaryOp_repeat_ref (T := "tuple") (U := "int") (by decide) ⟨_, ho, rfl⟩ (fun s' => typeIs_int s' 1 t) noFill_tuple_mul F.fills_int_mul F.slot_int_rmul repeat_tuple F.slot_int_index.lookup
    (call_meets F.slot_int_rmul (typeIs_int s 1 t) F.entry_int_rmul (F.args_int_rmul_2 _ _) (int_rmul_tuple 1 t l its.toArray n dd sl)
      ⟨ho, rfl, ⟨_, ho, rfl⟩, call_meets F.slot_tuple_mul ⟨_, ho, rfl⟩ F.entry_tuple_mul (F.args_tuple_mul_2 _ _) (tuple_mul1 l its.toArray n dd sl t) ⟨ho, .ref l, H, I, rfl, q⟩⟩)
theorem op_rep0 : OpR X (binaryOp .Mult) (fun x y H Q => ∃ l xs, x = .ref l ∧ y = .int 0 ∧ H l = some (.tup xs) ∧ xs ≠ [] ∧ ∀ p, H p = none → Q (.ref p) (upd H p (.tup []))) := by
  intro pins s σ H x y v u Q I rx ry h
  obtain ⟨l, xs, rfl, rfl, hT, hne, q⟩ := h
  cases rx
  obtain ⟨t, rfl⟩ := ry
  obtain ⟨its, r, ⟨⟨cls, dd, data, sl⟩, ho, hc, n, hd⟩, hs⟩ := I.tuple (SqT.of hT)
  simp only at hc hd
  subst hc hd
  have hi : its.toArray.isEmpty = false := by
    cases r with
    | nil => exact absurd rfl hne
    | cons a b => rfl
  exact wpAny_binaryOp_repeat_ref (T := "tuple") (U := "int") (by decide) ⟨_, ho, rfl⟩ (fun s' => typeIs_int s' 0 t) noFill_tuple_mul F.fills_int_mul F.slot_int_rmul repeat_tuple F.slot_int_index.lookup
    (call_meets F.slot_int_rmul (typeIs_int s 0 t) F.entry_int_rmul (F.args_int_rmul_2 _ _) (int_rmul_tuple 0 t l its.toArray n dd sl)
      ⟨ho, rfl, ⟨_, ho, rfl⟩, call_meets F.slot_tuple_mul ⟨_, ho, rfl⟩ F.entry_tuple_mul (F.args_tuple_mul_2 _ _) (tuple_mul0 l its.toArray n dd sl t)
        ⟨ho, hi, .ref s.heap.objs.size, _, I.laid (t' := s.toks) (o := .tup []) (fun b ob q => Heap.get?_push_of_some _ q) (Nat.le_refl _) ⟨Nat.zero_le _, [], .nil, IsTup.new _ _⟩, rfl, q _ (I.hok.fresh (Nat.le_refl _))⟩⟩)
theorem xe_times (ha : XE X a ma) (hb : XE X b mb) : XE X (.BinOp a .Mult b pos) (op2 fTimes ma mb) := xe_op2 (OpR.or op_rep1 (OpR.or op_rep0 op_repT)) (fun r S H x y z u v Q R hx hy e k => by
  unfold fTimes at e
  split at e
  · rename_i xs n
    split at e
    · rename_i hc
      cases e
      obtain ⟨l, vs, rfl, h1, h2⟩ := vr_tup.mp hx
      have hv := vr_int.mp hy
      have hl := h2.length
      by_cases n1 : n = 1
      · subst n1
        refine .inl ⟨l, vs, rfl, hv, h1, k H _ Ex.refl R (vr_tup.mpr ⟨l, vs, rfl, h1, ?_⟩)⟩
        simpa using h2
      · by_cases n0 : n = 0
        · subst n0
          refine .inr (.inl ⟨l, vs, rfl, hv, h1, fun e => ?_, fun p hp => ?_⟩)
          · rw [e] at hl
            have := hc.1
            rw [hl] at this
            exact absurd this (by decide)
          · obtain ⟨R2, x2⟩ := R.junk (ho := .tup []) hp
            exact k _ _ x2 R2 (vr_tup.mpr ⟨p, [], rfl, upd_same, VRs.nil⟩)
        · refine .inr (.inr ⟨l, n, vs, rfl, hv, SqT.of h1, fun e => ?_, by omega, hc.2.2.2, by rw [← hl]; exact hc.2.1, fun p hp => ?_⟩)
          · rw [e] at hl
            have := hc.1
            rw [hl] at this
            exact absurd this (by decide)
          · obtain ⟨R2, x2⟩ := R.junk (ho := .tup (List.replicate n.toNat vs).flatten) hp
            exact k _ _ x2 R2 (vr_tup.mpr ⟨p, _, rfl, upd_same, VRs.mono x2 _ _ (VRs.rep h2 _)⟩)
    · cases e
  · cases e) ha hb
end
end Gm

set_option Elab.async false
set_option linter.all false
set_option maxRecDepth 100000
set_option maxHeartbeats 400000
/-! Gm23: calls with keywords, with defaults, of a class's function. -/
namespace Gm
open PySem PySem.Spec PyProof.Rows L2
/-- the def at f does what F does, called with np values and the keywords ks, these in the parameters' order -/
structure ClK (P : Program) (w : World) (K : PySem.W.Frag) (mg : PySem.Str → Option Value) (base : Heap) (k : Nat) (f : Addr) (np : Nat) (ks : List PySem.Str) (n : Nat) (F : Fn) : Prop where
  ex : ∃ (fd : FuncData) (ps : List PySem.Str), FnOk P w K mg base CX0 k f fd ps (LfF K mg n F) ∧ PySem.W.keepIn K (.ref f) = true ∧ KBn K fd ps np ks (fun us ws => us ++ ws) (fun vs zs => vs ++ zs) ∧ np + ks.length = n
/-- what binds: no defaults are looked up -/
theorem kbn_of {K : PySem.W.Frag} {x qual : PySem.Str} {params : Arguments} {body : List Stmt} {scope : Scope} {kws : List (PySem.Str × V)} {f : Addr} {fd : FuncData} {ps : List PySem.Str} (F : FunD K x qual params body scope [] kws f fd) (n : Nat) (ks : List PySem.Str)
    (h : ∀ (kV doc pm : Value) (an : Option Addr) (cdv ct : Value) (us ws : List Value), us.length = n → ws.length = ks.length → bindArgs (PySem.W.fnOf x qual params body scope .none kV doc pm an cdv ct) ⟨us, ks.zip ws⟩ = pure (ps.zip (us ++ ws))) :
    KBn K fd ps n ks (fun us ws => us ++ ws) (fun vs zs => vs ++ zs) := by
  obtain ⟨oc, od, dV, kV, doc, pm, an, cdv, ct, osl, rfl, lk, hcd, hD, hK⟩ := F.ex
  rcases hD with ⟨_, rfl⟩ | ⟨e, _⟩
  · exact ⟨fun s us ws X l1 l2 => BindsTo.of_eq (h kV doc pm an cdv ct us ws l1 l2), fun r1 r2 => r1.append r2⟩
  · exact absurd rfl e
/-- defaults of a written kind -/
structure ClD (P : Program) (w : World) (K : PySem.W.Frag) (mg : PySem.Str → Option Value) (base : Heap) (k : Nat) (f : Addr) (n : Nat) (dws : List W) (F : Fn) : Prop where
  ex : ∃ (fd : FuncData) (ps : List PySem.Str) (dvs : List V) (ds : List Value), FnOk P w K mg base CX0 k f fd ps (LfF K mg n F) ∧ PySem.W.keepIn K (.ref f) = true ∧ Binds K fd ps ds ∧ Vals dvs ds ∧ ∀ r n H, VRs K mg r n H dws dvs
section
variable {X : Cx} {e o : Expr} {es : List Expr} {kw : List Keyword} {mr mk : MA} {mo ma : ME} {pos p apos kpos : Pos} {x mm c : PySem.Str} {k np n nk : Nat} {ks : List PySem.Str} {F : Fn} {dws : List W} {nm : Option PySem.Str}
abbrev XK (X : Cx) (kws : List Keyword) (m : MA) : Prop := PK X kws (LfA X.K X.mg m)
theorem PKi {kws : List Keyword} {t t' : TA} (h : PK X kws t) (k : ∀ σ H Q, t' σ H Q → t σ H Q) : PK X kws t' := ⟨fun pos pins s σ H Q I q => h.run pos pins s σ H Q I (k σ H Q q)⟩
theorem xk_nil : XK X [] aNil := PKi pk_nil fun _ _ _ q => lf_nil q
theorem xk_cons (ha : XE X e ma) (hr : XK X kw mr) : XK X (⟨nm, e, kpos⟩ :: kw) (aCons ma mr) := PKi (pk_cons ha hr) fun _ _ _ q => lf_cons q
theorem xe_callKw (hF : ∃ f, X.mg x = some (.ref f) ∧ ClK X.prog X.w X.K X.mg X.base k f np ks n F) (hr : Room k X.A) (hg : Gl X x) (ha : XA X (e :: es) mr) (hkw : XK X kw mk) (hall : (backToKw pos (keywordEach kw X.env)).all (·.1.isSome) = true := by rfl) (hks : (backToKw pos (keywordEach kw X.env)).filterMap (·.1) = ks := by rfl) (hnk : ks.length = nk := by rfl)
    (hdb : (x == ("__debug__" : PySem.Str)) = false := by decide) (he : starEach (e :: es) X.env = (false, eval e X.env) :: starEach es X.env := by rfl)
    (hpl : ((backTo pos (starEach (e :: es) X.env)).any (·.1) || (backToKw pos (keywordEach kw X.env)).any (·.1.isNone)) = false := by rfl) : XE X (.Call (.Name x p) (e :: es) kw pos) (mCallK np nk F mr mk) := by
  subst hnk
  obtain ⟨f, hm, h⟩ := hF
  obtain ⟨fd, ps, h1, h2, h3, h4⟩ := h.ex
  refine PEi (pe_callN h1 hr hg hm h2 h3 pass0 ha hkw hall hks hdb he hpl) fun σ H Q q => ?_
  obtain ⟨r, S, e, w, S', ok, hm, kk⟩ := q
  unfold mCallK at hm
  split at hm
  · rename_i ws S1 e1
    split at hm
    · rename_i us S2 e2
      split at hm
      · rename_i hc
        refine ⟨r, S, e, ws, S1, ok, e1, fun r1 H1 vs x1 ok1 hv => ⟨r1, S1, e, us, S2, ok1, e2, fun r2 H2 zs x2 ok2 hz => ?_⟩⟩
        have hv2 := VRs.mono x2 _ _ hv
        refine ⟨by rw [← hv2.length]; exact hc.1, by rw [← hz.length]; exact hc.2, r2, S2, ws ++ us, w, S', ok2.rep, VRs.append hv2 hz, by rw [List.length_append, hc.1, hc.2]; exact h4, hm, fun r3 H3 u3 x3 R3 hu3 => kk r3 H3 u3 (x1.trans (x2.trans x3)) (ok2.mono x3 R3) hu3⟩
      · cases hm
    · cases hm
  · cases hm
def HasMakeK (P : Program) (w : World) (K : PySem.W.Frag) (mg : PySem.Str → Option Value) (base : Heap) (k : Nat) (c : PySem.Str) (np : Nat) (ks : List PySem.Str) (n : Nat) (F : Fn) : Prop := ∃ C f, mg c = some (.ref C) ∧ Mk K C f ∧ ClK P w K mg base k f (np + 1) ks n F
theorem xe_makeK (hM : HasMakeK X.prog X.w X.K X.mg X.base k c np ks n F) (hr : Room (k + 1) X.A) (hg : Gl X c) (ha : XA X (e :: es) mr) (hkw : XK X kw mk) (hall : (backToKw pos (keywordEach kw X.env)).all (·.1.isSome) = true := by rfl) (hks : (backToKw pos (keywordEach kw X.env)).filterMap (·.1) = ks := by rfl) (hnk : ks.length = nk := by rfl)
    (hdb : (c == ("__debug__" : PySem.Str)) = false := by decide) (he : starEach (e :: es) X.env = (false, eval e X.env) :: starEach es X.env := by rfl)
    (hpl : ((backTo pos (starEach (e :: es) X.env)).any (·.1) || (backToKw pos (keywordEach kw X.env)).any (·.1.isNone)) = false := by rfl) : XE X (.Call (.Name c p) (e :: es) kw pos) (mMakeK c np nk F mr mk) := by
  subst hnk
  obtain ⟨C, f, hC, hmk, h⟩ := hM
  obtain ⟨fd, ps, h1, h2, h3, h4⟩ := h.ex
  refine PEi (pe_makeK hmk h1 hr hg hC h3 pass0 ha hkw hall hks hdb he hpl) fun σ H Q q => ?_
  obtain ⟨r, S, e, w, S', ok, hm, kk⟩ := q
  unfold mMakeK at hm
  split at hm
  · rename_i ws S1 e1
    split at hm
    · rename_i us S2 e2
      split at hm
      · rename_i hc
        split at hm
        · rename_i S3 e3
          cases hm
          refine ⟨r, S, e, ws, S1, ok, e1, fun r1 H1 vs x1 ok1 hv => ⟨r1, S1, e, us, S2, ok1, e2, fun r2 H2 zs x2 ok2 hz => ?_⟩⟩
          have hv2 := VRs.mono x2 _ _ hv
          refine ⟨by rw [← hv2.length]; exact hc.1, by rw [← hz.length]; exact hc.2, fun y dx hy hd hne => ?_⟩
          obtain ⟨R3, x3⟩ := ok2.rep.made hC hy hd hne
          have hlt : S2.length < (S2 ++ [Ob.ins c []]).length := by rw [List.length_append]; exact Nat.lt_succ_self _
          refine ⟨ext r2 S2.length y, S2 ++ [.ins c []], .ref S2.length :: (ws ++ us), .non, S', R3, VRs.cons (vr_ref.mpr ⟨hlt, by rw [ext_eq]⟩) (VRs.mono x3 _ _ (VRs.append hv2 hz)), by rw [List.length_cons, List.length_append, hc.1, hc.2]; omega, e3, fun r4 H4 u4 x4 R4 hu4 => ⟨vr_non.mp hu4, ?_⟩⟩
          refine kk r4 H4 _ (x1.trans (x2.trans (x3.trans x4))) (ok2.mono (x3.trans x4) R4) (vr_ref.mpr ⟨Nat.lt_of_lt_of_le hlt x4.le, ?_⟩)
          rw [x4.ag _ hlt, ext_eq]
        · cases hm
      · cases hm
    · cases hm
  · cases hm
def HasMakeD (P : Program) (w : World) (K : PySem.W.Frag) (mg : PySem.Str → Option Value) (base : Heap) (k : Nat) (c : PySem.Str) (n : Nat) (dws : List W) (F : Fn) : Prop := ∃ C f, mg c = some (.ref C) ∧ Mk K C f ∧ ClD P w K mg base k f n dws F
theorem xe_makeD (hM : HasMakeD X.prog X.w X.K X.mg X.base k c n dws F) (hn : np + 1 + dws.length = n) (hr : Room (k + 1) X.A) (hg : Gl X c) (ha : XA X (e :: es) mr) (hdb : (c == ("__debug__" : PySem.Str)) = false := by decide)
    (he : starEach (e :: es) X.env = (false, eval e X.env) :: starEach es X.env := by rfl) (hpl : (backTo pos (starEach es X.env)).any (·.1) = false := by rfl) : XE X (.Call (.Name c p) (e :: es) [] pos) (mMakeD c np dws F mr) := by
  obtain ⟨C, f, hC, hmk, h⟩ := hM
  obtain ⟨fd, ps, dvs, ds, h1, h2, h3, h4, h5⟩ := h.ex
  refine PEi (pe_make hmk h1 hr hg hC h3 h4 pass0 ha hdb he hpl) fun σ H Q q => ?_
  obtain ⟨r, S, e, w, S', ok, hm, kk⟩ := q
  unfold mMakeD at hm
  split at hm
  · rename_i ws S1 e1
    split at hm
    · rename_i hl
      split at hm
      · rename_i S2 e2
        cases hm
        refine ⟨r, S, e, ws, S1, ok, e1, fun r1 H1 us x1 ok1 hu y dx hy hd hne => ?_⟩
        obtain ⟨R2, x2⟩ := ok1.rep.made hC hy hd hne
        have hlt : S1.length < (S1 ++ [Ob.ins c []]).length := by rw [List.length_append]; exact Nat.lt_succ_self _
        refine ⟨ext r1 S1.length y, S1 ++ [.ins c []], .ref S1.length :: (ws ++ dws), .non, S', R2, VRs.cons (vr_ref.mpr ⟨hlt, by rw [ext_eq]⟩) (VRs.append (VRs.mono x2 _ _ hu) (h5 _ _ _)), by rw [List.length_cons, List.length_append, hl]; omega, e2, fun r3 H3 u x3 R3 hu3 => ⟨vr_non.mp hu3, ?_⟩⟩
        refine kk r3 H3 _ (x1.trans (x2.trans x3)) (ok1.mono (x2.trans x3) R3) (vr_ref.mpr ⟨Nat.lt_of_lt_of_le hlt x3.le, ?_⟩)
        rw [x3.ag _ hlt, ext_eq]
      · cases hm
    · cases hm
  · cases hm
/-- o.m(k = e, ..): the method's keywords alone -/
def HasMethK (P : Program) (w : World) (K : PySem.W.Frag) (mg : PySem.Str → Option Value) (base : Heap) (k : Nat) (c m : PySem.Str) (ks : List PySem.Str) (n : Nat) (F : Fn) : Prop := ∃ C f, mg c = some (.ref C) ∧ Cls K C ∧ Meth K C m f ∧ ClK P w K mg base k f 1 ks n F
theorem xe_methK {pl : Sem Bool} (hM : HasMethK X.prog X.w X.K X.mg X.base k c mm ks n F) (hr : Room k X.A) (ho : XE X o mo) (hkw : XK X kw mk) (hall : (backToKw pos (keywordEach kw X.env)).all (·.1.isSome) = true := by rfl) (hks : (backToKw pos (keywordEach kw X.env)).filterMap (·.1) = ks := by rfl) (hnk : ks.length = nk := by rfl)
    (hpl : ((backTo pos (starEach [] X.env)).any (·.1) || (backToKw pos (keywordEach kw X.env)).any (·.1.isNone)) = false := by rfl)
    (ht : eval (.Call (.Attribute o mm apos) [] kw pos) X.env = (do
      let ov ← eval o X.env
      standAt apos.atName
      let (f, first) ← holding [ov] (getMethod ov mm pl)
      callWith pos f first (backTo pos (starEach [] X.env)) (backToKw pos (keywordEach kw X.env))) := by rfl) : XE X (.Call (.Attribute o mm apos) [] kw pos) (mMethK c mm nk F mo mk) := by
  subst hnk
  obtain ⟨C, f, hC, hc, hmt, h⟩ := hM
  obtain ⟨fd, ps, h1, h2, h3, h4⟩ := h.ex
  refine ⟨fun pins s σ H Q I q => ?_⟩
  obtain ⟨r, S, e, w, S', ok, hm, kk⟩ := q
  unfold mMethK at hm
  split at hm
  · rename_i a S1 e1
    split at hm
    · rename_i c' fs hi
      split at hm
      · rename_i hcc
        obtain ⟨rfl, hc2⟩ := hcc
        split at hm
        · rename_i ws S2 e2
          split at hm
          · rename_i hn
            refine PySem.W.methodCall_KW (pl := pl) (thn (ho.run pins s σ H (fun u H1 => ∃ a dx us, u = .ref a ∧ H1 a = some (.ins C dx us) ∧ us.lookup mm = none ∧ LfA X.K X.mg mk σ H1 fun vs H2 => vs.length = ks.length ∧ LfF X.K X.mg n F (.ref a :: vs) H2 Q E0) I ⟨r, S, e, _, S1, ok, e1, fun r1 H1 u x1 ok1 hu => ?_⟩) fun u s1 ⟨x, H1, I1, rx, a, dx, us, ex, ea, l, q⟩ => ?_) ht
            · obtain ⟨hl, rfl⟩ := vr_ref.mp hu
              obtain ⟨C', dx, us, g1, g2, g3⟩ := ok1.rep.ins hi
              rw [hC] at g2
              cases g2
              refine ⟨_, dx, us, rfl, g1, g3.look0 hc2, r1, S1, e, ws, S2, ok1, e2, fun r2 H2 vs x2 ok2 hv => ⟨by rw [← hv.length]; exact hn, ?_⟩⟩
              exact ⟨r2, S2, .ref a :: ws, w, S', ok2.rep, VRs.cons (VR.mono x2 _ _ hu) hv, by rw [List.length_cons]; omega, hm, fun r3 H3 u3 x3 R3 hu3 => kk r3 H3 u3 (x1.trans (x2.trans x3)) (ok2.mono x3 R3) hu3⟩
            · subst ex
              obtain rfl : u = Value.ref a := rx
              refine getmeth_ok I1 ea hc hmt l ?_
              refine PySem.W.callWith_KW0 (first := [.ref a]) (h₀ := X.base) I.ok.mod.kin hmt.kp hall ?_ hpl
              refine thn (hkw.run pos pins s1 σ H1 _ I1 q) fun us2 s2 ⟨zs, H2, I2, rz, l2, q2⟩ => ⟨I2.kIn, ?_⟩
              rw [hks]
              exact run_fnN (us := [.ref a]) (vs := [.ref a]) h1 hr h3 pass0 I2 (.cons rfl .nil) rz rfl l2 q2
          · cases hm
        · cases hm
      · cases hm
    · cases hm
  · cases hm
end
end Gm

set_option Elab.async false
set_option linter.all false
set_option maxRecDepth 100000
set_option maxHeartbeats 400000
/-! Gm24: a class's function called through the class; defs that call themselves. -/
namespace Gm
open PySem PySem.Spec PyProof.Rows L2
def HasClsFn (P : Program) (w : World) (K : PySem.W.Frag) (mg : PySem.Str → Option Value) (base : Heap) (k : Nat) (c m : PySem.Str) (n : Nat) (F : Fn) : Prop := ∃ C mc f, mg c = some (.ref C) ∧ ClX.CRead K C mc ∧ ClX.CVal K C mc m (.ref f) (.ref f) ∧ Cl P w K mg base k f n F
section
variable {X : Cx} {e o : Expr} {es : List Expr} {mr : MA} {pos p apos : Pos} {mm c : PySem.Str} {k n : Nat} {F : Fn}
theorem xe_clsFn {pl : Sem Bool} (hM : HasClsFn X.prog X.w X.K X.mg X.base k c mm n F) (hr : Room k X.A) (hg : Gl X c) (ha : XA X (e :: es) mr) (hdb : (c == ("__debug__" : PySem.Str)) = false := by decide)
    (hst : starEach (e :: es) X.env = (false, eval e X.env) :: starEach es X.env := by rfl) (hpl : (backTo pos (starEach es X.env)).any (·.1) = false := by rfl)
    (ht : eval (.Call (.Attribute (.Name c p) mm apos) (e :: es) [] pos) X.env = (do
      let ov ← eval (.Name c p) X.env
      standAt apos.atName
      let (f, first) ← holding [ov] (getMethod ov mm pl)
      callWith pos f first (backTo pos (starEach (e :: es) X.env)) (backToKw pos (keywordEach [] X.env))) := by rfl) : XE X (.Call (.Attribute (.Name c p) mm apos) (e :: es) [] pos) (mCallN n F mr) := by
  obtain ⟨C, mc, f, hC, hcr, hcv, h⟩ := hM
  obtain ⟨fd, ps, h1, h2, h3⟩ := h.ex
  refine ⟨fun pins s σ H Q I q => ?_⟩
  refine PySem.W.methodCall_KW (pl := pl) (thn ((pe_glob (pos := p) (v := .ref C) hg hC rfl hdb).run pins s σ H (fun v H1 => v = .ref C ∧ H1 = H) I ⟨rfl, rfl⟩) fun u s1 ⟨v, H1, I1, r1, q1, q2⟩ => ?_) ht
  subst q1
  subst q2
  obtain rfl : u = Value.ref C := r1
  refine PySem.W.method_cls I1.kIn hcr.ga (ClX.getcval_ok I1 hcr hcv fun s' I' => ?_)
  refine PySem.W.callWith_K (first := []) (h₀ := X.base) I.ok.mod.kin h2 (thn (ha.run pos pins s' σ _ _ I' (lf_call q)) fun us s2 ⟨vs, H2, I2, r, q2⟩ => ⟨I2.kIn, ?_⟩) hst hpl
  exact run_fn h1 hr h3 .nil pass0 I2 r q2
end
/-! ### defs that call themselves: by fuel -/
theorem noF_no {K : PySem.W.Frag} {mg : PySem.Str → Option Value} {n : Nat} {vs : List V} {H : Hp} {Q : VK} {E : L2.XK} (q : LfF K mg n noF vs H Q E) : False := by
  obtain ⟨r, S, ws, w, S', _, _, _, hm, _⟩ := q
  cases hm
theorem Cl.never {P : Program} {w : World} {K : PySem.W.Frag} {mg : PySem.Str → Option Value} {base : Heap} {k n : Nat} {f : Addr} {fd : FuncData} {ps : List PySem.Str} (h2 : PySem.W.keepIn K (.ref f) = true) (h3 : Binds K fd ps []) : Cl P w K mg base k f n noF :=
  ⟨fd, ps, ⟨fun vs H Q E q => (noF_no q).elim, fun A outer s H args us vs Q E _ _ _ _ q => (noF_no q).elim⟩, h2, h3⟩
theorem calls_of {P : Program} {w : World} {K : PySem.W.Frag} {mg : PySem.Str → Option Value} {base : Heap} {k n : Nat} : ∀ {fs : List (PySem.Str × Fn)}, (∀ p ∈ fs, CalG P w K mg base k p.1 n p.2) → ∀ y F, fs.lookup y = some F → ∃ f, mg y = some (.ref f) ∧ Cl P w K mg base k f n F
  | [], _, y, F, e => by cases e
  | (x, G) :: fs, h, y, F, e => by
    rw [List.lookup_cons] at e
    cases hb : y == x with
    | true =>
      rw [hb] at e
      cases e
      have hx : y = x := eq_of_beq hb
      subst hx
      exact h _ (List.mem_cons_self ..)
    | false =>
      rw [hb] at e
      exact calls_of (fun p hp => h p (List.mem_cons_of_mem _ hp)) y F e
end Gm

set_option Elab.async false
set_option linter.all false
set_option maxRecDepth 100000
set_option maxHeartbeats 400000
/-! Gm25: comprehensions over the items of a dict whose keys are tuples. -/
namespace Gm
open PySem PySem.Spec PyProof.Rows L2
def ItiT (d : Addr) (o : Obj) (kvs : List (List Key × V)) : It :=
  ⟨fun i H => H d = some (.frz o (.dT kvs)) ∧ i < kvs.length, fun i H x H' => ∃ T k v q, kvs[i]? = some (k, v) ∧ x = .ref T ∧ H T = none ∧ H q = some (.tup (k.map kV)) ∧ H' = upd H T (.tup [.ref q, v]), fun i H => H d = some (.frz o (.dT kvs)) ∧ kvs.length ≤ i⟩
theorem frzTv {X : Cx} {pins : List (Addr × Obj)} {σ : L2.St} {H : Hp} {s : Shared} {d : Addr} {o : Obj} {kvs : List (List Key × V)} (I : Inv X pins σ H s) (h : H d = some (.frz o (.dT kvs))) :
    (d == sysModules) = false ∧ s.heap.get? d = some o ∧ o.ExactDict ∧ ∃ (es : Array DictEntry) (ep : Nat), o.data = .dict es ep ∧ es.size = kvs.length ∧
      ∀ (i : Nat) (k : List Key) (v : V), kvs[i]? = some (k, v) → ∃ (en : DictEntry) (q : Addr), es[i]? = some en ∧ en.key = .ref q ∧ H q = some (.tup (k.map kV)) ∧ RelV v en.val := by
  obtain ⟨hd, z, hs, xs, pr, o', es, ep, ho, hx, hdt, he, _⟩ := I.hok d _ h
  rw [hd] at ho
  cases ho
  have l1 : es.size = xs.length := size_of_entries he
  have l2 : kvs.length = xs.length := Paired.length pr
  refine ⟨hs, hd, hx, es, ep, hdt, by omega, fun i k v e => ?_⟩
  obtain ⟨q, hq, h1, h2, h3⟩ := paired_get pr e
  have qe := entry_at he i
  rw [hq] at qe
  refine ⟨_, q.2.1, qe, rfl, by rw [← h1] at *; exact h2, h3⟩
section
variable {P : Program} {w : World} {K : PySem.W.Frag} {d : Addr} {o : Obj} {es : Array DictEntry} {ep : Nat}
theorem turn_itemsT {kvs : List (List Key × V)} {elts : List Expr} {kk : Nat} {tpos : Pos} (it : Addr) (hod : o.data = .dict es ep) :
    Turn P w K (.Tuple elts kk tpos) (ItiT d o kvs) [it] it (fun i h => ∃ ok ov, IsItemIter h it d i kvs.length ep ok ov) where
  mem := by simp
  obj := fun i h st b hb => by
    have e : b = it := by simpa using hb
    subst e
    obtain ⟨ok, ov, e⟩ := st
    exact ⟨_, e, fun v z => nomatch z⟩
  keep := fun i h h' st k => let ⟨ok, ov, e⟩ := st; ⟨ok, ov, k it (by simp) _ e⟩
  item := by
    intro X hP hw hK hc i pins s σ H E I hf st hg
    subst hP hw hK
    obtain ⟨hd, hi⟩ := hg
    obtain ⟨hs, hgd, hx, es', ep', hdt, hsz, ent⟩ := frzTv I hd
    obtain ⟨rfl, rfl⟩ := dict_ep hod hdt
    obtain ⟨⟨k, v⟩, hkv⟩ : ∃ p, kvs[i]? = some p := ⟨kvs[i], List.getElem?_eq_getElem hi⟩
    obtain ⟨en, q, hen, hkey, hq, ru⟩ := ent i k v hkv
    obtain ⟨ok, ov, he⟩ := st
    rw [← hsz] at he
    have hlt : it < s.heap.objs.size := Heap.lt_size he
    have hi2 : i < es'.size := by omega
    have hen2 : es'[i] = en := by
      rw [Array.getElem?_eq_getElem hi2] at hen
      exact Option.some.inj hen
    refine DT.nextI he ⟨o, hgd, hx, hdt⟩ hi2 fun h' ho hT hz hk => ?_
    rw [hen2, hkey] at hT ho
    refine ⟨_, rfl, wpAny_letOwnedTupleGo_items (s := { s with heap := h' }) ho fun h'' he' sb => ?_⟩
    have hT2 : h''.get? s.heap.objs.size = some { cls := .type "tuple", data := .seq #[.ref q, en.val] } := (sb.2 _ (Nat.ne_of_gt hlt)).trans hT
    have new : ObjOk X.prog X.w (upd H s.heap.objs.size (.tup [.ref q, v])) h'' s.heap.objs.size (.tup [.ref q, v]) :=
      ⟨by show 2 ≤ sizeLine; decide, [.ref q, en.val], .cons rfl (.cons ru .nil), ⟨_, hT2, rfl, _, rfl⟩⟩
    have I1 : Inv X pins σ (upd H s.heap.objs.size (.tup [.ref q, v])) { s with heap := h'' } :=
      I.turnedNew (t' := s.toks) (ch := [it]) (fun b ob hb e => (sb.2 b (by simpa using hb)).trans (hk b ob (by simpa using hb) e)) hf (Nat.le_refl _) new
    refine ⟨.ref s.heap.objs.size, _, I1, rfl, ⟨_, k, v, q, hkv, rfl, I.hok.fresh (Nat.le_refl _), hq, rfl⟩, ⟨.ref q, en.val, ?_⟩, fun b hb => ?_⟩
    · rw [← hsz]; exact he'
    · have e : b = it := by simpa using hb
      rw [e, upd_ne (Nat.ne_of_lt hlt)]
      exact (hf it (by simp)).1
  done := by
    intro X hP hw hK hc i pins s σ H E I hf st hg
    subst hP hw hK
    obtain ⟨hd, hi⟩ := hg
    obtain ⟨f0, f1, f2, f3, f4, f5⟩ := hf it (by simp)
    obtain ⟨hs, hgd, hx, es', ep', hdt, hsz, ent⟩ := frzTv I hd
    obtain ⟨rfl, rfl⟩ := dict_ep hod hdt
    obtain ⟨ok, ov, he⟩ := st
    rw [← hsz] at he
    exact DT.endI (I.ok.hd hc) he ⟨o, hgd, hx, hdt⟩ (by omega) fun h' eb => ⟨rfl, I.turned (t' := s.toks) (fun b ob hb e => eb b ob hb e) f0 f1 f3 f4 f5⟩
  self := fun A i s Q E st h => let ⟨_, _, e⟩ := st; PySem.W.kcp_self e h
end
def iItemsT (td : TE) : TI := fun σ H R => td σ H fun x H1 => ∃ d o kvs, x = .ref d ∧ H1 d = some (.frz o (.dT kvs)) ∧ R (ItiT d o kvs) H1
theorem pi_itemsT {X : Cx} {e : Expr} {td : TE} {apos cpos tpos : Pos} {elts : List Expr} {kk : Nat} (he : PE X e td) (hbase : attributeBase e "items" X.env (eval e X.env) = eval e X.env := by rfl) (hline : (apos.endLine == cpos.line) = true := by rfl) :
    PI X (.Tuple elts kk tpos) (.Call (.Attribute e "items" apos) [] [] cpos) (iItemsT td) := by
  refine ⟨fun pins s σ H R I h => ?_⟩
  refine wpAny_Call_method (T := "dict") (id := "dict.items") hbase rfl hline F.plainAttrs_dict F.slot_dict_items F.type_dict_items (thn (he.run pins s σ H _ I h) fun u s1 ⟨x, H1, I1, rx, d, o, kvs, ex, hd, q⟩ => ?_)
  subst ex
  obtain rfl : u = Value.ref d := rx
  obtain ⟨hs, hgd, hx, es, ep, hdt, hsz, ent⟩ := frzTv I1 hd
  have hraw : DT.Raw s1.heap d es ep := ⟨o, hgd, hx, hdt⟩
  refine ⟨hraw.typeIs, fun a e => by cases e; exact ⟨o, hgd, hx.2.1⟩, ?_⟩
  have I2 : Inv X pins σ H1 { s1 with heap := s1.heap.push { cls := .type "dict_items", data := .fields #[.ref d] } } := I1.kept (t' := s1.toks) fun b ob q => Heap.get?_push_of_some _ q
  have fin : wpAny (model X.prog X.w) X.A (pyIter (.ref s1.heap.objs.size)) (PIE X pins σ (.Tuple elts kk tpos) R) X.xe { s1 with heap := s1.heap.push { cls := .type "dict_items", data := .fields #[.ref d] } } := by
    refine DT.iterI (d := d) ⟨_, Heap.get?_push_size _ rfl, rfl, rfl⟩ (hraw.push _) (pi_one (tk := s1.toks) I2 _ (turn_itemsT _ hdt) ⟨.none, .none, ?_⟩ q)
    rw [← hsz]
    exact Heap.get?_push_size _ rfl
  show wpAny _ _ (callWith cpos (.builtin "dict.items") [.ref d] [] []) _ X.xe s1
  exact Calls.callWith_builtin rfl (PySem.evalArgs_none (DT.callItems hs hraw fin))
/-! ### the comprehension, the dict locked -/
section
variable {K : PySem.W.Frag} {mg : Str → Option Value}
theorem itok_items {r0 : Nat → Addr} {n0 : Nat} {H0 : Hp} {d : Addr} {od : Obj} {kvs : List (W × W)} {ks : List (List Key × V)} (hd : H0 d = some (.frz od (.dT ks))) (h : KR K mg tkeyOf r0 n0 H0 kvs ks) :
    ItOk K mg r0 n0 H0 (sFix (kvs.map fun kv => .tup [kv.1, kv.2])) (ItiT d od ks) := by
  intro r S H i x R
  have hd2 := x.kp.frzs _ _ _ hd
  have h2 := KR.mono x _ _ h
  have hl := KR.length h2
  unfold sFix
  refine ⟨fun e => ⟨hd2, ?_⟩, fun w e => ?_⟩
  · have e2 : (kvs.map fun kv => W.tup [kv.1, kv.2])[i]? = none := Option.some.inj e
    have := List.getElem?_eq_none_iff.mp e2
    rw [List.length_map] at this
    omega
  · have e2 : (kvs.map fun kv => W.tup [kv.1, kv.2])[i]? = some w := Option.some.inj e
    rw [List.getElem?_map] at e2
    cases g : kvs[i]? with
    | none =>
      rw [g] at e2
      cases e2
    | some kv =>
      rw [g] at e2
      cases e2
      have hi : i < kvs.length := (List.getElem?_eq_some_iff.mp g).1
      refine ⟨⟨hd2, by omega⟩, fun y H' hy => ?_⟩
      obtain ⟨T, k, v, q, g1, rfl, hT, hq, rfl⟩ := hy
      have fnd : ∀ (kvs : List (W × W)) (ks : List (List Key × V)) (i : Nat), KR K mg tkeyOf r S.length H kvs ks → kvs[i]? = some kv → ks[i]? = some (k, v) → tkeyOf kv.1 = some k ∧ VR K mg r S.length H kv.2 v := by
        intro kvs
        induction kvs with
        | nil => intro ks i h e1 e2; simp at e1
        | cons p kvs ih =>
          intro ks i h e1 e2
          obtain ⟨k1, w1⟩ := p
          unfold KR at h
          obtain ⟨q1, v1, us, rfl, a1, a2, a3⟩ := h
          cases i with
          | zero =>
            simp at e1 e2
            obtain ⟨rfl, rfl⟩ := e2
            subst e1
            exact ⟨a1, a2⟩
          | succ i => exact ih us i a3 (by simpa using e1) (by simpa using e2)
      obtain ⟨f1, f2⟩ := fnd kvs ks i h2 g g1
      obtain ⟨R2, x2⟩ := R.junk (ho := .tup [.ref q, v]) hT
      have vk : VR K mg r S.length H kv.1 (.ref q) := by
        obtain ⟨kk, kw⟩ := kv
        cases kk with
        | tup ws => exact vr_tup.mpr ⟨_, _, rfl, hq, keys_VR f1⟩
        | _ => cases f1
      exact ⟨R2, x2, vr_tup.mpr ⟨T, _, rfl, upd_same, VRs.pair (VR.mono x2 _ _ vk) (VR.mono x2 _ _ f2)⟩⟩
/-- an object of the store is not looked at -/
theorem Rep.hide {r : Nat → Addr} {S : Store} {H : Hp} (R : Rep K mg r S H) {a : Nat} {o : Ob} {ho ho' : HO} (h : S[a]? = some o) (hh : H (r a) = some ho) (mu : MutO ho) : Rep K mg r (S.set a .gone) (upd H (r a) ho') := by
  have ha : a < S.length := (List.getElem?_eq_some_iff.mp h).1
  refine ⟨fun j u hj => ?_, fun j k hj hk e => ?_⟩
  · rw [List.length_set]
    by_cases e : j = a
    · subst e
      rw [List.getElem?_set_self ha] at hj
      cases hj
      exact ⟨ho', upd_same, True.intro⟩
    · rw [List.getElem?_set_ne (Ne.symm e)] at hj
      obtain ⟨hu, g1, g2⟩ := R.ob j u hj
      have hjl : j < S.length := (List.getElem?_eq_some_iff.mp hj).1
      exact ⟨hu, by rw [upd_ne fun z => e (R.inj j a hjl ha z)]; exact g1, g2.monoK (Keep.wr hh mu)⟩
  · rw [List.length_set] at hj hk
    exact R.inj j k hj hk e
/-- it is looked at again -/
theorem Rep.back {r : Nat → Addr} {S : Store} {H : Hp} (R : Rep K mg r S H) {a : Nat} {o : Ob} {od : Obj} {ks : List (List Key × V)} (h : S[a]? = some .gone) (hh : H (r a) = some (.frz od (.dT ks))) (ho : OR K mg r S.length (upd H (r a) (.dT ks)) o (.dT ks)) :
    Keep0 H (upd H (r a) (.dT ks)) ∧ Rep K mg r (S.set a o) (upd H (r a) (.dT ks)) := by
  have ha : a < S.length := (List.getElem?_eq_some_iff.mp h).1
  have k0 : Keep0 H (upd H (r a) (.dT ks)) := ⟨fun b xs e => by rw [upd_ne (fun z => by rw [z, hh] at e; cases e)]; exact e, fun b o xs e => by rw [upd_ne (fun z => by rw [z, hh] at e; cases e)]; exact e⟩
  refine ⟨k0, fun j u hj => ?_, fun j k hj hk e => ?_⟩
  · rw [List.length_set]
    by_cases e : j = a
    · subst e
      rw [List.getElem?_set_self ha] at hj
      cases hj
      exact ⟨_, upd_same, ho⟩
    · rw [List.getElem?_set_ne (Ne.symm e)] at hj
      obtain ⟨hu, g1, g2⟩ := R.ob j u hj
      have hjl : j < S.length := (List.getElem?_eq_some_iff.mp hj).1
      exact ⟨hu, by rw [upd_ne fun z => e (R.inj j a hjl ha z)]; exact g1, OR.mono1 ⟨fun _ _ => rfl, Nat.le_refl _, k0⟩ g2⟩
  · rw [List.length_set] at hj hk
    exact R.inj j k hj hk e
theorem lf_items {i : Nat} {g : MG} {t : MT} {m : ME} {vs ts : List Nat} (hts : ∀ j ∈ ts, j ∈ vs) {σ : L2.St} {H : Hp} {Q : VK} (q : LfL K mg (aItemsV i g t m vs) σ H Q) :
    tLockE (tLc (iItemsT (tVar i)) (LfGc K mg g ts) (LfT K mg t) (LfE K mg m) vs) σ H Q := by
  obtain ⟨r, S, e, ws, S', ok, hm, k⟩ := q
  unfold aItemsV at hm
  split at hm
  · rename_i a hv
    split at hm
    · rename_i kvs hi
      split at hm
      · rename_i ws2 S2 hcmp
        split at hm
        · rename_i hg
          cases hm
          obtain ⟨v, hs, hv2⟩ := ok.var i _ hv
          obtain ⟨hal, rfl⟩ := vr_ref.mp hv2
          rcases ok.rep.dct hi with ⟨h0, _⟩ | ⟨_, ks, hd, hk⟩
          · cases h0
          refine ⟨r a, .dT ks, hd, True.intro, fun od => ?_⟩
          have R1 : Rep K mg r (S.set a .gone) (upd H (r a) (.frz od (.dT ks))) := ok.rep.hide hi hd True.intro
          have x1 : Ex0 r S.length H r (S.set a .gone).length (upd H (r a) (.frz od (.dT ks))) := ⟨fun _ _ => rfl, by rw [List.length_set]; exact Nat.le_refl _, Keep.wr hd True.intro⟩
          have ok1 := ok.mono0 x1 R1
          have hk1 := KR.mono0 x1 _ _ hk
          have hd1 : upd H (r a) (.frz od (.dT ks)) (r a) = some (.frz od (.dT ks)) := upd_same
          have core := lc_core (Q := fun v H' => H' (r a) = some (.frz od (.dT ks)) ∧ Q v (upd H' (r a) (.dT ks))) hts ok1 (itok_items hd1 hk1) hcmp (fun r' H' p us x ok' np h0 hp hv => by
            have hd2 := x.kp.frzs _ _ _ hd1
            refine ⟨hd2, ?_⟩
            have hl1 : (S.set a Ob.gone).length = S.length := List.length_set
            have er : r' a = r a := x.ag a (by rw [hl1]; exact hal)
            have hag : ∀ j, j < S.length → r' j = r j := fun j hj => x.ag j (by rw [hl1]; exact hj)
            have nd : ∀ {b : Addr} {o : HO}, H b = some o → (∀ ks, o ≠ .dT ks) → b ≠ r a := fun e hne z => by
              rw [z, hd] at e
              cases e
              exact hne _ rfl
            have kpx : Keep H (upd H' (r a) (.dT ks)) := ⟨fun b xs e => by
                have hb := nd e (fun _ z => nomatch z)
                rw [upd_ne hb]
                exact x.kp.tups _ _ (by rw [upd_ne hb]; exact e), fun b o u e => by
                have hb := nd e (fun _ z => nomatch z)
                rw [upd_ne hb]
                exact x.kp.frzs _ _ _ (by rw [upd_ne hb]; exact e)⟩
            have xf0 : Ex0 r S.length H r' S2.length (upd H' (r a) (.dT ks)) := ⟨hag, by have := x.le; rw [hl1] at this; exact this, kpx⟩
            obtain ⟨k0, R2⟩ := ok'.rep.back (o := .dct true kvs) hg (by rw [er]; exact hd2) ⟨ks, rfl, by rw [er]; exact KR.mono0 xf0 _ _ hk⟩
            rw [er] at k0 R2
            have x9 : Ex1 r' S2.length H' r' S2.length (upd H' (r a) (.dT ks)) := ⟨fun _ _ => rfl, Nat.le_refl _, k0⟩
            have hl2 : (S2.set a (.dct true kvs)).length = S2.length := List.length_set
            have xf : Ex r S.length H r' (S2.set a (.dct true kvs)).length (upd H' (r a) (.dT ks)) := by
              rw [hl2]
              refine ⟨hag, xf0.le, kpx, fun b o e hn => ?_, fun j g1 g2 => ?_, fun b e => ?_⟩
              · have hb : b ≠ r a := fun z => hn a hal z.symm
                rw [upd_ne hb]
                exact x.un b o (by rw [upd_ne hb]; exact e) (fun j hj => hn j (by rw [hl1] at hj; exact hj))
              · exact upd_none (x.fr j (by rw [hl1]; exact g1) g2)
              · have hb : b ≠ r a := fun z => by rw [z, upd_same] at e; cases e
                rw [upd_ne hb] at e
                exact upd_none (x.th b e)
            have okf : Ok K mg r' (S2.set a (.dct true kvs)) e σ (upd H' (r a) (.dT ks)) := ⟨R2, ok'.len, fun j w hj => by
              obtain ⟨v, h1, h2⟩ := ok'.var j w hj
              exact ⟨v, h1, by rw [hl2]; exact VR.mono1 x9 _ _ h2⟩⟩
            refine k r' _ p us xf okf (fun j hj => np j (by rw [hl2] at hj; exact hj)) (upd_none h0) ?_ (by rw [hl2]; exact VRs.mono1 x9 _ _ hv)
            rw [upd_ne (fun z => by rw [z, hd2] at hp; cases hp)]
            exact hp)
          exact ⟨_, hs, _, od, ks, rfl, hd1, core⟩
        · cases hm
      · cases hm
    · cases hm
  · cases hm
end
section
variable {X : Cx} {elt : Expr} {ifs : List Expr} {g : MG} {t : MT} {m : ME} {pos px apos cpos tpos : Pos} {x : Str} {scope : Scope} {own : List (Str × Nat)} {ts : List Nat} {elts : List Expr} {kk i : Nat}
theorem xl_items (hc : X.calm = true) (hN : X.N.Nodup) (hi : X.N[i]? = some x) (hv : Vis X.env.scope x) (ok : BlkOk X.N X.env.scope scope own)
    (hg : ∀ (s : Shared) (H : Hp) (C : Addr) (cl : List (Str × Addr)) (fp : List Addr), XGc (X.blk s H scope (compEnvC scope cl C X.env) fp) (.Tuple elts kk tpos) g ts)
    (ht : ∀ (s : Shared) (H : Hp) (C : Addr) (cl : List (Str × Addr)) (fp : List Addr), PTs (X.blk s H scope (compEnvC scope cl C X.env) fp) ifs (LfT X.K X.mg t))
    (he : ∀ (s : Shared) (H : Hp) (C : Addr) (cl : List (Str × Addr)) (fp : List Addr), XE (X.blk s H scope (compEnvC scope cl C X.env) fp) elt m)
    (hts : ∀ j ∈ ts, j ∈ own.map (·.2)) (hd : (x == ("__debug__" : Str)) = false := by decide) (hcd : (x == ("__classdict__" : Str)) = false := by decide)
    (hbase : attributeBase (.Name x px) "items" X.env (eval (.Name x px) X.env) = eval (.Name x px) X.env := by rfl) (hline : (apos.endLine == cpos.line) = true := by rfl)
    (hs : ∀ y, foldedSetIterable (.Call (.Attribute (.Name x px) "items" apos) [] [] cpos) X.env y = pure y := by intro _; rfl) :
    XL X (.ListComp elt [⟨.Tuple elts kk tpos, .Call (.Attribute (.Name x px) "items" apos) [] [] cpos, ifs, 0⟩] scope pos) (aItemsV i g t m (own.map (·.2))) :=
  PEi (pe_lock (pe_lc hc hN (pi_itemsT (pe_var hi hv hd hcd) hbase hline) ok hg ht he hs)) fun σ H Q q => lf_items hts q
end
end Gm

set_option Elab.async false
set_option linter.all false
set_option maxRecDepth 100000
set_option maxHeartbeats 400000
/-! Gm26: a, b, c = x, y, z. -/
namespace Gm
open PySem PySem.Spec PyProof.Rows L2
section
variable {X : Cx} {a b c : Expr} {mr : MA} {pos : Pos} {x : Str}

theorem xs_par3 {i j l : Nat} {y z : Str} {px py pz pt : Pos} {kt k2 pt2} (hc : X.calm = true) (hN : X.N.Nodup) (hi : X.N[i]? = some x) (hj : X.N[j]? = some y) (hl : X.N[l]? = some z) (hij : i ≠ j) (hil : i ≠ l) (hjl : j ≠ l)
    (hx : X.env.scope.names.lookup x = some .local) (hy : X.env.scope.names.lookup y = some .local) (hz : X.env.scope.names.lookup z = some .local) (ha : XA X [a, b, c] mr)
    (hw : swappedStores [.Tuple [.Name x px, .Name y py, .Name z pz] kt pt] (.Tuple [a, b, c] k2 pt2) X.env = pure (some [x, y, z]))
    (hs : swapsWithSole [.Tuple [.Name x px, .Name y py, .Name z pz] kt pt] (.Tuple [a, b, c] k2 pt2) pos.line X.env = pure false := by rfl) :
    XS X (.Assign [.Tuple [.Name x px, .Name y py, .Name z pz] kt pt] (.Tuple [a, b, c] k2 pt2) pos) (sPar3 i j l mr) := PSi (ps_par3 hc hN hi hj hl hij hil hjl hx hy hz ha hw hs) fun D σ H q => by
  obtain ⟨r, S, e, fl, S', ok, hm, k⟩ := q
  unfold sPar3 at hm
  split at hm
  · rename_i u v w S1 e1
    cases hm
    refine ⟨r, S, e, _, S', ok, e1, fun r1 H1 us x1 ok1 hu => ?_⟩
    unfold VRs at hu
    obtain ⟨u1, us1, rfl, h1, hu⟩ := hu
    unfold VRs at hu
    obtain ⟨u2, us2, rfl, h2, hu⟩ := hu
    unfold VRs at hu
    obtain ⟨u3, us3, rfl, h3, hu⟩ := hu
    unfold VRs at hu
    subst hu
    exact ⟨u1, u2, u3, rfl, k r1 H1 _ x1 (((ok1.set i h1).set j h2).set l h3)⟩
  · cases hm
end
end Gm

set_option Elab.async false
set_option linter.all false
set_option maxRecDepth 100000
set_option maxHeartbeats 400000
/-! Gm27: the head's facts: tables, tuples, more that is decided; the layer's facts from them. -/
namespace Gm
open PySem PySem.Spec PyProof.Rows L2
/-! ### the Hook: facts, defs, tables, and more that is decided of what is looked at -/
abbrev AlM : Type := He.AlT × Bool
def obsM (fa : List He.Fa) (fn : List He.DefD) (ts : List He.Tab) (ex : List (PySem.W.Frag → Bool)) (K : PySem.W.Frag) : AlM := (He.obsT fa fn ts K, ex.all fun f => f K)
def valM (fn : List He.DefD) (ts : List He.Tab) (w : World) : AlM := (He.valT fn ts w, true)
def obsMG (n : List Addr) (fa : List He.Fa) (fn : List He.DefD) (ts : List He.Tab) (ex : List (PySem.W.Frag → Bool)) (g : Addr → Option Obj) : AlM := obsM fa fn ts ex (He.frG g n)
def SaysM (fa : List He.Fa) (fn : List He.DefD) (ts : List He.Tab) (ex : List (PySem.W.Frag → Bool)) (w : World) (K : PySem.W.Frag) : Prop := obsM fa fn ts ex K = valM fn ts w
def hookM (n : List Addr) (fa : List He.Fa) (fn : List He.DefD) (ts : List He.Tab) (ex : List (PySem.W.Frag → Bool)) : PySem.W.Hook where
  α := AlM
  obs := fun s => obsMG n fa fn ts ex s.heap.get?
  val := fun w => valM fn ts w
  says := fun w h => ∃ K : PySem.W.Frag, K.In h ∧ SaysM fa fn ts ex w K
  of := fun _ _ e => ⟨_, He.frG_in, e⟩
  keeps := fun _ _ _ ⟨K, hK, c⟩ k => ⟨K, PySem.W.Frag.In.keeps hK k, c⟩
theorem obsMG_eq {n : List Addr} {fa : List He.Fa} {fn : List He.DefD} {ts : List He.Tab} {ex : List (PySem.W.Frag → Bool)} {g : Addr → Option Obj} {s : Shared} (h : ∀ a, g a = s.heap.get? a) : obsMG n fa fn ts ex g = (hookM n fa fn ts ex).obs s := by
  have e : g = s.heap.get? := funext h
  rw [e] <;> rfl
section
variable {fa : List He.Fa} {fn : List He.DefD} {ts : List He.Tab} {ex : List (PySem.W.Frag → Bool)} {w : World} {K : PySem.W.Frag}
theorem SaysM.t (c : SaysM fa fn ts ex w K) : He.SaysT fa fn ts w K := congrArg (fun z : AlM => z.1) c
theorem SaysM.x (c : SaysM fa fn ts ex w K) (i : Nat) {f : PySem.W.Frag → Bool} (h : ex[i]? = some f := by rfl) : f K = true := by
  have e : (ex.all fun f => f K) = true := congrArg (fun z : AlM => z.2) c
  exact List.all_eq_true.mp e f (List.mem_of_getElem? h)
end
/-! ### the layer's facts -/
section
variable {K : PySem.W.Frag} {mg : PySem.Str → Option Value} {w : World}
theorem hasFld_of {cs : List PySem.Str} {f : PySem.Str} (h : ∀ c ∈ cs, mg c = some (.ref (He.ga K c)) ∧ Cls K (He.ga K c) ∧ NoAttr K (He.ga K c) f) : HasFld K mg cs f := fun c hc C hC => by
  obtain ⟨h1, h2, h3⟩ := h c hc
  rw [h1] at hC
  cases hC
  exact ⟨h2, h3⟩
theorem kt_of {x : PySem.Str} {vs : List He.Dv} (h : He.tupB K x vs = true) : KT K (He.ga K x) (vs.map (He.Dv.v K)) := by
  rcases He.tupB_ok h (fun _ => none) with (h | ⟨o, h⟩) | h
  · cases h
  · cases h
  · exact h
theorem kd_of {x : PySem.Str} {es : Array DictEntry} {n : Nat} {kvs : List (PySem.Str × He.Dv)} {tbl : List (PySem.Str × W)} (hg : mg x = some (.ref (He.ga K x))) (kd : KDict K w (He.ga K x) es n) (h : He.valsB K (He.ga K x) kvs = true)
    (ht : ∀ z wv, tbl.lookup z = some wv → ∃ d, (z, d) ∈ kvs ∧ ∀ r n H, VR K mg r n H wv (d.v K)) : HasKd K w mg x tbl :=
  ⟨_, es, n, hg, kd, fun z wv e => by
    obtain ⟨d, hd, hv⟩ := ht z wv e
    obtain ⟨u, h1, h2⟩ := He.valsB_ok h hd
    exact ⟨u, _, h1, h2, hv⟩⟩
/-- a table's values, read off -/
theorem look_of {kvs : List (PySem.Str × He.Dv)} {P : W → He.Dv → Prop} : ∀ {tbl : List (PySem.Str × W)} {ds : List He.Dv}, tbl.length = ds.length → (∀ (i : Nat) (z : PySem.Str) (wv : W) (d : He.Dv), tbl[i]? = some (z, wv) → ds[i]? = some d → (z, d) ∈ kvs ∧ P wv d) → ∀ z wv, tbl.lookup z = some wv → ∃ d, (z, d) ∈ kvs ∧ P wv d
  | [], _, _, _, z, wv, e => by cases e
  | (y, v) :: tbl, [], hl, _, z, wv, e => by cases hl
  | (y, v) :: tbl, d :: ds, hl, h, z, wv, e => by
    rw [List.lookup_cons] at e
    cases hb : z == y with
    | true =>
      rw [hb] at e
      cases e
      have hx : z = y := eq_of_beq hb
      subst hx
      exact ⟨d, h 0 z _ d rfl rfl⟩
    | false =>
      rw [hb] at e
      exact look_of (by simpa using hl) (fun i z wv d h1 h2 => h (i + 1) z wv d h1 h2) z wv e
/-- a class's function, read off the class -/
def clsFnB (c m : PySem.Str) (K : PySem.W.Frag) : Bool := PySem.W.readsIn K (He.ga K c) (.type "type") && (He.eqO (PySem.W.specialIn K (.ref (He.ga K c)) "__getattribute__") (some (some (.builtin "type.__getattribute__"))) &&
  match PySem.W.findCls K (.ref (He.ga K c)) (.type "type") m with
  | some (.val (.ref f)) => decide (f = He.ma K (He.ga K c) m)
  | _ => false)
theorem clsFn_of {P : Program} {base : Heap} {c m : PySem.Str} {k n : Nat} {F : Fn} (hg : mg c = some (.ref (He.ga K c))) (h : clsFnB c m K = true) (hc : Cl P w K mg base k (He.ma K (He.ga K c) m) n F) : HasClsFn P w K mg base k c m n F := by
  obtain ⟨h1, h2⟩ := He.ba h
  obtain ⟨h3, h4⟩ := He.ba h2
  refine ⟨_, .type "type", _, hg, ⟨h1, He.eqO_ok h3⟩, ⟨?_, rfl⟩, hc⟩
  split at h4
  · rename_i f e
    rw [← of_decide_eq_true h4]
    exact e
  · cases h4
end
end Gm
namespace Gm
open PySem PySem.Spec PyProof.Rows L2
theorem fr_nil : FlatRel [] [] := by
  unfold FlatRel
  rfl
theorem fr_cons {w : W} {ws : List W} {v : V} {vs : List V} (h : ∀ K mg r n H, VR K mg r n H w v) (t : FlatRel ws vs) : FlatRel (w :: ws) (v :: vs) := by
  unfold FlatRel
  exact ⟨v, vs, rfl, h, t⟩
theorem look2 {kvs : List (PySem.Str × He.Dv)} {P : W → He.Dv → Prop} : ∀ {tbl : List (PySem.Str × W)}, (∀ p ∈ tbl, ∃ d, (p.1, d) ∈ kvs ∧ P p.2 d) → ∀ z wv, tbl.lookup z = some wv → ∃ d, (z, d) ∈ kvs ∧ P wv d
  | [], _, z, wv, e => by cases e
  | (y, v) :: tbl, h, z, wv, e => by
    rw [List.lookup_cons] at e
    cases hb : z == y with
    | true =>
      rw [hb] at e
      cases e
      have hx : z = y := eq_of_beq hb
      subst hx
      exact h _ (List.mem_cons_self ..)
    | false =>
      rw [hb] at e
      exact look2 (fun p hp => h p (List.mem_cons_of_mem _ hp)) z wv e
def etupB (p : PySem.W.Frag → Addr) (K : PySem.W.Frag) : Bool := match K.lookup (p K) with
  | some ⟨.type c, _, .seq its _, _⟩ => decide (c = "tuple") && its.isEmpty
  | _ => false
theorem etup_of {p : PySem.W.Frag → Addr} {K : PySem.W.Frag} (h : etupB p K = true) : KT K (p K) [] := by
  unfold etupB at h
  cases q : K.lookup (p K) with
  | none =>
    rw [q] at h
    cases h
  | some o =>
    obtain ⟨oc, od, dt, osl⟩ := o
    rw [q] at h
    cases oc with
    | type c =>
      cases dt with
      | seq its n =>
        obtain ⟨h1, h2⟩ := He.ba (show (decide (c = "tuple") && its.isEmpty) = true from h)
        have e := Array.isEmpty_iff.mp h2
        subst e
        exact ⟨_, #[], n, q, congrArg Value.type (of_decide_eq_true h1), rfl, Nat.zero_le _, .nil⟩
      | _ => cases h
    | _ => cases dt <;> cases h
/-- the start of the law's def -/
theorem law_start {K : PySem.W.Frag} {mg : PySem.Str → Option Value} {F : Fn} (hF : ∀ ns : List Int, ns.length ≤ 63 → ∃ S', F [.cl (ns.map .int)] [] = some (.bl true, S')) (H : Hp) (a : Addr) (ns : List Int) (hl : ns.length ≤ 63) (hO : Only H) (hS : SqL K H a (ns.map V.int)) :
    LfF K mg 1 F [.ref a] H (fun v _ => v = .bl true) fun _ _ _ => False := by
  obtain ⟨S', e⟩ := hF ns hl
  have hf : FrL K H a (ns.map V.int) := by
    rcases hS with (h | h) | h
    · rcases hO a with h2 | ⟨o, xs, h2⟩
      · rw [h] at h2
        cases h2
      · rw [h] at h2
        cases h2
    · exact .inl h
    · exact .inr (.inl h)
  have hv : ∀ ns : List Int, VRs K mg (fun _ => a) 0 H (ns.map W.int) (ns.map V.int) := by
    intro ns
    induction ns with
    | nil => exact VRs.nil
    | cons n ns ih => exact VRs.cons (vr_int.mpr rfl) ih
  refine ⟨fun _ => a, [], [.cl (ns.map .int)], .bl true, S', ⟨fun i o h => by simp at h, fun i j h => absurd h (Nat.not_lt_zero _)⟩, VRs.cons (vr_cl.mpr ⟨a, _, rfl, hf, hv ns⟩) VRs.nil, rfl, e, fun r' H' u x R hu => vr_bl.mp hu⟩
end Gm

set_option linter.all false
set_option maxRecDepth 100000
namespace Gm
open PySem (Str)
def cs_all_bodies : List Str := ["Program"]
def cs_all_kinds : List Str := ["Program"]
def cs_body : List Str := ["Frame"]
def cs_boxes : List Str := ["Frame"]
def cs_ending : List Str := ["Plain"]
def cs_entries : List Str := ["World", "Program"]
def cs_field_names : List Str := ["World"]
def cs_frames : List Str := ["Plain"]
def cs_heap : List Str := ["World"]
def cs_long : List Str := ["Limits"]
def cs_many : List Str := ["Limits"]
def cs_names : List Str := ["Limits"]
def cs_passed : List Str := ["Plain"]
def cs_plan : List Str := ["World"]
def cs_profile : List Str := ["Plain"]
def cs_row : List Str := ["Frame"]
def cs_source : List Str := ["World"]
def cs_told : List Str := ["World"]
def cs_wide : List Str := ["Limits"]
def cs_world : List Str := ["Plain"]
def d_DEEDS : List (Str × W) := [("number", .glo "do_number"), ("nothing", .glo "do_nothing"), ("copy", .glo "do_copy"), ("plus", .glo "do_reckoned"), ("less", .glo "do_reckoned"), ("times", .glo "do_reckoned"), ("under", .glo "do_reckoned"), ("same", .glo "do_reckoned"), ("make", .glo "do_make"), ("get", .glo "do_get"), ("put", .glo "do_put"), ("call", .glo "do_call"), ("give", .glo "do_give"), ("go", .glo "do_go"), ("if", .glo "do_if"), ("tell", .glo "do_tell"), ("anew", .glo "do_anew")]
def d_FORMS : List (Str × W) := [("number", .str "bn"), ("nothing", .str "b"), ("copy", .str "bb"), ("plus", .str "bbb"), ("less", .str "bbb"), ("times", .str "bbb"), ("under", .str "bbb"), ("same", .str "bbb"), ("make", .str "bk"), ("get", .str "bbf"), ("put", .str "bfb"), ("call", .str "bfa"), ("give", .str "b"), ("go", .str "r"), ("if", .str "br"), ("tell", .str "b"), ("anew", .str "efy")]
def b_is_whole : MS :=
  (sRet (mAnd (op1 (fIs "int") (mVar 0)) (mAnd (mNot (op1 (fIs "bool") (mVar 0))) (mChain fLe fLe (mVar 1) (mVar 0) (mVar 2)))))
def F_is_whole : Fn := fnOf 3 b_is_whole
def b_is_number : MS :=
  (sRet (mCallN 3 F_is_whole (aCons (mVar 0) (aCons (op1 fNeg (mC (.int 1000000000))) (aCons (mC (.int 1000000000)) aNil)))))
def F_is_number : Fn := fnOf 1 b_is_number
def b_is_list : MS :=
  (sRet (op1 (fIs2 "list" "tuple") (mVar 0)))
def F_is_list : Fn := fnOf 1 b_is_list
def b_is_name : MS :=
  (sRet (mAnd (op1 (fIs "str") (mVar 0)) (mAnd (mChain fLe fLe (mC (.int 1)) (mLen (mVar 0)) (mC (.int 8))) (mAll (aComp (iStr (mVar 0)) (gName 1) tYes (op2 fInSign (mVar 1) (mC (.str "abcdefghijklmnopqrstuvwxyz"))) [1])))))
def F_is_name : Fn := fnOf 2 b_is_name
def b_Frame_init : MS :=
  (sSeq2 (sFld cs_body (mVar 0) "body" (mVar 1))
    (sSeq2 (sFld cs_row (mVar 0) "row" (mVar 2))
    (sFld cs_boxes (mVar 0) "boxes" (mNew (aSeq (mVar 3))))))
def F_Frame_init : Fn := fnOf 4 b_Frame_init
def b_World_rows_of : MS :=
  (sSeq2 (sAsg (op2 fIx (op1 (fld cs_plan "plan") (mVar 0)) (mVar 1)) (gTupN 3 (gCons (gName 2) (gCons (gName 3) (gCons (gName 4) gNil)))))
    (sRet (mVar 4)))
def F_World_rows_of : Fn := fnOf 5 b_World_rows_of
def b_World_kind_of : MS :=
  (sSeq2 (sIf (tVal (op1 fIsN (mVar 1))) (sRet (mC (.str "nothing"))) sNil)
    (sRet (mIf (tVal (op1 (fIs "tuple") (mVar 1))) (op2 fIx (op2 fIx (op1 (fld cs_heap "heap") (mVar 0)) (op2 fIx (mVar 1) (mC (.int 1)))) (mC (.int 0))) (mC (.str "number")))))
def F_World_kind_of : Fn := fnOf 2 b_World_kind_of
def b_World_made : MS :=
  (sSeq2 (sDrop (mAppend (op1 (fld cs_heap "heap") (mVar 0)) (mTup (aCons (mVar 1) (aCons (mNew (aSeq (mVar 2))) aNil)))))
    (sRet (mTup (aCons (mC (.str "at")) (aCons (op2 fSub (mLen (op1 (fld cs_heap "heap") (mVar 0))) (mC (.int 1))) aNil)))))
def F_World_made : Fn := fnOf 3 b_World_made
def b_World_made_empty : MS :=
  (sRet (mMethN "World" "made" 3 F_World_made (mVar 0) (aCons (mVar 1) (aCons (mNew (aRep (aMax (aCons (mC .non) aNil)) (mLen (op2 fGetD (op1 (fld cs_field_names "field_names") (mVar 0)) (mVar 1))))) aNil))))
def F_World_made_empty : Fn := fnOf 2 b_World_made_empty
def F_World_place_in : Fn := noF
def b_World_as_event : MS :=
  (sRet (mIf (tVal (op1 (fIs "tuple") (mVar 1))) (mMethN "World" "kind_of" 2 F_World_kind_of (mVar 0) (aCons (mVar 1) aNil)) (mVar 1)))
def F_World_as_event : Fn := fnOf 2 b_World_as_event
def b_World_new_frame : MS :=
  (sSeq2 (sAsg (mGet1 (op1 (fld cs_entries "entries") (mVar 0)) (mTup (aCons (mMethN "World" "kind_of" 2 F_World_kind_of (mVar 0) (aCons (mVar 1) aNil)) (aCons (mVar 2) aNil)))) (gName 5))
    (sSeq2 (sIf (tVal (op1 fIsN (mVar 5))) (sRet (mTup (aCons (mC (.str "method")) (aCons (mC .non) aNil)))) sNil)
    (sSeq2 (sAsg (op2 fIx (op1 (fld cs_plan "plan") (mVar 0)) (mVar 5)) (gTupN 3 (gCons (gName 6) (gCons (gName 7) (gCons (gName 8) gNil)))))
    (sSeq2 (sIf (tVal (op2 fNe (mVar 6) (mVar 3))) (sRet (mTup (aCons (mC (.str "takes")) (aCons (mC .non) aNil)))) sNil)
    (sSeq2 (sIf (tVal (op2 fGe (mVar 4) (mC (.int 40)))) (sRet (mTup (aCons (mC (.str "deep")) (aCons (mC .non) aNil)))) sNil)
    (sRet (mTup (aCons (mC .non) (aCons (mMakeN "Frame" 4 F_Frame_init (aCons (mVar 5) (aCons (mC (.int 0)) (aCons (mNew (aRep (aMax (aCons (mC .non) aNil)) (mVar 7))) aNil)))) aNil)))))))))
def F_World_new_frame : Fn := fnOf 9 b_World_new_frame
def b_is_true : MS :=
  (sRet (mAnd (op1 fNotN (mVar 0)) (op2 fNe (mVar 0) (mC (.int 0)))))
def F_is_true : Fn := fnOf 1 b_is_true
def b_reckoned : MS :=
  (sSeq2 (sIf (tVal (op2 fEq (mVar 0) (mC (.str "same")))) (sRet (mTup (aCons (mC .non) (aCons (op1 fInt (op2 fEq (mVar 1) (mVar 2))) aNil)))) sNil)
    (sSeq2 (sIf (tOr (tNot (tVal (op1 (fIs "int") (mVar 1)))) (tNot (tVal (op1 (fIs "int") (mVar 2))))) (sRet (mTup (aCons (mC (.str "number")) (aCons (mC .non) aNil)))) sNil)
    (sSeq2 (sIf (tVal (op2 fEq (mVar 0) (mC (.str "under")))) (sRet (mTup (aCons (mC .non) (aCons (op1 fInt (op2 fLt (mVar 1) (mVar 2))) aNil)))) sNil)
    (sSeq2 (sAsg (op2 fMul (mVar 1) (mVar 2)) (gName 3))
    (sSeq2 (sIf (tVal (op2 fEq (mVar 0) (mC (.str "plus")))) (sAsg (op2 fAdd (mVar 1) (mVar 2)) (gName 3)) (sIf (tVal (op2 fEq (mVar 0) (mC (.str "less")))) (sAsg (op2 fSub (mVar 1) (mVar 2)) (gName 3)) sNil))
    (sRet (mIf (tVal (mChain fLe fLe (op1 fNeg (mC (.int 1000000000))) (mVar 3) (mC (.int 1000000000)))) (mTup (aCons (mC .non) (aCons (mVar 3) aNil))) (mTup (aCons (mC (.str "great")) (aCons (mC .non) aNil))))))))))
def F_reckoned : Fn := fnOf 4 b_reckoned
def b_are_unlike : MS :=
  (sRet (op2 fEq (mLenSet (iSeq (mVar 0)) (gName 1) tYes (mVar 1) [1]) (mLen (mVar 0))))
def F_are_unlike : Fn := fnOf 2 b_are_unlike
def b_are_names : MS :=
  (sRet (mAnd (mCallN 1 F_is_list (aCons (mVar 0) aNil)) (mAnd (op2 fLe (mLen (mVar 0)) (mVar 1)) (mAnd (mAll (aComp (iSeq (mVar 0)) (gName 2) tYes (mCallN 1 F_is_name (aCons (mVar 2) aNil)) [2])) (mCallN 1 F_are_unlike (aCons (mVar 0) aNil))))))
def F_are_names : Fn := fnOf 3 b_are_names
def b_is_kind : MS :=
  (sSeq2 (sIf (tOr (tNot (tVal (mCallN 1 F_is_list (aCons (mVar 0) aNil)))) (tOr (tVal (op2 fNe (mLen (mVar 0)) (mC (.int 2)))) (tOr (tNot (tVal (mCallN 1 F_is_name (aCons (op2 fIx (mVar 0) (mC (.int 0))) aNil)))) (tVal (op2 fIn (op2 fIx (mVar 0) (mC (.int 0))) (mC (.wt [.str "number", .str "nothing"]))))))) (sRet (mC (.bl false))) sNil)
    (sRet (mCallN 2 F_are_names (aCons (op2 fIx (mVar 0) (mC (.int 1))) (aCons (mC (.int 4)) aNil)))))
def F_is_kind : Fn := fnOf 1 b_is_kind
def b_is_body : MS :=
  (sSeq2 (sIf (tOr (tNot (tVal (mCallN 1 F_is_list (aCons (mVar 0) aNil)))) (tOr (tVal (op2 fNe (mLen (mVar 0)) (mC (.int 3)))) (tNot (tVal (mCallN 3 F_is_whole (aCons (op2 fIx (mVar 0) (mC (.int 1))) (aCons (mC (.int 1)) (aCons (mC (.int 6)) aNil)))))))) (sRet (mC (.bl false))) sNil)
    (sRet (mAnd (mCallN 3 F_is_whole (aCons (op2 fIx (mVar 0) (mC (.int 0))) (aCons (mC (.int 0)) (aCons (op2 fIx (mVar 0) (mC (.int 1))) aNil)))) (mAnd (mCallN 1 F_is_list (aCons (op2 fIx (mVar 0) (mC (.int 2))) aNil)) (op2 fLe (mLen (op2 fIx (mVar 0) (mC (.int 2)))) (mC (.int 30)))))))
def F_is_body : Fn := fnOf 1 b_is_body
def b_is_entry : MS :=
  (sSeq2 (sIf (tOr (tNot (tVal (op1 (fIs "tuple") (mVar 0)))) (tOr (tVal (op2 fNe (mLen (mVar 0)) (mC (.int 2)))) (tNot (tVal (op1 (fIs "str") (op2 fIx (mVar 0) (mC (.int 0)))))))) (sRet (mC (.bl false))) sNil)
    (sRet (mAnd (op2 fIn (op2 fIx (mVar 0) (mC (.int 0))) (mVar 2)) (mAnd (mCallN 1 F_is_name (aCons (op2 fIx (mVar 0) (mC (.int 1))) aNil)) (mCallN 3 F_is_whole (aCons (mVar 1) (aCons (mC (.int 0)) (aCons (op2 fSub (mVar 3) (mC (.int 1))) aNil))))))))
def F_is_entry : Fn := fnOf 4 b_is_entry
def b_Limits_init : MS :=
  (sSeq2 (sFld cs_names (mVar 0) "names" (mVar 1))
    (sSeq2 (sFld cs_many (mVar 0) "many" (mVar 2))
    (sSeq2 (sFld cs_wide (mVar 0) "wide" (mVar 3))
    (sFld cs_long (mVar 0) "long" (mVar 4)))))
def F_Limits_init : Fn := fnOf 5 b_Limits_init
def b_Limits_fits (F_self : Fn) : MS :=
  (sSeq2 (sIf (tVal (op2 fEq (mVar 1) (mC (.str "b")))) (sRet (mCallN 3 F_is_whole (aCons (mVar 2) (aCons (mC (.int 0)) (aCons (op2 fSub (op1 (fld cs_wide "wide") (mVar 0)) (mC (.int 1))) aNil))))) sNil)
    (sSeq2 (sIf (tVal (op2 fEq (mVar 1) (mC (.str "n")))) (sRet (mCallN 1 F_is_number (aCons (mVar 2) aNil))) sNil)
    (sSeq2 (sIf (tVal (op2 fEq (mVar 1) (mC (.str "f")))) (sRet (mCallN 1 F_is_name (aCons (mVar 2) aNil))) sNil)
    (sSeq2 (sIf (tVal (op2 fEq (mVar 1) (mC (.str "r")))) (sRet (mCallN 3 F_is_whole (aCons (mVar 2) (aCons (mC (.int 0)) (aCons (op1 (fld cs_long "long") (mVar 0)) aNil))))) sNil)
    (sSeq2 (sIf (tVal (op2 fEq (mVar 1) (mC (.str "y")))) (sRet (mCallN 3 F_is_whole (aCons (mVar 2) (aCons (mC (.int 0)) (aCons (op2 fSub (op1 (fld cs_many "many") (mVar 0)) (mC (.int 1))) aNil))))) sNil)
    (sSeq2 (sIf (tVal (op2 fEq (mVar 1) (mC (.str "a")))) (sSeq2 (sAsg (mAnd (op1 (fIs "tuple") (mVar 2)) (mChain fLe fLe (mC (.int 1)) (mLen (mVar 2)) (mC (.int 6)))) (gName 3))
    (sRet (mAnd (mVar 3) (mAll (aComp (iSeq (mVar 2)) (gName 4) tYes (mMethN "Limits" "fits" 3 F_self (mVar 0) (aCons (mC (.str "b")) (aCons (mVar 4) aNil))) [4]))))) sNil)
    (sRet (mAnd (op1 (fIs "str") (mVar 2)) (mAnd (op2 fIn (mVar 2) (op1 (fld cs_names "names") (mVar 0))) (mOr (op2 fEq (mVar 1) (mC (.str "e"))) (op2 fNotIn (mVar 2) (mC (.wt [.str "number", .str "nothing"])))))))))))))
def F_Limits_fits : Nat → Fn
  | 0 => noF
  | n + 1 => fnOf 5 (b_Limits_fits (F_Limits_fits n))
def b_Limits_lets : MS :=
  (sSeq2 (sIf (tOr (tNot (tVal (op1 (fIs "tuple") (mVar 1)))) (tVal (op2 fEq (mVar 1) (mTup aNil)))) (sRet (mC (.bl false))) sNil)
    (sSeq2 (sAsg (mVar 1) (gStar (gName 2) (gName 3)))
    (sSeq2 (sIf (tOr (tNot (tVal (op1 (fIs "str") (mVar 2)))) (tOr (tVal (op1 (fNotInK d_FORMS) (mVar 2))) (tVal (op2 fNe (mLen (op1 (fGetK d_FORMS) (mVar 2))) (mLen (mVar 3)))))) (sRet (mC (.bl false))) sNil)
    (sRet (mAll (aComp (iZipX (op1 (fGetK d_FORMS) (mVar 2)) (mVar 3)) (gTupN 2 (gCons (gName 4) (gCons (gName 5) gNil))) tYes (mMethN "Limits" "fits" 3 (F_Limits_fits 2) (mVar 0) (aCons (mVar 4) (aCons (mVar 5) aNil))) [4, 5]))))))
def F_Limits_lets : Fn := fnOf 6 b_Limits_lets
def b_limits_of : MS :=
  (sSeq2 (sAsg (op2 fIx (mVar 1) (mVar 2)) (gTupN 3 (gCons (gName 3) (gCons (gName 4) (gCons (gName 5) gNil)))))
    (sSeq2 (sAsg (mNew (aCat (aComp (iSeq (mVar 0)) (gName 7) tYes (op2 fIx (mVar 7) (mC (.int 0))) [7]) (aSeq (mC (.wt [.str "number", .str "nothing"]))))) (gName 6))
    (sRet (mMakeK "Limits" 1 3 F_Limits_init (aCons (mVar 6) aNil) (aCons (mLen (mVar 1)) (aCons (mVar 4) (aCons (mLen (mVar 5)) aNil)))))))
def F_limits_of : Fn := fnOf 8 b_limits_of
def b_are_parts : MS :=
  (sSeq2 (sIf (tOr (tNot (tVal (mCallN 1 F_is_list (aCons (mVar 0) aNil)))) (tOr (tVal (op2 fGt (mLen (mVar 0)) (mC (.int 6)))) (tNot (tVal (mAll (aComp (iSeq (mVar 0)) (gName 3) tYes (mCallN 1 F_is_kind (aCons (mVar 3) aNil)) [3])))))) (sRet (mC (.bl false))) sNil)
    (sSeq2 (sIf (tNot (tVal (mCallN 1 F_are_unlike (aCons (mNew (aComp (iSeq (mVar 0)) (gName 4) tYes (op2 fIx (mVar 4) (mC (.int 0))) [4])) aNil)))) (sRet (mC (.bl false))) sNil)
    (sSeq2 (sIf (tOr (tNot (tVal (mCallN 1 F_is_list (aCons (mVar 1) aNil)))) (tOr (tNot (tVal (mChain fLe fLe (mC (.int 1)) (mLen (mVar 1)) (mC (.int 12))))) (tNot (tVal (mAll (aComp (iSeq (mVar 1)) (gName 3) tYes (mCallN 1 F_is_body (aCons (mVar 3) aNil)) [3])))))) (sRet (mC (.bl false))) sNil)
    (sSeq2 (sAsg (mTup (aCons (mNew (aCat (aComp (iSeq (mVar 0)) (gName 4) tYes (op2 fIx (mVar 4) (mC (.int 0))) [4]) (aSeq (mC (.wt [.str "number", .str "nothing"]))))) (aCons (mLen (mVar 1)) aNil))) (gTupN 2 (gCons (gName 5) (gCons (gName 6) gNil))))
    (sSeq2 (sIf (tNot (tVal (op1 (fIs "dict") (mVar 2)))) (sRet (mC (.bl false))) sNil)
    (sRet (mAll (aItemsV 2 (gTupN 2 (gCons (gName 7) (gCons (gName 8) gNil))) tYes (mCallK 2 2 F_is_entry (aCons (mVar 7) (aCons (mVar 8) aNil)) (aCons (mVar 5) (aCons (mVar 6) aNil))) [7, 8]))))))))
def F_are_parts : Fn := fnOf 9 b_are_parts
def b_Program_init : MS :=
  (sSeq2 (sIf (tNot (tVal (mCallN 3 F_are_parts (aCons (mVar 1) (aCons (mVar 2) (aCons (mVar 3) aNil)))))) sNever sNil)
    (sSeq2 (sFor (iEnumX (mVar 2)) (gTupN 2 (gCons (gName 4) (gCons (gTupN 3 (gCons (gName 5) (gCons (gName 6) (gCons (gName 7) gNil)))) gNil))) (sSeq2 (sAsg (mCallN 3 F_limits_of (aCons (mVar 1) (aCons (mVar 2) (aCons (mVar 4) aNil)))) (gName 8))
    (sFor (iEnumX (mVar 7)) (gTupN 2 (gCons (gName 9) (gCons (gName 10) gNil))) (sIf (tNot (tVal (mMethN "Limits" "lets" 2 F_Limits_lets (mVar 8) (aCons (mVar 10) aNil)))) sNever sNil))))
    (sSeq2 (sFld cs_all_kinds (mVar 0) "all_kinds" (mTup (aComp (iSeq (mVar 1)) (gTupN 2 (gCons (gName 11) (gCons (gName 12) gNil))) tYes (mTup (aCons (mVar 11) (aCons (mTupOf (mVar 12)) aNil))) [11, 12])))
    (sSeq2 (sFld cs_all_bodies (mVar 0) "all_bodies" (mTup (aComp (iSeq (mVar 2)) (gTupN 3 (gCons (gName 5) (gCons (gName 6) (gCons (gName 7) gNil)))) tYes (mTup (aCons (mVar 5) (aCons (mVar 6) (aCons (mTupOf (mVar 7)) aNil)))) [5, 6, 7])))
    (sFld cs_entries (mVar 0) "entries" (mDcomp true (iLst (aSortD (mVar 3))) (gName 13) tYes (mVar 13) (op2 fGetD (mVar 3) (mVar 13)) [13]))))))
def F_Program_init : Fn := fnOf 14 b_Program_init
def b_Program_kinds : MS :=
  (sRet (mNew (aSeq (op1 (fld cs_all_kinds "all_kinds") (mVar 0)))))
def F_Program_kinds : Fn := fnOf 1 b_Program_kinds
def b_Program_bodies : MS :=
  (sRet (mNew (aSeq (op1 (fld cs_all_bodies "all_bodies") (mVar 0)))))
def F_Program_bodies : Fn := fnOf 1 b_Program_bodies
def b_Program_table : MS :=
  (sRet (mDictOf (op1 (fld cs_entries "entries") (mVar 0))))
def F_Program_table : Fn := fnOf 1 b_Program_table
def b_World_init : MS :=
  (sSeq2 (sFld cs_source (mVar 0) "source" (mVar 1))
    (sSeq2 (sFld cs_field_names (mVar 0) "field_names" (mDictP (mMethN "Program" "kinds" 1 F_Program_kinds (mVar 1) aNil)))
    (sSeq2 (sFld cs_plan (mVar 0) "plan" (mMethN "Program" "bodies" 1 F_Program_bodies (mVar 1) aNil))
    (sSeq2 (sFld cs_entries (mVar 0) "entries" (mMethN "Program" "table" 1 F_Program_table (mVar 1) aNil))
    (sSeq2 (sFld cs_heap (mVar 0) "heap" (mNew (aMax aNil)))
    (sFld cs_told (mVar 0) "told" (mNew (aMax aNil))))))))
def F_World_init : Fn := fnOf 2 b_World_init
def b_Rows_init : MS :=
  (sSeq2 (sFld cs_world (mVar 0) "world" (mMakeN "World" 2 F_World_init (aCons (mVar 1) aNil)))
    (sSeq2 (sFld cs_frames (mVar 0) "frames" (mNew (aMax aNil)))
    (sSeq2 (sFld cs_ending (mVar 0) "ending" (mC .non))
    (sSeq2 (sFld cs_passed (mVar 0) "passed" (mC (.int 0)))
    (sFld cs_profile (mVar 0) "profile" (mDNew true))))))
def F_Rows_init : Fn := fnOf 2 b_Rows_init
def b_Rows_depth : MS :=
  (sRet (mLen (op1 (fld cs_frames "frames") (mVar 0))))
def F_Rows_depth : Fn := fnOf 1 b_Rows_depth
def b_Rows_called : MS :=
  (sDrop (mAppend (op1 (fld cs_frames "frames") (mVar 0)) (mVar 1)))
def F_Rows_called : Fn := fnOf 2 b_Rows_called
def b_Rows_got : MS :=
  (sSeq2 (sAsg (op2 fIx (mMethN "World" "rows_of" 2 F_World_rows_of (op1 (fld cs_world "world") (mVar 0)) (aCons (op1 (fld cs_body "body") (mVar 1)) aNil)) (op1 (fld cs_row "row") (mVar 1))) (gName 3))
    (sSeq2 (sSetIx (mVar 2) (op1 (fld cs_boxes "boxes") (mVar 1)) (op2 fIx (mVar 3) (mC (.int 1))))
    (sFldAug cs_row (mVar 1) "row" (fun i j => i + j) (mC (.int 1)))))
def F_Rows_got : Fn := fnOf 4 b_Rows_got
def b_Rows_given : MS :=
  (sSeq2 (sDrop (mPop (op1 (fld cs_frames "frames") (mVar 0))))
    (sIf (tVal (op2 fEqL (op1 (fld cs_frames "frames") (mVar 0)) (mNew (aMax aNil)))) (sFld cs_ending (mVar 0) "ending" (mTup (aCons (mC (.str "gave")) (aCons (mMethN "World" "as_event" 2 F_World_as_event (op1 (fld cs_world "world") (mVar 0)) (aCons (mVar 1) aNil)) aNil)))) (sDrop (mMethN "Plain" "got" 3 F_Rows_got (mVar 0) (aCons (op2 fIx (op1 (fld cs_frames "frames") (mVar 0)) (op1 fNeg (mC (.int 1)))) (aCons (mVar 1) aNil))))))
def F_Rows_given : Fn := fnOf 2 b_Rows_given
def b_Rows_told_anew : MS :=
  (sPutD (mVar 2) (op1 (fld cs_entries "entries") (op1 (fld cs_world "world") (mVar 0))) (mVar 1))
def F_Rows_told_anew : Fn := fnOf 3 b_Rows_told_anew
def b_Rows_noted : MS :=
  (sIf (tVal (op1 fNotN (mVar 2))) (sSeq2 (sAsg (mSetD (op1 (fld cs_profile "profile") (mVar 0)) (mVar 1) (mDNew true)) (gName 3))
    (sPutD (mC (.bl true)) (mVar 3) (mVar 2))) sNil)
def F_Rows_noted : Fn := fnOf 4 b_Rows_noted
def b_do_number : MS :=
  (sSetIx (op2 fIx (mVar 2) (mC (.int 2))) (op1 (fld cs_boxes "boxes") (mVar 1)) (op2 fIx (mVar 2) (mC (.int 1))))
def F_do_number : Fn := fnOf 3 b_do_number
def b_do_nothing : MS :=
  (sSetIx (mC .non) (op1 (fld cs_boxes "boxes") (mVar 1)) (op2 fIx (mVar 2) (mC (.int 1))))
def F_do_nothing : Fn := fnOf 3 b_do_nothing
def b_do_copy : MS :=
  (sSetIx (op2 fIx (op1 (fld cs_boxes "boxes") (mVar 1)) (op2 fIx (mVar 2) (mC (.int 2)))) (op1 (fld cs_boxes "boxes") (mVar 1)) (op2 fIx (mVar 2) (mC (.int 1))))
def F_do_copy : Fn := fnOf 3 b_do_copy
def b_do_reckoned : MS :=
  (sSeq2 (sAsg (mVar 2) (gTupN 4 (gCons (gName 3) (gCons (gName 4) (gCons (gName 5) (gCons (gName 6) gNil))))))
    (sSeq2 (sAsg (mCallN 3 F_reckoned (aCons (mVar 3) (aCons (op2 fIx (op1 (fld cs_boxes "boxes") (mVar 1)) (mVar 5)) (aCons (op2 fIx (op1 (fld cs_boxes "boxes") (mVar 1)) (mVar 6)) aNil)))) (gTupN 2 (gCons (gName 7) (gCons (gName 8) gNil))))
    (sSeq2 (sIf (tVal (op1 fIsN (mVar 7))) (sSetIx (mVar 8) (op1 (fld cs_boxes "boxes") (mVar 1)) (mVar 4)) sNil)
    (sRet (mVar 7)))))
def F_do_reckoned : Fn := fnOf 9 b_do_reckoned
def b_do_make : MS :=
  (sSetIx (mMethN "World" "made_empty" 2 F_World_made_empty (op1 (fld cs_world "world") (mVar 0)) (aCons (op2 fIx (mVar 2) (mC (.int 2))) aNil)) (op1 (fld cs_boxes "boxes") (mVar 1)) (op2 fIx (mVar 2) (mC (.int 1))))
def F_do_make : Fn := fnOf 3 b_do_make
def b_do_get : MS :=
  (sSeq2 (sAsg (mMethN "World" "place_in" 3 F_World_place_in (op1 (fld cs_world "world") (mVar 0)) (aCons (op2 fIx (op1 (fld cs_boxes "boxes") (mVar 1)) (op2 fIx (mVar 2) (mC (.int 2)))) (aCons (op2 fIx (mVar 2) (mC (.int 3))) aNil))) (gName 3))
    (sSeq2 (sIf (tVal (op1 fIsN (mVar 3))) (sRet (mC (.str "field"))) sNil)
    (sSeq2 (sAsg (mVar 3) (gTupN 2 (gCons (gName 4) (gCons (gName 5) gNil))))
    (sSetIx (op2 fIx (mVar 4) (mVar 5)) (op1 (fld cs_boxes "boxes") (mVar 1)) (op2 fIx (mVar 2) (mC (.int 1)))))))
def F_do_get : Fn := fnOf 6 b_do_get
def b_do_put : MS :=
  (sSeq2 (sAsg (mMethN "World" "place_in" 3 F_World_place_in (op1 (fld cs_world "world") (mVar 0)) (aCons (op2 fIx (op1 (fld cs_boxes "boxes") (mVar 1)) (op2 fIx (mVar 2) (mC (.int 1)))) (aCons (op2 fIx (mVar 2) (mC (.int 2))) aNil))) (gName 3))
    (sSeq2 (sIf (tVal (op1 fIsN (mVar 3))) (sRet (mC (.str "field"))) sNil)
    (sSeq2 (sAsg (mVar 3) (gTupN 2 (gCons (gName 4) (gCons (gName 5) gNil))))
    (sSetIx (op2 fIx (op1 (fld cs_boxes "boxes") (mVar 1)) (op2 fIx (mVar 2) (mC (.int 3)))) (mVar 4) (mVar 5)))))
def F_do_put : Fn := fnOf 6 b_do_put
def b_do_call : MS :=
  (sSeq2 (sAsg (mVar 2) (gTupN 4 (gCons (gName 3) (gCons (gName 4) (gCons (gName 5) (gCons (gName 6) gNil))))))
    (sSeq2 (sAsg (mNew (aComp (iSeq (mVar 6)) (gName 8) tYes (op2 fIx (op1 (fld cs_boxes "boxes") (mVar 1)) (mVar 8)) [8])) (gName 7))
    (sSeq2 (sAsg (mMethN "World" "new_frame" 5 F_World_new_frame (op1 (fld cs_world "world") (mVar 0)) (aCons (op2 fIx (mVar 7) (mC (.int 0))) (aCons (mVar 5) (aCons (mLen (mVar 7)) (aCons (mMethN "Plain" "depth" 1 F_Rows_depth (mVar 0) aNil) aNil))))) (gTupN 2 (gCons (gName 9) (gCons (gName 10) gNil))))
    (sSeq2 (sIf (tVal (op1 fIsN (mVar 9))) (sSeq2 (sSetSl (mVar 7) (op1 (fld cs_boxes "boxes") (mVar 10)) (mLen (mVar 7)))
    (sDrop (mMethN "Plain" "called" 2 F_Rows_called (mVar 0) (aCons (mVar 10) aNil)))) sNil)
    (sRet (mVar 9))))))
def F_do_call : Fn := fnOf 11 b_do_call
def b_do_give : MS :=
  (sDrop (mMethN "Plain" "given" 2 F_Rows_given (mVar 0) (aCons (op2 fIx (op1 (fld cs_boxes "boxes") (mVar 1)) (op2 fIx (mVar 2) (mC (.int 1)))) aNil)))
def F_do_give : Fn := fnOf 3 b_do_give
def b_do_go : MS :=
  (sFld cs_row (mVar 1) "row" (op2 fIx (mVar 2) (mC (.int 1))))
def F_do_go : Fn := fnOf 3 b_do_go
def b_do_if : MS :=
  (sFld cs_row (mVar 1) "row" (mIf (tVal (mCallN 1 F_is_true (aCons (op2 fIx (op1 (fld cs_boxes "boxes") (mVar 1)) (op2 fIx (mVar 2) (mC (.int 1)))) aNil))) (op2 fIx (mVar 2) (mC (.int 2))) (op2 fAdd (op1 (fld cs_row "row") (mVar 1)) (mC (.int 1)))))
def F_do_if : Fn := fnOf 3 b_do_if
def b_do_tell : MS :=
  (sDrop (mAppend (op1 (fld cs_told "told") (op1 (fld cs_world "world") (mVar 0))) (mMethN "World" "as_event" 2 F_World_as_event (op1 (fld cs_world "world") (mVar 0)) (aCons (op2 fIx (op1 (fld cs_boxes "boxes") (mVar 1)) (op2 fIx (mVar 2) (mC (.int 1)))) aNil))))
def F_do_tell : Fn := fnOf 3 b_do_tell
def b_do_anew : MS :=
  (sSeq2 (sAsg (mVar 2) (gTupN 4 (gCons (gName 3) (gCons (gName 4) (gCons (gName 5) (gCons (gName 6) gNil))))))
    (sDrop (mMethN "Plain" "told_anew" 3 F_Rows_told_anew (mVar 0) (aCons (mTup (aCons (mVar 4) (aCons (mVar 5) aNil))) (aCons (mVar 6) aNil)))))
def F_do_anew : Fn := fnOf 7 b_do_anew
def b_seen_of : MS :=
  (sSeq2 (sAsg (op2 fIx (mVar 2) (mC (.int 0))) (gName 3))
    (sSeq2 (sIf (tVal (op2 fIn (mVar 3) (mTup (aCons (mC (.str "plus")) (aCons (mC (.str "less")) (aCons (mC (.str "times")) (aCons (mC (.str "under")) aNil))))))) (sRet (mTup (aCons (mMethN "World" "kind_of" 2 F_World_kind_of (mVar 0) (aCons (op2 fIx (op1 (fld cs_boxes "boxes") (mVar 1)) (op2 fIx (mVar 2) (mC (.int 2)))) aNil)) (aCons (mMethN "World" "kind_of" 2 F_World_kind_of (mVar 0) (aCons (op2 fIx (op1 (fld cs_boxes "boxes") (mVar 1)) (op2 fIx (mVar 2) (mC (.int 3)))) aNil)) aNil)))) sNil)
    (sSeq2 (sIf (tVal (op2 fEq (mVar 3) (mC (.str "get")))) (sRet (mTup (aCons (mMethN "World" "kind_of" 2 F_World_kind_of (mVar 0) (aCons (op2 fIx (op1 (fld cs_boxes "boxes") (mVar 1)) (op2 fIx (mVar 2) (mC (.int 2)))) aNil)) aNil))) sNil)
    (sSeq2 (sIf (tVal (op2 fEq (mVar 3) (mC (.str "put")))) (sRet (mTup (aCons (mMethN "World" "kind_of" 2 F_World_kind_of (mVar 0) (aCons (op2 fIx (op1 (fld cs_boxes "boxes") (mVar 1)) (op2 fIx (mVar 2) (mC (.int 1)))) aNil)) aNil))) sNil)
    (sSeq2 (sIf (tVal (op2 fEq (mVar 3) (mC (.str "call")))) (sRet (mTup (aCons (mMethN "World" "kind_of" 2 F_World_kind_of (mVar 0) (aCons (op2 fIx (op1 (fld cs_boxes "boxes") (mVar 1)) (op2 fIx (op2 fIx (mVar 2) (mC (.int 3))) (mC (.int 0)))) aNil)) aNil))) sNil)
    (sSeq2 (sIf (tVal (op2 fEq (mVar 3) (mC (.str "if")))) (sSeq2 (sAsg (op2 fIx (op1 (fld cs_boxes "boxes") (mVar 1)) (op2 fIx (mVar 2) (mC (.int 1)))) (gName 4))
    (sRet (mTup (aCons (mMethN "World" "kind_of" 2 F_World_kind_of (mVar 0) (aCons (mVar 4) aNil)) (aCons (op1 fInt (mCallN 1 F_is_true (aCons (mVar 4) aNil))) aNil))))) sNil)
    (sRet (mC .non))))))))
def F_seen_of : Fn := fnOf 5 b_seen_of
def fs_DEEDS : List (Str × Fn) := [("do_number", F_do_number), ("do_nothing", F_do_nothing), ("do_copy", F_do_copy), ("do_reckoned", F_do_reckoned), ("do_make", F_do_make), ("do_get", F_do_get), ("do_put", F_do_put), ("do_call", F_do_call), ("do_give", F_do_give), ("do_go", F_do_go), ("do_if", F_do_if), ("do_tell", F_do_tell), ("do_anew", F_do_anew)]
def b_Rows_do_row : MS :=
  (sSeq2 (sAsg (op2 fIx (op1 (fld cs_frames "frames") (mVar 0)) (op1 fNeg (mC (.int 1)))) (gName 1))
    (sSeq2 (sAsg (mMethN "World" "rows_of" 2 F_World_rows_of (op1 (fld cs_world "world") (mVar 0)) (aCons (op1 (fld cs_body "body") (mVar 1)) aNil)) (gName 2))
    (sSeq2 (sIf (tVal (op2 fEq (op1 (fld cs_row "row") (mVar 1)) (mLen (mVar 2)))) (sDrop (mMethN "Plain" "given" 2 F_Rows_given (mVar 0) (aCons (mC .non) aNil))) (sSeq2 (sPar 3 4 (aCons (op2 fIx (mVar 2) (op1 (fld cs_row "row") (mVar 1))) (aCons (mTup (aCons (op1 (fld cs_body "body") (mVar 1)) (aCons (op1 (fld cs_row "row") (mVar 1)) aNil))) aNil)))
    (sSeq2 (sAsg (mCallN 3 F_seen_of (aCons (op1 (fld cs_world "world") (mVar 0)) (aCons (mVar 1) (aCons (mVar 3) aNil)))) (gName 5))
    (sSeq2 (sAsg (op1 (fGetK d_DEEDS) (op2 fIx (mVar 3) (mC (.int 0)))) (gName 6))
    (sSeq2 (sAsg (mCallV 6 3 fs_DEEDS (aCons (mVar 0) (aCons (mVar 1) (aCons (mVar 3) aNil)))) (gName 7))
    (sSeq2 (sIf (tVal (op1 fNotN (mVar 7))) (sSeq2 (sFld cs_ending (mVar 0) "ending" (mTup (aCons (mC (.str "fault")) (aCons (mVar 7) (aCons (op1 (fld cs_body "body") (mVar 1)) (aCons (op1 (fld cs_row "row") (mVar 1)) aNil))))))
    (sRet (mC (.bl false)))) sNil)
    (sSeq2 (sDrop (mMethN "Plain" "noted" 3 F_Rows_noted (mVar 0) (aCons (mVar 4) (aCons (mVar 5) aNil))))
    (sIf (tVal (op2 fNotIn (op2 fIx (mVar 3) (mC (.int 0))) (mC (.wt [.str "call", .str "give", .str "go", .str "if"])))) (sFldAug cs_row (mVar 1) "row" (fun i j => i + j) (mC (.int 1))) sNil))))))))
    (sSeq2 (sFldAug cs_passed (mVar 0) "passed" (fun i j => i + j) (mC (.int 1)))
    (sRet (mC (.bl true)))))))
def F_Rows_do_row : Fn := fnOf 8 b_Rows_do_row
def b_Rows_done : MS :=
  (sRet (op1 (fld cs_passed "passed") (mVar 0)))
def F_Rows_done : Fn := fnOf 1 b_Rows_done
def b_Rows_events : MS :=
  (sRet (mNew (aSeq (op1 (fld cs_told "told") (op1 (fld cs_world "world") (mVar 0))))))
def F_Rows_events : Fn := fnOf 1 b_Rows_events
def b_Rows_end : MS :=
  (sRet (op1 (fld cs_ending "ending") (mVar 0)))
def F_Rows_end : Fn := fnOf 1 b_Rows_end
def b_Rows_table : MS :=
  (sRet (mDcomp true (iLst (aSortD (op1 (fld cs_entries "entries") (op1 (fld cs_world "world") (mVar 0))))) (gName 1) tYes (mVar 1) (op2 fGetD (op1 (fld cs_entries "entries") (op1 (fld cs_world "world") (mVar 0))) (mVar 1)) [1]))
def F_Rows_table : Fn := fnOf 2 b_Rows_table
def b_started : MS :=
  (sSeq2 (sAsg (op1 (fld cs_plan "plan") (op1 (fld cs_world "world") (mVar 0))) (gName 3))
    (sSeq2 (sIf (tOr (tNot (tVal (mCallN 3 F_is_whole (aCons (mVar 1) (aCons (mC (.int 0)) (aCons (op2 fSub (mLen (mVar 3)) (mC (.int 1))) aNil)))))) (tNot (tVal (mCallN 1 F_is_list (aCons (mVar 2) aNil))))) sNever sNil)
    (sSeq2 (sAsg (op2 fIx (mVar 3) (mVar 1)) (gTupN 3 (gCons (gName 4) (gCons (gName 5) (gCons (gName 6) gNil)))))
    (sSeq2 (sIf (tOr (tVal (op2 fNe (mLen (mVar 2)) (mVar 4))) (tNot (tVal (mAll (aComp (iSeq (mVar 2)) (gName 7) tYes (mCallN 1 F_is_number (aCons (mVar 7) aNil)) [7]))))) sNever sNil)
    (sDrop (mAppend (op1 (fld cs_frames "frames") (mVar 0)) (mMakeN "Frame" 4 F_Frame_init (aCons (mVar 1) (aCons (mC (.int 0)) (aCons (mNew (aCat (aSeq (mVar 2)) (aRep (aMax (aCons (mC .non) aNil)) (op2 fSub (mVar 5) (mVar 4))))) aNil))))))))))
def F_started : Fn := fnOf 8 b_started
def b_need_units : MS :=
  (sIf (tNot (tVal (mCallN 3 F_is_whole (aCons (mVar 0) (aCons (mC (.int 0)) (aCons (mC (.int 2000)) aNil)))))) sNever sNil)
def F_need_units : Fn := fnOf 1 b_need_units
def b_Plain_init : MS :=
  (sSeq2 (sDrop (mCallN 2 F_Rows_init (aCons (mVar 0) (aCons (mVar 1) aNil))))
    (sDrop (mCallN 3 F_started (aCons (mVar 0) (aCons (mVar 2) (aCons (mVar 3) aNil))))))
def F_Plain_init : Fn := fnOf 4 b_Plain_init
def b_Plain_step : MS :=
  (sSeq2 (sDrop (mCallN 1 F_need_units (aCons (mVar 1) aNil)))
    (sSeq2 (sAsg (mC (.int 0)) (gName 2))
    (sSeq2 (sWhile (tAnd (tVal (op2 fLt (mVar 2) (mVar 1))) (tAnd (tVal (op1 fIsN (op1 (fld cs_ending "ending") (mVar 0)))) (tVal (mMethN "Plain" "do_row" 1 F_Rows_do_row (mVar 0) aNil)))) (sAug 2 (fun i j => i + j) (mC (.int 1))))
    (sRet (mVar 2)))))
def F_Plain_step : Fn := fnOf 3 b_Plain_step
def b_law_begin : MS :=
  (sRet (mDisp false (pCons (mC (.str "left")) (mC (.int 0)) (pCons (mC (.str "at")) (mC (.int 0)) (pCons (mC (.str "cells")) (mNew (aSeq (mVar 0))) pNil)))))
def F_law_begin : Fn := fnOf 1 b_law_begin
def b_law_more : MS :=
  (sSeq2 (sAsg (op2 fGetD (mVar 0) (mC (.str "at"))) (gName 1))
    (sSeq2 (sPutD (op2 fAdd (mVar 1) (mC (.int 1))) (mVar 0) (mC (.str "at")))
    (sSeq2 (sAsg (op2 fGetD (mVar 0) (mC (.str "cells"))) (gName 2))
    (sSeq2 (sAsg (mIf (tVal (op2 fNe (mVar 2) (mNew (aMax aNil)))) (op1 fAbs (op2 fIx (mVar 2) (op2 fMod (mVar 1) (mLen (mVar 2))))) (mC (.int 0))) (gName 3))
    (sSeq2 (sIf (tAnd (tVal (op2 fLt (mVar 1) (mLen (mVar 2)))) (tVal (op2 fGe (mVar 3) (op2 fPow (mC (.int 10)) (mC (.int 18)))))) (sRet (op2 fSub (mVar 3) (op2 fPow (mC (.int 10)) (mC (.int 18))))) sNil)
    (sSeq2 (sAsg (mC (.int 1)) (gName 4))
    (sSeq2 (sAsg (mNew (aMax (aCons (mC (.int 2147483629)) (aCons (mC (.int 2147483587)) (aCons (mC (.int 2147483579)) (aCons (mC (.int 2147483563)) (aCons (mC (.int 2147483549)) (aCons (mC (.int 2147483543)) (aCons (mC (.int 2147483497)) (aCons (mC (.int 2147483489)) aNil)))))))))) (gName 5))
    (sSeq2 (sFor (iEnumX (mVar 5)) (gTupN 2 (gCons (gName 6) (gCons (gName 7) gNil))) (sSeq2 (sAsg (op2 fMod (op2 fAdd (op2 fAdd (op2 fMul (op2 fMod (mVar 3) (mVar 7)) (mC (.int 48271))) (op2 fMul (mC (.int 1103515245)) (op2 fAdd (mVar 1) (mC (.int 1))))) (op2 fMul (op2 fMul (mC (.int 40503)) (mVar 6)) (mVar 6))) (mVar 7)) (gName 8))
    (sSeq2 (sAsg (op2 fMod (op2 fAdd (op2 fAdd (op2 fMul (mVar 8) (mVar 8)) (op2 fMul (mC (.int 11)) (mVar 1))) (mVar 6)) (mVar 7)) (gName 8))
    (sAsg (op2 fAdd (op2 fMul (mVar 4) (mC (.int 2147483647))) (op2 fMod (op2 fMul (mVar 8) (op2 fAdd (op2 fAdd (mVar 8) (mVar 6)) (mC (.int 1)))) (mVar 7))) (gName 4)))))
    (sRet (mVar 4))))))))))
def F_law_more : Fn := fnOf 9 b_law_more
def b_law_next : MS :=
  (sSeq2 (sIf (tVal (op2 fEq (op2 fGetD (mVar 0) (mC (.str "left"))) (mC (.int 0)))) (sPutD (mCallN 1 F_law_more (aCons (mVar 0) aNil)) (mVar 0) (mC (.str "left"))) sNil)
    (sSeq2 (sAsg (op2 fMod (op2 fGetD (mVar 0) (mC (.str "left"))) (mVar 1)) (gName 2))
    (sSeq2 (sAugD (mVar 0) (mC (.str "left")) fDiv (mVar 1))
    (sRet (mVar 2)))))
def F_law_next : Fn := fnOf 3 b_law_next
def b_law_pick : MS :=
  (sRet (op2 fIx (mVar 1) (mCallN 2 F_law_next (aCons (mVar 0) (aCons (mLen (mVar 1)) aNil)))))
def F_law_pick : Fn := fnOf 2 b_law_pick
def b_law_alike (F_self : Fn) : MS :=
  (sSeq2 (sIf (tVal (op1 (fIs2 "list" "tuple") (mVar 1))) (sSeq2 (sIf (tOr (tVal (op2 fNe (op1 (fIs "list") (mVar 0)) (op1 (fIs "list") (mVar 1)))) (tVal (op2 fNe (op1 (fIs "tuple") (mVar 0)) (op1 (fIs "tuple") (mVar 1))))) (sRet (mC (.bl false))) sNil)
    (sRet (mAnd (op2 fEq (mLen (mVar 0)) (mLen (mVar 1))) (mAll (aComp (iZipX (mVar 0) (mVar 1)) (gTupN 2 (gCons (gName 2) (gCons (gName 3) gNil))) tYes (mCallN 2 F_self (aCons (mVar 2) (aCons (mVar 3) aNil))) [2, 3]))))) sNil)
    (sSeq2 (sIf (tOr (tVal (op1 fIsN (mVar 1))) (tVal (op1 (fIs "bool") (mVar 1)))) (sRet (mIf (tVal (op1 fIsN (mVar 1))) (op1 fIsN (mVar 0)) (mAnd (op1 (fIs "bool") (mVar 0)) (op2 fEq (mVar 0) (mVar 1))))) sNil)
    (sSeq2 (sIf (tVal (op1 (fIs "int") (mVar 1))) (sRet (mAnd (op1 (fIs "int") (mVar 0)) (mAnd (mNot (op1 (fIs "bool") (mVar 0))) (op2 fEq (mVar 0) (mVar 1))))) sNil)
    (sRet (mAnd (op1 (fIs "str") (mVar 0)) (op2 fEq (mVar 0) (mVar 1)))))))
def F_law_alike : Nat → Fn
  | 0 => noF
  | n + 1 => fnOf 4 (b_law_alike (F_law_alike n))
def b_law_rows : MS :=
  (sSeq2 (sAsg (mNew (aMax (aCons (mTup (aCons (mC (.str "number")) (aCons (mC (.int 0)) (aCons (mVar 0) aNil)))) (aCons (mTup (aCons (mC (.str "number")) (aCons (mC (.int 1)) (aCons (mVar 1) aNil)))) (aCons (mTup (aCons (mC (.str "number")) (aCons (mC (.int 2)) (aCons (mC (.int 1)) aNil)))) (aCons (mTup (aCons (mC (.str "if")) (aCons (mC (.int 1)) (aCons (mC (.int 5)) aNil)))) (aCons (mTup (aCons (mC (.str "give")) (aCons (mC (.int 0)) aNil))) aNil))))))) (gName 2))
    (sRet (mNew (aCatE (mVar 2) (aMax (aCons (mTup (aCons (mC (.str "call")) (aCons (mC (.int 3)) (aCons (mC (.str "more")) (aCons (mTup (aCons (mC (.int 1)) aNil)) aNil))))) (aCons (mTup (aCons (mC (.str "plus")) (aCons (mC (.int 0)) (aCons (mC (.int 0)) (aCons (mC (.int 3)) aNil))))) (aCons (mTup (aCons (mC (.str "tell")) (aCons (mC (.int 0)) aNil))) (aCons (mTup (aCons (mC (.str "less")) (aCons (mC (.int 1)) (aCons (mC (.int 1)) (aCons (mC (.int 2)) aNil))))) (aCons (mTup (aCons (mC (.str "go")) (aCons (mC (.int 3)) aNil))) aNil))))))))))
def F_law_rows : Fn := fnOf 3 b_law_rows
def b_law : MS :=
  (sSeq2 (sAsg (mCallN 1 F_law_begin (aCons (mVar 0) aNil)) (gName 1))
    (sSeq2 (sAsg (op2 fIx (mNew (aMax (aCons (op2 fAdd (mC (.int 1)) (mCallN 2 F_law_next (aCons (mVar 1) (aCons (mC (.int 195)) aNil)))) (aCons (mC (.int 195)) (aCons (op2 fAdd (mC (.int 1)) (mCallN 2 F_law_next (aCons (mVar 1) (aCons (mC (.int 6)) aNil)))) aNil))))) (mCallN 2 F_law_next (aCons (mVar 1) (aCons (mC (.int 3)) aNil)))) (gName 2))
    (sSeq2 (sPar 3 4 (aCons (op2 fSub (mCallN 2 F_law_next (aCons (mVar 1) (aCons (op2 fPow (mC (.int 10)) (mC (.int 7))) aNil))) (op2 fPow (mC (.int 10)) (mC (.int 6)))) (aCons (mCallN 2 F_law_next (aCons (mVar 1) (aCons (mC (.int 3)) aNil))) aNil)))
    (sSeq2 (sAsg (op2 fIx (mNew (aMax (aCons (mC (.int 0)) (aCons (op2 fSub (op2 fPow (mC (.int 10)) (mC (.int 9))) (op2 fMul (mVar 2) (mVar 3))) (aCons (op2 fPow (mC (.int 10)) (mC (.int 9))) (aCons (op1 fNeg (op2 fPow (mC (.int 10)) (mC (.int 9)))) (aCons (op2 fAdd (op2 fSub (op2 fPow (mC (.int 10)) (mC (.int 9))) (op2 fMul (mVar 2) (mVar 3))) (mC (.int 1))) aNil))))))) (mCallN 2 F_law_next (aCons (mVar 1) (aCons (mC (.int 5)) aNil)))) (gName 5))
    (sSeq2 (sAsg (op2 fMax2 (op1 fNeg (op2 fPow (mC (.int 10)) (mC (.int 9)))) (op2 fMin2 (mVar 5) (op2 fPow (mC (.int 10)) (mC (.int 9))))) (gName 5))
    (sSeq2 (sAsg (op2 fAdd (op2 fTimes (mTup (aCons (mTup (aCons (mC (.str "copy")) (aCons (mC (.int 1)) (aCons (mC (.int 0)) aNil)))) aNil)) (mVar 4)) (mTup (aCons (mTup (aCons (mC (.str "number")) (aCons (mC (.int 0)) (aCons (mVar 3) aNil)))) (aCons (mTup (aCons (mC (.str "give")) (aCons (mC (.int 0)) aNil))) aNil)))) (gName 6))
    (sSeq2 (sAsg (mMakeD "Plain" 2 [.wt []] F_Plain_init (aCons (mMakeN "Program" 4 F_Program_init (aCons (mNew (aMax aNil)) (aCons (mNew (aMax (aCons (mTup (aCons (mC (.int 0)) (aCons (mC (.int 4)) (aCons (mCallN 2 F_law_rows (aCons (mVar 5) (aCons (mVar 2) aNil))) aNil)))) (aCons (mTup (aCons (mC (.int 1)) (aCons (mC (.int 2)) (aCons (mVar 6) aNil)))) aNil)))) (aCons (mDisp true (pCons (mTup (aCons (mC (.str "number")) (aCons (mC (.str "more")) aNil))) (mC (.int 1)) pNil)) aNil)))) (aCons (mC (.int 0)) aNil))) (gName 7))
    (sSeq2 (sPar3 8 9 10 (aCons (mNew (aMax aNil)) (aCons (mC (.int 3)) (aCons (mVar 5) aNil))))
    (sSeq2 (sAsg (mTup (aCons (mC (.str "gave")) (aCons (mVar 5) aNil))) (gName 11))
    (sSeq2 (sFor (iRange1 (mVar 2)) (gName 12) (sSeq2 (sAug 10 (fun i j => i + j) (mVar 3))
    (sSeq2 (sIf (tVal (op2 fGt (op1 fAbs (mVar 10)) (op2 fPow (mC (.int 10)) (mC (.int 9))))) (sSeq2 (sAsg (mTup (aCons (mC (.str "fault")) (aCons (mC (.str "great")) (aCons (mC (.int 0)) (aCons (mC (.int 6)) aNil))))) (gName 11))
    (sSeq2 (sAug 9 (fun i j => i + j) (op2 fAdd (mC (.int 4)) (mVar 4)))
    sBreak)) sNil)
    (sSeq2 (sDrop (mAppend (mVar 8) (mVar 10)))
    (sPar 11 9 (aCons (mTup (aCons (mC (.str "gave")) (aCons (mVar 10) aNil))) (aCons (op2 fAdd (op2 fAdd (mVar 9) (mC (.int 8))) (mVar 4)) aNil)))))))
    (sSeq2 (sAug 9 (fun i j => i + j) (op2 fMul (mC (.int 2)) (op1 fInt (op2 fEq (op2 fIx (mVar 11) (mC (.int 0))) (mC (.str "gave"))))))
    (sSeq2 (sAsg (mNew (aMax aNil)) (gName 13))
    (sSeq2 (sWhile (tVal (op1 fIsN (mMethN "Plain" "end" 1 F_Rows_end (mVar 7) aNil))) (sDrop (mAppend (mVar 13) (mMethK "Plain" "step" 1 F_Plain_step (mVar 7) (aCons (op2 fIx (mNew (aMax (aCons (mC (.int 2000)) (aCons (op2 fAdd (mC (.int 1)) (mCallN 2 F_law_next (aCons (mVar 1) (aCons (mC (.int 700)) aNil)))) (aCons (mC (.int 1)) (aCons (mC (.int 300)) aNil)))))) (mCallN 2 F_law_next (aCons (mVar 1) (aCons (mC (.int 4)) aNil)))) aNil)))))
    (sSeq2 (sIf (tNot (tVal (mCallN 2 (F_law_alike 8) (aCons (mNew (aMax (aCons (mMethN "Plain" "events" 1 F_Rows_events (mVar 7) aNil) (aCons (mMethN "Plain" "end" 1 F_Rows_end (mVar 7) aNil) (aCons (mMethN "Plain" "done" 1 F_Rows_done (mVar 7) aNil) aNil))))) (aCons (mNew (aMax (aCons (mVar 8) (aCons (mVar 11) (aCons (mVar 9) aNil))))) aNil))))) (sRet (mC (.bl false))) sNil)
    (sRet (mAnd (op2 fEq (mSumE (mVar 13)) (mVar 9)) (op2 fEq (mMethK "Plain" "step" 1 F_Plain_step (mVar 7) (aCons (mC (.int 2000)) aNil)) (mC (.int 0)))))))))))))))))))
def F_law : Fn := fnOf 14 b_law
end Gm

set_option Elab.async false
set_option linter.all false
set_option maxRecDepth 100000
set_option maxHeartbeats 4000000
namespace Gm
open PySem PySem.Spec PyProof.Rows L2
def top (i : Nat) : Stmt := PySem.Challenge.pw_guessmill_k17_long_runs.main.body.getD i (.Pass ⟨0, 0, 0, 0⟩)
section
variable {P : Program} {w : World} {K : PySem.W.Frag} {mg : Str → Option Value} {base : Heap}
structure TF (K : PySem.W.Frag) (w : World) (mg : Str → Option Value) : Prop where
  g_abs : mg "abs" = none
  g_all : mg "all" = none
  g_bool : mg "bool" = none
  g_dict : mg "dict" = none
  g_enumerate : mg "enumerate" = none
  g_int : mg "int" = none
  g_isinstance : mg "isinstance" = none
  g_len : mg "len" = none
  g_list : mg "list" = none
  g_max : mg "max" = none
  g_min : mg "min" = none
  g_range : mg "range" = none
  g_sorted : mg "sorted" = none
  g_str : mg "str" = none
  g_sum : mg "sum" = none
  g_tuple : mg "tuple" = none
  g_zip : mg "zip" = none
  c_DEEDS : HasKd K w mg "DEEDS" d_DEEDS
  c_FORMS : HasKd K w mg "FORMS" d_FORMS
  c_GREATEST : ∃ t, mg "GREATEST" = some (.int 1000000000 t)
  c_MOST_BODIES : ∃ t, mg "MOST_BODIES" = some (.int 12 t)
  c_MOST_BOXES : ∃ t, mg "MOST_BOXES" = some (.int 6 t)
  c_MOST_FIELDS : ∃ t, mg "MOST_FIELDS" = some (.int 4 t)
  c_MOST_FRAMES : ∃ t, mg "MOST_FRAMES" = some (.int 40 t)
  c_MOST_KINDS : ∃ t, mg "MOST_KINDS" = some (.int 6 t)
  c_MOST_ROWS : ∃ t, mg "MOST_ROWS" = some (.int 30 t)
  c_MOST_UNITS : ∃ t, mg "MOST_UNITS" = some (.int 2000 t)
  c_PLAIN_KINDS : ∃ a vs, mg "PLAIN_KINDS" = some (.ref a) ∧ KT K a vs ∧ FlatRel [.str "number", .str "nothing"] vs
  c_SMALL : ∃ t, mg "SMALL" = some (.str "abcdefghijklmnopqrstuvwxyz" t)
  c_STAYING : ∃ a vs, mg "STAYING" = some (.ref a) ∧ KT K a vs ∧ FlatRel [.str "call", .str "give", .str "go", .str "if"] vs
  f_all_bodies : HasFld K mg cs_all_bodies "all_bodies"
  f_all_kinds : HasFld K mg cs_all_kinds "all_kinds"
  f_body : HasFld K mg cs_body "body"
  f_boxes : HasFld K mg cs_boxes "boxes"
  f_ending : HasFld K mg cs_ending "ending"
  f_entries : HasFld K mg cs_entries "entries"
  f_field_names : HasFld K mg cs_field_names "field_names"
  f_frames : HasFld K mg cs_frames "frames"
  f_heap : HasFld K mg cs_heap "heap"
  f_long : HasFld K mg cs_long "long"
  f_many : HasFld K mg cs_many "many"
  f_names : HasFld K mg cs_names "names"
  f_passed : HasFld K mg cs_passed "passed"
  f_plan : HasFld K mg cs_plan "plan"
  f_profile : HasFld K mg cs_profile "profile"
  f_row : HasFld K mg cs_row "row"
  f_source : HasFld K mg cs_source "source"
  f_told : HasFld K mg cs_told "told"
  f_wide : HasFld K mg cs_wide "wide"
  f_world : HasFld K mg cs_world "world"
abbrev s_is_whole : Stmt := top 17
theorem sc_is_whole : FnScope ["thing", "least", "most"] ["thing", "least", "most"] (defScope s_is_whole) := ⟨rfl, rfl, rfl, by decide +kernel, rfl, by decide +kernel, by decide +kernel⟩
theorem ok_is_whole (T : TF K w mg)  {dvs : List V} {kws : List (Str × V)} {f : Addr} {fd : FuncData} (F : FunD K "is_whole" "is_whole" (defArgs s_is_whole) (defBody s_is_whole) (defScope s_is_whole) dvs kws f fd) : FnOk P w K mg base CX0 1 f fd ["thing", "least", "most"] (LfF K mg 3 F_is_whole) :=
  fn_lift F sc_is_whole rfl fun cdv A outer s H E hr => by
    have nd := sc_is_whole.nd
    exact (xss_one (xs_ret (xe_and (xe_isi (by rfl) T.g_isinstance (xv 0) (by rfl) T.g_int bt_int (by simp [AskTy]) (by decide) (by decide)) (xe_and (xe_not (xe_isi (by rfl) T.g_isinstance (xv 0) (by rfl) T.g_bool bt_bool (by simp [AskTy]) (by decide) (by decide))) (xe_one (xe_lele (xv 1) (xv 0) (xv 2)))))))
abbrev s_is_number : Stmt := top 18
theorem sc_is_number : FnScope ["thing"] ["thing"] (defScope s_is_number) := ⟨rfl, rfl, rfl, by decide +kernel, rfl, by decide +kernel, by decide +kernel⟩
theorem ok_is_number (T : TF K w mg) (h_is_whole : CalG P w K mg base 1 "is_whole" 3 F_is_whole) {dvs : List V} {kws : List (Str × V)} {f : Addr} {fd : FuncData} (F : FunD K "is_number" "is_number" (defArgs s_is_number) (defBody s_is_number) (defScope s_is_number) dvs kws f fd) : FnOk P w K mg base CX0 2 f fd ["thing"] (LfF K mg 1 F_is_number) :=
  fn_lift F sc_is_number rfl fun cdv A outer s H E hr => by
    have nd := sc_is_number.nd
    exact (xss_one (xs_ret (xe_call h_is_whole (hr.mono (by decide)) (by rfl) (xa_cons (xv 0) (xa_cons (xe_neg (xe_gint (by rfl) T.c_GREATEST)) (xa_cons (xe_gint (by rfl) T.c_GREATEST) xa_nil))))))
abbrev s_is_list : Stmt := top 19
theorem sc_is_list : FnScope ["thing"] ["thing"] (defScope s_is_list) := ⟨rfl, rfl, rfl, by decide +kernel, rfl, by decide +kernel, by decide +kernel⟩
theorem ok_is_list (T : TF K w mg)  {dvs : List V} {kws : List (Str × V)} {f : Addr} {fd : FuncData} (F : FunD K "is_list" "is_list" (defArgs s_is_list) (defBody s_is_list) (defScope s_is_list) dvs kws f fd) : FnOk P w K mg base CX0 1 f fd ["thing"] (LfF K mg 1 F_is_list) :=
  fn_lift F sc_is_list rfl fun cdv A outer s H E hr => by
    have nd := sc_is_list.nd
    exact (xss_one (xs_ret (xe_isi2 (by rfl) T.g_isinstance (xv 0) (by rfl) T.g_list bt_list (by simp [AskTy]) (by decide) (by decide) (by rfl) T.g_tuple bt_tuple (by simp [AskTy]) (by decide) (by decide))))
abbrev s_is_name : Stmt := top 20
theorem sc_is_name : FnScope ["thing", "sign"] ["thing"] (defScope s_is_name) := ⟨rfl, rfl, rfl, by decide +kernel, rfl, by decide +kernel, by decide +kernel⟩
theorem ok_is_name (T : TF K w mg)  {dvs : List V} {kws : List (Str × V)} {f : Addr} {fd : FuncData} (F : FunD K "is_name" "is_name" (defArgs s_is_name) (defBody s_is_name) (defScope s_is_name) dvs kws f fd) : FnOk P w K mg base CX0 1 f fd ["thing"] (LfF K mg 1 F_is_name) :=
  fn_lift F sc_is_name rfl fun cdv A outer s H E hr => by
    have nd := sc_is_name.nd
    exact (xss_one (xs_ret (xe_and (xe_isi (by rfl) T.g_isinstance (xv 0) (by rfl) T.g_str bt_str (by simp [AskTy]) (by decide) (by decide)) (xe_and (xe_lele xe_int (xe_len (by rfl) T.g_len (xv 0)) xe_int) (xe_one (xe_all rfl (by rfl) T.g_all (xl_lc (own := [("sign", 1)]) rfl nd (xi_str (xv 0)) (blkOk_by (by kernel_rfl)) (fun _ _ _ _ _ => (xgc_name (i := 1) nd rfl (.inl rfl))) (fun _ _ _ _ _ => xts_nil) (fun _ _ _ _ _ => (xe_inSign (xv 1) (xe_gstr (by rfl) T.c_SMALL))) (by decide))))))))
abbrev s_Frame_init : Stmt := inClass (top 22) 0
theorem sc_Frame_init : FnScope ["self", "body", "row", "boxes"] ["self", "body", "row", "boxes"] (defScope s_Frame_init) := ⟨rfl, rfl, rfl, by decide +kernel, rfl, by decide +kernel, by decide +kernel⟩
theorem ok_Frame_init (T : TF K w mg)  {dvs : List V} {kws : List (Str × V)} {f : Addr} {fd : FuncData} (F : FunD K "__init__" "Frame.__init__" (defArgs s_Frame_init) (defBody s_Frame_init) (defScope s_Frame_init) dvs kws f fd) : FnOk P w K mg base CX0 1 f fd ["self", "body", "row", "boxes"] (LfF K mg 4 F_Frame_init) :=
  fn_lift F sc_Frame_init rfl fun cdv A outer s H E hr => by
    have nd := sc_Frame_init.nd
    exact (xss_cons (xs_fld T.f_body (xv 0) (xv 1))
    (xss_cons (xs_fld T.f_row (xv 0) (xv 2))
    (xss_one (xs_fld T.f_boxes (xv 0) (xe_new (xl_list (by rfl) T.g_list (xv 3)))))))
abbrev s_World_rows_of : Stmt := inClass (top 23) 2
theorem sc_World_rows_of : FnScope ["self", "body", "takes", "boxes", "rows"] ["self", "body"] (defScope s_World_rows_of) := ⟨rfl, rfl, rfl, by decide +kernel, rfl, by decide +kernel, by decide +kernel⟩
theorem ok_World_rows_of (T : TF K w mg)  {dvs : List V} {kws : List (Str × V)} {f : Addr} {fd : FuncData} (F : FunD K "rows_of" "World.rows_of" (defArgs s_World_rows_of) (defBody s_World_rows_of) (defScope s_World_rows_of) dvs kws f fd) : FnOk P w K mg base CX0 1 f fd ["self", "body"] (LfF K mg 2 F_World_rows_of) :=
  fn_lift F sc_World_rows_of rfl fun cdv A outer s H E hr => by
    have nd := sc_World_rows_of.nd
    exact (xss_cons (xs_asg (xe_ix (xe_fld T.f_plan (xv 0)) (xv 1)) (xg_tup (n := 3) rfl (xgs_cons (xg_name (i := 2) nd rfl (.inl rfl)) (xgs_cons (xg_name (i := 3) nd rfl (.inl rfl)) (xgs_cons (xg_name (i := 4) nd rfl (.inl rfl)) xgs_nil)))))
    (xss_one (xs_ret (xv 4))))
abbrev s_World_kind_of : Stmt := inClass (top 23) 3
theorem sc_World_kind_of : FnScope ["self", "value"] ["self", "value"] (defScope s_World_kind_of) := ⟨rfl, rfl, rfl, by decide +kernel, rfl, by decide +kernel, by decide +kernel⟩
theorem ok_World_kind_of (T : TF K w mg)  {dvs : List V} {kws : List (Str × V)} {f : Addr} {fd : FuncData} (F : FunD K "kind_of" "World.kind_of" (defArgs s_World_kind_of) (defBody s_World_kind_of) (defScope s_World_kind_of) dvs kws f fd) : FnOk P w K mg base CX0 1 f fd ["self", "value"] (LfF K mg 2 F_World_kind_of) :=
  fn_lift F sc_World_kind_of rfl fun cdv A outer s H E hr => by
    have nd := sc_World_kind_of.nd
    exact (xss_cons (xs_if (xt_isN (xv 1)) (xss_one (xs_ret xe_str)) xss_nil)
    (xss_one (xs_ret (xe_if (xt_val (xe_isi (by rfl) T.g_isinstance (xv 1) (by rfl) T.g_tuple bt_tuple (by simp [AskTy]) (by decide) (by decide))) (xe_ix (xe_ix (xe_fld T.f_heap (xv 0)) (xe_ix (xv 1) xe_int)) xe_int) xe_str))))
abbrev s_World_made : Stmt := inClass (top 23) 4
theorem sc_World_made : FnScope ["self", "kind", "values"] ["self", "kind", "values"] (defScope s_World_made) := ⟨rfl, rfl, rfl, by decide +kernel, rfl, by decide +kernel, by decide +kernel⟩
theorem ok_World_made (T : TF K w mg)  {dvs : List V} {kws : List (Str × V)} {f : Addr} {fd : FuncData} (F : FunD K "made" "World.made" (defArgs s_World_made) (defBody s_World_made) (defScope s_World_made) dvs kws f fd) : FnOk P w K mg base CX0 1 f fd ["self", "kind", "values"] (LfF K mg 3 F_World_made) :=
  fn_lift F sc_World_made rfl fun cdv A outer s H E hr => by
    have nd := sc_World_made.nd
    exact (xss_cons (xs_expr (xe_append (xe_fld T.f_heap (xv 0)) (xe_tup (xa_cons (xv 1) (xa_cons (xe_new (xl_list (by rfl) T.g_list (xv 2))) xa_nil)))))
    (xss_one (xs_ret (xe_tup (xa_cons xe_str (xa_cons (xe_sub (xe_len (by rfl) T.g_len (xe_fld T.f_heap (xv 0))) xe_int) xa_nil))))))
abbrev s_World_made_empty : Stmt := inClass (top 23) 5
theorem sc_World_made_empty : FnScope ["self", "kind"] ["self", "kind"] (defScope s_World_made_empty) := ⟨rfl, rfl, rfl, by decide +kernel, rfl, by decide +kernel, by decide +kernel⟩
theorem ok_World_made_empty (T : TF K w mg) (m_World_made : HasMeth P w K mg base 1 "World" "made" 3 F_World_made) {dvs : List V} {kws : List (Str × V)} {f : Addr} {fd : FuncData} (F : FunD K "made_empty" "World.made_empty" (defArgs s_World_made_empty) (defBody s_World_made_empty) (defScope s_World_made_empty) dvs kws f fd) : FnOk P w K mg base CX0 2 f fd ["self", "kind"] (LfF K mg 2 F_World_made_empty) :=
  fn_lift F sc_World_made_empty rfl fun cdv A outer s H E hr => by
    have nd := sc_World_made_empty.nd
    exact (xss_one (xs_ret (xe_meth m_World_made (hr.mono (by decide)) (xv 0) (xa_cons (xv 1) (xa_cons (xe_new (xl_rep (xl_lst (xa_cons xe_non xa_nil)) (xe_len (by rfl) T.g_len (xe_getD hr.units (xe_fld T.f_field_names (xv 0)) (xv 1))))) xa_nil)))))
abbrev s_World_place_in : Stmt := inClass (top 23) 6
abbrev s_World_as_event : Stmt := inClass (top 23) 7
theorem sc_World_as_event : FnScope ["self", "value"] ["self", "value"] (defScope s_World_as_event) := ⟨rfl, rfl, rfl, by decide +kernel, rfl, by decide +kernel, by decide +kernel⟩
theorem ok_World_as_event (T : TF K w mg) (m_World_kind_of : HasMeth P w K mg base 1 "World" "kind_of" 2 F_World_kind_of) {dvs : List V} {kws : List (Str × V)} {f : Addr} {fd : FuncData} (F : FunD K "as_event" "World.as_event" (defArgs s_World_as_event) (defBody s_World_as_event) (defScope s_World_as_event) dvs kws f fd) : FnOk P w K mg base CX0 2 f fd ["self", "value"] (LfF K mg 2 F_World_as_event) :=
  fn_lift F sc_World_as_event rfl fun cdv A outer s H E hr => by
    have nd := sc_World_as_event.nd
    exact (xss_one (xs_ret (xe_if (xt_val (xe_isi (by rfl) T.g_isinstance (xv 1) (by rfl) T.g_tuple bt_tuple (by simp [AskTy]) (by decide) (by decide))) (xe_meth m_World_kind_of (hr.mono (by decide)) (xv 0) (xa_cons (xv 1) xa_nil)) (xv 1))))
abbrev s_World_new_frame : Stmt := inClass (top 23) 8
theorem sc_World_new_frame : FnScope ["self", "receiver", "name", "many", "frames", "body", "takes", "boxes", "rows"] ["self", "receiver", "name", "many", "frames"] (defScope s_World_new_frame) := ⟨rfl, rfl, rfl, by decide +kernel, rfl, by decide +kernel, by decide +kernel⟩
theorem ok_World_new_frame (T : TF K w mg) (m_World_kind_of : HasMeth P w K mg base 1 "World" "kind_of" 2 F_World_kind_of) (k_Frame : HasMake P w K mg base 1 "Frame" 4 F_Frame_init) {dvs : List V} {kws : List (Str × V)} {f : Addr} {fd : FuncData} (F : FunD K "new_frame" "World.new_frame" (defArgs s_World_new_frame) (defBody s_World_new_frame) (defScope s_World_new_frame) dvs kws f fd) : FnOk P w K mg base CX0 3 f fd ["self", "receiver", "name", "many", "frames"] (LfF K mg 5 F_World_new_frame) :=
  fn_lift F sc_World_new_frame rfl fun cdv A outer s H E hr => by
    have nd := sc_World_new_frame.nd
    exact (xss_cons (xs_set (i := 5) nd rfl (.inl rfl) (xe_get1 hr.units (xe_fld T.f_entries (xv 0)) (xe_tup (xa_cons (xe_meth m_World_kind_of (hr.mono (by decide)) (xv 0) (xa_cons (xv 1) xa_nil)) (xa_cons (xv 2) xa_nil)))))
    (xss_cons (xs_if (xt_isN (xv 5)) (xss_one (xs_ret (xe_tup (xa_cons xe_str (xa_cons xe_non xa_nil))))) xss_nil)
    (xss_cons (xs_asg (xe_ix (xe_fld T.f_plan (xv 0)) (xv 5)) (xg_tup (n := 3) rfl (xgs_cons (xg_name (i := 6) nd rfl (.inl rfl)) (xgs_cons (xg_name (i := 7) nd rfl (.inl rfl)) (xgs_cons (xg_name (i := 8) nd rfl (.inl rfl)) xgs_nil)))))
    (xss_cons (xs_if (xt_ne hr.units (xv 6) (xv 3)) (xss_one (xs_ret (xe_tup (xa_cons xe_str (xa_cons xe_non xa_nil))))) xss_nil)
    (xss_cons (xs_if (xt_ge (xv 4) (xe_gint (by rfl) T.c_MOST_FRAMES)) (xss_one (xs_ret (xe_tup (xa_cons xe_str (xa_cons xe_non xa_nil))))) xss_nil)
    (xss_one (xs_ret (xe_tup (xa_cons xe_non (xa_cons (xe_make k_Frame (hr.mono (by decide)) (by rfl) (xa_cons (xv 5) (xa_cons xe_int (xa_cons (xe_new (xl_rep (xl_lst (xa_cons xe_non xa_nil)) (xv 7))) xa_nil)))) xa_nil))))))))))
abbrev s_is_true : Stmt := top 24
theorem sc_is_true : FnScope ["value"] ["value"] (defScope s_is_true) := ⟨rfl, rfl, rfl, by decide +kernel, rfl, by decide +kernel, by decide +kernel⟩
theorem ok_is_true (T : TF K w mg)  {dvs : List V} {kws : List (Str × V)} {f : Addr} {fd : FuncData} (F : FunD K "is_true" "is_true" (defArgs s_is_true) (defBody s_is_true) (defScope s_is_true) dvs kws f fd) : FnOk P w K mg base CX0 1 f fd ["value"] (LfF K mg 1 F_is_true) :=
  fn_lift F sc_is_true rfl fun cdv A outer s H E hr => by
    have nd := sc_is_true.nd
    exact (xss_one (xs_ret (xe_and (xe_notN (xv 0)) (xe_one (xe_ne hr.units (xv 0) xe_int)))))
abbrev s_reckoned : Stmt := top 25
theorem sc_reckoned : FnScope ["word", "one", "other", "found"] ["word", "one", "other"] (defScope s_reckoned) := ⟨rfl, rfl, rfl, by decide +kernel, rfl, by decide +kernel, by decide +kernel⟩
theorem ok_reckoned (T : TF K w mg)  {dvs : List V} {kws : List (Str × V)} {f : Addr} {fd : FuncData} (F : FunD K "reckoned" "reckoned" (defArgs s_reckoned) (defBody s_reckoned) (defScope s_reckoned) dvs kws f fd) : FnOk P w K mg base CX0 1 f fd ["word", "one", "other"] (LfF K mg 3 F_reckoned) :=
  fn_lift F sc_reckoned rfl fun cdv A outer s H E hr => by
    have nd := sc_reckoned.nd
    exact (xss_cons (xs_if (xt_eq hr.units (xv 0) xe_str) (xss_one (xs_ret (xe_tup (xa_cons xe_non (xa_cons (xe_int1 (by rfl) T.g_int (xe_eq hr.units (xv 1) (xv 2))) xa_nil))))) xss_nil)
    (xss_cons (xs_if (PW.pt (xw_or (xt_not (xt_val (xe_isi (by rfl) T.g_isinstance (xv 1) (by rfl) T.g_int bt_int (by simp [AskTy]) (by decide) (by decide)))) (xw_or1 (xt_not (xt_val (xe_isi (by rfl) T.g_isinstance (xv 2) (by rfl) T.g_int bt_int (by simp [AskTy]) (by decide) (by decide))))))) (xss_one (xs_ret (xe_tup (xa_cons xe_str (xa_cons xe_non xa_nil))))) xss_nil)
    (xss_cons (xs_if (xt_eq hr.units (xv 0) xe_str) (xss_one (xs_ret (xe_tup (xa_cons xe_non (xa_cons (xe_int1 (by rfl) T.g_int (xe_lt (xv 1) (xv 2))) xa_nil))))) xss_nil)
    (xss_cons (xs_set (i := 3) nd rfl (.inl rfl) (xe_mul (xv 1) (xv 2)))
    (xss_cons (xs_if (xt_eq hr.units (xv 0) xe_str) (xss_one (xs_set (i := 3) nd rfl (.inl rfl) (xe_add (xv 1) (xv 2)))) (xss_one (xs_if (xt_eq hr.units (xv 0) xe_str) (xss_one (xs_set (i := 3) nd rfl (.inl rfl) (xe_sub (xv 1) (xv 2)))) xss_nil)))
    (xss_one (xs_ret (xe_if (xt_lele (xe_neg (xe_gint (by rfl) T.c_GREATEST)) (xv 3) (xe_gint (by rfl) T.c_GREATEST)) (xe_tup (xa_cons xe_non (xa_cons (xv 3) xa_nil))) (xe_tup (xa_cons xe_str (xa_cons xe_non xa_nil)))))))))))
abbrev s_are_unlike : Stmt := top 50
theorem sc_are_unlike : FnScope ["some", "one"] ["some"] (defScope s_are_unlike) := ⟨rfl, rfl, rfl, by decide +kernel, rfl, by decide +kernel, by decide +kernel⟩
theorem ok_are_unlike (T : TF K w mg)  {dvs : List V} {kws : List (Str × V)} {f : Addr} {fd : FuncData} (F : FunD K "are_unlike" "are_unlike" (defArgs s_are_unlike) (defBody s_are_unlike) (defScope s_are_unlike) dvs kws f fd) : FnOk P w K mg base CX0 1 f fd ["some"] (LfF K mg 1 F_are_unlike) :=
  fn_lift F sc_are_unlike rfl fun cdv A outer s H E hr => by
    have nd := sc_are_unlike.nd
    exact (xss_one (xs_ret (xe_eq hr.units (xe_lenSet (own := [("one", 1)]) (by rfl) T.g_len rfl nd (xi_seq (xv 0)) (blkOk_by (by kernel_rfl)) (fun _ _ _ _ _ => (xgc_name (i := 1) nd rfl (.inl rfl))) (fun _ _ _ _ _ => xts_nil) (fun _ _ _ _ _ => (xv 1)) (by decide)) (xe_len (by rfl) T.g_len (xv 0)))))
abbrev s_are_names : Stmt := top 49
theorem sc_are_names : FnScope ["some", "most", "one"] ["some", "most"] (defScope s_are_names) := ⟨rfl, rfl, rfl, by decide +kernel, rfl, by decide +kernel, by decide +kernel⟩
theorem ok_are_names (T : TF K w mg) (h_is_list : CalG P w K mg base 1 "is_list" 1 F_is_list) (h_is_name : CalG P w K mg base 1 "is_name" 1 F_is_name) (h_are_unlike : CalG P w K mg base 1 "are_unlike" 1 F_are_unlike) {dvs : List V} {kws : List (Str × V)} {f : Addr} {fd : FuncData} (F : FunD K "are_names" "are_names" (defArgs s_are_names) (defBody s_are_names) (defScope s_are_names) dvs kws f fd) : FnOk P w K mg base CX0 2 f fd ["some", "most"] (LfF K mg 2 F_are_names) :=
  fn_lift F sc_are_names rfl fun cdv A outer s H E hr => by
    have nd := sc_are_names.nd
    exact (xss_one (xs_ret (xe_and (xe_call h_is_list (hr.mono (by decide)) (by rfl) (xa_cons (xv 0) xa_nil)) (xe_and (xe_le (xe_len (by rfl) T.g_len (xv 0)) (xv 1)) (xe_and (xe_all rfl (by rfl) T.g_all (xl_lc (own := [("one", 2)]) rfl nd (xi_seq (xv 0)) (blkOk_by (by kernel_rfl)) (fun _ _ _ _ _ => (xgc_name (i := 2) nd rfl (.inl rfl))) (fun _ _ _ _ _ => xts_nil) (fun _ _ _ _ _ => (xe_call h_is_name (hr.mono (by decide)) (by rfl) (xa_cons (xv 2) xa_nil))) (by decide))) (xe_one (xe_call h_are_unlike (hr.mono (by decide)) (by rfl) (xa_cons (xv 0) xa_nil))))))))
abbrev s_is_kind : Stmt := top 51
theorem sc_is_kind : FnScope ["thing"] ["thing"] (defScope s_is_kind) := ⟨rfl, rfl, rfl, by decide +kernel, rfl, by decide +kernel, by decide +kernel⟩
theorem ok_is_kind (T : TF K w mg) (h_is_list : CalG P w K mg base 1 "is_list" 1 F_is_list) (h_is_name : CalG P w K mg base 1 "is_name" 1 F_is_name) (h_are_names : CalG P w K mg base 2 "are_names" 2 F_are_names) {dvs : List V} {kws : List (Str × V)} {f : Addr} {fd : FuncData} (F : FunD K "is_kind" "is_kind" (defArgs s_is_kind) (defBody s_is_kind) (defScope s_is_kind) dvs kws f fd) : FnOk P w K mg base CX0 3 f fd ["thing"] (LfF K mg 1 F_is_kind) :=
  fn_lift F sc_is_kind rfl fun cdv A outer s H E hr => by
    have nd := sc_is_kind.nd
    exact (xss_cons (xs_if (PW.pt (xw_or (xt_not (xt_val (xe_call h_is_list (hr.mono (by decide)) (by rfl) (xa_cons (xv 0) xa_nil)))) (xw_or (xt_ne hr.units (xe_len (by rfl) T.g_len (xv 0)) xe_int) (xw_or (xt_not (xt_val (xe_call h_is_name (hr.mono (by decide)) (by rfl) (xa_cons (xe_ix (xv 0) xe_int) xa_nil)))) (xw_or1 (xt_in (xe_ix (xv 0) xe_int) (xe_gtup (by rfl) T.c_PLAIN_KINDS))))))) (xss_one (xs_ret xe_bl)) xss_nil)
    (xss_one (xs_ret (xe_call h_are_names (hr.mono (by decide)) (by rfl) (xa_cons (xe_ix (xv 0) xe_int) (xa_cons (xe_gint (by rfl) T.c_MOST_FIELDS) xa_nil))))))
abbrev s_is_body : Stmt := top 52
theorem sc_is_body : FnScope ["thing"] ["thing"] (defScope s_is_body) := ⟨rfl, rfl, rfl, by decide +kernel, rfl, by decide +kernel, by decide +kernel⟩
theorem ok_is_body (T : TF K w mg) (h_is_list : CalG P w K mg base 1 "is_list" 1 F_is_list) (h_is_whole : CalG P w K mg base 1 "is_whole" 3 F_is_whole) {dvs : List V} {kws : List (Str × V)} {f : Addr} {fd : FuncData} (F : FunD K "is_body" "is_body" (defArgs s_is_body) (defBody s_is_body) (defScope s_is_body) dvs kws f fd) : FnOk P w K mg base CX0 2 f fd ["thing"] (LfF K mg 1 F_is_body) :=
  fn_lift F sc_is_body rfl fun cdv A outer s H E hr => by
    have nd := sc_is_body.nd
    exact (xss_cons (xs_if (PW.pt (xw_or (xt_not (xt_val (xe_call h_is_list (hr.mono (by decide)) (by rfl) (xa_cons (xv 0) xa_nil)))) (xw_or (xt_ne hr.units (xe_len (by rfl) T.g_len (xv 0)) xe_int) (xw_or1 (xt_not (xt_val (xe_call h_is_whole (hr.mono (by decide)) (by rfl) (xa_cons (xe_ix (xv 0) xe_int) (xa_cons xe_int (xa_cons (xe_gint (by rfl) T.c_MOST_BOXES) xa_nil)))))))))) (xss_one (xs_ret xe_bl)) xss_nil)
    (xss_one (xs_ret (xe_and (xe_call h_is_whole (hr.mono (by decide)) (by rfl) (xa_cons (xe_ix (xv 0) xe_int) (xa_cons xe_int (xa_cons (xe_ix (xv 0) xe_int) xa_nil)))) (xe_and (xe_call h_is_list (hr.mono (by decide)) (by rfl) (xa_cons (xe_ix (xv 0) xe_int) xa_nil)) (xe_one (xe_le (xe_len (by rfl) T.g_len (xe_ix (xv 0) xe_int)) (xe_gint (by rfl) T.c_MOST_ROWS))))))))
abbrev s_is_entry : Stmt := top 53
theorem sc_is_entry : FnScope ["key", "body", "names", "many"] ["key", "body", "names", "many"] (defScope s_is_entry) := ⟨rfl, rfl, rfl, by decide +kernel, rfl, by decide +kernel, by decide +kernel⟩
theorem ok_is_entry (T : TF K w mg) (h_is_name : CalG P w K mg base 1 "is_name" 1 F_is_name) (h_is_whole : CalG P w K mg base 1 "is_whole" 3 F_is_whole) {dvs : List V} {kws : List (Str × V)} {f : Addr} {fd : FuncData} (F : FunD K "is_entry" "is_entry" (defArgs s_is_entry) (defBody s_is_entry) (defScope s_is_entry) dvs kws f fd) : FnOk P w K mg base CX0 2 f fd ["key", "body", "names", "many"] (LfF K mg 4 F_is_entry) :=
  fn_lift F sc_is_entry rfl fun cdv A outer s H E hr => by
    have nd := sc_is_entry.nd
    exact (xss_cons (xs_if (PW.pt (xw_or (xt_not (xt_val (xe_isi (by rfl) T.g_isinstance (xv 0) (by rfl) T.g_tuple bt_tuple (by simp [AskTy]) (by decide) (by decide)))) (xw_or (xt_ne hr.units (xe_len (by rfl) T.g_len (xv 0)) xe_int) (xw_or1 (xt_not (xt_val (xe_isi (by rfl) T.g_isinstance (xe_ix (xv 0) xe_int) (by rfl) T.g_str bt_str (by simp [AskTy]) (by decide) (by decide)))))))) (xss_one (xs_ret xe_bl)) xss_nil)
    (xss_one (xs_ret (xe_and (xe_in (xe_ix (xv 0) xe_int) (xv 2)) (xe_and (xe_call h_is_name (hr.mono (by decide)) (by rfl) (xa_cons (xe_ix (xv 0) xe_int) xa_nil)) (xe_one (xe_call h_is_whole (hr.mono (by decide)) (by rfl) (xa_cons (xv 1) (xa_cons xe_int (xa_cons (xe_sub (xv 3) xe_int) xa_nil))))))))))
abbrev s_Limits_init : Stmt := inClass (top 54) 0
theorem sc_Limits_init : FnScope ["self", "names", "many", "boxes", "rows"] ["self", "names", "many", "boxes", "rows"] (defScope s_Limits_init) := ⟨rfl, rfl, rfl, by decide +kernel, rfl, by decide +kernel, by decide +kernel⟩
theorem ok_Limits_init (T : TF K w mg)  {dvs : List V} {kws : List (Str × V)} {f : Addr} {fd : FuncData} (F : FunD K "__init__" "Limits.__init__" (defArgs s_Limits_init) (defBody s_Limits_init) (defScope s_Limits_init) dvs kws f fd) : FnOk P w K mg base CX0 1 f fd ["self", "names", "many", "boxes", "rows"] (LfF K mg 5 F_Limits_init) :=
  fn_lift F sc_Limits_init rfl fun cdv A outer s H E hr => by
    have nd := sc_Limits_init.nd
    exact (xss_cons (xs_fld T.f_names (xv 0) (xv 1))
    (xss_cons (xs_fld T.f_many (xv 0) (xv 2))
    (xss_cons (xs_fld T.f_wide (xv 0) (xv 3))
    (xss_one (xs_fld T.f_long (xv 0) (xv 4))))))
abbrev s_Limits_fits : Stmt := inClass (top 54) 1
theorem sc_Limits_fits : FnScope ["self", "sign", "thing", "good", "one"] ["self", "sign", "thing"] (defScope s_Limits_fits) := ⟨rfl, rfl, rfl, by decide +kernel, rfl, by decide +kernel, by decide +kernel⟩
theorem ok_Limits_fits (T : TF K w mg) {j : Nat} (hj : 2 ≤ j) (F_self : Fn) (h_is_whole : CalG P w K mg base 1 "is_whole" 3 F_is_whole) (h_is_number : CalG P w K mg base 2 "is_number" 1 F_is_number) (h_is_name : CalG P w K mg base 1 "is_name" 1 F_is_name) (h_self : HasMeth P w K mg base j "Limits" "fits" 3 F_self) {dvs : List V} {kws : List (Str × V)} {f : Addr} {fd : FuncData} (F : FunD K "fits" "Limits.fits" (defArgs s_Limits_fits) (defBody s_Limits_fits) (defScope s_Limits_fits) dvs kws f fd) : FnOk P w K mg base CX0 (j + 1) f fd ["self", "sign", "thing"] (LfF K mg 3 (fnOf 5 (b_Limits_fits F_self))) :=
  fn_lift F sc_Limits_fits rfl fun cdv A outer s H E hr => by
    have nd := sc_Limits_fits.nd
    exact (xss_cons (xs_if (xt_eq hr.units (xv 1) xe_str) (xss_one (xs_ret (xe_call h_is_whole (hr.mono (by omega)) (by rfl) (xa_cons (xv 2) (xa_cons xe_int (xa_cons (xe_sub (xe_fld T.f_wide (xv 0)) xe_int) xa_nil)))))) xss_nil)
    (xss_cons (xs_if (xt_eq hr.units (xv 1) xe_str) (xss_one (xs_ret (xe_call h_is_number (hr.mono (by omega)) (by rfl) (xa_cons (xv 2) xa_nil)))) xss_nil)
    (xss_cons (xs_if (xt_eq hr.units (xv 1) xe_str) (xss_one (xs_ret (xe_call h_is_name (hr.mono (by omega)) (by rfl) (xa_cons (xv 2) xa_nil)))) xss_nil)
    (xss_cons (xs_if (xt_eq hr.units (xv 1) xe_str) (xss_one (xs_ret (xe_call h_is_whole (hr.mono (by omega)) (by rfl) (xa_cons (xv 2) (xa_cons xe_int (xa_cons (xe_fld T.f_long (xv 0)) xa_nil)))))) xss_nil)
    (xss_cons (xs_if (xt_eq hr.units (xv 1) xe_str) (xss_one (xs_ret (xe_call h_is_whole (hr.mono (by omega)) (by rfl) (xa_cons (xv 2) (xa_cons xe_int (xa_cons (xe_sub (xe_fld T.f_many (xv 0)) xe_int) xa_nil)))))) xss_nil)
    (xss_cons (xs_if (xt_eq hr.units (xv 1) xe_str) (xss_cons (xs_set (i := 3) nd rfl (.inl rfl) (xe_and (xe_isi (by rfl) T.g_isinstance (xv 2) (by rfl) T.g_tuple bt_tuple (by simp [AskTy]) (by decide) (by decide)) (xe_one (xe_lele xe_int (xe_len (by rfl) T.g_len (xv 2)) (xe_gint (by rfl) T.c_MOST_BOXES)))))
    (xss_one (xs_ret (xe_and (xv 3) (xe_one (xe_all rfl (by rfl) T.g_all (xl_lc (own := [("one", 4)]) rfl nd (xi_seq (xv 2)) (blkOk_by (by kernel_rfl)) (fun _ _ _ _ _ => (xgc_name (i := 4) nd rfl (.inl rfl))) (fun _ _ _ _ _ => xts_nil) (fun _ _ _ _ _ => (xe_meth h_self (hr.mono (by omega)) (xv 0) (xa_cons xe_str (xa_cons (xv 4) xa_nil)))) (by decide)))))))) xss_nil)
    (xss_one (xs_ret (xe_and (xe_isi (by rfl) T.g_isinstance (xv 2) (by rfl) T.g_str bt_str (by simp [AskTy]) (by decide) (by decide)) (xe_and (xe_in (xv 2) (xe_fld T.f_names (xv 0))) (xe_one (xe_or (xe_eq hr.units (xv 1) xe_str) (xe_one (xe_notIn (xv 2) (xe_gtup (by rfl) T.c_PLAIN_KINDS)))))))))))))))
abbrev s_Limits_lets : Stmt := inClass (top 54) 2
theorem sc_Limits_lets : FnScope ["self", "thing", "word", "rest", "sign", "one"] ["self", "thing"] (defScope s_Limits_lets) := ⟨rfl, rfl, rfl, by decide +kernel, rfl, by decide +kernel, by decide +kernel⟩
theorem ok_Limits_lets (T : TF K w mg) (m_Limits_fits : HasMeth P w K mg base 4 "Limits" "fits" 3 (F_Limits_fits 2)) {dvs : List V} {kws : List (Str × V)} {f : Addr} {fd : FuncData} (F : FunD K "lets" "Limits.lets" (defArgs s_Limits_lets) (defBody s_Limits_lets) (defScope s_Limits_lets) dvs kws f fd) : FnOk P w K mg base CX0 5 f fd ["self", "thing"] (LfF K mg 2 F_Limits_lets) :=
  fn_lift F sc_Limits_lets rfl fun cdv A outer s H E hr => by
    have nd := sc_Limits_lets.nd
    exact (xss_cons (xs_if (PW.pt (xw_or (xt_not (xt_val (xe_isi (by rfl) T.g_isinstance (xv 1) (by rfl) T.g_tuple bt_tuple (by simp [AskTy]) (by decide) (by decide)))) (xw_or1 (xt_eq hr.units (xv 1) (xe_tup xa_nil))))) (xss_one (xs_ret xe_bl)) xss_nil)
    (xss_cons (xs_asg (xv 1) (xg_star rfl (xg_name (i := 2) nd rfl (.inl rfl)) (xg_name (i := 3) nd rfl (.inl rfl))))
    (xss_cons (xs_if (PW.pt (xw_or (xt_not (xt_val (xe_isi (by rfl) T.g_isinstance (xv 2) (by rfl) T.g_str bt_str (by simp [AskTy]) (by decide) (by decide)))) (xw_or (xt_notInK (by rfl) T.c_FORMS (xv 2)) (xw_or1 (xt_ne hr.units (xe_len (by rfl) T.g_len (xe_getK (by rfl) T.c_FORMS (xv 2))) (xe_len (by rfl) T.g_len (xv 3))))))) (xss_one (xs_ret xe_bl)) xss_nil)
    (xss_one (xs_ret (xe_all rfl (by rfl) T.g_all (xl_lc (own := [("sign", 4), ("one", 5)]) rfl nd (xi_zip (by rfl) T.g_zip (xe_getK (by rfl) T.c_FORMS (xv 2)) (xv 3)) (blkOk_by (by kernel_rfl)) (fun _ _ _ _ _ => (xgc_tup (n := 2) rfl (xgcs_cons (xgc_name (i := 4) nd rfl (.inl rfl)) (xgcs_cons (xgc_name (i := 5) nd rfl (.inl rfl)) xgcs_nil)))) (fun _ _ _ _ _ => xts_nil) (fun _ _ _ _ _ => (xe_meth m_Limits_fits (hr.mono (by decide)) (xv 0) (xa_cons (xv 4) (xa_cons (xv 5) xa_nil)))) (by decide))))))))
abbrev s_limits_of : Stmt := top 55
theorem sc_limits_of : FnScope ["kinds", "bodies", "body", "takes", "boxes", "rows", "names", "kind"] ["kinds", "bodies", "body"] (defScope s_limits_of) := ⟨rfl, rfl, rfl, by decide +kernel, rfl, by decide +kernel, by decide +kernel⟩
theorem ok_limits_of (T : TF K w mg) (kk_Limits : HasMakeK P w K mg base 1 "Limits" 1 ["many", "boxes", "rows"] 5 F_Limits_init) {dvs : List V} {kws : List (Str × V)} {f : Addr} {fd : FuncData} (F : FunD K "limits_of" "limits_of" (defArgs s_limits_of) (defBody s_limits_of) (defScope s_limits_of) dvs kws f fd) : FnOk P w K mg base CX0 3 f fd ["kinds", "bodies", "body"] (LfF K mg 3 F_limits_of) :=
  fn_lift F sc_limits_of rfl fun cdv A outer s H E hr => by
    have nd := sc_limits_of.nd
    exact (xss_cons (xs_asg (xe_ix (xv 1) (xv 2)) (xg_tup (n := 3) rfl (xgs_cons (xg_name (i := 3) nd rfl (.inl rfl)) (xgs_cons (xg_name (i := 4) nd rfl (.inl rfl)) (xgs_cons (xg_name (i := 5) nd rfl (.inl rfl)) xgs_nil)))))
    (xss_cons (xs_set (i := 6) nd rfl (.inl rfl) (xe_new (xl_cat (xl_lc (own := [("kind", 7)]) rfl nd (xi_seq (xv 0)) (blkOk_by (by kernel_rfl)) (fun _ _ _ _ _ => (xgc_name (i := 7) nd rfl (.inl rfl))) (fun _ _ _ _ _ => xts_nil) (fun _ _ _ _ _ => (xe_ix (xv 7) xe_int)) (by decide)) (xl_list (by rfl) T.g_list (xe_gtup (by rfl) T.c_PLAIN_KINDS)))))
    (xss_one (xs_ret (xe_makeK kk_Limits (hr.mono (by decide)) (by rfl) (xa_cons (xv 6) xa_nil) (xk_cons (xe_len (by rfl) T.g_len (xv 1)) (xk_cons (xv 4) (xk_cons (xe_len (by rfl) T.g_len (xv 5)) xk_nil))))))))
abbrev s_are_parts : Stmt := top 56
theorem sc_are_parts : FnScope ["kinds", "bodies", "table", "one", "kind", "names", "many", "key", "body"] ["kinds", "bodies", "table"] (defScope s_are_parts) := ⟨rfl, rfl, rfl, by decide +kernel, rfl, by decide +kernel, by decide +kernel⟩
theorem ok_are_parts (T : TF K w mg) (h_is_list : CalG P w K mg base 1 "is_list" 1 F_is_list) (h_is_kind : CalG P w K mg base 3 "is_kind" 1 F_is_kind) (h_are_unlike : CalG P w K mg base 1 "are_unlike" 1 F_are_unlike) (h_is_body : CalG P w K mg base 2 "is_body" 1 F_is_body) (hk_is_entry : ∃ f, mg "is_entry" = some (.ref f) ∧ ClK P w K mg base 2 f 2 ["names", "many"] 4 F_is_entry) {dvs : List V} {kws : List (Str × V)} {f : Addr} {fd : FuncData} (F : FunD K "are_parts" "are_parts" (defArgs s_are_parts) (defBody s_are_parts) (defScope s_are_parts) dvs kws f fd) : FnOk P w K mg base CX0 4 f fd ["kinds", "bodies", "table"] (LfF K mg 3 F_are_parts) :=
  fn_lift F sc_are_parts rfl fun cdv A outer s H E hr => by
    have nd := sc_are_parts.nd
    exact (xss_cons (xs_if (PW.pt (xw_or (xt_not (xt_val (xe_call h_is_list (hr.mono (by decide)) (by rfl) (xa_cons (xv 0) xa_nil)))) (xw_or (xt_gt (xe_len (by rfl) T.g_len (xv 0)) (xe_gint (by rfl) T.c_MOST_KINDS)) (xw_or1 (xt_not (xt_val (xe_all rfl (by rfl) T.g_all (xl_lc (own := [("one", 3)]) rfl nd (xi_seq (xv 0)) (blkOk_by (by kernel_rfl)) (fun _ _ _ _ _ => (xgc_name (i := 3) nd rfl (.inl rfl))) (fun _ _ _ _ _ => xts_nil) (fun _ _ _ _ _ => (xe_call h_is_kind (hr.mono (by decide)) (by rfl) (xa_cons (xv 3) xa_nil))) (by decide))))))))) (xss_one (xs_ret xe_bl)) xss_nil)
    (xss_cons (xs_if (xt_not (xt_val (xe_call h_are_unlike (hr.mono (by decide)) (by rfl) (xa_cons (xe_new (xl_lc (own := [("kind", 4)]) rfl nd (xi_seq (xv 0)) (blkOk_by (by kernel_rfl)) (fun _ _ _ _ _ => (xgc_name (i := 4) nd rfl (.inl rfl))) (fun _ _ _ _ _ => xts_nil) (fun _ _ _ _ _ => (xe_ix (xv 4) xe_int)) (by decide))) xa_nil)))) (xss_one (xs_ret xe_bl)) xss_nil)
    (xss_cons (xs_if (PW.pt (xw_or (xt_not (xt_val (xe_call h_is_list (hr.mono (by decide)) (by rfl) (xa_cons (xv 1) xa_nil)))) (xw_or (xt_not (xt_lele xe_int (xe_len (by rfl) T.g_len (xv 1)) (xe_gint (by rfl) T.c_MOST_BODIES))) (xw_or1 (xt_not (xt_val (xe_all rfl (by rfl) T.g_all (xl_lc (own := [("one", 3)]) rfl nd (xi_seq (xv 1)) (blkOk_by (by kernel_rfl)) (fun _ _ _ _ _ => (xgc_name (i := 3) nd rfl (.inl rfl))) (fun _ _ _ _ _ => xts_nil) (fun _ _ _ _ _ => (xe_call h_is_body (hr.mono (by decide)) (by rfl) (xa_cons (xv 3) xa_nil))) (by decide))))))))) (xss_one (xs_ret xe_bl)) xss_nil)
    (xss_cons (xs_asg (xe_tup (xa_cons (xe_new (xl_cat (xl_lc (own := [("kind", 4)]) rfl nd (xi_seq (xv 0)) (blkOk_by (by kernel_rfl)) (fun _ _ _ _ _ => (xgc_name (i := 4) nd rfl (.inl rfl))) (fun _ _ _ _ _ => xts_nil) (fun _ _ _ _ _ => (xe_ix (xv 4) xe_int)) (by decide)) (xl_list (by rfl) T.g_list (xe_gtup (by rfl) T.c_PLAIN_KINDS)))) (xa_cons (xe_len (by rfl) T.g_len (xv 1)) xa_nil))) (xg_tup (n := 2) rfl (xgs_cons (xg_name (i := 5) nd rfl (.inr rfl)) (xgs_cons (xg_name (i := 6) nd rfl (.inr rfl)) xgs_nil))))
    (xss_cons (xs_if (xt_not (xt_val (xe_isi (by rfl) T.g_isinstance (xv 2) (by rfl) T.g_dict bt_dict (by simp [AskTy]) (by decide) (by decide)))) (xss_one (xs_ret xe_bl)) xss_nil)
    (xss_one (xs_ret (xe_all rfl (by rfl) T.g_all (xl_items (own := [("key", 7), ("body", 8)]) (i := 2) rfl nd rfl (.inl rfl) (blkOk_by (by kernel_rfl)) (fun _ _ _ _ _ => (xgc_tup (n := 2) rfl (xgcs_cons (xgc_name (i := 7) nd rfl (.inl rfl)) (xgcs_cons (xgc_name (i := 8) nd rfl (.inl rfl)) xgcs_nil)))) (fun _ _ _ _ _ => xts_nil) (fun _ _ _ _ _ => (xe_callKw hk_is_entry (hr.mono (by decide)) (by rfl) (xa_cons (xv 7) (xa_cons (xv 8) xa_nil)) (xk_cons (xv 5) (xk_cons (xv 6) xk_nil)))) (by decide))))))))))
abbrev s_Program_init : Stmt := inClass (top 57) 0
theorem sc_Program_init : FnScope ["self", "kinds", "bodies", "table", "body", "takes", "boxes", "rows", "limits", "row", "thing", "name", "fields", "key"] ["self", "kinds", "bodies", "table"] (defScope s_Program_init) := ⟨rfl, rfl, rfl, by decide +kernel, rfl, by decide +kernel, by decide +kernel⟩
theorem ok_Program_init (T : TF K w mg) (h_are_parts : CalG P w K mg base 4 "are_parts" 3 F_are_parts) (h_limits_of : CalG P w K mg base 3 "limits_of" 3 F_limits_of) (m_Limits_lets : HasMeth P w K mg base 5 "Limits" "lets" 2 F_Limits_lets) {dvs : List V} {kws : List (Str × V)} {f : Addr} {fd : FuncData} (F : FunD K "__init__" "Program.__init__" (defArgs s_Program_init) (defBody s_Program_init) (defScope s_Program_init) dvs kws f fd) : FnOk P w K mg base CX0 6 f fd ["self", "kinds", "bodies", "table"] (LfF K mg 4 F_Program_init) :=
  fn_lift F sc_Program_init rfl fun cdv A outer s H E hr => by
    have nd := sc_Program_init.nd
    exact (xss_cons (xs_if (xt_not (xt_val (xe_call h_are_parts (hr.mono (by decide)) (by rfl) (xa_cons (xv 1) (xa_cons (xv 2) (xa_cons (xv 3) xa_nil)))))) (xss_one xs_never) xss_nil)
    (xss_cons (xs_for PassesOwn.never rfl (xi_enum (by rfl) T.g_enumerate (xv 2)) (xg_tup (n := 2) rfl (xgs_cons (xg_name (i := 4) nd rfl (.inl rfl)) (xgs_cons (xg_tup (n := 3) rfl (xgs_cons (xg_name (i := 5) nd rfl (.inl rfl)) (xgs_cons (xg_name (i := 6) nd rfl (.inl rfl)) (xgs_cons (xg_name (i := 7) nd rfl (.inl rfl)) xgs_nil)))) xgs_nil))) (xss_cons (xs_set (i := 8) nd rfl (.inl rfl) (xe_call h_limits_of (hr.mono (by decide)) (by rfl) (xa_cons (xv 1) (xa_cons (xv 2) (xa_cons (xv 4) xa_nil)))))
    (xss_one (xs_for PassesOwn.never rfl (xi_enum (by rfl) T.g_enumerate (xv 7)) (xg_tup (n := 2) rfl (xgs_cons (xg_name (i := 9) nd rfl (.inl rfl)) (xgs_cons (xg_name (i := 10) nd rfl (.inl rfl)) xgs_nil))) (xss_one (xs_if (xt_not (xt_val (xe_meth m_Limits_lets (hr.mono (by decide)) (xv 8) (xa_cons (xv 10) xa_nil)))) (xss_one xs_never) xss_nil))))))
    (xss_cons (xs_fld T.f_all_kinds (xv 0) (xe_tupL (by rfl) T.g_tuple (xl_lc (own := [("name", 11), ("fields", 12)]) rfl nd (xi_seq (xv 1)) (blkOk_by (by kernel_rfl)) (fun _ _ _ _ _ => (xgc_tup (n := 2) rfl (xgcs_cons (xgc_name (i := 11) nd rfl (.inl rfl)) (xgcs_cons (xgc_name (i := 12) nd rfl (.inl rfl)) xgcs_nil)))) (fun _ _ _ _ _ => xts_nil) (fun _ _ _ _ _ => (xe_tup (xa_cons (xv 11) (xa_cons (xe_tupE (by rfl) T.g_tuple (xv 12)) xa_nil)))) (by decide))))
    (xss_cons (xs_fld T.f_all_bodies (xv 0) (xe_tupL (by rfl) T.g_tuple (xl_lc (own := [("takes", 5), ("boxes", 6), ("rows", 7)]) rfl nd (xi_seq (xv 2)) (blkOk_by (by kernel_rfl)) (fun _ _ _ _ _ => (xgc_tup (n := 3) rfl (xgcs_cons (xgc_name (i := 5) nd rfl (.inl rfl)) (xgcs_cons (xgc_name (i := 6) nd rfl (.inl rfl)) (xgcs_cons (xgc_name (i := 7) nd rfl (.inl rfl)) xgcs_nil))))) (fun _ _ _ _ _ => xts_nil) (fun _ _ _ _ _ => (xe_tup (xa_cons (xv 5) (xa_cons (xv 6) (xa_cons (xe_tupE (by rfl) T.g_tuple (xv 7)) xa_nil))))) (by decide))))
    (xss_one (xs_fld T.f_entries (xv 0) (xe_dcT (own := [("key", 13)]) hr.units rfl nd (xi_L (xl_sortD rfl (by rfl) T.g_sorted (xv 3))) (blkOk_by (by kernel_rfl)) (fun _ _ _ _ _ => (xgc_name (i := 13) nd rfl (.inl rfl))) (fun _ _ _ _ _ => xts_nil) (fun _ _ _ _ _ => (xv 13)) (fun _ _ _ _ _ => (xe_getD hr.units (xv 3) (xv 13))) (by decide))))))))
abbrev s_Program_kinds : Stmt := inClass (top 57) 1
theorem sc_Program_kinds : FnScope ["self"] ["self"] (defScope s_Program_kinds) := ⟨rfl, rfl, rfl, by decide +kernel, rfl, by decide +kernel, by decide +kernel⟩
theorem ok_Program_kinds (T : TF K w mg)  {dvs : List V} {kws : List (Str × V)} {f : Addr} {fd : FuncData} (F : FunD K "kinds" "Program.kinds" (defArgs s_Program_kinds) (defBody s_Program_kinds) (defScope s_Program_kinds) dvs kws f fd) : FnOk P w K mg base CX0 1 f fd ["self"] (LfF K mg 1 F_Program_kinds) :=
  fn_lift F sc_Program_kinds rfl fun cdv A outer s H E hr => by
    have nd := sc_Program_kinds.nd
    exact (xss_one (xs_ret (xe_new (xl_list (by rfl) T.g_list (xe_fld T.f_all_kinds (xv 0))))))
abbrev s_Program_bodies : Stmt := inClass (top 57) 2
theorem sc_Program_bodies : FnScope ["self"] ["self"] (defScope s_Program_bodies) := ⟨rfl, rfl, rfl, by decide +kernel, rfl, by decide +kernel, by decide +kernel⟩
theorem ok_Program_bodies (T : TF K w mg)  {dvs : List V} {kws : List (Str × V)} {f : Addr} {fd : FuncData} (F : FunD K "bodies" "Program.bodies" (defArgs s_Program_bodies) (defBody s_Program_bodies) (defScope s_Program_bodies) dvs kws f fd) : FnOk P w K mg base CX0 1 f fd ["self"] (LfF K mg 1 F_Program_bodies) :=
  fn_lift F sc_Program_bodies rfl fun cdv A outer s H E hr => by
    have nd := sc_Program_bodies.nd
    exact (xss_one (xs_ret (xe_new (xl_list (by rfl) T.g_list (xe_fld T.f_all_bodies (xv 0))))))
abbrev s_Program_table : Stmt := inClass (top 57) 3
theorem sc_Program_table : FnScope ["self"] ["self"] (defScope s_Program_table) := ⟨rfl, rfl, rfl, by decide +kernel, rfl, by decide +kernel, by decide +kernel⟩
theorem ok_Program_table (T : TF K w mg)  {dvs : List V} {kws : List (Str × V)} {f : Addr} {fd : FuncData} (F : FunD K "table" "Program.table" (defArgs s_Program_table) (defBody s_Program_table) (defScope s_Program_table) dvs kws f fd) : FnOk P w K mg base CX0 1 f fd ["self"] (LfF K mg 1 F_Program_table) :=
  fn_lift F sc_Program_table rfl fun cdv A outer s H E hr => by
    have nd := sc_Program_table.nd
    exact (xss_one (xs_ret (xe_dictOf hr.units (by rfl) T.g_dict (xe_fld T.f_entries (xv 0)))))
abbrev s_World_init : Stmt := inClass (top 23) 0
theorem sc_World_init : FnScope ["self", "program"] ["self", "program"] (defScope s_World_init) := ⟨rfl, rfl, rfl, by decide +kernel, rfl, by decide +kernel, by decide +kernel⟩
theorem ok_World_init (T : TF K w mg) (m_Program_kinds : HasMeth P w K mg base 1 "Program" "kinds" 1 F_Program_kinds) (m_Program_bodies : HasMeth P w K mg base 1 "Program" "bodies" 1 F_Program_bodies) (m_Program_table : HasMeth P w K mg base 1 "Program" "table" 1 F_Program_table) {dvs : List V} {kws : List (Str × V)} {f : Addr} {fd : FuncData} (F : FunD K "__init__" "World.__init__" (defArgs s_World_init) (defBody s_World_init) (defScope s_World_init) dvs kws f fd) : FnOk P w K mg base CX0 2 f fd ["self", "program"] (LfF K mg 2 F_World_init) :=
  fn_lift F sc_World_init rfl fun cdv A outer s H E hr => by
    have nd := sc_World_init.nd
    exact (xss_cons (xs_fld T.f_source (xv 0) (xv 1))
    (xss_cons (xs_fld T.f_field_names (xv 0) (xe_dictP rfl (by rfl) T.g_dict (xe_meth0 m_Program_kinds (hr.mono (by decide)) (xv 1))))
    (xss_cons (xs_fld T.f_plan (xv 0) (xe_meth0 m_Program_bodies (hr.mono (by decide)) (xv 1)))
    (xss_cons (xs_fld T.f_entries (xv 0) (xe_meth0 m_Program_table (hr.mono (by decide)) (xv 1)))
    (xss_cons (xs_fld T.f_heap (xv 0) (xe_new (xl_lst xa_nil)))
    (xss_one (xs_fld T.f_told (xv 0) (xe_new (xl_lst xa_nil)))))))))
abbrev s_Rows_init : Stmt := inClass (top 43) 0
theorem sc_Rows_init : FnScope ["self", "program"] ["self", "program"] (defScope s_Rows_init) := ⟨rfl, rfl, rfl, by decide +kernel, rfl, by decide +kernel, by decide +kernel⟩
theorem ok_Rows_init (T : TF K w mg) (k_World : HasMake P w K mg base 2 "World" 2 F_World_init) {dvs : List V} {kws : List (Str × V)} {f : Addr} {fd : FuncData} (F : FunD K "__init__" "Rows.__init__" (defArgs s_Rows_init) (defBody s_Rows_init) (defScope s_Rows_init) dvs kws f fd) : FnOk P w K mg base CX0 4 f fd ["self", "program"] (LfF K mg 2 F_Rows_init) :=
  fn_lift F sc_Rows_init rfl fun cdv A outer s H E hr => by
    have nd := sc_Rows_init.nd
    exact (xss_cons (xs_fld T.f_world (xv 0) (xe_make k_World (hr.mono (by decide)) (by rfl) (xa_cons (xv 1) xa_nil)))
    (xss_cons (xs_fld T.f_frames (xv 0) (xe_new (xl_lst xa_nil)))
    (xss_cons (xs_fld T.f_ending (xv 0) xe_non)
    (xss_cons (xs_fld T.f_passed (xv 0) xe_int)
    (xss_one (xs_fld T.f_profile (xv 0) xe_dNewT))))))
abbrev s_Rows_depth : Stmt := inClass (top 43) 1
theorem sc_Rows_depth : FnScope ["self"] ["self"] (defScope s_Rows_depth) := ⟨rfl, rfl, rfl, by decide +kernel, rfl, by decide +kernel, by decide +kernel⟩
theorem ok_Rows_depth (T : TF K w mg)  {dvs : List V} {kws : List (Str × V)} {f : Addr} {fd : FuncData} (F : FunD K "depth" "Rows.depth" (defArgs s_Rows_depth) (defBody s_Rows_depth) (defScope s_Rows_depth) dvs kws f fd) : FnOk P w K mg base CX0 1 f fd ["self"] (LfF K mg 1 F_Rows_depth) :=
  fn_lift F sc_Rows_depth rfl fun cdv A outer s H E hr => by
    have nd := sc_Rows_depth.nd
    exact (xss_one (xs_ret (xe_len (by rfl) T.g_len (xe_fld T.f_frames (xv 0)))))
abbrev s_Rows_called : Stmt := inClass (top 43) 2
theorem sc_Rows_called : FnScope ["self", "frame"] ["self", "frame"] (defScope s_Rows_called) := ⟨rfl, rfl, rfl, by decide +kernel, rfl, by decide +kernel, by decide +kernel⟩
theorem ok_Rows_called (T : TF K w mg)  {dvs : List V} {kws : List (Str × V)} {f : Addr} {fd : FuncData} (F : FunD K "called" "Rows.called" (defArgs s_Rows_called) (defBody s_Rows_called) (defScope s_Rows_called) dvs kws f fd) : FnOk P w K mg base CX0 1 f fd ["self", "frame"] (LfF K mg 2 F_Rows_called) :=
  fn_lift F sc_Rows_called rfl fun cdv A outer s H E hr => by
    have nd := sc_Rows_called.nd
    exact (xss_one (xs_expr (xe_append (xe_fld T.f_frames (xv 0)) (xv 1))))
abbrev s_Rows_got : Stmt := inClass (top 43) 4
theorem sc_Rows_got : FnScope ["self", "caller", "value", "row"] ["self", "caller", "value"] (defScope s_Rows_got) := ⟨rfl, rfl, rfl, by decide +kernel, rfl, by decide +kernel, by decide +kernel⟩
theorem ok_Rows_got (T : TF K w mg) (m_World_rows_of : HasMeth P w K mg base 1 "World" "rows_of" 2 F_World_rows_of) {dvs : List V} {kws : List (Str × V)} {f : Addr} {fd : FuncData} (F : FunD K "got" "Rows.got" (defArgs s_Rows_got) (defBody s_Rows_got) (defScope s_Rows_got) dvs kws f fd) : FnOk P w K mg base CX0 2 f fd ["self", "caller", "value"] (LfF K mg 3 F_Rows_got) :=
  fn_lift F sc_Rows_got rfl fun cdv A outer s H E hr => by
    have nd := sc_Rows_got.nd
    exact (xss_cons (xs_set (i := 3) nd rfl (.inl rfl) (xe_ix (xe_meth m_World_rows_of (hr.mono (by decide)) (xe_fld T.f_world (xv 0)) (xa_cons (xe_fld T.f_body (xv 1)) xa_nil)) (xe_fld T.f_row (xv 1))))
    (xss_cons (xs_setIx (xv 2) (xe_fld T.f_boxes (xv 1)) (xe_ix (xv 3) xe_int))
    (xss_one (xs_fldaug (fo := (fun i j => i + j)) in_add T.f_row (xv 1) xe_int))))
abbrev s_Rows_given : Stmt := inClass (top 43) 3
theorem sc_Rows_given : FnScope ["self", "value"] ["self", "value"] (defScope s_Rows_given) := ⟨rfl, rfl, rfl, by decide +kernel, rfl, by decide +kernel, by decide +kernel⟩
theorem ok_Rows_given (T : TF K w mg) (m_World_as_event : HasMeth P w K mg base 2 "World" "as_event" 2 F_World_as_event) (m_Plain_got : HasMeth P w K mg base 2 "Plain" "got" 3 F_Rows_got) {dvs : List V} {kws : List (Str × V)} {f : Addr} {fd : FuncData} (F : FunD K "given" "Rows.given" (defArgs s_Rows_given) (defBody s_Rows_given) (defScope s_Rows_given) dvs kws f fd) : FnOk P w K mg base CX0 3 f fd ["self", "value"] (LfF K mg 2 F_Rows_given) :=
  fn_lift F sc_Rows_given rfl fun cdv A outer s H E hr => by
    have nd := sc_Rows_given.nd
    exact (xss_cons (xs_expr (xe_pop (xe_fld T.f_frames (xv 0))))
    (xss_one (xs_if (xt_eqL hr.units (xe_fld T.f_frames (xv 0)) (xe_new (xl_lst xa_nil))) (xss_one (xs_fld T.f_ending (xv 0) (xe_tup (xa_cons xe_str (xa_cons (xe_meth m_World_as_event (hr.mono (by decide)) (xe_fld T.f_world (xv 0)) (xa_cons (xv 1) xa_nil)) xa_nil))))) (xss_one (xs_expr (xe_meth m_Plain_got (hr.mono (by decide)) (xv 0) (xa_cons (xe_ix (xe_fld T.f_frames (xv 0)) (xe_neg xe_int)) (xa_cons (xv 1) xa_nil))))))))
abbrev s_Rows_told_anew : Stmt := inClass (top 43) 5
theorem sc_Rows_told_anew : FnScope ["self", "key", "body"] ["self", "key", "body"] (defScope s_Rows_told_anew) := ⟨rfl, rfl, rfl, by decide +kernel, rfl, by decide +kernel, by decide +kernel⟩
theorem ok_Rows_told_anew (T : TF K w mg)  {dvs : List V} {kws : List (Str × V)} {f : Addr} {fd : FuncData} (F : FunD K "told_anew" "Rows.told_anew" (defArgs s_Rows_told_anew) (defBody s_Rows_told_anew) (defScope s_Rows_told_anew) dvs kws f fd) : FnOk P w K mg base CX0 1 f fd ["self", "key", "body"] (LfF K mg 3 F_Rows_told_anew) :=
  fn_lift F sc_Rows_told_anew rfl fun cdv A outer s H E hr => by
    have nd := sc_Rows_told_anew.nd
    exact (xss_one (xs_putD hr.units (xv 2) (xe_fld T.f_entries (xe_fld T.f_world (xv 0))) (xv 1)))
abbrev s_Rows_noted : Stmt := inClass (top 43) 6
theorem sc_Rows_noted : FnScope ["self", "place", "what", "some"] ["self", "place", "what"] (defScope s_Rows_noted) := ⟨rfl, rfl, rfl, by decide +kernel, rfl, by decide +kernel, by decide +kernel⟩
theorem ok_Rows_noted (T : TF K w mg)  {dvs : List V} {kws : List (Str × V)} {f : Addr} {fd : FuncData} (F : FunD K "noted" "Rows.noted" (defArgs s_Rows_noted) (defBody s_Rows_noted) (defScope s_Rows_noted) dvs kws f fd) : FnOk P w K mg base CX0 1 f fd ["self", "place", "what"] (LfF K mg 3 F_Rows_noted) :=
  fn_lift F sc_Rows_noted rfl fun cdv A outer s H E hr => by
    have nd := sc_Rows_noted.nd
    exact (xss_one (xs_if (xt_notN (xv 2)) (xss_cons (xs_set (i := 3) nd rfl (.inl rfl) (xe_setd hr.units (xe_fld T.f_profile (xv 0)) (xv 1) xe_dNewT))
    (xss_one (xs_putD hr.units xe_bl (xv 3) (xv 2)))) xss_nil))
abbrev s_do_number : Stmt := top 27
theorem sc_do_number : FnScope ["machine", "frame", "row"] ["machine", "frame", "row"] (defScope s_do_number) := ⟨rfl, rfl, rfl, by decide +kernel, rfl, by decide +kernel, by decide +kernel⟩
theorem ok_do_number (T : TF K w mg)  {dvs : List V} {kws : List (Str × V)} {f : Addr} {fd : FuncData} (F : FunD K "do_number" "do_number" (defArgs s_do_number) (defBody s_do_number) (defScope s_do_number) dvs kws f fd) : FnOk P w K mg base CX0 1 f fd ["machine", "frame", "row"] (LfF K mg 3 F_do_number) :=
  fn_lift F sc_do_number rfl fun cdv A outer s H E hr => by
    have nd := sc_do_number.nd
    exact (xss_one (xs_setIx (xe_ix (xv 2) xe_int) (xe_fld T.f_boxes (xv 1)) (xe_ix (xv 2) xe_int)))
abbrev s_do_nothing : Stmt := top 28
theorem sc_do_nothing : FnScope ["machine", "frame", "row"] ["machine", "frame", "row"] (defScope s_do_nothing) := ⟨rfl, rfl, rfl, by decide +kernel, rfl, by decide +kernel, by decide +kernel⟩
theorem ok_do_nothing (T : TF K w mg)  {dvs : List V} {kws : List (Str × V)} {f : Addr} {fd : FuncData} (F : FunD K "do_nothing" "do_nothing" (defArgs s_do_nothing) (defBody s_do_nothing) (defScope s_do_nothing) dvs kws f fd) : FnOk P w K mg base CX0 1 f fd ["machine", "frame", "row"] (LfF K mg 3 F_do_nothing) :=
  fn_lift F sc_do_nothing rfl fun cdv A outer s H E hr => by
    have nd := sc_do_nothing.nd
    exact (xss_one (xs_setIx xe_non (xe_fld T.f_boxes (xv 1)) (xe_ix (xv 2) xe_int)))
abbrev s_do_copy : Stmt := top 29
theorem sc_do_copy : FnScope ["machine", "frame", "row"] ["machine", "frame", "row"] (defScope s_do_copy) := ⟨rfl, rfl, rfl, by decide +kernel, rfl, by decide +kernel, by decide +kernel⟩
theorem ok_do_copy (T : TF K w mg)  {dvs : List V} {kws : List (Str × V)} {f : Addr} {fd : FuncData} (F : FunD K "do_copy" "do_copy" (defArgs s_do_copy) (defBody s_do_copy) (defScope s_do_copy) dvs kws f fd) : FnOk P w K mg base CX0 1 f fd ["machine", "frame", "row"] (LfF K mg 3 F_do_copy) :=
  fn_lift F sc_do_copy rfl fun cdv A outer s H E hr => by
    have nd := sc_do_copy.nd
    exact (xss_one (xs_setIx (xe_ix (xe_fld T.f_boxes (xv 1)) (xe_ix (xv 2) xe_int)) (xe_fld T.f_boxes (xv 1)) (xe_ix (xv 2) xe_int)))
abbrev s_do_reckoned : Stmt := top 30
theorem sc_do_reckoned : FnScope ["machine", "frame", "row", "word", "b", "c", "d", "fault", "result"] ["machine", "frame", "row"] (defScope s_do_reckoned) := ⟨rfl, rfl, rfl, by decide +kernel, rfl, by decide +kernel, by decide +kernel⟩
theorem ok_do_reckoned (T : TF K w mg) (h_reckoned : CalG P w K mg base 1 "reckoned" 3 F_reckoned) {dvs : List V} {kws : List (Str × V)} {f : Addr} {fd : FuncData} (F : FunD K "do_reckoned" "do_reckoned" (defArgs s_do_reckoned) (defBody s_do_reckoned) (defScope s_do_reckoned) dvs kws f fd) : FnOk P w K mg base CX0 2 f fd ["machine", "frame", "row"] (LfF K mg 3 F_do_reckoned) :=
  fn_lift F sc_do_reckoned rfl fun cdv A outer s H E hr => by
    have nd := sc_do_reckoned.nd
    exact (xss_cons (xs_asg (xv 2) (xg_tup (n := 4) rfl (xgs_cons (xg_name (i := 3) nd rfl (.inl rfl)) (xgs_cons (xg_name (i := 4) nd rfl (.inl rfl)) (xgs_cons (xg_name (i := 5) nd rfl (.inl rfl)) (xgs_cons (xg_name (i := 6) nd rfl (.inl rfl)) xgs_nil))))))
    (xss_cons (xs_asg (xe_call h_reckoned (hr.mono (by decide)) (by rfl) (xa_cons (xv 3) (xa_cons (xe_ix (xe_fld T.f_boxes (xv 1)) (xv 5)) (xa_cons (xe_ix (xe_fld T.f_boxes (xv 1)) (xv 6)) xa_nil)))) (xg_tup (n := 2) rfl (xgs_cons (xg_name (i := 7) nd rfl (.inl rfl)) (xgs_cons (xg_name (i := 8) nd rfl (.inl rfl)) xgs_nil))))
    (xss_cons (xs_if (xt_isN (xv 7)) (xss_one (xs_setIx (xv 8) (xe_fld T.f_boxes (xv 1)) (xv 4))) xss_nil)
    (xss_one (xs_ret (xv 7))))))
abbrev s_do_make : Stmt := top 31
theorem sc_do_make : FnScope ["machine", "frame", "row"] ["machine", "frame", "row"] (defScope s_do_make) := ⟨rfl, rfl, rfl, by decide +kernel, rfl, by decide +kernel, by decide +kernel⟩
theorem ok_do_make (T : TF K w mg) (m_World_made_empty : HasMeth P w K mg base 2 "World" "made_empty" 2 F_World_made_empty) {dvs : List V} {kws : List (Str × V)} {f : Addr} {fd : FuncData} (F : FunD K "do_make" "do_make" (defArgs s_do_make) (defBody s_do_make) (defScope s_do_make) dvs kws f fd) : FnOk P w K mg base CX0 3 f fd ["machine", "frame", "row"] (LfF K mg 3 F_do_make) :=
  fn_lift F sc_do_make rfl fun cdv A outer s H E hr => by
    have nd := sc_do_make.nd
    exact (xss_one (xs_setIx (xe_meth m_World_made_empty (hr.mono (by decide)) (xe_fld T.f_world (xv 0)) (xa_cons (xe_ix (xv 2) xe_int) xa_nil)) (xe_fld T.f_boxes (xv 1)) (xe_ix (xv 2) xe_int)))
abbrev s_do_get : Stmt := top 32
theorem sc_do_get : FnScope ["machine", "frame", "row", "place", "values", "at"] ["machine", "frame", "row"] (defScope s_do_get) := ⟨rfl, rfl, rfl, by decide +kernel, rfl, by decide +kernel, by decide +kernel⟩
theorem ok_do_get (T : TF K w mg) (m_World_place_in : HasMeth P w K mg base 0 "World" "place_in" 3 F_World_place_in) {dvs : List V} {kws : List (Str × V)} {f : Addr} {fd : FuncData} (F : FunD K "do_get" "do_get" (defArgs s_do_get) (defBody s_do_get) (defScope s_do_get) dvs kws f fd) : FnOk P w K mg base CX0 1 f fd ["machine", "frame", "row"] (LfF K mg 3 F_do_get) :=
  fn_lift F sc_do_get rfl fun cdv A outer s H E hr => by
    have nd := sc_do_get.nd
    exact (xss_cons (xs_set (i := 3) nd rfl (.inl rfl) (xe_meth m_World_place_in (hr.mono (by decide)) (xe_fld T.f_world (xv 0)) (xa_cons (xe_ix (xe_fld T.f_boxes (xv 1)) (xe_ix (xv 2) xe_int)) (xa_cons (xe_ix (xv 2) xe_int) xa_nil))))
    (xss_cons (xs_if (xt_isN (xv 3)) (xss_one (xs_ret xe_str)) xss_nil)
    (xss_cons (xs_asg (xv 3) (xg_tup (n := 2) rfl (xgs_cons (xg_name (i := 4) nd rfl (.inl rfl)) (xgs_cons (xg_name (i := 5) nd rfl (.inl rfl)) xgs_nil))))
    (xss_one (xs_setIx (xe_ix (xv 4) (xv 5)) (xe_fld T.f_boxes (xv 1)) (xe_ix (xv 2) xe_int))))))
abbrev s_do_put : Stmt := top 33
theorem sc_do_put : FnScope ["machine", "frame", "row", "place", "values", "at"] ["machine", "frame", "row"] (defScope s_do_put) := ⟨rfl, rfl, rfl, by decide +kernel, rfl, by decide +kernel, by decide +kernel⟩
theorem ok_do_put (T : TF K w mg) (m_World_place_in : HasMeth P w K mg base 0 "World" "place_in" 3 F_World_place_in) {dvs : List V} {kws : List (Str × V)} {f : Addr} {fd : FuncData} (F : FunD K "do_put" "do_put" (defArgs s_do_put) (defBody s_do_put) (defScope s_do_put) dvs kws f fd) : FnOk P w K mg base CX0 1 f fd ["machine", "frame", "row"] (LfF K mg 3 F_do_put) :=
  fn_lift F sc_do_put rfl fun cdv A outer s H E hr => by
    have nd := sc_do_put.nd
    exact (xss_cons (xs_set (i := 3) nd rfl (.inl rfl) (xe_meth m_World_place_in (hr.mono (by decide)) (xe_fld T.f_world (xv 0)) (xa_cons (xe_ix (xe_fld T.f_boxes (xv 1)) (xe_ix (xv 2) xe_int)) (xa_cons (xe_ix (xv 2) xe_int) xa_nil))))
    (xss_cons (xs_if (xt_isN (xv 3)) (xss_one (xs_ret xe_str)) xss_nil)
    (xss_cons (xs_asg (xv 3) (xg_tup (n := 2) rfl (xgs_cons (xg_name (i := 4) nd rfl (.inl rfl)) (xgs_cons (xg_name (i := 5) nd rfl (.inl rfl)) xgs_nil))))
    (xss_one (xs_setIx (xe_ix (xe_fld T.f_boxes (xv 1)) (xe_ix (xv 2) xe_int)) (xv 4) (xv 5))))))
abbrev s_do_call : Stmt := top 34
theorem sc_do_call : FnScope ["machine", "frame", "row", "word", "b", "name", "args", "handed", "c", "fault", "fresh"] ["machine", "frame", "row"] (defScope s_do_call) := ⟨rfl, rfl, rfl, by decide +kernel, rfl, by decide +kernel, by decide +kernel⟩
theorem ok_do_call (T : TF K w mg) (m_World_new_frame : HasMeth P w K mg base 3 "World" "new_frame" 5 F_World_new_frame) (m_Plain_depth : HasMeth P w K mg base 1 "Plain" "depth" 1 F_Rows_depth) (m_Plain_called : HasMeth P w K mg base 1 "Plain" "called" 2 F_Rows_called) {dvs : List V} {kws : List (Str × V)} {f : Addr} {fd : FuncData} (F : FunD K "do_call" "do_call" (defArgs s_do_call) (defBody s_do_call) (defScope s_do_call) dvs kws f fd) : FnOk P w K mg base CX0 4 f fd ["machine", "frame", "row"] (LfF K mg 3 F_do_call) :=
  fn_lift F sc_do_call rfl fun cdv A outer s H E hr => by
    have nd := sc_do_call.nd
    exact (xss_cons (xs_asg (xv 2) (xg_tup (n := 4) rfl (xgs_cons (xg_name (i := 3) nd rfl (.inl rfl)) (xgs_cons (xg_name (i := 4) nd rfl (.inl rfl)) (xgs_cons (xg_name (i := 5) nd rfl (.inl rfl)) (xgs_cons (xg_name (i := 6) nd rfl (.inl rfl)) xgs_nil))))))
    (xss_cons (xs_setLc (i := 7) (own := [("c", 8)]) rfl nd rfl rfl (sw_true rfl rfl rfl (by decide +kernel)) (xi_seq (xv 6)) (blkOk_by (by kernel_rfl)) (fun _ _ _ _ _ => (xgc_name (i := 8) nd rfl (.inl rfl))) (fun _ _ _ _ _ => xts_nil) (fun _ _ _ _ _ => (xe_ix (xe_fld T.f_boxes (xv 1)) (xv 8))) (by decide))
    (xss_cons (xs_asg (xe_meth m_World_new_frame (hr.mono (by decide)) (xe_fld T.f_world (xv 0)) (xa_cons (xe_ix (xv 7) xe_int) (xa_cons (xv 5) (xa_cons (xe_len (by rfl) T.g_len (xv 7)) (xa_cons (xe_meth0 m_Plain_depth (hr.mono (by decide)) (xv 0)) xa_nil))))) (xg_tup (n := 2) rfl (xgs_cons (xg_name (i := 9) nd rfl (.inl rfl)) (xgs_cons (xg_name (i := 10) nd rfl (.inl rfl)) xgs_nil))))
    (xss_cons (xs_if (xt_isN (xv 9)) (xss_cons (xs_setSl (xv 7) (xe_fld T.f_boxes (xv 10)) (xe_len (by rfl) T.g_len (xv 7)))
    (xss_one (xs_expr (xe_meth m_Plain_called (hr.mono (by decide)) (xv 0) (xa_cons (xv 10) xa_nil))))) xss_nil)
    (xss_one (xs_ret (xv 9)))))))
abbrev s_do_give : Stmt := top 35
theorem sc_do_give : FnScope ["machine", "frame", "row"] ["machine", "frame", "row"] (defScope s_do_give) := ⟨rfl, rfl, rfl, by decide +kernel, rfl, by decide +kernel, by decide +kernel⟩
theorem ok_do_give (T : TF K w mg) (m_Plain_given : HasMeth P w K mg base 3 "Plain" "given" 2 F_Rows_given) {dvs : List V} {kws : List (Str × V)} {f : Addr} {fd : FuncData} (F : FunD K "do_give" "do_give" (defArgs s_do_give) (defBody s_do_give) (defScope s_do_give) dvs kws f fd) : FnOk P w K mg base CX0 4 f fd ["machine", "frame", "row"] (LfF K mg 3 F_do_give) :=
  fn_lift F sc_do_give rfl fun cdv A outer s H E hr => by
    have nd := sc_do_give.nd
    exact (xss_one (xs_expr (xe_meth m_Plain_given (hr.mono (by decide)) (xv 0) (xa_cons (xe_ix (xe_fld T.f_boxes (xv 1)) (xe_ix (xv 2) xe_int)) xa_nil))))
abbrev s_do_go : Stmt := top 36
theorem sc_do_go : FnScope ["machine", "frame", "row"] ["machine", "frame", "row"] (defScope s_do_go) := ⟨rfl, rfl, rfl, by decide +kernel, rfl, by decide +kernel, by decide +kernel⟩
theorem ok_do_go (T : TF K w mg)  {dvs : List V} {kws : List (Str × V)} {f : Addr} {fd : FuncData} (F : FunD K "do_go" "do_go" (defArgs s_do_go) (defBody s_do_go) (defScope s_do_go) dvs kws f fd) : FnOk P w K mg base CX0 1 f fd ["machine", "frame", "row"] (LfF K mg 3 F_do_go) :=
  fn_lift F sc_do_go rfl fun cdv A outer s H E hr => by
    have nd := sc_do_go.nd
    exact (xss_one (xs_fld T.f_row (xv 1) (xe_ix (xv 2) xe_int)))
abbrev s_do_if : Stmt := top 37
theorem sc_do_if : FnScope ["machine", "frame", "row"] ["machine", "frame", "row"] (defScope s_do_if) := ⟨rfl, rfl, rfl, by decide +kernel, rfl, by decide +kernel, by decide +kernel⟩
theorem ok_do_if (T : TF K w mg) (h_is_true : CalG P w K mg base 1 "is_true" 1 F_is_true) {dvs : List V} {kws : List (Str × V)} {f : Addr} {fd : FuncData} (F : FunD K "do_if" "do_if" (defArgs s_do_if) (defBody s_do_if) (defScope s_do_if) dvs kws f fd) : FnOk P w K mg base CX0 2 f fd ["machine", "frame", "row"] (LfF K mg 3 F_do_if) :=
  fn_lift F sc_do_if rfl fun cdv A outer s H E hr => by
    have nd := sc_do_if.nd
    exact (xss_one (xs_fld T.f_row (xv 1) (xe_if (xt_val (xe_call h_is_true (hr.mono (by decide)) (by rfl) (xa_cons (xe_ix (xe_fld T.f_boxes (xv 1)) (xe_ix (xv 2) xe_int)) xa_nil))) (xe_ix (xv 2) xe_int) (xe_add (xe_fld T.f_row (xv 1)) xe_int))))
abbrev s_do_tell : Stmt := top 38
theorem sc_do_tell : FnScope ["machine", "frame", "row"] ["machine", "frame", "row"] (defScope s_do_tell) := ⟨rfl, rfl, rfl, by decide +kernel, rfl, by decide +kernel, by decide +kernel⟩
theorem ok_do_tell (T : TF K w mg) (m_World_as_event : HasMeth P w K mg base 2 "World" "as_event" 2 F_World_as_event) {dvs : List V} {kws : List (Str × V)} {f : Addr} {fd : FuncData} (F : FunD K "do_tell" "do_tell" (defArgs s_do_tell) (defBody s_do_tell) (defScope s_do_tell) dvs kws f fd) : FnOk P w K mg base CX0 3 f fd ["machine", "frame", "row"] (LfF K mg 3 F_do_tell) :=
  fn_lift F sc_do_tell rfl fun cdv A outer s H E hr => by
    have nd := sc_do_tell.nd
    exact (xss_one (xs_expr (xe_append (xe_fld T.f_told (xe_fld T.f_world (xv 0))) (xe_meth m_World_as_event (hr.mono (by decide)) (xe_fld T.f_world (xv 0)) (xa_cons (xe_ix (xe_fld T.f_boxes (xv 1)) (xe_ix (xv 2) xe_int)) xa_nil)))))
abbrev s_do_anew : Stmt := top 39
theorem sc_do_anew : FnScope ["machine", "frame", "row", "word", "kind", "name", "body"] ["machine", "frame", "row"] (defScope s_do_anew) := ⟨rfl, rfl, rfl, by decide +kernel, rfl, by decide +kernel, by decide +kernel⟩
theorem ok_do_anew (T : TF K w mg) (m_Plain_told_anew : HasMeth P w K mg base 1 "Plain" "told_anew" 3 F_Rows_told_anew) {dvs : List V} {kws : List (Str × V)} {f : Addr} {fd : FuncData} (F : FunD K "do_anew" "do_anew" (defArgs s_do_anew) (defBody s_do_anew) (defScope s_do_anew) dvs kws f fd) : FnOk P w K mg base CX0 2 f fd ["machine", "frame", "row"] (LfF K mg 3 F_do_anew) :=
  fn_lift F sc_do_anew rfl fun cdv A outer s H E hr => by
    have nd := sc_do_anew.nd
    exact (xss_cons (xs_asg (xv 2) (xg_tup (n := 4) rfl (xgs_cons (xg_name (i := 3) nd rfl (.inl rfl)) (xgs_cons (xg_name (i := 4) nd rfl (.inl rfl)) (xgs_cons (xg_name (i := 5) nd rfl (.inl rfl)) (xgs_cons (xg_name (i := 6) nd rfl (.inl rfl)) xgs_nil))))))
    (xss_one (xs_expr (xe_meth m_Plain_told_anew (hr.mono (by decide)) (xv 0) (xa_cons (xe_tup (xa_cons (xv 4) (xa_cons (xv 5) xa_nil))) (xa_cons (xv 6) xa_nil))))))
abbrev s_seen_of : Stmt := top 42
theorem sc_seen_of : FnScope ["world", "frame", "row", "word", "value"] ["world", "frame", "row"] (defScope s_seen_of) := ⟨rfl, rfl, rfl, by decide +kernel, rfl, by decide +kernel, by decide +kernel⟩
theorem ok_seen_of (T : TF K w mg) (m_World_kind_of : HasMeth P w K mg base 1 "World" "kind_of" 2 F_World_kind_of) (h_is_true : CalG P w K mg base 1 "is_true" 1 F_is_true) {dvs : List V} {kws : List (Str × V)} {f : Addr} {fd : FuncData} (F : FunD K "seen_of" "seen_of" (defArgs s_seen_of) (defBody s_seen_of) (defScope s_seen_of) dvs kws f fd) : FnOk P w K mg base CX0 2 f fd ["world", "frame", "row"] (LfF K mg 3 F_seen_of) :=
  fn_lift F sc_seen_of rfl fun cdv A outer s H E hr => by
    have nd := sc_seen_of.nd
    exact (xss_cons (xs_set (i := 3) nd rfl (.inl rfl) (xe_ix (xv 2) xe_int))
    (xss_cons (xs_if (xt_in (xv 3) (xe_tup (xa_cons xe_str (xa_cons xe_str (xa_cons xe_str (xa_cons xe_str xa_nil)))))) (xss_one (xs_ret (xe_tup (xa_cons (xe_meth m_World_kind_of (hr.mono (by decide)) (xv 0) (xa_cons (xe_ix (xe_fld T.f_boxes (xv 1)) (xe_ix (xv 2) xe_int)) xa_nil)) (xa_cons (xe_meth m_World_kind_of (hr.mono (by decide)) (xv 0) (xa_cons (xe_ix (xe_fld T.f_boxes (xv 1)) (xe_ix (xv 2) xe_int)) xa_nil)) xa_nil))))) xss_nil)
    (xss_cons (xs_if (xt_eq hr.units (xv 3) xe_str) (xss_one (xs_ret (xe_tup (xa_cons (xe_meth m_World_kind_of (hr.mono (by decide)) (xv 0) (xa_cons (xe_ix (xe_fld T.f_boxes (xv 1)) (xe_ix (xv 2) xe_int)) xa_nil)) xa_nil)))) xss_nil)
    (xss_cons (xs_if (xt_eq hr.units (xv 3) xe_str) (xss_one (xs_ret (xe_tup (xa_cons (xe_meth m_World_kind_of (hr.mono (by decide)) (xv 0) (xa_cons (xe_ix (xe_fld T.f_boxes (xv 1)) (xe_ix (xv 2) xe_int)) xa_nil)) xa_nil)))) xss_nil)
    (xss_cons (xs_if (xt_eq hr.units (xv 3) xe_str) (xss_one (xs_ret (xe_tup (xa_cons (xe_meth m_World_kind_of (hr.mono (by decide)) (xv 0) (xa_cons (xe_ix (xe_fld T.f_boxes (xv 1)) (xe_ix (xe_ix (xv 2) xe_int) xe_int)) xa_nil)) xa_nil)))) xss_nil)
    (xss_cons (xs_if (xt_eq hr.units (xv 3) xe_str) (xss_cons (xs_set (i := 4) nd rfl (.inl rfl) (xe_ix (xe_fld T.f_boxes (xv 1)) (xe_ix (xv 2) xe_int)))
    (xss_one (xs_ret (xe_tup (xa_cons (xe_meth m_World_kind_of (hr.mono (by decide)) (xv 0) (xa_cons (xv 4) xa_nil)) (xa_cons (xe_int1 (by rfl) T.g_int (xe_call h_is_true (hr.mono (by decide)) (by rfl) (xa_cons (xv 4) xa_nil))) xa_nil)))))) xss_nil)
    (xss_one (xs_ret xe_non))))))))
abbrev s_Rows_do_row : Stmt := inClass (top 43) 7
theorem sc_Rows_do_row : FnScope ["self", "frame", "rows", "row", "place", "what", "deed", "fault"] ["self"] (defScope s_Rows_do_row) := ⟨rfl, rfl, rfl, by decide +kernel, rfl, by decide +kernel, by decide +kernel⟩
theorem ok_Rows_do_row (T : TF K w mg) (m_World_rows_of : HasMeth P w K mg base 1 "World" "rows_of" 2 F_World_rows_of) (m_Plain_given : HasMeth P w K mg base 3 "Plain" "given" 2 F_Rows_given) (h_seen_of : CalG P w K mg base 2 "seen_of" 3 F_seen_of) (hd_DEEDS : ∀ p ∈ fs_DEEDS, CalG P w K mg base 4 p.1 3 p.2) (m_Plain_noted : HasMeth P w K mg base 1 "Plain" "noted" 3 F_Rows_noted) {dvs : List V} {kws : List (Str × V)} {f : Addr} {fd : FuncData} (F : FunD K "do_row" "Rows.do_row" (defArgs s_Rows_do_row) (defBody s_Rows_do_row) (defScope s_Rows_do_row) dvs kws f fd) : FnOk P w K mg base CX0 5 f fd ["self"] (LfF K mg 1 F_Rows_do_row) :=
  fn_lift F sc_Rows_do_row rfl fun cdv A outer s H E hr => by
    have nd := sc_Rows_do_row.nd
    exact (xss_cons (xs_set (i := 1) nd rfl (.inl rfl) (xe_ix (xe_fld T.f_frames (xv 0)) (xe_neg xe_int)))
    (xss_cons (xs_set (i := 2) nd rfl (.inl rfl) (xe_meth m_World_rows_of (hr.mono (by decide)) (xe_fld T.f_world (xv 0)) (xa_cons (xe_fld T.f_body (xv 1)) xa_nil)))
    (xss_cons (xs_if (xt_eq hr.units (xe_fld T.f_row (xv 1)) (xe_len (by rfl) T.g_len (xv 2))) (xss_one (xs_expr (xe_meth m_Plain_given (hr.mono (by decide)) (xv 0) (xa_cons xe_non xa_nil)))) (xss_cons (xs_par (i := 3) (j := 4) rfl nd rfl rfl (by decide) rfl rfl (xa_cons (xe_ix (xv 2) (xe_fld T.f_row (xv 1))) (xa_cons (xe_tup (xa_cons (xe_fld T.f_body (xv 1)) (xa_cons (xe_fld T.f_row (xv 1)) xa_nil))) xa_nil)) (by rfl))
    (xss_cons (xs_set (i := 5) nd rfl (.inl rfl) (xe_call h_seen_of (hr.mono (by decide)) (by rfl) (xa_cons (xe_fld T.f_world (xv 0)) (xa_cons (xv 1) (xa_cons (xv 3) xa_nil)))))
    (xss_cons (xs_set (i := 6) nd rfl (.inl rfl) (xe_getK (by rfl) T.c_DEEDS (xe_ix (xv 3) xe_int)))
    (xss_cons (xs_set (i := 7) nd rfl (.inl rfl) (xe_callV (i := 6) (calls_of hd_DEEDS) (hr.mono (by decide)) rfl (.inl rfl) (xa_cons (xv 0) (xa_cons (xv 1) (xa_cons (xv 3) xa_nil)))))
    (xss_cons (xs_if (xt_notN (xv 7)) (xss_cons (xs_fld T.f_ending (xv 0) (xe_tup (xa_cons xe_str (xa_cons (xv 7) (xa_cons (xe_fld T.f_body (xv 1)) (xa_cons (xe_fld T.f_row (xv 1)) xa_nil))))))
    (xss_one (xs_ret xe_bl))) xss_nil)
    (xss_cons (xs_expr (xe_meth m_Plain_noted (hr.mono (by decide)) (xv 0) (xa_cons (xv 4) (xa_cons (xv 5) xa_nil))))
    (xss_one (xs_if (xt_notIn (xe_ix (xv 3) xe_int) (xe_gtup (by rfl) T.c_STAYING)) (xss_one (xs_fldaug (fo := (fun i j => i + j)) in_add T.f_row (xv 1) xe_int)) xss_nil)))))))))
    (xss_cons (xs_fldaug (fo := (fun i j => i + j)) in_add T.f_passed (xv 0) xe_int)
    (xss_one (xs_ret xe_bl))))))
abbrev s_Rows_done : Stmt := inClass (top 43) 8
theorem sc_Rows_done : FnScope ["self"] ["self"] (defScope s_Rows_done) := ⟨rfl, rfl, rfl, by decide +kernel, rfl, by decide +kernel, by decide +kernel⟩
theorem ok_Rows_done (T : TF K w mg)  {dvs : List V} {kws : List (Str × V)} {f : Addr} {fd : FuncData} (F : FunD K "done" "Rows.done" (defArgs s_Rows_done) (defBody s_Rows_done) (defScope s_Rows_done) dvs kws f fd) : FnOk P w K mg base CX0 1 f fd ["self"] (LfF K mg 1 F_Rows_done) :=
  fn_lift F sc_Rows_done rfl fun cdv A outer s H E hr => by
    have nd := sc_Rows_done.nd
    exact (xss_one (xs_ret (xe_fld T.f_passed (xv 0))))
abbrev s_Rows_events : Stmt := inClass (top 43) 9
theorem sc_Rows_events : FnScope ["self"] ["self"] (defScope s_Rows_events) := ⟨rfl, rfl, rfl, by decide +kernel, rfl, by decide +kernel, by decide +kernel⟩
theorem ok_Rows_events (T : TF K w mg)  {dvs : List V} {kws : List (Str × V)} {f : Addr} {fd : FuncData} (F : FunD K "events" "Rows.events" (defArgs s_Rows_events) (defBody s_Rows_events) (defScope s_Rows_events) dvs kws f fd) : FnOk P w K mg base CX0 1 f fd ["self"] (LfF K mg 1 F_Rows_events) :=
  fn_lift F sc_Rows_events rfl fun cdv A outer s H E hr => by
    have nd := sc_Rows_events.nd
    exact (xss_one (xs_ret (xe_new (xl_list (by rfl) T.g_list (xe_fld T.f_told (xe_fld T.f_world (xv 0)))))))
abbrev s_Rows_end : Stmt := inClass (top 43) 10
theorem sc_Rows_end : FnScope ["self"] ["self"] (defScope s_Rows_end) := ⟨rfl, rfl, rfl, by decide +kernel, rfl, by decide +kernel, by decide +kernel⟩
theorem ok_Rows_end (T : TF K w mg)  {dvs : List V} {kws : List (Str × V)} {f : Addr} {fd : FuncData} (F : FunD K "end" "Rows.end" (defArgs s_Rows_end) (defBody s_Rows_end) (defScope s_Rows_end) dvs kws f fd) : FnOk P w K mg base CX0 1 f fd ["self"] (LfF K mg 1 F_Rows_end) :=
  fn_lift F sc_Rows_end rfl fun cdv A outer s H E hr => by
    have nd := sc_Rows_end.nd
    exact (xss_one (xs_ret (xe_fld T.f_ending (xv 0))))
abbrev s_Rows_table : Stmt := inClass (top 43) 11
theorem sc_Rows_table : FnScope ["self", "key"] ["self"] (defScope s_Rows_table) := ⟨rfl, rfl, rfl, by decide +kernel, rfl, by decide +kernel, by decide +kernel⟩
theorem ok_Rows_table (T : TF K w mg)  {dvs : List V} {kws : List (Str × V)} {f : Addr} {fd : FuncData} (F : FunD K "table" "Rows.table" (defArgs s_Rows_table) (defBody s_Rows_table) (defScope s_Rows_table) dvs kws f fd) : FnOk P w K mg base CX0 1 f fd ["self"] (LfF K mg 1 F_Rows_table) :=
  fn_lift F sc_Rows_table rfl fun cdv A outer s H E hr => by
    have nd := sc_Rows_table.nd
    exact (xss_one (xs_ret (xe_dcT (own := [("key", 1)]) hr.units rfl nd (xi_L (xl_sortD rfl (by rfl) T.g_sorted (xe_fld T.f_entries (xe_fld T.f_world (xv 0))))) (blkOk_by (by kernel_rfl)) (fun _ _ _ _ _ => (xgc_name (i := 1) nd rfl (.inl rfl))) (fun _ _ _ _ _ => xts_nil) (fun _ _ _ _ _ => (xv 1)) (fun _ _ _ _ _ => (xe_getD hr.units (xe_fld T.f_entries (xe_fld T.f_world (xv 0))) (xv 1))) (by decide))))
abbrev s_started : Stmt := top 44
theorem sc_started : FnScope ["machine", "body", "numbers", "plan", "takes", "boxes", "rows", "one"] ["machine", "body", "numbers"] (defScope s_started) := ⟨rfl, rfl, rfl, by decide +kernel, rfl, by decide +kernel, by decide +kernel⟩
theorem ok_started (T : TF K w mg) (h_is_whole : CalG P w K mg base 1 "is_whole" 3 F_is_whole) (h_is_list : CalG P w K mg base 1 "is_list" 1 F_is_list) (h_is_number : CalG P w K mg base 2 "is_number" 1 F_is_number) (k_Frame : HasMake P w K mg base 1 "Frame" 4 F_Frame_init) {dvs : List V} {kws : List (Str × V)} {f : Addr} {fd : FuncData} (F : FunD K "started" "started" (defArgs s_started) (defBody s_started) (defScope s_started) dvs kws f fd) : FnOk P w K mg base CX0 3 f fd ["machine", "body", "numbers"] (LfF K mg 3 F_started) :=
  fn_lift F sc_started rfl fun cdv A outer s H E hr => by
    have nd := sc_started.nd
    exact (xss_cons (xs_set (i := 3) nd rfl (.inl rfl) (xe_fld T.f_plan (xe_fld T.f_world (xv 0))))
    (xss_cons (xs_if (PW.pt (xw_or (xt_not (xt_val (xe_call h_is_whole (hr.mono (by decide)) (by rfl) (xa_cons (xv 1) (xa_cons xe_int (xa_cons (xe_sub (xe_len (by rfl) T.g_len (xv 3)) xe_int) xa_nil)))))) (xw_or1 (xt_not (xt_val (xe_call h_is_list (hr.mono (by decide)) (by rfl) (xa_cons (xv 2) xa_nil))))))) (xss_one xs_never) xss_nil)
    (xss_cons (xs_asg (xe_ix (xv 3) (xv 1)) (xg_tup (n := 3) rfl (xgs_cons (xg_name (i := 4) nd rfl (.inl rfl)) (xgs_cons (xg_name (i := 5) nd rfl (.inl rfl)) (xgs_cons (xg_name (i := 6) nd rfl (.inl rfl)) xgs_nil)))))
    (xss_cons (xs_if (PW.pt (xw_or (xt_ne hr.units (xe_len (by rfl) T.g_len (xv 2)) (xv 4)) (xw_or1 (xt_not (xt_val (xe_all rfl (by rfl) T.g_all (xl_lc (own := [("one", 7)]) rfl nd (xi_seq (xv 2)) (blkOk_by (by kernel_rfl)) (fun _ _ _ _ _ => (xgc_name (i := 7) nd rfl (.inl rfl))) (fun _ _ _ _ _ => xts_nil) (fun _ _ _ _ _ => (xe_call h_is_number (hr.mono (by decide)) (by rfl) (xa_cons (xv 7) xa_nil))) (by decide)))))))) (xss_one xs_never) xss_nil)
    (xss_one (xs_expr (xe_append (xe_fld T.f_frames (xv 0)) (xe_make k_Frame (hr.mono (by decide)) (by rfl) (xa_cons (xv 1) (xa_cons xe_int (xa_cons (xe_new (xl_cat (xl_list (by rfl) T.g_list (xv 2)) (xl_rep (xl_lst (xa_cons xe_non xa_nil)) (xe_sub (xv 5) (xv 4))))) xa_nil)))))))))))
abbrev s_need_units : Stmt := top 45
theorem sc_need_units : FnScope ["units"] ["units"] (defScope s_need_units) := ⟨rfl, rfl, rfl, by decide +kernel, rfl, by decide +kernel, by decide +kernel⟩
theorem ok_need_units (T : TF K w mg) (h_is_whole : CalG P w K mg base 1 "is_whole" 3 F_is_whole) {dvs : List V} {kws : List (Str × V)} {f : Addr} {fd : FuncData} (F : FunD K "need_units" "need_units" (defArgs s_need_units) (defBody s_need_units) (defScope s_need_units) dvs kws f fd) : FnOk P w K mg base CX0 2 f fd ["units"] (LfF K mg 1 F_need_units) :=
  fn_lift F sc_need_units rfl fun cdv A outer s H E hr => by
    have nd := sc_need_units.nd
    exact (xss_one (xs_if (xt_not (xt_val (xe_call h_is_whole (hr.mono (by decide)) (by rfl) (xa_cons (xv 0) (xa_cons xe_int (xa_cons (xe_gint (by rfl) T.c_MOST_UNITS) xa_nil)))))) (xss_one xs_never) xss_nil))
abbrev s_Plain_init : Stmt := inClass (top 46) 0
theorem sc_Plain_init : FnScope ["self", "program", "body", "numbers"] ["self", "program", "body", "numbers"] (defScope s_Plain_init) := ⟨rfl, rfl, rfl, by decide +kernel, rfl, by decide +kernel, by decide +kernel⟩
theorem ok_Plain_init (T : TF K w mg) (cf_Rows_init : HasClsFn P w K mg base 4 "Rows" "__init__" 2 F_Rows_init) (h_started : CalG P w K mg base 3 "started" 3 F_started) {dvs : List V} {kws : List (Str × V)} {f : Addr} {fd : FuncData} (F : FunD K "__init__" "Plain.__init__" (defArgs s_Plain_init) (defBody s_Plain_init) (defScope s_Plain_init) dvs kws f fd) : FnOk P w K mg base CX0 5 f fd ["self", "program", "body", "numbers"] (LfF K mg 4 F_Plain_init) :=
  fn_lift F sc_Plain_init rfl fun cdv A outer s H E hr => by
    have nd := sc_Plain_init.nd
    exact (xss_cons (xs_expr (xe_clsFn cf_Rows_init (hr.mono (by decide)) (by rfl) (xa_cons (xv 0) (xa_cons (xv 1) xa_nil))))
    (xss_one (xs_expr (xe_call h_started (hr.mono (by decide)) (by rfl) (xa_cons (xv 0) (xa_cons (xv 2) (xa_cons (xv 3) xa_nil)))))))
abbrev s_Plain_step : Stmt := inClass (top 46) 1
theorem sc_Plain_step : FnScope ["self", "units", "many"] ["self", "units"] (defScope s_Plain_step) := ⟨rfl, rfl, rfl, by decide +kernel, rfl, by decide +kernel, by decide +kernel⟩
theorem ok_Plain_step (T : TF K w mg) (h_need_units : CalG P w K mg base 2 "need_units" 1 F_need_units) (m_Plain_do_row : HasMeth P w K mg base 5 "Plain" "do_row" 1 F_Rows_do_row) {dvs : List V} {kws : List (Str × V)} {f : Addr} {fd : FuncData} (F : FunD K "step" "Plain.step" (defArgs s_Plain_step) (defBody s_Plain_step) (defScope s_Plain_step) dvs kws f fd) : FnOk P w K mg base CX0 6 f fd ["self", "units"] (LfF K mg 2 F_Plain_step) :=
  fn_lift F sc_Plain_step rfl fun cdv A outer s H E hr => by
    have nd := sc_Plain_step.nd
    exact (xss_cons (xs_expr (xe_call h_need_units (hr.mono (by decide)) (by rfl) (xa_cons (xv 1) xa_nil)))
    (xss_cons (xs_set (i := 2) nd rfl (.inl rfl) xe_int)
    (xss_cons (xs_while PassesOwn.never (PW.pt (xw_and (xt_lt (xv 2) (xv 1)) (xw_and (xt_isN (xe_fld T.f_ending (xv 0))) (xw_and1 (xt_val (xe_meth0 m_Plain_do_row (hr.mono (by decide)) (xv 0))))))) (xss_one (xs_aug (i := 2) ip_add nd rfl (.inl rfl) xe_int)))
    (xss_one (xs_ret (xv 2))))))
abbrev s_law_begin : Stmt := top 59
theorem sc_law_begin : FnScope ["_law_script"] ["_law_script"] (defScope s_law_begin) := ⟨rfl, rfl, rfl, by decide +kernel, rfl, by decide +kernel, by decide +kernel⟩
theorem ok_law_begin (T : TF K w mg)  {dvs : List V} {kws : List (Str × V)} {f : Addr} {fd : FuncData} (F : FunD K "_law_begin" "_law_begin" (defArgs s_law_begin) (defBody s_law_begin) (defScope s_law_begin) dvs kws f fd) : FnOk P w K mg base CX0 1 f fd ["_law_script"] (LfF K mg 1 F_law_begin) :=
  fn_lift F sc_law_begin rfl fun cdv A outer s H E hr => by
    have nd := sc_law_begin.nd
    exact (xss_one (xs_ret (xe_dispF (xps_cons xe_str xe_int (xps_cons xe_str xe_int (xps_cons xe_str (xe_new (xl_list (by rfl) T.g_list (xv 0))) xps_nil))) rfl rfl (by simp) (by decide))))
abbrev s_law_more : Stmt := top 60
theorem sc_law_more : FnScope ["_law_state", "_law_k", "_law_cells", "_law_cell", "_law_number", "_law_primes", "_law_at", "_law_prime", "_law_one"] ["_law_state"] (defScope s_law_more) := ⟨rfl, rfl, rfl, by decide +kernel, rfl, by decide +kernel, by decide +kernel⟩
theorem ok_law_more (T : TF K w mg)  {dvs : List V} {kws : List (Str × V)} {f : Addr} {fd : FuncData} (F : FunD K "_law_more" "_law_more" (defArgs s_law_more) (defBody s_law_more) (defScope s_law_more) dvs kws f fd) : FnOk P w K mg base CX0 1 f fd ["_law_state"] (LfF K mg 1 F_law_more) :=
  fn_lift F sc_law_more rfl fun cdv A outer s H E hr => by
    have nd := sc_law_more.nd
    exact (xss_cons (xs_set (i := 1) nd rfl (.inl rfl) (xe_getD hr.units (xv 0) xe_str))
    (xss_cons (xs_putD hr.units (xe_add (xv 1) xe_int) (xv 0) xe_str)
    (xss_cons (xs_set (i := 2) nd rfl (.inl rfl) (xe_getD hr.units (xv 0) xe_str))
    (xss_cons (xs_set (i := 3) nd rfl (.inl rfl) (xe_if (xt_ne hr.units (xv 2) (xe_new (xl_lst xa_nil))) (xe_abs (by rfl) T.g_abs (xe_ix (xv 2) (xe_mod (xv 1) (xe_len (by rfl) T.g_len (xv 2))))) xe_int))
    (xss_cons (xs_if (PW.pt (xw_and (xt_lt (xv 1) (xe_len (by rfl) T.g_len (xv 2))) (xw_and1 (xt_ge (xv 3) (xe_pow xe_int xe_int))))) (xss_one (xs_ret (xe_sub (xv 3) (xe_pow xe_int xe_int)))) xss_nil)
    (xss_cons (xs_set (i := 4) nd rfl (.inl rfl) xe_int)
    (xss_cons (xs_set (i := 5) nd rfl (.inl rfl) (xe_new (xl_lst (xa_cons xe_int (xa_cons xe_int (xa_cons xe_int (xa_cons xe_int (xa_cons xe_int (xa_cons xe_int (xa_cons xe_int (xa_cons xe_int xa_nil)))))))))))
    (xss_cons (xs_for PassesOwn.never rfl (xi_enum (by rfl) T.g_enumerate (xv 5)) (xg_tup (n := 2) rfl (xgs_cons (xg_name (i := 6) nd rfl (.inl rfl)) (xgs_cons (xg_name (i := 7) nd rfl (.inl rfl)) xgs_nil))) (xss_cons (xs_set (i := 8) nd rfl (.inl rfl) (xe_mod (xe_add (xe_add (xe_mul (xe_mod (xv 3) (xv 7)) xe_int) (xe_mul xe_int (xe_add (xv 1) xe_int))) (xe_mul (xe_mul xe_int (xv 6)) (xv 6))) (xv 7)))
    (xss_cons (xs_set (i := 8) nd rfl (.inl rfl) (xe_mod (xe_add (xe_add (xe_mul (xv 8) (xv 8)) (xe_mul xe_int (xv 1))) (xv 6)) (xv 7)))
    (xss_one (xs_set (i := 4) nd rfl (.inl rfl) (xe_add (xe_mul (xv 4) xe_int) (xe_mod (xe_mul (xv 8) (xe_add (xe_add (xv 8) (xv 6)) xe_int)) (xv 7))))))))
    (xss_one (xs_ret (xv 4)))))))))))
abbrev s_law_next : Stmt := top 61
theorem sc_law_next : FnScope ["_law_state", "_law_most", "_law_digit"] ["_law_state", "_law_most"] (defScope s_law_next) := ⟨rfl, rfl, rfl, by decide +kernel, rfl, by decide +kernel, by decide +kernel⟩
theorem ok_law_next (T : TF K w mg) (h_law_more : CalG P w K mg base 1 "_law_more" 1 F_law_more) {dvs : List V} {kws : List (Str × V)} {f : Addr} {fd : FuncData} (F : FunD K "_law_next" "_law_next" (defArgs s_law_next) (defBody s_law_next) (defScope s_law_next) dvs kws f fd) : FnOk P w K mg base CX0 2 f fd ["_law_state", "_law_most"] (LfF K mg 2 F_law_next) :=
  fn_lift F sc_law_next rfl fun cdv A outer s H E hr => by
    have nd := sc_law_next.nd
    exact (xss_cons (xs_if (xt_eq hr.units (xe_getD hr.units (xv 0) xe_str) xe_int) (xss_one (xs_putD hr.units (xe_call h_law_more (hr.mono (by decide)) (by rfl) (xa_cons (xv 0) xa_nil)) (xv 0) xe_str)) xss_nil)
    (xss_cons (xs_set (i := 2) nd rfl (.inl rfl) (xe_mod (xe_getD hr.units (xv 0) xe_str) (xv 1)))
    (xss_cons (xs_augD hr.units iop_fdivW opl_div (xv 0) xe_str (xv 1))
    (xss_one (xs_ret (xv 2))))))
abbrev s_law_pick : Stmt := top 62
theorem sc_law_pick : FnScope ["_law_state", "_law_some"] ["_law_state", "_law_some"] (defScope s_law_pick) := ⟨rfl, rfl, rfl, by decide +kernel, rfl, by decide +kernel, by decide +kernel⟩
theorem ok_law_pick (T : TF K w mg) (h_law_next : CalG P w K mg base 2 "_law_next" 2 F_law_next) {dvs : List V} {kws : List (Str × V)} {f : Addr} {fd : FuncData} (F : FunD K "_law_pick" "_law_pick" (defArgs s_law_pick) (defBody s_law_pick) (defScope s_law_pick) dvs kws f fd) : FnOk P w K mg base CX0 3 f fd ["_law_state", "_law_some"] (LfF K mg 2 F_law_pick) :=
  fn_lift F sc_law_pick rfl fun cdv A outer s H E hr => by
    have nd := sc_law_pick.nd
    exact (xss_one (xs_ret (xe_ix (xv 1) (xe_call h_law_next (hr.mono (by decide)) (by rfl) (xa_cons (xv 0) (xa_cons (xe_len (by rfl) T.g_len (xv 1)) xa_nil))))))
abbrev s_law_alike : Stmt := top 63
theorem sc_law_alike : FnScope ["_law_found", "_law_due", "_law_one", "_law_other"] ["_law_found", "_law_due"] (defScope s_law_alike) := ⟨rfl, rfl, rfl, by decide +kernel, rfl, by decide +kernel, by decide +kernel⟩
theorem ok_law_alike (T : TF K w mg) {j : Nat} (hj : 0 ≤ j) (F_self : Fn) (h_self : CalG P w K mg base j "_law_alike" 2 F_self) {dvs : List V} {kws : List (Str × V)} {f : Addr} {fd : FuncData} (F : FunD K "_law_alike" "_law_alike" (defArgs s_law_alike) (defBody s_law_alike) (defScope s_law_alike) dvs kws f fd) : FnOk P w K mg base CX0 (j + 1) f fd ["_law_found", "_law_due"] (LfF K mg 2 (fnOf 4 (b_law_alike F_self))) :=
  fn_lift F sc_law_alike rfl fun cdv A outer s H E hr => by
    have nd := sc_law_alike.nd
    exact (xss_cons (xs_if (xt_val (xe_isi2 (by rfl) T.g_isinstance (xv 1) (by rfl) T.g_list bt_list (by simp [AskTy]) (by decide) (by decide) (by rfl) T.g_tuple bt_tuple (by simp [AskTy]) (by decide) (by decide))) (xss_cons (xs_if (PW.pt (xw_or (xt_ne hr.units (xe_isi (by rfl) T.g_isinstance (xv 0) (by rfl) T.g_list bt_list (by simp [AskTy]) (by decide) (by decide)) (xe_isi (by rfl) T.g_isinstance (xv 1) (by rfl) T.g_list bt_list (by simp [AskTy]) (by decide) (by decide))) (xw_or1 (xt_ne hr.units (xe_isi (by rfl) T.g_isinstance (xv 0) (by rfl) T.g_tuple bt_tuple (by simp [AskTy]) (by decide) (by decide)) (xe_isi (by rfl) T.g_isinstance (xv 1) (by rfl) T.g_tuple bt_tuple (by simp [AskTy]) (by decide) (by decide)))))) (xss_one (xs_ret xe_bl)) xss_nil)
    (xss_one (xs_ret (xe_and (xe_eq hr.units (xe_len (by rfl) T.g_len (xv 0)) (xe_len (by rfl) T.g_len (xv 1))) (xe_one (xe_all rfl (by rfl) T.g_all (xl_lc (own := [("_law_one", 2), ("_law_other", 3)]) rfl nd (xi_zip (by rfl) T.g_zip (xv 0) (xv 1)) (blkOk_by (by kernel_rfl)) (fun _ _ _ _ _ => (xgc_tup (n := 2) rfl (xgcs_cons (xgc_name (i := 2) nd rfl (.inl rfl)) (xgcs_cons (xgc_name (i := 3) nd rfl (.inl rfl)) xgcs_nil)))) (fun _ _ _ _ _ => xts_nil) (fun _ _ _ _ _ => (xe_call h_self (hr.mono (by omega)) (by rfl) (xa_cons (xv 2) (xa_cons (xv 3) xa_nil)))) (by decide)))))))) xss_nil)
    (xss_cons (xs_if (PW.pt (xw_or (xt_isN (xv 1)) (xw_or1 (xt_val (xe_isi (by rfl) T.g_isinstance (xv 1) (by rfl) T.g_bool bt_bool (by simp [AskTy]) (by decide) (by decide)))))) (xss_one (xs_ret (xe_if (xt_isN (xv 1)) (xe_isN (xv 0)) (xe_and (xe_isi (by rfl) T.g_isinstance (xv 0) (by rfl) T.g_bool bt_bool (by simp [AskTy]) (by decide) (by decide)) (xe_one (xe_eq hr.units (xv 0) (xv 1))))))) xss_nil)
    (xss_cons (xs_if (xt_val (xe_isi (by rfl) T.g_isinstance (xv 1) (by rfl) T.g_int bt_int (by simp [AskTy]) (by decide) (by decide))) (xss_one (xs_ret (xe_and (xe_isi (by rfl) T.g_isinstance (xv 0) (by rfl) T.g_int bt_int (by simp [AskTy]) (by decide) (by decide)) (xe_and (xe_not (xe_isi (by rfl) T.g_isinstance (xv 0) (by rfl) T.g_bool bt_bool (by simp [AskTy]) (by decide) (by decide))) (xe_one (xe_eq hr.units (xv 0) (xv 1))))))) xss_nil)
    (xss_one (xs_ret (xe_and (xe_isi (by rfl) T.g_isinstance (xv 0) (by rfl) T.g_str bt_str (by simp [AskTy]) (by decide) (by decide)) (xe_one (xe_eq hr.units (xv 0) (xv 1)))))))))
abbrev s_law_rows : Stmt := top 64
theorem sc_law_rows : FnScope ["_law_first", "_law_rounds", "_law_rows_here"] ["_law_first", "_law_rounds"] (defScope s_law_rows) := ⟨rfl, rfl, rfl, by decide +kernel, rfl, by decide +kernel, by decide +kernel⟩
theorem ok_law_rows (T : TF K w mg)  {dvs : List V} {kws : List (Str × V)} {f : Addr} {fd : FuncData} (F : FunD K "_law_rows" "_law_rows" (defArgs s_law_rows) (defBody s_law_rows) (defScope s_law_rows) dvs kws f fd) : FnOk P w K mg base CX0 1 f fd ["_law_first", "_law_rounds"] (LfF K mg 2 F_law_rows) :=
  fn_lift F sc_law_rows rfl fun cdv A outer s H E hr => by
    have nd := sc_law_rows.nd
    exact (xss_cons (xs_set (i := 2) nd rfl (.inl rfl) (xe_new (xl_lst (xa_cons (xe_tup (xa_cons xe_str (xa_cons xe_int (xa_cons (xv 0) xa_nil)))) (xa_cons (xe_tup (xa_cons xe_str (xa_cons xe_int (xa_cons (xv 1) xa_nil)))) (xa_cons (xe_tup (xa_cons xe_str (xa_cons xe_int (xa_cons xe_int xa_nil)))) (xa_cons (xe_tup (xa_cons xe_str (xa_cons xe_int (xa_cons xe_int xa_nil)))) (xa_cons (xe_tup (xa_cons xe_str (xa_cons xe_int xa_nil))) xa_nil))))))))
    (xss_one (xs_ret (xe_new (xl_catE (xv 2) (xl_lst (xa_cons (xe_tup (xa_cons xe_str (xa_cons xe_int (xa_cons xe_str (xa_cons (xe_tup (xa_cons xe_int xa_nil)) xa_nil))))) (xa_cons (xe_tup (xa_cons xe_str (xa_cons xe_int (xa_cons xe_int (xa_cons xe_int xa_nil))))) (xa_cons (xe_tup (xa_cons xe_str (xa_cons xe_int xa_nil))) (xa_cons (xe_tup (xa_cons xe_str (xa_cons xe_int (xa_cons xe_int (xa_cons xe_int xa_nil))))) (xa_cons (xe_tup (xa_cons xe_str (xa_cons xe_int xa_nil))) xa_nil)))))))))))
abbrev s_law : Stmt := top 65
theorem sc_law : FnScope ["_law_script", "_law_state", "_law_rounds", "_law_each", "_law_pad", "_law_first", "_law_more_here", "_law_run", "_law_events", "_law_done", "_law_total", "_law_due", "_law_k", "_law_told"] ["_law_script"] (defScope s_law) := ⟨rfl, rfl, rfl, by decide +kernel, rfl, by decide +kernel, by decide +kernel⟩
theorem ok_law (T : TF K w mg) (h_law_begin : CalG P w K mg base 1 "_law_begin" 1 F_law_begin) (h_law_next : CalG P w K mg base 2 "_law_next" 2 F_law_next) (h_law_rows : CalG P w K mg base 1 "_law_rows" 2 F_law_rows) (k_Program : HasMake P w K mg base 6 "Program" 4 F_Program_init) (kd_Plain : HasMakeD P w K mg base 5 "Plain" 4 [.wt []] F_Plain_init) (m_Plain_end : HasMeth P w K mg base 1 "Plain" "end" 1 F_Rows_end) (mk_Plain_step : HasMethK P w K mg base 6 "Plain" "step" ["units"] 2 F_Plain_step) (h_law_alike : CalG P w K mg base 8 "_law_alike" 2 (F_law_alike 8)) (m_Plain_done : HasMeth P w K mg base 1 "Plain" "done" 1 F_Rows_done) (m_Plain_events : HasMeth P w K mg base 1 "Plain" "events" 1 F_Rows_events) {dvs : List V} {kws : List (Str × V)} {f : Addr} {fd : FuncData} (F : FunD K "law" "law" (defArgs s_law) (defBody s_law) (defScope s_law) dvs kws f fd) : FnOk P w K mg base CX0 9 f fd ["_law_script"] (LfF K mg 1 F_law) :=
  fn_lift F sc_law rfl fun cdv A outer s H E hr => by
    have nd := sc_law.nd
    exact (xss_cons (xs_set (i := 1) nd rfl (.inl rfl) (xe_call h_law_begin (hr.mono (by decide)) (by rfl) (xa_cons (xv 0) xa_nil)))
    (xss_cons (xs_set (i := 2) nd rfl (.inl rfl) (xe_ix (xe_new (xl_lst (xa_cons (xe_add xe_int (xe_call h_law_next (hr.mono (by decide)) (by rfl) (xa_cons (xv 1) (xa_cons xe_int xa_nil)))) (xa_cons xe_int (xa_cons (xe_add xe_int (xe_call h_law_next (hr.mono (by decide)) (by rfl) (xa_cons (xv 1) (xa_cons xe_int xa_nil)))) xa_nil))))) (xe_call h_law_next (hr.mono (by decide)) (by rfl) (xa_cons (xv 1) (xa_cons xe_int xa_nil)))))
    (xss_cons (xs_par (i := 3) (j := 4) rfl nd rfl rfl (by decide) rfl rfl (xa_cons (xe_sub (xe_call h_law_next (hr.mono (by decide)) (by rfl) (xa_cons (xv 1) (xa_cons (xe_pow xe_int xe_int) xa_nil))) (xe_pow xe_int xe_int)) (xa_cons (xe_call h_law_next (hr.mono (by decide)) (by rfl) (xa_cons (xv 1) (xa_cons xe_int xa_nil))) xa_nil)) (by rfl))
    (xss_cons (xs_set (i := 5) nd rfl (.inl rfl) (xe_ix (xe_new (xl_lst (xa_cons xe_int (xa_cons (xe_sub (xe_pow xe_int xe_int) (xe_mul (xv 2) (xv 3))) (xa_cons (xe_pow xe_int xe_int) (xa_cons (xe_neg (xe_pow xe_int xe_int)) (xa_cons (xe_add (xe_sub (xe_pow xe_int xe_int) (xe_mul (xv 2) (xv 3))) xe_int) xa_nil))))))) (xe_call h_law_next (hr.mono (by decide)) (by rfl) (xa_cons (xv 1) (xa_cons xe_int xa_nil)))))
    (xss_cons (xs_set (i := 5) nd rfl (.inl rfl) (xe_max2 rfl (by rfl) T.g_max (xe_neg (xe_pow xe_int xe_int)) (xe_min2 rfl (by rfl) T.g_min (xv 5) (xe_pow xe_int xe_int))))
    (xss_cons (xs_set (i := 6) nd rfl (.inl rfl) (xe_add (xe_times (xe_tup (xa_cons (xe_tup (xa_cons xe_str (xa_cons xe_int (xa_cons xe_int xa_nil)))) xa_nil)) (xv 4)) (xe_tup (xa_cons (xe_tup (xa_cons xe_str (xa_cons xe_int (xa_cons (xv 3) xa_nil)))) (xa_cons (xe_tup (xa_cons xe_str (xa_cons xe_int xa_nil))) xa_nil)))))
    (xss_cons (xs_set (i := 7) nd rfl (.inl rfl) (xe_makeD kd_Plain (by decide) (hr.mono (by decide)) (by rfl) (xa_cons (xe_make k_Program (hr.mono (by decide)) (by rfl) (xa_cons (xe_new (xl_lst xa_nil)) (xa_cons (xe_new (xl_lst (xa_cons (xe_tup (xa_cons xe_int (xa_cons xe_int (xa_cons (xe_call h_law_rows (hr.mono (by decide)) (by rfl) (xa_cons (xv 5) (xa_cons (xv 2) xa_nil))) xa_nil)))) (xa_cons (xe_tup (xa_cons xe_int (xa_cons xe_int (xa_cons (xv 6) xa_nil)))) xa_nil)))) (xa_cons (xe_dispT hr.units (xps_cons (xe_tup (xa_cons xe_str (xa_cons xe_str xa_nil))) xe_int xps_nil) rfl rfl (by simp) (by decide)) xa_nil)))) (xa_cons xe_int xa_nil))))
    (xss_cons (xs_par3 (i := 8) (j := 9) (l := 10) rfl nd rfl rfl rfl (by decide) (by decide) (by decide) rfl rfl rfl (xa_cons (xe_new (xl_lst xa_nil)) (xa_cons xe_int (xa_cons (xv 5) xa_nil))) (by rfl))
    (xss_cons (xs_set (i := 11) nd rfl (.inl rfl) (xe_tup (xa_cons xe_str (xa_cons (xv 5) xa_nil))))
    (xss_cons (xs_for PassesOwn.never rfl (xi_range1 (by rfl) T.g_range (xv 2)) (xg_name (i := 12) nd rfl (.inl rfl)) (xss_cons (xs_aug (i := 10) ip_add nd rfl (.inl rfl) (xv 3))
    (xss_cons (xs_if (xt_gt (xe_abs (by rfl) T.g_abs (xv 10)) (xe_pow xe_int xe_int)) (xss_cons (xs_set (i := 11) nd rfl (.inl rfl) (xe_tup (xa_cons xe_str (xa_cons xe_str (xa_cons xe_int (xa_cons xe_int xa_nil))))))
    (xss_cons (xs_aug (i := 9) ip_add nd rfl (.inl rfl) (xe_add xe_int (xv 4)))
    (xss_one xs_break))) xss_nil)
    (xss_cons (xs_expr (xe_append (xv 8) (xv 10)))
    (xss_one (xs_par (i := 11) (j := 9) rfl nd rfl rfl (by decide) rfl rfl (xa_cons (xe_tup (xa_cons xe_str (xa_cons (xv 10) xa_nil))) (xa_cons (xe_add (xe_add (xv 9) xe_int) (xv 4)) xa_nil)) (by rfl)))))))
    (xss_cons (xs_aug (i := 9) ip_add nd rfl (.inl rfl) (xe_mul xe_int (xe_int1 (by rfl) T.g_int (xe_eq hr.units (xe_ix (xv 11) xe_int) xe_str))))
    (xss_cons (xs_set (i := 13) nd rfl (.inl rfl) (xe_new (xl_lst xa_nil)))
    (xss_cons (xs_while PassesOwn.never (xt_isN (xe_meth0 m_Plain_end (hr.mono (by decide)) (xv 7))) (xss_one (xs_expr (xe_append (xv 13) (xe_methK mk_Plain_step (hr.mono (by decide)) (xv 7) (xk_cons (xe_ix (xe_new (xl_lst (xa_cons xe_int (xa_cons (xe_add xe_int (xe_call h_law_next (hr.mono (by decide)) (by rfl) (xa_cons (xv 1) (xa_cons xe_int xa_nil)))) (xa_cons xe_int (xa_cons xe_int xa_nil)))))) (xe_call h_law_next (hr.mono (by decide)) (by rfl) (xa_cons (xv 1) (xa_cons xe_int xa_nil)))) xk_nil))))))
    (xss_cons (xs_if (xt_not (xt_val (xe_call h_law_alike (hr.mono (by decide)) (by rfl) (xa_cons (xe_new (xl_lst (xa_cons (xe_meth0 m_Plain_events (hr.mono (by decide)) (xv 7)) (xa_cons (xe_meth0 m_Plain_end (hr.mono (by decide)) (xv 7)) (xa_cons (xe_meth0 m_Plain_done (hr.mono (by decide)) (xv 7)) xa_nil))))) (xa_cons (xe_new (xl_lst (xa_cons (xv 8) (xa_cons (xv 11) (xa_cons (xv 9) xa_nil))))) xa_nil))))) (xss_one (xs_ret xe_bl)) xss_nil)
    (xss_one (xs_ret (xe_and (xe_eq hr.units (xe_sumE rfl (by rfl) T.g_sum (xv 13)) (xv 9)) (xe_one (xe_eq hr.units (xe_methK mk_Plain_step (hr.mono (by decide)) (xv 7) (xk_cons xe_int xk_nil)) xe_int)))))))))))))))))))
end
end Gm

set_option Elab.async false
set_option linter.all false
set_option maxRecDepth 100000
set_option maxHeartbeats 4000000
namespace Gm
open PySem PySem.Spec PyProof.Rows L2
abbrev dd_is_whole : He.DefD := ⟨("is_whole", none), "is_whole", "is_whole", defArgs s_is_whole, defBody s_is_whole, defScope s_is_whole, [], []⟩
abbrev dd_is_number : He.DefD := ⟨("is_number", none), "is_number", "is_number", defArgs s_is_number, defBody s_is_number, defScope s_is_number, [], []⟩
abbrev dd_is_list : He.DefD := ⟨("is_list", none), "is_list", "is_list", defArgs s_is_list, defBody s_is_list, defScope s_is_list, [], []⟩
abbrev dd_is_name : He.DefD := ⟨("is_name", none), "is_name", "is_name", defArgs s_is_name, defBody s_is_name, defScope s_is_name, [], []⟩
abbrev dd_Frame_init : He.DefD := ⟨("Frame", some "__init__"), "__init__", "Frame.__init__", defArgs s_Frame_init, defBody s_Frame_init, defScope s_Frame_init, [], []⟩
abbrev dd_World_rows_of : He.DefD := ⟨("World", some "rows_of"), "rows_of", "World.rows_of", defArgs s_World_rows_of, defBody s_World_rows_of, defScope s_World_rows_of, [], []⟩
abbrev dd_World_kind_of : He.DefD := ⟨("World", some "kind_of"), "kind_of", "World.kind_of", defArgs s_World_kind_of, defBody s_World_kind_of, defScope s_World_kind_of, [], []⟩
abbrev dd_World_made : He.DefD := ⟨("World", some "made"), "made", "World.made", defArgs s_World_made, defBody s_World_made, defScope s_World_made, [], []⟩
abbrev dd_World_made_empty : He.DefD := ⟨("World", some "made_empty"), "made_empty", "World.made_empty", defArgs s_World_made_empty, defBody s_World_made_empty, defScope s_World_made_empty, [], []⟩
abbrev dd_World_place_in : He.DefD := ⟨("World", some "place_in"), "place_in", "World.place_in", defArgs s_World_place_in, defBody s_World_place_in, defScope s_World_place_in, [], []⟩
abbrev dd_World_as_event : He.DefD := ⟨("World", some "as_event"), "as_event", "World.as_event", defArgs s_World_as_event, defBody s_World_as_event, defScope s_World_as_event, [], []⟩
abbrev dd_World_new_frame : He.DefD := ⟨("World", some "new_frame"), "new_frame", "World.new_frame", defArgs s_World_new_frame, defBody s_World_new_frame, defScope s_World_new_frame, [], []⟩
abbrev dd_is_true : He.DefD := ⟨("is_true", none), "is_true", "is_true", defArgs s_is_true, defBody s_is_true, defScope s_is_true, [], []⟩
abbrev dd_reckoned : He.DefD := ⟨("reckoned", none), "reckoned", "reckoned", defArgs s_reckoned, defBody s_reckoned, defScope s_reckoned, [], []⟩
abbrev dd_are_unlike : He.DefD := ⟨("are_unlike", none), "are_unlike", "are_unlike", defArgs s_are_unlike, defBody s_are_unlike, defScope s_are_unlike, [], []⟩
abbrev dd_are_names : He.DefD := ⟨("are_names", none), "are_names", "are_names", defArgs s_are_names, defBody s_are_names, defScope s_are_names, [], []⟩
abbrev dd_is_kind : He.DefD := ⟨("is_kind", none), "is_kind", "is_kind", defArgs s_is_kind, defBody s_is_kind, defScope s_is_kind, [], []⟩
abbrev dd_is_body : He.DefD := ⟨("is_body", none), "is_body", "is_body", defArgs s_is_body, defBody s_is_body, defScope s_is_body, [], []⟩
abbrev dd_is_entry : He.DefD := ⟨("is_entry", none), "is_entry", "is_entry", defArgs s_is_entry, defBody s_is_entry, defScope s_is_entry, [], []⟩
abbrev dd_Limits_init : He.DefD := ⟨("Limits", some "__init__"), "__init__", "Limits.__init__", defArgs s_Limits_init, defBody s_Limits_init, defScope s_Limits_init, [], []⟩
abbrev dd_Limits_fits : He.DefD := ⟨("Limits", some "fits"), "fits", "Limits.fits", defArgs s_Limits_fits, defBody s_Limits_fits, defScope s_Limits_fits, [], []⟩
abbrev dd_Limits_lets : He.DefD := ⟨("Limits", some "lets"), "lets", "Limits.lets", defArgs s_Limits_lets, defBody s_Limits_lets, defScope s_Limits_lets, [], []⟩
abbrev dd_limits_of : He.DefD := ⟨("limits_of", none), "limits_of", "limits_of", defArgs s_limits_of, defBody s_limits_of, defScope s_limits_of, [], []⟩
abbrev dd_are_parts : He.DefD := ⟨("are_parts", none), "are_parts", "are_parts", defArgs s_are_parts, defBody s_are_parts, defScope s_are_parts, [], []⟩
abbrev dd_Program_init : He.DefD := ⟨("Program", some "__init__"), "__init__", "Program.__init__", defArgs s_Program_init, defBody s_Program_init, defScope s_Program_init, [], []⟩
abbrev dd_Program_kinds : He.DefD := ⟨("Program", some "kinds"), "kinds", "Program.kinds", defArgs s_Program_kinds, defBody s_Program_kinds, defScope s_Program_kinds, [], []⟩
abbrev dd_Program_bodies : He.DefD := ⟨("Program", some "bodies"), "bodies", "Program.bodies", defArgs s_Program_bodies, defBody s_Program_bodies, defScope s_Program_bodies, [], []⟩
abbrev dd_Program_table : He.DefD := ⟨("Program", some "table"), "table", "Program.table", defArgs s_Program_table, defBody s_Program_table, defScope s_Program_table, [], []⟩
abbrev dd_World_init : He.DefD := ⟨("World", some "__init__"), "__init__", "World.__init__", defArgs s_World_init, defBody s_World_init, defScope s_World_init, [], []⟩
abbrev dd_Rows_init : He.DefD := ⟨("Rows", some "__init__"), "__init__", "Rows.__init__", defArgs s_Rows_init, defBody s_Rows_init, defScope s_Rows_init, [], []⟩
abbrev dd_Rows_depth : He.DefD := ⟨("Plain", some "depth"), "depth", "Rows.depth", defArgs s_Rows_depth, defBody s_Rows_depth, defScope s_Rows_depth, [], []⟩
abbrev dd_Rows_called : He.DefD := ⟨("Plain", some "called"), "called", "Rows.called", defArgs s_Rows_called, defBody s_Rows_called, defScope s_Rows_called, [], []⟩
abbrev dd_Rows_got : He.DefD := ⟨("Plain", some "got"), "got", "Rows.got", defArgs s_Rows_got, defBody s_Rows_got, defScope s_Rows_got, [], []⟩
abbrev dd_Rows_given : He.DefD := ⟨("Plain", some "given"), "given", "Rows.given", defArgs s_Rows_given, defBody s_Rows_given, defScope s_Rows_given, [], []⟩
abbrev dd_Rows_told_anew : He.DefD := ⟨("Plain", some "told_anew"), "told_anew", "Rows.told_anew", defArgs s_Rows_told_anew, defBody s_Rows_told_anew, defScope s_Rows_told_anew, [], []⟩
abbrev dd_Rows_noted : He.DefD := ⟨("Plain", some "noted"), "noted", "Rows.noted", defArgs s_Rows_noted, defBody s_Rows_noted, defScope s_Rows_noted, [], []⟩
abbrev dd_do_number : He.DefD := ⟨("do_number", none), "do_number", "do_number", defArgs s_do_number, defBody s_do_number, defScope s_do_number, [], []⟩
abbrev dd_do_nothing : He.DefD := ⟨("do_nothing", none), "do_nothing", "do_nothing", defArgs s_do_nothing, defBody s_do_nothing, defScope s_do_nothing, [], []⟩
abbrev dd_do_copy : He.DefD := ⟨("do_copy", none), "do_copy", "do_copy", defArgs s_do_copy, defBody s_do_copy, defScope s_do_copy, [], []⟩
abbrev dd_do_reckoned : He.DefD := ⟨("do_reckoned", none), "do_reckoned", "do_reckoned", defArgs s_do_reckoned, defBody s_do_reckoned, defScope s_do_reckoned, [], []⟩
abbrev dd_do_make : He.DefD := ⟨("do_make", none), "do_make", "do_make", defArgs s_do_make, defBody s_do_make, defScope s_do_make, [], []⟩
abbrev dd_do_get : He.DefD := ⟨("do_get", none), "do_get", "do_get", defArgs s_do_get, defBody s_do_get, defScope s_do_get, [], []⟩
abbrev dd_do_put : He.DefD := ⟨("do_put", none), "do_put", "do_put", defArgs s_do_put, defBody s_do_put, defScope s_do_put, [], []⟩
abbrev dd_do_call : He.DefD := ⟨("do_call", none), "do_call", "do_call", defArgs s_do_call, defBody s_do_call, defScope s_do_call, [], []⟩
abbrev dd_do_give : He.DefD := ⟨("do_give", none), "do_give", "do_give", defArgs s_do_give, defBody s_do_give, defScope s_do_give, [], []⟩
abbrev dd_do_go : He.DefD := ⟨("do_go", none), "do_go", "do_go", defArgs s_do_go, defBody s_do_go, defScope s_do_go, [], []⟩
abbrev dd_do_if : He.DefD := ⟨("do_if", none), "do_if", "do_if", defArgs s_do_if, defBody s_do_if, defScope s_do_if, [], []⟩
abbrev dd_do_tell : He.DefD := ⟨("do_tell", none), "do_tell", "do_tell", defArgs s_do_tell, defBody s_do_tell, defScope s_do_tell, [], []⟩
abbrev dd_do_anew : He.DefD := ⟨("do_anew", none), "do_anew", "do_anew", defArgs s_do_anew, defBody s_do_anew, defScope s_do_anew, [], []⟩
abbrev dd_seen_of : He.DefD := ⟨("seen_of", none), "seen_of", "seen_of", defArgs s_seen_of, defBody s_seen_of, defScope s_seen_of, [], []⟩
abbrev dd_Rows_do_row : He.DefD := ⟨("Plain", some "do_row"), "do_row", "Rows.do_row", defArgs s_Rows_do_row, defBody s_Rows_do_row, defScope s_Rows_do_row, [], []⟩
abbrev dd_Rows_done : He.DefD := ⟨("Plain", some "done"), "done", "Rows.done", defArgs s_Rows_done, defBody s_Rows_done, defScope s_Rows_done, [], []⟩
abbrev dd_Rows_events : He.DefD := ⟨("Plain", some "events"), "events", "Rows.events", defArgs s_Rows_events, defBody s_Rows_events, defScope s_Rows_events, [], []⟩
abbrev dd_Rows_end : He.DefD := ⟨("Plain", some "end"), "end", "Rows.end", defArgs s_Rows_end, defBody s_Rows_end, defScope s_Rows_end, [], []⟩
abbrev dd_Rows_table : He.DefD := ⟨("Plain", some "table"), "table", "Rows.table", defArgs s_Rows_table, defBody s_Rows_table, defScope s_Rows_table, [], []⟩
abbrev dd_started : He.DefD := ⟨("started", none), "started", "started", defArgs s_started, defBody s_started, defScope s_started, [], []⟩
abbrev dd_need_units : He.DefD := ⟨("need_units", none), "need_units", "need_units", defArgs s_need_units, defBody s_need_units, defScope s_need_units, [], []⟩
abbrev dd_Plain_init : He.DefD := ⟨("Plain", some "__init__"), "__init__", "Plain.__init__", defArgs s_Plain_init, defBody s_Plain_init, defScope s_Plain_init, [He.Dv.adr (He.dflAt ("Plain", some "__init__") 0)], []⟩
abbrev dd_Plain_step : He.DefD := ⟨("Plain", some "step"), "step", "Plain.step", defArgs s_Plain_step, defBody s_Plain_step, defScope s_Plain_step, [], [("units", .int 1)]⟩
abbrev dd_law_begin : He.DefD := ⟨("_law_begin", none), "_law_begin", "_law_begin", defArgs s_law_begin, defBody s_law_begin, defScope s_law_begin, [], []⟩
abbrev dd_law_more : He.DefD := ⟨("_law_more", none), "_law_more", "_law_more", defArgs s_law_more, defBody s_law_more, defScope s_law_more, [], []⟩
abbrev dd_law_next : He.DefD := ⟨("_law_next", none), "_law_next", "_law_next", defArgs s_law_next, defBody s_law_next, defScope s_law_next, [], []⟩
abbrev dd_law_pick : He.DefD := ⟨("_law_pick", none), "_law_pick", "_law_pick", defArgs s_law_pick, defBody s_law_pick, defScope s_law_pick, [], []⟩
abbrev dd_law_alike : He.DefD := ⟨("_law_alike", none), "_law_alike", "_law_alike", defArgs s_law_alike, defBody s_law_alike, defScope s_law_alike, [], []⟩
abbrev dd_law_rows : He.DefD := ⟨("_law_rows", none), "_law_rows", "_law_rows", defArgs s_law_rows, defBody s_law_rows, defScope s_law_rows, [], []⟩
abbrev dd_law : He.DefD := ⟨("law", none), "law", "law", defArgs s_law, defBody s_law, defScope s_law, [], []⟩
def fnL : List He.DefD := [dd_is_whole, dd_is_number, dd_is_list, dd_is_name, dd_Frame_init, dd_World_rows_of, dd_World_kind_of, dd_World_made, dd_World_made_empty, dd_World_place_in, dd_World_as_event, dd_World_new_frame, dd_is_true, dd_reckoned, dd_are_unlike, dd_are_names, dd_is_kind, dd_is_body, dd_is_entry, dd_Limits_init, dd_Limits_fits, dd_Limits_lets, dd_limits_of, dd_are_parts, dd_Program_init, dd_Program_kinds, dd_Program_bodies, dd_Program_table, dd_World_init, dd_Rows_init, dd_Rows_depth, dd_Rows_called, dd_Rows_got, dd_Rows_given, dd_Rows_told_anew, dd_Rows_noted, dd_do_number, dd_do_nothing, dd_do_copy, dd_do_reckoned, dd_do_make, dd_do_get, dd_do_put, dd_do_call, dd_do_give, dd_do_go, dd_do_if, dd_do_tell, dd_do_anew, dd_seen_of, dd_Rows_do_row, dd_Rows_done, dd_Rows_events, dd_Rows_end, dd_Rows_table, dd_started, dd_need_units, dd_Plain_init, dd_Plain_step, dd_law_begin, dd_law_more, dd_law_next, dd_law_pick, dd_law_alike, dd_law_rows, dd_law]
def kv_DEEDS : List (Str × He.Dv) := [("number", He.Dv.glo "do_number"), ("nothing", He.Dv.glo "do_nothing"), ("copy", He.Dv.glo "do_copy"), ("plus", He.Dv.glo "do_reckoned"), ("less", He.Dv.glo "do_reckoned"), ("times", He.Dv.glo "do_reckoned"), ("under", He.Dv.glo "do_reckoned"), ("same", He.Dv.glo "do_reckoned"), ("make", He.Dv.glo "do_make"), ("get", He.Dv.glo "do_get"), ("put", He.Dv.glo "do_put"), ("call", He.Dv.glo "do_call"), ("give", He.Dv.glo "do_give"), ("go", He.Dv.glo "do_go"), ("if", He.Dv.glo "do_if"), ("tell", He.Dv.glo "do_tell"), ("anew", He.Dv.glo "do_anew")]
def kv_FORMS : List (Str × He.Dv) := [("number", He.Dv.str "bn"), ("nothing", He.Dv.str "b"), ("copy", He.Dv.str "bb"), ("plus", He.Dv.str "bbb"), ("less", He.Dv.str "bbb"), ("times", He.Dv.str "bbb"), ("under", He.Dv.str "bbb"), ("same", He.Dv.str "bbb"), ("make", He.Dv.str "bk"), ("get", He.Dv.str "bbf"), ("put", He.Dv.str "bfb"), ("call", He.Dv.str "bfa"), ("give", He.Dv.str "b"), ("go", He.Dv.str "r"), ("if", He.Dv.str "br"), ("tell", He.Dv.str "b"), ("anew", He.Dv.str "efy")]
def faL : List He.Fa := [.free "abs", .free "all", .free "bool", .free "dict", .free "enumerate", .free "int", .free "isinstance", .free "len", .free "list", .free "max", .free "min", .free "range", .free "sorted", .free "str", .free "sum", .free "tuple", .free "zip", .glo "do_anew", .glo "do_tell", .glo "do_if", .glo "do_go", .glo "do_give", .glo "do_call", .glo "do_put", .glo "do_get", .glo "do_make", .glo "do_reckoned", .glo "do_copy", .glo "do_nothing", .glo "do_number", .glo "DEEDS", .glo "FORMS", .int "GREATEST" 1000000000, .int "MOST_BODIES" 12, .int "MOST_BOXES" 6, .int "MOST_FIELDS" 4, .int "MOST_FRAMES" 40, .int "MOST_KINDS" 6, .int "MOST_ROWS" 30, .int "MOST_UNITS" 2000, .glo "PLAIN_KINDS", .str "SMALL" "abcdefghijklmnopqrstuvwxyz", .glo "STAYING", .glo "Program", .cls "Program", .noat "Program" "all_bodies", .noat "Program" "all_kinds", .glo "Frame", .cls "Frame", .noat "Frame" "body", .noat "Frame" "boxes", .glo "Plain", .cls "Plain", .noat "Plain" "ending", .noat "Program" "entries", .glo "World", .cls "World", .noat "World" "entries", .noat "World" "field_names", .noat "Plain" "frames", .noat "World" "heap", .glo "Limits", .cls "Limits", .noat "Limits" "long", .noat "Limits" "many", .noat "Limits" "names", .noat "Plain" "passed", .noat "World" "plan", .noat "Plain" "profile", .noat "Frame" "row", .noat "World" "source", .noat "World" "told", .noat "Limits" "wide", .noat "Plain" "world", .glo "is_whole", .meth "World" "made", .meth "World" "kind_of", .mkr "Frame", .glo "is_list", .glo "is_name", .glo "are_unlike", .glo "are_names", .glo "is_number", .meth "Limits" "fits", .mkr "Limits", .glo "is_kind", .glo "is_body", .glo "is_entry", .glo "are_parts", .glo "limits_of", .meth "Limits" "lets", .meth "Program" "kinds", .meth "Program" "bodies", .meth "Program" "table", .mkr "World", .meth "World" "rows_of", .meth "World" "as_event", .meth "Plain" "got", .glo "reckoned", .meth "World" "made_empty", .meth "World" "place_in", .meth "World" "new_frame", .meth "Plain" "depth", .meth "Plain" "called", .meth "Plain" "given", .glo "is_true", .meth "Plain" "told_anew", .glo "seen_of", .meth "Plain" "noted", .glo "Rows", .glo "started", .glo "need_units", .meth "Plain" "do_row", .glo "_law_more", .glo "_law_next", .glo "_law_alike", .glo "_law_begin", .glo "_law_rows", .mkr "Program", .mkr "Plain", .meth "Plain" "end", .meth "Plain" "step", .meth "Plain" "done", .meth "Plain" "events", .glo "law"]
def tsL : List He.Tab := [((fun K => He.ga K "DEEDS"), ["number", "nothing", "copy", "plus", "less", "times", "under", "same", "make", "get", "put", "call", "give", "go", "if", "tell", "anew"]), ((fun K => He.ga K "FORMS"), ["number", "nothing", "copy", "plus", "less", "times", "under", "same", "make", "get", "put", "call", "give", "go", "if", "tell", "anew"])]
def exL : List (PySem.W.Frag → Bool) := [(fun K => He.valsB K (He.ga K "DEEDS") kv_DEEDS), (fun K => He.valsB K (He.ga K "FORMS") kv_FORMS), (fun K => He.tupB K "PLAIN_KINDS" [He.Dv.str "number", He.Dv.str "nothing"]), (fun K => He.tupB K "STAYING" [He.Dv.str "call", He.Dv.str "give", He.Dv.str "go", He.Dv.str "if"]), clsFnB "Rows" "__init__", etupB (He.dflAt ("Plain", some "__init__") 0)]
theorem facts {P : Program} {w : World} {K : PySem.W.Frag} {h : Heap} {mg : Str → Option Value} {f : Addr} (X : K.In h) (G : h.Ns mainGlobals mg) (hfa : mg "law" = some (.ref f)) (c : SaysM faL fnL tsL exL w K) :
    ∃ fd : FuncData, (∀ (s : Shared) (v : Value), BindsTo s fd ⟨[v], []⟩ [("_law_script", v)]) ∧ ∀ base : Heap, K.In base → base.Ns mainGlobals mg → FnOk P w K mg base CX0 9 f fd ["_law_script"] (LfF K mg 1 F_law) := by
  obtain ⟨fd_is_whole, D_is_whole⟩ := c.t.d.def_ 0 (d := dd_is_whole) rfl
  have B_is_whole : Binds K fd_is_whole ["thing", "least", "most"] [] := FunD.bindsN (ps := ["thing", "least", "most"]) D_is_whole fun _ _ _ _ _ _ us hl => match us, hl with | [_, _, _], _ => rfl
  obtain ⟨fd_is_number, D_is_number⟩ := c.t.d.def_ 1 (d := dd_is_number) rfl
  have B_is_number : Binds K fd_is_number ["thing"] [] := FunD.bindsN (ps := ["thing"]) D_is_number fun _ _ _ _ _ _ us hl => match us, hl with | [_], _ => rfl
  obtain ⟨fd_is_list, D_is_list⟩ := c.t.d.def_ 2 (d := dd_is_list) rfl
  have B_is_list : Binds K fd_is_list ["thing"] [] := FunD.bindsN (ps := ["thing"]) D_is_list fun _ _ _ _ _ _ us hl => match us, hl with | [_], _ => rfl
  obtain ⟨fd_is_name, D_is_name⟩ := c.t.d.def_ 3 (d := dd_is_name) rfl
  have B_is_name : Binds K fd_is_name ["thing"] [] := FunD.bindsN (ps := ["thing"]) D_is_name fun _ _ _ _ _ _ us hl => match us, hl with | [_], _ => rfl
  obtain ⟨fd_Frame_init, D_Frame_init⟩ := c.t.d.def_ 4 (d := dd_Frame_init) rfl
  have B_Frame_init : Binds K fd_Frame_init ["self", "body", "row", "boxes"] [] := FunD.bindsN (ps := ["self", "body", "row", "boxes"]) D_Frame_init fun _ _ _ _ _ _ us hl => match us, hl with | [_, _, _, _], _ => rfl
  obtain ⟨fd_World_rows_of, D_World_rows_of⟩ := c.t.d.def_ 5 (d := dd_World_rows_of) rfl
  have B_World_rows_of : Binds K fd_World_rows_of ["self", "body"] [] := FunD.bindsN (ps := ["self", "body"]) D_World_rows_of fun _ _ _ _ _ _ us hl => match us, hl with | [_, _], _ => rfl
  obtain ⟨fd_World_kind_of, D_World_kind_of⟩ := c.t.d.def_ 6 (d := dd_World_kind_of) rfl
  have B_World_kind_of : Binds K fd_World_kind_of ["self", "value"] [] := FunD.bindsN (ps := ["self", "value"]) D_World_kind_of fun _ _ _ _ _ _ us hl => match us, hl with | [_, _], _ => rfl
  obtain ⟨fd_World_made, D_World_made⟩ := c.t.d.def_ 7 (d := dd_World_made) rfl
  have B_World_made : Binds K fd_World_made ["self", "kind", "values"] [] := FunD.bindsN (ps := ["self", "kind", "values"]) D_World_made fun _ _ _ _ _ _ us hl => match us, hl with | [_, _, _], _ => rfl
  obtain ⟨fd_World_made_empty, D_World_made_empty⟩ := c.t.d.def_ 8 (d := dd_World_made_empty) rfl
  have B_World_made_empty : Binds K fd_World_made_empty ["self", "kind"] [] := FunD.bindsN (ps := ["self", "kind"]) D_World_made_empty fun _ _ _ _ _ _ us hl => match us, hl with | [_, _], _ => rfl
  obtain ⟨fd_World_place_in, D_World_place_in⟩ := c.t.d.def_ 9 (d := dd_World_place_in) rfl
  have B_World_place_in : Binds K fd_World_place_in ["self", "value", "field"] [] := FunD.bindsN (ps := ["self", "value", "field"]) D_World_place_in fun _ _ _ _ _ _ us hl => match us, hl with | [_, _, _], _ => rfl
  obtain ⟨fd_World_as_event, D_World_as_event⟩ := c.t.d.def_ 10 (d := dd_World_as_event) rfl
  have B_World_as_event : Binds K fd_World_as_event ["self", "value"] [] := FunD.bindsN (ps := ["self", "value"]) D_World_as_event fun _ _ _ _ _ _ us hl => match us, hl with | [_, _], _ => rfl
  obtain ⟨fd_World_new_frame, D_World_new_frame⟩ := c.t.d.def_ 11 (d := dd_World_new_frame) rfl
  have B_World_new_frame : Binds K fd_World_new_frame ["self", "receiver", "name", "many", "frames"] [] := FunD.bindsN (ps := ["self", "receiver", "name", "many", "frames"]) D_World_new_frame fun _ _ _ _ _ _ us hl => match us, hl with | [_, _, _, _, _], _ => rfl
  obtain ⟨fd_is_true, D_is_true⟩ := c.t.d.def_ 12 (d := dd_is_true) rfl
  have B_is_true : Binds K fd_is_true ["value"] [] := FunD.bindsN (ps := ["value"]) D_is_true fun _ _ _ _ _ _ us hl => match us, hl with | [_], _ => rfl
  obtain ⟨fd_reckoned, D_reckoned⟩ := c.t.d.def_ 13 (d := dd_reckoned) rfl
  have B_reckoned : Binds K fd_reckoned ["word", "one", "other"] [] := FunD.bindsN (ps := ["word", "one", "other"]) D_reckoned fun _ _ _ _ _ _ us hl => match us, hl with | [_, _, _], _ => rfl
  obtain ⟨fd_are_unlike, D_are_unlike⟩ := c.t.d.def_ 14 (d := dd_are_unlike) rfl
  have B_are_unlike : Binds K fd_are_unlike ["some"] [] := FunD.bindsN (ps := ["some"]) D_are_unlike fun _ _ _ _ _ _ us hl => match us, hl with | [_], _ => rfl
  obtain ⟨fd_are_names, D_are_names⟩ := c.t.d.def_ 15 (d := dd_are_names) rfl
  have B_are_names : Binds K fd_are_names ["some", "most"] [] := FunD.bindsN (ps := ["some", "most"]) D_are_names fun _ _ _ _ _ _ us hl => match us, hl with | [_, _], _ => rfl
  obtain ⟨fd_is_kind, D_is_kind⟩ := c.t.d.def_ 16 (d := dd_is_kind) rfl
  have B_is_kind : Binds K fd_is_kind ["thing"] [] := FunD.bindsN (ps := ["thing"]) D_is_kind fun _ _ _ _ _ _ us hl => match us, hl with | [_], _ => rfl
  obtain ⟨fd_is_body, D_is_body⟩ := c.t.d.def_ 17 (d := dd_is_body) rfl
  have B_is_body : Binds K fd_is_body ["thing"] [] := FunD.bindsN (ps := ["thing"]) D_is_body fun _ _ _ _ _ _ us hl => match us, hl with | [_], _ => rfl
  obtain ⟨fd_is_entry, D_is_entry⟩ := c.t.d.def_ 18 (d := dd_is_entry) rfl
  have B_is_entry : KBn K fd_is_entry ["key", "body", "names", "many"] 2 ["names", "many"] (fun us ws => us ++ ws) (fun vs zs => vs ++ zs) := kbn_of (ps := ["key", "body", "names", "many"]) D_is_entry 2 ["names", "many"] fun _ _ _ _ _ _ us ws h1 h2 => match us, h1, ws, h2 with | [_, _], _, [_, _], _ => rfl
  obtain ⟨fd_Limits_init, D_Limits_init⟩ := c.t.d.def_ 19 (d := dd_Limits_init) rfl
  have B_Limits_init : KBn K fd_Limits_init ["self", "names", "many", "boxes", "rows"] 2 ["many", "boxes", "rows"] (fun us ws => us ++ ws) (fun vs zs => vs ++ zs) := kbn_of (ps := ["self", "names", "many", "boxes", "rows"]) D_Limits_init 2 ["many", "boxes", "rows"] fun _ _ _ _ _ _ us ws h1 h2 => match us, h1, ws, h2 with | [_, _], _, [_, _, _], _ => rfl
  obtain ⟨fd_Limits_fits, D_Limits_fits⟩ := c.t.d.def_ 20 (d := dd_Limits_fits) rfl
  have B_Limits_fits : Binds K fd_Limits_fits ["self", "sign", "thing"] [] := FunD.bindsN (ps := ["self", "sign", "thing"]) D_Limits_fits fun _ _ _ _ _ _ us hl => match us, hl with | [_, _, _], _ => rfl
  obtain ⟨fd_Limits_lets, D_Limits_lets⟩ := c.t.d.def_ 21 (d := dd_Limits_lets) rfl
  have B_Limits_lets : Binds K fd_Limits_lets ["self", "thing"] [] := FunD.bindsN (ps := ["self", "thing"]) D_Limits_lets fun _ _ _ _ _ _ us hl => match us, hl with | [_, _], _ => rfl
  obtain ⟨fd_limits_of, D_limits_of⟩ := c.t.d.def_ 22 (d := dd_limits_of) rfl
  have B_limits_of : Binds K fd_limits_of ["kinds", "bodies", "body"] [] := FunD.bindsN (ps := ["kinds", "bodies", "body"]) D_limits_of fun _ _ _ _ _ _ us hl => match us, hl with | [_, _, _], _ => rfl
  obtain ⟨fd_are_parts, D_are_parts⟩ := c.t.d.def_ 23 (d := dd_are_parts) rfl
  have B_are_parts : Binds K fd_are_parts ["kinds", "bodies", "table"] [] := FunD.bindsN (ps := ["kinds", "bodies", "table"]) D_are_parts fun _ _ _ _ _ _ us hl => match us, hl with | [_, _, _], _ => rfl
  obtain ⟨fd_Program_init, D_Program_init⟩ := c.t.d.def_ 24 (d := dd_Program_init) rfl
  have B_Program_init : Binds K fd_Program_init ["self", "kinds", "bodies", "table"] [] := FunD.bindsN (ps := ["self", "kinds", "bodies", "table"]) D_Program_init fun _ _ _ _ _ _ us hl => match us, hl with | [_, _, _, _], _ => rfl
  obtain ⟨fd_Program_kinds, D_Program_kinds⟩ := c.t.d.def_ 25 (d := dd_Program_kinds) rfl
  have B_Program_kinds : Binds K fd_Program_kinds ["self"] [] := FunD.bindsN (ps := ["self"]) D_Program_kinds fun _ _ _ _ _ _ us hl => match us, hl with | [_], _ => rfl
  obtain ⟨fd_Program_bodies, D_Program_bodies⟩ := c.t.d.def_ 26 (d := dd_Program_bodies) rfl
  have B_Program_bodies : Binds K fd_Program_bodies ["self"] [] := FunD.bindsN (ps := ["self"]) D_Program_bodies fun _ _ _ _ _ _ us hl => match us, hl with | [_], _ => rfl
  obtain ⟨fd_Program_table, D_Program_table⟩ := c.t.d.def_ 27 (d := dd_Program_table) rfl
  have B_Program_table : Binds K fd_Program_table ["self"] [] := FunD.bindsN (ps := ["self"]) D_Program_table fun _ _ _ _ _ _ us hl => match us, hl with | [_], _ => rfl
  obtain ⟨fd_World_init, D_World_init⟩ := c.t.d.def_ 28 (d := dd_World_init) rfl
  have B_World_init : Binds K fd_World_init ["self", "program"] [] := FunD.bindsN (ps := ["self", "program"]) D_World_init fun _ _ _ _ _ _ us hl => match us, hl with | [_, _], _ => rfl
  obtain ⟨fd_Rows_init, D_Rows_init⟩ := c.t.d.def_ 29 (d := dd_Rows_init) rfl
  have B_Rows_init : Binds K fd_Rows_init ["self", "program"] [] := FunD.bindsN (ps := ["self", "program"]) D_Rows_init fun _ _ _ _ _ _ us hl => match us, hl with | [_, _], _ => rfl
  obtain ⟨fd_Rows_depth, D_Rows_depth⟩ := c.t.d.def_ 30 (d := dd_Rows_depth) rfl
  have B_Rows_depth : Binds K fd_Rows_depth ["self"] [] := FunD.bindsN (ps := ["self"]) D_Rows_depth fun _ _ _ _ _ _ us hl => match us, hl with | [_], _ => rfl
  obtain ⟨fd_Rows_called, D_Rows_called⟩ := c.t.d.def_ 31 (d := dd_Rows_called) rfl
  have B_Rows_called : Binds K fd_Rows_called ["self", "frame"] [] := FunD.bindsN (ps := ["self", "frame"]) D_Rows_called fun _ _ _ _ _ _ us hl => match us, hl with | [_, _], _ => rfl
  obtain ⟨fd_Rows_got, D_Rows_got⟩ := c.t.d.def_ 32 (d := dd_Rows_got) rfl
  have B_Rows_got : Binds K fd_Rows_got ["self", "caller", "value"] [] := FunD.bindsN (ps := ["self", "caller", "value"]) D_Rows_got fun _ _ _ _ _ _ us hl => match us, hl with | [_, _, _], _ => rfl
  obtain ⟨fd_Rows_given, D_Rows_given⟩ := c.t.d.def_ 33 (d := dd_Rows_given) rfl
  have B_Rows_given : Binds K fd_Rows_given ["self", "value"] [] := FunD.bindsN (ps := ["self", "value"]) D_Rows_given fun _ _ _ _ _ _ us hl => match us, hl with | [_, _], _ => rfl
  obtain ⟨fd_Rows_told_anew, D_Rows_told_anew⟩ := c.t.d.def_ 34 (d := dd_Rows_told_anew) rfl
  have B_Rows_told_anew : Binds K fd_Rows_told_anew ["self", "key", "body"] [] := FunD.bindsN (ps := ["self", "key", "body"]) D_Rows_told_anew fun _ _ _ _ _ _ us hl => match us, hl with | [_, _, _], _ => rfl
  obtain ⟨fd_Rows_noted, D_Rows_noted⟩ := c.t.d.def_ 35 (d := dd_Rows_noted) rfl
  have B_Rows_noted : Binds K fd_Rows_noted ["self", "place", "what"] [] := FunD.bindsN (ps := ["self", "place", "what"]) D_Rows_noted fun _ _ _ _ _ _ us hl => match us, hl with | [_, _, _], _ => rfl
  obtain ⟨fd_do_number, D_do_number⟩ := c.t.d.def_ 36 (d := dd_do_number) rfl
  have B_do_number : Binds K fd_do_number ["machine", "frame", "row"] [] := FunD.bindsN (ps := ["machine", "frame", "row"]) D_do_number fun _ _ _ _ _ _ us hl => match us, hl with | [_, _, _], _ => rfl
  obtain ⟨fd_do_nothing, D_do_nothing⟩ := c.t.d.def_ 37 (d := dd_do_nothing) rfl
  have B_do_nothing : Binds K fd_do_nothing ["machine", "frame", "row"] [] := FunD.bindsN (ps := ["machine", "frame", "row"]) D_do_nothing fun _ _ _ _ _ _ us hl => match us, hl with | [_, _, _], _ => rfl
  obtain ⟨fd_do_copy, D_do_copy⟩ := c.t.d.def_ 38 (d := dd_do_copy) rfl
  have B_do_copy : Binds K fd_do_copy ["machine", "frame", "row"] [] := FunD.bindsN (ps := ["machine", "frame", "row"]) D_do_copy fun _ _ _ _ _ _ us hl => match us, hl with | [_, _, _], _ => rfl
  obtain ⟨fd_do_reckoned, D_do_reckoned⟩ := c.t.d.def_ 39 (d := dd_do_reckoned) rfl
  have B_do_reckoned : Binds K fd_do_reckoned ["machine", "frame", "row"] [] := FunD.bindsN (ps := ["machine", "frame", "row"]) D_do_reckoned fun _ _ _ _ _ _ us hl => match us, hl with | [_, _, _], _ => rfl
  obtain ⟨fd_do_make, D_do_make⟩ := c.t.d.def_ 40 (d := dd_do_make) rfl
  have B_do_make : Binds K fd_do_make ["machine", "frame", "row"] [] := FunD.bindsN (ps := ["machine", "frame", "row"]) D_do_make fun _ _ _ _ _ _ us hl => match us, hl with | [_, _, _], _ => rfl
  obtain ⟨fd_do_get, D_do_get⟩ := c.t.d.def_ 41 (d := dd_do_get) rfl
  have B_do_get : Binds K fd_do_get ["machine", "frame", "row"] [] := FunD.bindsN (ps := ["machine", "frame", "row"]) D_do_get fun _ _ _ _ _ _ us hl => match us, hl with | [_, _, _], _ => rfl
  obtain ⟨fd_do_put, D_do_put⟩ := c.t.d.def_ 42 (d := dd_do_put) rfl
  have B_do_put : Binds K fd_do_put ["machine", "frame", "row"] [] := FunD.bindsN (ps := ["machine", "frame", "row"]) D_do_put fun _ _ _ _ _ _ us hl => match us, hl with | [_, _, _], _ => rfl
  obtain ⟨fd_do_call, D_do_call⟩ := c.t.d.def_ 43 (d := dd_do_call) rfl
  have B_do_call : Binds K fd_do_call ["machine", "frame", "row"] [] := FunD.bindsN (ps := ["machine", "frame", "row"]) D_do_call fun _ _ _ _ _ _ us hl => match us, hl with | [_, _, _], _ => rfl
  obtain ⟨fd_do_give, D_do_give⟩ := c.t.d.def_ 44 (d := dd_do_give) rfl
  have B_do_give : Binds K fd_do_give ["machine", "frame", "row"] [] := FunD.bindsN (ps := ["machine", "frame", "row"]) D_do_give fun _ _ _ _ _ _ us hl => match us, hl with | [_, _, _], _ => rfl
  obtain ⟨fd_do_go, D_do_go⟩ := c.t.d.def_ 45 (d := dd_do_go) rfl
  have B_do_go : Binds K fd_do_go ["machine", "frame", "row"] [] := FunD.bindsN (ps := ["machine", "frame", "row"]) D_do_go fun _ _ _ _ _ _ us hl => match us, hl with | [_, _, _], _ => rfl
  obtain ⟨fd_do_if, D_do_if⟩ := c.t.d.def_ 46 (d := dd_do_if) rfl
  have B_do_if : Binds K fd_do_if ["machine", "frame", "row"] [] := FunD.bindsN (ps := ["machine", "frame", "row"]) D_do_if fun _ _ _ _ _ _ us hl => match us, hl with | [_, _, _], _ => rfl
  obtain ⟨fd_do_tell, D_do_tell⟩ := c.t.d.def_ 47 (d := dd_do_tell) rfl
  have B_do_tell : Binds K fd_do_tell ["machine", "frame", "row"] [] := FunD.bindsN (ps := ["machine", "frame", "row"]) D_do_tell fun _ _ _ _ _ _ us hl => match us, hl with | [_, _, _], _ => rfl
  obtain ⟨fd_do_anew, D_do_anew⟩ := c.t.d.def_ 48 (d := dd_do_anew) rfl
  have B_do_anew : Binds K fd_do_anew ["machine", "frame", "row"] [] := FunD.bindsN (ps := ["machine", "frame", "row"]) D_do_anew fun _ _ _ _ _ _ us hl => match us, hl with | [_, _, _], _ => rfl
  obtain ⟨fd_seen_of, D_seen_of⟩ := c.t.d.def_ 49 (d := dd_seen_of) rfl
  have B_seen_of : Binds K fd_seen_of ["world", "frame", "row"] [] := FunD.bindsN (ps := ["world", "frame", "row"]) D_seen_of fun _ _ _ _ _ _ us hl => match us, hl with | [_, _, _], _ => rfl
  obtain ⟨fd_Rows_do_row, D_Rows_do_row⟩ := c.t.d.def_ 50 (d := dd_Rows_do_row) rfl
  have B_Rows_do_row : Binds K fd_Rows_do_row ["self"] [] := FunD.bindsN (ps := ["self"]) D_Rows_do_row fun _ _ _ _ _ _ us hl => match us, hl with | [_], _ => rfl
  obtain ⟨fd_Rows_done, D_Rows_done⟩ := c.t.d.def_ 51 (d := dd_Rows_done) rfl
  have B_Rows_done : Binds K fd_Rows_done ["self"] [] := FunD.bindsN (ps := ["self"]) D_Rows_done fun _ _ _ _ _ _ us hl => match us, hl with | [_], _ => rfl
  obtain ⟨fd_Rows_events, D_Rows_events⟩ := c.t.d.def_ 52 (d := dd_Rows_events) rfl
  have B_Rows_events : Binds K fd_Rows_events ["self"] [] := FunD.bindsN (ps := ["self"]) D_Rows_events fun _ _ _ _ _ _ us hl => match us, hl with | [_], _ => rfl
  obtain ⟨fd_Rows_end, D_Rows_end⟩ := c.t.d.def_ 53 (d := dd_Rows_end) rfl
  have B_Rows_end : Binds K fd_Rows_end ["self"] [] := FunD.bindsN (ps := ["self"]) D_Rows_end fun _ _ _ _ _ _ us hl => match us, hl with | [_], _ => rfl
  obtain ⟨fd_Rows_table, D_Rows_table⟩ := c.t.d.def_ 54 (d := dd_Rows_table) rfl
  have B_Rows_table : Binds K fd_Rows_table ["self"] [] := FunD.bindsN (ps := ["self"]) D_Rows_table fun _ _ _ _ _ _ us hl => match us, hl with | [_], _ => rfl
  obtain ⟨fd_started, D_started⟩ := c.t.d.def_ 55 (d := dd_started) rfl
  have B_started : Binds K fd_started ["machine", "body", "numbers"] [] := FunD.bindsN (ps := ["machine", "body", "numbers"]) D_started fun _ _ _ _ _ _ us hl => match us, hl with | [_, _, _], _ => rfl
  obtain ⟨fd_need_units, D_need_units⟩ := c.t.d.def_ 56 (d := dd_need_units) rfl
  have B_need_units : Binds K fd_need_units ["units"] [] := FunD.bindsN (ps := ["units"]) D_need_units fun _ _ _ _ _ _ us hl => match us, hl with | [_], _ => rfl
  obtain ⟨fd_Plain_init, D_Plain_init⟩ := c.t.d.def_ 57 (d := dd_Plain_init) rfl
  obtain ⟨ds_Plain_init, V_Plain_init, B_Plain_init⟩ := FunD.binds1 (ps := ["self", "program", "body", "numbers"]) D_Plain_init 3 0 (List.cons_ne_nil _ _) rfl fun T kV doc pm an cdv ct us its h1 h2 => match us, h1, its, h2 with | [_, _, _], _, [_], _ => ⟨_, rfl, rfl⟩
  obtain ⟨fd_Plain_step, D_Plain_step⟩ := c.t.d.def_ 58 (d := dd_Plain_step) rfl
  have B_Plain_step : KBn K fd_Plain_step ["self", "units"] 1 ["units"] (fun us ws => us ++ ws) (fun vs zs => vs ++ zs) := kbn_of (ps := ["self", "units"]) D_Plain_step 1 ["units"] fun _ _ _ _ _ _ us ws h1 h2 => match us, h1, ws, h2 with | [_], _, [_], _ => rfl
  obtain ⟨fd_law_begin, D_law_begin⟩ := c.t.d.def_ 59 (d := dd_law_begin) rfl
  have B_law_begin : Binds K fd_law_begin ["_law_script"] [] := FunD.bindsN (ps := ["_law_script"]) D_law_begin fun _ _ _ _ _ _ us hl => match us, hl with | [_], _ => rfl
  obtain ⟨fd_law_more, D_law_more⟩ := c.t.d.def_ 60 (d := dd_law_more) rfl
  have B_law_more : Binds K fd_law_more ["_law_state"] [] := FunD.bindsN (ps := ["_law_state"]) D_law_more fun _ _ _ _ _ _ us hl => match us, hl with | [_], _ => rfl
  obtain ⟨fd_law_next, D_law_next⟩ := c.t.d.def_ 61 (d := dd_law_next) rfl
  have B_law_next : Binds K fd_law_next ["_law_state", "_law_most"] [] := FunD.bindsN (ps := ["_law_state", "_law_most"]) D_law_next fun _ _ _ _ _ _ us hl => match us, hl with | [_, _], _ => rfl
  obtain ⟨fd_law_pick, D_law_pick⟩ := c.t.d.def_ 62 (d := dd_law_pick) rfl
  have B_law_pick : Binds K fd_law_pick ["_law_state", "_law_some"] [] := FunD.bindsN (ps := ["_law_state", "_law_some"]) D_law_pick fun _ _ _ _ _ _ us hl => match us, hl with | [_, _], _ => rfl
  obtain ⟨fd_law_alike, D_law_alike⟩ := c.t.d.def_ 63 (d := dd_law_alike) rfl
  have B_law_alike : Binds K fd_law_alike ["_law_found", "_law_due"] [] := FunD.bindsN (ps := ["_law_found", "_law_due"]) D_law_alike fun _ _ _ _ _ _ us hl => match us, hl with | [_, _], _ => rfl
  obtain ⟨fd_law_rows, D_law_rows⟩ := c.t.d.def_ 64 (d := dd_law_rows) rfl
  have B_law_rows : Binds K fd_law_rows ["_law_first", "_law_rounds"] [] := FunD.bindsN (ps := ["_law_first", "_law_rounds"]) D_law_rows fun _ _ _ _ _ _ us hl => match us, hl with | [_, _], _ => rfl
  obtain ⟨fd_law, D_law⟩ := c.t.d.def_ 65 (d := dd_law) rfl
  have B_law : Binds K fd_law ["_law_script"] [] := FunD.bindsN (ps := ["_law_script"]) D_law fun _ _ _ _ _ _ us hl => match us, hl with | [_], _ => rfl
  obtain ⟨es_DEEDS, n_DEEDS, KD_DEEDS⟩ := c.t.tab 0 rfl
  have L_DEEDS : ∀ p ∈ d_DEEDS, ∃ d, (p.1, d) ∈ kv_DEEDS ∧ ∀ r n H, VR K mg r n H p.2 (d.v K) := List.forall_mem_cons.mpr ⟨⟨_, List.mem_of_getElem? (i := 0) rfl, fun _ _ _ => vr_glo.mpr ⟨_, rfl, (He.glo_ok X G (c.t.d.fact 29 (f := .glo "do_number") rfl))⟩⟩, List.forall_mem_cons.mpr ⟨⟨_, List.mem_of_getElem? (i := 1) rfl, fun _ _ _ => vr_glo.mpr ⟨_, rfl, (He.glo_ok X G (c.t.d.fact 28 (f := .glo "do_nothing") rfl))⟩⟩, List.forall_mem_cons.mpr ⟨⟨_, List.mem_of_getElem? (i := 2) rfl, fun _ _ _ => vr_glo.mpr ⟨_, rfl, (He.glo_ok X G (c.t.d.fact 27 (f := .glo "do_copy") rfl))⟩⟩, List.forall_mem_cons.mpr ⟨⟨_, List.mem_of_getElem? (i := 3) rfl, fun _ _ _ => vr_glo.mpr ⟨_, rfl, (He.glo_ok X G (c.t.d.fact 26 (f := .glo "do_reckoned") rfl))⟩⟩, List.forall_mem_cons.mpr ⟨⟨_, List.mem_of_getElem? (i := 4) rfl, fun _ _ _ => vr_glo.mpr ⟨_, rfl, (He.glo_ok X G (c.t.d.fact 26 (f := .glo "do_reckoned") rfl))⟩⟩, List.forall_mem_cons.mpr ⟨⟨_, List.mem_of_getElem? (i := 5) rfl, fun _ _ _ => vr_glo.mpr ⟨_, rfl, (He.glo_ok X G (c.t.d.fact 26 (f := .glo "do_reckoned") rfl))⟩⟩, List.forall_mem_cons.mpr ⟨⟨_, List.mem_of_getElem? (i := 6) rfl, fun _ _ _ => vr_glo.mpr ⟨_, rfl, (He.glo_ok X G (c.t.d.fact 26 (f := .glo "do_reckoned") rfl))⟩⟩, List.forall_mem_cons.mpr ⟨⟨_, List.mem_of_getElem? (i := 7) rfl, fun _ _ _ => vr_glo.mpr ⟨_, rfl, (He.glo_ok X G (c.t.d.fact 26 (f := .glo "do_reckoned") rfl))⟩⟩, List.forall_mem_cons.mpr ⟨⟨_, List.mem_of_getElem? (i := 8) rfl, fun _ _ _ => vr_glo.mpr ⟨_, rfl, (He.glo_ok X G (c.t.d.fact 25 (f := .glo "do_make") rfl))⟩⟩, List.forall_mem_cons.mpr ⟨⟨_, List.mem_of_getElem? (i := 9) rfl, fun _ _ _ => vr_glo.mpr ⟨_, rfl, (He.glo_ok X G (c.t.d.fact 24 (f := .glo "do_get") rfl))⟩⟩, List.forall_mem_cons.mpr ⟨⟨_, List.mem_of_getElem? (i := 10) rfl, fun _ _ _ => vr_glo.mpr ⟨_, rfl, (He.glo_ok X G (c.t.d.fact 23 (f := .glo "do_put") rfl))⟩⟩, List.forall_mem_cons.mpr ⟨⟨_, List.mem_of_getElem? (i := 11) rfl, fun _ _ _ => vr_glo.mpr ⟨_, rfl, (He.glo_ok X G (c.t.d.fact 22 (f := .glo "do_call") rfl))⟩⟩, List.forall_mem_cons.mpr ⟨⟨_, List.mem_of_getElem? (i := 12) rfl, fun _ _ _ => vr_glo.mpr ⟨_, rfl, (He.glo_ok X G (c.t.d.fact 21 (f := .glo "do_give") rfl))⟩⟩, List.forall_mem_cons.mpr ⟨⟨_, List.mem_of_getElem? (i := 13) rfl, fun _ _ _ => vr_glo.mpr ⟨_, rfl, (He.glo_ok X G (c.t.d.fact 20 (f := .glo "do_go") rfl))⟩⟩, List.forall_mem_cons.mpr ⟨⟨_, List.mem_of_getElem? (i := 14) rfl, fun _ _ _ => vr_glo.mpr ⟨_, rfl, (He.glo_ok X G (c.t.d.fact 19 (f := .glo "do_if") rfl))⟩⟩, List.forall_mem_cons.mpr ⟨⟨_, List.mem_of_getElem? (i := 15) rfl, fun _ _ _ => vr_glo.mpr ⟨_, rfl, (He.glo_ok X G (c.t.d.fact 18 (f := .glo "do_tell") rfl))⟩⟩, List.forall_mem_cons.mpr ⟨⟨_, List.mem_of_getElem? (i := 16) rfl, fun _ _ _ => vr_glo.mpr ⟨_, rfl, (He.glo_ok X G (c.t.d.fact 17 (f := .glo "do_anew") rfl))⟩⟩, fun p hp => nomatch hp⟩⟩⟩⟩⟩⟩⟩⟩⟩⟩⟩⟩⟩⟩⟩⟩⟩
  obtain ⟨es_FORMS, n_FORMS, KD_FORMS⟩ := c.t.tab 1 rfl
  have L_FORMS : ∀ p ∈ d_FORMS, ∃ d, (p.1, d) ∈ kv_FORMS ∧ ∀ r n H, VR K mg r n H p.2 (d.v K) := List.forall_mem_cons.mpr ⟨⟨_, List.mem_of_getElem? (i := 0) rfl, fun _ _ _ => vr_str.mpr rfl⟩, List.forall_mem_cons.mpr ⟨⟨_, List.mem_of_getElem? (i := 1) rfl, fun _ _ _ => vr_str.mpr rfl⟩, List.forall_mem_cons.mpr ⟨⟨_, List.mem_of_getElem? (i := 2) rfl, fun _ _ _ => vr_str.mpr rfl⟩, List.forall_mem_cons.mpr ⟨⟨_, List.mem_of_getElem? (i := 3) rfl, fun _ _ _ => vr_str.mpr rfl⟩, List.forall_mem_cons.mpr ⟨⟨_, List.mem_of_getElem? (i := 4) rfl, fun _ _ _ => vr_str.mpr rfl⟩, List.forall_mem_cons.mpr ⟨⟨_, List.mem_of_getElem? (i := 5) rfl, fun _ _ _ => vr_str.mpr rfl⟩, List.forall_mem_cons.mpr ⟨⟨_, List.mem_of_getElem? (i := 6) rfl, fun _ _ _ => vr_str.mpr rfl⟩, List.forall_mem_cons.mpr ⟨⟨_, List.mem_of_getElem? (i := 7) rfl, fun _ _ _ => vr_str.mpr rfl⟩, List.forall_mem_cons.mpr ⟨⟨_, List.mem_of_getElem? (i := 8) rfl, fun _ _ _ => vr_str.mpr rfl⟩, List.forall_mem_cons.mpr ⟨⟨_, List.mem_of_getElem? (i := 9) rfl, fun _ _ _ => vr_str.mpr rfl⟩, List.forall_mem_cons.mpr ⟨⟨_, List.mem_of_getElem? (i := 10) rfl, fun _ _ _ => vr_str.mpr rfl⟩, List.forall_mem_cons.mpr ⟨⟨_, List.mem_of_getElem? (i := 11) rfl, fun _ _ _ => vr_str.mpr rfl⟩, List.forall_mem_cons.mpr ⟨⟨_, List.mem_of_getElem? (i := 12) rfl, fun _ _ _ => vr_str.mpr rfl⟩, List.forall_mem_cons.mpr ⟨⟨_, List.mem_of_getElem? (i := 13) rfl, fun _ _ _ => vr_str.mpr rfl⟩, List.forall_mem_cons.mpr ⟨⟨_, List.mem_of_getElem? (i := 14) rfl, fun _ _ _ => vr_str.mpr rfl⟩, List.forall_mem_cons.mpr ⟨⟨_, List.mem_of_getElem? (i := 15) rfl, fun _ _ _ => vr_str.mpr rfl⟩, List.forall_mem_cons.mpr ⟨⟨_, List.mem_of_getElem? (i := 16) rfl, fun _ _ _ => vr_str.mpr rfl⟩, fun p hp => nomatch hp⟩⟩⟩⟩⟩⟩⟩⟩⟩⟩⟩⟩⟩⟩⟩⟩⟩
  have T : TF K w mg := ⟨He.free_ok X G (c.t.d.fact 0 (f := .free "abs") rfl),
    He.free_ok X G (c.t.d.fact 1 (f := .free "all") rfl),
    He.free_ok X G (c.t.d.fact 2 (f := .free "bool") rfl),
    He.free_ok X G (c.t.d.fact 3 (f := .free "dict") rfl),
    He.free_ok X G (c.t.d.fact 4 (f := .free "enumerate") rfl),
    He.free_ok X G (c.t.d.fact 5 (f := .free "int") rfl),
    He.free_ok X G (c.t.d.fact 6 (f := .free "isinstance") rfl),
    He.free_ok X G (c.t.d.fact 7 (f := .free "len") rfl),
    He.free_ok X G (c.t.d.fact 8 (f := .free "list") rfl),
    He.free_ok X G (c.t.d.fact 9 (f := .free "max") rfl),
    He.free_ok X G (c.t.d.fact 10 (f := .free "min") rfl),
    He.free_ok X G (c.t.d.fact 11 (f := .free "range") rfl),
    He.free_ok X G (c.t.d.fact 12 (f := .free "sorted") rfl),
    He.free_ok X G (c.t.d.fact 13 (f := .free "str") rfl),
    He.free_ok X G (c.t.d.fact 14 (f := .free "sum") rfl),
    He.free_ok X G (c.t.d.fact 15 (f := .free "tuple") rfl),
    He.free_ok X G (c.t.d.fact 16 (f := .free "zip") rfl),
    kd_of (He.glo_ok X G (c.t.d.fact 30 (f := .glo "DEEDS") rfl)) KD_DEEDS (c.x 0) (look2 (P := fun wv d => ∀ r n H, VR K mg r n H wv (d.v K)) L_DEEDS),
    kd_of (He.glo_ok X G (c.t.d.fact 31 (f := .glo "FORMS") rfl)) KD_FORMS (c.x 1) (look2 (P := fun wv d => ∀ r n H, VR K mg r n H wv (d.v K)) L_FORMS),
    He.int_ok X G (c.t.d.fact 32 (f := .int "GREATEST" 1000000000) rfl),
    He.int_ok X G (c.t.d.fact 33 (f := .int "MOST_BODIES" 12) rfl),
    He.int_ok X G (c.t.d.fact 34 (f := .int "MOST_BOXES" 6) rfl),
    He.int_ok X G (c.t.d.fact 35 (f := .int "MOST_FIELDS" 4) rfl),
    He.int_ok X G (c.t.d.fact 36 (f := .int "MOST_FRAMES" 40) rfl),
    He.int_ok X G (c.t.d.fact 37 (f := .int "MOST_KINDS" 6) rfl),
    He.int_ok X G (c.t.d.fact 38 (f := .int "MOST_ROWS" 30) rfl),
    He.int_ok X G (c.t.d.fact 39 (f := .int "MOST_UNITS" 2000) rfl),
    ⟨_, _, (He.glo_ok X G (c.t.d.fact 40 (f := .glo "PLAIN_KINDS") rfl)), kt_of (c.x 2), (fr_cons (fun _ _ _ _ _ => vr_str.mpr rfl) (fr_cons (fun _ _ _ _ _ => vr_str.mpr rfl) fr_nil))⟩,
    He.str_ok X G (c.t.d.fact 41 (f := .str "SMALL" "abcdefghijklmnopqrstuvwxyz") rfl),
    ⟨_, _, (He.glo_ok X G (c.t.d.fact 42 (f := .glo "STAYING") rfl)), kt_of (c.x 3), (fr_cons (fun _ _ _ _ _ => vr_str.mpr rfl) (fr_cons (fun _ _ _ _ _ => vr_str.mpr rfl) (fr_cons (fun _ _ _ _ _ => vr_str.mpr rfl) (fr_cons (fun _ _ _ _ _ => vr_str.mpr rfl) fr_nil))))⟩,
    hasFld_of (List.forall_mem_cons.mpr ⟨⟨(He.glo_ok X G (c.t.d.fact 43 (f := .glo "Program") rfl)), He.cls_ok (c.t.d.fact 44 (f := .cls "Program") rfl), He.noat_ok (c.t.d.fact 45 (f := .noat "Program" "all_bodies") rfl)⟩, fun c hc => nomatch hc⟩),
    hasFld_of (List.forall_mem_cons.mpr ⟨⟨(He.glo_ok X G (c.t.d.fact 43 (f := .glo "Program") rfl)), He.cls_ok (c.t.d.fact 44 (f := .cls "Program") rfl), He.noat_ok (c.t.d.fact 46 (f := .noat "Program" "all_kinds") rfl)⟩, fun c hc => nomatch hc⟩),
    hasFld_of (List.forall_mem_cons.mpr ⟨⟨(He.glo_ok X G (c.t.d.fact 47 (f := .glo "Frame") rfl)), He.cls_ok (c.t.d.fact 48 (f := .cls "Frame") rfl), He.noat_ok (c.t.d.fact 49 (f := .noat "Frame" "body") rfl)⟩, fun c hc => nomatch hc⟩),
    hasFld_of (List.forall_mem_cons.mpr ⟨⟨(He.glo_ok X G (c.t.d.fact 47 (f := .glo "Frame") rfl)), He.cls_ok (c.t.d.fact 48 (f := .cls "Frame") rfl), He.noat_ok (c.t.d.fact 50 (f := .noat "Frame" "boxes") rfl)⟩, fun c hc => nomatch hc⟩),
    hasFld_of (List.forall_mem_cons.mpr ⟨⟨(He.glo_ok X G (c.t.d.fact 51 (f := .glo "Plain") rfl)), He.cls_ok (c.t.d.fact 52 (f := .cls "Plain") rfl), He.noat_ok (c.t.d.fact 53 (f := .noat "Plain" "ending") rfl)⟩, fun c hc => nomatch hc⟩),
    hasFld_of (List.forall_mem_cons.mpr ⟨⟨(He.glo_ok X G (c.t.d.fact 55 (f := .glo "World") rfl)), He.cls_ok (c.t.d.fact 56 (f := .cls "World") rfl), He.noat_ok (c.t.d.fact 57 (f := .noat "World" "entries") rfl)⟩, List.forall_mem_cons.mpr ⟨⟨(He.glo_ok X G (c.t.d.fact 43 (f := .glo "Program") rfl)), He.cls_ok (c.t.d.fact 44 (f := .cls "Program") rfl), He.noat_ok (c.t.d.fact 54 (f := .noat "Program" "entries") rfl)⟩, fun c hc => nomatch hc⟩⟩),
    hasFld_of (List.forall_mem_cons.mpr ⟨⟨(He.glo_ok X G (c.t.d.fact 55 (f := .glo "World") rfl)), He.cls_ok (c.t.d.fact 56 (f := .cls "World") rfl), He.noat_ok (c.t.d.fact 58 (f := .noat "World" "field_names") rfl)⟩, fun c hc => nomatch hc⟩),
    hasFld_of (List.forall_mem_cons.mpr ⟨⟨(He.glo_ok X G (c.t.d.fact 51 (f := .glo "Plain") rfl)), He.cls_ok (c.t.d.fact 52 (f := .cls "Plain") rfl), He.noat_ok (c.t.d.fact 59 (f := .noat "Plain" "frames") rfl)⟩, fun c hc => nomatch hc⟩),
    hasFld_of (List.forall_mem_cons.mpr ⟨⟨(He.glo_ok X G (c.t.d.fact 55 (f := .glo "World") rfl)), He.cls_ok (c.t.d.fact 56 (f := .cls "World") rfl), He.noat_ok (c.t.d.fact 60 (f := .noat "World" "heap") rfl)⟩, fun c hc => nomatch hc⟩),
    hasFld_of (List.forall_mem_cons.mpr ⟨⟨(He.glo_ok X G (c.t.d.fact 61 (f := .glo "Limits") rfl)), He.cls_ok (c.t.d.fact 62 (f := .cls "Limits") rfl), He.noat_ok (c.t.d.fact 63 (f := .noat "Limits" "long") rfl)⟩, fun c hc => nomatch hc⟩),
    hasFld_of (List.forall_mem_cons.mpr ⟨⟨(He.glo_ok X G (c.t.d.fact 61 (f := .glo "Limits") rfl)), He.cls_ok (c.t.d.fact 62 (f := .cls "Limits") rfl), He.noat_ok (c.t.d.fact 64 (f := .noat "Limits" "many") rfl)⟩, fun c hc => nomatch hc⟩),
    hasFld_of (List.forall_mem_cons.mpr ⟨⟨(He.glo_ok X G (c.t.d.fact 61 (f := .glo "Limits") rfl)), He.cls_ok (c.t.d.fact 62 (f := .cls "Limits") rfl), He.noat_ok (c.t.d.fact 65 (f := .noat "Limits" "names") rfl)⟩, fun c hc => nomatch hc⟩),
    hasFld_of (List.forall_mem_cons.mpr ⟨⟨(He.glo_ok X G (c.t.d.fact 51 (f := .glo "Plain") rfl)), He.cls_ok (c.t.d.fact 52 (f := .cls "Plain") rfl), He.noat_ok (c.t.d.fact 66 (f := .noat "Plain" "passed") rfl)⟩, fun c hc => nomatch hc⟩),
    hasFld_of (List.forall_mem_cons.mpr ⟨⟨(He.glo_ok X G (c.t.d.fact 55 (f := .glo "World") rfl)), He.cls_ok (c.t.d.fact 56 (f := .cls "World") rfl), He.noat_ok (c.t.d.fact 67 (f := .noat "World" "plan") rfl)⟩, fun c hc => nomatch hc⟩),
    hasFld_of (List.forall_mem_cons.mpr ⟨⟨(He.glo_ok X G (c.t.d.fact 51 (f := .glo "Plain") rfl)), He.cls_ok (c.t.d.fact 52 (f := .cls "Plain") rfl), He.noat_ok (c.t.d.fact 68 (f := .noat "Plain" "profile") rfl)⟩, fun c hc => nomatch hc⟩),
    hasFld_of (List.forall_mem_cons.mpr ⟨⟨(He.glo_ok X G (c.t.d.fact 47 (f := .glo "Frame") rfl)), He.cls_ok (c.t.d.fact 48 (f := .cls "Frame") rfl), He.noat_ok (c.t.d.fact 69 (f := .noat "Frame" "row") rfl)⟩, fun c hc => nomatch hc⟩),
    hasFld_of (List.forall_mem_cons.mpr ⟨⟨(He.glo_ok X G (c.t.d.fact 55 (f := .glo "World") rfl)), He.cls_ok (c.t.d.fact 56 (f := .cls "World") rfl), He.noat_ok (c.t.d.fact 70 (f := .noat "World" "source") rfl)⟩, fun c hc => nomatch hc⟩),
    hasFld_of (List.forall_mem_cons.mpr ⟨⟨(He.glo_ok X G (c.t.d.fact 55 (f := .glo "World") rfl)), He.cls_ok (c.t.d.fact 56 (f := .cls "World") rfl), He.noat_ok (c.t.d.fact 71 (f := .noat "World" "told") rfl)⟩, fun c hc => nomatch hc⟩),
    hasFld_of (List.forall_mem_cons.mpr ⟨⟨(He.glo_ok X G (c.t.d.fact 61 (f := .glo "Limits") rfl)), He.cls_ok (c.t.d.fact 62 (f := .cls "Limits") rfl), He.noat_ok (c.t.d.fact 72 (f := .noat "Limits" "wide") rfl)⟩, fun c hc => nomatch hc⟩),
    hasFld_of (List.forall_mem_cons.mpr ⟨⟨(He.glo_ok X G (c.t.d.fact 51 (f := .glo "Plain") rfl)), He.cls_ok (c.t.d.fact 52 (f := .cls "Plain") rfl), He.noat_ok (c.t.d.fact 73 (f := .noat "Plain" "world") rfl)⟩, fun c hc => nomatch hc⟩)⟩
  refine ⟨fd_law, fun s v => FunD.bindsA (ps := ["_law_script"]) D_law (fun _ _ _ _ _ _ us hl => match us, hl with | [_], _ => rfl) s [v] rfl, fun base _ _ => ?_⟩
  have C_is_whole : Cl P w K mg base 1 (He.fAd K dd_is_whole.at_) 3 F_is_whole := ⟨fd_is_whole, ["thing", "least", "most"], ok_is_whole T  D_is_whole, D_is_whole.kp, B_is_whole⟩
  have C_is_number : Cl P w K mg base 2 (He.fAd K dd_is_number.at_) 1 F_is_number := ⟨fd_is_number, ["thing"], ok_is_number T ⟨_, (He.glo_ok X G (c.t.d.fact 74 (f := .glo "is_whole") rfl)), C_is_whole⟩ D_is_number, D_is_number.kp, B_is_number⟩
  have C_is_list : Cl P w K mg base 1 (He.fAd K dd_is_list.at_) 1 F_is_list := ⟨fd_is_list, ["thing"], ok_is_list T  D_is_list, D_is_list.kp, B_is_list⟩
  have C_is_name : Cl P w K mg base 1 (He.fAd K dd_is_name.at_) 1 F_is_name := ⟨fd_is_name, ["thing"], ok_is_name T  D_is_name, D_is_name.kp, B_is_name⟩
  have C_Frame_init : Cl P w K mg base 1 (He.fAd K dd_Frame_init.at_) 4 F_Frame_init := ⟨fd_Frame_init, ["self", "body", "row", "boxes"], ok_Frame_init T  D_Frame_init, D_Frame_init.kp, B_Frame_init⟩
  have C_World_rows_of : Cl P w K mg base 1 (He.fAd K dd_World_rows_of.at_) 2 F_World_rows_of := ⟨fd_World_rows_of, ["self", "body"], ok_World_rows_of T  D_World_rows_of, D_World_rows_of.kp, B_World_rows_of⟩
  have C_World_kind_of : Cl P w K mg base 1 (He.fAd K dd_World_kind_of.at_) 2 F_World_kind_of := ⟨fd_World_kind_of, ["self", "value"], ok_World_kind_of T  D_World_kind_of, D_World_kind_of.kp, B_World_kind_of⟩
  have C_World_made : Cl P w K mg base 1 (He.fAd K dd_World_made.at_) 3 F_World_made := ⟨fd_World_made, ["self", "kind", "values"], ok_World_made T  D_World_made, D_World_made.kp, B_World_made⟩
  have C_World_made_empty : Cl P w K mg base 2 (He.fAd K dd_World_made_empty.at_) 2 F_World_made_empty := ⟨fd_World_made_empty, ["self", "kind"], ok_World_made_empty T ⟨_, _, (He.glo_ok X G (c.t.d.fact 55 (f := .glo "World") rfl)), He.cls_ok (c.t.d.fact 56 (f := .cls "World") rfl), He.meth_ok (c.t.d.fact 75 (f := .meth "World" "made") rfl), C_World_made⟩ D_World_made_empty, D_World_made_empty.kp, B_World_made_empty⟩
  have C_World_place_in : Cl P w K mg base 0 (He.fAd K dd_World_place_in.at_) 3 F_World_place_in := Cl.never D_World_place_in.kp B_World_place_in
  have C_World_as_event : Cl P w K mg base 2 (He.fAd K dd_World_as_event.at_) 2 F_World_as_event := ⟨fd_World_as_event, ["self", "value"], ok_World_as_event T ⟨_, _, (He.glo_ok X G (c.t.d.fact 55 (f := .glo "World") rfl)), He.cls_ok (c.t.d.fact 56 (f := .cls "World") rfl), He.meth_ok (c.t.d.fact 76 (f := .meth "World" "kind_of") rfl), C_World_kind_of⟩ D_World_as_event, D_World_as_event.kp, B_World_as_event⟩
  have C_World_new_frame : Cl P w K mg base 3 (He.fAd K dd_World_new_frame.at_) 5 F_World_new_frame := ⟨fd_World_new_frame, ["self", "receiver", "name", "many", "frames"], ok_World_new_frame T ⟨_, _, (He.glo_ok X G (c.t.d.fact 55 (f := .glo "World") rfl)), He.cls_ok (c.t.d.fact 56 (f := .cls "World") rfl), He.meth_ok (c.t.d.fact 76 (f := .meth "World" "kind_of") rfl), C_World_kind_of⟩ ⟨_, _, (He.glo_ok X G (c.t.d.fact 47 (f := .glo "Frame") rfl)), He.mkr_ok (c.t.d.fact 77 (f := .mkr "Frame") rfl), C_Frame_init⟩ D_World_new_frame, D_World_new_frame.kp, B_World_new_frame⟩
  have C_is_true : Cl P w K mg base 1 (He.fAd K dd_is_true.at_) 1 F_is_true := ⟨fd_is_true, ["value"], ok_is_true T  D_is_true, D_is_true.kp, B_is_true⟩
  have C_reckoned : Cl P w K mg base 1 (He.fAd K dd_reckoned.at_) 3 F_reckoned := ⟨fd_reckoned, ["word", "one", "other"], ok_reckoned T  D_reckoned, D_reckoned.kp, B_reckoned⟩
  have C_are_unlike : Cl P w K mg base 1 (He.fAd K dd_are_unlike.at_) 1 F_are_unlike := ⟨fd_are_unlike, ["some"], ok_are_unlike T  D_are_unlike, D_are_unlike.kp, B_are_unlike⟩
  have C_are_names : Cl P w K mg base 2 (He.fAd K dd_are_names.at_) 2 F_are_names := ⟨fd_are_names, ["some", "most"], ok_are_names T ⟨_, (He.glo_ok X G (c.t.d.fact 78 (f := .glo "is_list") rfl)), C_is_list⟩ ⟨_, (He.glo_ok X G (c.t.d.fact 79 (f := .glo "is_name") rfl)), C_is_name⟩ ⟨_, (He.glo_ok X G (c.t.d.fact 80 (f := .glo "are_unlike") rfl)), C_are_unlike⟩ D_are_names, D_are_names.kp, B_are_names⟩
  have C_is_kind : Cl P w K mg base 3 (He.fAd K dd_is_kind.at_) 1 F_is_kind := ⟨fd_is_kind, ["thing"], ok_is_kind T ⟨_, (He.glo_ok X G (c.t.d.fact 78 (f := .glo "is_list") rfl)), C_is_list⟩ ⟨_, (He.glo_ok X G (c.t.d.fact 79 (f := .glo "is_name") rfl)), C_is_name⟩ ⟨_, (He.glo_ok X G (c.t.d.fact 81 (f := .glo "are_names") rfl)), C_are_names⟩ D_is_kind, D_is_kind.kp, B_is_kind⟩
  have C_is_body : Cl P w K mg base 2 (He.fAd K dd_is_body.at_) 1 F_is_body := ⟨fd_is_body, ["thing"], ok_is_body T ⟨_, (He.glo_ok X G (c.t.d.fact 78 (f := .glo "is_list") rfl)), C_is_list⟩ ⟨_, (He.glo_ok X G (c.t.d.fact 74 (f := .glo "is_whole") rfl)), C_is_whole⟩ D_is_body, D_is_body.kp, B_is_body⟩
  have K_is_entry : ClK P w K mg base 2 (He.fAd K dd_is_entry.at_) 2 ["names", "many"] 4 F_is_entry := ⟨fd_is_entry, ["key", "body", "names", "many"], ok_is_entry T ⟨_, (He.glo_ok X G (c.t.d.fact 79 (f := .glo "is_name") rfl)), C_is_name⟩ ⟨_, (He.glo_ok X G (c.t.d.fact 74 (f := .glo "is_whole") rfl)), C_is_whole⟩ D_is_entry, D_is_entry.kp, B_is_entry, rfl⟩
  have K_Limits_init : ClK P w K mg base 1 (He.fAd K dd_Limits_init.at_) 2 ["many", "boxes", "rows"] 5 F_Limits_init := ⟨fd_Limits_init, ["self", "names", "many", "boxes", "rows"], ok_Limits_init T  D_Limits_init, D_Limits_init.kp, B_Limits_init, rfl⟩
  have C_Limits_fits_0 : Cl P w K mg base 2 (He.fAd K dd_Limits_fits.at_) 3 (F_Limits_fits 0) := Cl.never D_Limits_fits.kp B_Limits_fits
  have C_Limits_fits_1 : Cl P w K mg base 3 (He.fAd K dd_Limits_fits.at_) 3 (F_Limits_fits 1) := ⟨fd_Limits_fits, ["self", "sign", "thing"], ok_Limits_fits T (j := 2) (by decide) (F_Limits_fits 0) ⟨_, (He.glo_ok X G (c.t.d.fact 74 (f := .glo "is_whole") rfl)), C_is_whole⟩ ⟨_, (He.glo_ok X G (c.t.d.fact 82 (f := .glo "is_number") rfl)), C_is_number⟩ ⟨_, (He.glo_ok X G (c.t.d.fact 79 (f := .glo "is_name") rfl)), C_is_name⟩ ⟨_, _, (He.glo_ok X G (c.t.d.fact 61 (f := .glo "Limits") rfl)), He.cls_ok (c.t.d.fact 62 (f := .cls "Limits") rfl), He.meth_ok (c.t.d.fact 83 (f := .meth "Limits" "fits") rfl), C_Limits_fits_0⟩ D_Limits_fits, D_Limits_fits.kp, B_Limits_fits⟩
  have C_Limits_fits_2 : Cl P w K mg base 4 (He.fAd K dd_Limits_fits.at_) 3 (F_Limits_fits 2) := ⟨fd_Limits_fits, ["self", "sign", "thing"], ok_Limits_fits T (j := 3) (by decide) (F_Limits_fits 1) ⟨_, (He.glo_ok X G (c.t.d.fact 74 (f := .glo "is_whole") rfl)), C_is_whole⟩ ⟨_, (He.glo_ok X G (c.t.d.fact 82 (f := .glo "is_number") rfl)), C_is_number⟩ ⟨_, (He.glo_ok X G (c.t.d.fact 79 (f := .glo "is_name") rfl)), C_is_name⟩ ⟨_, _, (He.glo_ok X G (c.t.d.fact 61 (f := .glo "Limits") rfl)), He.cls_ok (c.t.d.fact 62 (f := .cls "Limits") rfl), He.meth_ok (c.t.d.fact 83 (f := .meth "Limits" "fits") rfl), C_Limits_fits_1⟩ D_Limits_fits, D_Limits_fits.kp, B_Limits_fits⟩
  have C_Limits_fits := C_Limits_fits_2
  have C_Limits_lets : Cl P w K mg base 5 (He.fAd K dd_Limits_lets.at_) 2 F_Limits_lets := ⟨fd_Limits_lets, ["self", "thing"], ok_Limits_lets T ⟨_, _, (He.glo_ok X G (c.t.d.fact 61 (f := .glo "Limits") rfl)), He.cls_ok (c.t.d.fact 62 (f := .cls "Limits") rfl), He.meth_ok (c.t.d.fact 83 (f := .meth "Limits" "fits") rfl), C_Limits_fits⟩ D_Limits_lets, D_Limits_lets.kp, B_Limits_lets⟩
  have C_limits_of : Cl P w K mg base 3 (He.fAd K dd_limits_of.at_) 3 F_limits_of := ⟨fd_limits_of, ["kinds", "bodies", "body"], ok_limits_of T ⟨_, _, (He.glo_ok X G (c.t.d.fact 61 (f := .glo "Limits") rfl)), He.mkr_ok (c.t.d.fact 84 (f := .mkr "Limits") rfl), K_Limits_init⟩ D_limits_of, D_limits_of.kp, B_limits_of⟩
  have C_are_parts : Cl P w K mg base 4 (He.fAd K dd_are_parts.at_) 3 F_are_parts := ⟨fd_are_parts, ["kinds", "bodies", "table"], ok_are_parts T ⟨_, (He.glo_ok X G (c.t.d.fact 78 (f := .glo "is_list") rfl)), C_is_list⟩ ⟨_, (He.glo_ok X G (c.t.d.fact 85 (f := .glo "is_kind") rfl)), C_is_kind⟩ ⟨_, (He.glo_ok X G (c.t.d.fact 80 (f := .glo "are_unlike") rfl)), C_are_unlike⟩ ⟨_, (He.glo_ok X G (c.t.d.fact 86 (f := .glo "is_body") rfl)), C_is_body⟩ ⟨_, (He.glo_ok X G (c.t.d.fact 87 (f := .glo "is_entry") rfl)), K_is_entry⟩ D_are_parts, D_are_parts.kp, B_are_parts⟩
  have C_Program_init : Cl P w K mg base 6 (He.fAd K dd_Program_init.at_) 4 F_Program_init := ⟨fd_Program_init, ["self", "kinds", "bodies", "table"], ok_Program_init T ⟨_, (He.glo_ok X G (c.t.d.fact 88 (f := .glo "are_parts") rfl)), C_are_parts⟩ ⟨_, (He.glo_ok X G (c.t.d.fact 89 (f := .glo "limits_of") rfl)), C_limits_of⟩ ⟨_, _, (He.glo_ok X G (c.t.d.fact 61 (f := .glo "Limits") rfl)), He.cls_ok (c.t.d.fact 62 (f := .cls "Limits") rfl), He.meth_ok (c.t.d.fact 90 (f := .meth "Limits" "lets") rfl), C_Limits_lets⟩ D_Program_init, D_Program_init.kp, B_Program_init⟩
  have C_Program_kinds : Cl P w K mg base 1 (He.fAd K dd_Program_kinds.at_) 1 F_Program_kinds := ⟨fd_Program_kinds, ["self"], ok_Program_kinds T  D_Program_kinds, D_Program_kinds.kp, B_Program_kinds⟩
  have C_Program_bodies : Cl P w K mg base 1 (He.fAd K dd_Program_bodies.at_) 1 F_Program_bodies := ⟨fd_Program_bodies, ["self"], ok_Program_bodies T  D_Program_bodies, D_Program_bodies.kp, B_Program_bodies⟩
  have C_Program_table : Cl P w K mg base 1 (He.fAd K dd_Program_table.at_) 1 F_Program_table := ⟨fd_Program_table, ["self"], ok_Program_table T  D_Program_table, D_Program_table.kp, B_Program_table⟩
  have C_World_init : Cl P w K mg base 2 (He.fAd K dd_World_init.at_) 2 F_World_init := ⟨fd_World_init, ["self", "program"], ok_World_init T ⟨_, _, (He.glo_ok X G (c.t.d.fact 43 (f := .glo "Program") rfl)), He.cls_ok (c.t.d.fact 44 (f := .cls "Program") rfl), He.meth_ok (c.t.d.fact 91 (f := .meth "Program" "kinds") rfl), C_Program_kinds⟩ ⟨_, _, (He.glo_ok X G (c.t.d.fact 43 (f := .glo "Program") rfl)), He.cls_ok (c.t.d.fact 44 (f := .cls "Program") rfl), He.meth_ok (c.t.d.fact 92 (f := .meth "Program" "bodies") rfl), C_Program_bodies⟩ ⟨_, _, (He.glo_ok X G (c.t.d.fact 43 (f := .glo "Program") rfl)), He.cls_ok (c.t.d.fact 44 (f := .cls "Program") rfl), He.meth_ok (c.t.d.fact 93 (f := .meth "Program" "table") rfl), C_Program_table⟩ D_World_init, D_World_init.kp, B_World_init⟩
  have C_Rows_init : Cl P w K mg base 4 (He.fAd K dd_Rows_init.at_) 2 F_Rows_init := ⟨fd_Rows_init, ["self", "program"], ok_Rows_init T ⟨_, _, (He.glo_ok X G (c.t.d.fact 55 (f := .glo "World") rfl)), He.mkr_ok (c.t.d.fact 94 (f := .mkr "World") rfl), C_World_init⟩ D_Rows_init, D_Rows_init.kp, B_Rows_init⟩
  have C_Rows_depth : Cl P w K mg base 1 (He.fAd K dd_Rows_depth.at_) 1 F_Rows_depth := ⟨fd_Rows_depth, ["self"], ok_Rows_depth T  D_Rows_depth, D_Rows_depth.kp, B_Rows_depth⟩
  have C_Rows_called : Cl P w K mg base 1 (He.fAd K dd_Rows_called.at_) 2 F_Rows_called := ⟨fd_Rows_called, ["self", "frame"], ok_Rows_called T  D_Rows_called, D_Rows_called.kp, B_Rows_called⟩
  have C_Rows_got : Cl P w K mg base 2 (He.fAd K dd_Rows_got.at_) 3 F_Rows_got := ⟨fd_Rows_got, ["self", "caller", "value"], ok_Rows_got T ⟨_, _, (He.glo_ok X G (c.t.d.fact 55 (f := .glo "World") rfl)), He.cls_ok (c.t.d.fact 56 (f := .cls "World") rfl), He.meth_ok (c.t.d.fact 95 (f := .meth "World" "rows_of") rfl), C_World_rows_of⟩ D_Rows_got, D_Rows_got.kp, B_Rows_got⟩
  have C_Rows_given : Cl P w K mg base 3 (He.fAd K dd_Rows_given.at_) 2 F_Rows_given := ⟨fd_Rows_given, ["self", "value"], ok_Rows_given T ⟨_, _, (He.glo_ok X G (c.t.d.fact 55 (f := .glo "World") rfl)), He.cls_ok (c.t.d.fact 56 (f := .cls "World") rfl), He.meth_ok (c.t.d.fact 96 (f := .meth "World" "as_event") rfl), C_World_as_event⟩ ⟨_, _, (He.glo_ok X G (c.t.d.fact 51 (f := .glo "Plain") rfl)), He.cls_ok (c.t.d.fact 52 (f := .cls "Plain") rfl), He.meth_ok (c.t.d.fact 97 (f := .meth "Plain" "got") rfl), C_Rows_got⟩ D_Rows_given, D_Rows_given.kp, B_Rows_given⟩
  have C_Rows_told_anew : Cl P w K mg base 1 (He.fAd K dd_Rows_told_anew.at_) 3 F_Rows_told_anew := ⟨fd_Rows_told_anew, ["self", "key", "body"], ok_Rows_told_anew T  D_Rows_told_anew, D_Rows_told_anew.kp, B_Rows_told_anew⟩
  have C_Rows_noted : Cl P w K mg base 1 (He.fAd K dd_Rows_noted.at_) 3 F_Rows_noted := ⟨fd_Rows_noted, ["self", "place", "what"], ok_Rows_noted T  D_Rows_noted, D_Rows_noted.kp, B_Rows_noted⟩
  have C_do_number : Cl P w K mg base 1 (He.fAd K dd_do_number.at_) 3 F_do_number := ⟨fd_do_number, ["machine", "frame", "row"], ok_do_number T  D_do_number, D_do_number.kp, B_do_number⟩
  have C_do_nothing : Cl P w K mg base 1 (He.fAd K dd_do_nothing.at_) 3 F_do_nothing := ⟨fd_do_nothing, ["machine", "frame", "row"], ok_do_nothing T  D_do_nothing, D_do_nothing.kp, B_do_nothing⟩
  have C_do_copy : Cl P w K mg base 1 (He.fAd K dd_do_copy.at_) 3 F_do_copy := ⟨fd_do_copy, ["machine", "frame", "row"], ok_do_copy T  D_do_copy, D_do_copy.kp, B_do_copy⟩
  have C_do_reckoned : Cl P w K mg base 2 (He.fAd K dd_do_reckoned.at_) 3 F_do_reckoned := ⟨fd_do_reckoned, ["machine", "frame", "row"], ok_do_reckoned T ⟨_, (He.glo_ok X G (c.t.d.fact 98 (f := .glo "reckoned") rfl)), C_reckoned⟩ D_do_reckoned, D_do_reckoned.kp, B_do_reckoned⟩
  have C_do_make : Cl P w K mg base 3 (He.fAd K dd_do_make.at_) 3 F_do_make := ⟨fd_do_make, ["machine", "frame", "row"], ok_do_make T ⟨_, _, (He.glo_ok X G (c.t.d.fact 55 (f := .glo "World") rfl)), He.cls_ok (c.t.d.fact 56 (f := .cls "World") rfl), He.meth_ok (c.t.d.fact 99 (f := .meth "World" "made_empty") rfl), C_World_made_empty⟩ D_do_make, D_do_make.kp, B_do_make⟩
  have C_do_get : Cl P w K mg base 1 (He.fAd K dd_do_get.at_) 3 F_do_get := ⟨fd_do_get, ["machine", "frame", "row"], ok_do_get T ⟨_, _, (He.glo_ok X G (c.t.d.fact 55 (f := .glo "World") rfl)), He.cls_ok (c.t.d.fact 56 (f := .cls "World") rfl), He.meth_ok (c.t.d.fact 100 (f := .meth "World" "place_in") rfl), C_World_place_in⟩ D_do_get, D_do_get.kp, B_do_get⟩
  have C_do_put : Cl P w K mg base 1 (He.fAd K dd_do_put.at_) 3 F_do_put := ⟨fd_do_put, ["machine", "frame", "row"], ok_do_put T ⟨_, _, (He.glo_ok X G (c.t.d.fact 55 (f := .glo "World") rfl)), He.cls_ok (c.t.d.fact 56 (f := .cls "World") rfl), He.meth_ok (c.t.d.fact 100 (f := .meth "World" "place_in") rfl), C_World_place_in⟩ D_do_put, D_do_put.kp, B_do_put⟩
  have C_do_call : Cl P w K mg base 4 (He.fAd K dd_do_call.at_) 3 F_do_call := ⟨fd_do_call, ["machine", "frame", "row"], ok_do_call T ⟨_, _, (He.glo_ok X G (c.t.d.fact 55 (f := .glo "World") rfl)), He.cls_ok (c.t.d.fact 56 (f := .cls "World") rfl), He.meth_ok (c.t.d.fact 101 (f := .meth "World" "new_frame") rfl), C_World_new_frame⟩ ⟨_, _, (He.glo_ok X G (c.t.d.fact 51 (f := .glo "Plain") rfl)), He.cls_ok (c.t.d.fact 52 (f := .cls "Plain") rfl), He.meth_ok (c.t.d.fact 102 (f := .meth "Plain" "depth") rfl), C_Rows_depth⟩ ⟨_, _, (He.glo_ok X G (c.t.d.fact 51 (f := .glo "Plain") rfl)), He.cls_ok (c.t.d.fact 52 (f := .cls "Plain") rfl), He.meth_ok (c.t.d.fact 103 (f := .meth "Plain" "called") rfl), C_Rows_called⟩ D_do_call, D_do_call.kp, B_do_call⟩
  have C_do_give : Cl P w K mg base 4 (He.fAd K dd_do_give.at_) 3 F_do_give := ⟨fd_do_give, ["machine", "frame", "row"], ok_do_give T ⟨_, _, (He.glo_ok X G (c.t.d.fact 51 (f := .glo "Plain") rfl)), He.cls_ok (c.t.d.fact 52 (f := .cls "Plain") rfl), He.meth_ok (c.t.d.fact 104 (f := .meth "Plain" "given") rfl), C_Rows_given⟩ D_do_give, D_do_give.kp, B_do_give⟩
  have C_do_go : Cl P w K mg base 1 (He.fAd K dd_do_go.at_) 3 F_do_go := ⟨fd_do_go, ["machine", "frame", "row"], ok_do_go T  D_do_go, D_do_go.kp, B_do_go⟩
  have C_do_if : Cl P w K mg base 2 (He.fAd K dd_do_if.at_) 3 F_do_if := ⟨fd_do_if, ["machine", "frame", "row"], ok_do_if T ⟨_, (He.glo_ok X G (c.t.d.fact 105 (f := .glo "is_true") rfl)), C_is_true⟩ D_do_if, D_do_if.kp, B_do_if⟩
  have C_do_tell : Cl P w K mg base 3 (He.fAd K dd_do_tell.at_) 3 F_do_tell := ⟨fd_do_tell, ["machine", "frame", "row"], ok_do_tell T ⟨_, _, (He.glo_ok X G (c.t.d.fact 55 (f := .glo "World") rfl)), He.cls_ok (c.t.d.fact 56 (f := .cls "World") rfl), He.meth_ok (c.t.d.fact 96 (f := .meth "World" "as_event") rfl), C_World_as_event⟩ D_do_tell, D_do_tell.kp, B_do_tell⟩
  have C_do_anew : Cl P w K mg base 2 (He.fAd K dd_do_anew.at_) 3 F_do_anew := ⟨fd_do_anew, ["machine", "frame", "row"], ok_do_anew T ⟨_, _, (He.glo_ok X G (c.t.d.fact 51 (f := .glo "Plain") rfl)), He.cls_ok (c.t.d.fact 52 (f := .cls "Plain") rfl), He.meth_ok (c.t.d.fact 106 (f := .meth "Plain" "told_anew") rfl), C_Rows_told_anew⟩ D_do_anew, D_do_anew.kp, B_do_anew⟩
  have C_seen_of : Cl P w K mg base 2 (He.fAd K dd_seen_of.at_) 3 F_seen_of := ⟨fd_seen_of, ["world", "frame", "row"], ok_seen_of T ⟨_, _, (He.glo_ok X G (c.t.d.fact 55 (f := .glo "World") rfl)), He.cls_ok (c.t.d.fact 56 (f := .cls "World") rfl), He.meth_ok (c.t.d.fact 76 (f := .meth "World" "kind_of") rfl), C_World_kind_of⟩ ⟨_, (He.glo_ok X G (c.t.d.fact 105 (f := .glo "is_true") rfl)), C_is_true⟩ D_seen_of, D_seen_of.kp, B_seen_of⟩
  have C_Rows_do_row : Cl P w K mg base 5 (He.fAd K dd_Rows_do_row.at_) 1 F_Rows_do_row := ⟨fd_Rows_do_row, ["self"], ok_Rows_do_row T ⟨_, _, (He.glo_ok X G (c.t.d.fact 55 (f := .glo "World") rfl)), He.cls_ok (c.t.d.fact 56 (f := .cls "World") rfl), He.meth_ok (c.t.d.fact 95 (f := .meth "World" "rows_of") rfl), C_World_rows_of⟩ ⟨_, _, (He.glo_ok X G (c.t.d.fact 51 (f := .glo "Plain") rfl)), He.cls_ok (c.t.d.fact 52 (f := .cls "Plain") rfl), He.meth_ok (c.t.d.fact 104 (f := .meth "Plain" "given") rfl), C_Rows_given⟩ ⟨_, (He.glo_ok X G (c.t.d.fact 107 (f := .glo "seen_of") rfl)), C_seen_of⟩ (List.forall_mem_cons.mpr ⟨⟨_, (He.glo_ok X G (c.t.d.fact 29 (f := .glo "do_number") rfl)), C_do_number.mono (by decide)⟩, List.forall_mem_cons.mpr ⟨⟨_, (He.glo_ok X G (c.t.d.fact 28 (f := .glo "do_nothing") rfl)), C_do_nothing.mono (by decide)⟩, List.forall_mem_cons.mpr ⟨⟨_, (He.glo_ok X G (c.t.d.fact 27 (f := .glo "do_copy") rfl)), C_do_copy.mono (by decide)⟩, List.forall_mem_cons.mpr ⟨⟨_, (He.glo_ok X G (c.t.d.fact 26 (f := .glo "do_reckoned") rfl)), C_do_reckoned.mono (by decide)⟩, List.forall_mem_cons.mpr ⟨⟨_, (He.glo_ok X G (c.t.d.fact 25 (f := .glo "do_make") rfl)), C_do_make.mono (by decide)⟩, List.forall_mem_cons.mpr ⟨⟨_, (He.glo_ok X G (c.t.d.fact 24 (f := .glo "do_get") rfl)), C_do_get.mono (by decide)⟩, List.forall_mem_cons.mpr ⟨⟨_, (He.glo_ok X G (c.t.d.fact 23 (f := .glo "do_put") rfl)), C_do_put.mono (by decide)⟩, List.forall_mem_cons.mpr ⟨⟨_, (He.glo_ok X G (c.t.d.fact 22 (f := .glo "do_call") rfl)), C_do_call.mono (by decide)⟩, List.forall_mem_cons.mpr ⟨⟨_, (He.glo_ok X G (c.t.d.fact 21 (f := .glo "do_give") rfl)), C_do_give.mono (by decide)⟩, List.forall_mem_cons.mpr ⟨⟨_, (He.glo_ok X G (c.t.d.fact 20 (f := .glo "do_go") rfl)), C_do_go.mono (by decide)⟩, List.forall_mem_cons.mpr ⟨⟨_, (He.glo_ok X G (c.t.d.fact 19 (f := .glo "do_if") rfl)), C_do_if.mono (by decide)⟩, List.forall_mem_cons.mpr ⟨⟨_, (He.glo_ok X G (c.t.d.fact 18 (f := .glo "do_tell") rfl)), C_do_tell.mono (by decide)⟩, List.forall_mem_cons.mpr ⟨⟨_, (He.glo_ok X G (c.t.d.fact 17 (f := .glo "do_anew") rfl)), C_do_anew.mono (by decide)⟩, fun p hp => nomatch hp⟩⟩⟩⟩⟩⟩⟩⟩⟩⟩⟩⟩⟩) ⟨_, _, (He.glo_ok X G (c.t.d.fact 51 (f := .glo "Plain") rfl)), He.cls_ok (c.t.d.fact 52 (f := .cls "Plain") rfl), He.meth_ok (c.t.d.fact 108 (f := .meth "Plain" "noted") rfl), C_Rows_noted⟩ D_Rows_do_row, D_Rows_do_row.kp, B_Rows_do_row⟩
  have C_Rows_done : Cl P w K mg base 1 (He.fAd K dd_Rows_done.at_) 1 F_Rows_done := ⟨fd_Rows_done, ["self"], ok_Rows_done T  D_Rows_done, D_Rows_done.kp, B_Rows_done⟩
  have C_Rows_events : Cl P w K mg base 1 (He.fAd K dd_Rows_events.at_) 1 F_Rows_events := ⟨fd_Rows_events, ["self"], ok_Rows_events T  D_Rows_events, D_Rows_events.kp, B_Rows_events⟩
  have C_Rows_end : Cl P w K mg base 1 (He.fAd K dd_Rows_end.at_) 1 F_Rows_end := ⟨fd_Rows_end, ["self"], ok_Rows_end T  D_Rows_end, D_Rows_end.kp, B_Rows_end⟩
  have C_Rows_table : Cl P w K mg base 1 (He.fAd K dd_Rows_table.at_) 1 F_Rows_table := ⟨fd_Rows_table, ["self"], ok_Rows_table T  D_Rows_table, D_Rows_table.kp, B_Rows_table⟩
  have C_started : Cl P w K mg base 3 (He.fAd K dd_started.at_) 3 F_started := ⟨fd_started, ["machine", "body", "numbers"], ok_started T ⟨_, (He.glo_ok X G (c.t.d.fact 74 (f := .glo "is_whole") rfl)), C_is_whole⟩ ⟨_, (He.glo_ok X G (c.t.d.fact 78 (f := .glo "is_list") rfl)), C_is_list⟩ ⟨_, (He.glo_ok X G (c.t.d.fact 82 (f := .glo "is_number") rfl)), C_is_number⟩ ⟨_, _, (He.glo_ok X G (c.t.d.fact 47 (f := .glo "Frame") rfl)), He.mkr_ok (c.t.d.fact 77 (f := .mkr "Frame") rfl), C_Frame_init⟩ D_started, D_started.kp, B_started⟩
  have C_need_units : Cl P w K mg base 2 (He.fAd K dd_need_units.at_) 1 F_need_units := ⟨fd_need_units, ["units"], ok_need_units T ⟨_, (He.glo_ok X G (c.t.d.fact 74 (f := .glo "is_whole") rfl)), C_is_whole⟩ D_need_units, D_need_units.kp, B_need_units⟩
  have E_Plain_init : ClD P w K mg base 5 (He.fAd K dd_Plain_init.at_) 4 [.wt []] F_Plain_init := ⟨fd_Plain_init, ["self", "program", "body", "numbers"], _, ds_Plain_init, ok_Plain_init T (clsFn_of (He.glo_ok X G (c.t.d.fact 109 (f := .glo "Rows") rfl)) (c.x 4) C_Rows_init) ⟨_, (He.glo_ok X G (c.t.d.fact 110 (f := .glo "started") rfl)), C_started⟩ D_Plain_init, D_Plain_init.kp, B_Plain_init, V_Plain_init, fun _ _ _ => (VRs.cons (vr_wt.mpr ⟨_, _, rfl, etup_of (c.x 5), VRs.nil⟩) VRs.nil)⟩
  have K_Plain_step : ClK P w K mg base 6 (He.fAd K dd_Plain_step.at_) 1 ["units"] 2 F_Plain_step := ⟨fd_Plain_step, ["self", "units"], ok_Plain_step T ⟨_, (He.glo_ok X G (c.t.d.fact 111 (f := .glo "need_units") rfl)), C_need_units⟩ ⟨_, _, (He.glo_ok X G (c.t.d.fact 51 (f := .glo "Plain") rfl)), He.cls_ok (c.t.d.fact 52 (f := .cls "Plain") rfl), He.meth_ok (c.t.d.fact 112 (f := .meth "Plain" "do_row") rfl), C_Rows_do_row⟩ D_Plain_step, D_Plain_step.kp, B_Plain_step, rfl⟩
  have C_law_begin : Cl P w K mg base 1 (He.fAd K dd_law_begin.at_) 1 F_law_begin := ⟨fd_law_begin, ["_law_script"], ok_law_begin T  D_law_begin, D_law_begin.kp, B_law_begin⟩
  have C_law_more : Cl P w K mg base 1 (He.fAd K dd_law_more.at_) 1 F_law_more := ⟨fd_law_more, ["_law_state"], ok_law_more T  D_law_more, D_law_more.kp, B_law_more⟩
  have C_law_next : Cl P w K mg base 2 (He.fAd K dd_law_next.at_) 2 F_law_next := ⟨fd_law_next, ["_law_state", "_law_most"], ok_law_next T ⟨_, (He.glo_ok X G (c.t.d.fact 113 (f := .glo "_law_more") rfl)), C_law_more⟩ D_law_next, D_law_next.kp, B_law_next⟩
  have C_law_pick : Cl P w K mg base 3 (He.fAd K dd_law_pick.at_) 2 F_law_pick := ⟨fd_law_pick, ["_law_state", "_law_some"], ok_law_pick T ⟨_, (He.glo_ok X G (c.t.d.fact 114 (f := .glo "_law_next") rfl)), C_law_next⟩ D_law_pick, D_law_pick.kp, B_law_pick⟩
  have C_law_alike_0 : Cl P w K mg base 0 (He.fAd K dd_law_alike.at_) 2 (F_law_alike 0) := Cl.never D_law_alike.kp B_law_alike
  have C_law_alike_1 : Cl P w K mg base 1 (He.fAd K dd_law_alike.at_) 2 (F_law_alike 1) := ⟨fd_law_alike, ["_law_found", "_law_due"], ok_law_alike T (j := 0) (by decide) (F_law_alike 0) ⟨_, (He.glo_ok X G (c.t.d.fact 115 (f := .glo "_law_alike") rfl)), C_law_alike_0⟩ D_law_alike, D_law_alike.kp, B_law_alike⟩
  have C_law_alike_2 : Cl P w K mg base 2 (He.fAd K dd_law_alike.at_) 2 (F_law_alike 2) := ⟨fd_law_alike, ["_law_found", "_law_due"], ok_law_alike T (j := 1) (by decide) (F_law_alike 1) ⟨_, (He.glo_ok X G (c.t.d.fact 115 (f := .glo "_law_alike") rfl)), C_law_alike_1⟩ D_law_alike, D_law_alike.kp, B_law_alike⟩
  have C_law_alike_3 : Cl P w K mg base 3 (He.fAd K dd_law_alike.at_) 2 (F_law_alike 3) := ⟨fd_law_alike, ["_law_found", "_law_due"], ok_law_alike T (j := 2) (by decide) (F_law_alike 2) ⟨_, (He.glo_ok X G (c.t.d.fact 115 (f := .glo "_law_alike") rfl)), C_law_alike_2⟩ D_law_alike, D_law_alike.kp, B_law_alike⟩
  have C_law_alike_4 : Cl P w K mg base 4 (He.fAd K dd_law_alike.at_) 2 (F_law_alike 4) := ⟨fd_law_alike, ["_law_found", "_law_due"], ok_law_alike T (j := 3) (by decide) (F_law_alike 3) ⟨_, (He.glo_ok X G (c.t.d.fact 115 (f := .glo "_law_alike") rfl)), C_law_alike_3⟩ D_law_alike, D_law_alike.kp, B_law_alike⟩
  have C_law_alike_5 : Cl P w K mg base 5 (He.fAd K dd_law_alike.at_) 2 (F_law_alike 5) := ⟨fd_law_alike, ["_law_found", "_law_due"], ok_law_alike T (j := 4) (by decide) (F_law_alike 4) ⟨_, (He.glo_ok X G (c.t.d.fact 115 (f := .glo "_law_alike") rfl)), C_law_alike_4⟩ D_law_alike, D_law_alike.kp, B_law_alike⟩
  have C_law_alike_6 : Cl P w K mg base 6 (He.fAd K dd_law_alike.at_) 2 (F_law_alike 6) := ⟨fd_law_alike, ["_law_found", "_law_due"], ok_law_alike T (j := 5) (by decide) (F_law_alike 5) ⟨_, (He.glo_ok X G (c.t.d.fact 115 (f := .glo "_law_alike") rfl)), C_law_alike_5⟩ D_law_alike, D_law_alike.kp, B_law_alike⟩
  have C_law_alike_7 : Cl P w K mg base 7 (He.fAd K dd_law_alike.at_) 2 (F_law_alike 7) := ⟨fd_law_alike, ["_law_found", "_law_due"], ok_law_alike T (j := 6) (by decide) (F_law_alike 6) ⟨_, (He.glo_ok X G (c.t.d.fact 115 (f := .glo "_law_alike") rfl)), C_law_alike_6⟩ D_law_alike, D_law_alike.kp, B_law_alike⟩
  have C_law_alike_8 : Cl P w K mg base 8 (He.fAd K dd_law_alike.at_) 2 (F_law_alike 8) := ⟨fd_law_alike, ["_law_found", "_law_due"], ok_law_alike T (j := 7) (by decide) (F_law_alike 7) ⟨_, (He.glo_ok X G (c.t.d.fact 115 (f := .glo "_law_alike") rfl)), C_law_alike_7⟩ D_law_alike, D_law_alike.kp, B_law_alike⟩
  have C_law_alike := C_law_alike_8
  have C_law_rows : Cl P w K mg base 1 (He.fAd K dd_law_rows.at_) 2 F_law_rows := ⟨fd_law_rows, ["_law_first", "_law_rounds"], ok_law_rows T  D_law_rows, D_law_rows.kp, B_law_rows⟩
  have e := hfa.symm.trans (He.glo_ok X G (c.t.d.fact 124 (f := .glo "law") rfl))
  cases e
  exact ok_law T ⟨_, (He.glo_ok X G (c.t.d.fact 116 (f := .glo "_law_begin") rfl)), C_law_begin⟩ ⟨_, (He.glo_ok X G (c.t.d.fact 114 (f := .glo "_law_next") rfl)), C_law_next⟩ ⟨_, (He.glo_ok X G (c.t.d.fact 117 (f := .glo "_law_rows") rfl)), C_law_rows⟩ ⟨_, _, (He.glo_ok X G (c.t.d.fact 43 (f := .glo "Program") rfl)), He.mkr_ok (c.t.d.fact 118 (f := .mkr "Program") rfl), C_Program_init⟩ ⟨_, _, (He.glo_ok X G (c.t.d.fact 51 (f := .glo "Plain") rfl)), He.mkr_ok (c.t.d.fact 119 (f := .mkr "Plain") rfl), E_Plain_init⟩ ⟨_, _, (He.glo_ok X G (c.t.d.fact 51 (f := .glo "Plain") rfl)), He.cls_ok (c.t.d.fact 52 (f := .cls "Plain") rfl), He.meth_ok (c.t.d.fact 120 (f := .meth "Plain" "end") rfl), C_Rows_end⟩ ⟨_, _, (He.glo_ok X G (c.t.d.fact 51 (f := .glo "Plain") rfl)), He.cls_ok (c.t.d.fact 52 (f := .cls "Plain") rfl), He.meth_ok (c.t.d.fact 121 (f := .meth "Plain" "step") rfl), K_Plain_step⟩ ⟨_, (He.glo_ok X G (c.t.d.fact 115 (f := .glo "_law_alike") rfl)), C_law_alike⟩ ⟨_, _, (He.glo_ok X G (c.t.d.fact 51 (f := .glo "Plain") rfl)), He.cls_ok (c.t.d.fact 52 (f := .cls "Plain") rfl), He.meth_ok (c.t.d.fact 122 (f := .meth "Plain" "done") rfl), C_Rows_done⟩ ⟨_, _, (He.glo_ok X G (c.t.d.fact 51 (f := .glo "Plain") rfl)), He.cls_ok (c.t.d.fact 52 (f := .cls "Plain") rfl), He.meth_ok (c.t.d.fact 123 (f := .meth "Plain" "events") rfl), C_Rows_events⟩ D_law

end Gm

set_option Elab.async false
set_option linter.all false
set_option maxRecDepth 100000
set_option maxHeartbeats 4000000
namespace Gm
open PySem PySem.Spec PyProof.Rows L2
abbrev RR : PySem.W.OpenRow := PySem.W.OpenLaw.row PySem.Challenge.rw_guessmill_k17_long_runs
def adL : List Addr := ([3, 6, 4, 21, 31, 44, 56, 75, 78, 85, 92, 99, 104, 128, 205, 216, 223, 230, 237, 244, 251, 258, 265, 272, 277, 284, 291, 298, 305, 312, 313, 314, 321, 420, 429, 436, 470, 473, 478, 483] : List Addr) ++ ([490, 497, 504, 531, 540, 545, 581, 592, 599, 606, 613, 618, 625, 632, 0, 20, 30, 43, 55, 74, 84, 91, 98, 103, 127, 204, 215, 222, 229, 236, 243, 250, 257, 264, 271, 276, 283, 290, 297, 304] : List Addr) ++ ([311, 320, 419, 428, 435, 469, 477, 482, 489, 496, 503, 530, 539, 544, 580, 591, 598, 605, 612, 617, 624, 631, 15, 16, 17, 18, 19, 29, 32, 42, 54, 72, 73, 79, 80, 81, 82, 83, 86, 87] : List Addr) ++ ([88, 89, 90, 93, 94, 95, 96, 97, 100, 101, 102, 118, 125, 126, 129, 130, 146, 153, 160, 167, 174, 181, 188, 195, 202, 203, 206, 207, 210, 211, 212, 213, 214, 217, 218, 219, 220, 221, 224, 225] : List Addr) ++ ([226, 227, 228, 231, 232, 233, 234, 235, 238, 239, 240, 241, 242, 245, 246, 247, 248, 249, 252, 253, 254, 255, 256, 259, 260, 261, 262, 263, 266, 267, 268, 269, 270, 273, 274, 275, 278, 279, 280, 281] : List Addr) ++ ([282, 285, 286, 287, 288, 289, 292, 293, 294, 295, 296, 299, 300, 301, 302, 303, 306, 307, 308, 309, 310, 315, 316, 317, 318, 319, 335, 342, 349, 356, 363, 370, 377, 384, 391, 398, 405, 410, 417, 418] : List Addr) ++ ([421, 422, 425, 426, 427, 430, 431, 432, 433, 434, 452, 460, 467, 468, 474, 475, 476, 479, 480, 481, 484, 485, 486, 487, 488, 491, 492, 493, 494, 495, 498, 499, 500, 501, 502, 518, 523, 528, 529, 532] : List Addr) ++ ([533, 536, 537, 538, 541, 542, 543, 557, 564, 571, 578, 579, 582, 583, 586, 587, 588, 589, 590, 593, 594, 595, 596, 597, 600, 601, 602, 603, 604, 607, 608, 609, 610, 611, 614, 615, 616, 619, 620, 621] : List Addr) ++ ([622, 623, 626, 627, 628, 629, 630, 71, 117, 124, 145, 152, 159, 166, 173, 180, 187, 194, 201, 334, 341, 348, 355, 362, 369, 376, 383, 390, 397, 404, 409, 416, 451, 445, 459, 453, 466, 517, 522, 527] : List Addr) ++ ([556, 563, 570, 577, 66, 67, 68, 69, 70, 112, 113, 114, 115, 116, 119, 120, 121, 122, 123, 140, 141, 142, 143, 144, 147, 148, 149, 150, 151, 154, 155, 156, 157, 158, 161, 162, 163, 164, 165, 168] : List Addr) ++ ([169, 170, 171, 172, 175, 176, 177, 178, 179, 182, 183, 184, 185, 186, 189, 190, 191, 192, 193, 196, 197, 198, 199, 200, 329, 330, 331, 332, 333, 336, 337, 338, 339, 340, 343, 344, 345, 346, 347, 350] : List Addr) ++ ([351, 352, 353, 354, 357, 358, 359, 360, 361, 364, 365, 366, 367, 368, 371, 372, 373, 374, 375, 378, 379, 380, 381, 382, 385, 386, 387, 388, 389, 392, 393, 394, 395, 396, 399, 400, 401, 402, 403, 406] : List Addr) ++ ([407, 408, 411, 412, 413, 414, 415, 446, 447, 448, 449, 450, 444, 454, 455, 456, 457, 458, 461, 462, 463, 464, 465, 512, 513, 514, 515, 516, 519, 520, 521, 524, 525, 526, 553, 554, 555, 558, 559, 560] : List Addr) ++ ([561, 562, 565, 566, 567, 568, 569, 572, 573, 574, 575, 576] : List Addr) ++ [PySem.cStatics]
abbrev hkM : PySem.W.Hook := hookM adL faL fnL tsL exL
def obK (s : PySem.W.SharedT) : AlM := obsMG adL faL fnL tsL exL (HandSHeadRun.getT s)
theorem obK_eq (s : PySem.W.SharedT) : obK s = hkM.obs s.abs := obsMG_eq (HandSHeadRun.getT_eq s)
def looseL : List Str := (["_wall", "MillError", "BadStart", "BadNumber", "BadProgram", "MOST_KINDS", "MOST_FIELDS", "MOST_BODIES", "MOST_ROWS", "MOST_BOXES", "MOST_FRAMES", "MOST_UNITS", "GREATEST", "PLAIN_KINDS", "SMALL", "is_whole", "is_number", "is_list", "is_name", "Frame", "World", "is_true", "reckoned", "do_number", "do_nothing", "do_copy", "do_reckoned", "do_make", "do_get", "do_put"] : List Str) ++ (["do_call", "do_give", "do_go", "do_if", "do_tell", "do_anew", "DEEDS", "STAYING", "seen_of", "Rows", "started", "need_units", "Plain", "FORMS", "are_names", "are_unlike", "is_kind", "is_body", "is_entry", "Limits", "limits_of", "are_parts", "Program", "_law_begin", "_law_more", "_law_next", "_law_pick", "_law_alike", "_law_rows"] : List Str)
theorem runB (w : World) : HandSHeadRun.RunEq RR (PySem.W.view RR.prog [65]) hkM obK 60000 looseL (w.withFollow "special-get-raises" false) := by
  intro os
  kernel_rfl
theorem runC (w : World) : HandSHeadRun.RunEq RR (PySem.W.view RR.prog [65]) hkM obK 60000 looseL (w.withFollow "special-get-raises" true) := by
  intro os
  kernel_rfl
theorem runK (w : World) : HandSHeadRun.RunEq RR (PySem.W.view RR.prog [65]) hkM obK 60000 looseL w := by
  have e := World.withFollow_self w "special-get-raises"
  cases hb : w.params.followText "special-get-raises" with
  | false =>
    rw [hb] at e
    rw [← e]
    exact runB w
  | true =>
    rw [hb] at e
    rw [← e]
    exact runC w
end Gm

set_option linter.all false
/-! PM: the plain machine as plain Lean: values, rows, frames; what one row does. -/
namespace Gm
open PySem (Str)
inductive Val where
  | non | num (i : Int) | thg (k : Nat)
deriving DecidableEq, Inhabited
def valW : Val → W
  | .non => .non
  | .num i => .int i
  | .thg k => .tup [.str "at", .int k]
inductive Rk where
  | plus | less | times | under | same
deriving DecidableEq
def Rk.w : Rk → Str
  | .plus => "plus" | .less => "less" | .times => "times" | .under => "under" | .same => "same"
inductive Row where
  | number (b : Nat) (n : Int) | nothing (b : Nat) | copy (b c : Nat) | reck (k : Rk) (b c d : Nat)
  | make (b : Nat) (kind : Str) | get (b c : Nat) (f : Str) | put (c : Nat) (f : Str) (d : Nat)
  | call (b : Nat) (name : Str) (a : Nat) (args : List Nat) | give (c : Nat) | go (r : Nat) | iff (c r : Nat) | tell (c : Nat)
  | anew (kind name : Str) (body : Nat)
deriving DecidableEq, Inhabited
def natW (n : Nat) : W := .int n
def rowW : Row → W
  | .number b n => .tup [.str "number", natW b, .int n]
  | .nothing b => .tup [.str "nothing", natW b]
  | .copy b c => .tup [.str "copy", natW b, natW c]
  | .reck k b c d => .tup [.str k.w, natW b, natW c, natW d]
  | .make b k => .tup [.str "make", natW b, .str k]
  | .get b c f => .tup [.str "get", natW b, natW c, .str f]
  | .put c f d => .tup [.str "put", natW c, .str f, natW d]
  | .call b n a as => .tup [.str "call", natW b, .str n, .tup ((a :: as).map natW)]
  | .give c => .tup [.str "give", natW c]
  | .go r => .tup [.str "go", natW r]
  | .iff c r => .tup [.str "if", natW c, natW r]
  | .tell c => .tup [.str "tell", natW c]
  | .anew k n b => .tup [.str "anew", .str k, .str n, natW b]
structure Bd where
  takes : Nat
  boxes : Nat
  rows : List Row
deriving Inhabited
def bdW (b : Bd) : W := .tup [natW b.takes, natW b.boxes, .tup (b.rows.map rowW)]
structure Fr where
  body : Nat
  row : Nat
  boxes : List Val
deriving Inhabited
structure Ma where
  src : W
  kinds : List (Str × List Str)
  plan : List Bd
  frames : List Fr
  ending : W
  passed : Nat
  prof : List ((Nat × Nat) × List W)
  entries : List ((Str × Str) × Nat)
  heap : List (Str × List Val)
  told : List W
def keyW (k : Str × Str) : W := .tup [.str k.1, .str k.2]
def placeW (p : Nat × Nat) : W := .tup [natW p.1, natW p.2]
inductive Role where
  | run | world | framesL | planL | namesD | entriesD | heapL | toldL | profD
  | frame (i : Nat) | boxes (i : Nat) | cells (i : Nat) | seen (i : Nat)
deriving DecidableEq
def frDef : Fr := ⟨0, 0, []⟩
namespace Ma
def runFs (adr : Role → Nat) (A : Ma) : List (Str × W) := [("world", .ref (adr .world)), ("frames", .ref (adr .framesL)), ("ending", A.ending), ("passed", .int A.passed), ("profile", .ref (adr .profD))]
def worldFs (adr : Role → Nat) (A : Ma) : List (Str × W) := [("source", A.src), ("field_names", .ref (adr .namesD)), ("plan", .ref (adr .planL)), ("entries", .ref (adr .entriesD)), ("heap", .ref (adr .heapL)), ("told", .ref (adr .toldL))]
def frameFs (b : W) (f : Fr) : List (Str × W) := [("body", natW f.body), ("row", natW f.row), ("boxes", b)]
def fr (A : Ma) (i : Nat) : Fr := A.frames.getD i frDef
def hp (A : Ma) (i : Nat) : Str × List Val := A.heap.getD i default
def pf (A : Ma) (i : Nat) : (Nat × Nat) × List W := A.prof.getD i default
def live (A : Ma) : Role → Prop
  | .frame i => i < A.frames.length
  | .boxes i => i < A.frames.length
  | .cells i => i < A.heap.length
  | .seen i => i < A.prof.length
  | _ => True
def ob (adr : Role → Nat) (A : Ma) : Role → Ob
  | .run => .ins "Plain" (A.runFs adr)
  | .world => .ins "World" (A.worldFs adr)
  | .framesL => .lst ((List.range A.frames.length).map fun i => .ref (adr (.frame i)))
  | .planL => .lst (A.plan.map bdW)
  | .namesD => .dct false (A.kinds.map fun k => (.str k.1, .tup (k.2.map .str)))
  | .entriesD => .dct true (A.entries.map fun e => (keyW e.1, natW e.2))
  | .heapL => .lst ((List.range A.heap.length).map fun i => .tup [.str (A.hp i).1, .ref (adr (.cells i))])
  | .toldL => .lst A.told
  | .profD => .dct true ((List.range A.prof.length).map fun i => (placeW (A.pf i).1, .ref (adr (.seen i))))
  | .frame i => .ins "Frame" (frameFs (.ref (adr (.boxes i))) (A.fr i))
  | .boxes i => .lst ((A.fr i).boxes.map valW)
  | .cells i => .lst ((A.hp i).2.map valW)
  | .seen i => .dct true ((A.pf i).2.map fun w => (w, .bl true))
end Ma
/-- the machine A stands in the store S -/
structure St (adr : Role → Nat) (A : Ma) (S : Store) : Prop where
  ob : ∀ r, A.live r → S[adr r]? = some (A.ob adr r)
  inj : ∀ r r', A.live r → A.live r' → adr r = adr r' → r = r'
def Own (adr : Role → Nat) (A : Ma) (i : Nat) : Prop := ∃ r, A.live r ∧ adr r = i
/-- from one machine in a store to another: what is not the machine's stays -/
structure Go (adr : Role → Nat) (A : Ma) (S : Store) (adr' : Role → Nat) (A' : Ma) (S' : Store) : Prop where
  len : S.length ≤ S'.length
  keep : ∀ i, i < S.length → ¬ Own adr A i → S'[i]? = S[i]? ∧ ¬ Own adr' A' i
section
variable {adr adr' adr'' : Role → Nat} {A A' A'' : Ma} {S S' S'' : Store}
theorem Go.refl : Go adr A S adr A S := ⟨Nat.le_refl _, fun _ _ h => ⟨rfl, h⟩⟩
theorem Go.trans (x : Go adr A S adr' A' S') (y : Go adr' A' S' adr'' A'' S'') : Go adr A S adr'' A'' S'' :=
  ⟨Nat.le_trans x.len y.len, fun i hi h => by
    obtain ⟨h1, h2⟩ := x.keep i hi h
    obtain ⟨h3, h4⟩ := y.keep i (Nat.lt_of_lt_of_le hi x.len) h2
    exact ⟨h3.trans h1, h4⟩⟩
theorem St.lt (R : St adr A S) {r : Role} (h : A.live r) : adr r < S.length := (List.getElem?_eq_some_iff.mp (R.ob r h)).1
/-- one object stored anew -/
theorem St.put (R : St adr A S) (r : Role) (hl : A.live r) (o : Ob) (A' : Ma) (hv : ∀ r', A'.live r' → A.live r')
    (ho : o = A'.ob adr r) (hs : ∀ r', A.live r' → r' ≠ r → A'.ob adr r' = A.ob adr r') : St adr A' (S.set (adr r) o) ∧ Go adr A S adr A' (S.set (adr r) o) := by
  refine ⟨⟨fun r' h => ?_, fun r1 r2 h1 h2 e => R.inj _ _ (hv _ h1) (hv _ h2) e⟩, ⟨by rw [List.length_set]; exact Nat.le_refl _, fun i hi h => ⟨?_, fun ⟨r', h1, h2⟩ => h ⟨r', hv _ h1, h2⟩⟩⟩⟩
  · have h' := hv _ h
    by_cases e : r' = r
    · subst e
      rw [List.getElem?_set_self (R.lt h'), ho]
    · rw [List.getElem?_set_ne fun z => e (R.inj _ _ h' hl z.symm), hs r' h' e]
      exact R.ob r' h'
  · rw [List.getElem?_set_ne fun z => h ⟨r, hl, z⟩]
/-- an object more that the machine does not name -/
theorem St.more (R : St adr A S) (o : Ob) : St adr A (S ++ [o]) ∧ Go adr A S adr A (S ++ [o]) := by
  refine ⟨⟨fun r h => ?_, R.inj⟩, ⟨by rw [List.length_append]; exact Nat.le_add_right _ _, fun i hi h => ⟨by rw [List.getElem?_append_left hi], h⟩⟩⟩
  rw [List.getElem?_append_left (R.lt h)]
  exact R.ob r h
end
end Gm

set_option linter.all false
namespace Gm
open PySem (Str)
section
variable {adr : Role → Nat} {A : Ma} {S : Store}
theorem fld_of {cs : List Str} {f c : Str} {a : Nat} {fs : List (Str × W)} {v : W} (h : S[a]? = some (.ins c fs)) (hc : c ∈ cs) (hl : fs.lookup f = some v) : fld cs f (.ref a) S = some v := by
  simp only [fld, h, if_pos hc, hl]
theorem St.o_run (R : St adr A S) : S[adr .run]? = some (.ins "Plain" (A.runFs adr)) := R.ob .run trivial
theorem St.o_world (R : St adr A S) : S[adr .world]? = some (.ins "World" (A.worldFs adr)) := R.ob .world trivial
theorem St.o_frame (R : St adr A S) {i : Nat} (h : i < A.frames.length) : S[adr (.frame i)]? = some (.ins "Frame" (Ma.frameFs (.ref (adr (.boxes i))) (A.fr i))) := R.ob (.frame i) h
theorem St.o_boxes (R : St adr A S) {i : Nat} (h : i < A.frames.length) : S[adr (.boxes i)]? = some (.lst ((A.fr i).boxes.map valW)) := R.ob (.boxes i) h
theorem St.o_frames (R : St adr A S) : S[adr .framesL]? = some (.lst ((List.range A.frames.length).map fun i => .ref (adr (.frame i)))) := R.ob .framesL trivial
theorem St.o_plan (R : St adr A S) : S[adr .planL]? = some (.lst (A.plan.map bdW)) := R.ob .planL trivial
theorem St.o_entries (R : St adr A S) : S[adr .entriesD]? = some (.dct true (A.entries.map fun e => (keyW e.1, natW e.2))) := R.ob .entriesD trivial
theorem St.o_told (R : St adr A S) : S[adr .toldL]? = some (.lst A.told) := R.ob .toldL trivial
theorem St.o_heap (R : St adr A S) : S[adr .heapL]? = some (.lst ((List.range A.heap.length).map fun i => .tup [.str (A.hp i).1, .ref (adr (.cells i))])) := R.ob .heapL trivial
theorem St.o_prof (R : St adr A S) : S[adr .profD]? = some (.dct true ((List.range A.prof.length).map fun i => (placeW (A.pf i).1, .ref (adr (.seen i))))) := R.ob .profD trivial
theorem St.o_seen (R : St adr A S) {i : Nat} (h : i < A.prof.length) : S[adr (.seen i)]? = some (.dct true ((A.pf i).2.map fun w => (w, .bl true))) := R.ob (.seen i) h
theorem St.g_world (R : St adr A S) : fld cs_world "world" (.ref (adr .run)) S = some (.ref (adr .world)) := fld_of R.o_run (by decide) rfl
theorem St.g_frames (R : St adr A S) : fld cs_frames "frames" (.ref (adr .run)) S = some (.ref (adr .framesL)) := fld_of R.o_run (by decide) rfl
theorem St.g_ending (R : St adr A S) : fld cs_ending "ending" (.ref (adr .run)) S = some A.ending := fld_of R.o_run (by decide) rfl
theorem St.g_passed (R : St adr A S) : fld cs_passed "passed" (.ref (adr .run)) S = some (.int A.passed) := fld_of R.o_run (by decide) rfl
theorem St.g_profile (R : St adr A S) : fld cs_profile "profile" (.ref (adr .run)) S = some (.ref (adr .profD)) := fld_of R.o_run (by decide) rfl
theorem St.g_plan (R : St adr A S) : fld cs_plan "plan" (.ref (adr .world)) S = some (.ref (adr .planL)) := fld_of R.o_world (by decide) rfl
theorem St.g_names (R : St adr A S) : fld cs_field_names "field_names" (.ref (adr .world)) S = some (.ref (adr .namesD)) := fld_of R.o_world (by decide) rfl
theorem St.g_entries (R : St adr A S) : fld cs_entries "entries" (.ref (adr .world)) S = some (.ref (adr .entriesD)) := fld_of R.o_world (by decide) rfl
theorem St.g_heap (R : St adr A S) : fld cs_heap "heap" (.ref (adr .world)) S = some (.ref (adr .heapL)) := fld_of R.o_world (by decide) rfl
theorem St.g_told (R : St adr A S) : fld cs_told "told" (.ref (adr .world)) S = some (.ref (adr .toldL)) := fld_of R.o_world (by decide) rfl
theorem St.g_body (R : St adr A S) {i : Nat} (h : i < A.frames.length) : fld cs_body "body" (.ref (adr (.frame i))) S = some (natW (A.fr i).body) := fld_of (R.o_frame h) (by decide) rfl
theorem St.g_row (R : St adr A S) {i : Nat} (h : i < A.frames.length) : fld cs_row "row" (.ref (adr (.frame i))) S = some (natW (A.fr i).row) := fld_of (R.o_frame h) (by decide) rfl
theorem St.g_boxes (R : St adr A S) {i : Nat} (h : i < A.frames.length) : fld cs_boxes "boxes" (.ref (adr (.frame i))) S = some (.ref (adr (.boxes i))) := fld_of (R.o_frame h) (by decide) rfl
/-! methods -/
theorem meth_of {c m : Str} {n : Nat} {F : Fn} {mo : ME} {ma : MA} {e : Env} {S1 S2 : Store} {a : Nat} {fs : List (Str × W)} {ws : List W} (h1 : mo e S = some (.ref a, S1)) (h2 : S1[a]? = some (.ins c fs)) (h3 : fs.lookup m = none) (h4 : ma e S1 = some (ws, S2)) (h5 : ws.length + 1 = n) : mMethN c m n F mo ma e S = F (.ref a :: ws) S2 := by
  simp only [mMethN, h1, h2, h3, h4, h5, and_self, if_true]
theorem seq_of {s t : MS} {e e1 : Env} {S1 : Store} (h : s e S = some (.nx e1, S1)) : sSeq2 s t e S = t e1 S1 := by
  simp only [sSeq2, h]
theorem asg_of {m : ME} {g : MG} {e e1 : Env} {S1 S2 : Store} {w : W} (h : m e S = some (w, S1)) (h2 : g w e S1 = some (e1, S2)) : sAsg m g e S = some (.nx e1, S2) := by
  simp only [sAsg, h, h2]
theorem ixN_nat {n k : Nat} (h : k < n) : ixN n (k : Int) = some k := by
  unfold ixN
  rw [if_pos (Int.natCast_nonneg k), if_pos (by omega), Int.toNat_natCast]
theorem ixN_last {n : Nat} (h : 0 < n) : ixN n (-1) = some (n - 1) := by
  unfold ixN
  rw [if_neg (by omega), if_pos (by omega)]
  congr 1
  omega
theorem fIx_nat {ws : List W} {k : Nat} {x w : W} (hs : seqOf S x = some ws) (h : ws[k]? = some w) : fIx x (natW k) S = some w := by
  have hk : k < ws.length := (List.getElem?_eq_some_iff.mp h).1
  simp only [fIx, natW, hs, ixN_nat hk, Option.bind_some, h]
theorem fIx_last {ws : List W} {x w : W} (hs : seqOf S x = some ws) (h : ws[ws.length - 1]? = some w) : fIx x (.int (-1)) S = some w := by
  have hk : ws.length - 1 < ws.length := (List.getElem?_eq_some_iff.mp h).1
  simp only [fIx, hs, ixN_last (show 0 < ws.length by omega), Option.bind_some, h]
/-- an item of a tuple at a written place -/
theorem fIx_lit {ws : List W} {k : Int} {w : W} (h0 : 0 ≤ k) (h : ws[k.toNat]? = some w) : fIx (.tup ws) (.int k) S = some w := by
  have := fIx_nat (S := S) (x := .tup ws) (k := k.toNat) rfl h
  rwa [natW, Int.toNat_of_nonneg h0] at this
theorem St.seq_plan (R : St adr A S) : seqOf S (.ref (adr .planL)) = some (A.plan.map bdW) := by simp only [seqOf, R.o_plan]
theorem St.rows_of (R : St adr A S) {b : Nat} {bd : Bd} (h : A.plan[b]? = some bd) : F_World_rows_of [.ref (adr .world), natW b] S = some (.tup (bd.rows.map rowW), S) := by
  have h1 : fIx (.ref (adr .planL)) (natW b) S = some (bdW bd) := fIx_nat R.seq_plan (by rw [List.getElem?_map, h]; rfl)
  simp [F_World_rows_of, b_World_rows_of, fnOf, sSeq2, sAsg, sRet, sDrop, sIf, sNil, sNever, sBreak, sCont, op1, op2, mVar, mC, gName, gTupN, gCons, gNil, mTup, mNew, aCons, aNil, aMax, tVal, tAnd, tOr, tNot, mAnd, mOr, mNot, mIf, mCallN, mChain, sFld, sPar, sPar3, sAug, sFldAug, mLen, mLenL, fIsN, fNotN, isNon, onI, fAdd, fSub, fNeg, fLt, fLe, fGt, fGe, fEq, fNe, negW, tYes, R.g_plan, h1, bdW]
/-- the value at a box -/
theorem St.box (R : St adr A S) {i k : Nat} {v : Val} (h : i < A.frames.length) (hk : (A.fr i).boxes[k]? = some v) : fIx (.ref (adr (.boxes i))) (natW k) S = some (valW v) :=
  fIx_nat (ws := (A.fr i).boxes.map valW) (by simp only [seqOf, R.o_boxes h]) (by rw [List.getElem?_map, hk]; rfl)
end
/-! ### what the machine reckons -/
namespace Ma
def kindOf (A : Ma) : Val → Str
  | .non => "nothing"
  | .num _ => "number"
  | .thg k => (A.hp k).1
def evOf (A : Ma) : Val → W
  | .non => .non
  | .num i => .int i
  | .thg k => .str (A.hp k).1
end Ma
/-- a value of the machine -/
def Ma.Has (A : Ma) : Val → Prop
  | .thg k => k < A.heap.length
  | _ => True
def truth : Val → Bool
  | .non => false
  | .num i => decide (i ≠ 0)
  | .thg _ => true
section
variable {adr : Role → Nat} {A : Ma} {S : Store}
theorem St.kind_of (R : St adr A S) {v : Val} (h : A.Has v) : F_World_kind_of [.ref (adr .world), valW v] S = some (.str (A.kindOf v), S) := by
  cases v with
  | non => simp [F_World_kind_of, b_World_kind_of, fnOf, sSeq2, sAsg, sRet, sDrop, sIf, sNil, sNever, sBreak, sCont, op1, op2, mVar, mC, gName, gTupN, gCons, gNil, mTup, mNew, aCons, aNil, aMax, tVal, tAnd, tOr, tNot, mAnd, mOr, mNot, mIf, mCallN, mChain, sFld, sPar, sPar3, sAug, sFldAug, mLen, mLenL, fIsN, fNotN, isNon, onI, fAdd, fSub, fNeg, fLt, fLe, fGt, fGe, fEq, fNe, negW, tYes, valW, Ma.kindOf]
  | num i => simp [F_World_kind_of, b_World_kind_of, fnOf, sSeq2, sAsg, sRet, sDrop, sIf, sNil, sNever, sBreak, sCont, op1, op2, mVar, mC, gName, gTupN, gCons, gNil, mTup, mNew, aCons, aNil, aMax, tVal, tAnd, tOr, tNot, mAnd, mOr, mNot, mIf, mCallN, mChain, sFld, sPar, sPar3, sAug, sFldAug, mLen, mLenL, fIsN, fNotN, isNon, onI, fAdd, fSub, fNeg, fLt, fLe, fGt, fGe, fEq, fNe, negW, tYes, valW, Ma.kindOf, fIs, tyW, isTy]
  | thg k =>
    have h1 : fIx (.tup [.str "at", .int (k : Int)]) (.int 1) S = some (natW k) := fIx_lit (by decide) rfl
    have h2 : fIx (.ref (adr .heapL)) (natW k) S = some (.tup [.str (A.hp k).1, .ref (adr (.cells k))]) := fIx_nat (ws := (List.range A.heap.length).map fun i => .tup [.str (A.hp i).1, .ref (adr (.cells i))]) (by simp only [seqOf, R.o_heap]) (by
      rw [List.getElem?_map, List.getElem?_range h]; rfl)
    have h3 : fIx (.tup [.str (A.hp k).1, .ref (adr (.cells k))]) (.int 0) S = some (.str (A.hp k).1) := fIx_lit (by decide) rfl
    simp [F_World_kind_of, b_World_kind_of, fnOf, sSeq2, sAsg, sRet, sDrop, sIf, sNil, sNever, sBreak, sCont, op1, op2, mVar, mC, gName, gTupN, gCons, gNil, mTup, mNew, aCons, aNil, aMax, tVal, tAnd, tOr, tNot, mAnd, mOr, mNot, mIf, mCallN, mChain, sFld, sPar, sPar3, sAug, sFldAug, mLen, mLenL, fIsN, fNotN, isNon, onI, fAdd, fSub, fNeg, fLt, fLe, fGt, fGe, fEq, fNe, negW, tYes, valW, Ma.kindOf, fIs, tyW, isTy, R.g_heap, h1, h2, h3]
theorem St.as_event (R : St adr A S) {v : Val} (h : A.Has v) : F_World_as_event [.ref (adr .world), valW v] S = some (A.evOf v, S) := by
  cases v with
  | non => simp [F_World_as_event, b_World_as_event, fnOf, sSeq2, sAsg, sRet, sDrop, sIf, sNil, sNever, sBreak, sCont, op1, op2, mVar, mC, gName, gTupN, gCons, gNil, mTup, mNew, aCons, aNil, aMax, tVal, tAnd, tOr, tNot, mAnd, mOr, mNot, mIf, mCallN, mChain, sFld, sPar, sPar3, sAug, sFldAug, mLen, mLenL, fIsN, fNotN, isNon, onI, fAdd, fSub, fNeg, fLt, fLe, fGt, fGe, fEq, fNe, negW, tYes, valW, Ma.evOf, fIs, tyW, isTy]
  | num i => simp [F_World_as_event, b_World_as_event, fnOf, sSeq2, sAsg, sRet, sDrop, sIf, sNil, sNever, sBreak, sCont, op1, op2, mVar, mC, gName, gTupN, gCons, gNil, mTup, mNew, aCons, aNil, aMax, tVal, tAnd, tOr, tNot, mAnd, mOr, mNot, mIf, mCallN, mChain, sFld, sPar, sPar3, sAug, sFldAug, mLen, mLenL, fIsN, fNotN, isNon, onI, fAdd, fSub, fNeg, fLt, fLe, fGt, fGe, fEq, fNe, negW, tYes, valW, Ma.evOf, fIs, tyW, isTy]
  | thg k =>
    have h1 := R.kind_of h
    simp only [valW] at h1
    simp [F_World_as_event, b_World_as_event, fnOf, sSeq2, sAsg, sRet, sDrop, sIf, sNil, sNever, sBreak, sCont, op1, op2, mVar, mC, gName, gTupN, gCons, gNil, mTup, mNew, aCons, aNil, aMax, tVal, tAnd, tOr, tNot, mAnd, mOr, mNot, mIf, mCallN, mChain, sFld, sPar, sPar3, sAug, sFldAug, mLen, mLenL, fIsN, fNotN, isNon, onI, fAdd, fSub, fNeg, fLt, fLe, fGt, fGe, fEq, fNe, negW, tYes, valW, Ma.evOf, fIs, tyW, isTy, mMethN, R.o_world, show List.lookup ("kind_of" : Str) (A.worldFs adr) = none from rfl, h1, Ma.kindOf]
theorem is_true_of (S : Store) (v : Val) : F_is_true [valW v] S = some (.bl (truth v), S) := by
  cases v with
  | non => simp [F_is_true, b_is_true, fnOf, sSeq2, sAsg, sRet, sDrop, sIf, sNil, sNever, sBreak, sCont, op1, op2, mVar, mC, gName, gTupN, gCons, gNil, mTup, mNew, aCons, aNil, aMax, tVal, tAnd, tOr, tNot, mAnd, mOr, mNot, mIf, mCallN, mChain, sFld, sPar, sPar3, sAug, sFldAug, mLen, mLenL, fIsN, fNotN, isNon, onI, fAdd, fSub, fNeg, fLt, fLe, fGt, fGe, fEq, fNe, negW, tYes, valW, truth]
  | num i => simp [F_is_true, b_is_true, fnOf, sSeq2, sAsg, sRet, sDrop, sIf, sNil, sNever, sBreak, sCont, op1, op2, mVar, mC, gName, gTupN, gCons, gNil, mTup, mNew, aCons, aNil, aMax, tVal, tAnd, tOr, tNot, mAnd, mOr, mNot, mIf, mCallN, mChain, sFld, sPar, sPar3, sAug, sFldAug, mLen, mLenL, fIsN, fNotN, isNon, onI, fAdd, fSub, fNeg, fLt, fLe, fGt, fGe, fEq, fNe, negW, tYes, valW, truth, eqW, isSc, eqd, Bool.beq_eq_decide_eq]
  | thg k => simp [F_is_true, b_is_true, fnOf, sSeq2, sAsg, sRet, sDrop, sIf, sNil, sNever, sBreak, sCont, op1, op2, mVar, mC, gName, gTupN, gCons, gNil, mTup, mNew, aCons, aNil, aMax, tVal, tAnd, tOr, tNot, mAnd, mOr, mNot, mIf, mCallN, mChain, sFld, sPar, sPar3, sAug, sFldAug, mLen, mLenL, fIsN, fNotN, isNon, onI, fAdd, fSub, fNeg, fLt, fLe, fGt, fGe, fEq, fNe, negW, tYes, valW, truth, eqW, isSc, eqd, rd, rds, show strOk "at" = true by decide +kernel]
end
end Gm

set_option linter.all false
namespace Gm
open PySem (Str)
namespace Ma
def mod (A : Ma) (i : Nat) (f : Fr) : Ma := { A with frames := A.frames.set i f }
def last (A : Ma) : Nat := A.frames.length - 1
def setBox (A : Ma) (i k : Nat) (v : Val) : Ma := A.mod i { A.fr i with boxes := (A.fr i).boxes.set k v }
def setRow (A : Ma) (i r : Nat) : Ma := A.mod i { A.fr i with row := r }
theorem mod_len (A : Ma) (i : Nat) (f : Fr) : (A.mod i f).frames.length = A.frames.length := by simp [mod]
theorem mod_fr (A : Ma) {i j : Nat} (f : Fr) (h : i < A.frames.length) : (A.mod i f).fr j = if j = i then f else A.fr j := by
  unfold mod fr
  simp only [List.getD_eq_getElem?_getD, List.getElem?_set]
  by_cases e : i = j
  · subst e
    simp [h]
  · simp [e, Ne.symm e]
theorem mod_live (A : Ma) (i : Nat) (f : Fr) (r : Role) : (A.mod i f).live r ↔ A.live r := by
  cases r <;> simp [live, mod]
/-- all but the frame's two objects stay -/
theorem mod_ob (adr : Role → Nat) (A : Ma) {i : Nat} (f : Fr) (h : i < A.frames.length) (r : Role) (h1 : r = .frame i → f.body = (A.fr i).body ∧ f.row = (A.fr i).row) (h2 : r = .boxes i → f.boxes = (A.fr i).boxes) : (A.mod i f).ob adr r = A.ob adr r := by
  cases r with
  | frame j =>
    simp only [ob, mod_fr A f h]
    by_cases e : j = i
    · subst e
      obtain ⟨e1, e2⟩ := h1 rfl
      simp [frameFs, e1, e2]
    · simp [e]
  | boxes j =>
    simp only [ob, mod_fr A f h]
    by_cases e : j = i
    · subst e
      simp [h2 rfl]
    · simp [e]
  | framesL => simp [ob, mod]
  | _ => rfl
end Ma
section
variable {adr : Role → Nat} {A : Ma} {S : Store}
theorem St.setBox (R : St adr A S) {i k : Nat} {v : Val} (h : i < A.frames.length) :
    St adr (A.setBox i k v) (S.set (adr (.boxes i)) (.lst (((A.fr i).boxes.map valW).set k (valW v)))) ∧ Go adr A S adr (A.setBox i k v) (S.set (adr (.boxes i)) (.lst (((A.fr i).boxes.map valW).set k (valW v)))) := by
  refine R.put (.boxes i) h _ _ (fun r => (Ma.mod_live A i _ r).mp) ?_ fun r _ hr => Ma.mod_ob adr A _ h r (fun _ => ⟨rfl, rfl⟩) fun e => absurd e hr
  simp only [Ma.ob, Ma.setBox, Ma.mod_fr A _ h, if_true, List.map_set]
theorem St.setRow (R : St adr A S) {i r : Nat} (h : i < A.frames.length) :
    St adr (A.setRow i r) (S.set (adr (.frame i)) (.ins "Frame" (Ma.frameFs (.ref (adr (.boxes i))) { A.fr i with row := r }))) ∧ Go adr A S adr (A.setRow i r) (S.set (adr (.frame i)) (.ins "Frame" (Ma.frameFs (.ref (adr (.boxes i))) { A.fr i with row := r }))) := by
  refine R.put (.frame i) h _ _ (fun r => (Ma.mod_live A i _ r).mp) ?_ fun r _ hr => Ma.mod_ob adr A _ h r (fun e => absurd e hr) fun _ => rfl
  simp only [Ma.ob, Ma.setRow, Ma.mod_fr A _ h, if_true]
theorem St.setEnd (R : St adr A S) (w : W) : St adr { A with ending := w } (S.set (adr .run) (.ins "Plain" (Ma.runFs adr { A with ending := w }))) ∧ Go adr A S adr { A with ending := w } (S.set (adr .run) (.ins "Plain" (Ma.runFs adr { A with ending := w }))) :=
  R.put .run trivial _ _ (fun r h => by cases r <;> exact h) rfl fun r _ hr => by cases r <;> first | rfl | exact absurd rfl hr
theorem St.setPassed (R : St adr A S) (n : Nat) : St adr { A with passed := n } (S.set (adr .run) (.ins "Plain" (Ma.runFs adr { A with passed := n }))) ∧ Go adr A S adr { A with passed := n } (S.set (adr .run) (.ins "Plain" (Ma.runFs adr { A with passed := n }))) :=
  R.put .run trivial _ _ (fun r h => by cases r <;> exact h) rfl fun r _ hr => by cases r <;> first | rfl | exact absurd rfl hr
theorem St.setTold (R : St adr A S) (ws : List W) : St adr { A with told := ws } (S.set (adr .toldL) (.lst ws)) ∧ Go adr A S adr { A with told := ws } (S.set (adr .toldL) (.lst ws)) :=
  R.put .toldL trivial _ _ (fun r h => by cases r <;> exact h) rfl fun r _ hr => by cases r <;> first | rfl | exact absurd rfl hr
theorem St.setEntries (R : St adr A S) (es : List ((Str × Str) × Nat)) : St adr { A with entries := es } (S.set (adr .entriesD) (.dct true (es.map fun e => (keyW e.1, natW e.2)))) ∧ Go adr A S adr { A with entries := es } (S.set (adr .entriesD) (.dct true (es.map fun e => (keyW e.1, natW e.2)))) :=
  R.put .entriesD trivial _ _ (fun r h => by cases r <;> exact h) rfl fun r _ hr => by cases r <;> first | rfl | exact absurd rfl hr
/-! a general change: the roles of C may be elsewhere -/
theorem St.chg {adr' : Role → Nat} {A' : Ma} {S' : Store} {n0 : Nat} (R : St adr A S) (hlen : S.length ≤ S'.length) (C : Role → Prop)
    (hk : ∀ r, A'.live r → ¬ C r → A.live r ∧ adr' r = adr r ∧ A'.ob adr' r = A.ob adr r ∧ S'[adr r]? = S[adr r]?)
    (hc : ∀ r, A'.live r → C r → S'[adr' r]? = some (A'.ob adr' r))
    (hi : ∀ r r', A'.live r → A'.live r' → C r → adr' r = adr' r' → r = r') : St adr' A' S' := by
  refine ⟨fun r h => ?_, fun r1 r2 h1 h2 e => ?_⟩
  · by_cases c : C r
    · exact hc r h c
    · obtain ⟨g1, g2, g3, g4⟩ := hk r h c
      rw [g2, g4, g3]
      exact R.ob r g1
  · by_cases c1 : C r1
    · exact hi r1 r2 h1 h2 c1 e
    · by_cases c2 : C r2
      · exact (hi r2 r1 h2 h1 c2 e.symm).symm
      · obtain ⟨g1, g2, _⟩ := hk r1 h1 c1
        obtain ⟨k1, k2, _⟩ := hk r2 h2 c2
        rw [g2, k2] at e
        exact R.inj _ _ g1 k1 e
end
end Gm

set_option linter.all false
namespace Gm
open PySem (Str)
section
variable {adr : Role → Nat} {A : Ma} {S : Store} {e : Env}
theorem St.x_setBox (R : St adr A S) {i k : Nat} {v : Val} {mv mo mi : ME} (h : i < A.frames.length) (hk : k < (A.fr i).boxes.length) (h1 : mv e S = some (valW v, S)) (h2 : mo e S = some (.ref (adr (.boxes i)), S)) (h3 : mi e S = some (natW k, S)) :
    sSetIx mv mo mi e S = some (.nx e, S.set (adr (.boxes i)) (.lst (((A.fr i).boxes.map valW).set k (valW v)))) := by
  have hl : ixN ((A.fr i).boxes.map valW).length (k : Int) = some k := ixN_nat (by rw [List.length_map]; exact hk)
  simp only [sSetIx, h1, h2, h3, natW, R.o_boxes h, hl]
/-- a step of a machine, in a store -/
abbrev To (adr : Role → Nat) (A : Ma) (S : Store) (A' : Ma) (S' : Store) : Prop := St adr A' S' ∧ Go adr A S adr A' S'
/-- what a deed does: a fault's word, or none -/
def Deed (F : Fn) (adr : Role → Nat) (A : Ma) (S : Store) (i : Nat) (row : Row) (w : W) (A' : Ma) : Prop :=
  ∃ adr' S', F [.ref (adr .run), .ref (adr (.frame i)), rowW row] S = some (w, S') ∧ St adr' A' S' ∧ Go adr A S adr' A' S' ∧ adr' .run = adr .run ∧ adr' .world = adr .world ∧ ∀ j, j < A.frames.length → j < A'.frames.length → adr' (.frame j) = adr (.frame j)
theorem Deed.of {F : Fn} {A' : Ma} {i : Nat} {row : Row} {w : W} {S' : Store} (h : F [.ref (adr .run), .ref (adr (.frame i)), rowW row] S = some (w, S')) (t : To adr A S A' S') : Deed F adr A S i row w A' :=
  ⟨adr, S', h, t.1, t.2, rfl, rfl, fun _ _ _ => rfl⟩
theorem ix1 {x a : W} {ws : List W} : fIx (.tup (x :: a :: ws)) (.int 1) S = some a := fIx_lit (by decide) rfl
theorem ix0 {x : W} {ws : List W} : fIx (.tup (x :: ws)) (.int 0) S = some x := fIx_lit (by decide) rfl
theorem ix2 {x a b : W} {ws : List W} : fIx (.tup (x :: a :: b :: ws)) (.int 2) S = some b := fIx_lit (by decide) rfl
theorem ix3 {x a b c : W} {ws : List W} : fIx (.tup (x :: a :: b :: c :: ws)) (.int 3) S = some c := fIx_lit (by decide) rfl
theorem St.do_number (R : St adr A S) {i b : Nat} {n : Int} (h : i < A.frames.length) (hb : b < (A.fr i).boxes.length) : Deed F_do_number adr A S i (.number b n) .non (A.setBox i b (.num n)) := by
  refine Deed.of ?_ (R.setBox h)
  have h0 := R.x_setBox (e := [some (.ref (adr .run)), some (.ref (adr (.frame i))), some (rowW (.number b n))]) (v := .num n) (mv := op2 fIx (mVar 2) (mC (.int 2))) (mo := op1 (fld cs_boxes "boxes") (mVar 1)) (mi := op2 fIx (mVar 2) (mC (.int 1))) h hb
    (by simp [fnOf, sSeq2, sAsg, sRet, sDrop, sIf, sNil, sNever, sBreak, sCont, op1, op2, mVar, mC, gName, gTupN, gCons, gNil, mTup, mNew, aCons, aNil, aMax, tVal, tAnd, tOr, tNot, mAnd, mOr, mNot, mIf, mCallN, mChain, sFld, sPar, sPar3, sAug, sFldAug, mLen, mLenL, fIsN, fNotN, isNon, onI, fAdd, fSub, fNeg, fLt, fLe, fGt, fGe, fEq, fNe, negW, tYes, rowW, ix2, valW]) (by simp [fnOf, sSeq2, sAsg, sRet, sDrop, sIf, sNil, sNever, sBreak, sCont, op1, op2, mVar, mC, gName, gTupN, gCons, gNil, mTup, mNew, aCons, aNil, aMax, tVal, tAnd, tOr, tNot, mAnd, mOr, mNot, mIf, mCallN, mChain, sFld, sPar, sPar3, sAug, sFldAug, mLen, mLenL, fIsN, fNotN, isNon, onI, fAdd, fSub, fNeg, fLt, fLe, fGt, fGe, fEq, fNe, negW, tYes, R.g_boxes h]) (by simp [fnOf, sSeq2, sAsg, sRet, sDrop, sIf, sNil, sNever, sBreak, sCont, op1, op2, mVar, mC, gName, gTupN, gCons, gNil, mTup, mNew, aCons, aNil, aMax, tVal, tAnd, tOr, tNot, mAnd, mOr, mNot, mIf, mCallN, mChain, sFld, sPar, sPar3, sAug, sFldAug, mLen, mLenL, fIsN, fNotN, isNon, onI, fAdd, fSub, fNeg, fLt, fLe, fGt, fGe, fEq, fNe, negW, tYes, rowW, ix1])
  simp [F_do_number, b_do_number, fnOf, h0]
theorem St.do_nothing (R : St adr A S) {i b : Nat} (h : i < A.frames.length) (hb : b < (A.fr i).boxes.length) : Deed F_do_nothing adr A S i (.nothing b) .non (A.setBox i b .non) := by
  refine Deed.of ?_ (R.setBox h)
  have h0 := R.x_setBox (e := [some (.ref (adr .run)), some (.ref (adr (.frame i))), some (rowW (.nothing b))]) (v := .non) (mv := mC .non) (mo := op1 (fld cs_boxes "boxes") (mVar 1)) (mi := op2 fIx (mVar 2) (mC (.int 1))) h hb
    (by simp [fnOf, sSeq2, sAsg, sRet, sDrop, sIf, sNil, sNever, sBreak, sCont, op1, op2, mVar, mC, gName, gTupN, gCons, gNil, mTup, mNew, aCons, aNil, aMax, tVal, tAnd, tOr, tNot, mAnd, mOr, mNot, mIf, mCallN, mChain, sFld, sPar, sPar3, sAug, sFldAug, mLen, mLenL, fIsN, fNotN, isNon, onI, fAdd, fSub, fNeg, fLt, fLe, fGt, fGe, fEq, fNe, negW, tYes, rowW, ix2, valW]) (by simp [fnOf, sSeq2, sAsg, sRet, sDrop, sIf, sNil, sNever, sBreak, sCont, op1, op2, mVar, mC, gName, gTupN, gCons, gNil, mTup, mNew, aCons, aNil, aMax, tVal, tAnd, tOr, tNot, mAnd, mOr, mNot, mIf, mCallN, mChain, sFld, sPar, sPar3, sAug, sFldAug, mLen, mLenL, fIsN, fNotN, isNon, onI, fAdd, fSub, fNeg, fLt, fLe, fGt, fGe, fEq, fNe, negW, tYes, R.g_boxes h]) (by simp [fnOf, sSeq2, sAsg, sRet, sDrop, sIf, sNil, sNever, sBreak, sCont, op1, op2, mVar, mC, gName, gTupN, gCons, gNil, mTup, mNew, aCons, aNil, aMax, tVal, tAnd, tOr, tNot, mAnd, mOr, mNot, mIf, mCallN, mChain, sFld, sPar, sPar3, sAug, sFldAug, mLen, mLenL, fIsN, fNotN, isNon, onI, fAdd, fSub, fNeg, fLt, fLe, fGt, fGe, fEq, fNe, negW, tYes, rowW, ix1])
  simp [F_do_nothing, b_do_nothing, fnOf, h0]
theorem St.do_copy (R : St adr A S) {i b c : Nat} {v : Val} (h : i < A.frames.length) (hb : b < (A.fr i).boxes.length) (hc : (A.fr i).boxes[c]? = some v) : Deed F_do_copy adr A S i (.copy b c) .non (A.setBox i b v) := by
  refine Deed.of ?_ (R.setBox h)
  have h0 := R.x_setBox (e := [some (.ref (adr .run)), some (.ref (adr (.frame i))), some (rowW (.copy b c))]) (v := v) (mv := op2 fIx (op1 (fld cs_boxes "boxes") (mVar 1)) (op2 fIx (mVar 2) (mC (.int 2)))) (mo := op1 (fld cs_boxes "boxes") (mVar 1)) (mi := op2 fIx (mVar 2) (mC (.int 1))) h hb
    (by simp [fnOf, sSeq2, sAsg, sRet, sDrop, sIf, sNil, sNever, sBreak, sCont, op1, op2, mVar, mC, gName, gTupN, gCons, gNil, mTup, mNew, aCons, aNil, aMax, tVal, tAnd, tOr, tNot, mAnd, mOr, mNot, mIf, mCallN, mChain, sFld, sPar, sPar3, sAug, sFldAug, mLen, mLenL, fIsN, fNotN, isNon, onI, fAdd, fSub, fNeg, fLt, fLe, fGt, fGe, fEq, fNe, negW, tYes, rowW, ix2, R.g_boxes h, R.box h hc]) (by simp [fnOf, sSeq2, sAsg, sRet, sDrop, sIf, sNil, sNever, sBreak, sCont, op1, op2, mVar, mC, gName, gTupN, gCons, gNil, mTup, mNew, aCons, aNil, aMax, tVal, tAnd, tOr, tNot, mAnd, mOr, mNot, mIf, mCallN, mChain, sFld, sPar, sPar3, sAug, sFldAug, mLen, mLenL, fIsN, fNotN, isNon, onI, fAdd, fSub, fNeg, fLt, fLe, fGt, fGe, fEq, fNe, negW, tYes, R.g_boxes h]) (by simp [fnOf, sSeq2, sAsg, sRet, sDrop, sIf, sNil, sNever, sBreak, sCont, op1, op2, mVar, mC, gName, gTupN, gCons, gNil, mTup, mNew, aCons, aNil, aMax, tVal, tAnd, tOr, tNot, mAnd, mOr, mNot, mIf, mCallN, mChain, sFld, sPar, sPar3, sAug, sFldAug, mLen, mLenL, fIsN, fNotN, isNon, onI, fAdd, fSub, fNeg, fLt, fLe, fGt, fGe, fEq, fNe, negW, tYes, rowW, ix1])
  simp [F_do_copy, b_do_copy, fnOf, h0]
/-! ### reckoned -/
def lim (i : Int) : Prop := -1000000000 ≤ i ∧ i ≤ 1000000000
instance (i : Int) : Decidable (lim i) := inferInstanceAs (Decidable (_ ∧ _))
def Val.fits : Val → Prop
  | .num i => lim i
  | _ => True
def Rk.on : Rk → Int → Int → Int
  | .plus, i, j => i + j
  | .less, i, j => i - j
  | _, i, j => i * j
def reckon (k : Rk) (x y : Val) : Sum Str Val :=
  match k with
  | .same => .inr (.num (if x = y then 1 else 0))
  | .under => match x, y with
    | .num i, .num j => .inr (.num (if i < j then 1 else 0))
    | _, _ => .inl "number"
  | k => match x, y with
    | .num i, .num j => if lim (k.on i j) then .inr (.num (k.on i j)) else .inl "great"
    | _, _ => .inl "number"
def rkW : Sum Str Val → W
  | .inl f => .tup [.str f, .non]
  | .inr v => .tup [.non, valW v]
theorem inLine_lim {i : Int} (h : lim i) : inLine i = true := by
  obtain ⟨h1, h2⟩ := h
  simp only [inLine, Bool.and_eq_true, decide_eq_true_eq]
  omega
theorem eqW_str (S : Store) (a b : Str) : eqW S (.str a) (.str b) = some (a == b) := rfl
theorem str_ne {a b : Str} (h : (a == b) = false) : eqW S (.str a) (.str b) = some false := by rw [eqW_str, h]
theorem eqW_val (S : Store) (x y : Val) : eqW S (valW x) (valW y) = some (decide (x = y)) := by
  have ha : strOk "at" = true := by decide +kernel
  cases x <;> cases y <;> simp [valW, eqW, isSc, eqd, rd, rds, ha, eqds, Bool.beq_eq_decide_eq]
  exact Int.ofNat_inj
theorem fIs_int_val (v : Val) : fIs "int" (valW v) S = some (.bl (match v with | .num _ => true | _ => false)) := by
  cases v <;> simp [fIs, tyW, isTy, valW]
theorem fIs_tup_val (v : Val) : fIs "tuple" (valW v) S = some (.bl (match v with | .thg _ => true | _ => false)) := by
  cases v <;> simp [fIs, tyW, isTy, valW]
theorem valW_num (i : Int) : valW (.num i) = .int i := rfl
theorem valW_non : valW .non = .non := rfl
theorem fInt_bl (b : Bool) : fInt (.bl b) S = some (.int (if b then 1 else 0)) := rfl
theorem fIs_int (S : Store) (i : Int) : fIs "int" (.int i) S = some (.bl true) := by simp [fIs, tyW, isTy]
theorem chain_lim {e : Env} {z : Int} {m : ME} (h : m e S = some (.int z, S)) : mChain fLe fLe (op1 fNeg (mC (.int 1000000000))) m (mC (.int 1000000000)) e S = some (.bl (decide (lim z)), S) := by
  by_cases h1 : -1000000000 ≤ z
  · simp [fnOf, sSeq2, sAsg, sRet, sDrop, sIf, sNil, sNever, sBreak, sCont, op1, op2, mVar, mC, gName, gTupN, gCons, gNil, mTup, mNew, aCons, aNil, aMax, tVal, tAnd, tOr, tNot, mAnd, mOr, mNot, mIf, mCallN, mChain, sFld, sPar, sPar3, sAug, sFldAug, mLen, mLenL, fIsN, fNotN, isNon, onI, fAdd, fSub, fNeg, fLt, fLe, fGt, fGe, fEq, fNe, negW, tYes, h, h1, lim]
  · simp [fnOf, sSeq2, sAsg, sRet, sDrop, sIf, sNil, sNever, sBreak, sCont, op1, op2, mVar, mC, gName, gTupN, gCons, gNil, mTup, mNew, aCons, aNil, aMax, tVal, tAnd, tOr, tNot, mAnd, mOr, mNot, mIf, mCallN, mChain, sFld, sPar, sPar3, sAug, sFldAug, mLen, mLenL, fIsN, fNotN, isNon, onI, fAdd, fSub, fNeg, fLt, fLe, fGt, fGe, fEq, fNe, negW, tYes, h, h1, lim]
theorem s_same (k : Rk) : (k.w == ("same" : Str)) = decide (k = .same) := by cases k <;> decide +kernel
theorem s_under (k : Rk) : (k.w == ("under" : Str)) = decide (k = .under) := by cases k <;> decide +kernel
theorem s_plus (k : Rk) : (k.w == ("plus" : Str)) = decide (k = .plus) := by cases k <;> decide +kernel
theorem s_less (k : Rk) : (k.w == ("less" : Str)) = decide (k = .less) := by cases k <;> decide +kernel
theorem eqW_strs (S : Store) (a b : Str) : eqW S (.str a) (.str b) = some (a == b) := rfl
theorem reck_num (S : Store) (k : Rk) (i j : Int) (hk : k ≠ .same) (hx : inLine i = true) : F_reckoned [.str k.w, .int i, .int j] S = if k = .under then some (.tup [.non, .int (if i < j then 1 else 0)], S) else if lim (k.on i j) then some (.tup [.non, .int (k.on i j)], S) else some (.tup [.str "great", .non], S) := by
  cases k with
  | same => exact absurd rfl hk
  | under => simp [F_reckoned, b_reckoned, fnOf, sSeq2, sAsg, sRet, sDrop, sIf, sNil, sNever, sBreak, sCont, op1, op2, mVar, mC, gName, gTupN, gCons, gNil, mTup, mNew, aCons, aNil, aMax, tVal, tAnd, tOr, tNot, mAnd, mOr, mNot, mIf, mCallN, mChain, sFld, sPar, sPar3, sAug, sFldAug, mLen, mLenL, fIsN, fNotN, isNon, onI, fAdd, fSub, fNeg, fLt, fLe, fGt, fGe, fEq, fNe, negW, tYes, eqW_strs, s_same, s_under, fIs_int, fInt_bl]
  | plus => by_cases h1 : -1000000000 ≤ i + j <;> by_cases h2 : i + j ≤ 1000000000 <;> simp [F_reckoned, b_reckoned, fnOf, sSeq2, sAsg, sRet, sDrop, sIf, sNil, sNever, sBreak, sCont, op1, op2, mVar, mC, gName, gTupN, gCons, gNil, mTup, mNew, aCons, aNil, aMax, tVal, tAnd, tOr, tNot, mAnd, mOr, mNot, mIf, mCallN, mChain, sFld, sPar, sPar3, sAug, sFldAug, mLen, mLenL, fIsN, fNotN, isNon, onI, fAdd, fSub, fNeg, fLt, fLe, fGt, fGe, fEq, fNe, negW, tYes, eqW_strs, s_same, s_under, s_plus, fIs_int, fMul, hx, h1, h2, lim, Rk.on]
  | less => by_cases h1 : -1000000000 ≤ i - j <;> by_cases h2 : i - j ≤ 1000000000 <;> simp [F_reckoned, b_reckoned, fnOf, sSeq2, sAsg, sRet, sDrop, sIf, sNil, sNever, sBreak, sCont, op1, op2, mVar, mC, gName, gTupN, gCons, gNil, mTup, mNew, aCons, aNil, aMax, tVal, tAnd, tOr, tNot, mAnd, mOr, mNot, mIf, mCallN, mChain, sFld, sPar, sPar3, sAug, sFldAug, mLen, mLenL, fIsN, fNotN, isNon, onI, fAdd, fSub, fNeg, fLt, fLe, fGt, fGe, fEq, fNe, negW, tYes, eqW_strs, s_same, s_under, s_plus, s_less, fIs_int, fMul, hx, h1, h2, lim, Rk.on]
  | times => by_cases h1 : -1000000000 ≤ i * j <;> by_cases h2 : i * j ≤ 1000000000 <;> simp [F_reckoned, b_reckoned, fnOf, sSeq2, sAsg, sRet, sDrop, sIf, sNil, sNever, sBreak, sCont, op1, op2, mVar, mC, gName, gTupN, gCons, gNil, mTup, mNew, aCons, aNil, aMax, tVal, tAnd, tOr, tNot, mAnd, mOr, mNot, mIf, mCallN, mChain, sFld, sPar, sPar3, sAug, sFldAug, mLen, mLenL, fIsN, fNotN, isNon, onI, fAdd, fSub, fNeg, fLt, fLe, fGt, fGe, fEq, fNe, negW, tYes, eqW_strs, s_same, s_under, s_plus, s_less, fIs_int, fMul, hx, h1, h2, lim, Rk.on]
theorem reckoned_of (S : Store) (k : Rk) (x y : Val) (hx : x.fits) : F_reckoned [.str k.w, valW x, valW y] S = some (rkW (reckon k x y), S) := by
  have i1 := fIs_int_val (S := S) x
  have i2 := fIs_int_val (S := S) y
  by_cases hk : k = .same
  · subst hk
    simp [F_reckoned, b_reckoned, fnOf, sSeq2, sAsg, sRet, sDrop, sIf, sNil, sNever, sBreak, sCont, op1, op2, mVar, mC, gName, gTupN, gCons, gNil, mTup, mNew, aCons, aNil, aMax, tVal, tAnd, tOr, tNot, mAnd, mOr, mNot, mIf, mCallN, mChain, sFld, sPar, sPar3, sAug, sFldAug, mLen, mLenL, fIsN, fNotN, isNon, onI, fAdd, fSub, fNeg, fLt, fLe, fGt, fGe, fEq, fNe, negW, tYes, eqW_strs, s_same, eqW_val, fInt_bl, rkW, reckon, valW_num]
  · cases x with
    | num i => cases y with
      | num j =>
        rw [valW_num, valW_num, reck_num S k i j hk (inLine_lim hx)]
        cases k <;> simp [reckon, rkW, valW_num] <;> first | exact absurd rfl hk | (split <;> simp [rkW, valW_num])
      | non => cases k <;> simp [F_reckoned, b_reckoned, fnOf, sSeq2, sAsg, sRet, sDrop, sIf, sNil, sNever, sBreak, sCont, op1, op2, mVar, mC, gName, gTupN, gCons, gNil, mTup, mNew, aCons, aNil, aMax, tVal, tAnd, tOr, tNot, mAnd, mOr, mNot, mIf, mCallN, mChain, sFld, sPar, sPar3, sAug, sFldAug, mLen, mLenL, fIsN, fNotN, isNon, onI, fAdd, fSub, fNeg, fLt, fLe, fGt, fGe, fEq, fNe, negW, tYes, eqW_strs, s_same, i1, i2, rkW, reckon] at hk ⊢
      | thg q => cases k <;> simp [F_reckoned, b_reckoned, fnOf, sSeq2, sAsg, sRet, sDrop, sIf, sNil, sNever, sBreak, sCont, op1, op2, mVar, mC, gName, gTupN, gCons, gNil, mTup, mNew, aCons, aNil, aMax, tVal, tAnd, tOr, tNot, mAnd, mOr, mNot, mIf, mCallN, mChain, sFld, sPar, sPar3, sAug, sFldAug, mLen, mLenL, fIsN, fNotN, isNon, onI, fAdd, fSub, fNeg, fLt, fLe, fGt, fGe, fEq, fNe, negW, tYes, eqW_strs, s_same, i1, i2, rkW, reckon] at hk ⊢
    | non => cases k <;> simp [F_reckoned, b_reckoned, fnOf, sSeq2, sAsg, sRet, sDrop, sIf, sNil, sNever, sBreak, sCont, op1, op2, mVar, mC, gName, gTupN, gCons, gNil, mTup, mNew, aCons, aNil, aMax, tVal, tAnd, tOr, tNot, mAnd, mOr, mNot, mIf, mCallN, mChain, sFld, sPar, sPar3, sAug, sFldAug, mLen, mLenL, fIsN, fNotN, isNon, onI, fAdd, fSub, fNeg, fLt, fLe, fGt, fGe, fEq, fNe, negW, tYes, eqW_strs, s_same, i1, i2, rkW, reckon] at hk ⊢
    | thg q => cases k <;> simp [F_reckoned, b_reckoned, fnOf, sSeq2, sAsg, sRet, sDrop, sIf, sNil, sNever, sBreak, sCont, op1, op2, mVar, mC, gName, gTupN, gCons, gNil, mTup, mNew, aCons, aNil, aMax, tVal, tAnd, tOr, tNot, mAnd, mOr, mNot, mIf, mCallN, mChain, sFld, sPar, sPar3, sAug, sFldAug, mLen, mLenL, fIsN, fNotN, isNon, onI, fAdd, fSub, fNeg, fLt, fLe, fGt, fGe, fEq, fNe, negW, tYes, eqW_strs, s_same, i1, i2, rkW, reckon] at hk ⊢
end
end Gm

set_option linter.all false
namespace Gm
open PySem (Str)
section
variable {adr : Role → Nat} {A : Ma} {S : Store} {e : Env}
theorem St.do_reckoned (R : St adr A S) {i b c d : Nat} {k : Rk} {x y : Val} (h : i < A.frames.length) (hb : b < (A.fr i).boxes.length) (hc : (A.fr i).boxes[c]? = some x) (hd : (A.fr i).boxes[d]? = some y) (hx : x.fits) :
    Deed F_do_reckoned adr A S i (.reck k b c d) (match reckon k x y with | .inl f => .str f | .inr _ => .non) (match reckon k x y with | .inl _ => A | .inr v => A.setBox i b v) := by
  have hr := reckoned_of S k x y hx
  have hbc := R.box h hc
  have hbd := R.box h hd
  have hg := R.g_boxes h
  cases q : reckon k x y with
  | inl f =>
    rw [q] at hr
    refine Deed.of ?_ ⟨R, Go.refl⟩
    simp only [rkW] at hr
    simp [F_do_reckoned, b_do_reckoned, fnOf, sSeq2, sAsg, sRet, sDrop, sIf, sNil, sNever, sBreak, sCont, op1, op2, mVar, mC, gName, gTupN, gCons, gNil, mTup, mNew, aCons, aNil, aMax, tVal, tAnd, tOr, tNot, mAnd, mOr, mNot, mIf, mCallN, mChain, sFld, sPar, sPar3, sAug, sFldAug, mLen, mLenL, fIsN, fNotN, isNon, onI, fAdd, fSub, fNeg, fLt, fLe, fGt, fGe, fEq, fNe, negW, tYes, rowW, hg, hbc, hbd, hr]
  | inr v =>
    rw [q] at hr
    refine Deed.of ?_ (R.setBox (v := v) (k := b) h)
    simp only [rkW] at hr
    have h0 := R.x_setBox (e := [some (.ref (adr .run)), some (.ref (adr (.frame i))), some (rowW (.reck k b c d)), some (.str k.w), some (natW b), some (natW c), some (natW d), some .non, some (valW v)]) (v := v) (mv := mVar 8) (mo := op1 (fld cs_boxes "boxes") (mVar 1)) (mi := mVar 4) h hb
      (by simp [mVar]) (by simp [fnOf, sSeq2, sAsg, sRet, sDrop, sIf, sNil, sNever, sBreak, sCont, op1, op2, mVar, mC, gName, gTupN, gCons, gNil, mTup, mNew, aCons, aNil, aMax, tVal, tAnd, tOr, tNot, mAnd, mOr, mNot, mIf, mCallN, mChain, sFld, sPar, sPar3, sAug, sFldAug, mLen, mLenL, fIsN, fNotN, isNon, onI, fAdd, fSub, fNeg, fLt, fLe, fGt, fGe, fEq, fNe, negW, tYes, hg]) (by simp [mVar])
    simp only [rowW] at h0
    simp [F_do_reckoned, b_do_reckoned, fnOf, sSeq2, sAsg, sRet, sDrop, sIf, sNil, sNever, sBreak, sCont, op1, op2, mVar, mC, gName, gTupN, gCons, gNil, mTup, mNew, aCons, aNil, aMax, tVal, tAnd, tOr, tNot, mAnd, mOr, mNot, mIf, mCallN, mChain, sFld, sPar, sPar3, sAug, sFldAug, mLen, mLenL, fIsN, fNotN, isNon, onI, fAdd, fSub, fNeg, fLt, fLe, fGt, fGe, fEq, fNe, negW, tYes, rowW, hg, hbc, hbd, hr, h0]
theorem St.x_setRow (R : St adr A S) {i r : Nat} {mo m : ME} (h : i < A.frames.length) (h1 : m e S = some (natW r, S)) (h2 : mo e S = some (.ref (adr (.frame i)), S)) :
    sFld cs_row mo "row" m e S = some (.nx e, S.set (adr (.frame i)) (.ins "Frame" (Ma.frameFs (.ref (adr (.boxes i))) { A.fr i with row := r }))) := by
  have hl : putF "row" (natW r) (Ma.frameFs (.ref (adr (.boxes i))) (A.fr i)) = Ma.frameFs (.ref (adr (.boxes i))) { A.fr i with row := r } := rfl
  have hn : (Ma.frameFs (.ref (adr (.boxes i))) (A.fr i)).length < 1000 := by simp [Ma.frameFs]
  simp only [sFld, h1, h2, R.o_frame h, show ("Frame" : Str) ∈ cs_row by decide, hn, and_self, if_true, hl]
theorem St.do_go (R : St adr A S) {i r : Nat} (h : i < A.frames.length) : Deed F_do_go adr A S i (.go r) .non (A.setRow i r) := by
  refine Deed.of ?_ (R.setRow h)
  have h0 := R.x_setRow (e := [some (.ref (adr .run)), some (.ref (adr (.frame i))), some (rowW (.go r))]) (r := r) (mo := mVar 1) (m := op2 fIx (mVar 2) (mC (.int 1))) h (by simp [fnOf, sSeq2, sAsg, sRet, sDrop, sIf, sNil, sNever, sBreak, sCont, op1, op2, mVar, mC, gName, gTupN, gCons, gNil, mTup, mNew, aCons, aNil, aMax, tVal, tAnd, tOr, tNot, mAnd, mOr, mNot, mIf, mCallN, mChain, sFld, sPar, sPar3, sAug, sFldAug, mLen, mLenL, fIsN, fNotN, isNon, onI, fAdd, fSub, fNeg, fLt, fLe, fGt, fGe, fEq, fNe, negW, tYes, rowW, ix1]) (by simp [mVar])
  simp [F_do_go, b_do_go, fnOf, h0]
theorem natW_add (S : Store) (n : Nat) : fAdd (natW n) (.int 1) S = some (natW (n + 1)) := rfl
theorem St.do_if (R : St adr A S) {i c r : Nat} {v : Val} (h : i < A.frames.length) (hc : (A.fr i).boxes[c]? = some v) : Deed F_do_if adr A S i (.iff c r) .non (A.setRow i (if truth v then r else (A.fr i).row + 1)) := by
  refine Deed.of ?_ (R.setRow h)
  have hb := R.box h hc
  have ht := is_true_of S v
  have h0 := R.x_setRow (e := [some (.ref (adr .run)), some (.ref (adr (.frame i))), some (rowW (.iff c r))]) (r := if truth v then r else (A.fr i).row + 1) (mo := mVar 1)
    (m := mIf (tVal (mCallN 1 F_is_true (aCons (op2 fIx (op1 (fld cs_boxes "boxes") (mVar 1)) (op2 fIx (mVar 2) (mC (.int 1)))) aNil))) (op2 fIx (mVar 2) (mC (.int 2))) (op2 fAdd (op1 (fld cs_row "row") (mVar 1)) (mC (.int 1)))) h
    (by cases q : truth v <;> simp [mIf, tVal, mCallN, aCons, aNil, op2, op1, mVar, mC, rowW, ix1, ix2, R.g_boxes h, hb, ht, q, R.g_row h, natW_add]) (by simp [mVar])
  simp [F_do_if, b_do_if, fnOf, h0]
theorem meth0_of {c m : Str} {n : Nat} {F : Fn} {mo : ME} {a : Nat} {fs : List (Str × W)} (h1 : mo e S = some (.ref a, S)) (h2 : S[a]? = some (.ins c fs)) (h3 : fs.lookup m = none) (h5 : 1 = n) : mMethN c m n F mo aNil e S = F [.ref a] S :=
  meth_of h1 h2 h3 (by simp [aNil]) h5
theorem St.m_event (R : St adr A S) {v : Val} {mo m : ME} (h : A.Has v) (h1 : mo e S = some (.ref (adr .world), S)) (h2 : m e S = some (valW v, S)) : mMethN "World" "as_event" 2 F_World_as_event mo (aCons m aNil) e S = some (A.evOf v, S) := by
  exact (meth_of (ws := [valW v]) (S2 := S) h1 R.o_world rfl (by simp [aCons, aNil, h2]) rfl).trans (R.as_event h)
theorem St.m_kind (R : St adr A S) {v : Val} {mo m : ME} (h : A.Has v) (h1 : mo e S = some (.ref (adr .world), S)) (h2 : m e S = some (valW v, S)) : mMethN "World" "kind_of" 2 F_World_kind_of mo (aCons m aNil) e S = some (.str (A.kindOf v), S) := by
  exact (meth_of (ws := [valW v]) (S2 := S) h1 R.o_world rfl (by simp [aCons, aNil, h2]) rfl).trans (R.kind_of h)
theorem St.m_rows (R : St adr A S) {b : Nat} {bd : Bd} {mo m : ME} (h : A.plan[b]? = some bd) (h1 : mo e S = some (.ref (adr .world), S)) (h2 : m e S = some (natW b, S)) : mMethN "World" "rows_of" 2 F_World_rows_of mo (aCons m aNil) e S = some (.tup (bd.rows.map rowW), S) := by
  exact (meth_of (ws := [natW b]) (S2 := S) h1 R.o_world rfl (by simp [aCons, aNil, h2]) rfl).trans (R.rows_of h)
theorem St.do_tell (R : St adr A S) {i c : Nat} {v : Val} (h : i < A.frames.length) (hc : (A.fr i).boxes[c]? = some v) (hv : A.Has v) (ht : A.told.length < 100000) : Deed F_do_tell adr A S i (.tell c) .non { A with told := A.told ++ [A.evOf v] } := by
  refine Deed.of ?_ (R.setTold _)
  have hb := R.box h hc
  have h0 : mMethN "World" "as_event" 2 F_World_as_event (op1 (fld cs_world "world") (mVar 0)) (aCons (op2 fIx (op1 (fld cs_boxes "boxes") (mVar 1)) (op2 fIx (mVar 2) (mC (.int 1)))) aNil) [some (.ref (adr .run)), some (.ref (adr (.frame i))), some (rowW (.tell c))] S = some (A.evOf v, S) :=
    R.m_event hv (by simp [fnOf, sSeq2, sAsg, sRet, sDrop, sIf, sNil, sNever, sBreak, sCont, op1, op2, mVar, mC, gName, gTupN, gCons, gNil, mTup, mNew, aCons, aNil, aMax, tVal, tAnd, tOr, tNot, mAnd, mOr, mNot, mIf, mCallN, mChain, sFld, sPar, sPar3, sAug, sFldAug, mLen, mLenL, fIsN, fNotN, isNon, onI, fAdd, fSub, fNeg, fLt, fLe, fGt, fGe, fEq, fNe, negW, tYes, R.g_world]) (by simp [fnOf, sSeq2, sAsg, sRet, sDrop, sIf, sNil, sNever, sBreak, sCont, op1, op2, mVar, mC, gName, gTupN, gCons, gNil, mTup, mNew, aCons, aNil, aMax, tVal, tAnd, tOr, tNot, mAnd, mOr, mNot, mIf, mCallN, mChain, sFld, sPar, sPar3, sAug, sFldAug, mLen, mLenL, fIsN, fNotN, isNon, onI, fAdd, fSub, fNeg, fLt, fLe, fGt, fGe, fEq, fNe, negW, tYes, rowW, ix1, R.g_boxes h, hb])
  simp [F_do_tell, b_do_tell, fnOf, sDrop, mAppend, op1, mVar, R.g_world, R.g_told, R.o_told, h0, ht]
/-! ### the entries -/
theorem kTup_key (k : Str × Str) : kTup (keyW k) = some [.inr k.1, .inr k.2] := rfl
theorem same_key (k l : Str × Str) : sameK true (keyW k) (keyW l) = decide (k = l) := by
  obtain ⟨a, b⟩ := k
  obtain ⟨c, d⟩ := l
  simp [sameK, kTup_key]
def putE (es : List ((Str × Str) × Nat)) (k : Str × Str) (n : Nat) : List ((Str × Str) × Nat) :=
  if (es.any fun e => decide (e.1 = k)) = true then es.map (fun e => if e.1 = k then (e.1, n) else e) else es ++ [(k, n)]
def getE (es : List ((Str × Str) × Nat)) (k : Str × Str) : Option Nat := (es.find? fun e => decide (e.1 = k)).map (·.2)
theorem dVal_key (es : List ((Str × Str) × Nat)) (k : Str × Str) : dVal true (es.map fun e => (keyW e.1, natW e.2)) (keyW k) = (getE es k).map natW := by
  unfold dVal getE
  induction es with
  | nil => rfl
  | cons e es ih =>
    rw [List.map_cons, List.find?_cons, List.find?_cons, same_key]
    by_cases h : e.1 = k
    · simp [h]
    · simp only [h, decide_false]
      exact ih
theorem dPut_key (es : List ((Str × Str) × Nat)) (k : Str × Str) (n : Nat) : dPut true (es.map fun e => (keyW e.1, natW e.2)) (keyW k) (natW n) = (putE es k n).map fun e => (keyW e.1, natW e.2) := by
  unfold dPut putE
  have e1 : ((es.map fun e => (keyW e.1, natW e.2)).any fun kv => sameK true kv.1 (keyW k)) = es.any fun e => decide (e.1 = k) := by
    rw [List.any_map]
    congr 1
    funext e
    exact same_key _ _
  rw [e1]
  split
  · rw [List.map_map, List.map_map]
    refine List.map_congr_left fun e _ => ?_
    simp only [Function.comp, same_key]
    by_cases h : e.1 = k <;> simp [h]
  · rw [List.map_append]
    rfl
theorem St.do_anew (R : St adr A S) {i : Nat} {k : Str × Str} {b : Nat} (hl : A.entries.length < 100000) : Deed F_do_anew adr A S i (.anew k.1 k.2 b) .non { A with entries := putE A.entries k b } := by
  refine Deed.of ?_ (R.setEntries _)
  have h1 : F_Rows_told_anew [.ref (adr .run), keyW k, natW b] S = some (.non, S.set (adr .entriesD) (.dct true ((putE A.entries k b).map fun e => (keyW e.1, natW e.2)))) := by
    simp [F_Rows_told_anew, b_Rows_told_anew, fnOf, sPutD, op1, mVar, R.g_world, R.g_entries, R.o_entries, kOk, kTup_key, hl, dPut_key]
  have h0 : mMethN "Plain" "told_anew" 3 F_Rows_told_anew (mVar 0) (aCons (mTup (aCons (mVar 4) (aCons (mVar 5) aNil))) (aCons (mVar 6) aNil)) [some (.ref (adr .run)), some (.ref (adr (.frame i))), some (rowW (.anew k.1 k.2 b)), some (.str "anew"), some (.str k.1), some (.str k.2), some (natW b)] S = some (.non, S.set (adr .entriesD) (.dct true ((putE A.entries k b).map fun e => (keyW e.1, natW e.2)))) := by
    exact (meth_of (ws := [keyW k, natW b]) (S2 := S) (a := adr .run) (by simp [mVar]) R.o_run rfl (by simp [aCons, aNil, mTup, mVar, keyW]) rfl).trans h1
  simp only [rowW] at h0
  simp [F_do_anew, b_do_anew, fnOf, sSeq2, sAsg, sDrop, mVar, gTupN, gCons, gName, gNil, rowW, h0]
end
end Gm

set_option linter.all false
namespace Gm
open PySem (Str)
section
variable {adr : Role → Nat} {A A1 A2 : Ma} {S S1 S2 : Store} {e : Env}
theorem To.trans (x : To adr A S A1 S1) (y : To adr A1 S1 A2 S2) : To adr A S A2 S2 := ⟨y.1, x.2.trans y.2⟩
theorem To.refl (R : St adr A S) : To adr A S A S := ⟨R, Go.refl⟩
def Ma.bdOf (A : Ma) (f : Fr) : Option Bd := A.plan[f.body]?
def Ma.rowAt (A : Ma) (f : Fr) : Option Row := (A.bdOf f).bind fun bd => bd.rows[f.row]?
def Ma.gotA (A : Ma) (j b : Nat) (v : Val) : Ma := A.mod j { A.fr j with boxes := (A.fr j).boxes.set b v, row := (A.fr j).row + 1 }
theorem Ma.gotA_eq (A : Ma) {j b : Nat} {v : Val} (h : j < A.frames.length) : (A.setBox j b v).setRow j ((A.fr j).row + 1) = A.gotA j b v := by
  unfold setRow gotA
  rw [show (A.setBox j b v).fr j = { A.fr j with boxes := (A.fr j).boxes.set b v } by unfold setBox; rw [mod_fr A _ h, if_pos rfl]]
  unfold setBox mod
  simp
theorem St.x_augRow (R : St adr A S) {i : Nat} {mo m : ME} (h : i < A.frames.length) (h1 : m e S = some (.int 1, S)) (h2 : mo e S = some (.ref (adr (.frame i)), S)) :
    sFldAug cs_row mo "row" (fun i j => i + j) m e S = some (.nx e, S.set (adr (.frame i)) (.ins "Frame" (Ma.frameFs (.ref (adr (.boxes i))) { A.fr i with row := (A.fr i).row + 1 }))) := by
  have hl : putF "row" (.int (((A.fr i).row : Int) + 1)) (Ma.frameFs (.ref (adr (.boxes i))) (A.fr i)) = Ma.frameFs (.ref (adr (.boxes i))) { A.fr i with row := (A.fr i).row + 1 } := rfl
  have hn : (Ma.frameFs (.ref (adr (.boxes i))) (A.fr i)).length < 1000 := by simp [Ma.frameFs]
  have hk : (Ma.frameFs (.ref (adr (.boxes i))) (A.fr i)).lookup ("row" : Str) = some (.int (A.fr i).row) := rfl
  simp only [sFldAug, h1, h2, R.o_frame h, show ("Frame" : Str) ∈ cs_row by decide, hn, and_self, if_true, hl, hk]
theorem rowW_1 {r : Row} {b : Nat} {n : Str} {a : Nat} {as : List Nat} (h : r = .call b n a as) : fIx (rowW r) (.int 1) S = some (natW b) := by
  subst h
  exact ix1
theorem St.rowAt_ix (R : St adr A S) {f : Fr} {r : Row} (h : A.rowAt f = some r) : ∃ bd, A.plan[f.body]? = some bd ∧ bd.rows[f.row]? = some r := by
  unfold Ma.rowAt Ma.bdOf at h
  cases q : A.plan[f.body]? with
  | none => rw [q] at h; cases h
  | some bd => rw [q] at h; exact ⟨bd, rfl, h⟩
theorem rows_ix {bd : Bd} {k : Nat} {r : Row} (h : bd.rows[k]? = some r) : fIx (.tup (bd.rows.map rowW)) (natW k) S = some (rowW r) :=
  fIx_nat rfl (by rw [List.getElem?_map, h]; rfl)
theorem St.got (R : St adr A S) {j b a : Nat} {n : Str} {as : List Nat} {v : Val} (h : j < A.frames.length) (hr : A.rowAt (A.fr j) = some (.call b n a as)) (hb : b < (A.fr j).boxes.length) :
    ∃ S', F_Rows_got [.ref (adr .run), .ref (adr (.frame j)), valW v] S = some (.non, S') ∧ To adr A S (A.gotA j b v) S' := by
  obtain ⟨bd, hbd, hrw⟩ := R.rowAt_ix hr
  have t1 := R.setBox (k := b) (v := v) h
  have h' : j < (A.setBox j b v).frames.length := by rw [Ma.setBox, Ma.mod_len]; exact h
  have hfr : (A.setBox j b v).fr j = { A.fr j with boxes := (A.fr j).boxes.set b v } := by unfold Ma.setBox; rw [Ma.mod_fr A _ h, if_pos rfl]
  have t2 := t1.1.setRow (r := (A.fr j).row + 1) h'
  have t := To.trans t1 t2
  rw [Ma.gotA_eq A h] at t
  refine ⟨_, ?_, t⟩
  have hm : mMethN "World" "rows_of" 2 F_World_rows_of (op1 (fld cs_world "world") (mVar 0)) (aCons (op1 (fld cs_body "body") (mVar 1)) aNil) [some (.ref (adr .run)), some (.ref (adr (.frame j))), some (valW v), none] S = some (.tup (bd.rows.map rowW), S) :=
    R.m_rows hbd (by simp [op1, mVar, R.g_world]) (by simp [op1, mVar, R.g_body h])
  have hix : fIx (.tup (bd.rows.map rowW)) (natW (A.fr j).row) S = some (rowW (.call b n a as)) := rows_ix hrw
  have x1 := R.x_setBox (k := b) (e := [some (.ref (adr .run)), some (.ref (adr (.frame j))), some (valW v), some (rowW (.call b n a as))]) (v := v) (mv := mVar 2) (mo := op1 (fld cs_boxes "boxes") (mVar 1)) (mi := op2 fIx (mVar 3) (mC (.int 1))) h hb
    (by simp [mVar]) (by simp [op1, mVar, R.g_boxes h]) (by simp [op2, mVar, mC, rowW_1 rfl])
  have x2 := t1.1.x_augRow (e := [some (.ref (adr .run)), some (.ref (adr (.frame j))), some (valW v), some (rowW (.call b n a as))]) (mo := mVar 1) (m := mC (.int 1)) h' (by simp [mC]) (by simp [mVar])
  rw [hfr] at x2
  simp only [hfr]
  simp [F_Rows_got, b_Rows_got, fnOf, sSeq2, sAsg, op2, hm, op1, mVar, R.g_row h, hix, gName, x1, x2]
/-! ### the last frame goes -/
def Ma.popped (A : Ma) : Ma := { A with frames := A.frames.dropLast }
theorem Ma.popped_fr (A : Ma) {i : Nat} (h : i < A.popped.frames.length) : A.popped.fr i = A.fr i := by
  unfold popped fr at *
  simp only [List.getD_eq_getElem?_getD, List.getElem?_dropLast] at *
  rw [if_pos (by simpa using h)]
theorem St.pop (R : St adr A S) : To adr A S A.popped (S.set (adr .framesL) (.lst ((List.range A.popped.frames.length).map fun i => .ref (adr (.frame i))))) := by
  have hl : A.popped.frames.length ≤ A.frames.length := by simp [Ma.popped]
  have hlt : ∀ {i}, i < A.popped.frames.length → i < A.frames.length := fun h => Nat.lt_of_lt_of_le h hl
  have hv : ∀ r', A.popped.live r' → A.live r' := fun r h => by cases r <;> first | exact hlt h | exact h
  refine ⟨⟨fun r hr => ?_, fun r1 r2 h1 h2 => R.inj _ _ (hv _ h1) (hv _ h2)⟩, ⟨by rw [List.length_set]; exact Nat.le_refl _, fun i hi h => ⟨?_, fun ⟨r', h1, h2⟩ => h ⟨r', hv _ h1, h2⟩⟩⟩⟩
  · by_cases e : r = .framesL
    · subst e
      rw [List.getElem?_set_self (R.lt (r := .framesL) trivial)]
      rfl
    · rw [List.getElem?_set_ne fun z => e (R.inj _ _ (hv _ hr) (show A.live .framesL from trivial) z.symm), R.ob r (hv _ hr)]
      cases r with
      | framesL => exact absurd rfl e
      | frame i => simp only [Ma.ob, Ma.popped_fr A hr]
      | boxes i => simp only [Ma.ob, Ma.popped_fr A hr]
      | _ => rfl
  · rw [List.getElem?_set_ne fun z => h ⟨.framesL, trivial, z⟩]
def Ma.giveA (A : Ma) (v : Val) : Ma :=
  if A.frames.length ≤ 1 then { A.popped with ending := .tup [.str "gave", A.evOf v] } else
    match A.rowAt (A.fr (A.frames.length - 2)) with
    | some (.call b _ _ _) => A.popped.gotA (A.frames.length - 2) b v
    | _ => A.popped
theorem dropLast_range_map (n : Nat) (f : Nat → W) : ((List.range n).map f).dropLast = (List.range (n - 1)).map f := by
  apply List.ext_getElem?
  intro i
  rw [List.getElem?_dropLast]
  by_cases h : i < n - 1
  · simp [h, List.getElem?_range (show i < n by omega)]
  · simp [h]
theorem St.given (R : St adr A S) {v : Val} (hn : 0 < A.frames.length) (hv : A.Has v)
    (hw : 1 < A.frames.length → ∃ b n a as, A.rowAt (A.fr (A.frames.length - 2)) = some (.call b n a as) ∧ b < (A.fr (A.frames.length - 2)).boxes.length) :
    ∃ S', F_Rows_given [.ref (adr .run), valW v] S = some (.non, S') ∧ To adr A S (A.giveA v) S' := by
  have t1 := R.pop
  have hpl : A.popped.frames.length = A.frames.length - 1 := by simp [Ma.popped]
  have t2 : To adr A.popped (S.set (adr .framesL) (.lst ((List.range A.popped.frames.length).map fun i => .ref (adr (.frame i))))) A.popped _ := t1.1.more (.lst [])
  have t12 := To.trans t1 t2
  have hpop : mPop (op1 (fld cs_frames "frames") (mVar 0)) [some (.ref (adr .run)), some (valW v)] S = some (.ref (adr (.frame (A.frames.length - 1))), S.set (adr .framesL) (.lst ((List.range A.popped.frames.length).map fun i => .ref (adr (.frame i))))) := by
    have hlen : ((List.range A.frames.length).map fun i => W.ref (adr (.frame i)))[((List.range A.frames.length).map fun i => W.ref (adr (.frame i))).length - 1]? = some (.ref (adr (.frame (A.frames.length - 1)))) := by
      rw [List.length_map, List.length_range, List.getElem?_map, List.getElem?_range (by omega)]
      rfl
    simp only [mPop, op1, mVar, List.getElem?_cons_zero, R.g_frames, R.o_frames, hlen, dropLast_range_map, hpl]
  have hev : A.popped.evOf v = A.evOf v := by cases v <;> rfl
  have hv' : A.popped.Has v := by cases v <;> exact hv
  generalize hS1 : S.set (adr .framesL) (.lst ((List.range A.popped.frames.length).map fun i => .ref (adr (.frame i)))) = S1 at *
  have hfr1 : (S1 ++ [Ob.lst []])[adr .framesL]? = some (.lst ((List.range A.popped.frames.length).map fun i => .ref (adr (.frame i)))) := t2.1.o_frames
  have hnew : (S1 ++ [Ob.lst []])[S1.length]? = some (.lst []) := List.getElem?_concat_length
  have heq : op2 fEqL (op1 (fld cs_frames "frames") (mVar 0)) (mNew (aMax aNil)) [some (.ref (adr .run)), some (valW v)] S1 = some (.bl (decide (A.popped.frames.length = 0)), S1 ++ [.lst []]) := by
    have hE : fEqL (.ref (adr .framesL)) (.ref S1.length) (S1 ++ [.lst []]) = some (.bl (decide (A.popped.frames.length = 0))) := by
      cases hz : A.popped.frames.length with
      | zero =>
        rw [hz] at hfr1
        simp [fEqL, hfr1, fEq, eqW, isSc, rd, rds, eqd, eqds]
      | succ m =>
        rw [hz] at hfr1
        simp [fEqL, hfr1]
    simp only [op2, op1, mVar, List.getElem?_cons_zero, t1.1.g_frames, mNew, aMax, aNil, List.length_nil, Nat.zero_le, if_true, hE]
  by_cases h1 : A.frames.length ≤ 1
  · have hz : A.popped.frames.length = 0 := by omega
    have t3 := t2.1.setEnd (.tup [.str "gave", A.evOf v])
    refine ⟨(S1 ++ [Ob.lst []]).set (adr .run) (.ins "Plain" (Ma.runFs adr { A.popped with ending := .tup [.str "gave", A.evOf v] })), ?_, ?_⟩
    rotate_left
    · have := To.trans t12 t3
      unfold Ma.giveA
      rw [if_pos h1]
      exact this
    · have hm := t2.1.m_event (e := [some (.ref (adr .run)), some (valW v)]) (mo := op1 (fld cs_world "world") (mVar 0)) (m := mVar 1) hv' (by simp [op1, mVar, t2.1.g_world]) (by simp [mVar])
      rw [hev] at hm
      have hk : putF "ending" (.tup [.str "gave", A.evOf v]) (A.popped.runFs adr) = Ma.runFs adr { A.popped with ending := .tup [.str "gave", A.evOf v] } := rfl
      have hn' : (A.popped.runFs adr).length < 1000 := by simp [Ma.runFs]
      simp [F_Rows_given, b_Rows_given, fnOf, sSeq2, sDrop, hpop, sIf, tVal, heq, hz, sFld, mTup, aCons, aNil, hm, mVar, mC, t2.1.o_run, show ("Plain" : Str) ∈ cs_ending by decide, hk, hn']
  · obtain ⟨b, n, a, as, hr, hb⟩ := hw (by omega)
    have hz : A.popped.frames.length ≠ 0 := by omega
    have hj : A.frames.length - 2 < A.popped.frames.length := by omega
    have hfj := A.popped_fr hj
    obtain ⟨S3, e3, t3⟩ := t2.1.got (v := v) (b := b) (n := n) (a := a) (as := as) hj (by rw [hfj]; exact hr) (by rw [hfj]; exact hb)
    refine ⟨S3, ?_, ?_⟩
    rotate_left
    · have := To.trans t12 t3
      unfold Ma.giveA
      rw [if_neg h1, hr]
      exact this
    · have hl : fIx (.ref (adr .framesL)) (.int (-1)) (S1 ++ [.lst []]) = some (.ref (adr (.frame (A.frames.length - 2)))) := by
        refine fIx_last (ws := (List.range A.popped.frames.length).map fun i => .ref (adr (.frame i))) (by simp only [seqOf, hfr1]) ?_
        rw [List.length_map, List.length_range, List.getElem?_map, List.getElem?_range (by omega), hpl]
        rfl
      have hm : mMethN "Plain" "got" 3 F_Rows_got (mVar 0) (aCons (op2 fIx (op1 (fld cs_frames "frames") (mVar 0)) (op1 fNeg (mC (.int 1)))) (aCons (mVar 1) aNil)) [some (.ref (adr .run)), some (valW v)] (S1 ++ [.lst []]) = some (.non, S3) :=
        (meth_of (ws := [.ref (adr (.frame (A.frames.length - 2))), valW v]) (S2 := S1 ++ [.lst []]) (a := adr .run) (by simp [mVar]) t2.1.o_run rfl (by simp [aCons, aNil, op2, op1, mVar, mC, fNeg, t2.1.g_frames, hl]) rfl).trans e3
      simp [F_Rows_given, b_Rows_given, fnOf, sSeq2, sDrop, hpop, sIf, tVal, heq, hz, hm]
end
end Gm

set_option linter.all false
namespace Gm
open PySem (Str)
section
variable {adr : Role → Nat} {A A1 A2 : Ma} {S S0 S1 S2 S' : Store} {e : Env}
theorem St.grow (R : St adr A S) (hl : S.length ≤ S'.length) (hk : ∀ i, i < S.length → S'[i]? = S[i]?) : To adr A S A S' :=
  ⟨⟨fun r h => by rw [hk _ (R.lt h)]; exact R.ob r h, R.inj⟩, ⟨hl, fun i hi h => ⟨hk i hi, h⟩⟩⟩
theorem compN_pure {s : Src} {g : MG} {t : MT} {m : ME} {vs : List Nat} (ws us : List W) (hs : ∀ i : Nat, i ≤ ws.length → s i S = some ws[i]?) (hl : ws.length = us.length) (hlen : ws.length < 100000)
    (hb : ∀ (i : Nat) (w : W), ws[i]? = some w → ∃ e1 u, g w (wipe e vs) S = some (e1, S) ∧ t e1 S = some (true, S) ∧ m e1 S = some (u, S) ∧ us[i]? = some u) : compN s g t m vs turns 0 [] e S = some (us, S) := by
  have main : ∀ n i, ws.length - i < n → i ≤ ws.length → compN s g t m vs n i (us.take i) e S = some (us, S) := by
    intro n
    induction n with
    | zero => intro i h; omega
    | succ n ih =>
      intro i h1 h2
      rw [compN, hs i h2]
      by_cases hi : i < ws.length
      · rw [List.getElem?_eq_getElem hi]
        obtain ⟨e1, u, h3, h4, h5, h6⟩ := hb i _ (List.getElem?_eq_getElem hi)
        have h7 : (us.take i).length < 100000 := by rw [List.length_take]; omega
        have h8 : us.take i ++ [u] = us.take (i + 1) := by rw [List.take_add_one, h6]; rfl
        simp only [h3, h4, h5, h7, if_true, h8]
        exact ih (i + 1) (by omega) (by omega)
      · rw [List.getElem?_eq_none (by omega)]
        have : us.take i = us := List.take_of_length_le (by omega)
        rw [this]
  have := main turns 0 (by unfold turns; omega) (Nat.zero_le _)
  rwa [List.take_zero] at this
/-! ### a frame more -/
theorem Frame_init_of {p q : Nat} {b : Nat} {ws : List W} (hp : S[p]? = some (.ins "Frame" [])) (hq : S[q]? = some (.lst ws)) (hpq : p ≠ q) (hl : ws.length ≤ 100000) :
    ∃ S', F_Frame_init [.ref p, natW b, .int 0, .ref q] S = some (.non, S') ∧ S'.length = S.length + 1 ∧ (∀ i, i < S.length → i ≠ p → S'[i]? = S[i]?) ∧ S'[p]? = some (.ins "Frame" (Ma.frameFs (.ref S.length) ⟨b, 0, []⟩)) ∧ S'[S.length]? = some (.lst ws) := by
  have hlt : p < S.length := (List.getElem?_eq_some_iff.mp hp).1
  have hqt : q < S.length := (List.getElem?_eq_some_iff.mp hq).1
  refine ⟨(S ++ [Ob.lst ws]).set p (.ins "Frame" (Ma.frameFs (.ref S.length) ⟨b, 0, []⟩)), ?_, by simp, fun i hi hn => ?_, ?_, ?_⟩
  · have c1 : ("Frame" : Str) ∈ cs_body := by decide
    have c2 : ("Frame" : Str) ∈ cs_row := by decide
    have c3 : ("Frame" : Str) ∈ cs_boxes := by decide
    have p1 : putF "body" (natW b) [] = [(("body" : Str), natW b)] := rfl
    have p2 : putF "row" (W.int 0) [(("body" : Str), natW b)] = [(("body" : Str), natW b), ("row", W.int 0)] := rfl
    have p3 : putF "boxes" (W.ref S.length) [("body", natW b), ("row", W.int 0)] = Ma.frameFs (.ref S.length) ⟨b, 0, []⟩ := rfl
    have s1 : (S.set p (.ins "Frame" [("body", natW b)]))[p]? = some (.ins "Frame" [("body", natW b)]) := List.getElem?_set_self hlt
    have s2 : (S.set p (.ins "Frame" [("body", natW b), ("row", W.int 0)]))[p]? = some (.ins "Frame" [("body", natW b), ("row", W.int 0)]) := List.getElem?_set_self hlt
    have s3 : (S.set p (.ins "Frame" [("body", natW b), ("row", W.int 0)]))[q]? = some (.lst ws) := by rw [List.getElem?_set_ne hpq]; exact hq
    have s4 : (S.set p (.ins "Frame" [("body", natW b), ("row", W.int 0)]) ++ [Ob.lst ws])[p]? = some (.ins "Frame" [("body", natW b), ("row", W.int 0)]) := by
      rw [List.getElem?_append_left (by rw [List.length_set]; exact hlt)]; exact s2
    have z1 : sFld cs_body (mVar 0) "body" (mVar 1) [some (.ref p), some (natW b), some (.int 0), some (.ref q)] S = some (.nx [some (.ref p), some (natW b), some (.int 0), some (.ref q)], S.set p (.ins "Frame" [("body", natW b)])) := by
      simp [sFld, mVar, hp, c1, p1]
    have z2 : sFld cs_row (mVar 0) "row" (mVar 2) [some (.ref p), some (natW b), some (.int 0), some (.ref q)] (S.set p (.ins "Frame" [("body", natW b)])) = some (.nx [some (.ref p), some (natW b), some (.int 0), some (.ref q)], S.set p (.ins "Frame" [("body", natW b), ("row", W.int 0)])) := by
      simp only [sFld, mVar, List.getElem?_cons_succ, List.getElem?_cons_zero, s1, c2, true_and, p2, List.set_set]
      rw [if_pos (by simp)]
    have z3 : sFld cs_boxes (mVar 0) "boxes" (mNew (aSeq (mVar 3))) [some (.ref p), some (natW b), some (.int 0), some (.ref q)] (S.set p (.ins "Frame" [("body", natW b), ("row", W.int 0)])) = some (.nx [some (.ref p), some (natW b), some (.int 0), some (.ref q)], (S ++ [Ob.lst ws]).set p (.ins "Frame" (Ma.frameFs (.ref S.length) ⟨b, 0, []⟩))) := by
      simp only [sFld, mNew, aSeq, mVar, List.getElem?_cons_succ, List.getElem?_cons_zero, seqOf, s3, Option.map_some, if_pos hl, List.length_set, s4, c3, true_and, p3]
      rw [if_pos (by simp), List.set_append_left _ _ (by rw [List.length_set]; exact hlt), List.set_set, List.set_append_left _ _ hlt]
    simp only [F_Frame_init, b_Frame_init, fnOf, sSeq2, List.map_cons, List.map_nil, List.length_cons, List.length_nil, Nat.zero_add, Nat.reduceAdd, Nat.reduceSub, List.replicate_zero, List.append_nil, z1, z2, z3]
  · rw [List.getElem?_set_ne (Ne.symm hn), List.getElem?_append_left hi]
  · rw [List.getElem?_set_self (by simp; omega)]
  · rw [List.getElem?_set_ne (by omega), List.getElem?_concat_length]
def nones (n : Nat) : List W := List.replicate n .non
theorem rep_nones (n : Nat) : (List.replicate n [W.non]).flatten = nones n := by
  unfold nones
  induction n with
  | zero => rfl
  | succ n ih => rw [List.replicate_succ, List.replicate_succ, List.flatten_cons, ih]; rfl
/-- a new frame, its boxes empty -/
theorem make_frame {b n : Nat} {mb mn : ME} (hb : mb e S = some (natW b, S)) (hn : ∀ S, mn e S = some (natW n, S)) (hl : n ≤ 1000) :
    ∃ S', mMakeN "Frame" 4 F_Frame_init (aCons mb (aCons (mC (.int 0)) (aCons (mNew (aRep (aMax (aCons (mC .non) aNil)) mn)) aNil))) e S = some (.ref (S.length + 1), S') ∧ S'.length = S.length + 3 ∧ (∀ i, i < S.length → S'[i]? = S[i]?) ∧
      S'[S.length + 1]? = some (.ins "Frame" (Ma.frameFs (.ref (S.length + 2)) ⟨b, 0, []⟩)) ∧ S'[S.length + 2]? = some (.lst (nones n)) := by
  obtain ⟨S', h1, h2, h3, h4, h5⟩ := Frame_init_of (S := S ++ [Ob.lst (nones n)] ++ [.ins "Frame" []]) (p := S.length + 1) (q := S.length) (b := b) (ws := nones n) (by simp) (by simp) (by omega) (by simp [nones]; omega)
  have hr : aRep (aMax (aCons (mC .non) aNil)) mn e S = some (nones n, S) := by
    simp only [aRep, aMax, aCons, mC, aNil, List.length_cons, List.length_nil, Nat.zero_add, hn, natW, Int.toNat_natCast]
    rw [if_pos (by simp)]
    simp only
    rw [if_pos ⟨by omega, by omega, by simp; omega⟩, rep_nones]
  have hlen : (nones n).length ≤ 100000 := by simp [nones]; omega
  have ha : aCons mb (aCons (mC (.int 0)) (aCons (mNew (aRep (aMax (aCons (mC .non) aNil)) mn)) aNil)) e S = some ([natW b, .int 0, .ref S.length], S ++ [Ob.lst (nones n)]) := by
    simp only [aCons, hb, mC, mNew, hr, if_pos hlen, aNil]
  have hlen2 : (S ++ [Ob.lst (nones n)]).length = S.length + 1 := by simp
  have hlen3 : (S ++ [Ob.lst (nones n)] ++ [Ob.ins "Frame" []]).length = S.length + 2 := by simp
  rw [hlen3] at h2 h3 h4 h5
  refine ⟨S', ?_, by omega, fun i hi => ?_, h4, h5⟩
  · simp only [mMakeN, ha, List.length_cons, List.length_nil, Nat.zero_add, Nat.reduceAdd, if_true, hlen2, h1]
  · rw [h3 i (by omega) (by omega), List.append_assoc, List.getElem?_append_left hi]
def Ma.fresh (A : Ma) (r : Val) (name : Str) (many : Nat) : Sum Str (Nat × Bd) :=
  match getE A.entries (A.kindOf r, name) with
  | none => .inl "method"
  | some b => match A.plan[b]? with
    | none => .inl "method"
    | some bd => if bd.takes ≠ many then .inl "takes" else if 40 ≤ A.frames.length then .inl "deep" else .inr (b, bd)
theorem St.get_entry (R : St adr A S) {v : Val} {nm : Str} {mo mk mn : ME} (hv : A.Has v) (h1 : mo e S = some (.ref (adr .world), S)) (h2 : mk e S = some (valW v, S)) (h3 : mn e S = some (.str nm, S)) :
    mGet1 (op1 (fld cs_entries "entries") mo) (mTup (aCons (mMethN "World" "kind_of" 2 F_World_kind_of mo (aCons mk aNil)) (aCons mn aNil))) e S = some (((getE A.entries (A.kindOf v, nm)).map natW).getD .non, S) := by
  have hk := R.m_kind (e := e) hv h1 h2
  have ht : mTup (aCons (mMethN "World" "kind_of" 2 F_World_kind_of mo (aCons mk aNil)) (aCons mn aNil)) e S = some (keyW (A.kindOf v, nm), S) := by
    simp only [mTup, aCons, hk, h3, aNil, List.length_cons, List.length_nil]
    rw [if_pos (by simp)]
    rfl
  simp only [mGet1, op1, h1, R.g_entries, R.o_entries, ht, kOk, kTup_key, Option.isSome_some, if_true, dVal_key]
theorem ne_nat (S : Store) (n m : Nat) : fNe (natW n) (natW m) S = some (.bl (decide (n ≠ m))) := by
  simp [fNe, eqW, natW, isSc, eqd, Bool.beq_eq_decide_eq, Int.ofNat_inj]
theorem ge_40 (S : Store) (n : Nat) : fGe (natW n) (.int 40) S = some (.bl (decide (40 ≤ n))) := by
  simp only [fGe, onI, natW]
  congr 3
  exact propext ⟨fun h => by omega, fun h => by omega⟩
theorem ret_tup2 {m : ME} {w : W} (h : m e S = some (w, S')) : sRet (mTup (aCons (mC .non) (aCons m aNil))) e S = some (.rt (.tup [.non, w]), S') := by
  simp [sRet, mTup, aCons, mC, aNil, h]
/-- a def's end -/
def fin : Option (Fl × Store) → R W
  | some (.rt v, S1) => some (v, S1)
  | some (.nx _, S1) => some (.non, S1)
  | _ => none
theorem fnOf_eq (n : Nat) (b : MS) (ws : List W) (S : Store) : fnOf n b ws S = fin (b (ws.map some ++ List.replicate (n - ws.length) none) S) := by
  unfold fnOf fin
  split <;> simp_all
theorem St.new_frame (R : St adr A S) {v : Val} {nm : Str} {many : Nat} (hv : A.Has v) (hp : ∀ b, getE A.entries (A.kindOf v, nm) = some b → ∃ bd, A.plan[b]? = some bd ∧ bd.boxes ≤ 1000) :
    ∃ w S', F_World_new_frame [.ref (adr .world), valW v, .str nm, natW many, natW A.frames.length] S = some (w, S') ∧
      match A.fresh v nm many with
      | .inl f => w = .tup [.str f, .non] ∧ S' = S
      | .inr (b, bd) => w = .tup [.non, .ref (S.length + 1)] ∧ A.plan[b]? = some bd ∧ S'.length = S.length + 3 ∧ (∀ i, i < S.length → S'[i]? = S[i]?) ∧ S'[S.length + 1]? = some (.ins "Frame" (Ma.frameFs (.ref (S.length + 2)) ⟨b, 0, []⟩)) ∧ S'[S.length + 2]? = some (.lst (nones bd.boxes)) := by
  have hg := R.get_entry (e := [some (.ref (adr .world)), some (valW v), some (.str nm), some (natW many), some (natW A.frames.length), none, none, none, none]) (nm := nm) (mo := mVar 0) (mk := mVar 1) (mn := mVar 2) hv (by simp [mVar]) (by simp [mVar]) (by simp [mVar])
  unfold Ma.fresh
  have hne : ∀ n m : Nat, fNe (natW n) (natW m) S = some (.bl (decide (n ≠ m))) := fun n m => ne_nat S n m
  have hge : fGe (natW A.frames.length) (.int 40) S = some (.bl (decide (40 ≤ A.frames.length))) := ge_40 S _
  cases hq : getE A.entries (A.kindOf v, nm) with
  | none =>
    rw [hq] at hg
    refine ⟨.tup [.str "method", .non], S, ?_, rfl, rfl⟩
    simp [F_World_new_frame, b_World_new_frame, fnOf, sSeq2, sAsg, hg, gName, sIf, tVal, op1, mVar, fIsN, isNon, sRet, mTup, aCons, mC, aNil]
  | some b =>
    obtain ⟨bd, hbd, hbx⟩ := hp b hq
    rw [hq] at hg
    have hix : fIx (.ref (adr .planL)) (natW b) S = some (bdW bd) := fIx_nat R.seq_plan (by rw [List.getElem?_map, hbd]; rfl)
    have z1 := asg_of (g := gName 5) hg (by rfl)
    simp only [List.set_cons_succ, List.set_cons_zero, Option.map_some, Option.getD_some] at z1
    generalize hE1 : [some (.ref (adr .world)), some (valW v), some (.str nm), some (natW many), some (natW A.frames.length), some (natW b), none, none, none] = E1 at z1
    generalize hE2 : [some (.ref (adr .world)), some (valW v), some (.str nm), some (natW many), some (natW A.frames.length), some (natW b), some (natW bd.takes), some (natW bd.boxes), some (.tup (bd.rows.map rowW))] = E2
    have z2 : sIf (tVal (op1 fIsN (mVar 5))) (sRet (mTup (aCons (mC (.str "method")) (aCons (mC .non) aNil)))) sNil E1 S = some (.nx E1, S) := by
      subst hE1
      simp [sIf, tVal, op1, mVar, natW, fIsN, isNon, sNil]
    have z3 : sAsg (op2 fIx (op1 (fld cs_plan "plan") (mVar 0)) (mVar 5)) (gTupN 3 (gCons (gName 6) (gCons (gName 7) (gCons (gName 8) gNil)))) E1 S = some (.nx E2, S) := by
      subst hE1
      subst hE2
      simp [sAsg, op2, op1, mVar, R.g_plan, hix, bdW, gTupN, gCons, gName, gNil]
    have z4 : sIf (tVal (op2 fNe (mVar 6) (mVar 3))) (sRet (mTup (aCons (mC (.str "takes")) (aCons (mC .non) aNil)))) sNil E2 S = if bd.takes ≠ many then some (.rt (.tup [.str "takes", .non]), S) else some (.nx E2, S) := by
      subst hE2
      by_cases ht : bd.takes = many <;> simp [sIf, tVal, op2, mVar, hne, ht, sNil, sRet, mTup, aCons, mC, aNil]
    have z5 : sIf (tVal (op2 fGe (mVar 4) (mC (.int 40)))) (sRet (mTup (aCons (mC (.str "deep")) (aCons (mC .non) aNil)))) sNil E2 S = if 40 ≤ A.frames.length then some (.rt (.tup [.str "deep", .non]), S) else some (.nx E2, S) := by
      subst hE2
      by_cases hd : 40 ≤ A.frames.length <;> simp [sIf, tVal, op2, mVar, hge, hd, sNil, sRet, mTup, aCons, mC, aNil]
    simp only [hbd]
    have main : ∀ (r : Option (Fl × Store)), sSeq2 (sIf (tVal (op2 fNe (mVar 6) (mVar 3))) (sRet (mTup (aCons (mC (.str "takes")) (aCons (mC .non) aNil)))) sNil)
        (sSeq2 (sIf (tVal (op2 fGe (mVar 4) (mC (.int 40)))) (sRet (mTup (aCons (mC (.str "deep")) (aCons (mC .non) aNil)))) sNil)
        (sRet (mTup (aCons (mC .non) (aCons (mMakeN "Frame" 4 F_Frame_init (aCons (mVar 5) (aCons (mC (.int 0)) (aCons (mNew (aRep (aMax (aCons (mC .non) aNil)) (mVar 7))) aNil)))) aNil))))) E2 S = r →
        F_World_new_frame [.ref (adr .world), valW v, .str nm, natW many, natW A.frames.length] S = fin r := by
      intro r hr
      rw [F_World_new_frame, fnOf_eq]
      unfold b_World_new_frame
      simp only [List.map_cons, List.map_nil, List.length_cons, List.length_nil, Nat.zero_add, Nat.reduceAdd, Nat.reduceSub, List.replicate_succ, List.replicate_zero, List.cons_append, List.nil_append]
      rw [seq_of z1, seq_of z2, seq_of z3, hr]
    by_cases ht : bd.takes = many
    · rw [if_neg (by simpa using ht)] at z4
      by_cases hd : 40 ≤ A.frames.length
      · rw [if_pos hd] at z5
        refine ⟨.tup [.str "deep", .non], S, ?_, by simp [ht, hd]⟩
        refine main (some (.rt (.tup [.str "deep", .non]), S)) ?_
        rw [seq_of z4, sSeq2, z5]
      · rw [if_neg hd] at z5
        obtain ⟨S', m1, m2, m3, m4, m5⟩ := make_frame (S := S) (b := b) (n := bd.boxes) (e := E2) (mb := mVar 5) (mn := mVar 7) (by subst hE2; simp [mVar]) (by subst hE2; simp [mVar]) hbx
        refine ⟨.tup [.non, .ref (S.length + 1)], S', ?_, by simp [ht, hd]; exact ⟨hbd, m2, m3, m4, m5⟩⟩
        refine main (some (.rt (.tup [.non, .ref (S.length + 1)]), S')) ?_
        rw [seq_of z4, seq_of z5]
        exact ret_tup2 m1
    · rw [if_pos (by simpa using ht)] at z4
      refine ⟨.tup [.str "takes", .non], S, ?_, by simp [ht]⟩
      refine main (some (.rt (.tup [.str "takes", .non]), S)) ?_
      rw [sSeq2, z4]
end
end Gm

set_option linter.all false
namespace Gm
open PySem (Str)
section
variable {adr : Role → Nat} {A A1 A2 : Ma} {S S0 S1 S2 S' : Store} {e : Env}
/-- the addresses with a frame more -/
def adrPush (adr : Role → Nat) (n p q : Nat) : Role → Nat
  | .frame i => if i = n then p else adr (.frame i)
  | .boxes i => if i = n then q else adr (.boxes i)
  | r => adr r
def Ma.push (A : Ma) (f : Fr) : Ma := { A with frames := A.frames ++ [f] }
theorem Ma.push_fr (A : Ma) (f : Fr) (i : Nat) : (A.push f).fr i = if i = A.frames.length then f else A.fr i := by
  unfold push fr
  simp only [List.getD_eq_getElem?_getD]
  by_cases h : i < A.frames.length
  · rw [List.getElem?_append_left h, if_neg (by omega)]
  · rw [List.getElem?_append_right (by omega)]
    by_cases e : i = A.frames.length
    · simp [e]
    · rw [if_neg e, List.getElem?_eq_none (by simp; omega), List.getElem?_eq_none (by omega)]
def framesW (adr : Role → Nat) (n : Nat) : List W := (List.range n).map fun i => .ref (adr (.frame i))
theorem framesW_push (adr : Role → Nat) (n p q : Nat) : framesW (adrPush adr n p q) (n + 1) = framesW adr n ++ [.ref p] := by
  unfold framesW
  rw [List.range_succ, List.map_append]
  congr 1
  · refine List.map_congr_left fun i hi => ?_
    have := List.mem_range.mp hi
    simp [adrPush, show i ≠ n by omega]
  · simp [adrPush]
theorem St.push (R : St adr A S) (x : Go adr A S0 adr A S) {f : Fr} {p q : Nat} (hp : S[p]? = some (.ins "Frame" (Ma.frameFs (.ref q) f))) (hq : S[q]? = some (.lst (f.boxes.map valW)))
    (np : S0.length ≤ p) (nq : S0.length ≤ q) (op : ¬ Own adr A p) (oq : ¬ Own adr A q) (hpq : p ≠ q) :
    St (adrPush adr A.frames.length p q) (A.push f) (S.set (adr .framesL) (.lst (framesW adr A.frames.length ++ [.ref p]))) ∧
    Go adr A S0 (adrPush adr A.frames.length p q) (A.push f) (S.set (adr .framesL) (.lst (framesW adr A.frames.length ++ [.ref p]))) := by
  have hfl : A.live .framesL := trivial
  have nfp : adr .framesL ≠ p := fun z => op ⟨_, hfl, z⟩
  have nfq : adr .framesL ≠ q := fun z => oq ⟨_, hfl, z⟩
  have hlen : (A.push f).frames.length = A.frames.length + 1 := by simp [Ma.push]
  have hC : ∀ r, (A.push f).live r → r ≠ .frame A.frames.length → r ≠ .boxes A.frames.length → A.live r ∧ adrPush adr A.frames.length p q r = adr r := by
    intro r hr h1 h2
    cases r with
    | frame i =>
      have : i ≠ A.frames.length := fun z => h1 (by rw [z])
      have hr' : i < (A.push f).frames.length := hr
      exact ⟨show i < A.frames.length by omega, by simp [adrPush, this]⟩
    | boxes i =>
      have : i ≠ A.frames.length := fun z => h2 (by rw [z])
      have hr' : i < (A.push f).frames.length := hr
      exact ⟨show i < A.frames.length by omega, by simp [adrPush, this]⟩
    | _ => exact ⟨hr, rfl⟩
  have kf : adrPush adr A.frames.length p q (.frame A.frames.length) = p := by simp [adrPush]
  have kb : adrPush adr A.frames.length p q (.boxes A.frames.length) = q := by simp [adrPush]
  refine ⟨⟨fun r hr => ?_, fun r1 r2 h1 h2 e => ?_⟩, ⟨by rw [List.length_set]; exact x.len, fun i hi h => ?_⟩⟩
  · by_cases c1 : r = .frame A.frames.length
    · subst c1
      rw [kf, List.getElem?_set_ne nfp, hp]
      simp only [Ma.ob, Ma.push_fr, if_true, kb]
    · by_cases c2 : r = .boxes A.frames.length
      · subst c2
        rw [kb, List.getElem?_set_ne nfq, hq]
        simp only [Ma.ob, Ma.push_fr, if_true]
      · obtain ⟨g1, g2⟩ := hC r hr c1 c2
        rw [g2]
        by_cases c3 : r = .framesL
        · subst c3
          rw [List.getElem?_set_self (R.lt hfl)]
          show some (Ob.lst _) = some (Ob.lst (framesW (adrPush adr A.frames.length p q) (A.push f).frames.length))
          rw [hlen, framesW_push]
        · rw [List.getElem?_set_ne fun z => c3 (R.inj _ _ g1 hfl z.symm), R.ob r g1]
          cases r with
          | frame i =>
            have : i ≠ A.frames.length := fun z => c1 (by rw [z])
            simp [Ma.ob, Ma.push_fr, this, adrPush]
          | boxes i =>
            have : i ≠ A.frames.length := fun z => c2 (by rw [z])
            simp [Ma.ob, Ma.push_fr, this, adrPush]
          | framesL => exact absurd rfl c3
          | _ => rfl
  · have key : ∀ r, (A.push f).live r → (r = .frame A.frames.length ∧ adrPush adr A.frames.length p q r = p) ∨ (r = .boxes A.frames.length ∧ adrPush adr A.frames.length p q r = q) ∨ (A.live r ∧ adrPush adr A.frames.length p q r = adr r) := by
      intro r hr
      by_cases c1 : r = .frame A.frames.length
      · exact .inl ⟨c1, by rw [c1, kf]⟩
      · by_cases c2 : r = .boxes A.frames.length
        · exact .inr (.inl ⟨c2, by rw [c2, kb]⟩)
        · exact .inr (.inr (hC r hr c1 c2))
    rcases key r1 h1 with ⟨a1, b1⟩ | ⟨a1, b1⟩ | ⟨a1, b1⟩ <;> rcases key r2 h2 with ⟨a2, b2⟩ | ⟨a2, b2⟩ | ⟨a2, b2⟩ <;> rw [b1, b2] at e
    · rw [a1, a2]
    · exact absurd e hpq
    · exact absurd ⟨r2, a2, e.symm⟩ op
    · exact absurd e.symm hpq
    · rw [a1, a2]
    · exact absurd ⟨r2, a2, e.symm⟩ oq
    · exact absurd ⟨r1, a1, e⟩ op
    · exact absurd ⟨r1, a1, e⟩ oq
    · exact R.inj _ _ a1 a2 e
  · obtain ⟨g1, g2⟩ := x.keep i hi h
    refine ⟨?_, fun ⟨r, hr, e⟩ => ?_⟩
    · rw [List.getElem?_set_ne fun z => g2 ⟨_, hfl, z⟩, g1]
    · by_cases c1 : r = .frame A.frames.length
      · rw [c1, kf] at e
        omega
      · by_cases c2 : r = .boxes A.frames.length
        · rw [c2, kb] at e
          omega
        · obtain ⟨k1, k2⟩ := hC r hr c1 c2
          exact g2 ⟨r, k1, by rw [← k2]; exact e⟩
/-! ### the call -/
def Ma.argsOf (A : Ma) (i : Nat) (as : List Nat) : List Val := as.map fun c => (A.fr i).boxes.getD c .non
theorem St.handed (R : St adr A S) {i : Nat} {as : List Nat} (h : i < A.frames.length) (ha : ∀ c ∈ as, c < (A.fr i).boxes.length) (hl : as.length ≤ 1000) {e : Env} (h1 : e[1]? = some (some (.ref (adr (.frame i))))) (h6 : e[6]? = some (some (.tup (as.map natW)))) (h8 : 8 < e.length) :
    aComp (iSeq (mVar 6)) (gName 8) tYes (op2 fIx (op1 (fld cs_boxes "boxes") (mVar 1)) (mVar 8)) [8] e S = some ((A.argsOf i as).map valW, S) := by
  have hi : iSeq (mVar 6) e S = some (sSeq (.tup (as.map natW)), S) := by simp [iSeq, mVar, h6, seqOf, walkable]
  simp only [aComp, hi]
  refine compN_pure (as.map natW) _ (fun i _ => rfl) (by simp [Ma.argsOf]) (by simp; omega) fun k w hk => ?_
  rw [List.getElem?_map] at hk
  cases hc : as[k]? with
  | none => rw [hc] at hk; cases hk
  | some c =>
    rw [hc] at hk
    cases hk
    have hcl := ha c (List.mem_of_getElem? hc)
    have hv : (A.fr i).boxes[c]? = some ((A.fr i).boxes.getD c .non) := by
      rw [List.getD_eq_getElem?_getD, List.getElem?_eq_getElem hcl]
      rfl
    refine ⟨(e.set 8 none).set 8 (some (natW c)), valW ((A.fr i).boxes.getD c .non), rfl, rfl, ?_, ?_⟩
    · have e1 : ((e.set 8 none).set 8 (some (natW c)))[1]? = some (some (.ref (adr (.frame i)))) := by
        rw [List.getElem?_set_ne (by decide), List.getElem?_set_ne (by decide)]
        exact h1
      have e8 : ((e.set 8 none).set 8 (some (natW c)))[8]? = some (some (natW c)) := List.getElem?_set_self (by simpa using h8)
      simp only [op2, op1, mVar, e1, e8, R.g_boxes h, R.box h hv]
    · rw [List.getElem?_map]
      simp [Ma.argsOf, hc]
end
end Gm

set_option linter.all false
namespace Gm
open PySem (Str)
section
variable {adr : Role → Nat} {A A1 A2 : Ma} {S S0 S1 S2 S' : Store} {e : Env}
theorem St.m_depth (R : St adr A S) {mo : ME} (h : mo e S = some (.ref (adr .run), S)) : mMethN "Plain" "depth" 1 F_Rows_depth mo aNil e S = some (natW A.frames.length, S) := by
  refine (meth0_of h R.o_run rfl rfl).trans ?_
  simp [F_Rows_depth, b_Rows_depth, fnOf, sRet, mLen, op1, mVar, R.g_frames, R.o_frames, natW]
theorem St.called (R : St adr A S) {p : Nat} (h : A.frames.length < 100000) : F_Rows_called [.ref (adr .run), .ref p] S = some (.non, S.set (adr .framesL) (.lst (framesW adr A.frames.length ++ [.ref p]))) := by
  simp [F_Rows_called, b_Rows_called, fnOf, sDrop, mAppend, op1, mVar, R.g_frames, R.o_frames, h, framesW]
theorem aCons_of {m : ME} {r : MA} {x : W} {xs : List W} (h : m e S = some (x, S1)) (h2 : r e S1 = some (xs, S2)) : aCons m r e S = some (x :: xs, S2) := by
  simp only [aCons, h, h2]
theorem aNil_of : aNil e S = some ([], S) := rfl
def Ma.newFr (bd : Bd) (b : Nat) (vs : List Val) : Fr := ⟨b, 0, vs ++ List.replicate (bd.boxes - vs.length) .non⟩
def Ma.callA (A : Ma) (i : Nat) (name : Str) (as : List Nat) : Sum Str Ma :=
  match A.fresh ((A.argsOf i as).headD .non) name as.length with
  | .inl f => .inl f
  | .inr (b, bd) => .inr (A.push (Ma.newFr bd b (A.argsOf i as)))
theorem nones_val (n : Nat) : nones n = (List.replicate n Val.non).map valW := by
  simp [nones, List.map_replicate, valW]
theorem St.do_call (R : St adr A S) {i b a : Nat} {nm : Str} {as : List Nat} (h : i < A.frames.length) (ha : ∀ c ∈ a :: as, c < (A.fr i).boxes.length) (hl : (a :: as).length ≤ 1000)
    (hv : A.Has ((A.argsOf i (a :: as)).headD .non)) (hfl : A.frames.length < 100000) (hp : ∀ b, getE A.entries (A.kindOf ((A.argsOf i (a :: as)).headD .non), nm) = some b → ∃ bd, A.plan[b]? = some bd ∧ bd.boxes ≤ 1000 ∧ bd.takes ≤ bd.boxes) :
    Deed F_do_call adr A S i (.call b nm a as) (match A.callA i nm (a :: as) with | .inl f => .str f | .inr _ => .non) (match A.callA i nm (a :: as) with | .inl _ => A | .inr A' => A') := by
  generalize hvs : A.argsOf i (a :: as) = vs at *
  have hvl : vs.length = as.length + 1 := by rw [← hvs]; simp [Ma.argsOf]
  generalize hr : vs.headD .non = r at *
  have hr0 : vs[0]? = some r := by
    cases vs with
    | nil => simp at hvl
    | cons x xs => simp at hr; simp [hr]
  -- the names
  let e0 : Env := [some (.ref (adr .run)), some (.ref (adr (.frame i))), some (rowW (.call b nm a as)), none, none, none, none, none, none, none, none]
  let e1 : Env := [some (.ref (adr .run)), some (.ref (adr (.frame i))), some (rowW (.call b nm a as)), some (.str "call"), some (natW b), some (.str nm), some (.tup ((a :: as).map natW)), none, none, none, none]
  let e2 : Env := [some (.ref (adr .run)), some (.ref (adr (.frame i))), some (rowW (.call b nm a as)), some (.str "call"), some (natW b), some (.str nm), some (.tup ((a :: as).map natW)), some (.ref S.length), none, none, none]
  have z1 : sAsg (mVar 2) (gTupN 4 (gCons (gName 3) (gCons (gName 4) (gCons (gName 5) (gCons (gName 6) gNil))))) e0 S = some (.nx e1, S) := by
    simp [e0, e1, sAsg, mVar, rowW, gTupN, gCons, gName, gNil]
  have hh := R.handed (e := e1) (as := a :: as) h ha hl rfl rfl (by simp [e1])
  rw [hvs] at hh
  have z2 : sAsg (mNew (aComp (iSeq (mVar 6)) (gName 8) tYes (op2 fIx (op1 (fld cs_boxes "boxes") (mVar 1)) (mVar 8)) [8])) (gName 7) e1 S = some (.nx e2, S ++ [.lst (vs.map valW)]) := by
    have hlen : (vs.map valW).length ≤ 100000 := by rw [List.length_map, hvl]; simp at hl; omega
    refine asg_of (w := .ref S.length) (S1 := S ++ [.lst (vs.map valW)]) ?_ rfl
    simp only [mNew, hh, if_pos hlen]
  obtain ⟨R1, x1⟩ := R.more (.lst (vs.map valW))
  have hS1 : (S ++ [Ob.lst (vs.map valW)])[S.length]? = some (.lst (vs.map valW)) := List.getElem?_concat_length
  obtain ⟨w, S2, n1, n2⟩ := R1.new_frame (v := r) (nm := nm) (many := as.length + 1) hv (fun b hb => by obtain ⟨bd, g1, g2, _⟩ := hp b hb; exact ⟨bd, g1, g2⟩)
  have hix : fIx (.ref S.length) (.int 0) (S ++ [.lst (vs.map valW)]) = some (valW r) :=
    fIx_nat (k := 0) (ws := vs.map valW) (by simp only [seqOf, hS1]) (by rw [List.getElem?_map, hr0]; rfl)
  have hm : mMethN "World" "new_frame" 5 F_World_new_frame (op1 (fld cs_world "world") (mVar 0)) (aCons (op2 fIx (mVar 7) (mC (.int 0))) (aCons (mVar 5) (aCons (mLen (mVar 7)) (aCons (mMethN "Plain" "depth" 1 F_Rows_depth (mVar 0) aNil) aNil)))) e2 (S ++ [.lst (vs.map valW)]) = some (w, S2) := by
    refine (meth_of (ws := [valW r, .str nm, natW (as.length + 1), natW A.frames.length]) (S2 := S ++ [.lst (vs.map valW)]) (a := adr .world) (by simp [op1, mVar, e2, R1.g_world]) R1.o_world rfl ?_ rfl).trans n1
    have hd := R1.m_depth (e := e2) (mo := mVar 0) (by simp [mVar, e2])
    refine aCons_of (S1 := S ++ [.lst (vs.map valW)]) (by simp [op2, mVar, mC, e2, hix]) (aCons_of (S1 := S ++ [.lst (vs.map valW)]) (by simp [mVar, e2]) (aCons_of (S1 := S ++ [.lst (vs.map valW)]) (by simp [mLen, op1, mVar, e2, hS1, natW, hvl]) (aCons_of hd aNil_of)))
  unfold Ma.callA
  rw [hvs, hr]
  change match A.fresh r nm (as.length + 1) with | .inl f => _ | .inr (b, bd) => _ at n2
  cases hq : A.fresh r nm (as.length + 1) with
  | inl f =>
    rw [hq] at n2
    obtain ⟨rfl, rfl⟩ := n2
    simp only [List.length_cons, hq]
    refine ⟨adr, S ++ [.lst (vs.map valW)], ?_, R1, x1, rfl, rfl, fun _ _ _ => rfl⟩
    rw [F_do_call, fnOf_eq]
    show fin (b_do_call e0 S) = _
    unfold b_do_call
    rw [seq_of z1, seq_of z2, seq_of (asg_of (e1 := [some (.ref (adr .run)), some (.ref (adr (.frame i))), some (rowW (.call b nm a as)), some (.str "call"), some (natW b), some (.str nm), some (.tup ((a :: as).map natW)), some (.ref S.length), none, some (.str f), some .non]) (S2 := S ++ [.lst (vs.map valW)]) hm (by simp [gTupN, gCons, gName, gNil, e2]))]
    simp [sSeq2, sIf, tVal, op1, mVar, fIsN, isNon, sNil, sRet, fin]
  | inr bb =>
    obtain ⟨b', bd⟩ := bb
    rw [hq] at n2
    obtain ⟨rfl, p1, p2, p3, p4, p5⟩ := n2
    simp only [List.length_cons, hq]
    have hlS1 : (S ++ [Ob.lst (vs.map valW)]).length = S.length + 1 := by simp
    rw [hlS1] at p2 p3 p4 p5 hm
    have hfr : getE A.entries (A.kindOf r, nm) = some b' ∧ bd.takes = as.length + 1 := by
      unfold Ma.fresh at hq
      split at hq
      · cases hq
      · rename_i b3 hb3
        split at hq
        · cases hq
        · split at hq
          · cases hq
          · rename_i ht
            split at hq
            · cases hq
            · cases hq
              exact ⟨hb3, by simpa using ht⟩
    obtain ⟨hge, htk⟩ := hfr
    obtain ⟨bd2, q1, q2, q3⟩ := hp b' hge
    rw [p1] at q1
    cases q1
    obtain ⟨R2, x2⟩ := R1.grow (S' := S2) (by omega) (fun i hi => p3 i (by omega))
    have own : ∀ k, S.length ≤ k → ¬ Own adr A k := fun k hk ⟨r, h1, h2⟩ => by
      have := R.lt h1
      omega
    -- the boxes are laid in
    have hbx : S2[S.length]? = some (.lst (vs.map valW)) := by rw [p3 _ (by omega)]; exact hS1
    have hset : (S2.set (S.length + 3) (.lst (vs.map valW ++ (nones bd.boxes).drop (as.length + 1)))).length = S2.length := List.length_set
    have R3 : St adr A (S2.set (S.length + 3) (.lst (vs.map valW ++ (nones bd.boxes).drop (as.length + 1)))) :=
      ⟨fun r hr => by rw [List.getElem?_set_ne (by have := R.lt hr; omega)]; exact R2.ob r hr, R.inj⟩
    have x3 : Go adr A S adr A (S2.set (S.length + 3) (.lst (vs.map valW ++ (nones bd.boxes).drop (as.length + 1)))) :=
      ⟨by rw [hset]; omega, fun i hi hn => ⟨by rw [List.getElem?_set_ne (by omega), p3 i (by omega), List.getElem?_append_left hi], hn⟩⟩
    generalize hS3 : S2.set (S.length + 3) (.lst (vs.map valW ++ (nones bd.boxes).drop (as.length + 1))) = S3 at *
    have g4 : S3[S.length + 2]? = some (.ins "Frame" (Ma.frameFs (.ref (S.length + 3)) ⟨b', 0, []⟩)) := by
      rw [← hS3, List.getElem?_set_ne (by omega)]
      exact p4
    have g5 : S3[S.length + 3]? = some (.lst ((Ma.newFr bd b' vs).boxes.map valW)) := by
      rw [← hS3, List.getElem?_set_self (by omega)]
      congr 2
      unfold Ma.newFr
      rw [List.map_append, nones_val, ← List.map_drop, hvl, List.drop_replicate]
    obtain ⟨R4, x4⟩ := R3.push (S0 := S) (f := Ma.newFr bd b' vs) (p := S.length + 2) (q := S.length + 3) x3 g4 g5 (by omega) (by omega) (own _ (by omega)) (own _ (by omega)) (by omega)
    refine ⟨_, _, ?_, R4, x4, rfl, rfl, fun j h1 _ => by simp [adrPush]; intro z; omega⟩
    rw [F_do_call, fnOf_eq]
    show fin (b_do_call e0 S) = _
    unfold b_do_call
    let e3 : Env := [some (.ref (adr .run)), some (.ref (adr (.frame i))), some (rowW (.call b nm a as)), some (.str "call"), some (natW b), some (.str nm), some (.tup ((a :: as).map natW)), some (.ref S.length), none, some .non, some (.ref (S.length + 2))]
    rw [seq_of z1, seq_of z2, seq_of (asg_of (e1 := e3) (S2 := S2) hm (by simp [gTupN, gCons, gName, gNil, e2, e3]))]
    have z5 : sSetSl (mVar 7) (op1 (fld cs_boxes "boxes") (mVar 10)) (mLen (mVar 7)) e3 S2 = some (.nx e3, S3) := by
      have f1 : fld cs_boxes "boxes" (.ref (S.length + 2)) S2 = some (.ref (S.length + 3)) := fld_of p4 (by decide) rfl
      have hk : (0 : Int) ≤ ((as.length + 1 : Nat) : Int) ∧ ((as.length + 1 : Nat) : Int) ≤ ((nones bd.boxes).length : Int) ∧ (nones bd.boxes).length + (vs.map valW).length ≤ 100000 := by
        simp only [nones, List.length_replicate, List.length_map, hvl]
        simp at hl
        omega
      have c3 : S.length + 3 ≠ S.length ∧ (0 : Int) ≤ ((as.length + 1 : Nat) : Int) ∧ ((as.length + 1 : Nat) : Int) ≤ ((nones bd.boxes).length : Int) ∧ (nones bd.boxes).length + (vs.map valW).length ≤ 100000 := ⟨by omega, hk⟩
      have hmv : mVar 7 e3 S2 = some (.ref S.length, S2) := rfl
      have hmo : op1 (fld cs_boxes "boxes") (mVar 10) e3 S2 = some (.ref (S.length + 3), S2) := by simp [op1, mVar, e3, f1]
      have hmk : mLen (mVar 7) e3 S2 = some (.int ((as.length + 1 : Nat) : Int), S2) := by simp [mLen, op1, mVar, e3, hbx, hvl]
      simp only [sSetSl, hmv, hmo, hmk, p5, hbx, if_pos c3, Int.toNat_natCast, hS3]
    have z6 : sDrop (mMethN "Plain" "called" 2 F_Rows_called (mVar 0) (aCons (mVar 10) aNil)) e3 S3 = some (.nx e3, S3.set (adr .framesL) (.lst (framesW adr A.frames.length ++ [.ref (S.length + 2)]))) := by
      have hc : mMethN "Plain" "called" 2 F_Rows_called (mVar 0) (aCons (mVar 10) aNil) e3 S3 = some (.non, S3.set (adr .framesL) (.lst (framesW adr A.frames.length ++ [.ref (S.length + 2)]))) :=
        (meth_of (ws := [.ref (S.length + 2)]) (S2 := S3) (a := adr .run) rfl R3.o_run rfl rfl rfl).trans (R3.called hfl)
      simp only [sDrop, hc]
    have z7 : sIf (tVal (op1 fIsN (mVar 9))) (sSeq2 (sSetSl (mVar 7) (op1 (fld cs_boxes "boxes") (mVar 10)) (mLen (mVar 7))) (sDrop (mMethN "Plain" "called" 2 F_Rows_called (mVar 0) (aCons (mVar 10) aNil)))) sNil e3 S2 = some (.nx e3, S3.set (adr .framesL) (.lst (framesW adr A.frames.length ++ [.ref (S.length + 2)]))) := by
      have ht : tVal (op1 fIsN (mVar 9)) e3 S2 = some (true, S2) := rfl
      simp only [sIf, ht]
      rw [seq_of z5, z6]
    rw [seq_of z7]
    rfl
end
end Gm

set_option linter.all false
namespace Gm
open PySem (Str)
section
variable {adr : Role → Nat} {A A1 A2 : Ma} {S S0 S1 S2 S' : Store} {e : Env}
def Fr.box (f : Fr) (c : Nat) : Val := f.boxes.getD c .non
def Row.okIn (n : Nat) : Row → Prop
  | .number b _ => b < n
  | .nothing b => b < n
  | .copy b c => b < n ∧ c < n
  | .reck _ b c d => b < n ∧ c < n ∧ d < n
  | .make b _ => b < n
  | .get b c _ => b < n ∧ c < n
  | .put c _ d => c < n ∧ d < n
  | .call b _ a as => b < n ∧ (∀ c ∈ a :: as, c < n) ∧ as.length < 1000
  | .give c => c < n
  | .go _ => True
  | .iff c _ => c < n
  | .tell c => c < n
  | .anew _ _ _ => True
theorem box_at {f : Fr} {c : Nat} (h : c < f.boxes.length) : f.boxes[c]? = some (f.box c) := by
  unfold Fr.box
  rw [List.getD_eq_getElem?_getD, List.getElem?_eq_getElem h]
  rfl
def kind2 (a b : Str) : W := .tup [.str a, .str b]
def Ma.seenOf (A : Ma) (f : Fr) : Row → W
  | .reck k _ c d => if k = .same then .non else .tup [.str (A.kindOf (f.box c)), .str (A.kindOf (f.box d))]
  | .get _ c _ => .tup [.str (A.kindOf (f.box c))]
  | .put c _ _ => .tup [.str (A.kindOf (f.box c))]
  | .call _ _ a _ => .tup [.str (A.kindOf (f.box a))]
  | .iff c _ => .tup [.str (A.kindOf (f.box c)), .int (if truth (f.box c) then 1 else 0)]
  | _ => .non
def Row.word : Row → Str
  | .number _ _ => "number" | .nothing _ => "nothing" | .copy _ _ => "copy" | .reck k _ _ _ => k.w | .make _ _ => "make" | .get _ _ _ => "get" | .put _ _ _ => "put"
  | .call _ _ _ _ => "call" | .give _ => "give" | .go _ => "go" | .iff _ _ => "if" | .tell _ => "tell" | .anew _ _ _ => "anew"
theorem row_word (r : Row) : fIx (rowW r) (.int 0) S = some (.str r.word) := by
  cases r <;> exact ix0
def seenE (adr : Role → Nat) (i : Nat) (r : Row) : Env := [some (.ref (adr .world)), some (.ref (adr (.frame i))), some (rowW r), some (.str r.word), none]
def in4 (w : Str) : Bool := w == "plus" || (w == "less" || (w == "times" || w == "under"))
theorem fIn_4 (w : Str) : fIn (.str w) (.tup [.str "plus", .str "less", .str "times", .str "under"]) S = some (.bl ((("plus" : Str) == w) || ((("less" : Str) == w) || ((("times" : Str) == w) || (("under" : Str) == w))))) := by
  simp [fIn, isSc, eqd]
/-- the kind of what is in a box -/
theorem St.m_kindBox (R : St adr A S) {i c : Nat} {mo m : ME} (h : i < A.frames.length) (hc : c < (A.fr i).boxes.length) (hv : A.Has ((A.fr i).box c)) (h1 : mo e S = some (.ref (adr .world), S)) (he : e[1]? = some (some (.ref (adr (.frame i))))) (hm : m e S = some (natW c, S)) :
    mMethN "World" "kind_of" 2 F_World_kind_of mo (aCons (op2 fIx (op1 (fld cs_boxes "boxes") (mVar 1)) m) aNil) e S = some (.str (A.kindOf ((A.fr i).box c)), S) :=
  R.m_kind hv h1 (by simp only [op2, op1, mVar, he, R.g_boxes h, hm, R.box h (box_at hc)])
theorem ret_tup1' {m : ME} {w : W} (h : m e S = some (w, S')) : sRet (mTup (aCons m aNil)) e S = some (.rt (.tup [w]), S') := by
  simp [sRet, mTup, aCons, aNil, h]
theorem ret_tup2' {m m2 : ME} {w w2 : W} (h : m e S = some (w, S)) (h2 : m2 e S = some (w2, S)) : sRet (mTup (aCons m (aCons m2 aNil))) e S = some (.rt (.tup [w, w2]), S) := by
  simp [sRet, mTup, aCons, aNil, h, h2]
theorem if_true_of {t : MT} {a b : MS} {r : Option (Fl × Store)} (h : t e S = some (true, S)) (h2 : a e S = r) : sIf t a b e S = r := by simp only [sIf, h, h2]
theorem if_nil_of {t : MT} {a : MS} (h : t e S = some (false, S)) : sIf t a sNil e S = some (.nx e, S) := by simp only [sIf, h, sNil]
theorem seq_rt {s t : MS} {v : W} (h : s e S = some (.rt v, S1)) : sSeq2 s t e S = some (.rt v, S1) := by simp only [sSeq2, h]
theorem St.seen_of (R : St adr A S) {i : Nat} {r : Row} (h : i < A.frames.length) (ho : r.okIn (A.fr i).boxes.length) (hv : ∀ c, c < (A.fr i).boxes.length → A.Has ((A.fr i).box c)) :
    F_seen_of [.ref (adr .world), .ref (adr (.frame i)), rowW r] S = some (A.seenOf (A.fr i) r, S) := by
  rw [F_seen_of, fnOf_eq]
  have z1 : sAsg (op2 fIx (mVar 2) (mC (.int 0))) (gName 3) [some (.ref (adr .world)), some (.ref (adr (.frame i))), some (rowW r), none, none] S = some (.nx (seenE adr i r), S) :=
    asg_of (w := .str r.word) (S1 := S) (by simp [op2, mVar, mC, row_word]) rfl
  show fin (b_seen_of [some (.ref (adr .world)), some (.ref (adr (.frame i))), some (rowW r), none, none] S) = _
  unfold b_seen_of
  rw [seq_of z1]
  have hw : mVar 0 (seenE adr i r) S = some (.ref (adr .world), S) := rfl
  have t1 : tVal (op2 fIn (mVar 3) (mTup (aCons (mC (.str "plus")) (aCons (mC (.str "less")) (aCons (mC (.str "times")) (aCons (mC (.str "under")) aNil)))))) (seenE adr i r) S = some ((("plus" : Str) == r.word) || ((("less" : Str) == r.word) || ((("times" : Str) == r.word) || (("under" : Str) == r.word))), S) := by
    have ha : mTup (aCons (mC (.str "plus")) (aCons (mC (.str "less")) (aCons (mC (.str "times")) (aCons (mC (.str "under")) aNil)))) (seenE adr i r) S = some (.tup [.str "plus", .str "less", .str "times", .str "under"], S) := rfl
    have h3 : mVar 3 (seenE adr i r) S = some (.str r.word, S) := rfl
    simp only [tVal, op2, h3, ha, fIn_4]
  have t2 : ∀ x : Str, tVal (op2 fEq (mVar 3) (mC (.str x))) (seenE adr i r) S = some (r.word == x, S) := fun x => by
    have h3 : mVar 3 (seenE adr i r) S = some (.str r.word, S) := rfl
    simp only [tVal, op2, h3, mC, fEq, eqW_strs, Option.map_some]
  have bx : ∀ {c : Nat} {m : ME}, c < (A.fr i).boxes.length → m (seenE adr i r) S = some (natW c, S) → mMethN "World" "kind_of" 2 F_World_kind_of (mVar 0) (aCons (op2 fIx (op1 (fld cs_boxes "boxes") (mVar 1)) m) aNil) (seenE adr i r) S = some (.str (A.kindOf ((A.fr i).box c)), S) :=
    fun hc hm => R.m_kindBox h hc (hv _ hc) hw rfl hm
  have f4 : ∀ x : Str, (x == ("plus" : Str)) = false → True := fun _ _ => trivial
  cases r with
  | reck k b c d =>
    obtain ⟨o1, o2, o3⟩ := ho
    by_cases hk : k = .same
    · subst hk
      rw [seq_of (if_nil_of (by rw [t1]; rfl)), seq_of (if_nil_of (by rw [t2]; rfl)), seq_of (if_nil_of (by rw [t2]; rfl)), seq_of (if_nil_of (by rw [t2]; rfl)), seq_of (if_nil_of (by rw [t2]; rfl))]
      rfl
    · rw [seq_rt (if_true_of (by rw [t1]; cases k <;> first | rfl | exact absurd rfl hk) (ret_tup2' (bx o2 (by simp [op2, mVar, mC, seenE, rowW, ix2])) (bx o3 (by simp [op2, mVar, mC, seenE, rowW, ix3]))))]
      simp [Ma.seenOf, hk, fin]
  | get b c f =>
    rw [seq_of (if_nil_of (by rw [t1]; rfl)), seq_rt (if_true_of (by rw [t2]; rfl) (ret_tup1' (bx ho.2 (by simp [op2, mVar, mC, seenE, rowW, ix2]))))]
    rfl
  | put c f d =>
    rw [seq_of (if_nil_of (by rw [t1]; rfl)), seq_of (if_nil_of (by rw [t2]; rfl)), seq_rt (if_true_of (by rw [t2]; rfl) (ret_tup1' (bx ho.1 (by simp [op2, mVar, mC, seenE, rowW, ix1]))))]
    rfl
  | call b n a as =>
    rw [seq_of (if_nil_of (by rw [t1]; rfl)), seq_of (if_nil_of (by rw [t2]; rfl)), seq_of (if_nil_of (by rw [t2]; rfl)), seq_rt (if_true_of (by rw [t2]; rfl) (ret_tup1' (bx (ho.2.1 a (List.mem_cons_self ..)) (by simp [op2, mVar, mC, seenE, rowW, ix3, ix0]))))]
    rfl
  | iff c q =>
    have hb := R.box h (box_at (c := c) ho)
    let e5 : Env := [some (.ref (adr .world)), some (.ref (adr (.frame i))), some (rowW (.iff c q)), some (.str "if"), some (valW ((A.fr i).box c))]
    have y1 : sAsg (op2 fIx (op1 (fld cs_boxes "boxes") (mVar 1)) (op2 fIx (mVar 2) (mC (.int 1)))) (gName 4) (seenE adr i (.iff c q)) S = some (.nx e5, S) :=
      asg_of (w := valW ((A.fr i).box c)) (S1 := S) (by simp [op2, op1, mVar, mC, seenE, rowW, ix1, R.g_boxes h, hb]) rfl
    have y2 : mMethN "World" "kind_of" 2 F_World_kind_of (mVar 0) (aCons (mVar 4) aNil) e5 S = some (.str (A.kindOf ((A.fr i).box c)), S) := R.m_kind (hv _ ho) rfl rfl
    have y3 : op1 fInt (mCallN 1 F_is_true (aCons (mVar 4) aNil)) e5 S = some (.int (if truth ((A.fr i).box c) then 1 else 0), S) := by
      have : mCallN 1 F_is_true (aCons (mVar 4) aNil) e5 S = some (.bl (truth ((A.fr i).box c)), S) := by
        simp [mCallN, aCons, aNil, mVar, e5, is_true_of]
      simp only [op1, this, fInt_bl]
    rw [seq_of (if_nil_of (by rw [t1]; rfl)), seq_of (if_nil_of (by rw [t2]; rfl)), seq_of (if_nil_of (by rw [t2]; rfl)), seq_of (if_nil_of (by rw [t2]; rfl)), seq_rt (if_true_of (by rw [t2]; rfl) ((seq_of y1).trans (ret_tup2' y2 y3)))]
    rfl
  | _ =>
    rw [seq_of (if_nil_of (by rw [t1]; rfl)), seq_of (if_nil_of (by rw [t2]; rfl)), seq_of (if_nil_of (by rw [t2]; rfl)), seq_of (if_nil_of (by rw [t2]; rfl)), seq_of (if_nil_of (by rw [t2]; rfl))]
    rfl
end
end Gm

set_option linter.all false
namespace Gm
open PySem (Str)
section
variable {adr : Role → Nat} {A A1 A2 : Ma} {S S0 S1 S2 S' : Store} {e : Env}
/-! ### the profile -/
def putWhat (ws : List W) (w : W) : List W := if (ws.any fun v => sameK true v w) = true then ws else ws ++ [w]
theorem dPut_what (ws : List W) (w : W) : dPut true (ws.map fun w => (w, .bl true)) w (.bl true) = (putWhat ws w).map fun w => (w, .bl true) := by
  unfold dPut putWhat
  have e1 : ((ws.map fun w => (w, W.bl true)).any fun kv => sameK true kv.1 w) = ws.any fun v => sameK true v w := by
    rw [List.any_map]
    rfl
  rw [e1]
  split
  · rw [List.map_map]
    refine List.map_congr_left fun v _ => ?_
    simp
  · rw [List.map_append]
    rfl
theorem kTup_place (p : Nat × Nat) : kTup (placeW p) = some [.inl p.1, .inl p.2] := rfl
theorem same_place (p q : Nat × Nat) : sameK true (placeW p) (placeW q) = decide (p = q) := by
  obtain ⟨a, b⟩ := p
  obtain ⟨c, d⟩ := q
  simp [sameK, kTup_place, Int.ofNat_inj]
def Ma.at? (A : Ma) (p : Nat × Nat) : Option Nat := A.prof.findIdx? fun x => decide (x.1 = p)
def Ma.noteA (A : Ma) (p : Nat × Nat) (w : W) : Ma :=
  match w with
  | .non => A
  | w => match A.at? p with
    | some i => { A with prof := A.prof.set i (p, putWhat (A.pf i).2 w) }
    | none => { A with prof := A.prof ++ [(p, [w])] }
def profW (adr : Role → Nat) (A : Ma) : List (W × W) := (List.range A.prof.length).map fun i => (placeW (A.pf i).1, .ref (adr (.seen i)))
theorem Ma.pf_get (A : Ma) {i : Nat} (h : i < A.prof.length) : A.prof[i]? = some (A.pf i) := by
  unfold pf
  rw [List.getD_eq_getElem?_getD, List.getElem?_eq_getElem h]
  rfl
theorem find_map {α β : Type} (f : α → β) (p : β → Bool) : ∀ l : List α, (l.map f).find? p = (l.find? fun a => p (f a)).map f
  | [] => rfl
  | a :: l => by
    rw [List.map_cons, List.find?_cons, List.find?_cons]
    cases p (f a) with
    | true => rfl
    | false => exact find_map f p l
theorem dVal_prof (adr : Role → Nat) (A : Ma) (p : Nat × Nat) : dVal true (profW adr A) (placeW p) = (A.at? p).map fun i => .ref (adr (.seen i)) := by
  unfold dVal profW Ma.at?
  rw [find_map]
  simp only [same_place]
  have key : (List.range A.prof.length).find? (fun i => decide ((A.pf i).1 = p)) = A.prof.findIdx? fun x => decide (x.1 = p) := by
    cases hf : A.prof.findIdx? fun x => decide (x.1 = p) with
    | none =>
      rw [List.find?_eq_none]
      intro i hi
      have hi := List.mem_range.mp hi
      have := List.findIdx?_eq_none_iff.mp hf (A.pf i) (List.mem_of_getElem? (A.pf_get hi))
      simpa using this
    | some k =>
      obtain ⟨h1, h2, h3⟩ := List.findIdx?_eq_some_iff_getElem.mp hf
      rw [List.find?_eq_some_iff_append]
      have hk : A.pf k = A.prof[k] := by
        have := A.pf_get h1
        rw [List.getElem?_eq_getElem h1] at this
        exact (Option.some.inj this).symm
      refine ⟨by rw [hk]; exact h2, List.range k, (List.range (A.prof.length - (k + 1))).map (· + (k + 1)), ?_, ?_⟩
      · apply List.ext_getElem?
        intro j
        by_cases hj : j < k
        · rw [List.getElem?_range (by omega), List.getElem?_append_left (by simpa using hj), List.getElem?_range hj]
        · rw [List.getElem?_append_right (by simpa using Nat.le_of_not_lt hj), List.length_range]
          by_cases hjk : j = k
          · subst hjk
            rw [List.getElem?_range h1]
            simp
          · obtain ⟨m, hm⟩ : ∃ m, j - k = m + 1 := ⟨j - k - 1, by omega⟩
            rw [hm, List.getElem?_cons_succ, List.getElem?_map]
            by_cases hjl : j < A.prof.length
            · rw [List.getElem?_range hjl, List.getElem?_range (by omega)]
              simp
              omega
            · rw [List.getElem?_eq_none (by simpa using Nat.le_of_not_lt hjl), List.getElem?_eq_none (by simp; omega)]
              rfl
      · intro j hj
        have hj := List.mem_range.mp hj
        have hjl : j < A.prof.length := by omega
        have := h3 j hj
        have e : A.pf j = A.prof[j] := by
          have := A.pf_get hjl
          rw [List.getElem?_eq_getElem hjl] at this
          exact (Option.some.inj this).symm
        rw [e]
        simpa using this
  rw [key, Option.map_map]
  rfl
theorem any_dVal {kvs : List (W × W)} {k : W} (h : dVal true kvs k = none) : (kvs.any fun kv => sameK true kv.1 k) = false := by
  unfold dVal at h
  rw [Option.map_eq_none_iff, List.find?_eq_none] at h
  rw [List.any_eq_false]
  exact h
/-- the addresses with a place of the profile more -/
def adrSeen (adr : Role → Nat) (n q : Nat) : Role → Nat
  | .seen i => if i = n then q else adr (.seen i)
  | r => adr r
theorem St.o_prof' (R : St adr A S) : S[adr .profD]? = some (.dct true (profW adr A)) := R.o_prof
theorem Ma.at_lt {p : Nat × Nat} {i : Nat} (h : A.at? p = some i) : i < A.prof.length ∧ (A.pf i).1 = p := by
  obtain ⟨h1, h2, _⟩ := List.findIdx?_eq_some_iff_getElem.mp h
  refine ⟨h1, ?_⟩
  have := A.pf_get h1
  rw [List.getElem?_eq_getElem h1] at this
  rw [← Option.some.inj this]
  simpa using h2
/-- at a place that is there -/
theorem St.noteOld (R : St adr A S) {i : Nat} {p : Nat × Nat} {w : W} (h : A.at? p = some i) :
    To adr A S { A with prof := A.prof.set i (p, putWhat (A.pf i).2 w) } (S.set (adr (.seen i)) (.dct true ((putWhat (A.pf i).2 w).map fun w => (w, .bl true)))) := by
  obtain ⟨hi, hp⟩ := Ma.at_lt h
  have hpf : ∀ j, Ma.pf { A with prof := A.prof.set i (p, putWhat (A.pf i).2 w) } j = if j = i then (p, putWhat (A.pf i).2 w) else A.pf j := by
    intro j
    unfold Ma.pf
    simp only [List.getD_eq_getElem?_getD, List.getElem?_set]
    by_cases e : i = j
    · subst e
      simp [hi]
    · simp [e, Ne.symm e]
  refine R.put (.seen i) hi _ _ (fun r hr => ?_) ?_ fun r hr hne => ?_
  · cases r with
    | seen j => simpa [Ma.live] using hr
    | _ => exact hr
  · simp only [Ma.ob, hpf, if_true]
  · cases r with
    | seen j =>
      have : j ≠ i := fun z => hne (by rw [z])
      simp only [Ma.ob, hpf, if_neg this]
    | profD =>
      simp only [Ma.ob, List.length_set]
      congr 1
      refine List.map_congr_left fun j _ => ?_
      rw [hpf]
      by_cases e : j = i
      · subst e
        simp [hp]
      · simp [e]
    | _ => rfl
/-- at a new place; q: its new dict -/
theorem St.noteNew (R : St adr A S) (x : Go adr A S0 adr A S) {p : Nat × Nat} {w : W} {q : Nat} {v : Nat} (hq : S0.length ≤ q) (oq : ¬ Own adr A q) (hql : q < S.length) :
    St (adrSeen adr A.prof.length q) { A with prof := A.prof ++ [(p, [w])] } ((S.set (adr .profD) (.dct true (profW adr A ++ [(placeW p, .ref q)]))).set q (.dct true [(w, .bl true)])) ∧
    Go adr A S0 (adrSeen adr A.prof.length q) { A with prof := A.prof ++ [(p, [w])] } ((S.set (adr .profD) (.dct true (profW adr A ++ [(placeW p, .ref q)]))).set q (.dct true [(w, .bl true)])) := by
  have hpl : A.live .profD := trivial
  have npq : adr .profD ≠ q := fun z => oq ⟨_, hpl, z⟩
  have hpf : ∀ j, Ma.pf { A with prof := A.prof ++ [(p, [w])] } j = if j = A.prof.length then (p, [w]) else A.pf j := by
    intro j
    unfold Ma.pf
    simp only [List.getD_eq_getElem?_getD]
    by_cases h : j < A.prof.length
    · rw [List.getElem?_append_left h, if_neg (by omega)]
    · rw [List.getElem?_append_right (by omega)]
      by_cases e : j = A.prof.length
      · simp [e]
      · rw [if_neg e, List.getElem?_eq_none (by simp; omega), List.getElem?_eq_none (by omega)]
  have kq : adrSeen adr A.prof.length q (.seen A.prof.length) = q := by simp [adrSeen]
  have hC : ∀ r, Ma.live { A with prof := A.prof ++ [(p, [w])] } r → r ≠ .seen A.prof.length → A.live r ∧ adrSeen adr A.prof.length q r = adr r := by
    intro r hr h1
    cases r with
    | seen j =>
      have : j ≠ A.prof.length := fun z => h1 (by rw [z])
      have hr' : j < (A.prof ++ [(p, [w])]).length := hr
      rw [List.length_append, List.length_singleton] at hr'
      exact ⟨show j < A.prof.length by omega, by simp [adrSeen, this]⟩
    | _ => exact ⟨hr, rfl⟩
  refine ⟨⟨fun r hr => ?_, fun r1 r2 h1 h2 e => ?_⟩, ⟨by rw [List.length_set, List.length_set]; exact x.len, fun i hi h => ?_⟩⟩
  · by_cases c1 : r = .seen A.prof.length
    · subst c1
      rw [kq, List.getElem?_set_self (by rw [List.length_set]; exact hql)]
      simp [Ma.ob, hpf]
    · obtain ⟨g1, g2⟩ := hC r hr c1
      rw [g2, List.getElem?_set_ne fun z => oq ⟨r, g1, z.symm⟩]
      by_cases c3 : r = .profD
      · subst c3
        rw [List.getElem?_set_self (R.lt hpl)]
        simp only [Ma.ob, List.length_append, List.length_singleton, List.range_succ, List.map_append, List.map_singleton, hpf, if_true, kq]
        congr 3
        unfold profW
        refine List.map_congr_left fun j hj => ?_
        have := List.mem_range.mp hj
        simp [show j ≠ A.prof.length by omega, adrSeen]
      · rw [List.getElem?_set_ne fun z => c3 (R.inj _ _ g1 hpl z.symm), R.ob r g1]
        cases r with
        | seen j =>
          have : j ≠ A.prof.length := fun z => c1 (by rw [z])
          simp [Ma.ob, hpf, this]
        | profD => exact absurd rfl c3
        | _ => rfl
  · have key : ∀ r, Ma.live { A with prof := A.prof ++ [(p, [w])] } r → (r = .seen A.prof.length ∧ adrSeen adr A.prof.length q r = q) ∨ (A.live r ∧ adrSeen adr A.prof.length q r = adr r) := by
      intro r hr
      by_cases c1 : r = .seen A.prof.length
      · exact .inl ⟨c1, by rw [c1, kq]⟩
      · exact .inr (hC r hr c1)
    rcases key r1 h1 with ⟨a1, b1⟩ | ⟨a1, b1⟩ <;> rcases key r2 h2 with ⟨a2, b2⟩ | ⟨a2, b2⟩ <;> rw [b1, b2] at e
    · rw [a1, a2]
    · exact absurd ⟨r2, a2, e.symm⟩ oq
    · exact absurd ⟨r1, a1, e⟩ oq
    · exact R.inj _ _ a1 a2 e
  · obtain ⟨g1, g2⟩ := x.keep i hi h
    refine ⟨?_, fun ⟨r, hr, e⟩ => ?_⟩
    · rw [List.getElem?_set_ne (by omega), List.getElem?_set_ne fun z => g2 ⟨_, hpl, z⟩, g1]
    · by_cases c1 : r = .seen A.prof.length
      · rw [c1, kq] at e
        omega
      · obtain ⟨k1, k2⟩ := hC r hr c1
        exact g2 ⟨r, k1, by rw [← k2]; exact e⟩
def SameRun (adr adr' : Role → Nat) (A A' : Ma) : Prop := adr' .run = adr .run ∧ adr' .world = adr .world ∧ ∀ j, j < A.frames.length → j < A'.frames.length → adr' (.frame j) = adr (.frame j)
theorem St.noted (R : St adr A S) {p : Nat × Nat} {w : W} (hw : w = .non ∨ kOk true w = true) (hn : isNon w = true ↔ w = .non) (hc : A.prof.length < 100000) (hs : ∀ i, (A.pf i).2.length < 100000) :
    ∃ adr' S', F_Rows_noted [.ref (adr .run), placeW p, w] S = some (.non, S') ∧ St adr' (A.noteA p w) S' ∧ Go adr A S adr' (A.noteA p w) S' ∧ SameRun adr adr' A (A.noteA p w) := by
  by_cases hz : w = .non
  · subst hz
    refine ⟨adr, S, ?_, R, Go.refl, rfl, rfl, fun _ _ _ => rfl⟩
    simp [F_Rows_noted, b_Rows_noted, fnOf, sIf, tVal, op1, mVar, fNotN, isNon, sNil]
  · have hk : kOk true w = true := hw.resolve_left hz
    have hin : isNon w = false := by
      cases q : isNon w with
      | false => rfl
      | true => exact absurd (hn.mp q) hz
    have hA : A.noteA p w = match A.at? p with | some i => { A with prof := A.prof.set i (p, putWhat (A.pf i).2 w) } | none => { A with prof := A.prof ++ [(p, [w])] } := by
      cases w <;> first | exact absurd rfl hz | rfl
    rw [hA]
    have ht : tVal (op1 fNotN (mVar 2)) [some (.ref (adr .run)), some (placeW p), some w, none] S = some (true, S) := by
      simp [tVal, op1, mVar, fNotN, hin]
    obtain ⟨R1, x1⟩ := R.more (.dct true [])
    have hq : (S ++ [Ob.dct true []])[S.length]? = some (.dct true []) := List.getElem?_concat_length
    have hpk : kOk true (placeW p) = true := rfl
    have hpl : (profW adr A).length < 100000 := by simpa [profW] using hc
    have own : ¬ Own adr A S.length := fun ⟨r, h1, h2⟩ => by have := R.lt h1; omega
    have m0 : ∀ r : Option (W × Store), (match dVal true (profW adr A) (placeW p) with
        | some x => some (x, S ++ [Ob.dct true []])
        | none => some (W.ref S.length, (S ++ [Ob.dct true []]).set (adr .profD) (.dct true (dPut true (profW adr A) (placeW p) (.ref S.length))))) = r →
        mSetD (op1 (fld cs_profile "profile") (mVar 0)) (mVar 1) (mDNew true) [some (.ref (adr .run)), some (placeW p), some w, none] S = r := by
      intro r hr
      simp only [mSetD, op1, mVar, List.getElem?_cons_zero, List.getElem?_cons_succ, R.g_profile, R.o_prof', mDNew, R1.o_prof', hpk, hpl, and_self, if_true]
      exact hr
    cases hf : A.at? p with
    | some i =>
      obtain ⟨hi, hip⟩ := Ma.at_lt hf
      have m1 := m0 _ rfl
      rw [dVal_prof, hf] at m1
      simp only [Option.map_some] at m1
      have t2 := R1.noteOld (w := w) hf
      refine ⟨adr, _, ?_, t2.1, x1.trans t2.2, rfl, rfl, fun _ _ _ => rfl⟩
      have y1 := asg_of (g := gName 3) m1 (by rfl)
      simp only [List.set_cons_succ, List.set_cons_zero] at y1
      have y2 : sPutD (mC (.bl true)) (mVar 3) (mVar 2) [some (.ref (adr .run)), some (placeW p), some w, some (.ref (adr (.seen i)))] (S ++ [Ob.dct true []]) = some (.nx [some (.ref (adr .run)), some (placeW p), some w, some (.ref (adr (.seen i)))], (S ++ [Ob.dct true []]).set (adr (.seen i)) (.dct true ((putWhat (A.pf i).2 w).map fun w => (w, .bl true)))) := by
        have hl : ((A.pf i).2.map fun w => (w, W.bl true)).length < 100000 := by simpa using hs i
        simp only [sPutD, mC, mVar, List.getElem?_cons_zero, List.getElem?_cons_succ, R1.o_seen hi, hk, hl, and_self, if_true, dPut_what]
      rw [F_Rows_noted, fnOf_eq]
      show fin (b_Rows_noted [some (.ref (adr .run)), some (placeW p), some w, none] S) = _
      unfold b_Rows_noted
      rw [if_true_of ht ((seq_of y1).trans y2)]
      rfl
    | none =>
      have m1 := m0 _ rfl
      rw [dVal_prof, hf] at m1
      simp only [Option.map_none] at m1
      have hno : (profW adr A).any (fun kv => sameK true kv.1 (placeW p)) = false := any_dVal (by rw [dVal_prof, hf]; rfl)
      have hput : dPut true (profW adr A) (placeW p) (.ref S.length) = profW adr A ++ [(placeW p, .ref S.length)] := by
        unfold dPut
        rw [hno]
        rfl
      rw [hput] at m1
      obtain ⟨R2, x2⟩ := R1.noteNew (S0 := S) (p := p) (w := w) (q := S.length) (v := 0) x1 (Nat.le_refl _) own (by simp)
      refine ⟨_, _, ?_, R2, x2, rfl, rfl, fun _ _ _ => rfl⟩
      have y1 := asg_of (g := gName 3) m1 (by rfl)
      simp only [List.set_cons_succ, List.set_cons_zero] at y1
      have nq : adr .profD ≠ S.length := fun z => own ⟨.profD, trivial, z⟩
      have hq2 : ((S ++ [Ob.dct true []]).set (adr .profD) (.dct true (profW adr A ++ [(placeW p, .ref S.length)])))[S.length]? = some (.dct true []) := by
        rw [List.getElem?_set_ne nq]
        exact hq
      have y2 : sPutD (mC (.bl true)) (mVar 3) (mVar 2) [some (.ref (adr .run)), some (placeW p), some w, some (.ref S.length)] ((S ++ [Ob.dct true []]).set (adr .profD) (.dct true (profW adr A ++ [(placeW p, .ref S.length)]))) = some (.nx [some (.ref (adr .run)), some (placeW p), some w, some (.ref S.length)], ((S ++ [Ob.dct true []]).set (adr .profD) (.dct true (profW adr A ++ [(placeW p, .ref S.length)]))).set S.length (.dct true [(w, .bl true)])) := by
        have hd : dPut true [] w (.bl true) = [(w, .bl true)] := rfl
        simp only [sPutD, mC, mVar, List.getElem?_cons_zero, List.getElem?_cons_succ, hq2, hk, List.length_nil, true_and, hd]
        rw [if_pos (by decide)]
      rw [F_Rows_noted, fnOf_eq]
      show fin (b_Rows_noted [some (.ref (adr .run)), some (placeW p), some w, none] S) = _
      unfold b_Rows_noted
      rw [if_true_of ht ((seq_of y1).trans y2)]
      rfl
end
end Gm

set_option linter.all false
namespace Gm
open PySem (Str)
def Row.simple : Row → Prop
  | .make _ _ => False
  | .get _ _ _ => False
  | .put _ _ _ => False
  | _ => True
def Row.stays : Row → Bool
  | .call _ _ _ _ => true
  | .give _ => true
  | .go _ => true
  | .iff _ _ => true
  | _ => false
def Row.goes (rows plan : Nat) : Row → Prop
  | .go r => r ≤ rows
  | .iff _ r => r ≤ rows
  | .anew _ _ b => b < plan
  | _ => True
namespace Ma
def deedA (A : Ma) (i : Nat) : Row → Sum Str Ma
  | .number b n => .inr (A.setBox i b (.num n))
  | .nothing b => .inr (A.setBox i b .non)
  | .copy b c => .inr (A.setBox i b ((A.fr i).box c))
  | .reck k b c d => match reckon k ((A.fr i).box c) ((A.fr i).box d) with
    | .inl f => .inl f
    | .inr v => .inr (A.setBox i b v)
  | .call _ n a as => A.callA i n (a :: as)
  | .give c => .inr (A.giveA ((A.fr i).box c))
  | .go r => .inr (A.setRow i r)
  | .iff c r => .inr (A.setRow i (if truth ((A.fr i).box c) then r else (A.fr i).row + 1))
  | .tell c => .inr { A with told := A.told ++ [A.evOf ((A.fr i).box c)] }
  | .anew k n b => .inr { A with entries := putE A.entries (k, n) b }
  | _ => .inl "field"
def bump (A : Ma) : Ma := { A with passed := A.passed + 1 }
def faultW (f : Str) (fr : Fr) : W := .tup [.str "fault", .str f, natW fr.body, natW fr.row]
def afterA (A1 : Ma) (i : Nat) (r : Row) : Ma := if r.stays then A1 else A1.setRow i ((A1.fr i).row + 1)
def rowA (A : Ma) : Ma × Bool :=
  match A.plan[(A.fr (A.frames.length - 1)).body]? with
  | none => (A, false)
  | some bd => match bd.rows[(A.fr (A.frames.length - 1)).row]? with
    | none => ((A.giveA .non).bump, true)
    | some r => match A.deedA (A.frames.length - 1) r with
      | .inl w => ({ A with ending := faultW w (A.fr (A.frames.length - 1)) }, false)
      | .inr A1 => ((afterA (A1.noteA ((A.fr (A.frames.length - 1)).body, (A.fr (A.frames.length - 1)).row) (A.seenOf (A.fr (A.frames.length - 1)) r)) (A.frames.length - 1) r).bump, true)
/-- the program is well made -/
structure PlanOk (A : Ma) : Prop where
  bd : ∀ (b : Nat) (bd : Bd), A.plan[b]? = some bd → bd.boxes ≤ 1000 ∧ bd.takes ≤ bd.boxes ∧ ∀ r ∈ bd.rows, r.okIn bd.boxes ∧ r.goes bd.rows.length A.plan.length ∧ r.simple ∧ (∀ b n, r = .number b n → lim n)
  ent : ∀ k b, getE A.entries k = some b → b < A.plan.length
structure Good (A : Ma) : Prop where
  pl : A.PlanOk
  ne : 0 < A.frames.length
  le : A.frames.length ≤ 1000
  fr : ∀ i, i < A.frames.length → ∃ bd, A.plan[(A.fr i).body]? = some bd ∧ (A.fr i).row ≤ bd.rows.length ∧ (A.fr i).boxes.length = bd.boxes
  wait : ∀ i, i + 1 < A.frames.length → ∃ b n a as, A.rowAt (A.fr i) = some (.call b n a as)
  val : ∀ i, i < A.frames.length → ∀ v ∈ (A.fr i).boxes, A.Has v ∧ v.fits
structure Cap (A : Ma) (n : Nat) : Prop where
  prof : A.prof.length ≤ n
  seen : ∀ i, (A.pf i).2.length ≤ n
  told : A.told.length ≤ n
  ent : A.entries.length ≤ n
end Ma
section
variable {adr : Role → Nat} {A A1 A2 : Ma} {S S0 S1 S2 S' : Store} {e : Env}
theorem Ma.Good.box (G : A.Good) {i c : Nat} (h : i < A.frames.length) (hc : c < (A.fr i).boxes.length) : A.Has ((A.fr i).box c) ∧ ((A.fr i).box c).fits :=
  G.val i h _ (List.mem_of_getElem? (box_at hc))
theorem Ma.Good.waits (G : A.Good) {i : Nat} (h : i + 1 < A.frames.length) : ∃ b n a as, A.rowAt (A.fr i) = some (.call b n a as) ∧ b < (A.fr i).boxes.length := by
  obtain ⟨b, n, a, as, hr⟩ := G.wait i h
  refine ⟨b, n, a, as, hr, ?_⟩
  obtain ⟨bd, h1, h2, h3⟩ := G.fr i (by omega)
  unfold Ma.rowAt Ma.bdOf at hr
  rw [h1] at hr
  have := (G.pl.bd _ _ h1).2.2 _ (List.mem_of_getElem? hr)
  rw [h3]
  exact this.1.1
theorem head_args (A : Ma) (i a : Nat) (as : List Nat) : (A.argsOf i (a :: as)).headD .non = (A.fr i).box a := rfl
theorem ent_lt {k : Str × Str} {b : Nat} (G : A.PlanOk) (h : getE A.entries k = some b) : ∃ bd, A.plan[b]? = some bd ∧ bd.boxes ≤ 1000 ∧ bd.takes ≤ bd.boxes := by
  have hb := G.ent k b h
  obtain ⟨h1, h2, _⟩ := G.bd b _ (List.getElem?_eq_getElem hb)
  exact ⟨_, List.getElem?_eq_getElem hb, h1, h2⟩
/-- every deed -/
theorem St.deeds (R : St adr A S) (G : A.Good) {n : Nat} (C : A.Cap n) (hn : n < 90000) {i : Nat} (hi : i + 1 = A.frames.length) {r : Row} (ho : r.okIn (A.fr i).boxes.length) (hs : r.simple) :
    ∃ x F, d_DEEDS.lookup r.word = some (.glo x) ∧ fs_DEEDS.lookup x = some F ∧ Deed F adr A S i r (match A.deedA i r with | .inl f => .str f | .inr _ => .non) (match A.deedA i r with | .inl _ => A | .inr A' => A') := by
  have h : i < A.frames.length := by omega
  cases r with
  | number b n => exact ⟨_, _, rfl, rfl, R.do_number h ho⟩
  | nothing b => exact ⟨_, _, rfl, rfl, R.do_nothing h ho⟩
  | copy b c => exact ⟨_, _, rfl, rfl, R.do_copy h ho.1 (box_at ho.2)⟩
  | reck k b c d =>
    refine ⟨"do_reckoned", F_do_reckoned, by cases k <;> rfl, rfl, ?_⟩
    have := R.do_reckoned (k := k) h ho.1 (box_at ho.2.1) (box_at ho.2.2) (G.box h ho.2.1).2
    unfold Ma.deedA
    cases q : reckon k ((A.fr i).box c) ((A.fr i).box d) <;> (rw [q] at this; simp only [q]; exact this)
  | call b n a as =>
    refine ⟨_, _, rfl, rfl, ?_⟩
    have hv := G.box h (ho.2.1 a (List.mem_cons_self ..))
    exact R.do_call h ho.2.1 (by have := ho.2.2; simp; omega) (by rw [head_args]; exact hv.1) (by have := G.le; omega) fun b hb => ent_lt G.pl hb
  | give c =>
    refine ⟨_, _, rfl, rfl, ?_⟩
    have hv := G.box h ho
    obtain ⟨S1, e1, t1⟩ := R.given (v := (A.fr i).box c) (by omega) hv.1 fun hl => by
      have := G.waits (i := A.frames.length - 2) (by omega)
      exact this
    refine Deed.of (S' := S1) ?_ t1
    have hm : mMethN "Plain" "given" 2 F_Rows_given (mVar 0) (aCons (op2 fIx (op1 (fld cs_boxes "boxes") (mVar 1)) (op2 fIx (mVar 2) (mC (.int 1)))) aNil) [some (.ref (adr .run)), some (.ref (adr (.frame i))), some (rowW (.give c))] S = some (.non, S1) :=
      (meth_of (ws := [valW ((A.fr i).box c)]) (S2 := S) (a := adr .run) rfl R.o_run rfl (aCons_of (S1 := S) (by simp [op2, op1, mVar, mC, rowW, ix1, R.g_boxes h, R.box h (box_at (c := c) ho)]) aNil_of) rfl).trans e1
    rw [F_do_give, fnOf_eq]
    show fin (b_do_give [some (.ref (adr .run)), some (.ref (adr (.frame i))), some (rowW (.give c))] S) = _
    unfold b_do_give
    simp only [sDrop, hm]
    rfl
  | go q => exact ⟨_, _, rfl, rfl, R.do_go h⟩
  | iff c q => exact ⟨_, _, rfl, rfl, R.do_if h (box_at ho)⟩
  | tell c => exact ⟨_, _, rfl, rfl, R.do_tell h (box_at ho) (G.box h ho).1 (by have := C.told; omega)⟩
  | anew k n b => exact ⟨_, _, rfl, rfl, R.do_anew (k := (k, n)) (by have := C.ent; omega)⟩
  | _ => exact hs.elim
end
end Gm

set_option linter.all false
namespace Gm
open PySem (Str)
section
variable {adr : Role → Nat} {A A1 A2 : Ma} {S S0 S1 S2 S' : Store} {e : Env}
theorem tval_of {m : ME} {b : Bool} (h : m e S = some (.bl b, S1)) : tVal m e S = some (b, S1) := by simp only [tVal, h]
theorem op2_of {f : W → W → Store → Option W} {ma mb : ME} {x y z : W} (h1 : ma e S = some (x, S1)) (h2 : mb e S1 = some (y, S2)) (h3 : f x y S2 = some z) : op2 f ma mb e S = some (z, S2) := by simp only [op2, h1, h2, h3]
theorem SameRun.refl : SameRun adr adr A A := ⟨rfl, rfl, fun _ _ _ => rfl⟩
theorem St.x_addPassed (R : St adr A S) {mo m : ME} (h1 : mo e S = some (.ref (adr .run), S)) (h2 : m e S = some (.int 1, S)) :
    sFldAug cs_passed mo "passed" (fun i j => i + j) m e S = some (.nx e, S.set (adr .run) (.ins "Plain" (Ma.runFs adr A.bump))) := by
  have hl : putF "passed" (.int ((A.passed : Int) + 1)) (A.runFs adr) = Ma.runFs adr A.bump := rfl
  have hn : (A.runFs adr).length < 1000 := by simp [Ma.runFs]
  have hk : (A.runFs adr).lookup ("passed" : Str) = some (.int A.passed) := rfl
  simp only [sFldAug, h1, h2, R.o_run, show ("Plain" : Str) ∈ cs_passed by decide, hn, and_self, if_true, hl, hk]
theorem St.bumped (R : St adr A S) : To adr A S A.bump (S.set (adr .run) (.ins "Plain" (Ma.runFs adr A.bump))) := R.setPassed _
/-- the end of a row that is done -/
theorem St.rowEnd (R : St adr A S) (h1 : mVar 0 e S = some (.ref (adr .run), S)) :
    sSeq2 (sFldAug cs_passed (mVar 0) "passed" (fun i j => i + j) (mC (.int 1))) (sRet (mC (.bl true))) e S = some (.rt (.bl true), S.set (adr .run) (.ins "Plain" (Ma.runFs adr A.bump))) := by
  rw [seq_of (R.x_addPassed h1 rfl)]
  rfl
theorem stays_in (r : Row) : ((("call" : Str) == r.word) || ((("give" : Str) == r.word) || ((("go" : Str) == r.word) || (("if" : Str) == r.word)))) = r.stays := by
  cases r with
  | reck k _ _ _ => cases k <;> rfl
  | _ => rfl
theorem fIn_stays (w : Str) : fNotIn (.str w) (.wt [.str "call", .str "give", .str "go", .str "if"]) S = some (.bl (!((("call" : Str) == w) || ((("give" : Str) == w) || ((("go" : Str) == w) || (("if" : Str) == w)))))) := by
  simp [fNotIn, fIn, isSc, eqd, negW]
theorem kOk_seen (A : Ma) (f : Fr) (r : Row) : A.seenOf f r = .non ∨ kOk true (A.seenOf f r) = true := by
  cases r <;> first | exact .inl rfl | exact .inr rfl | skip
  rename_i k b c d
  by_cases h : k = .same
  · subst h; exact .inl rfl
  · right; simp only [Ma.seenOf, if_neg h]; rfl
theorem isNon_seen (A : Ma) (f : Fr) (r : Row) : isNon (A.seenOf f r) = true ↔ A.seenOf f r = .non := by
  cases h : A.seenOf f r <;> simp [isNon]
theorem giveA_len (A : Ma) (v : Val) : (A.giveA v).frames.length = A.frames.length - 1 := by
  unfold Ma.giveA
  split
  · simp [Ma.popped]
  · split
    · simp [Ma.gotA, Ma.mod, Ma.popped]
    · simp [Ma.popped]
/-- a deed that does not stay leaves the frames' number, and the last one's row -/
theorem deed_fr {i : Nat} {r : Row} (hi : i < A.frames.length) (hr : r.stays = false) (h : A.deedA i r = .inr A1) : A1.frames.length = A.frames.length ∧ (A1.fr i).row = (A.fr i).row ∧ A1.prof = A.prof := by
  cases r <;> simp only [Ma.deedA, Row.stays] at h hr <;> first | (cases h; refine ⟨?_, ?_, rfl⟩ <;> simp [Ma.setBox, Ma.mod_len, Ma.mod_fr _ _ hi]) | (cases h; exact ⟨rfl, rfl, rfl⟩) | (cases hr; done) | (cases h; done) | skip
  rename_i k b c d
  split at h
  · cases h
  · cases h
    refine ⟨?_, ?_, rfl⟩ <;> simp [Ma.setBox, Ma.mod_len, Ma.mod_fr _ _ hi]
theorem deed_prof {i : Nat} {r : Row} (h : A.deedA i r = .inr A1) : A1.prof = A.prof := by
  cases r <;> simp only [Ma.deedA] at h <;> first | (cases h; rfl) | (cases h; done) | skip
  · split at h <;> cases h
    rfl
  · unfold Ma.callA at h
    split at h <;> cases h
    rfl
  · cases h
    unfold Ma.giveA
    split
    · rfl
    · split <;> rfl
theorem note_frames (A : Ma) (p : Nat × Nat) (w : W) : (A.noteA p w).frames = A.frames := by
  unfold Ma.noteA
  split
  · rfl
  · split <;> rfl
theorem note_fr (A : Ma) (p : Nat × Nat) (w : W) (i : Nat) : (A.noteA p w).fr i = A.fr i := by
  unfold Ma.fr
  rw [note_frames]
abbrev DoE (adr : Role → Nat) (A : Ma) (bd : Bd) (r : Row) (w : W) (x : Str) (f : W) : Env :=
  [some (.ref (adr .run)), some (.ref (adr (.frame (A.frames.length - 1)))), some (.tup (bd.rows.map rowW)), some (rowW r), some (placeW ((A.fr (A.frames.length - 1)).body, (A.fr (A.frames.length - 1)).row)), some w, some (.glo x), some f]
theorem St.do_row (R : St adr A S) (G : A.Good) {n : Nat} (C : A.Cap n) (hn : n < 90000) :
    ∃ adr' S', F_Rows_do_row [.ref (adr .run)] S = some (.bl A.rowA.2, S') ∧ St adr' A.rowA.1 S' ∧ Go adr A S adr' A.rowA.1 S' ∧ SameRun adr adr' A A.rowA.1 := by
  have hne := G.ne
  generalize hi : A.frames.length - 1 = i
  have h : i < A.frames.length := by omega
  obtain ⟨bd, hbd, hrow, hbx⟩ := G.fr i h
  have hlast : fIx (.ref (adr .framesL)) (.int (-1)) S = some (.ref (adr (.frame i))) := by
    refine fIx_last (ws := framesW adr A.frames.length) (by simp only [seqOf, R.o_frames]; rfl) ?_
    rw [framesW, List.length_map, List.length_range, List.getElem?_map, List.getElem?_range (by omega), hi]
    rfl
  let e0 : Env := [some (.ref (adr .run)), none, none, none, none, none, none, none]
  let e1 : Env := [some (.ref (adr .run)), some (.ref (adr (.frame i))), none, none, none, none, none, none]
  let e2 : Env := [some (.ref (adr .run)), some (.ref (adr (.frame i))), some (.tup (bd.rows.map rowW)), none, none, none, none, none]
  have z1 : sAsg (op2 fIx (op1 (fld cs_frames "frames") (mVar 0)) (op1 fNeg (mC (.int 1)))) (gName 1) e0 S = some (.nx e1, S) :=
    asg_of (w := .ref (adr (.frame i))) (S1 := S) (by simp [op2, op1, mVar, mC, fNeg, e0, R.g_frames, hlast]) rfl
  have z2 : sAsg (mMethN "World" "rows_of" 2 F_World_rows_of (op1 (fld cs_world "world") (mVar 0)) (aCons (op1 (fld cs_body "body") (mVar 1)) aNil)) (gName 2) e1 S = some (.nx e2, S) :=
    asg_of (S1 := S) (R.m_rows hbd (by simp [op1, mVar, e1, R.g_world]) (by simp [op1, mVar, e1, R.g_body h])) rfl
  have hlen : op2 fEq (op1 (fld cs_row "row") (mVar 1)) (mLen (mVar 2)) e2 S = some (.bl (decide ((A.fr i).row = bd.rows.length)), S) := by
    have q1 : op1 (fld cs_row "row") (mVar 1) e2 S = some (natW (A.fr i).row, S) := by simp [op1, mVar, e2, R.g_row h]
    have q2 : mLen (mVar 2) e2 S = some (natW bd.rows.length, S) := by simp [mLen, op1, mVar, e2, natW]
    simp only [op2, q1, q2, fEq, natW, eqW, isSc, Bool.and_self, if_true, eqd, Option.map_some]
    congr 3
    simp [Bool.beq_eq_decide_eq, Int.ofNat_inj]
  rw [F_Rows_do_row, fnOf_eq]
  show ∃ adr' S', fin (b_Rows_do_row e0 S) = _ ∧ _
  unfold b_Rows_do_row
  rw [seq_of z1, seq_of z2]
  unfold Ma.rowA
  rw [hi, hbd]
  simp only
  by_cases hend : (A.fr i).row = bd.rows.length
  · have hnone : bd.rows[(A.fr i).row]? = none := List.getElem?_eq_none (by omega)
    rw [hnone]
    simp only
    obtain ⟨S1, y1, t1⟩ := R.given (v := .non) hne trivial fun hl => G.waits (i := A.frames.length - 2) (by omega)
    have hm : mMethN "Plain" "given" 2 F_Rows_given (mVar 0) (aCons (mC .non) aNil) e2 S = some (.non, S1) :=
      (meth_of (ws := [.non]) (S2 := S) (a := adr .run) rfl R.o_run rfl rfl rfl).trans y1
    have t2 := To.trans t1 t1.1.bumped
    refine ⟨adr, _, ?_, t2.1, t2.2, rfl, rfl, fun _ _ _ => rfl⟩
    have c1 : tVal (op2 fEq (op1 (fld cs_row "row") (mVar 1)) (mLen (mVar 2))) e2 S = some (true, S) := by simp only [tVal, hlen, hend, decide_true]
    rw [seq_of (if_true_of (r := some (.nx e2, S1)) c1 (by simp only [sDrop, hm])), t1.1.rowEnd rfl]
    rfl
  · obtain ⟨r, hr⟩ : ∃ r, bd.rows[(A.fr i).row]? = some r := ⟨_, List.getElem?_eq_getElem (by omega)⟩
    rw [hr]
    simp only
    have hmem := (G.pl.bd _ _ hbd).2.2 r (List.mem_of_getElem? hr)
    have ho : r.okIn (A.fr i).boxes.length := by rw [hbx]; exact hmem.1
    have c1 : tVal (op2 fEq (op1 (fld cs_row "row") (mVar 1)) (mLen (mVar 2))) e2 S = some (false, S) := by simp only [tVal, hlen, hend, decide_false]
    let p : Nat × Nat := ((A.fr i).body, (A.fr i).row)
    let e4 : Env := [some (.ref (adr .run)), some (.ref (adr (.frame i))), some (.tup (bd.rows.map rowW)), some (rowW r), some (placeW p), none, none, none]
    let e5 : Env := [some (.ref (adr .run)), some (.ref (adr (.frame i))), some (.tup (bd.rows.map rowW)), some (rowW r), some (placeW p), some (A.seenOf (A.fr i) r), none, none]
    have z3 : sPar 3 4 (aCons (op2 fIx (mVar 2) (op1 (fld cs_row "row") (mVar 1))) (aCons (mTup (aCons (op1 (fld cs_body "body") (mVar 1)) (aCons (op1 (fld cs_row "row") (mVar 1)) aNil))) aNil)) e2 S = some (.nx e4, S) := by
      have q := rows_ix (S := S) hr
      simp [sPar, aCons, aNil, op2, op1, mVar, e2, e4, R.g_row h, R.g_body h, q, mTup, placeW, p]
    have z4 : sAsg (mCallN 3 F_seen_of (aCons (op1 (fld cs_world "world") (mVar 0)) (aCons (mVar 1) (aCons (mVar 3) aNil)))) (gName 5) e4 S = some (.nx e5, S) := by
      refine asg_of (w := A.seenOf (A.fr i) r) (S1 := S) ?_ rfl
      have := R.seen_of (r := r) h ho fun c hc => (G.box h hc).1
      simp [mCallN, aCons, aNil, op1, mVar, e4, R.g_world, this]
    obtain ⟨x, F, dx, fx, adr1, S1, y1, R1, g1, s1⟩ := R.deeds G C hn (i := i) (by omega) ho hmem.2.2.1
    let e6 : Env := [some (.ref (adr .run)), some (.ref (adr (.frame i))), some (.tup (bd.rows.map rowW)), some (rowW r), some (placeW p), some (A.seenOf (A.fr i) r), some (.glo x), none]
    have z5 : sAsg (op1 (fGetK d_DEEDS) (op2 fIx (mVar 3) (mC (.int 0)))) (gName 6) e5 S = some (.nx e6, S) := by
      refine asg_of (w := .glo x) (S1 := S) ?_ rfl
      simp [op1, op2, mVar, mC, e5, row_word, fGetK, dx]
    have z6 : ∀ w, F [.ref (adr .run), .ref (adr (.frame i)), rowW r] S = some (w, S1) → sAsg (mCallV 6 3 fs_DEEDS (aCons (mVar 0) (aCons (mVar 1) (aCons (mVar 3) aNil)))) (gName 7) e6 S = some (.nx [some (.ref (adr .run)), some (.ref (adr (.frame i))), some (.tup (bd.rows.map rowW)), some (rowW r), some (placeW p), some (A.seenOf (A.fr i) r), some (.glo x), some w], S1) := by
      intro w hw
      refine asg_of (w := w) (S1 := S1) ?_ rfl
      simp [mCallV, e6, fx, aCons, aNil, mVar, hw]
    have key : ∀ rr, sSeq2 (sAsg (mCallV 6 3 fs_DEEDS (aCons (mVar 0) (aCons (mVar 1) (aCons (mVar 3) aNil)))) (gName 7))
        (sSeq2 (sIf (tVal (op1 fNotN (mVar 7))) (sSeq2 (sFld cs_ending (mVar 0) "ending" (mTup (aCons (mC (.str "fault")) (aCons (mVar 7) (aCons (op1 (fld cs_body "body") (mVar 1)) (aCons (op1 (fld cs_row "row") (mVar 1)) aNil))))))
          (sRet (mC (.bl false)))) sNil)
        (sSeq2 (sDrop (mMethN "Plain" "noted" 3 F_Rows_noted (mVar 0) (aCons (mVar 4) (aCons (mVar 5) aNil))))
        (sIf (tVal (op2 fNotIn (op2 fIx (mVar 3) (mC (.int 0))) (mC (.wt [.str "call", .str "give", .str "go", .str "if"])))) (sFldAug cs_row (mVar 1) "row" (fun i j => i + j) (mC (.int 1))) sNil))) e6 S = rr →
        sIf (tVal (op2 fEq (op1 (fld cs_row "row") (mVar 1)) (mLen (mVar 2)))) (sDrop (mMethN "Plain" "given" 2 F_Rows_given (mVar 0) (aCons (mC .non) aNil))) (sSeq2 (sPar 3 4 (aCons (op2 fIx (mVar 2) (op1 (fld cs_row "row") (mVar 1))) (aCons (mTup (aCons (op1 (fld cs_body "body") (mVar 1)) (aCons (op1 (fld cs_row "row") (mVar 1)) aNil))) aNil)))
    (sSeq2 (sAsg (mCallN 3 F_seen_of (aCons (op1 (fld cs_world "world") (mVar 0)) (aCons (mVar 1) (aCons (mVar 3) aNil)))) (gName 5))
    (sSeq2 (sAsg (op1 (fGetK d_DEEDS) (op2 fIx (mVar 3) (mC (.int 0)))) (gName 6))
    (sSeq2 (sAsg (mCallV 6 3 fs_DEEDS (aCons (mVar 0) (aCons (mVar 1) (aCons (mVar 3) aNil)))) (gName 7))
    (sSeq2 (sIf (tVal (op1 fNotN (mVar 7))) (sSeq2 (sFld cs_ending (mVar 0) "ending" (mTup (aCons (mC (.str "fault")) (aCons (mVar 7) (aCons (op1 (fld cs_body "body") (mVar 1)) (aCons (op1 (fld cs_row "row") (mVar 1)) aNil))))))
    (sRet (mC (.bl false)))) sNil)
    (sSeq2 (sDrop (mMethN "Plain" "noted" 3 F_Rows_noted (mVar 0) (aCons (mVar 4) (aCons (mVar 5) aNil))))
    (sIf (tVal (op2 fNotIn (op2 fIx (mVar 3) (mC (.int 0))) (mC (.wt [.str "call", .str "give", .str "go", .str "if"])))) (sFldAug cs_row (mVar 1) "row" (fun i j => i + j) (mC (.int 1))) sNil))))))) e2 S = rr := by
      intro rr hrr
      simp only [sIf, c1]
      rw [seq_of z3, seq_of z4, seq_of z5]
      exact hrr
    cases hd : A.deedA i r with
    | inl f =>
      rw [hd] at y1 R1 g1 s1
      simp only at y1 R1 g1 s1 ⊢
      obtain ⟨a1, a2, a3⟩ := s1
      have t2 := R1.setEnd (Ma.faultW f (A.fr i))
      refine ⟨adr1, _, ?_, t2.1, g1.trans t2.2, a1, a2, fun j h1 h2 => a3 j h1 h2⟩
      have c2 : tVal (op1 fNotN (mVar 7)) [some (.ref (adr .run)), some (.ref (adr (.frame i))), some (.tup (bd.rows.map rowW)), some (rowW r), some (placeW p), some (A.seenOf (A.fr i) r), some (.glo x), some (.str f)] S1 = some (true, S1) := rfl
      have hfi : adr1 (.frame i) = adr (.frame i) := a3 i h h
      have c3 : sFld cs_ending (mVar 0) "ending" (mTup (aCons (mC (.str "fault")) (aCons (mVar 7) (aCons (op1 (fld cs_body "body") (mVar 1)) (aCons (op1 (fld cs_row "row") (mVar 1)) aNil))))) [some (.ref (adr .run)), some (.ref (adr (.frame i))), some (.tup (bd.rows.map rowW)), some (rowW r), some (placeW p), some (A.seenOf (A.fr i) r), some (.glo x), some (.str f)] S1 =
          some (.nx [some (.ref (adr .run)), some (.ref (adr (.frame i))), some (.tup (bd.rows.map rowW)), some (rowW r), some (placeW p), some (A.seenOf (A.fr i) r), some (.glo x), some (.str f)], S1.set (adr1 .run) (.ins "Plain" (Ma.runFs adr1 { A with ending := Ma.faultW f (A.fr i) }))) := by
        have gb := R1.g_body h
        have gr := R1.g_row h
        rw [hfi] at gb gr
        have hk : putF "ending" (Ma.faultW f (A.fr i)) (A.runFs adr1) = Ma.runFs adr1 { A with ending := Ma.faultW f (A.fr i) } := rfl
        have hn' : (A.runFs adr1).length < 1000 := by simp [Ma.runFs]
        have ho := R1.o_run
        rw [a1] at ho
        have hmt : mTup (aCons (mC (.str "fault")) (aCons (mVar 7) (aCons (op1 (fld cs_body "body") (mVar 1)) (aCons (op1 (fld cs_row "row") (mVar 1)) aNil)))) [some (.ref (adr .run)), some (.ref (adr (.frame i))), some (.tup (bd.rows.map rowW)), some (rowW r), some (placeW p), some (A.seenOf (A.fr i) r), some (.glo x), some (.str f)] S1 = some (Ma.faultW f (A.fr i), S1) := by
          simp [mTup, aCons, mC, mVar, op1, aNil, gb, gr, Ma.faultW]
        have hm0 : mVar 0 [some (.ref (adr .run)), some (.ref (adr (.frame i))), some (.tup (bd.rows.map rowW)), some (rowW r), some (placeW p), some (A.seenOf (A.fr i) r), some (.glo x), some (.str f)] S1 = some (.ref (adr .run), S1) := rfl
        simp only [sFld, hmt, hm0, ho, show ("Plain" : Str) ∈ cs_ending by decide, hn', and_self, if_true, hk, a1]
      rw [seq_rt (v := .bl false) (key _ (by rw [seq_of (z6 _ y1), seq_rt (v := .bl false) (if_true_of c2 (by rw [seq_of c3]; rfl))]))]
      rfl
    | inr A1 =>
      rw [hd] at y1 R1 g1 s1
      simp only at y1 R1 g1 s1 ⊢
      obtain ⟨a1, a2, a3⟩ := s1
      have hp1 := deed_prof hd
      have hcap1 : A1.prof.length < 100000 := by rw [hp1]; have := C.prof; omega
      have hcap2 : ∀ j, (A1.pf j).2.length < 100000 := fun j => by
        have : A1.pf j = A.pf j := by unfold Ma.pf; rw [hp1]
        rw [this]
        have := C.seen j
        omega
      obtain ⟨adr2, S2, y2, R2, g2, b1, b2, b3⟩ := R1.noted (p := p) (kOk_seen A (A.fr i) r) (isNon_seen A (A.fr i) r) hcap1 hcap2
      let e7 : Env := [some (.ref (adr .run)), some (.ref (adr (.frame i))), some (.tup (bd.rows.map rowW)), some (rowW r), some (placeW p), some (A.seenOf (A.fr i) r), some (.glo x), some .non]
      have c2 : tVal (op1 fNotN (mVar 7)) e7 S1 = some (false, S1) := rfl
      have c3 : sDrop (mMethN "Plain" "noted" 3 F_Rows_noted (mVar 0) (aCons (mVar 4) (aCons (mVar 5) aNil))) e7 S1 = some (.nx e7, S2) := by
        have ho := R1.o_run
        rw [a1] at ho
        rw [a1] at y2
        have hm : mMethN "Plain" "noted" 3 F_Rows_noted (mVar 0) (aCons (mVar 4) (aCons (mVar 5) aNil)) e7 S1 = some (.non, S2) :=
          (meth_of (ws := [placeW p, A.seenOf (A.fr i) r]) (S2 := S1) (a := adr .run) rfl ho rfl rfl rfl).trans y2
        simp only [sDrop, hm]
      have c4 : tVal (op2 fNotIn (op2 fIx (mVar 3) (mC (.int 0))) (mC (.wt [.str "call", .str "give", .str "go", .str "if"]))) e7 S2 = some (!r.stays, S2) := by
        have q1 : op2 fIx (mVar 3) (mC (.int 0)) e7 S2 = some (.str r.word, S2) := by simp [op2, mVar, mC, e7, row_word]
        exact tval_of (op2_of q1 rfl (by rw [fIn_stays, stays_in]))
      have run2 : adr2 .run = adr .run := by rw [b1, a1]
      cases hst : r.stays with
      | true =>
        have hA : Ma.afterA (A1.noteA p (A.seenOf (A.fr i) r)) i r = A1.noteA p (A.seenOf (A.fr i) r) := by unfold Ma.afterA; rw [if_pos hst]
        have t3 := R2.bumped
        refine ⟨adr2, _, ?_, by rw [show (((A.fr i).body, (A.fr i).row) : Nat × Nat) = p from rfl, hA]; exact t3.1, by rw [show (((A.fr i).body, (A.fr i).row) : Nat × Nat) = p from rfl, hA]; exact (g1.trans g2).trans t3.2, run2, by rw [b2, a2], fun j h1 h2 => ?_⟩
        · rw [hst] at c4
          rw [seq_of (key (some (.nx e7, S2)) (by rw [seq_of (z6 _ y1), seq_of (if_nil_of c2), seq_of c3, if_nil_of c4]))]
          rw [R2.rowEnd (by rw [run2]; rfl)]
          rfl
        · have h2' : j < (A1.noteA p (A.seenOf (A.fr i) r)).frames.length := by
            rw [show (((A.fr i).body, (A.fr i).row) : Nat × Nat) = p from rfl, hA] at h2
            exact h2
          have h3 : j < A1.frames.length := by rw [note_frames] at h2'; exact h2'
          rw [b3 j h3 h2', a3 j h1 h3]
      | false =>
        obtain ⟨d1, d2, d3⟩ := deed_fr h hst hd
        have hi1 : i < A1.frames.length := by omega
        have hi2 : i < (A1.noteA p (A.seenOf (A.fr i) r)).frames.length := by rw [note_frames]; exact hi1
        have fr2 : adr2 (.frame i) = adr (.frame i) := by rw [b3 i hi1 hi2, a3 i h hi1]
        have hA : Ma.afterA (A1.noteA p (A.seenOf (A.fr i) r)) i r = (A1.noteA p (A.seenOf (A.fr i) r)).setRow i (((A1.noteA p (A.seenOf (A.fr i) r)).fr i).row + 1) := by unfold Ma.afterA; rw [if_neg (by rw [hst]; decide)]
        have t3 := R2.setRow (r := ((A1.noteA p (A.seenOf (A.fr i) r)).fr i).row + 1) hi2
        have x3 := R2.x_augRow (e := e7) (mo := mVar 1) (m := mC (.int 1)) hi2 rfl (by rw [fr2]; rfl)
        have t4 := To.trans t3 t3.1.bumped
        refine ⟨adr2, _, ?_, by rw [show (((A.fr i).body, (A.fr i).row) : Nat × Nat) = p from rfl, hA]; exact t4.1, by rw [show (((A.fr i).body, (A.fr i).row) : Nat × Nat) = p from rfl, hA]; exact (g1.trans g2).trans t4.2, run2, by rw [b2, a2], fun j h1 h2 => ?_⟩
        · rw [hst] at c4
          rw [seq_of (key (some (.nx e7, _)) (by rw [seq_of (z6 _ y1), seq_of (if_nil_of c2), seq_of c3]; exact if_true_of c4 x3))]
          rw [t3.1.rowEnd (by rw [run2]; rfl)]
          rfl
        · have h3 : j < A1.frames.length := by omega
          have h4 : j < (A1.noteA p (A.seenOf (A.fr i) r)).frames.length := by rw [note_frames]; exact h3
          rw [b3 j h3 h4, a3 j h1 h3]
end
end Gm

set_option linter.all false
namespace Gm
open PySem (Str)
section
variable {A A1 A2 : Ma}
namespace Ma
theorem Good.congr (G : A.Good) (h1 : A1.plan = A.plan) (h2 : A1.frames = A.frames) (h3 : A1.entries = A.entries) (h4 : A1.heap = A.heap) : A1.Good := by
  have e : ∀ i, A1.fr i = A.fr i := fun i => by unfold Ma.fr; rw [h2]
  have hh : ∀ v, A1.Has v ↔ A.Has v := fun v => by unfold Has; rw [h4]
  refine ⟨⟨fun b bd h => ?_, fun k b h => ?_⟩, by rw [h2]; exact G.ne, by rw [h2]; exact G.le, fun i hi => ?_, fun i hi => ?_, fun i hi v hv => ?_⟩
  · rw [h1] at h ⊢
    exact G.pl.bd b bd h
  · rw [h3] at h
    rw [h1]
    exact G.pl.ent k b h
  · rw [h2] at hi
    rw [e, h1]
    exact G.fr i hi
  · rw [h2] at hi
    unfold rowAt bdOf
    rw [e, h1]
    exact G.wait i hi
  · rw [h2] at hi
    rw [e] at hv
    rw [hh]
    exact G.val i hi v hv
theorem Good.ents (G : A.Good) (es : List ((Str × Str) × Nat)) (h : ∀ k b, getE es k = some b → b < A.plan.length) : Good { A with entries := es } :=
  ⟨⟨G.pl.bd, h⟩, G.ne, G.le, G.fr, G.wait, G.val⟩
theorem getE_put {es : List ((Str × Str) × Nat)} {k k2 : Str × Str} {n b : Nat} (h : getE (putE es k n) k2 = some b) : b = n ∨ getE es k2 = some b := by
  unfold getE putE at *
  split at h
  · rename_i c
    clear c
    induction es with
    | nil => cases h
    | cons x es ih =>
      rw [List.map_cons, List.find?_cons] at h
      rw [List.find?_cons]
      by_cases hx : x.1 = k
      · by_cases hk : k = k2
        · simp [hx, hk] at h
          exact .inl h.symm
        · simp only [hx, if_true, hk, decide_false] at h ⊢
          exact ih h
      · by_cases hk : x.1 = k2
        · rw [if_neg hx] at h
          simp only [hk, decide_true] at h ⊢
          exact .inr h
        · simp only [if_neg hx, hk, decide_false] at h ⊢
          exact ih h
  · rw [List.find?_append] at h
    cases hf : es.find? fun e => decide (e.1 = k2) with
    | some x =>
      rw [hf] at h
      exact .inr h
    | none =>
      rw [hf] at h
      by_cases hk : k = k2
      · simp [hk] at h
        exact .inl h.symm
      · simp [hk] at h
theorem Good.mod (G : A.Good) {i : Nat} (hi : i + 1 = A.frames.length) (f : Fr) {bd : Bd} (hbd : A.plan[(A.fr i).body]? = some bd) (hb : f.body = (A.fr i).body) (hr : f.row ≤ bd.rows.length) (hl : f.boxes.length = bd.boxes) (hv : ∀ v ∈ f.boxes, A.Has v ∧ v.fits) : (A.mod i f).Good := by
  have h : i < A.frames.length := by omega
  refine ⟨⟨G.pl.bd, G.pl.ent⟩, by rw [mod_len]; exact G.ne, by rw [mod_len]; exact G.le, fun j hj => ?_, fun j hj => ?_, fun j hj v hv' => ?_⟩
  · rw [mod_len] at hj
    rw [mod_fr A f h]
    by_cases e : j = i
    · rw [if_pos e]
      exact ⟨bd, by rw [hb]; exact hbd, hr, hl⟩
    · rw [if_neg e]
      exact G.fr j hj
  · rw [mod_len] at hj
    unfold rowAt bdOf
    rw [mod_fr A f h, if_neg (by omega)]
    exact G.wait j hj
  · rw [mod_len] at hj
    rw [mod_fr A f h] at hv'
    by_cases e : j = i
    · rw [if_pos e] at hv'
      exact hv v hv'
    · rw [if_neg e] at hv'
      exact G.val j hj v hv'
theorem Good.setBox (G : A.Good) {i b : Nat} {v : Val} (hi : i + 1 = A.frames.length) (hv : A.Has v ∧ v.fits) : (A.setBox i b v).Good := by
  obtain ⟨bd, h1, h2, h3⟩ := G.fr i (by omega)
  refine G.mod hi _ h1 rfl h2 (by simpa using h3) fun u hu => ?_
  rcases List.mem_or_eq_of_mem_set hu with h | h
  · exact G.val i (by omega) u h
  · rw [h]
    exact hv
theorem Good.setRow (G : A.Good) {i r : Nat} {bd : Bd} (hi : i + 1 = A.frames.length) (h1 : A.plan[(A.fr i).body]? = some bd) (hr : r ≤ bd.rows.length) : (A.setRow i r).Good := by
  obtain ⟨bd', h1', h2, h3⟩ := G.fr i (by omega)
  rw [h1] at h1'
  cases h1'
  exact G.mod hi _ h1 rfl hr h3 (G.val i (by omega))
theorem Good.popped (G : A.Good) (h : 1 < A.frames.length) : A.popped.Good := by
  have hl : A.popped.frames.length = A.frames.length - 1 := by simp [Ma.popped]
  refine ⟨⟨G.pl.bd, G.pl.ent⟩, by omega, by have := G.le; omega, fun j hj => ?_, fun j hj => ?_, fun j hj v hv => ?_⟩
  · rw [popped_fr A hj]
    exact G.fr j (by omega)
  · unfold rowAt bdOf
    rw [popped_fr A (by omega)]
    exact G.wait j (by omega)
  · rw [popped_fr A hj] at hv
    exact G.val j (by omega) v hv
theorem Good.give (G : A.Good) (h : 1 < A.frames.length) {v : Val} (hv : A.Has v ∧ v.fits) : (A.giveA v).Good ∧ (A.giveA v).ending = A.ending := by
  obtain ⟨b, n, a, as, hr, hb⟩ := G.waits (i := A.frames.length - 2) (by omega)
  unfold giveA
  rw [if_neg (by omega), hr]
  have hl : A.popped.frames.length = A.frames.length - 1 := by simp [Ma.popped]
  have hj : A.frames.length - 2 < A.popped.frames.length := by omega
  have hf := A.popped_fr hj
  obtain ⟨bd, h1, h2, h3⟩ := G.fr (A.frames.length - 2) (by omega)
  have hlt : (A.fr (A.frames.length - 2)).row < bd.rows.length := by
    unfold rowAt bdOf at hr
    rw [h1] at hr
    exact (List.getElem?_eq_some_iff.mp hr).1
  refine ⟨(G.popped h).mod (by omega) _ (bd := bd) (by rw [hf]; exact h1) rfl (by rw [hf]; exact hlt) (by rw [hf]; simpa using h3) fun u hu => ?_, rfl⟩
  rw [hf] at hu
  rcases List.mem_or_eq_of_mem_set hu with h' | h'
  · exact G.val _ (by omega) u h'
  · rw [h']
    exact hv
theorem Good.push (G : A.Good) {f : Fr} {bd : Bd} (hc : ∃ b n a as, A.rowAt (A.fr (A.frames.length - 1)) = some (.call b n a as)) (h1 : A.plan[f.body]? = some bd) (h2 : f.row ≤ bd.rows.length) (h3 : f.boxes.length = bd.boxes) (hv : ∀ v ∈ f.boxes, A.Has v ∧ v.fits) (hl : A.frames.length < 1000) : (A.push f).Good := by
  have hlen : (A.push f).frames.length = A.frames.length + 1 := by simp [Ma.push]
  refine ⟨⟨G.pl.bd, G.pl.ent⟩, by omega, by omega, fun j hj => ?_, fun j hj => ?_, fun j hj v hv' => ?_⟩
  · rw [push_fr]
    by_cases e : j = A.frames.length
    · rw [if_pos e]
      exact ⟨bd, h1, h2, h3⟩
    · rw [if_neg e]
      exact G.fr j (by omega)
  · unfold rowAt bdOf
    rw [push_fr, if_neg (by omega)]
    by_cases e : j + 1 = A.frames.length
    · have : j = A.frames.length - 1 := by omega
      rw [this]
      exact hc
    · exact G.wait j (by omega)
  · rw [push_fr] at hv'
    by_cases e : j = A.frames.length
    · rw [if_pos e] at hv'
      exact hv v hv'
    · rw [if_neg e] at hv'
      exact G.val j (by omega) v hv'
theorem fresh_inr {r : Val} {nm : Str} {m b : Nat} {bd : Bd} (h : A.fresh r nm m = .inr (b, bd)) : A.plan[b]? = some bd ∧ bd.takes = m ∧ A.frames.length < 40 ∧ getE A.entries (A.kindOf r, nm) = some b := by
  unfold fresh at h
  split at h
  · cases h
  · rename_i b3 hb3
    split at h
    · cases h
    · rename_i bd3 hbd3
      split at h
      · cases h
      · rename_i ht
        split at h
        · cases h
        · rename_i hd
          cases h
          exact ⟨hbd3, by simpa using ht, by omega, hb3⟩
theorem lim_small {i : Int} (h : i = 0 ∨ i = 1) : lim i := by
  unfold lim
  omega
theorem reckon_fits {k : Rk} {x y v : Val} (h : reckon k x y = .inr v) : A.Has v ∧ v.fits := by
  unfold reckon at h
  split at h
  · cases h
    refine ⟨trivial, lim_small ?_⟩
    split
    · exact .inr rfl
    · exact .inl rfl
  · split at h
    · cases h
      refine ⟨trivial, lim_small ?_⟩
      split
      · exact .inr rfl
      · exact .inl rfl
    · cases h
  · split at h
    · split at h
      · rename_i hl
        cases h
        exact ⟨trivial, hl⟩
      · cases h
    · cases h
theorem Good.note (G : A.Good) (p : Nat × Nat) (w : W) : (A.noteA p w).Good ∧ (A.noteA p w).ending = A.ending := by
  unfold noteA
  split
  · exact ⟨G, rfl⟩
  · split
    · exact ⟨G.congr rfl rfl rfl rfl, rfl⟩
    · exact ⟨G.congr rfl rfl rfl rfl, rfl⟩
/-- a row that is done leaves a machine that goes on, or has given -/
theorem Good.row (G : A.Good) (he : A.ending = .non) (h : A.rowA.2 = true) : (A.rowA.1.Good ∧ A.rowA.1.ending = .non) ∨ (A.rowA.1.frames = [] ∧ A.rowA.1.ending ≠ .non) := by
  have hne := G.ne
  generalize hi : A.frames.length - 1 = i at *
  have hil : i < A.frames.length := by omega
  have hil1 : i + 1 = A.frames.length := by omega
  obtain ⟨bd, hbd, hrow, hbx⟩ := G.fr i hil
  have giveEnd : ∀ v, A.Has v ∧ v.fits → A.frames.length ≤ 1 → (A.giveA v).frames = [] ∧ (A.giveA v).ending ≠ .non := fun v hv hl => by
    unfold giveA
    rw [if_pos hl]
    refine ⟨?_, by simp⟩
    have : A.popped.frames.length = 0 := by simp [Ma.popped]; omega
    exact List.eq_nil_of_length_eq_zero this
  unfold rowA at h ⊢
  rw [hi, hbd] at h ⊢
  simp only at h ⊢
  cases hr : bd.rows[(A.fr i).row]? with
  | none =>
    simp only
    by_cases hl : 1 < A.frames.length
    · obtain ⟨g1, g2⟩ := G.give hl (v := .non) ⟨trivial, trivial⟩
      exact .inl ⟨g1.congr rfl rfl rfl rfl, g2.trans he⟩
    · exact .inr (giveEnd Val.non ⟨trivial, trivial⟩ (by omega))
  | some r =>
    rw [hr] at h
    simp only at h ⊢
    have hlt : (A.fr i).row < bd.rows.length := (List.getElem?_eq_some_iff.mp hr).1
    obtain ⟨k1, k2, k3, k4⟩ := (G.pl.bd _ _ hbd).2.2 r (List.mem_of_getElem? hr)
    have boxv : ∀ c, c < bd.boxes → A.Has ((A.fr i).box c) ∧ ((A.fr i).box c).fits := fun c hc => G.box hil (by omega)
    cases hd : A.deedA i r with
    | inl f =>
      rw [hd] at h
      cases h
    | inr A1 =>
      simp only
      have stay : A1.Good → A1.ending = .non → A1.frames.length = A.frames.length → A1.plan = A.plan → (A1.fr i).body = (A.fr i).body → (A1.fr i).row = (A.fr i).row → r.stays = false →
          (Ma.bump (afterA (A1.noteA ((A.fr i).body, (A.fr i).row) (A.seenOf (A.fr i) r)) i r)).Good ∧ (Ma.bump (afterA (A1.noteA ((A.fr i).body, (A.fr i).row) (A.seenOf (A.fr i) r)) i r)).ending = .non := by
        intro G1 e1 l1 p1 b1 r1 st
        obtain ⟨g1, g2⟩ := G1.note ((A.fr i).body, (A.fr i).row) (A.seenOf (A.fr i) r)
        unfold afterA
        rw [if_neg (by rw [st]; decide)]
        have hp : (A1.noteA ((A.fr i).body, (A.fr i).row) (A.seenOf (A.fr i) r)).plan = A.plan := by
          rw [← p1]
          unfold noteA
          split
          · rfl
          · split <;> rfl
        refine ⟨(g1.setRow (bd := bd) (by rw [note_frames, l1]; exact hil1) (by rw [hp, note_fr, b1]; exact hbd) (by rw [note_fr, r1]; omega)).congr rfl rfl rfl rfl, g2.trans e1⟩
      have goes : A1.Good → A1.ending = .non → r.stays = true →
          (Ma.bump (afterA (A1.noteA ((A.fr i).body, (A.fr i).row) (A.seenOf (A.fr i) r)) i r)).Good ∧ (Ma.bump (afterA (A1.noteA ((A.fr i).body, (A.fr i).row) (A.seenOf (A.fr i) r)) i r)).ending = .non := by
        intro G1 e1 st
        obtain ⟨g1, g2⟩ := G1.note ((A.fr i).body, (A.fr i).row) (A.seenOf (A.fr i) r)
        unfold afterA
        rw [if_pos st]
        exact ⟨g1.congr rfl rfl rfl rfl, g2.trans e1⟩
      have bxs : ∀ b v, A.Has v ∧ v.fits → r.stays = false → A1 = A.setBox i b v → (Ma.bump (afterA (A1.noteA ((A.fr i).body, (A.fr i).row) (A.seenOf (A.fr i) r)) i r)).Good ∧ (Ma.bump (afterA (A1.noteA ((A.fr i).body, (A.fr i).row) (A.seenOf (A.fr i) r)) i r)).ending = .non := by
        intro b v hv st e
        subst e
        exact stay (G.setBox hil1 hv) he (by simp [Ma.setBox, mod_len]) rfl (by simp [Ma.setBox, mod_fr _ _ hil]) (by simp [Ma.setBox, mod_fr _ _ hil]) st
      cases r with
      | number b n => cases hd; exact .inl (bxs b (.num n) ⟨trivial, k4 b n rfl⟩ rfl rfl)
      | nothing b => cases hd; exact .inl (bxs b .non ⟨trivial, trivial⟩ rfl rfl)
      | copy b c => cases hd; exact .inl (bxs b _ (boxv c k1.2) rfl rfl)
      | reck k b c d =>
        simp only [deedA] at hd
        split at hd
        · cases hd
        · rename_i v hv
          cases hd
          exact .inl (bxs b v (reckon_fits hv) rfl rfl)
      | call b n a as =>
        left
        simp only [deedA, callA] at hd
        split at hd
        · cases hd
        · rename_i bb b' bd' hf
          cases hd
          obtain ⟨f1, f2, f3, f4⟩ := fresh_inr hf
          refine goes (G.push ⟨b, n, a, as, ?_⟩ f1 (Nat.zero_le _) ?_ ?_ (by omega)) he rfl
          · rw [hi]
            unfold rowAt bdOf
            rw [hbd]
            exact hr
          · have := (G.pl.bd _ _ f1).2.1
            simp [newFr, argsOf] at f2 ⊢
            omega
          · intro v hv
            unfold newFr at hv
            rcases List.mem_append.mp hv with h' | h'
            · unfold argsOf at h'
              obtain ⟨c, hc, rfl⟩ := List.mem_map.mp h'
              exact boxv c (k1.2.1 c hc)
            · rw [List.eq_of_mem_replicate h']
              exact ⟨trivial, trivial⟩
      | give c =>
        cases hd
        by_cases hl : 1 < A.frames.length
        · obtain ⟨g1, g2⟩ := G.give hl (boxv c k1)
          exact .inl (goes g1 (g2.trans he) rfl)
        · obtain ⟨g1, g2⟩ := giveEnd _ (boxv c k1) (by omega)
          refine .inr ⟨?_, ?_⟩
          · show (afterA (noteA (A.giveA ((A.fr i).box c)) _ _) i _).frames = []
            unfold afterA
            rw [if_pos (show (Row.give c).stays = true from rfl), note_frames]
            exact g1
          · exact g2
      | go q =>
        cases hd
        exact .inl (goes (G.setRow hil1 hbd k2) he rfl)
      | iff c q =>
        cases hd
        refine .inl (goes (G.setRow hil1 hbd ?_) he rfl)
        split
        · exact k2
        · exact hlt
      | tell c =>
        cases hd
        exact .inl (stay (G.congr rfl rfl rfl rfl) he rfl rfl rfl rfl rfl)
      | anew k n b =>
        cases hd
        refine .inl (stay (G.ents _ fun kk b2 h2 => ?_) he rfl rfl rfl rfl rfl)
        rcases getE_put h2 with h' | h'
        · rw [h']
          exact k2
        · exact G.pl.ent _ _ h'
      | make b k => exact k3.elim
      | get b c f => exact k3.elim
      | put c f d => exact k3.elim
end Ma
end
end Gm

set_option linter.all false
namespace Gm
open PySem (Str)
section
variable {adr : Role → Nat} {A A1 A2 : Ma} {S S0 S1 S2 S' : Store} {e : Env}
theorem putE_len (es : List ((Str × Str) × Nat)) (k : Str × Str) (n : Nat) : (putE es k n).length ≤ es.length + 1 := by
  unfold putE
  split <;> simp
theorem putWhat_len (ws : List W) (w : W) : (putWhat ws w).length ≤ ws.length + 1 := by
  unfold putWhat
  split <;> simp
namespace Ma
theorem Cap.mono {n m : Nat} (C : A.Cap n) (h : n ≤ m) : A.Cap m := ⟨Nat.le_trans C.prof h, fun i => Nat.le_trans (C.seen i) h, Nat.le_trans C.told h, Nat.le_trans C.ent h⟩
theorem Cap.congr {n : Nat} (C : A.Cap n) (h1 : A1.prof = A.prof) (h2 : A1.told = A.told) (h3 : A1.entries = A.entries) : A1.Cap n := by
  refine ⟨by rw [h1]; exact C.prof, fun i => ?_, by rw [h2]; exact C.told, by rw [h3]; exact C.ent⟩
  have := C.seen i
  unfold pf at this ⊢
  rw [h1]
  exact this
theorem Cap.note {n : Nat} (C : A.Cap n) (p : Nat × Nat) (w : W) : (A.noteA p w).Cap (n + 1) := by
  unfold noteA
  split
  · exact C.mono (Nat.le_succ _)
  · split
    · rename_i i hi
      obtain ⟨h1, h2⟩ := Ma.at_lt hi
      refine ⟨by simp; have := C.prof; omega, fun j => ?_, Nat.le_succ_of_le C.told, Nat.le_succ_of_le C.ent⟩
      have q1 := putWhat_len (A.pf i).2 w
      have q2 := C.seen i
      generalize putWhat (A.pf i).2 w = zz at *
      unfold pf
      simp only [List.getD_eq_getElem?_getD, List.getElem?_set]
      by_cases e : i = j
      · subst e
        simp only [if_true, h1]
        simp
        omega
      · simp only [if_neg e]
        have := C.seen j
        unfold pf at this
        rw [List.getD_eq_getElem?_getD] at this
        omega
    · refine ⟨by simp; have := C.prof; omega, fun j => ?_, Nat.le_succ_of_le C.told, Nat.le_succ_of_le C.ent⟩
      unfold pf
      simp only [List.getD_eq_getElem?_getD]
      by_cases h : j < A.prof.length
      · rw [List.getElem?_append_left h]
        have := C.seen j
        unfold pf at this
        rw [List.getD_eq_getElem?_getD] at this
        omega
      · rw [List.getElem?_append_right (by omega)]
        by_cases e : j = A.prof.length
        · simp [e]
        · rw [List.getElem?_eq_none (by simp; omega)]
          exact Nat.zero_le _
theorem deed_cap {n i : Nat} {r : Row} (C : A.Cap n) (h : A.deedA i r = .inr A1) : A1.Cap (n + 1) := by
  have C1 := C.mono (Nat.le_succ n)
  cases r <;> simp only [deedA] at h <;> first | (cases h; exact C1.congr rfl rfl rfl) | (cases h; done) | skip
  · split at h <;> cases h
    exact C1.congr rfl rfl rfl
  · unfold callA at h
    split at h <;> cases h
    exact C1.congr rfl rfl rfl
  · cases h
    unfold giveA
    split
    · exact C1.congr rfl rfl rfl
    · split <;> exact C1.congr rfl rfl rfl
  · cases h
    refine ⟨C1.prof, C1.seen, ?_, C1.ent⟩
    have := C.told
    simp
    omega
  · cases h
    refine ⟨C1.prof, C1.seen, C1.told, ?_⟩
    have := C.ent
    have := putE_len A.entries
    exact Nat.le_trans (this _ _) (by omega)
theorem Cap.row {n : Nat} (C : A.Cap n) : A.rowA.1.Cap (n + 2) := by
  unfold rowA
  split
  · exact C.mono (by omega)
  · split
    · have : (A.giveA .non).Cap n := by
        unfold giveA
        split
        · exact C.congr rfl rfl rfl
        · split <;> exact C.congr rfl rfl rfl
      exact (this.mono (by omega)).congr rfl rfl rfl
    · split
      · exact (C.mono (by omega)).congr rfl rfl rfl
      · rename_i hd
        have c1 := (deed_cap C hd).note ((A.fr (A.frames.length - 1)).body, (A.fr (A.frames.length - 1)).row) (A.seenOf (A.fr (A.frames.length - 1)) ‹_›)
        unfold afterA
        split
        · exact c1.congr rfl rfl rfl
        · exact c1.congr rfl rfl rfl
theorem row_fault (h : A.rowA.2 = false) (hp : ∃ bd, A.plan[(A.fr (A.frames.length - 1)).body]? = some bd) : A.rowA.1.ending ≠ .non := by
  obtain ⟨bd, hbd⟩ := hp
  unfold rowA at h ⊢
  rw [hbd] at h ⊢
  simp only at h ⊢
  split at h
  · cases h
  · split at h
    · simp only [*]
      unfold faultW
      simp
    · cases h
/-- so many rows, fewer where the run ends -/
def runA : Nat → Ma → Ma × Nat
  | 0, A => (A, 0)
  | k + 1, A => if isNon A.ending = true then (if A.rowA.2 = true then ((runA k A.rowA.1).1, (runA k A.rowA.1).2 + 1) else (A.rowA.1, 0)) else (A, 0)
end Ma
theorem isNon_iff (w : W) : isNon w = true ↔ w = .non := by cases w <;> simp [isNon]
end
end Gm

set_option linter.all false
namespace Gm
open PySem (Str)
section
variable {adr : Role → Nat} {A A1 A2 : Ma} {S S0 S1 S2 S' : Store} {e : Env}
/-- a machine that stands well: it has ended, or can go on -/
def Ma.Live (A : Ma) : Prop := A.ending = .non → A.Good
theorem Ma.Live.row (L : A.Live) (he : A.ending = .non) : A.rowA.1.Live := by
  have G := L he
  intro hz
  cases h : A.rowA.2 with
  | false =>
    obtain ⟨bd, hbd, _⟩ := G.fr (A.frames.length - 1) (by have := G.ne; omega)
    exact absurd hz (Ma.row_fault h ⟨bd, hbd⟩)
  | true =>
    rcases G.row he h with h' | h'
    · exact h'.1
    · exact absurd hz h'.2
abbrev stepE (adr : Role → Nat) (k m : Nat) : Env := [some (.ref (adr .run)), some (natW k), some (natW m)]
theorem SameRun.of (h1 : ∀ r, r = Role.run ∨ r = .world → adr r = adr r) : True := trivial
theorem St.stepLoop : ∀ (k fuel : Nat) (m0 : Nat) (adr : Role → Nat) (A : Ma) (S : Store) (n : Nat) (r0 kk : Nat), St adr A S → A.Live → A.Cap n → n + 2 * k < 90000 → k < fuel → kk = m0 + k → adr .run = r0 →
    ∃ adr' S', whileN (tAnd (tVal (op2 fLt (mVar 2) (mVar 1))) (tAnd (tVal (op1 fIsN (op1 (fld cs_ending "ending") (mVar 0)))) (tVal (mMethN "Plain" "do_row" 1 F_Rows_do_row (mVar 0) aNil)))) (sAug 2 (fun i j => i + j) (mC (.int 1))) fuel [some (.ref r0), some (natW kk), some (natW m0)] S
        = some (.nx [some (.ref r0), some (natW kk), some (natW (m0 + (A.runA k).2))], S') ∧ St adr' (A.runA k).1 S' ∧ Go adr A S adr' (A.runA k).1 S' ∧ adr' .run = r0 ∧ adr' .world = adr .world ∧ (A.runA k).1.Live ∧ (A.runA k).1.Cap (n + 2 * k)
  | k, 0, _, _, _, _, _, _, _, _, _, _, _, h, _, _ => absurd h (Nat.not_lt_zero _)
  | 0, fuel + 1, m0, adr, A, S, n, r0, kk, R, L, C, hn, hf, hk, hr => by
    refine ⟨adr, S, ?_, R, Go.refl, hr, rfl, L, C⟩
    rw [Nat.add_zero] at hk
    have c : tVal (op2 fLt (mVar 2) (mVar 1)) [some (.ref r0), some (natW kk), some (natW m0)] S = some (false, S) :=
      tval_of (op2_of (x := natW m0) (y := natW kk) rfl rfl (by simp [fLt, onI, natW, hk]))
    simp only [whileN, tAnd, c, Ma.runA, Nat.add_zero]
  | k + 1, fuel + 1, m0, adr, A, S, n, r0, kk, R, L, C, hn, hf, hk, hr => by
    have c : tVal (op2 fLt (mVar 2) (mVar 1)) [some (.ref r0), some (natW kk), some (natW m0)] S = some (true, S) :=
      tval_of (op2_of (x := natW m0) (y := natW kk) rfl rfl (by simp [fLt, onI, natW, hk]; omega))
    have c2 : tVal (op1 fIsN (op1 (fld cs_ending "ending") (mVar 0))) [some (.ref r0), some (natW kk), some (natW m0)] S = some (isNon A.ending, S) := by
      have := R.g_ending
      rw [hr] at this
      exact tval_of (by simp [op1, mVar, this, fIsN])
    by_cases he : A.ending = .non
    · have G := L he
      obtain ⟨adr1, S1, y1, R1, g1, a1, a2, a3⟩ := R.do_row G C (by omega)
      have c3 : tVal (mMethN "Plain" "do_row" 1 F_Rows_do_row (mVar 0) aNil) [some (.ref r0), some (natW kk), some (natW m0)] S = some (A.rowA.2, S1) := by
        refine tval_of ((meth0_of (a := adr .run) ?_ R.o_run rfl rfl).trans y1)
        rw [hr]
        rfl
      have hz : isNon A.ending = true := (isNon_iff _).mpr he
      rw [hz] at c2
      have L1 := L.row he
      have C1 := C.row
      cases h : A.rowA.2 with
      | false =>
        rw [h] at c3
        refine ⟨adr1, S1, ?_, ?_⟩
        · simp only [whileN, tAnd, c, c2, c3, Ma.runA, hz, if_true, h, Nat.add_zero]
          simp
        · simp only [Ma.runA, hz, if_true, h]
          exact ⟨R1, g1, by rw [a1, hr], a2, L1, C1.mono (by omega)⟩
      | true =>
        rw [h] at c3
        obtain ⟨adr2, S2, y2, R2, g2, b1, b2, L2, C2⟩ := St.stepLoop k fuel (m0 + 1) adr1 A.rowA.1 S1 (n + 2) r0 kk R1 L1 C1 (by omega) (by omega) (by omega) (by rw [a1, hr])
        refine ⟨adr2, S2, ?_, ?_⟩
        · have hb : sAug 2 (fun i j => i + j) (mC (.int 1)) [some (.ref r0), some (natW kk), some (natW m0)] S1 = some (.nx [some (.ref r0), some (natW kk), some (natW (m0 + 1))], S1) := rfl
          simp only [whileN, tAnd, c, c2, c3, hb, Ma.runA, hz, if_true, h]
          rw [y2]
          congr 5
          simp only [natW]
          congr 3
          omega
        · simp only [Ma.runA, hz, if_true, h]
          exact ⟨R2, g1.trans g2, b1, by rw [b2, a2], L2, C2.mono (by omega)⟩
    · have hz : isNon A.ending = false := by
        cases q : isNon A.ending with
        | false => rfl
        | true => exact absurd ((isNon_iff _).mp q) he
      rw [hz] at c2
      refine ⟨adr, S, ?_, ?_⟩
      · simp only [whileN, tAnd, c, c2, Ma.runA, hz, Nat.add_zero]
        simp
      · simp only [Ma.runA, hz]
        exact ⟨R, Go.refl, hr, trivial, L, C.mono (by omega)⟩
/-! ### numbers, lists, names -/
def wholeB (w : W) (a b : Int) : Bool := match w with
  | .int i => decide (a ≤ i) && decide (i ≤ b)
  | _ => false
theorem is_whole_of (S : Store) {w : W} {t : String} (a b : Int) (ht : tyW S w = some t) : F_is_whole [w, .int a, .int b] S = some (.bl (wholeB w a b), S) := by
  have h1 : ∀ s : String, fIs s w S = some (.bl (isTy s t)) := fun s => by simp only [fIs, ht, Option.map_some]
  cases w with
  | int i =>
    cases ht
    by_cases h2 : a ≤ i <;> simp [F_is_whole, b_is_whole, fnOf, sSeq2, sAsg, sRet, sDrop, sIf, sNil, sNever, sBreak, sCont, op1, op2, mVar, mC, gName, gTupN, gCons, gNil, mTup, mNew, aCons, aNil, aMax, tVal, tAnd, tOr, tNot, mAnd, mOr, mNot, mIf, mCallN, mChain, sFld, sPar, sPar3, sAug, sFldAug, mLen, mLenL, fIsN, fNotN, isNon, onI, fAdd, fSub, fNeg, fLt, fLe, fGt, fGe, fEq, fNe, negW, tYes, h1, isTy, wholeB, h2]
  | bl b =>
    cases ht
    simp [F_is_whole, b_is_whole, fnOf, sSeq2, sAsg, sRet, sDrop, sIf, sNil, sNever, sBreak, sCont, op1, op2, mVar, mC, gName, gTupN, gCons, gNil, mTup, mNew, aCons, aNil, aMax, tVal, tAnd, tOr, tNot, mAnd, mOr, mNot, mIf, mCallN, mChain, sFld, sPar, sPar3, sAug, sFldAug, mLen, mLenL, fIsN, fNotN, isNon, onI, fAdd, fSub, fNeg, fLt, fLe, fGt, fGe, fEq, fNe, negW, tYes, h1, isTy, wholeB]
  | cl _ => cases ht
  | glo _ => cases ht
  | ref n =>
    have : isTy "int" t = false := by
      simp only [tyW] at ht
      split at ht <;> cases ht <;> rfl
    simp [F_is_whole, b_is_whole, fnOf, sSeq2, sAsg, sRet, sDrop, sIf, sNil, sNever, sBreak, sCont, op1, op2, mVar, mC, gName, gTupN, gCons, gNil, mTup, mNew, aCons, aNil, aMax, tVal, tAnd, tOr, tNot, mAnd, mOr, mNot, mIf, mCallN, mChain, sFld, sPar, sPar3, sAug, sFldAug, mLen, mLenL, fIsN, fNotN, isNon, onI, fAdd, fSub, fNeg, fLt, fLe, fGt, fGe, fEq, fNe, negW, tYes, h1, this, wholeB]
  | _ =>
    cases ht
    simp [F_is_whole, b_is_whole, fnOf, sSeq2, sAsg, sRet, sDrop, sIf, sNil, sNever, sBreak, sCont, op1, op2, mVar, mC, gName, gTupN, gCons, gNil, mTup, mNew, aCons, aNil, aMax, tVal, tAnd, tOr, tNot, mAnd, mOr, mNot, mIf, mCallN, mChain, sFld, sPar, sPar3, sAug, sFldAug, mLen, mLenL, fIsN, fNotN, isNon, onI, fAdd, fSub, fNeg, fLt, fLe, fGt, fGe, fEq, fNe, negW, tYes, h1, isTy, wholeB]
theorem is_number_of (S : Store) {w : W} {t : String} (ht : tyW S w = some t) : F_is_number [w] S = some (.bl (wholeB w (-1000000000) 1000000000), S) := by
  have := is_whole_of S (-1000000000) 1000000000 ht
  simp [F_is_number, b_is_number, fnOf, sSeq2, sAsg, sRet, sDrop, sIf, sNil, sNever, sBreak, sCont, op1, op2, mVar, mC, gName, gTupN, gCons, gNil, mTup, mNew, aCons, aNil, aMax, tVal, tAnd, tOr, tNot, mAnd, mOr, mNot, mIf, mCallN, mChain, sFld, sPar, sPar3, sAug, sFldAug, mLen, mLenL, fIsN, fNotN, isNon, onI, fAdd, fSub, fNeg, fLt, fLe, fGt, fGe, fEq, fNe, negW, tYes, this]
theorem St.step (R : St adr A S) (L : A.Live) {n : Nat} (C : A.Cap n) {k : Nat} (hk : k ≤ 2000) (hn : n + 2 * k < 90000) :
    ∃ adr' S', F_Plain_step [.ref (adr .run), natW k] S = some (natW (A.runA k).2, S') ∧ St adr' (A.runA k).1 S' ∧ Go adr A S adr' (A.runA k).1 S' ∧ adr' .run = adr .run ∧ adr' .world = adr .world ∧ (A.runA k).1.Live ∧ (A.runA k).1.Cap (n + 2 * k) := by
  obtain ⟨adr', S', y, R', g, a1, a2, L', C'⟩ := St.stepLoop k turns 0 adr A S n (adr .run) k R L C hn (by unfold turns; omega) (by omega) rfl
  refine ⟨adr', S', ?_, R', g, a1, a2, L', C'⟩
  have hw : F_is_whole [natW k, .int 0, .int 2000] S = some (.bl true, S) := by
    rw [is_whole_of S 0 2000 (t := "int") rfl]
    simp [wholeB, natW]
    omega
  have z1 : sDrop (mCallN 1 F_need_units (aCons (mVar 1) aNil)) [some (.ref (adr .run)), some (natW k), none] S = some (.nx [some (.ref (adr .run)), some (natW k), none], S) := by
    have : F_need_units [natW k] S = some (.non, S) := by
      simp [F_need_units, b_need_units, fnOf, sSeq2, sAsg, sRet, sDrop, sIf, sNil, sNever, sBreak, sCont, op1, op2, mVar, mC, gName, gTupN, gCons, gNil, mTup, mNew, aCons, aNil, aMax, tVal, tAnd, tOr, tNot, mAnd, mOr, mNot, mIf, mCallN, mChain, sFld, sPar, sPar3, sAug, sFldAug, mLen, mLenL, fIsN, fNotN, isNon, onI, fAdd, fSub, fNeg, fLt, fLe, fGt, fGe, fEq, fNe, negW, tYes, hw]
    simp [sDrop, mCallN, aCons, aNil, mVar, this]
  rw [F_Plain_step, fnOf_eq]
  show fin (b_Plain_step [some (.ref (adr .run)), some (natW k), none] S) = _
  unfold b_Plain_step
  rw [seq_of z1, seq_of (asg_of (g := gName 2) (m := mC (.int 0)) (w := natW 0) (S1 := S) rfl rfl)]
  unfold sWhile
  simp only [List.set_cons_succ, List.set_cons_zero]
  rw [seq_of y]
  simp only [Nat.zero_add]
  rfl
end
end Gm

set_option linter.all false
namespace Gm
open PySem (Str)
section
variable {A A1 A2 : Ma} {S S0 S1 S2 S' : Store} {e : Env}
def smallS : Str := "abcdefghijklmnopqrstuvwxyz"
def nameB (x : Str) : Bool := decide (1 ≤ x.length) && (decide (x.length ≤ 8) && x.cps.toList.all fun c => decide (c ∈ smallS.cps.toList))
theorem wBls_map {α : Type} (p : α → Bool) : ∀ l : List α, wBls (l.map fun a => .bl (p a)) = some (l.map p)
  | [] => rfl
  | a :: l => by
    rw [List.map_cons, wBls, wBls_map p l]
    rfl
theorem all_map_id {α : Type} (p : α → Bool) (l : List α) : (l.map p).all id = l.all p := by
  rw [List.all_map]
  rfl
theorem mAll_of {α : Type} {m : MA} {p : α → Bool} {l : List α} (h : m e S = some (l.map (fun a => .bl (p a)), S1)) : mAll m e S = some (.bl (l.all p), S1) := by
  simp only [mAll, h, wBls_map, Option.map_some, all_map_id]
theorem mAnd_t {ma mb : ME} {r : R W} (h : ma e S = some (.bl true, S1)) (h2 : mb e S1 = r) : mAnd ma mb e S = r := by simp only [mAnd, h, h2]
theorem mAnd_f {ma mb : ME} (h : ma e S = some (.bl false, S1)) : mAnd ma mb e S = some (.bl false, S1) := by simp only [mAnd, h]
theorem mAnd_of {ma mb : ME} {b c : Bool} (h : ma e S = some (.bl b, S)) (h2 : mb e S = some (.bl c, S)) : mAnd ma mb e S = some (.bl (b && c), S) := by
  cases b with
  | true => rw [mAnd_t h h2]; rfl
  | false => rw [mAnd_f h]; rfl
theorem mChain_of {a b c : Int} {ma mb mc : ME} (ha : ma e S = some (.int a, S)) (hb : mb e S = some (.int b, S)) (hc : mc e S = some (.int c, S)) : mChain fLe fLe ma mb mc e S = some (.bl (decide (a ≤ b) && decide (b ≤ c)), S) := by
  by_cases h : a ≤ b <;> simp [mChain, ha, hb, hc, fLe, onI, h]
theorem one_le (n : Nat) : decide ((1 : Int) ≤ (n : Int)) = decide (1 ≤ n) := by
  simp
  omega
theorem le_lit (n k : Nat) : decide ((n : Int) ≤ (k : Int)) = decide (n ≤ k) := by
  simp
theorem is_name_of (S : Store) {x : Str} (hx : x.length ≤ 100000) : F_is_name [.str x] S = some (.bl (nameB x), S) := by
  have h1 : op1 (fIs "str") (mVar 0) [some (.str x), none] S = some (.bl true, S) := by simp [op1, mVar, fIs, tyW, isTy]
  have hl : mLen (mVar 0) [some (.str x), none] S = some (.int x.length, S) := by simp [mLen, op1, mVar, hx]
  have h2 : mChain fLe fLe (mC (.int 1)) (mLen (mVar 0)) (mC (.int 8)) [some (.str x), none] S = some (.bl (decide (1 ≤ x.length) && decide (x.length ≤ 8)), S) := by
    rw [mChain_of (a := 1) (b := x.length) (c := 8) rfl hl rfl, one_le]
    exact congrArg (fun z => some (W.bl (decide (1 ≤ x.length) && z), S)) (le_lit x.length 8)
  have key : x.length ≤ 8 → mAll (aComp (iStr (mVar 0)) (gName 1) tYes (op2 fInSign (mVar 1) (mC (.str "abcdefghijklmnopqrstuvwxyz"))) [1]) [some (.str x), none] S = some (.bl (x.cps.toList.all fun c => decide (c ∈ smallS.cps.toList)), S) := fun h8 => by
    refine mAll_of (p := fun c => decide (c ∈ smallS.cps.toList)) (l := x.cps.toList) ?_
    have hi : iStr (mVar 0) [some (.str x), none] S = some (sStr x, S) := by simp [iStr, mVar]
    simp only [aComp, hi]
    have hcl : x.cps.toList.length ≤ 8 := by simpa [PySem.Str.length] using h8
    refine compN_pure (x.cps.toList.map fun c => .str ⟨#[c]⟩) _ (fun i _ => ?_) (by simp) (by simp; simp at hcl; omega) fun i w hw => ?_
    · simp only [sStr, List.getElem?_map]
    · rw [List.getElem?_map] at hw
      cases hc : x.cps.toList[i]? with
      | none => rw [hc] at hw; cases hw
      | some c =>
        rw [hc] at hw
        cases hw
        refine ⟨[some (.str x), some (.str ⟨#[c]⟩)], .bl (decide (c ∈ smallS.cps.toList)), rfl, rfl, ?_, ?_⟩
        · simp [op2, mVar, mC, fInSign, smallS]
        · rw [List.getElem?_map, hc]
          rfl
  rw [F_is_name, fnOf_eq]
  show fin (b_is_name [some (.str x), none] S) = _
  unfold b_is_name nameB
  rw [sRet, mAnd_t h1 rfl]
  cases hb : (decide (1 ≤ x.length) && decide (x.length ≤ 8)) with
  | false =>
    rw [hb] at h2
    rw [mAnd_f h2]
    rw [← Bool.and_assoc, hb]
    rfl
  | true =>
    rw [hb] at h2
    rw [mAnd_t h2 rfl, key (by simp at hb; exact hb.2), ← Bool.and_assoc, hb]
    rfl
theorem nameB_len {x : Str} (h : nameB x = true) : x.length ≤ 8 := by
  unfold nameB at h
  simp at h
  exact h.2.1
theorem is_name_ok (S : Store) {x : Str} (h : nameB x = true) : F_is_name [.str x] S = some (.bl true, S) := by
  rw [is_name_of S (by have := nameB_len h; omega), h]
/-! ### what a row may speak of -/
def limFs (nm many wide long : Nat) : List (Str × W) := [("names", .ref nm), ("many", natW many), ("wide", natW wide), ("long", natW long)]
structure Lm (S : Store) (l nm : Nat) (names : List Str) (many wide long : Nat) : Prop where
  ob : S[l]? = some (.ins "Limits" (limFs nm many wide long))
  ns : S[nm]? = some (.lst (names.map .str))
section
variable {l nm many wide long : Nat} {names : List Str}
abbrev fitE (l : Nat) (s : Str) (w : W) : Env := [some (.ref l), some (.str s), some w, none, none]
theorem sgn (s x : Str) (w : W) (l : Nat) : tVal (op2 fEq (mVar 1) (mC (.str x))) (fitE l s w) S = some (s == x, S) :=
  tval_of (op2_of (x := .str s) (y := .str x) rfl rfl rfl)
theorem call1_of {F : Fn} {m : ME} {w : W} {r : R W} (h : m e S = some (w, S)) (hF : F [w] S = r) : mCallN 1 F (aCons m aNil) e S = r := by
  simp [mCallN, aCons, aNil, h, hF]
theorem call3_of {F : Fn} {m1 m2 m3 : ME} {w1 w2 w3 : W} {r : R W} (h1 : m1 e S = some (w1, S)) (h2 : m2 e S = some (w2, S)) (h3 : m3 e S = some (w3, S)) (hF : F [w1, w2, w3] S = r) : mCallN 3 F (aCons m1 (aCons m2 (aCons m3 aNil))) e S = r := by
  simp [mCallN, aCons, aNil, h1, h2, h3, hF]
theorem ret_of {m : ME} {w : W} (h : m e S = some (w, S1)) : sRet m e S = some (.rt w, S1) := by simp only [sRet, h]
theorem whole_nat (S : Store) {b n : Nat} {z : Int} (h : b < n) (hz : z = (n : Int) - 1) : F_is_whole [natW b, .int 0, .int z] S = some (.bl true, S) := by
  rw [is_whole_of S 0 z (t := "int") rfl]
  simp [wholeB, natW]
  omega
theorem Lm.g_wide (M : Lm S l nm names many wide long) : fld cs_wide "wide" (.ref l) S = some (natW wide) := fld_of M.ob (by decide) rfl
theorem Lm.g_long (M : Lm S l nm names many wide long) : fld cs_long "long" (.ref l) S = some (natW long) := fld_of M.ob (by decide) rfl
theorem Lm.g_many (M : Lm S l nm names many wide long) : fld cs_many "many" (.ref l) S = some (natW many) := fld_of M.ob (by decide) rfl
theorem Lm.g_names (M : Lm S l nm names many wide long) : fld cs_names "names" (.ref l) S = some (.ref nm) := fld_of M.ob (by decide) rfl
theorem fits_b (M : Lm S l nm names many wide long) {b : Nat} (h : b < wide) (k : Nat) : F_Limits_fits (k + 1) [.ref l, .str "b", natW b] S = some (.bl true, S) := by
  rw [F_Limits_fits, fnOf_eq]
  show fin (b_Limits_fits _ (fitE l "b" (natW b)) S) = _
  unfold b_Limits_fits
  rw [seq_rt (if_true_of (sgn _ _ _ _) (ret_of (call3_of (w1 := natW b) (w2 := .int 0) (w3 := .int ((wide : Int) - 1)) rfl rfl (by simp [op2, op1, mVar, mC, M.g_wide, fSub, onI, natW]) (whole_nat S h rfl))))]
  rfl
theorem fits_n (M : Lm S l nm names many wide long) {n : Int} (h : lim n) (k : Nat) : F_Limits_fits (k + 1) [.ref l, .str "n", .int n] S = some (.bl true, S) := by
  have hw : F_is_number [.int n] S = some (.bl true, S) := by
    rw [is_number_of S (t := "int") rfl]
    simp [wholeB]
    exact h
  rw [F_Limits_fits, fnOf_eq]
  show fin (b_Limits_fits _ (fitE l "n" (.int n)) S) = _
  unfold b_Limits_fits
  rw [seq_of (if_nil_of (sgn _ _ _ _)), seq_rt (if_true_of (sgn _ _ _ _) (ret_of (call1_of rfl hw)))]
  rfl
theorem fits_f (M : Lm S l nm names many wide long) {x : Str} (h : nameB x = true) (k : Nat) : F_Limits_fits (k + 1) [.ref l, .str "f", .str x] S = some (.bl true, S) := by
  rw [F_Limits_fits, fnOf_eq]
  show fin (b_Limits_fits _ (fitE l "f" (.str x)) S) = _
  unfold b_Limits_fits
  rw [seq_of (if_nil_of (sgn _ _ _ _)), seq_of (if_nil_of (sgn _ _ _ _)), seq_rt (if_true_of (sgn _ _ _ _) (ret_of (call1_of rfl (is_name_ok S h))))]
  rfl
theorem fits_r (M : Lm S l nm names many wide long) {r : Nat} (h : r ≤ long) (k : Nat) : F_Limits_fits (k + 1) [.ref l, .str "r", natW r] S = some (.bl true, S) := by
  rw [F_Limits_fits, fnOf_eq]
  show fin (b_Limits_fits _ (fitE l "r" (natW r)) S) = _
  unfold b_Limits_fits
  rw [seq_of (if_nil_of (sgn _ _ _ _)), seq_of (if_nil_of (sgn _ _ _ _)), seq_of (if_nil_of (sgn _ _ _ _)), seq_rt (if_true_of (sgn _ _ _ _) (ret_of (call3_of (w1 := natW r) (w2 := .int 0) (w3 := .int (long : Int)) rfl rfl (by simp [op1, mVar, M.g_long, natW]) (whole_nat S (n := long + 1) (by omega) (by omega)))))]
  rfl
theorem fits_y (M : Lm S l nm names many wide long) {y : Nat} (h : y < many) (k : Nat) : F_Limits_fits (k + 1) [.ref l, .str "y", natW y] S = some (.bl true, S) := by
  rw [F_Limits_fits, fnOf_eq]
  show fin (b_Limits_fits _ (fitE l "y" (natW y)) S) = _
  unfold b_Limits_fits
  rw [seq_of (if_nil_of (sgn _ _ _ _)), seq_of (if_nil_of (sgn _ _ _ _)), seq_of (if_nil_of (sgn _ _ _ _)), seq_of (if_nil_of (sgn _ _ _ _)), seq_rt (if_true_of (sgn _ _ _ _) (ret_of (call3_of (w1 := natW y) (w2 := .int 0) (w3 := .int ((many : Int) - 1)) rfl rfl (by simp [op2, op1, mVar, mC, M.g_many, fSub, onI, natW]) (whole_nat S h rfl))))]
  rfl
theorem Lm.meth (M : Lm S l nm names many wide long) {F : Fn} {ms mw : ME} {s : Str} {w : W} {r : R W} {mo : ME} (h0 : mo e S = some (.ref l, S)) (h1 : ms e S = some (.str s, S)) (h2 : mw e S = some (w, S)) (hF : F [.ref l, .str s, w] S = r) :
    mMethN "Limits" "fits" 3 F mo (aCons ms (aCons mw aNil)) e S = r :=
  (meth_of (ws := [.str s, w]) (S2 := S) h0 M.ob rfl (aCons_of h1 (aCons_of h2 aNil_of)) rfl).trans hF
theorem fits_a (M : Lm S l nm names many wide long) {as : List Nat} (h1 : 1 ≤ as.length) (h6 : as.length ≤ 6) (h : ∀ a ∈ as, a < wide) (k : Nat) : F_Limits_fits (k + 2) [.ref l, .str "a", .tup (as.map natW)] S = some (.bl true, S) := by
  rw [F_Limits_fits, fnOf_eq]
  show fin (b_Limits_fits _ (fitE l "a" (.tup (as.map natW))) S) = _
  unfold b_Limits_fits
  rw [seq_of (if_nil_of (sgn _ _ _ _)), seq_of (if_nil_of (sgn _ _ _ _)), seq_of (if_nil_of (sgn _ _ _ _)), seq_of (if_nil_of (sgn _ _ _ _)), seq_of (if_nil_of (sgn _ _ _ _))]
  let e3 : Env := [some (.ref l), some (.str "a"), some (.tup (as.map natW)), some (.bl true), none]
  have z1 : mAnd (op1 (fIs "tuple") (mVar 2)) (mChain fLe fLe (mC (.int 1)) (mLen (mVar 2)) (mC (.int 6))) (fitE l "a" (.tup (as.map natW))) S = some (.bl true, S) := by
    have q : mLen (mVar 2) (fitE l "a" (.tup (as.map natW))) S = some (.int as.length, S) := by simp [mLen, op1, mVar]
    rw [mAnd_of (b := true) (c := true) rfl]
    · rfl
    · rw [mChain_of (a := 1) (b := as.length) (c := 6) rfl q rfl]
      simp
      omega
  have z2 : mAll (aComp (iSeq (mVar 2)) (gName 4) tYes (mMethN "Limits" "fits" 3 (F_Limits_fits (k + 1)) (mVar 0) (aCons (mC (.str "b")) (aCons (mVar 4) aNil))) [4]) e3 S = some (.bl true, S) := by
    have : as.all (fun _ => true) = true := by simp
    rw [← this]
    refine mAll_of (p := fun _ => true) (l := as) ?_
    have hi : iSeq (mVar 2) e3 S = some (sSeq (.tup (as.map natW)), S) := rfl
    simp only [aComp, hi]
    refine compN_pure (as.map natW) _ (fun i _ => rfl) (by simp) (by simp; omega) fun i w hw => ?_
    rw [List.getElem?_map] at hw
    cases hc : as[i]? with
    | none => rw [hc] at hw; cases hw
    | some a =>
      rw [hc] at hw
      cases hw
      exact ⟨[some (.ref l), some (.str "a"), some (.tup (as.map natW)), some (.bl true), some (natW a)], .bl true, rfl, rfl, M.meth rfl rfl rfl (fits_b M (h a (List.mem_of_getElem? hc)) k), by rw [List.getElem?_map, hc]; rfl⟩
  rw [seq_rt (if_true_of (sgn _ _ _ _) ((seq_of (asg_of (g := gName 3) z1 rfl)).trans (ret_of (w := .bl true) (S1 := S) (mAnd_t (S1 := S) rfl z2))))]
  rfl
theorem in_names {names : List Str} {x : Str} : fIn (.str x) (.wt [.str "number", .str "nothing"]) S = some (.bl ((("number" : Str) == x) || (("nothing" : Str) == x))) := by
  simp [fIn, isSc, eqd]
theorem Lm.fIn (M : Lm S l nm names many wide long) {x : Str} (h : x ∈ names) : fIn (.str x) (.ref nm) S = some (.bl true) := by
  have h1 : (names.map W.str).all isSc = true := by simp [isSc]
  have h2 : (names.map W.str).any (fun z => eqd z (.str x)) = true := by
    rw [List.any_map, List.any_eq_true]
    exact ⟨x, h, by simp [eqd]⟩
  simp only [Gm.fIn, M.ns, isSc, h1, Bool.and_self, if_true, h2]
theorem fits_e (M : Lm S l nm names many wide long) {x : Str} (h : x ∈ names) (k : Nat) : F_Limits_fits (k + 1) [.ref l, .str "e", .str x] S = some (.bl true, S) := by
  rw [F_Limits_fits, fnOf_eq]
  show fin (b_Limits_fits _ (fitE l "e" (.str x)) S) = _
  unfold b_Limits_fits
  rw [seq_of (if_nil_of (sgn _ _ _ _)), seq_of (if_nil_of (sgn _ _ _ _)), seq_of (if_nil_of (sgn _ _ _ _)), seq_of (if_nil_of (sgn _ _ _ _)), seq_of (if_nil_of (sgn _ _ _ _)), seq_of (if_nil_of (sgn _ _ _ _)), ret_of (w := .bl true) (S1 := S) (mAnd_t (S1 := S) rfl (mAnd_t (S1 := S) (op2_of (x := .str x) (y := .ref nm) rfl (by simp [op1, mVar, M.g_names]) (M.fIn h)) rfl))]
  rfl
theorem fits_k (M : Lm S l nm names many wide long) {x : Str} (h : x ∈ names) (h1 : (("number" : Str) == x) = false) (h2 : (("nothing" : Str) == x) = false) (k : Nat) : F_Limits_fits (k + 1) [.ref l, .str "k", .str x] S = some (.bl true, S) := by
  have hn : fNotIn (.str x) (.wt [.str "number", .str "nothing"]) S = some (.bl true) := by
    unfold fNotIn
    rw [in_names (names := names), h1, h2]
    rfl
  rw [F_Limits_fits, fnOf_eq]
  show fin (b_Limits_fits _ (fitE l "k" (.str x)) S) = _
  unfold b_Limits_fits
  have ho : mOr (op2 fEq (mVar 1) (mC (.str "e"))) (op2 fNotIn (mVar 2) (mC (.wt [.str "number", .str "nothing"]))) (fitE l "k" (.str x)) S = some (.bl true, S) := by
    have a1 : op2 fEq (mVar 1) (mC (.str "e")) (fitE l "k" (.str x)) S = some (.bl false, S) := rfl
    have a2 : op2 fNotIn (mVar 2) (mC (.wt [.str "number", .str "nothing"])) (fitE l "k" (.str x)) S = some (.bl true, S) := op2_of (x := .str x) (S1 := S) (S2 := S) rfl rfl hn
    simp only [mOr, a1, a2]
  rw [seq_of (if_nil_of (sgn _ _ _ _)), seq_of (if_nil_of (sgn _ _ _ _)), seq_of (if_nil_of (sgn _ _ _ _)), seq_of (if_nil_of (sgn _ _ _ _)), seq_of (if_nil_of (sgn _ _ _ _)), seq_of (if_nil_of (sgn _ _ _ _)), ret_of (w := .bl true) (S1 := S) (mAnd_t (S1 := S) rfl (mAnd_t (S1 := S) (op2_of (x := .str x) (y := .ref nm) rfl (by simp [op1, mVar, M.g_names]) (M.fIn h)) ho))]
  rfl
end
end
end Gm

set_option linter.all false
namespace Gm
open PySem (Str)
section
variable {A A1 A2 : Ma} {S S0 S1 S2 S' : Store} {e : Env} {l nm many wide long : Nat} {names : List Str}
theorem strOk_of {x : Str} (h : ∀ c ∈ x.cps.toList, c < 1114112) : strOk x = true := by
  unfold strOk
  rw [← Array.all_toList, List.all_eq_true]
  intro c hc
  exact decide_eq_true (h c hc)
theorem small_lt : ∀ c ∈ smallS.cps.toList, c < 1114112 := by decide +kernel
theorem nameB_ok {x : Str} (h : nameB x = true) : strOk x = true := by
  refine strOk_of fun c hc => ?_
  unfold nameB at h
  simp only [Bool.and_eq_true, List.all_eq_true, decide_eq_true_eq] at h
  exact small_lt c (h.2.2 c hc)
/-- the row may stand where there are these names, bodies, boxes and rows -/
def Row.legal (names : List Str) (many wide long : Nat) : Row → Prop
  | .number b n => b < wide ∧ lim n
  | .nothing b => b < wide
  | .copy b c => b < wide ∧ c < wide
  | .reck _ b c d => b < wide ∧ c < wide ∧ d < wide
  | .make b k => b < wide ∧ k ∈ names ∧ (("number" : Str) == k) = false ∧ (("nothing" : Str) == k) = false
  | .get b c f => b < wide ∧ c < wide ∧ nameB f = true
  | .put c f d => c < wide ∧ nameB f = true ∧ d < wide
  | .call b n a as => b < wide ∧ nameB n = true ∧ as.length < 6 ∧ ∀ c ∈ a :: as, c < wide
  | .give c => c < wide
  | .go r => r ≤ long
  | .iff c r => c < wide ∧ r ≤ long
  | .tell c => c < wide
  | .anew k n b => k ∈ names ∧ nameB n = true ∧ b < many
theorem rds_nat (S : Store) (n : Nat) : ∀ as : List Nat, rds S (n + 1) (as.map natW) = some (as.map natW)
  | [] => by simp [rds]
  | a :: as => by
    rw [List.map_cons, rds, rds_nat S n as]
    simp [natW, rd]
theorem rd_row (S : Store) {r : Row} (h : r.legal names many wide long) (hn : ∀ x ∈ names, strOk x = true) (ws : List W) (hr : rowW r = .tup ws) : rd S 40 (.tup ws) = some (.tup ws) := by
  have w1 : ∀ s : Str, strOk s = true → ∀ n, rd S (n + 1) (.str s) = some (.str s) := fun s hs n => by simp [rd, hs]
  have w2 : ∀ (b n : Nat), rd S (n + 1) (natW b) = some (natW b) := fun b n => by simp [rd, natW]
  rw [← hr]
  cases r with
  | number b n => simp [rowW, rd, rds, w2, show strOk "number" = true by decide +kernel]
  | nothing b => simp [rowW, rd, rds, w2, show strOk "nothing" = true by decide +kernel]
  | copy b c => simp [rowW, rd, rds, w2, show strOk "copy" = true by decide +kernel]
  | reck k b c d =>
    have : strOk k.w = true := by cases k <;> decide +kernel
    simp [rowW, rd, rds, w2, this]
  | make b k => simp [rowW, rd, rds, w2, show strOk "make" = true by decide +kernel, hn k h.2.1]
  | get b c f => simp [rowW, rd, rds, w2, show strOk "get" = true by decide +kernel, nameB_ok h.2.2]
  | put c f d => simp [rowW, rd, rds, w2, show strOk "put" = true by decide +kernel, nameB_ok h.2.1]
  | call b n a as =>
    have := rds_nat S 37 (a :: as)
    rw [List.map_cons] at this
    simp [rowW, rd, rds, w2, show strOk "call" = true by decide +kernel, nameB_ok h.2.1]
    simp [rds, rd, natW] at this
    simp [natW, rd]
    revert this
    cases hz : rds S 38 (as.map natW) <;> simp
  | give c => simp [rowW, rd, rds, w2, show strOk "give" = true by decide +kernel]
  | go q => simp [rowW, rd, rds, w2, show strOk "go" = true by decide +kernel]
  | iff c q => simp [rowW, rd, rds, w2, show strOk "if" = true by decide +kernel]
  | tell c => simp [rowW, rd, rds, w2, show strOk "tell" = true by decide +kernel]
  | anew k n b => simp [rowW, rd, rds, w2, show strOk "anew" = true by decide +kernel, nameB_ok h.2.1, hn k h.1]
theorem Lm.more (M : Lm S l nm names many wide long) (o : Ob) : Lm (S ++ [o]) l nm names many wide long := by
  refine ⟨?_, ?_⟩
  · rw [List.getElem?_append_left (List.getElem?_eq_some_iff.mp M.ob).1]
    exact M.ob
  · rw [List.getElem?_append_left (List.getElem?_eq_some_iff.mp M.ns).1]
    exact M.ns
theorem lets_of (M : Lm S l nm names many wide long) {word form : Str} {signs : List Str} {rest : List W} (hrd : rd S 40 (.tup (.str word :: rest)) = some (.tup (.str word :: rest))) (hform : d_FORMS.lookup word = some (.str form))
    (hsig : form.cps.toList.map (fun c => (⟨#[c]⟩ : Str)) = signs) (hfl : form.length ≤ 4) (hl : form.length = rest.length)
    (hfit : ∀ p ∈ signs.zip rest, F_Limits_fits 2 [.ref l, .str p.1, p.2] (S ++ [.lst rest]) = some (.bl true, S ++ [.lst rest])) : F_Limits_lets [.ref l, .tup (.str word :: rest)] S = some (.bl true, S ++ [.lst rest]) := by
  have M1 := M.more (.lst rest)
  have hnew : (S ++ [Ob.lst rest])[S.length]? = some (.lst rest) := List.getElem?_concat_length
  have hrl : rest.length ≤ 4 := by omega
  let e0 : Env := [some (.ref l), some (.tup (.str word :: rest)), none, none, none, none]
  let e1 : Env := [some (.ref l), some (.tup (.str word :: rest)), some (.str word), some (.ref S.length), none, none]
  have q1 : op2 fEq (mVar 1) (mTup aNil) e0 S = some (.bl false, S) := by
    refine op2_of (x := .tup (.str word :: rest)) (y := .tup []) (S1 := S) rfl rfl ?_
    simp [fEq, eqW, isSc, hrd, rd, rds, eqd, eqds]
  have z1 : sIf (tOr (tNot (tVal (op1 (fIs "tuple") (mVar 1)))) (tVal (op2 fEq (mVar 1) (mTup aNil)))) (sRet (mC (.bl false))) sNil e0 S = some (.nx e0, S) := by
    refine if_nil_of ?_
    have a1 : tNot (tVal (op1 (fIs "tuple") (mVar 1))) e0 S = some (false, S) := rfl
    have a2 := tval_of q1
    simp only [tOr, a1, a2]
  have z2 : sAsg (mVar 1) (gStar (gName 2) (gName 3)) e0 S = some (.nx e1, S ++ [.lst rest]) := by
    refine asg_of (w := .tup (.str word :: rest)) (S1 := S) rfl ?_
    simp only [gStar]
    rw [if_pos (by omega)]
    rfl
  have g1 : op1 (fGetK d_FORMS) (mVar 2) e1 (S ++ [.lst rest]) = some (.str form, S ++ [.lst rest]) := by
    simp [op1, mVar, e1, fGetK, hform]
  have z3 : sIf (tOr (tNot (tVal (op1 (fIs "str") (mVar 2)))) (tOr (tVal (op1 (fNotInK d_FORMS) (mVar 2))) (tVal (op2 fNe (mLen (op1 (fGetK d_FORMS) (mVar 2))) (mLen (mVar 3)))))) (sRet (mC (.bl false))) sNil e1 (S ++ [.lst rest]) = some (.nx e1, S ++ [.lst rest]) := by
    refine if_nil_of ?_
    have a1 : tNot (tVal (op1 (fIs "str") (mVar 2))) e1 (S ++ [.lst rest]) = some (false, S ++ [.lst rest]) := rfl
    have a2 : tVal (op1 (fNotInK d_FORMS) (mVar 2)) e1 (S ++ [.lst rest]) = some (false, S ++ [.lst rest]) := by
      simp [tVal, op1, mVar, e1, fNotInK, hform]
    have a3 : tVal (op2 fNe (mLen (op1 (fGetK d_FORMS) (mVar 2))) (mLen (mVar 3))) e1 (S ++ [.lst rest]) = some (false, S ++ [.lst rest]) := by
      refine tval_of (op2_of (x := natW form.length) (y := natW rest.length) (S1 := S ++ [.lst rest]) (S2 := S ++ [.lst rest]) ?_ ?_ ?_)
      · rw [mLen, op1, g1]
        simp only
        rw [if_pos (by omega)]
        rfl
      · have : mVar 3 e1 (S ++ [.lst rest]) = some (.ref S.length, S ++ [.lst rest]) := rfl
        simp only [mLen, op1, this, hnew, natW]
      · rw [ne_nat]
        simp [hl]
    simp only [tOr, a1, a2, a3]
  have z4 : mAll (aComp (iZipX (op1 (fGetK d_FORMS) (mVar 2)) (mVar 3)) (gTupN 2 (gCons (gName 4) (gCons (gName 5) gNil))) tYes (mMethN "Limits" "fits" 3 (F_Limits_fits 2) (mVar 0) (aCons (mVar 4) (aCons (mVar 5) aNil))) [4, 5]) e1 (S ++ [.lst rest]) = some (.bl true, S ++ [.lst rest]) := by
    have ha : rest.all (fun _ => true) = true := by simp
    rw [← ha]
    refine mAll_of (p := fun _ => true) (l := rest) ?_
    have hv3 : mVar 3 e1 (S ++ [.lst rest]) = some (.ref S.length, S ++ [.lst rest]) := rfl
    have hi : iZipX (op1 (fGetK d_FORMS) (mVar 2)) (mVar 3) e1 (S ++ [.lst rest]) = some (sZipSL form S.length, S ++ [.lst rest]) := by
      simp only [iZipX, g1, hv3, hnew]
    simp only [aComp, hi]
    have hcl : form.cps.toList.length = rest.length := by rw [← hl]; simp [PySem.Str.length]
    have hsl : signs.length = rest.length := by rw [← hsig, List.length_map, hcl]
    have hz : (signs.zip rest).length = rest.length := by rw [List.length_zip, hsl, Nat.min_self]
    have src : ∀ i, i ≤ rest.length → sZipSL form S.length i (S ++ [.lst rest]) = some (((signs.zip rest).map fun p => W.tup [.str p.1, p.2])[i]?) := by
      intro i hi
      simp only [sZipSL, hnew]
      rw [if_pos ⟨by omega, hi⟩, List.getElem?_map]
      by_cases hlt : i < rest.length
      · obtain ⟨c, h1⟩ : ∃ c, form.cps.toList[i]? = some c := ⟨_, List.getElem?_eq_getElem (by omega)⟩
        obtain ⟨w, h2⟩ : ∃ w, rest[i]? = some w := ⟨_, List.getElem?_eq_getElem hlt⟩
        have h3 : signs[i]? = some ⟨#[c]⟩ := by rw [← hsig, List.getElem?_map, h1]; rfl
        have h4 : (signs.zip rest)[i]? = some (⟨#[c]⟩, w) := List.getElem?_zip_eq_some.mpr ⟨h3, h2⟩
        rw [h1, h2, h4]
        rfl
      · have h1 : form.cps.toList[i]? = none := List.getElem?_eq_none (by omega)
        have h4 : (signs.zip rest)[i]? = none := List.getElem?_eq_none (by omega)
        rw [h1, h4]
        rfl
    refine compN_pure ((signs.zip rest).map fun p => W.tup [.str p.1, p.2]) _ (fun i hi => src i (by rw [List.length_map, hz] at hi; exact hi)) (by rw [List.length_map, List.length_map, hz]) (by rw [List.length_map, hz]; omega) fun i w hw => ?_
    rw [List.getElem?_map] at hw
    cases hp : (signs.zip rest)[i]? with
    | none => rw [hp] at hw; cases hw
    | some p =>
      rw [hp] at hw
      cases hw
      have hi : i < rest.length := by rw [← hz]; exact (List.getElem?_eq_some_iff.mp hp).1
      refine ⟨[some (.ref l), some (.tup (.str word :: rest)), some (.str word), some (.ref S.length), some (.str p.1), some p.2], .bl true, rfl, rfl, M1.meth rfl rfl rfl (hfit p (List.mem_of_getElem? hp)), ?_⟩
      rw [List.getElem?_map, List.getElem?_eq_getElem hi]
      rfl
  rw [F_Limits_lets, fnOf_eq]
  show fin (b_Limits_lets e0 S) = _
  unfold b_Limits_lets
  rw [seq_of z1, seq_of z2, seq_of z3, ret_of z4]
  rfl
theorem natW_map (as : List Nat) : W.tup (as.map natW) = .tup (as.map natW) := rfl
/-- a row that may stand is let by -/
theorem lets_row (M : Lm S l nm names many wide long) (hn : ∀ x ∈ names, strOk x = true) {r : Row} (h : r.legal names many wide long) : ∃ S', F_Limits_lets [.ref l, rowW r] S = some (.bl true, S') ∧ ∃ o, S' = S ++ [o] := by
  have hrd := fun ws => rd_row S h hn ws
  cases r with
  | number b n =>
    exact ⟨_, lets_of M (signs := ["b", "n"]) (hrd _ rfl) rfl (by decide +kernel) (by decide +kernel) rfl (by
      intro p hp
      simp at hp
      rcases hp with rfl | rfl
      · exact fits_b (M.more _) h.1 1
      · exact fits_n (M.more _) h.2 1), _, rfl⟩
  | nothing b =>
    exact ⟨_, lets_of M (signs := ["b"]) (hrd _ rfl) rfl (by decide +kernel) (by decide +kernel) rfl (by
      intro p hp
      simp at hp
      rcases hp with rfl
      exact fits_b (M.more _) h 1), _, rfl⟩
  | copy b c =>
    exact ⟨_, lets_of M (signs := ["b", "b"]) (hrd _ rfl) rfl (by decide +kernel) (by decide +kernel) rfl (by
      intro p hp
      simp at hp
      rcases hp with rfl | rfl
      · exact fits_b (M.more _) h.1 1
      · exact fits_b (M.more _) h.2 1), _, rfl⟩
  | reck k b c d =>
    exact ⟨_, lets_of M (form := "bbb") (signs := ["b", "b", "b"]) (hrd _ rfl) (by cases k <;> rfl) (by decide +kernel) (by decide +kernel) rfl (by
      intro p hp
      simp at hp
      rcases hp with rfl | rfl | rfl
      · exact fits_b (M.more _) h.1 1
      · exact fits_b (M.more _) h.2.1 1
      · exact fits_b (M.more _) h.2.2 1), _, rfl⟩
  | make b k =>
    exact ⟨_, lets_of M (signs := ["b", "k"]) (hrd _ rfl) rfl (by decide +kernel) (by decide +kernel) rfl (by
      intro p hp
      simp at hp
      rcases hp with rfl | rfl
      · exact fits_b (M.more _) h.1 1
      · exact fits_k (M.more _) h.2.1 h.2.2.1 h.2.2.2 1), _, rfl⟩
  | get b c f =>
    exact ⟨_, lets_of M (signs := ["b", "b", "f"]) (hrd _ rfl) rfl (by decide +kernel) (by decide +kernel) rfl (by
      intro p hp
      simp at hp
      rcases hp with rfl | rfl | rfl
      · exact fits_b (M.more _) h.1 1
      · exact fits_b (M.more _) h.2.1 1
      · exact fits_f (M.more _) h.2.2 1), _, rfl⟩
  | put c f d =>
    exact ⟨_, lets_of M (signs := ["b", "f", "b"]) (hrd _ rfl) rfl (by decide +kernel) (by decide +kernel) rfl (by
      intro p hp
      simp at hp
      rcases hp with rfl | rfl | rfl
      · exact fits_b (M.more _) h.1 1
      · exact fits_f (M.more _) h.2.1 1
      · exact fits_b (M.more _) h.2.2 1), _, rfl⟩
  | call b n a as =>
    exact ⟨_, lets_of M (signs := ["b", "f", "a"]) (hrd _ rfl) rfl (by decide +kernel) (by decide +kernel) rfl (by
      intro p hp
      simp at hp
      rcases hp with rfl | rfl | rfl
      · exact fits_b (M.more _) h.1 1
      · exact fits_f (M.more _) h.2.1 1
      · exact fits_a (M.more _) (as := a :: as) (by simp) (by have := h.2.2.1; simp; omega) h.2.2.2 0), _, rfl⟩
  | give c =>
    exact ⟨_, lets_of M (signs := ["b"]) (hrd _ rfl) rfl (by decide +kernel) (by decide +kernel) rfl (by
      intro p hp
      simp at hp
      rcases hp with rfl
      exact fits_b (M.more _) h 1), _, rfl⟩
  | go q =>
    exact ⟨_, lets_of M (signs := ["r"]) (hrd _ rfl) rfl (by decide +kernel) (by decide +kernel) rfl (by
      intro p hp
      simp at hp
      rcases hp with rfl
      exact fits_r (M.more _) h 1), _, rfl⟩
  | iff c q =>
    exact ⟨_, lets_of M (signs := ["b", "r"]) (hrd _ rfl) rfl (by decide +kernel) (by decide +kernel) rfl (by
      intro p hp
      simp at hp
      rcases hp with rfl | rfl
      · exact fits_b (M.more _) h.1 1
      · exact fits_r (M.more _) h.2 1), _, rfl⟩
  | tell c =>
    exact ⟨_, lets_of M (signs := ["b"]) (hrd _ rfl) rfl (by decide +kernel) (by decide +kernel) rfl (by
      intro p hp
      simp at hp
      rcases hp with rfl
      exact fits_b (M.more _) h 1), _, rfl⟩
  | anew k n b =>
    exact ⟨_, lets_of M (signs := ["e", "f", "y"]) (hrd _ rfl) rfl (by decide +kernel) (by decide +kernel) rfl (by
      intro p hp
      simp at hp
      rcases hp with rfl | rfl | rfl
      · exact fits_e (M.more _) h.1 1
      · exact fits_f (M.more _) h.2.1 1
      · exact fits_y (M.more _) h.2.2 1), _, rfl⟩
end
end Gm

set_option linter.all false
namespace Gm
open PySem (Str)
section
variable {A A1 A2 : Ma} {S S0 S1 S2 S3 S' : Store} {e : Env}
/-- the store grows, nothing in it changes -/
structure Gr (S S' : Store) : Prop where
  len : S.length ≤ S'.length
  keep : ∀ i, i < S.length → S'[i]? = S[i]?
theorem Gr.refl : Gr S S := ⟨Nat.le_refl _, fun _ _ => rfl⟩
theorem Gr.trans (x : Gr S S1) (y : Gr S1 S2) : Gr S S2 := ⟨Nat.le_trans x.len y.len, fun i h => (y.keep i (Nat.lt_of_lt_of_le h x.len)).trans (x.keep i h)⟩
theorem Gr.one (o : Ob) : Gr S (S ++ [o]) := ⟨by simp, fun i h => List.getElem?_append_left h⟩
theorem Gr.at (x : Gr S S') {i : Nat} {o : Ob} (h : S[i]? = some o) : S'[i]? = some o := by
  rw [x.keep i (List.getElem?_eq_some_iff.mp h).1, h]
theorem forN_inv {s : Src} {g : MG} {body : MS} (ws : List W) (I : Nat → Env → Store → Prop) (hs : ∀ i e S, I i e S → i ≤ ws.length → s i S = some ws[i]?)
    (hb : ∀ (i : Nat) (w : W) (e : Env) (S : Store), I i e S → ws[i]? = some w → ∃ e1 S1 e2 S2, g w e S = some (e1, S1) ∧ body e1 S1 = some (.nx e2, S2) ∧ I (i + 1) e2 S2) :
    ∀ (fuel i : Nat) (e : Env) (S : Store), I i e S → i ≤ ws.length → ws.length - i < fuel → ∃ e' S', forN s g body fuel i e S = some (.nx e', S') ∧ I ws.length e' S'
  | 0, i, e, S, h, hi, hf => absurd hf (Nat.not_lt_zero _)
  | fuel + 1, i, e, S, h, hi, hf => by
    rw [forN, hs i e S h hi]
    by_cases hl : i < ws.length
    · obtain ⟨e1, S1, e2, S2, h1, h2, h3⟩ := hb i _ e S h (List.getElem?_eq_getElem hl)
      rw [List.getElem?_eq_getElem hl]
      simp only [h1, h2]
      exact forN_inv ws I hs hb fuel (i + 1) e2 S2 h3 hl (by omega)
    · have : i = ws.length := by omega
      subst this
      rw [List.getElem?_eq_none (Nat.le_refl _)]
      exact ⟨e, S, rfl, h⟩
/-- a set's members, each once -/
theorem scN_nodup (l : Nat) (xs : List Str) (hx : xs.Nodup) (hl : xs.length ≤ 50) (n : Nat) {e : Env} (hS : seqOf S (.ref l) = some (xs.map .str)) (h1 : 1 < e.length) :
    scN (sSeq (.ref l)) (gName 1) tYes (mVar 1) [1] turns 0 [] e S = some (xs.map .str, S) := by
  have main : ∀ (n i : Nat), xs.length - i < n → i ≤ xs.length → scN (sSeq (.ref l)) (gName 1) tYes (mVar 1) [1] n i ((xs.take i).map .str) e S = some (xs.map .str, S) := by
    intro n
    induction n with
    | zero => intro i h; omega
    | succ n ih =>
      intro i h1' h2
      rw [scN]
      have hs : sSeq (.ref l) i S = some ((xs.map W.str)[i]?) := by simp only [sSeq, hS, Option.map_some]
      rw [hs]
      by_cases hi : i < xs.length
      · have hg : (xs.map W.str)[i]? = some (.str xs[i]) := by rw [List.getElem?_map, List.getElem?_eq_getElem hi]; rfl
        rw [hg]
        have e1 : gName 1 (.str xs[i]) (wipe e [1]) S = some ((e.set 1 none).set 1 (some (.str xs[i])), S) := rfl
        have e2 : mVar 1 ((e.set 1 none).set 1 (some (.str xs[i]))) S = some (.str xs[i], S) := by
          simp only [mVar]
          rw [List.getElem?_set_self (by rw [List.length_set]; exact h1)]
        have e3 : ((xs.take i).map W.str).length < 60 ∧ kOk false (.str xs[i]) = true := ⟨by rw [List.length_map, List.length_take]; omega, rfl⟩
        have e4 : ((xs.take i).map W.str).any (fun w => sameK false w (.str xs[i])) = false := by
          rw [List.any_map, List.any_eq_false]
          intro y hy
          simp only [Function.comp, sameK, kOne]
          simp
          intro z
          subst z
          obtain ⟨j, hj, hj2⟩ := List.mem_take_iff_getElem.mp hy
          have := (List.getElem_inj hx).mp hj2
          omega
        have e5 : (xs.take i).map W.str ++ [.str xs[i]] = (xs.take (i + 1)).map W.str := by
          rw [List.take_add_one, List.getElem?_eq_getElem hi, List.map_append]
          rfl
        simp only [e1, tYes, e2, e3, and_self, if_true, e4, Bool.false_eq_true, if_false, e5]
        exact ih (i + 1) (by omega) (by omega)
      · rw [List.getElem?_eq_none (by simpa using hi)]
        rw [List.take_of_length_le (by omega)]
  have := main turns 0 (by unfold turns; omega) (Nat.zero_le _)
  rwa [List.take_zero] at this
theorem are_unlike_of {l : Nat} {xs : List Str} (hx : xs.Nodup) (hl : xs.length ≤ 50) (hS : S[l]? = some (.lst (xs.map .str))) : F_are_unlike [.ref l] S = some (.bl true, S) := by
  have hs : seqOf S (.ref l) = some (xs.map .str) := by simp only [seqOf, hS]
  have h1 := scN_nodup (S := S) l xs hx hl 0 (e := [some (.ref l), none]) hs (by simp)
  have h2 : mLenSet (iSeq (mVar 0)) (gName 1) tYes (mVar 1) [1] [some (.ref l), none] S = some (.int xs.length, S) := by
    have hi : iSeq (mVar 0) [some (.ref l), none] S = some (sSeq (.ref l), S) := by simp [iSeq, mVar, hs, walkable]
    simp only [mLenSet, hi, h1, List.length_map]
  have h3 : mLen (mVar 0) [some (.ref l), none] S = some (.int xs.length, S) := by simp [mLen, op1, mVar, hS]
  rw [F_are_unlike, fnOf_eq]
  show fin (b_are_unlike [some (.ref l), none] S) = _
  unfold b_are_unlike
  rw [ret_of (op2_of h2 h3 (by simp [fEq, eqW, isSc, eqd]; rfl))]
  rfl
/-- the same for a tuple -/
theorem are_unlike_tup {xs : List Str} (hx : xs.Nodup) (hl : xs.length ≤ 50) : F_are_unlike [.tup (xs.map .str)] S = some (.bl true, S) := by
  have main : ∀ (n i : Nat), xs.length - i < n → i ≤ xs.length → scN (sSeq (.tup (xs.map .str))) (gName 1) tYes (mVar 1) [1] n i ((xs.take i).map .str) [some (.tup (xs.map .str)), none] S = some (xs.map .str, S) := by
    intro n
    induction n with
    | zero => intro i h; omega
    | succ n ih =>
      intro i h1' h2
      rw [scN]
      have hs : sSeq (.tup (xs.map .str)) i S = some ((xs.map W.str)[i]?) := rfl
      rw [hs]
      by_cases hi : i < xs.length
      · have hg : (xs.map W.str)[i]? = some (.str xs[i]) := by rw [List.getElem?_map, List.getElem?_eq_getElem hi]; rfl
        rw [hg]
        have e3 : ((xs.take i).map W.str).length < 60 ∧ kOk false (.str xs[i]) = true := ⟨by rw [List.length_map, List.length_take]; omega, rfl⟩
        have e4 : ((xs.take i).map W.str).any (fun w => sameK false w (.str xs[i])) = false := by
          rw [List.any_map, List.any_eq_false]
          intro y hy
          simp only [Function.comp, sameK, kOne]
          simp
          intro z
          subst z
          obtain ⟨j, hj, hj2⟩ := List.mem_take_iff_getElem.mp hy
          have := (List.getElem_inj hx).mp hj2
          omega
        have e5 : (xs.take i).map W.str ++ [.str xs[i]] = (xs.take (i + 1)).map W.str := by
          rw [List.take_add_one, List.getElem?_eq_getElem hi, List.map_append]
          rfl
        have e1 : gName 1 (.str xs[i]) (wipe [some (.tup (xs.map .str)), none] [1]) S = some ([some (.tup (xs.map .str)), some (.str xs[i])], S) := rfl
        have e2 : mVar 1 [some (.tup (xs.map .str)), some (.str xs[i])] S = some (.str xs[i], S) := rfl
        simp only [e1, tYes, e2, e3, and_self, if_true, e4, Bool.false_eq_true, if_false, e5]
        exact ih (i + 1) (by omega) (by omega)
      · rw [List.getElem?_eq_none (by simpa using hi)]
        rw [List.take_of_length_le (by omega)]
  have h1 := main turns 0 (by unfold turns; omega) (Nat.zero_le _)
  rw [List.take_zero] at h1
  have h2 : mLenSet (iSeq (mVar 0)) (gName 1) tYes (mVar 1) [1] [some (.tup (xs.map .str)), none] S = some (.int xs.length, S) := by
    have hi : iSeq (mVar 0) [some (.tup (xs.map .str)), none] S = some (sSeq (.tup (xs.map .str)), S) := rfl
    simp only [mLenSet, hi]
    simp only [List.map_nil] at h1
    simp only [h1, List.length_map]
  have h3 : mLen (mVar 0) [some (.tup (xs.map .str)), none] S = some (.int xs.length, S) := by simp [mLen, op1, mVar]
  rw [F_are_unlike, fnOf_eq]
  show fin (b_are_unlike [some (.tup (xs.map .str)), none] S) = _
  unfold b_are_unlike
  rw [ret_of (op2_of h2 h3 (by simp [fEq, eqW, isSc, eqd]; rfl))]
  rfl
/-! ### the parts of a program -/
def plainNames : List Str := ["number", "nothing"]
def kindW (k : Str × List Str) : W := .tup [.str k.1, .tup (k.2.map .str)]
structure ProgOk (kinds : List (Str × List Str)) (plan : List Bd) (es : List ((Str × Str) × Nat)) : Prop where
  k6 : kinds.length ≤ 6
  kn : ∀ k ∈ kinds, nameB k.1 = true ∧ (("number" : Str) == k.1) = false ∧ (("nothing" : Str) == k.1) = false ∧ k.2.length ≤ 4 ∧ (∀ f ∈ k.2, nameB f = true) ∧ k.2.Nodup
  ku : (kinds.map (·.1)).Nodup
  b1 : 1 ≤ plan.length ∧ plan.length ≤ 12
  bo : ∀ bd ∈ plan, 1 ≤ bd.boxes ∧ bd.boxes ≤ 6 ∧ bd.takes ≤ bd.boxes ∧ bd.rows.length ≤ 30 ∧ ∀ r ∈ bd.rows, r.legal (kinds.map (·.1) ++ plainNames) plan.length bd.boxes bd.rows.length
  en : ∀ x ∈ es, x.1.1 ∈ kinds.map (·.1) ++ plainNames ∧ nameB x.1.2 = true ∧ x.2 < plan.length
/-- where the rows stand: a tuple, or a list -/
def RowsAt (S : Store) (w : W) (rows : List Row) : Prop := w = .tup (rows.map rowW) ∨ ∃ r, w = .ref r ∧ S[r]? = some (.lst (rows.map rowW))
theorem RowsAt.gr {w : W} {rows : List Row} (h : RowsAt S w rows) (x : Gr S S') : RowsAt S' w rows := by
  rcases h with h | ⟨r, h1, h2⟩
  · exact .inl h
  · exact .inr ⟨r, h1, x.at h2⟩
theorem RowsAt.seq {w : W} {rows : List Row} (h : RowsAt S w rows) : seqOf S w = some (rows.map rowW) := by
  rcases h with rfl | ⟨r, rfl, h2⟩
  · rfl
  · simp only [seqOf, h2]
theorem RowsAt.ty {w : W} {rows : List Row} (h : RowsAt S w rows) : fIs2 "list" "tuple" w S = some (.bl true) := by
  rcases h with rfl | ⟨r, rfl, h2⟩
  · simp [fIs2, tyW, isTy]
  · simp [fIs2, tyW, isTy, h2]
theorem RowsAt.len {w : W} {rows : List Row} {m : ME} (h : RowsAt S w rows) (hm : m e S = some (w, S)) : mLen m e S = some (.int rows.length, S) := by
  rcases h with rfl | ⟨r, rfl, h2⟩
  · simp [mLen, op1, hm]
  · simp [mLen, op1, hm, h2]
structure Bds (S : Store) (bi : Nat) (rws : List W) (plan : List Bd) : Prop where
  ob : S[bi]? = some (.lst ((plan.zip rws).map fun p => .tup [natW p.1.takes, natW p.1.boxes, p.2]))
  len : rws.length = plan.length
  rat : ∀ (i : Nat) (bd : Bd) (w : W), plan[i]? = some bd → rws[i]? = some w → RowsAt S w bd.rows
theorem Bds.gr {bi : Nat} {rws : List W} {plan : List Bd} (h : Bds S bi rws plan) (x : Gr S S') : Bds S' bi rws plan :=
  ⟨x.at h.ob, h.len, fun i bd w h1 h2 => (h.rat i bd w h1 h2).gr x⟩
theorem is_list_of {w : W} (h : fIs2 "list" "tuple" w S = some (.bl true)) : F_is_list [w] S = some (.bl true, S) := by
  simp [F_is_list, b_is_list, fnOf, sRet, op1, mVar, h]
theorem is_body_of {bd : Bd} {w : W} (h : RowsAt S w bd.rows) (h1 : 1 ≤ bd.boxes) (h2 : bd.boxes ≤ 6) (h3 : bd.takes ≤ bd.boxes) (h4 : bd.rows.length ≤ 30) :
    F_is_body [.tup [natW bd.takes, natW bd.boxes, w]] S = some (.bl true, S) := by
  have t0 : mCallN 1 F_is_list (aCons (mVar 0) aNil) [some (.tup [natW bd.takes, natW bd.boxes, w])] S = some (.bl true, S) := call1_of rfl (is_list_of (by simp [fIs2, tyW, isTy]))
  have t1 : op2 fNe (mLen (mVar 0)) (mC (.int 3)) [some (.tup [natW bd.takes, natW bd.boxes, w])] S = some (.bl false, S) := rfl
  have w1 : F_is_whole [natW bd.boxes, .int 1, .int 6] S = some (.bl true, S) := by
    rw [is_whole_of S 1 6 (t := "int") rfl]
    simp [wholeB, natW]
    omega
  have w2 : F_is_whole [natW bd.takes, .int 0, natW bd.boxes] S = some (.bl true, S) := by
    unfold natW
    rw [is_whole_of S 0 bd.boxes (t := "int") rfl]
    simp [wholeB]
    omega
  have t2 : mCallN 3 F_is_whole (aCons (op2 fIx (mVar 0) (mC (.int 1))) (aCons (mC (.int 1)) (aCons (mC (.int 6)) aNil))) [some (.tup [natW bd.takes, natW bd.boxes, w])] S = some (.bl true, S) :=
    call3_of (w1 := natW bd.boxes) (op2_of rfl rfl ix1) rfl rfl w1
  have z1 : sIf (tOr (tNot (tVal (mCallN 1 F_is_list (aCons (mVar 0) aNil)))) (tOr (tVal (op2 fNe (mLen (mVar 0)) (mC (.int 3)))) (tNot (tVal (mCallN 3 F_is_whole (aCons (op2 fIx (mVar 0) (mC (.int 1))) (aCons (mC (.int 1)) (aCons (mC (.int 6)) aNil)))))))) (sRet (mC (.bl false))) sNil [some (.tup [natW bd.takes, natW bd.boxes, w])] S = some (.nx [some (.tup [natW bd.takes, natW bd.boxes, w])], S) := by
    refine if_nil_of ?_
    simp only [tOr, tNot, tval_of t0, tval_of t1, tval_of t2, Bool.not_true]
  have t3 : mCallN 3 F_is_whole (aCons (op2 fIx (mVar 0) (mC (.int 0))) (aCons (mC (.int 0)) (aCons (op2 fIx (mVar 0) (mC (.int 1))) aNil))) [some (.tup [natW bd.takes, natW bd.boxes, w])] S = some (.bl true, S) :=
    call3_of (w1 := natW bd.takes) (w3 := natW bd.boxes) (op2_of rfl rfl ix0) rfl (op2_of rfl rfl ix1) w2
  have i2 : op2 fIx (mVar 0) (mC (.int 2)) [some (.tup [natW bd.takes, natW bd.boxes, w])] S = some (w, S) := op2_of rfl rfl ix2
  have t4 : mCallN 1 F_is_list (aCons (op2 fIx (mVar 0) (mC (.int 2))) aNil) [some (.tup [natW bd.takes, natW bd.boxes, w])] S = some (.bl true, S) := call1_of i2 (is_list_of h.ty)
  have t5 : op2 fLe (mLen (op2 fIx (mVar 0) (mC (.int 2)))) (mC (.int 30)) [some (.tup [natW bd.takes, natW bd.boxes, w])] S = some (.bl true, S) :=
    op2_of (x := .int bd.rows.length) (y := .int 30) (h.len i2) rfl (by simp [fLe, onI]; omega)
  rw [F_is_body, fnOf_eq]
  show fin (b_is_body [some (.tup [natW bd.takes, natW bd.boxes, w])] S) = _
  unfold b_is_body
  rw [seq_of z1, ret_of (mAnd_t t3 (mAnd_t t4 t5))]
  rfl
end
end Gm

set_option linter.all false
namespace Gm
open PySem (Str)
section
variable {A A1 A2 : Ma} {S S0 S1 S2 S3 S' : Store} {e : Env}
theorem comp_seq {x : W} {ws us : List W} {mv m : ME} {j : Nat} (hm : mv e S = some (x, S1)) (hs : seqOf S1 x = some ws) (hw : walkable x = true) (hl : ws.length = us.length) (hlen : ws.length < 100000)
    (hb : ∀ (i : Nat) (w : W), ws[i]? = some w → ∃ u, m ((e.set j none).set j (some w)) S1 = some (u, S1) ∧ us[i]? = some u) : aComp (iSeq mv) (gName j) tYes m [j] e S = some (us, S1) := by
  have hi : iSeq mv e S = some (sSeq x, S1) := by simp only [iSeq, hm, hs, hw, if_true]
  simp only [aComp, hi]
  refine compN_pure ws us (fun i _ => by simp only [sSeq, hs, Option.map_some]) hl hlen fun i w h => ?_
  obtain ⟨u, h1, h2⟩ := hb i w h
  exact ⟨_, u, rfl, rfl, h1, h2⟩
theorem mAll_seq {x : W} {ws : List W} {mv m : ME} {j : Nat} (hm : mv e S = some (x, S1)) (hs : seqOf S1 x = some ws) (hw : walkable x = true) (hlen : ws.length < 100000)
    (hb : ∀ w ∈ ws, m ((e.set j none).set j (some w)) S1 = some (.bl true, S1)) : mAll (aComp (iSeq mv) (gName j) tYes m [j]) e S = some (.bl true, S1) := by
  have ha : ws.all (fun _ => true) = true := by simp
  rw [← ha]
  refine mAll_of (p := fun _ => true) (l := ws) (comp_seq hm hs hw (by simp) hlen fun i w h => ?_)
  refine ⟨.bl true, hb w (List.mem_of_getElem? h), ?_⟩
  rw [List.getElem?_map, h]
  rfl
theorem call2_of {F : Fn} {m1 m2 : ME} {w1 w2 : W} {r : R W} (h1 : m1 e S = some (w1, S)) (h2 : m2 e S = some (w2, S)) (hF : F [w1, w2] S = r) : mCallN 2 F (aCons m1 (aCons m2 aNil)) e S = r := by
  simp [mCallN, aCons, aNil, h1, h2, hF]
theorem is_kind_of {k : Str × List Str} (h1 : nameB k.1 = true) (h2 : (("number" : Str) == k.1) = false) (h3 : (("nothing" : Str) == k.1) = false) (h4 : k.2.length ≤ 4) (h5 : ∀ f ∈ k.2, nameB f = true) (h6 : k.2.Nodup) :
    F_is_kind [kindW k] S = some (.bl true, S) := by
  have i0 : op2 fIx (mVar 0) (mC (.int 0)) [some (kindW k)] S = some (.str k.1, S) := op2_of rfl rfl ix0
  have i1 : op2 fIx (mVar 0) (mC (.int 1)) [some (kindW k)] S = some (.tup (k.2.map .str), S) := op2_of rfl rfl ix1
  have t0 : mCallN 1 F_is_list (aCons (mVar 0) aNil) [some (kindW k)] S = some (.bl true, S) := call1_of rfl (is_list_of (by simp [fIs2, tyW, isTy, kindW]))
  have t1 : op2 fNe (mLen (mVar 0)) (mC (.int 2)) [some (kindW k)] S = some (.bl false, S) := rfl
  have t2 : mCallN 1 F_is_name (aCons (op2 fIx (mVar 0) (mC (.int 0))) aNil) [some (kindW k)] S = some (.bl true, S) := call1_of i0 (is_name_ok S h1)
  have t3 : op2 fIn (op2 fIx (mVar 0) (mC (.int 0))) (mC (.wt [.str "number", .str "nothing"])) [some (kindW k)] S = some (.bl false, S) :=
    op2_of i0 rfl (by rw [in_names (names := []), h2, h3]; rfl)
  have z1 : sIf (tOr (tNot (tVal (mCallN 1 F_is_list (aCons (mVar 0) aNil)))) (tOr (tVal (op2 fNe (mLen (mVar 0)) (mC (.int 2)))) (tOr (tNot (tVal (mCallN 1 F_is_name (aCons (op2 fIx (mVar 0) (mC (.int 0))) aNil)))) (tVal (op2 fIn (op2 fIx (mVar 0) (mC (.int 0))) (mC (.wt [.str "number", .str "nothing"]))))))) (sRet (mC (.bl false))) sNil [some (kindW k)] S = some (.nx [some (kindW k)], S) := by
    refine if_nil_of ?_
    simp only [tOr, tNot, tval_of t0, tval_of t1, tval_of t2, tval_of t3, Bool.not_true]
  have hn : F_are_names [.tup (k.2.map .str), .int 4] S = some (.bl true, S) := by
    rw [F_are_names, fnOf_eq]
    show fin (b_are_names [some (.tup (k.2.map .str)), some (.int 4), none] S) = _
    unfold b_are_names
    have a0 : mCallN 1 F_is_list (aCons (mVar 0) aNil) [some (.tup (k.2.map .str)), some (.int 4), none] S = some (.bl true, S) := call1_of rfl (is_list_of (by simp [fIs2, tyW, isTy]))
    have a1 : op2 fLe (mLen (mVar 0)) (mVar 1) [some (.tup (k.2.map .str)), some (.int 4), none] S = some (.bl true, S) :=
      op2_of (x := .int k.2.length) (y := .int 4) (S1 := S) (by simp [mLen, op1, mVar]) rfl (by simp [fLe, onI]; omega)
    have a2 : mAll (aComp (iSeq (mVar 0)) (gName 2) tYes (mCallN 1 F_is_name (aCons (mVar 2) aNil)) [2]) [some (.tup (k.2.map .str)), some (.int 4), none] S = some (.bl true, S) := by
      refine mAll_seq (x := .tup (k.2.map .str)) (ws := k.2.map .str) (S1 := S) rfl rfl rfl (by simp; omega) fun w hw => ?_
      obtain ⟨f, hf, rfl⟩ := List.mem_map.mp hw
      exact call1_of rfl (is_name_ok S (h5 f hf))
    have a3 : mCallN 1 F_are_unlike (aCons (mVar 0) aNil) [some (.tup (k.2.map .str)), some (.int 4), none] S = some (.bl true, S) := call1_of rfl (are_unlike_tup h6 (by omega))
    rw [ret_of (mAnd_t a0 (mAnd_t a1 (mAnd_t a2 a3)))]
    rfl
  rw [F_is_kind, fnOf_eq]
  show fin (b_is_kind [some (kindW k)] S) = _
  unfold b_is_kind
  rw [seq_of z1, ret_of (call2_of i1 rfl hn)]
  rfl
theorem is_entry_of {k : Str × Str} {b many nm : Nat} {names : List Str} (hS : S[nm]? = some (.lst (names.map .str))) (h1 : k.1 ∈ names) (h2 : nameB k.2 = true) (h3 : b < many) :
    F_is_entry [keyW k, natW b, .ref nm, natW many] S = some (.bl true, S) := by
  have hin : fIn (.str k.1) (.ref nm) S = some (.bl true) := by
    have g1 : (names.map W.str).all isSc = true := by simp [isSc]
    have g2 : (names.map W.str).any (fun z => eqd z (.str k.1)) = true := by
      rw [List.any_map, List.any_eq_true]
      exact ⟨k.1, h1, by simp [eqd]⟩
    simp only [fIn, hS, isSc, g1, Bool.and_self, if_true, g2]
  let e0 : Env := [some (keyW k), some (natW b), some (.ref nm), some (natW many)]
  have i0 : op2 fIx (mVar 0) (mC (.int 0)) e0 S = some (.str k.1, S) := op2_of rfl rfl ix0
  have i1 : op2 fIx (mVar 0) (mC (.int 1)) e0 S = some (.str k.2, S) := op2_of rfl rfl ix1
  have t0 : op1 (fIs "tuple") (mVar 0) e0 S = some (.bl true, S) := rfl
  have t1 : op2 fNe (mLen (mVar 0)) (mC (.int 2)) e0 S = some (.bl false, S) := rfl
  have t2 : op1 (fIs "str") (op2 fIx (mVar 0) (mC (.int 0))) e0 S = some (.bl true, S) := by simp only [op1, i0]; rfl
  have z1 : sIf (tOr (tNot (tVal (op1 (fIs "tuple") (mVar 0)))) (tOr (tVal (op2 fNe (mLen (mVar 0)) (mC (.int 2)))) (tNot (tVal (op1 (fIs "str") (op2 fIx (mVar 0) (mC (.int 0)))))))) (sRet (mC (.bl false))) sNil e0 S = some (.nx e0, S) := by
    refine if_nil_of ?_
    simp only [tOr, tNot, tval_of t0, tval_of t1, tval_of t2, Bool.not_true]
  rw [F_is_entry, fnOf_eq]
  show fin (b_is_entry e0 S) = _
  unfold b_is_entry
  rw [seq_of z1, ret_of (mAnd_t (op2_of i0 rfl hin) (mAnd_t (call1_of i1 (is_name_ok S h2)) (call3_of (w1 := natW b) (w2 := .int 0) (w3 := .int ((many : Int) - 1)) rfl rfl rfl (whole_nat S h3 rfl))))]
  rfl
section
variable {kinds : List (Str × List Str)} {plan : List Bd} {es : List ((Str × Str) × Nat)} {ki bi ti : Nat} {rws : List W}
theorem seq_ref {a : Nat} {ws : List W} (h : S[a]? = some (.lst ws)) : seqOf S (.ref a) = some ws := by simp only [seqOf, h]
theorem len_ref {a : Nat} {ws : List W} {m : ME} (hm : m e S = some (.ref a, S1)) (h : S1[a]? = some (.lst ws)) : mLen m e S = some (natW ws.length, S1) := by simp only [mLen, op1, hm, h, natW]
/-- the names of the kinds, told anew -/
theorem comp_names {j : Nat} {mv : ME} (hj : j < e.length) (hk : S[ki]? = some (.lst (kinds.map kindW))) (hm : mv e S = some (.ref ki, S)) (hl : kinds.length ≤ 6) : aComp (iSeq mv) (gName j) tYes (op2 fIx (mVar j) (mC (.int 0))) [j] e S = some ((kinds.map (·.1)).map .str, S) := by
  refine comp_seq hm (seq_ref hk) rfl (by simp) (by simp; omega) fun i w h => ?_
  rw [List.getElem?_map] at h
  cases hc : kinds[i]? with
  | none => rw [hc] at h; cases h
  | some k =>
    rw [hc] at h
    cases h
    refine ⟨.str k.1, op2_of (x := kindW k) (S1 := S) ?_ rfl ix0, by simp [hc]⟩
    simp only [mVar]
    rw [List.getElem?_set_self (by rw [List.length_set]; exact hj)]
theorem are_parts_of (P : ProgOk kinds plan es) (hk : S[ki]? = some (.lst (kinds.map kindW))) (hb : Bds S bi rws plan) (ht : S[ti]? = some (.dct true (es.map fun x => (keyW x.1, natW x.2)))) (hes : es.length < 1000) :
    ∃ S', F_are_parts [.ref ki, .ref bi, .ref ti] S = some (.bl true, S') ∧ Gr S S' := by
  let e0 : Env := [some (.ref ki), some (.ref bi), some (.ref ti), none, none, none, none, none, none]
  have k6 := P.k6
  have pl : (plan.zip rws).length = plan.length := by rw [List.length_zip, hb.len, Nat.min_self]
  -- the kinds
  have a0 : mCallN 1 F_is_list (aCons (mVar 0) aNil) e0 S = some (.bl true, S) := call1_of rfl (is_list_of (by simp [fIs2, tyW, hk, isTy]))
  have a1 : op2 fGt (mLen (mVar 0)) (mC (.int 6)) e0 S = some (.bl false, S) := by
    refine op2_of (x := natW kinds.length) (y := .int 6) (S1 := S) ?_ rfl ?_
    · rw [len_ref (ws := kinds.map kindW) (S1 := S) rfl hk, List.length_map]
    · simp [fGt, onI, natW]
      omega
  have a2 : mAll (aComp (iSeq (mVar 0)) (gName 3) tYes (mCallN 1 F_is_kind (aCons (mVar 3) aNil)) [3]) e0 S = some (.bl true, S) := by
    refine mAll_seq (x := .ref ki) (ws := kinds.map kindW) (S1 := S) rfl (seq_ref hk) rfl (by simp; omega) fun w hw => ?_
    obtain ⟨k, hk', rfl⟩ := List.mem_map.mp hw
    obtain ⟨g1, g2, g3, g4, g5, g6⟩ := P.kn k hk'
    exact call1_of rfl (is_kind_of g1 g2 g3 g4 g5 g6)
  have z1 : sIf (tOr (tNot (tVal (mCallN 1 F_is_list (aCons (mVar 0) aNil)))) (tOr (tVal (op2 fGt (mLen (mVar 0)) (mC (.int 6)))) (tNot (tVal (mAll (aComp (iSeq (mVar 0)) (gName 3) tYes (mCallN 1 F_is_kind (aCons (mVar 3) aNil)) [3])))))) (sRet (mC (.bl false))) sNil e0 S = some (.nx e0, S) := by
    refine if_nil_of ?_
    simp only [tOr, tNot, tval_of a0, tval_of a1, tval_of a2, Bool.not_true]
  -- unlike
  let N1 : List W := (kinds.map (·.1)).map .str
  let S1 : Store := S ++ [.lst N1]
  have x1 : Gr S S1 := Gr.one _
  have n1 : S1[S.length]? = some (.lst N1) := List.getElem?_concat_length
  have a3 : mNew (aComp (iSeq (mVar 0)) (gName 4) tYes (op2 fIx (mVar 4) (mC (.int 0))) [4]) e0 S = some (.ref S.length, S1) := by
    have := comp_names (e := e0) (j := 4) (mv := mVar 0) (by simp [e0]) hk rfl k6
    simp only [mNew, this]
    rw [if_pos (by simp; omega)]
  have a4 : mCallN 1 F_are_unlike (aCons (mNew (aComp (iSeq (mVar 0)) (gName 4) tYes (op2 fIx (mVar 4) (mC (.int 0))) [4])) aNil) e0 S = some (.bl true, S1) := by
    have := are_unlike_of (S := S1) P.ku (by simp; omega) n1
    simp only [mCallN, aCons, a3, aNil]
    simpa using this
  have z2 : sIf (tNot (tVal (mCallN 1 F_are_unlike (aCons (mNew (aComp (iSeq (mVar 0)) (gName 4) tYes (op2 fIx (mVar 4) (mC (.int 0))) [4])) aNil)))) (sRet (mC (.bl false))) sNil e0 S = some (.nx e0, S1) := by
    simp only [sIf, tNot, tval_of a4, sNil]
    rfl
  -- the bodies
  have hb1 := hb.gr x1
  have b0 : mCallN 1 F_is_list (aCons (mVar 1) aNil) e0 S1 = some (.bl true, S1) := call1_of rfl (is_list_of (by simp [fIs2, tyW, hb1.ob, isTy]))
  have blen : mLen (mVar 1) e0 S1 = some (natW plan.length, S1) := by rw [len_ref (S1 := S1) rfl hb1.ob, List.length_map, pl]
  have b1 : mChain fLe fLe (mC (.int 1)) (mLen (mVar 1)) (mC (.int 12)) e0 S1 = some (.bl true, S1) := by
    rw [mChain_of (a := 1) (b := plan.length) (c := 12) rfl blen rfl]
    have := P.b1
    simp
    omega
  have b2 : mAll (aComp (iSeq (mVar 1)) (gName 3) tYes (mCallN 1 F_is_body (aCons (mVar 3) aNil)) [3]) e0 S1 = some (.bl true, S1) := by
    refine mAll_seq (x := .ref bi) (S1 := S1) rfl (seq_ref hb1.ob) rfl (by have := P.b1; rw [List.length_map, pl]; omega) fun w hw => ?_
    obtain ⟨⟨bd, rw⟩, hp, rfl⟩ := List.mem_map.mp hw
    obtain ⟨i, hi⟩ := List.getElem?_of_mem hp
    obtain ⟨g1, g2⟩ := List.getElem?_zip_eq_some.mp hi
    obtain ⟨q1, q2, q3, q4, _⟩ := P.bo bd (List.mem_of_getElem? g1)
    exact call1_of rfl (is_body_of (hb1.rat i bd rw g1 g2) q1 q2 q3 q4)
  have z3 : sIf (tOr (tNot (tVal (mCallN 1 F_is_list (aCons (mVar 1) aNil)))) (tOr (tNot (tVal (mChain fLe fLe (mC (.int 1)) (mLen (mVar 1)) (mC (.int 12))))) (tNot (tVal (mAll (aComp (iSeq (mVar 1)) (gName 3) tYes (mCallN 1 F_is_body (aCons (mVar 3) aNil)) [3])))))) (sRet (mC (.bl false))) sNil e0 S1 = some (.nx e0, S1) := by
    refine if_nil_of ?_
    simp only [tOr, tNot, tval_of b0, tval_of b1, tval_of b2, Bool.not_true]
  -- the names
  let N2 : List W := (kinds.map (·.1) ++ plainNames).map .str
  let S2 : Store := S1 ++ [.lst N2]
  have n2 : S2[S1.length]? = some (.lst N2) := List.getElem?_concat_length
  have x2 : Gr S1 S2 := Gr.one _
  let e1 : Env := [some (.ref ki), some (.ref bi), some (.ref ti), none, none, some (.ref S1.length), some (natW plan.length), none, none]
  have hN2 : (kinds.map (·.1)).map W.str ++ [.str "number", .str "nothing"] = N2 := by
    show _ = ((kinds.map (·.1) ++ plainNames).map W.str)
    rw [List.map_append]
    rfl
  have c0 : mNew (aCat (aComp (iSeq (mVar 0)) (gName 4) tYes (op2 fIx (mVar 4) (mC (.int 0))) [4]) (aSeq (mC (.wt [.str "number", .str "nothing"])))) e0 S1 = some (.ref S1.length, S2) := by
    have := comp_names (e := e0) (j := 4) (mv := mVar 0) (S := S1) (by simp [e0]) (x1.at hk) rfl k6
    have q : aSeq (mC (.wt [.str "number", .str "nothing"])) e0 S1 = some ([.str "number", .str "nothing"], S1) := rfl
    have ql : ((kinds.map (·.1)).map W.str).length + [W.str "number", .str "nothing"].length ≤ 100000 := by simp; omega
    have ql2 : N2.length ≤ 100000 := by rw [← hN2, List.length_append]; exact ql
    simp only [mNew, aCat, this, q, if_pos ql, hN2, if_pos ql2]
    rfl
  have blen2 : mLen (mVar 1) e0 S2 = some (natW plan.length, S2) := by rw [len_ref (S1 := S2) rfl (x2.at hb1.ob), List.length_map, pl]
  have z4 : sAsg (mTup (aCons (mNew (aCat (aComp (iSeq (mVar 0)) (gName 4) tYes (op2 fIx (mVar 4) (mC (.int 0))) [4]) (aSeq (mC (.wt [.str "number", .str "nothing"]))))) (aCons (mLen (mVar 1)) aNil))) (gTupN 2 (gCons (gName 5) (gCons (gName 6) gNil))) e0 S1 = some (.nx e1, S2) := by
    refine asg_of (w := .tup [.ref S1.length, natW plan.length]) (S1 := S2) ?_ rfl
    have := aCons_of c0 (aCons_of blen2 (aNil_of (e := e0)))
    simp only [mTup, this]
    rw [if_pos (by simp)]
  have ht2 : S2[ti]? = some (.dct true (es.map fun x => (keyW x.1, natW x.2))) := x2.at (x1.at ht)
  have z5 : sIf (tNot (tVal (op1 (fIs "dict") (mVar 2)))) (sRet (mC (.bl false))) sNil e1 S2 = some (.nx e1, S2) := by
    refine if_nil_of ?_
    simp [tNot, tVal, op1, mVar, e1, fIs, tyW, ht2, isTy]
  -- the table
  have nt : ti ≠ S1.length := fun z => by
    rw [z, n2] at ht2
    cases ht2
  have z6 : mAll (aItemsV 2 (gTupN 2 (gCons (gName 7) (gCons (gName 8) gNil))) tYes (mCallK 2 2 F_is_entry (aCons (mVar 7) (aCons (mVar 8) aNil)) (aCons (mVar 5) (aCons (mVar 6) aNil))) [7, 8]) e1 S2 = some (.bl true, S2) := by
    have hG : (S2.set ti .gone)[S1.length]? = some (.lst N2) := by rw [List.getElem?_set_ne nt]; exact n2
    have ha : es.all (fun _ => true) = true := by simp
    rw [← ha]
    refine mAll_of (p := fun _ => true) (l := es) ?_
    have hc : compN (sFix ((es.map fun x => (keyW x.1, natW x.2)).map fun kv => .tup [kv.1, kv.2])) (gTupN 2 (gCons (gName 7) (gCons (gName 8) gNil))) tYes (mCallK 2 2 F_is_entry (aCons (mVar 7) (aCons (mVar 8) aNil)) (aCons (mVar 5) (aCons (mVar 6) aNil))) [7, 8] turns 0 [] e1 (S2.set ti .gone) = some (es.map (fun _ => .bl true), S2.set ti .gone) := by
      refine compN_pure ((es.map fun x => (keyW x.1, natW x.2)).map fun kv => .tup [kv.1, kv.2]) _ (fun i _ => rfl) (by simp) (by simp; omega) fun i w h => ?_
      rw [List.map_map, List.getElem?_map] at h
      cases hx : es[i]? with
      | none => rw [hx] at h; cases h
      | some x =>
        rw [hx] at h
        cases h
        obtain ⟨g1, g2, g3⟩ := P.en x (List.mem_of_getElem? hx)
        refine ⟨[some (.ref ki), some (.ref bi), some (.ref ti), none, none, some (.ref S1.length), some (natW plan.length), some (keyW x.1), some (natW x.2)], .bl true, rfl, rfl, ?_, by rw [List.getElem?_map, hx]; rfl⟩
        have := is_entry_of (S := S2.set ti .gone) (k := x.1) (b := x.2) (many := plan.length) (names := kinds.map (·.1) ++ plainNames) hG g1 g2 g3
        simp only [mCallK, aCons, mVar, List.getElem?_cons_succ, List.getElem?_cons_zero, aNil]
        simpa using this
    have hback : (S2.set ti .gone)[ti]? = some .gone := List.getElem?_set_self (List.getElem?_eq_some_iff.mp ht2).1
    have hsame : (S2.set ti .gone).set ti (.dct true (es.map fun x => (keyW x.1, natW x.2))) = S2 := by
      rw [List.set_set]
      obtain ⟨hlt, hz⟩ := List.getElem?_eq_some_iff.mp ht2
      rw [← hz]
      exact List.set_getElem_self hlt
    have he : e1[2]? = some (some (.ref ti)) := rfl
    simp only [aItemsV, he, ht2, hc, hback, hsame]
  refine ⟨S2, ?_, x1.trans x2⟩
  rw [F_are_parts, fnOf_eq]
  show fin (b_are_parts e0 S) = _
  unfold b_are_parts
  rw [seq_of z1, seq_of z2, seq_of z3, seq_of z4, seq_of z5, ret_of z6]
  rfl
end
end
end Gm

set_option linter.all false
namespace Gm
open PySem (Str)
section
variable {A A1 A2 : Ma} {S S0 S1 S2 S3 S' : Store} {e : Env} {kinds : List (Str × List Str)} {plan : List Bd} {es : List ((Str × Str) × Nat)} {ki bi ti : Nat} {rws : List W}
theorem sFld_at {cs : List Str} {a : Nat} {c f : Str} {fs : List (Str × W)} {v : W} {mo m : ME} (h1 : m e S = some (v, S1)) (h2 : mo e S1 = some (.ref a, S1)) (ho : S1[a]? = some (.ins c fs)) (hc : c ∈ cs) (hl : fs.length < 1000) :
    sFld cs mo f m e S = some (.nx e, S1.set a (.ins c (putF f v fs))) := by
  simp only [sFld, h1, h2, ho, hc, hl, and_self, if_true]
theorem Limits_init_of {l nm many wide long : Nat} (hl : S[l]? = some (.ins "Limits" [])) : F_Limits_init [.ref l, .ref nm, natW many, natW wide, natW long] S = some (.non, S.set l (.ins "Limits" (limFs nm many wide long))) := by
  have hlt : l < S.length := (List.getElem?_eq_some_iff.mp hl).1
  have g : ∀ o, (S.set l o)[l]? = some o := fun o => List.getElem?_set_self hlt
  let e0 : Env := [some (.ref l), some (.ref nm), some (natW many), some (natW wide), some (natW long)]
  have z1 : sFld cs_names (mVar 0) "names" (mVar 1) e0 S = some (.nx e0, S.set l (.ins "Limits" [("names", .ref nm)])) := sFld_at (v := .ref nm) rfl rfl hl (by decide) (by simp)
  have z2 : sFld cs_many (mVar 0) "many" (mVar 2) e0 (S.set l (.ins "Limits" [("names", .ref nm)])) = some (.nx e0, S.set l (.ins "Limits" [("names", .ref nm), ("many", natW many)])) := by
    rw [sFld_at (v := natW many) rfl rfl (g _) (by decide) (by simp), List.set_set]
    rfl
  have z3 : sFld cs_wide (mVar 0) "wide" (mVar 3) e0 (S.set l (.ins "Limits" [("names", .ref nm), ("many", natW many)])) = some (.nx e0, S.set l (.ins "Limits" [("names", .ref nm), ("many", natW many), ("wide", natW wide)])) := by
    rw [sFld_at (v := natW wide) rfl rfl (g _) (by decide) (by simp), List.set_set]
    rfl
  have z4 : sFld cs_long (mVar 0) "long" (mVar 4) e0 (S.set l (.ins "Limits" [("names", .ref nm), ("many", natW many), ("wide", natW wide)])) = some (.nx e0, S.set l (.ins "Limits" (limFs nm many wide long))) := by
    rw [sFld_at (v := natW long) rfl rfl (g _) (by decide) (by simp), List.set_set]
    rfl
  rw [F_Limits_init, fnOf_eq]
  show fin (b_Limits_init e0 S) = _
  unfold b_Limits_init
  rw [seq_of z1, seq_of z2, seq_of z3, z4]
  rfl
theorem limits_of_of (P : ProgOk kinds plan es) (hk : S[ki]? = some (.lst (kinds.map kindW))) (hb : Bds S bi rws plan) {i : Nat} {bd : Bd} {w : W} (hi : plan[i]? = some bd) (hw : rws[i]? = some w) :
    ∃ l nm S', F_limits_of [.ref ki, .ref bi, natW i] S = some (.ref l, S') ∧ Gr S S' ∧ Lm S' l nm (kinds.map (·.1) ++ plainNames) plan.length bd.boxes bd.rows.length := by
  have k6 := P.k6
  have pl : (plan.zip rws).length = plan.length := by rw [List.length_zip, hb.len, Nat.min_self]
  let e0 : Env := [some (.ref ki), some (.ref bi), some (natW i), none, none, none, none, none]
  let e1 : Env := [some (.ref ki), some (.ref bi), some (natW i), some (natW bd.takes), some (natW bd.boxes), some w, none, none]
  have hz : ((plan.zip rws).map fun p => W.tup [natW p.1.takes, natW p.1.boxes, p.2])[i]? = some (.tup [natW bd.takes, natW bd.boxes, w]) := by
    rw [List.getElem?_map, List.getElem?_zip_eq_some (z := (bd, w)) |>.mpr ⟨hi, hw⟩]
    rfl
  have z1 : sAsg (op2 fIx (mVar 1) (mVar 2)) (gTupN 3 (gCons (gName 3) (gCons (gName 4) (gCons (gName 5) gNil)))) e0 S = some (.nx e1, S) :=
    asg_of (w := .tup [natW bd.takes, natW bd.boxes, w]) (S1 := S) (op2_of (x := .ref bi) (y := natW i) rfl rfl (fIx_nat (seq_ref hb.ob) hz)) rfl
  let N : List W := (kinds.map (·.1) ++ plainNames).map .str
  have hN : (kinds.map (·.1)).map W.str ++ [.str "number", .str "nothing"] = N := by
    show _ = ((kinds.map (·.1) ++ plainNames).map W.str)
    rw [List.map_append]
    rfl
  let S1 : Store := S ++ [.lst N]
  have x1 : Gr S S1 := Gr.one _
  let e2 : Env := [some (.ref ki), some (.ref bi), some (natW i), some (natW bd.takes), some (natW bd.boxes), some w, some (.ref S.length), none]
  have c0 : mNew (aCat (aComp (iSeq (mVar 0)) (gName 7) tYes (op2 fIx (mVar 7) (mC (.int 0))) [7]) (aSeq (mC (.wt [.str "number", .str "nothing"])))) e1 S = some (.ref S.length, S1) := by
    have := comp_names (e := e1) (j := 7) (mv := mVar 0) (S := S) (by simp [e1]) hk rfl k6
    have q : aSeq (mC (.wt [.str "number", .str "nothing"])) e1 S = some ([.str "number", .str "nothing"], S) := rfl
    have ql : ((kinds.map (·.1)).map W.str).length + [W.str "number", .str "nothing"].length ≤ 100000 := by simp; omega
    have ql2 : N.length ≤ 100000 := by rw [← hN, List.length_append]; exact ql
    simp only [mNew, aCat, this, q, if_pos ql, hN, if_pos ql2]
    rfl
  have z2 := asg_of (g := gName 6) (e1 := e2) (S2 := S1) c0 rfl
  let S2 : Store := S1 ++ [.ins "Limits" []]
  have x2 : Gr S1 S2 := Gr.one _
  have hl2 : S2[S1.length]? = some (.ins "Limits" []) := List.getElem?_concat_length
  let S3 : Store := S2.set S1.length (.ins "Limits" (limFs S.length plan.length bd.boxes bd.rows.length))
  have hin := Limits_init_of (S := S2) (l := S1.length) (nm := S.length) (many := plan.length) (wide := bd.boxes) (long := bd.rows.length) hl2
  have hlenS1 : S1.length = S.length + 1 := by simp [S1]
  have hlenS2 : S2.length = S.length + 2 := by simp [S2, hlenS1]
  have c1 : mMakeK "Limits" 1 3 F_Limits_init (aCons (mVar 6) aNil) (aCons (mLen (mVar 1)) (aCons (mVar 4) (aCons (mLen (mVar 5)) aNil))) e2 S1 = some (.ref S1.length, S3) := by
    have h1 : aCons (mVar 6) aNil e2 S1 = some ([.ref S.length], S1) := rfl
    have h2 : aCons (mLen (mVar 1)) (aCons (mVar 4) (aCons (mLen (mVar 5)) aNil)) e2 S1 = some ([natW plan.length, natW bd.boxes, natW bd.rows.length], S1) := by
      refine aCons_of (S1 := S1) ?_ (aCons_of (S1 := S1) rfl (aCons_of (S1 := S1) ?_ aNil_of))
      · rw [len_ref (S1 := S1) rfl (x1.at hb.ob), List.length_map, pl]
      · exact ((hb.rat i bd w hi hw).gr x1).len rfl
    have hin' : F_Limits_init (.ref S1.length :: ([.ref S.length] ++ [natW plan.length, natW bd.boxes, natW bd.rows.length])) (S1 ++ [.ins "Limits" []]) = some (.non, S3) := hin
    simp only [mMakeK, h1, h2, List.length_cons, List.length_nil, Nat.zero_add, Nat.reduceAdd, and_self, if_true, hin']
  have x3 : Gr S S3 := by
    have x := x1.trans x2
    refine ⟨by simp only [S3, List.length_set]; exact x.len, fun j hj => ?_⟩
    simp only [S3]
    rw [List.getElem?_set_ne (by omega)]
    exact x.keep j hj
  refine ⟨S1.length, S.length, S3, ?_, x3, ⟨List.getElem?_set_self (by omega), ?_⟩⟩
  · rw [F_limits_of, fnOf_eq]
    show fin (b_limits_of e0 S) = _
    unfold b_limits_of
    rw [seq_of z1, seq_of z2, ret_of c1]
    rfl
  · simp only [S3]
    rw [List.getElem?_set_ne (by omega)]
    exact x2.at (List.getElem?_concat_length)
/-! ### the sorted entries: at most one -/
theorem dcN_one {sx : W} {a : Nat} (hS : S[a]? = some (.dct true (es.map fun x => (keyW x.1, natW x.2)))) (h1 : es.length ≤ 1) {j : Nat} {mo : ME} {e : Env} (hj : j < e.length) (hmo : ∀ w, mo ((e.set j none).set j (some w)) S = some (.ref a, S)) :
    dcN true (sFix ((es.map fun x => (keyW x.1, natW x.2)).map (·.1))) (gName j) tYes (mVar j) (op2 fGetD mo (mVar j)) [j] turns 0 [] e S = some (es.map (fun x => (keyW x.1, natW x.2)), S) := by
  cases es with
  | nil => rfl
  | cons x es =>
    cases es with
    | cons y es => simp at h1
    | nil =>
      have hv : mVar j ((e.set j none).set j (some (keyW x.1))) S = some (keyW x.1, S) := by
        simp only [mVar]
        rw [List.getElem?_set_self (by rw [List.length_set]; exact hj)]
      have hg : fGetD (.ref a) (keyW x.1) S = some (natW x.2) := by
        simp only [fGetD, hS, kOk, kTup_key, Option.isSome_some, if_true]
        rw [dVal_key]
        simp [getE]
      have ho : op2 fGetD mo (mVar j) ((e.set j none).set j (some (keyW x.1))) S = some (natW x.2, S) := op2_of (hmo _) hv hg
      have hp : dPut true [] (keyW x.1) (natW x.2) = [(keyW x.1, natW x.2)] := rfl
      obtain ⟨k, t⟩ : ∃ k, turns = k + 1 + 1 := ⟨999998, rfl⟩
      rw [t]
      simp only [List.map_cons, List.map_nil, dcN, sFix, List.getElem?_cons_zero, gName, wipe, tYes, hv, ho, List.length_nil, kOk, kTup_key, Option.isSome_some, and_true]
      rw [if_pos (by omega), hp]
      simp only [List.getElem?_cons_succ, List.getElem?_nil]
/-- a program's object -/
def progFs (kinds : List (Str × List Str)) (plan : List Bd) (d : Nat) : List (Str × W) := [("all_kinds", .tup (kinds.map kindW)), ("all_bodies", .tup (plan.map bdW)), ("entries", .ref d)]
structure Pr (S : Store) (p d : Nat) (kinds : List (Str × List Str)) (plan : List Bd) (es : List ((Str × Str) × Nat)) : Prop where
  ob : S[p]? = some (.ins "Program" (progFs kinds plan d))
  ds : S[d]? = some (.dct true (es.map fun x => (keyW x.1, natW x.2)))
/-- the names of Program's making -/
abbrev piE (p ki bi ti : Nat) (a4 a5 a6 a7 a8 a9 a10 : Option W) : Env := [some (.ref p), some (.ref ki), some (.ref bi), some (.ref ti), a4, a5, a6, a7, a8, a9, a10, none, none, none]
theorem rows_loop {p l nm : Nat} {names : List Str} {many wide : Nat} {rows : List Row} {w : W} {a4 a5 a6 a9 a10 : Option W} (M : Lm S l nm names many wide rows.length) (hn : ∀ x ∈ names, strOk x = true) (hr : RowsAt S w rows) (hl : ∀ r ∈ rows, r.legal names many wide rows.length) (h30 : rows.length ≤ 30) :
    ∃ a9' a10' S', sFor (iEnumX (mVar 7)) (gTupN 2 (gCons (gName 9) (gCons (gName 10) gNil))) (sIf (tNot (tVal (mMethN "Limits" "lets" 2 F_Limits_lets (mVar 8) (aCons (mVar 10) aNil)))) sNever sNil) (piE p ki bi ti a4 a5 a6 (some w) (some (.ref l)) a9 a10) S
      = some (.nx (piE p ki bi ti a4 a5 a6 (some w) (some (.ref l)) a9' a10'), S') ∧ Gr S S' := by
  let I : Nat → Env → Store → Prop := fun _ e S' => (∃ a9 a10, e = piE p ki bi ti a4 a5 a6 (some w) (some (.ref l)) a9 a10) ∧ Gr S S'
  let ws : List W := (List.range rows.length).map fun i => .tup [natW i, rowW (rows.getD i default)]
  have hws : ∀ i, i ≤ rows.length → ws[i]? = ((rows.map rowW)[i]?).map fun r => .tup [natW i, r] := by
    intro i hi
    simp only [ws, List.getElem?_map]
    by_cases h : i < rows.length
    · rw [List.getElem?_range h, List.getElem?_eq_getElem h]
      simp [List.getD_eq_getElem?_getD, h]
    · rw [List.getElem?_eq_none (by simpa using h), List.getElem?_eq_none (by omega)]
      rfl
  have hwl : ws.length = rows.length := by simp [ws]
  -- the source
  obtain ⟨s, hs, hsrc⟩ : ∃ s, (iEnumX (mVar 7) (piE p ki bi ti a4 a5 a6 (some w) (some (.ref l)) a9 a10) S = some (s, S)) ∧ ∀ S', Gr S S' → ∀ i, i ≤ rows.length → s i S' = some ws[i]? := by
    rcases hr with rfl | ⟨r, rfl, h2⟩
    · refine ⟨sEnumT (rows.map rowW), rfl, fun S' _ i hi => ?_⟩
      simp only [sEnumT]
      rw [if_pos (by simpa using hi), hws i hi]
      rfl
    · refine ⟨sEnum (sSeq (.ref r)), by simp [iEnumX, mVar, h2], fun S' x i hi => ?_⟩
      simp only [sEnum, sSeq, seq_ref (x.at h2), Option.map_some]
      rw [hws i hi]
      rfl
  obtain ⟨e', S', h1, ⟨a9', a10', rfl⟩, h3⟩ := forN_inv (s := s) (g := gTupN 2 (gCons (gName 9) (gCons (gName 10) gNil))) (body := sIf (tNot (tVal (mMethN "Limits" "lets" 2 F_Limits_lets (mVar 8) (aCons (mVar 10) aNil)))) sNever sNil) ws I
    (fun i e S1 hI hi => hsrc S1 hI.2 i (by omega))
    (fun i wi e S1 hI hi => by
      obtain ⟨⟨a9, a10, rfl⟩, x⟩ := hI
      have hil : i < rows.length := by rw [← hwl]; exact (List.getElem?_eq_some_iff.mp hi).1
      rw [hws i (by omega), List.getElem?_map, List.getElem?_eq_getElem hil] at hi
      cases hi
      have M1 : Lm S1 l nm names many wide rows.length := ⟨x.at M.ob, x.at M.ns⟩
      obtain ⟨S2, y, o, rfl⟩ := lets_row M1 hn (hl _ (List.getElem_mem hil))
      refine ⟨piE p ki bi ti a4 a5 a6 (some w) (some (.ref l)) (some (natW i)) (some (rowW rows[i])), S1, piE p ki bi ti a4 a5 a6 (some w) (some (.ref l)) (some (natW i)) (some (rowW rows[i])), S1 ++ [o], rfl, ?_, ⟨_, _, rfl⟩, x.trans (Gr.one o)⟩
      have hm : mMethN "Limits" "lets" 2 F_Limits_lets (mVar 8) (aCons (mVar 10) aNil) (piE p ki bi ti a4 a5 a6 (some w) (some (.ref l)) (some (natW i)) (some (rowW rows[i]))) S1 = some (.bl true, S1 ++ [o]) :=
        (meth_of (ws := [rowW rows[i]]) (S2 := S1) (a := l) rfl M1.ob rfl rfl rfl).trans y
      simp only [sIf, tNot, tval_of hm, sNil]
      rfl)
    turns 0 (piE p ki bi ti a4 a5 a6 (some w) (some (.ref l)) a9 a10) S ⟨⟨_, _, rfl⟩, Gr.refl⟩ (Nat.zero_le _) (by rw [hwl]; unfold turns; omega)
  refine ⟨a9', a10', S', ?_, h3⟩
  simp only [sFor, hs]
  exact h1
end
end Gm

set_option linter.all false
namespace Gm
open PySem (Str)
section
variable {A A1 A2 : Ma} {S S0 S1 S2 S3 S' : Store} {e : Env} {kinds : List (Str × List Str)} {plan : List Bd} {es : List ((Str × Str) × Nat)} {ki bi ti : Nat} {rws : List W}
theorem names_ok (P : ProgOk kinds plan es) : ∀ x ∈ kinds.map (·.1) ++ plainNames, strOk x = true := by
  intro x hx
  rcases List.mem_append.mp hx with h | h
  · obtain ⟨k, hk, rfl⟩ := List.mem_map.mp h
    exact nameB_ok (P.kn k hk).1
  · simp [plainNames] at h
    rcases h with rfl | rfl <;> decide +kernel
/-- what a program's making leaves: the store grew, but for its object -/
structure GrP (p : Nat) (S S' : Store) : Prop where
  len : S.length ≤ S'.length
  keep : ∀ i, i < S.length → i ≠ p → S'[i]? = S[i]?
abbrev bodyLoop : MS := (sSeq2 (sAsg (mCallN 3 F_limits_of (aCons (mVar 1) (aCons (mVar 2) (aCons (mVar 4) aNil)))) (gName 8))
    (sFor (iEnumX (mVar 7)) (gTupN 2 (gCons (gName 9) (gCons (gName 10) gNil))) (sIf (tNot (tVal (mMethN "Limits" "lets" 2 F_Limits_lets (mVar 8) (aCons (mVar 10) aNil)))) sNever sNil)))
theorem bodies_loop {p : Nat} {a4 a5 a6 a7 a8 a9 a10 : Option W} (P : ProgOk kinds plan es) (hk : S[ki]? = some (.lst (kinds.map kindW))) (hb : Bds S bi rws plan) :
    ∃ a4 a5 a6 a7 a8 a9' a10' S', sFor (iEnumX (mVar 2)) (gTupN 2 (gCons (gName 4) (gCons (gTupN 3 (gCons (gName 5) (gCons (gName 6) (gCons (gName 7) gNil)))) gNil))) bodyLoop (piE p ki bi ti none none none none none none none) S
      = some (.nx (piE p ki bi ti a4 a5 a6 a7 a8 a9' a10'), S') ∧ Gr S S' := by
  let I : Nat → Env → Store → Prop := fun _ e S' => (∃ a4 a5 a6 a7 a8 a9 a10, e = piE p ki bi ti a4 a5 a6 a7 a8 a9 a10) ∧ Gr S S'
  let bws : List W := (plan.zip rws).map fun p => .tup [natW p.1.takes, natW p.1.boxes, p.2]
  have hbl : bws.length = plan.length := by simp only [bws, List.length_map, List.length_zip, hb.len, Nat.min_self]
  let ws : List W := (List.range plan.length).map fun i => .tup [natW i, bws.getD i .non]
  have hwl : ws.length = plan.length := by simp [ws]
  have hws : ∀ i, i ≤ plan.length → ws[i]? = (bws[i]?).map fun r => .tup [natW i, r] := by
    intro i hi
    simp only [ws, List.getElem?_map]
    by_cases h : i < plan.length
    · have hib : i < bws.length := by omega
      rw [List.getElem?_range h]
      simp [List.getD_eq_getElem?_getD, List.getElem?_eq_getElem hib]
    · rw [List.getElem?_eq_none (by simpa using h), List.getElem?_eq_none (by omega)]
      rfl
  have hs : iEnumX (mVar 2) (piE p ki bi ti none none none none none none none) S = some (sEnum (sSeq (.ref bi)), S) := by simp [iEnumX, mVar, hb.ob]
  have hsrc : ∀ S', Gr S S' → ∀ i, i ≤ plan.length → sEnum (sSeq (.ref bi)) i S' = some ws[i]? := fun S' x i hi => by
    simp only [sEnum, sSeq, seq_ref (x.at hb.ob), Option.map_some]
    rw [hws i hi]
    rfl
  obtain ⟨e', S', h1, ⟨b4, b5, b6, b7, b8, b9, b10, rfl⟩, h3⟩ := forN_inv (s := sEnum (sSeq (.ref bi))) (g := gTupN 2 (gCons (gName 4) (gCons (gTupN 3 (gCons (gName 5) (gCons (gName 6) (gCons (gName 7) gNil)))) gNil))) (body := bodyLoop) ws I
    (fun i e S1 hI hi => hsrc S1 hI.2 i (by omega))
    (fun i wi e S1 hI hi => by
      obtain ⟨⟨a4, a5, a6, a7, a8, a9, a10, rfl⟩, x⟩ := hI
      have hil : i < plan.length := by rw [← hwl]; exact (List.getElem?_eq_some_iff.mp hi).1
      obtain ⟨bd, hbd⟩ : ∃ bd, plan[i]? = some bd := ⟨_, List.getElem?_eq_getElem hil⟩
      obtain ⟨rw, hrw⟩ : ∃ rw, rws[i]? = some rw := ⟨_, List.getElem?_eq_getElem (by rw [hb.len]; exact hil)⟩
      have hbw : bws[i]? = some (.tup [natW bd.takes, natW bd.boxes, rw]) := by
        simp only [bws]
        rw [List.getElem?_map, List.getElem?_zip_eq_some (z := (bd, rw)) |>.mpr ⟨hbd, hrw⟩]
        rfl
      rw [hws i (by omega), hbw] at hi
      cases hi
      have hb1 := hb.gr x
      obtain ⟨l, nm, S2, y, x2, M⟩ := limits_of_of P (x.at hk) hb1 hbd hrw
      obtain ⟨q1, q2, q3, q4, q5⟩ := P.bo bd (List.mem_of_getElem? hbd)
      obtain ⟨c9, c10, S3, y3, x3⟩ := rows_loop (p := p) (ki := ki) (bi := bi) (ti := ti) (a4 := some (natW i)) (a5 := some (natW bd.takes)) (a6 := some (natW bd.boxes)) (a9 := a9) (a10 := a10) M (names_ok P) ((hb1.rat i bd rw hbd hrw).gr x2) q5 q4
      refine ⟨piE p ki bi ti (some (natW i)) (some (natW bd.takes)) (some (natW bd.boxes)) (some rw) a8 a9 a10, S1, piE p ki bi ti (some (natW i)) (some (natW bd.takes)) (some (natW bd.boxes)) (some rw) (some (.ref l)) c9 c10, S3, rfl, ?_, ⟨_, _, _, _, _, _, _, rfl⟩, x.trans (x2.trans x3)⟩
      have z1 : sAsg (mCallN 3 F_limits_of (aCons (mVar 1) (aCons (mVar 2) (aCons (mVar 4) aNil)))) (gName 8) (piE p ki bi ti (some (natW i)) (some (natW bd.takes)) (some (natW bd.boxes)) (some rw) a8 a9 a10) S1 = some (.nx (piE p ki bi ti (some (natW i)) (some (natW bd.takes)) (some (natW bd.boxes)) (some rw) (some (.ref l)) a9 a10), S2) := by
        refine asg_of (w := .ref l) (S1 := S2) ?_ rfl
        simp only [mCallN, aCons, mVar, List.getElem?_cons_succ, List.getElem?_cons_zero, aNil, List.length_cons, List.length_nil, Nat.zero_add, Nat.reduceAdd, if_true, y]
      show sSeq2 _ _ _ _ = _
      rw [seq_of z1]
      exact y3)
    turns 0 (piE p ki bi ti none none none none none none none) S ⟨⟨_, _, _, _, _, _, _, rfl⟩, Gr.refl⟩ (Nat.zero_le _) (by rw [hwl]; have := P.b1; unfold turns; omega)
  refine ⟨b4, b5, b6, b7, b8, b9, b10, S', ?_, h3⟩
  simp only [sFor, hs]
  exact h1
theorem Program_init_of {p : Nat} (P : ProgOk kinds plan es) (hp : S[p]? = some (.ins "Program" [])) (hk : S[ki]? = some (.lst (kinds.map kindW))) (hb : Bds S bi rws plan) (ht : S[ti]? = some (.dct true (es.map fun x => (keyW x.1, natW x.2)))) (hes : es.length ≤ 1) :
    ∃ d S', F_Program_init [.ref p, .ref ki, .ref bi, .ref ti] S = some (.non, S') ∧ GrP p S S' ∧ Pr S' p d kinds plan es ∧ S.length ≤ d ∧ p ≠ d := by
  let e0 : Env := piE p ki bi ti none none none none none none none
  have k6 := P.k6
  obtain ⟨S1, y1, x1⟩ := are_parts_of P hk hb ht (by omega)
  have z1 : sIf (tNot (tVal (mCallN 3 F_are_parts (aCons (mVar 1) (aCons (mVar 2) (aCons (mVar 3) aNil)))))) sNever sNil e0 S = some (.nx e0, S1) := by
    have : mCallN 3 F_are_parts (aCons (mVar 1) (aCons (mVar 2) (aCons (mVar 3) aNil))) e0 S = some (.bl true, S1) := call3_of rfl rfl rfl y1
    simp only [sIf, tNot, tval_of this, sNil]
    rfl
  obtain ⟨a4, a5, a6, a7, a8, a9, a10, S2, y2, x2⟩ := bodies_loop (p := p) (ti := ti) (a4 := none) (a5 := none) (a6 := none) (a7 := none) (a8 := none) (a9 := none) (a10 := none) P (x1.at hk) (hb.gr x1)
  have x12 := x1.trans x2
  let e2 : Env := piE p ki bi ti a4 a5 a6 a7 a8 a9 a10
  have hplt : p < S2.length := Nat.lt_of_lt_of_le (List.getElem?_eq_some_iff.mp hp).1 x12.len
  have hp2 := x12.at hp
  have hk2 := x12.at hk
  have hb2 := hb.gr x12
  have npk : p ≠ ki := fun z => by rw [z, hk2] at hp2; cases hp2
  have npb : p ≠ bi := fun z => by rw [z, hb2.ob] at hp2; cases hp2
  have npt : p ≠ ti := fun z => by rw [z, x12.at ht] at hp2; cases hp2
  -- all_kinds
  have hcomp1 : mTup (aComp (iSeq (mVar 1)) (gTupN 2 (gCons (gName 11) (gCons (gName 12) gNil))) tYes (mTup (aCons (mVar 11) (aCons (mTupOf (mVar 12)) aNil))) [11, 12]) e2 S2 = some (.tup (kinds.map kindW), S2) := by
    have : aComp (iSeq (mVar 1)) (gTupN 2 (gCons (gName 11) (gCons (gName 12) gNil))) tYes (mTup (aCons (mVar 11) (aCons (mTupOf (mVar 12)) aNil))) [11, 12] e2 S2 = some (kinds.map kindW, S2) := by
      have hi : iSeq (mVar 1) e2 S2 = some (sSeq (.ref ki), S2) := by simp [iSeq, mVar, e2, seq_ref hk2, walkable]
      simp only [aComp, hi]
      refine compN_pure (kinds.map kindW) _ (fun i _ => by simp only [sSeq, seq_ref hk2, Option.map_some]) rfl (by simp; omega) fun i w hw => ?_
      have hw0 := hw
      rw [List.getElem?_map] at hw
      cases hc : kinds[i]? with
      | none => rw [hc] at hw; cases hw
      | some k =>
        rw [hc] at hw
        cases hw
        exact ⟨[some (.ref p), some (.ref ki), some (.ref bi), some (.ref ti), a4, a5, a6, a7, a8, a9, a10, some (.str k.1), some (.tup (k.2.map .str)), none], kindW k, rfl, rfl, rfl, hw0⟩
    simp only [mTup, this]
    rw [if_pos (by simp; omega)]
  let S3 : Store := S2.set p (.ins "Program" [("all_kinds", .tup (kinds.map kindW))])
  have z3 : sFld cs_all_kinds (mVar 0) "all_kinds" (mTup (aComp (iSeq (mVar 1)) (gTupN 2 (gCons (gName 11) (gCons (gName 12) gNil))) tYes (mTup (aCons (mVar 11) (aCons (mTupOf (mVar 12)) aNil))) [11, 12])) e2 S2 = some (.nx e2, S3) :=
    sFld_at hcomp1 rfl hp2 (by decide) (by simp)
  have hp3 : S3[p]? = some (.ins "Program" [("all_kinds", .tup (kinds.map kindW))]) := List.getElem?_set_self hplt
  have hb3 : S3[bi]? = some (.lst ((plan.zip rws).map fun p => .tup [natW p.1.takes, natW p.1.boxes, p.2])) := by
    simp only [S3]
    rw [List.getElem?_set_ne npb]
    exact hb2.ob
  -- all_bodies
  have hcomp2 : mTup (aComp (iSeq (mVar 2)) (gTupN 3 (gCons (gName 5) (gCons (gName 6) (gCons (gName 7) gNil)))) tYes (mTup (aCons (mVar 5) (aCons (mVar 6) (aCons (mTupOf (mVar 7)) aNil)))) [5, 6, 7]) e2 S3 = some (.tup (plan.map bdW), S3) := by
    have : aComp (iSeq (mVar 2)) (gTupN 3 (gCons (gName 5) (gCons (gName 6) (gCons (gName 7) gNil)))) tYes (mTup (aCons (mVar 5) (aCons (mVar 6) (aCons (mTupOf (mVar 7)) aNil)))) [5, 6, 7] e2 S3 = some (plan.map bdW, S3) := by
      have hi : iSeq (mVar 2) e2 S3 = some (sSeq (.ref bi), S3) := by simp [iSeq, mVar, e2, seq_ref hb3, walkable]
      simp only [aComp, hi]
      refine compN_pure ((plan.zip rws).map fun p => .tup [natW p.1.takes, natW p.1.boxes, p.2]) _ (fun i _ => by simp only [sSeq, seq_ref hb3, Option.map_some]) (by simp only [List.length_map, List.length_zip, hb.len, Nat.min_self]) (by simp only [List.length_map, List.length_zip, hb.len, Nat.min_self]; have := P.b1; omega) fun i w hw => ?_
      rw [List.getElem?_map] at hw
      cases hc : (plan.zip rws)[i]? with
      | none => rw [hc] at hw; cases hw
      | some q =>
        obtain ⟨bd, rw⟩ := q
        rw [hc] at hw
        cases hw
        obtain ⟨g1, g2⟩ := List.getElem?_zip_eq_some.mp hc
        have hra := hb2.rat i bd rw g1 g2
        let e3 : Env := [some (.ref p), some (.ref ki), some (.ref bi), some (.ref ti), a4, some (natW bd.takes), some (natW bd.boxes), some rw, a8, a9, a10, none, none, none]
        have ht : mTupOf (mVar 7) e3 S3 = some (.tup (bd.rows.map rowW), S3) := by
          rcases hra with rfl | ⟨r, rfl, h2⟩
          · rfl
          · have npr : p ≠ r := fun z => by rw [z, h2] at hp2; cases hp2
            have : S3[r]? = some (.lst (bd.rows.map rowW)) := by
              simp only [S3]
              rw [List.getElem?_set_ne npr]
              exact h2
            simp [mTupOf, mVar, e3, this]
        refine ⟨e3, bdW bd, rfl, rfl, ?_, by rw [List.getElem?_map, g1]; rfl⟩
        have := aCons_of (m := mVar 5) (x := natW bd.takes) (S := S3) (S1 := S3) (e := e3) rfl (aCons_of (m := mVar 6) (x := natW bd.boxes) (S1 := S3) rfl (aCons_of ht (aNil_of (e := e3))))
        simp only [mTup, this]
        rw [if_pos (by simp)]
        rfl
    simp only [mTup, this]
    rw [if_pos (by simp; have := P.b1; omega)]
  let S4 : Store := S3.set p (.ins "Program" [("all_kinds", .tup (kinds.map kindW)), ("all_bodies", .tup (plan.map bdW))])
  have z4 : sFld cs_all_bodies (mVar 0) "all_bodies" (mTup (aComp (iSeq (mVar 2)) (gTupN 3 (gCons (gName 5) (gCons (gName 6) (gCons (gName 7) gNil)))) tYes (mTup (aCons (mVar 5) (aCons (mVar 6) (aCons (mTupOf (mVar 7)) aNil)))) [5, 6, 7])) e2 S3 = some (.nx e2, S4) :=
    sFld_at hcomp2 rfl hp3 (by decide) (by simp)
  have hl4 : S4.length = S2.length := by simp [S4, S3]
  have ht4 : S4[ti]? = some (.dct true (es.map fun x => (keyW x.1, natW x.2))) := by
    simp only [S4, S3]
    rw [List.getElem?_set_ne npt, List.getElem?_set_ne npt]
    exact x12.at ht
  -- entries
  let S5 : Store := S4 ++ [.dct true (es.map fun x => (keyW x.1, natW x.2))]
  have hsort : aSortD (mVar 3) e2 S4 = some ((es.map fun x => (keyW x.1, natW x.2)).map (·.1), S4) := by
    have : (es.map fun x => (keyW x.1, natW x.2)).length ≤ 1 := by simpa using hes
    have hv : mVar 3 e2 S4 = some (.ref ti, S4) := rfl
    simp only [aSortD, hv, ht4, if_pos this]
  have hd : mDcomp true (iLst (aSortD (mVar 3))) (gName 13) tYes (mVar 13) (op2 fGetD (mVar 3) (mVar 13)) [13] e2 S4 = some (.ref S4.length, S5) := by
    have := dcN_one (sx := .non) (S := S4) (a := ti) (j := 13) (mo := mVar 3) (e := e2) ht4 hes (by simp [e2]) (fun w => rfl)
    simp only [mDcomp, iLst, hsort, this]
    rfl
  have hp5 : S5[p]? = some (.ins "Program" [("all_kinds", .tup (kinds.map kindW)), ("all_bodies", .tup (plan.map bdW))]) := by
    simp only [S5]
    rw [List.getElem?_append_left (by omega)]
    simp only [S4]
    rw [List.getElem?_set_self (by simp [S3]; exact hplt)]
  let S6 : Store := S5.set p (.ins "Program" (progFs kinds plan S4.length))
  have z5 : sFld cs_entries (mVar 0) "entries" (mDcomp true (iLst (aSortD (mVar 3))) (gName 13) tYes (mVar 13) (op2 fGetD (mVar 3) (mVar 13)) [13]) e2 S4 = some (.nx e2, S6) :=
    sFld_at hd rfl hp5 (by decide) (by simp)
  refine ⟨S4.length, S6, ?_, ⟨by simp [S6, S5, hl4]; have := x12.len; omega, fun i hi hn => ?_⟩, ⟨?_, ?_⟩, by rw [hl4]; exact x12.len, by omega⟩
  · rw [F_Program_init, fnOf_eq]
    show fin (b_Program_init e0 S) = _
    unfold b_Program_init
    rw [seq_of z1, seq_of y2, seq_of z3, seq_of z4, z5]
    rfl
  · have hi2 : i < S2.length := Nat.lt_of_lt_of_le hi x12.len
    simp only [S6, S5]
    rw [List.getElem?_set_ne (Ne.symm hn), List.getElem?_append_left (by omega)]
    simp only [S4, S3]
    rw [List.getElem?_set_ne (Ne.symm hn), List.getElem?_set_ne (Ne.symm hn)]
    exact x12.keep i hi
  · simp only [S6]
    rw [List.getElem?_set_self (by simp [S5]; omega)]
  · simp only [S6]
    rw [List.getElem?_set_ne (by omega)]
    simp only [S5]
    rw [List.getElem?_concat_length]
end
end Gm

set_option linter.all false
namespace Gm
open PySem (Str)
section
variable {A A1 A2 : Ma} {S S0 S1 S2 S3 S' : Store} {e : Env} {plan : List Bd} {es : List ((Str × Str) × Nat)}
/-! stores that end in a written list -/
theorem ap_get {L : List Ob} {i : Nat} : (S ++ L)[S.length + i]? = L[i]? := by
  rw [List.getElem?_append_right (Nat.le_add_right _ _), Nat.add_sub_cancel_left]
theorem ap_get0 {L : List Ob} : (S ++ L)[S.length]? = L[0]? := ap_get (i := 0)
theorem ap_set {L : List Ob} {i : Nat} {o : Ob} : (S ++ L).set (S.length + i) o = S ++ L.set i o := by
  rw [List.set_append_right _ _ (Nat.le_add_right _ _), Nat.add_sub_cancel_left]
theorem ap_set0 {L : List Ob} {o : Ob} : (S ++ L).set S.length o = S ++ L.set 0 o := ap_set (i := 0)
theorem ap_len {L : List Ob} : (S ++ L).length = S.length + L.length := List.length_append
theorem ap_add {L : List Ob} {o : Ob} : (S ++ L) ++ [o] = S ++ (L ++ [o]) := List.append_assoc ..
theorem ap_old {L : List Ob} {i : Nat} {o : Ob} (h : S[i]? = some o) : (S ++ L)[i]? = some o := by
  rw [List.getElem?_append_left (List.getElem?_eq_some_iff.mp h).1, h]
theorem prog_kinds {p d : Nat} {kinds : List (Str × List Str)} (hp : Pr S p d kinds plan es) (hk : kinds.length ≤ 1000) : F_Program_kinds [.ref p] S = some (.ref S.length, S ++ [.lst (kinds.map kindW)]) := by
  have h1 : fld cs_all_kinds "all_kinds" (.ref p) S = some (.tup (kinds.map kindW)) := fld_of hp.ob (by decide) rfl
  rw [F_Program_kinds, fnOf_eq]
  show fin (b_Program_kinds [some (.ref p)] S) = _
  have h2 : aSeq (op1 (fld cs_all_kinds "all_kinds") (mVar 0)) [some (.ref p)] S = some (kinds.map kindW, S) := by
    simp [aSeq, op1, mVar, h1, seqOf]
  have h3 : mNew (aSeq (op1 (fld cs_all_kinds "all_kinds") (mVar 0))) [some (.ref p)] S = some (.ref S.length, S ++ [.lst (kinds.map kindW)]) := by
    simp only [mNew, h2]
    rw [if_pos (by simp; omega)]
  unfold b_Program_kinds
  rw [ret_of h3]
  rfl
theorem prog_bodies {p d : Nat} {kinds : List (Str × List Str)} (hp : Pr S p d kinds plan es) (hk : plan.length ≤ 1000) : F_Program_bodies [.ref p] S = some (.ref S.length, S ++ [.lst (plan.map bdW)]) := by
  have h1 : fld cs_all_bodies "all_bodies" (.ref p) S = some (.tup (plan.map bdW)) := fld_of hp.ob (by decide) rfl
  rw [F_Program_bodies, fnOf_eq]
  show fin (b_Program_bodies [some (.ref p)] S) = _
  have h2 : aSeq (op1 (fld cs_all_bodies "all_bodies") (mVar 0)) [some (.ref p)] S = some (plan.map bdW, S) := by
    simp [aSeq, op1, mVar, h1, seqOf]
  have h3 : mNew (aSeq (op1 (fld cs_all_bodies "all_bodies") (mVar 0))) [some (.ref p)] S = some (.ref S.length, S ++ [.lst (plan.map bdW)]) := by
    simp only [mNew, h2]
    rw [if_pos (by simp; omega)]
  unfold b_Program_bodies
  rw [ret_of h3]
  rfl
theorem prog_table {p d : Nat} {kinds : List (Str × List Str)} (hp : Pr S p d kinds plan es) (h1 : es.length ≤ 1) : F_Program_table [.ref p] S = some (.ref S.length, S ++ [.dct true (es.map fun x => (keyW x.1, natW x.2))]) := by
  have g1 : fld cs_entries "entries" (.ref p) S = some (.ref d) := fld_of hp.ob (by decide) rfl
  have h3 : mDictOf (op1 (fld cs_entries "entries") (mVar 0)) [some (.ref p)] S = some (.ref S.length, S ++ [.dct true (es.map fun x => (keyW x.1, natW x.2))]) := by
    have : true = false ∨ (es.map fun x => (keyW x.1, natW x.2)).length ≤ 1 := .inr (by simpa using h1)
    simp only [mDictOf, op1, mVar, List.getElem?_cons_zero, g1, hp.ds, if_pos this]
  rw [F_Program_table, fnOf_eq]
  show fin (b_Program_table [some (.ref p)] S) = _
  unfold b_Program_table
  rw [ret_of h3]
  rfl
theorem Pr.gr {p d : Nat} {kinds : List (Str × List Str)} (h : Pr S p d kinds plan es) (x : Gr S S') : Pr S' p d kinds plan es := ⟨x.at h.ob, x.at h.ds⟩
theorem Gr.app (L : List Ob) : Gr S (S ++ L) := ⟨by simp, fun i h => List.getElem?_append_left h⟩
/-- the objects of a new world, w the first one's place -/
def worldObs (p w : Nat) (kinds : List (Str × List Str)) (plan : List Bd) (es : List ((Str × Str) × Nat)) : List Ob :=
  [.ins "World" [("source", .ref p), ("field_names", .ref (w + 2)), ("plan", .ref (w + 3)), ("entries", .ref (w + 4)), ("heap", .ref (w + 5)), ("told", .ref (w + 6))],
   .lst (kinds.map kindW), .dct false (kinds.map fun k => (.str k.1, .tup (k.2.map .str))), .lst (plan.map bdW), .dct true (es.map fun x => (keyW x.1, natW x.2)), .lst [], .lst []]
theorem World_init_of {p d : Nat} (hp : Pr S p d [] plan es) (hpl : plan.length ≤ 1000) (h1 : es.length ≤ 1) :
    F_World_init [.ref S.length, .ref p] (S ++ [.ins "World" []]) = some (.non, S ++ worldObs p S.length [] plan es) := by
  let e0 : Env := [some (.ref S.length), some (.ref p)]
  have P : ∀ L, Pr (S ++ L) p d [] plan es := fun L => hp.gr (Gr.app L)
  have z1 : sFld cs_source (mVar 0) "source" (mVar 1) e0 (S ++ [.ins "World" []]) = some (.nx e0, S ++ [.ins "World" [("source", .ref p)]]) := by
    rw [sFld_at (v := .ref p) (a := S.length) (S1 := S ++ [.ins "World" []]) rfl rfl ap_get0 (by decide) (by simp), ap_set0]
    rfl
  have k2 : mDictP (mMethN "Program" "kinds" 1 F_Program_kinds (mVar 1) aNil) e0 (S ++ [.ins "World" [("source", .ref p)]]) = some (.ref (S.length + 2), S ++ [.ins "World" [("source", .ref p)], .lst [], .dct false []]) := by
    have q := prog_kinds (P [.ins "World" [("source", .ref p)]]) (by simp)
    rw [ap_len, ap_add] at q
    have hm : mMethN "Program" "kinds" 1 F_Program_kinds (mVar 1) aNil e0 (S ++ [.ins "World" [("source", .ref p)]]) = some (.ref (S.length + 1), S ++ [.ins "World" [("source", .ref p)], .lst []]) :=
      (meth0_of (a := p) rfl (P _).ob rfl rfl).trans q
    have hg : (S ++ [Ob.ins "World" [("source", .ref p)], .lst []])[S.length + 1]? = some (.lst []) := ap_get
    simp only [mDictP, hm, hg]
    rw [ap_len, ap_add]
    rfl
  have z2 : sFld cs_field_names (mVar 0) "field_names" (mDictP (mMethN "Program" "kinds" 1 F_Program_kinds (mVar 1) aNil)) e0 (S ++ [.ins "World" [("source", .ref p)]]) = some (.nx e0, S ++ [.ins "World" [("source", .ref p), ("field_names", .ref (S.length + 2))], .lst [], .dct false []]) := by
    rw [sFld_at (a := S.length) k2 rfl ap_get0 (by decide) (by simp), ap_set0]
    rfl
  have k3 : mMethN "Program" "bodies" 1 F_Program_bodies (mVar 1) aNil e0 (S ++ [.ins "World" [("source", .ref p), ("field_names", .ref (S.length + 2))], .lst [], .dct false []]) = some (.ref (S.length + 3), S ++ [.ins "World" [("source", .ref p), ("field_names", .ref (S.length + 2))], .lst [], .dct false [], .lst (plan.map bdW)]) := by
    have q := prog_bodies (P [.ins "World" [("source", .ref p), ("field_names", .ref (S.length + 2))], .lst [], .dct false []]) hpl
    rw [ap_len, ap_add] at q
    exact (meth0_of (a := p) rfl (P _).ob rfl rfl).trans q
  have z3 : sFld cs_plan (mVar 0) "plan" (mMethN "Program" "bodies" 1 F_Program_bodies (mVar 1) aNil) e0 (S ++ [.ins "World" [("source", .ref p), ("field_names", .ref (S.length + 2))], .lst [], .dct false []]) = some (.nx e0, S ++ [.ins "World" [("source", .ref p), ("field_names", .ref (S.length + 2)), ("plan", .ref (S.length + 3))], .lst [], .dct false [], .lst (plan.map bdW)]) := by
    rw [sFld_at (a := S.length) k3 rfl ap_get0 (by decide) (by simp), ap_set0]
    rfl
  have k4 : mMethN "Program" "table" 1 F_Program_table (mVar 1) aNil e0 (S ++ [.ins "World" [("source", .ref p), ("field_names", .ref (S.length + 2)), ("plan", .ref (S.length + 3))], .lst [], .dct false [], .lst (plan.map bdW)]) = some (.ref (S.length + 4), S ++ [.ins "World" [("source", .ref p), ("field_names", .ref (S.length + 2)), ("plan", .ref (S.length + 3))], .lst [], .dct false [], .lst (plan.map bdW), .dct true (es.map fun x => (keyW x.1, natW x.2))]) := by
    have q := prog_table (P [.ins "World" [("source", .ref p), ("field_names", .ref (S.length + 2)), ("plan", .ref (S.length + 3))], .lst [], .dct false [], .lst (plan.map bdW)]) h1
    rw [ap_len, ap_add] at q
    exact (meth0_of (a := p) rfl (P _).ob rfl rfl).trans q
  have z4 : sFld cs_entries (mVar 0) "entries" (mMethN "Program" "table" 1 F_Program_table (mVar 1) aNil) e0 (S ++ [.ins "World" [("source", .ref p), ("field_names", .ref (S.length + 2)), ("plan", .ref (S.length + 3))], .lst [], .dct false [], .lst (plan.map bdW)]) = some (.nx e0, S ++ [.ins "World" [("source", .ref p), ("field_names", .ref (S.length + 2)), ("plan", .ref (S.length + 3)), ("entries", .ref (S.length + 4))], .lst [], .dct false [], .lst (plan.map bdW), .dct true (es.map fun x => (keyW x.1, natW x.2))]) := by
    rw [sFld_at (a := S.length) k4 rfl ap_get0 (by decide) (by simp), ap_set0]
    rfl
  have knew : ∀ L : List Ob, mNew (aMax aNil) e0 (S ++ L) = some (.ref (S.length + L.length), S ++ (L ++ [.lst []])) := fun L => by
    simp only [mNew, aMax, aNil, List.length_nil, Nat.zero_le, if_true]
    rw [ap_len, ap_add]
  have z5 : sFld cs_heap (mVar 0) "heap" (mNew (aMax aNil)) e0 (S ++ [.ins "World" [("source", .ref p), ("field_names", .ref (S.length + 2)), ("plan", .ref (S.length + 3)), ("entries", .ref (S.length + 4))], .lst [], .dct false [], .lst (plan.map bdW), .dct true (es.map fun x => (keyW x.1, natW x.2))])
      = some (.nx e0, S ++ [.ins "World" [("source", .ref p), ("field_names", .ref (S.length + 2)), ("plan", .ref (S.length + 3)), ("entries", .ref (S.length + 4)), ("heap", .ref (S.length + 5))], .lst [], .dct false [], .lst (plan.map bdW), .dct true (es.map fun x => (keyW x.1, natW x.2)), .lst []]) := by
    rw [sFld_at (a := S.length) (knew _) rfl ap_get0 (by decide) (by simp), ap_set0]
    rfl
  have z6 : sFld cs_told (mVar 0) "told" (mNew (aMax aNil)) e0 (S ++ [.ins "World" [("source", .ref p), ("field_names", .ref (S.length + 2)), ("plan", .ref (S.length + 3)), ("entries", .ref (S.length + 4)), ("heap", .ref (S.length + 5))], .lst [], .dct false [], .lst (plan.map bdW), .dct true (es.map fun x => (keyW x.1, natW x.2)), .lst []])
      = some (.nx e0, S ++ worldObs p S.length [] plan es) := by
    rw [sFld_at (a := S.length) (knew _) rfl ap_get0 (by decide) (by simp), ap_set0]
    rfl
  rw [F_World_init, fnOf_eq]
  show fin (b_World_init e0 _) = _
  unfold b_World_init
  rw [seq_of z1, seq_of z2, seq_of z3, seq_of z4, seq_of z5, z6]
  rfl
/-- a new machine's objects -/
def runObs (p m : Nat) (kinds : List (Str × List Str)) (plan : List Bd) (es : List ((Str × Str) × Nat)) : List Ob :=
  .ins "Plain" [("world", .ref (m + 1)), ("frames", .ref (m + 8)), ("ending", .non), ("passed", .int 0), ("profile", .ref (m + 9))] :: (worldObs p (m + 1) kinds plan es ++ [.lst [], .dct true []])
theorem Rows_init_of {p d : Nat} (hp : Pr S p d [] plan es) (hpl : plan.length ≤ 1000) (h1 : es.length ≤ 1) :
    F_Rows_init [.ref S.length, .ref p] (S ++ [.ins "Plain" []]) = some (.non, S ++ runObs p S.length [] plan es) := by
  let e0 : Env := [some (.ref S.length), some (.ref p)]
  have k1 : mMakeN "World" 2 F_World_init (aCons (mVar 1) aNil) e0 (S ++ [.ins "Plain" []]) = some (.ref (S.length + 1), S ++ (.ins "Plain" [] :: worldObs p (S.length + 1) [] plan es)) := by
    have q := World_init_of (hp.gr (Gr.app [Ob.ins "Plain" []])) hpl h1
    have ha : aCons (mVar 1) aNil e0 (S ++ [.ins "Plain" []]) = some ([.ref p], S ++ [.ins "Plain" []]) := rfl
    simp only [mMakeN, ha, List.length_cons, List.length_nil, Nat.zero_add, Nat.reduceAdd, if_true, q]
    rw [ap_len, List.append_assoc]
    rfl
  have z1 : sFld cs_world (mVar 0) "world" (mMakeN "World" 2 F_World_init (aCons (mVar 1) aNil)) e0 (S ++ [.ins "Plain" []]) = some (.nx e0, S ++ (.ins "Plain" [("world", .ref (S.length + 1))] :: worldObs p (S.length + 1) [] plan es)) := by
    rw [sFld_at (a := S.length) k1 rfl ap_get0 (by decide) (by simp), ap_set0]
    rfl
  have knew : ∀ L : List Ob, mNew (aMax aNil) e0 (S ++ L) = some (.ref (S.length + L.length), S ++ (L ++ [.lst []])) := fun L => by
    simp only [mNew, aMax, aNil, List.length_nil, Nat.zero_le, if_true]
    rw [ap_len, ap_add]
  have z2 : sFld cs_frames (mVar 0) "frames" (mNew (aMax aNil)) e0 (S ++ (.ins "Plain" [("world", .ref (S.length + 1))] :: worldObs p (S.length + 1) [] plan es)) = some (.nx e0, S ++ (.ins "Plain" [("world", .ref (S.length + 1)), ("frames", .ref (S.length + 8))] :: (worldObs p (S.length + 1) [] plan es ++ [.lst []]))) := by
    rw [sFld_at (a := S.length) (knew _) rfl ap_get0 (by decide) (by simp), ap_set0]
    rfl
  have z3 : sFld cs_ending (mVar 0) "ending" (mC .non) e0 (S ++ (.ins "Plain" [("world", .ref (S.length + 1)), ("frames", .ref (S.length + 8))] :: (worldObs p (S.length + 1) [] plan es ++ [.lst []]))) = some (.nx e0, S ++ (.ins "Plain" [("world", .ref (S.length + 1)), ("frames", .ref (S.length + 8)), ("ending", .non)] :: (worldObs p (S.length + 1) [] plan es ++ [.lst []]))) := by
    rw [sFld_at (a := S.length) (v := .non) rfl rfl ap_get0 (by decide) (by simp), ap_set0]
    rfl
  have z4 : sFld cs_passed (mVar 0) "passed" (mC (.int 0)) e0 (S ++ (.ins "Plain" [("world", .ref (S.length + 1)), ("frames", .ref (S.length + 8)), ("ending", .non)] :: (worldObs p (S.length + 1) [] plan es ++ [.lst []]))) = some (.nx e0, S ++ (.ins "Plain" [("world", .ref (S.length + 1)), ("frames", .ref (S.length + 8)), ("ending", .non), ("passed", .int 0)] :: (worldObs p (S.length + 1) [] plan es ++ [.lst []]))) := by
    rw [sFld_at (a := S.length) (v := .int 0) rfl rfl ap_get0 (by decide) (by simp), ap_set0]
    rfl
  have kd : ∀ L : List Ob, mDNew true e0 (S ++ L) = some (.ref (S.length + L.length), S ++ (L ++ [.dct true []])) := fun L => by
    simp only [mDNew]
    rw [ap_len, ap_add]
  have z5 : sFld cs_profile (mVar 0) "profile" (mDNew true) e0 (S ++ (.ins "Plain" [("world", .ref (S.length + 1)), ("frames", .ref (S.length + 8)), ("ending", .non), ("passed", .int 0)] :: (worldObs p (S.length + 1) [] plan es ++ [.lst []]))) = some (.nx e0, S ++ runObs p S.length [] plan es) := by
    rw [sFld_at (a := S.length) (kd _) rfl ap_get0 (by decide) (by simp), ap_set0]
    rfl
  rw [F_Rows_init, fnOf_eq]
  show fin (b_Rows_init e0 _) = _
  unfold b_Rows_init
  rw [seq_of z1, seq_of z2, seq_of z3, seq_of z4, z5]
  rfl
end
end Gm

set_option linter.all false
namespace Gm
open PySem (Str)
section
variable {A A1 A2 : Ma} {S S0 S1 S2 S3 S' : Store} {e : Env} {plan : List Bd} {es : List ((Str × Str) × Nat)} {kinds : List (Str × List Str)}
def adr0 (m : Nat) : Role → Nat
  | .run => m | .world => m + 1 | .namesD => m + 3 | .planL => m + 4 | .entriesD => m + 5 | .heapL => m + 6 | .toldL => m + 7 | .framesL => m + 8 | .profD => m + 9
  | _ => 0
def Ma.start (p : Nat) (kinds : List (Str × List Str)) (plan : List Bd) (es : List ((Str × Str) × Nat)) (fs : List Fr) : Ma :=
  { src := .ref p, kinds := kinds, plan := plan, frames := fs, ending := .non, passed := 0, prof := [], entries := es, heap := [], told := [] }
theorem St.begin (S : Store) (p : Nat) : St (adr0 S.length) (Ma.start p kinds plan es []) (S ++ runObs p S.length kinds plan es) := by
  refine ⟨fun r h => ?_, fun r r' h h' e => ?_⟩
  · cases r with
    | run => exact ap_get0
    | frame i => exact absurd h (Nat.not_lt_zero _)
    | boxes i => exact absurd h (Nat.not_lt_zero _)
    | cells i => exact absurd h (Nat.not_lt_zero _)
    | seen i => exact absurd h (Nat.not_lt_zero _)
    | _ => exact ap_get
  · cases r with
    | frame i => exact absurd h (Nat.not_lt_zero _)
    | boxes i => exact absurd h (Nat.not_lt_zero _)
    | cells i => exact absurd h (Nat.not_lt_zero _)
    | seen i => exact absurd h (Nat.not_lt_zero _)
    | _ =>
      cases r' with
      | frame i => exact absurd h' (Nat.not_lt_zero _)
      | boxes i => exact absurd h' (Nat.not_lt_zero _)
      | cells i => exact absurd h' (Nat.not_lt_zero _)
      | seen i => exact absurd h' (Nat.not_lt_zero _)
      | _ => first | rfl | (exfalso; simp only [adr0] at e; omega)
def NumsAt (S : Store) (x : W) (nums : List Int) : Prop := x = .tup (nums.map .int) ∨ x = .wt (nums.map .int) ∨ ∃ r, x = .ref r ∧ S[r]? = some (.lst (nums.map .int))
theorem NumsAt.gr {x : W} {nums : List Int} (h : NumsAt S x nums) (g : Gr S S') : NumsAt S' x nums := by
  rcases h with h | h | ⟨r, h1, h2⟩
  · exact .inl h
  · exact .inr (.inl h)
  · exact .inr (.inr ⟨r, h1, g.at h2⟩)
theorem NumsAt.seq {x : W} {nums : List Int} (h : NumsAt S x nums) : seqOf S x = some (nums.map .int) := by
  rcases h with rfl | rfl | ⟨r, rfl, h2⟩
  · rfl
  · rfl
  · exact seq_ref h2
theorem NumsAt.walk {x : W} {nums : List Int} (h : NumsAt S x nums) : walkable x = true := by
  rcases h with rfl | rfl | ⟨r, rfl, h2⟩ <;> rfl
theorem NumsAt.ty {x : W} {nums : List Int} (h : NumsAt S x nums) : fIs2 "list" "tuple" x S = some (.bl true) := by
  rcases h with rfl | rfl | ⟨r, rfl, h2⟩
  · simp [fIs2, tyW, isTy]
  · simp [fIs2, tyW, isTy]
  · simp [fIs2, tyW, isTy, h2]
theorem NumsAt.len {x : W} {nums : List Int} {m : ME} (h : NumsAt S x nums) (hm : m e S = some (x, S)) : mLen m e S = some (natW nums.length, S) := by
  rcases h with rfl | rfl | ⟨r, rfl, h2⟩
  · simp [mLen, op1, hm, natW]
  · simp [mLen, op1, hm, natW]
  · simp [mLen, op1, hm, h2, natW]
/-- a frame made of a list -/
theorem make_frameL {b : Nat} {ws : List W} {mb : ME} {ml : MA} (hb : mb e S = some (natW b, S)) (hml : ml e S = some (ws, S)) (hl : ws.length ≤ 1000) :
    ∃ S', mMakeN "Frame" 4 F_Frame_init (aCons mb (aCons (mC (.int 0)) (aCons (mNew ml) aNil))) e S = some (.ref (S.length + 1), S') ∧ S'.length = S.length + 3 ∧ (∀ i, i < S.length → S'[i]? = S[i]?) ∧
      S'[S.length + 1]? = some (.ins "Frame" (Ma.frameFs (.ref (S.length + 2)) ⟨b, 0, []⟩)) ∧ S'[S.length + 2]? = some (.lst ws) := by
  obtain ⟨S', h1, h2, h3, h4, h5⟩ := Frame_init_of (S := S ++ [Ob.lst ws] ++ [.ins "Frame" []]) (p := S.length + 1) (q := S.length) (b := b) (ws := ws) (by simp) (by simp) (by omega) (by omega)
  have hlen : ws.length ≤ 100000 := by omega
  have ha : aCons mb (aCons (mC (.int 0)) (aCons (mNew ml) aNil)) e S = some ([natW b, .int 0, .ref S.length], S ++ [Ob.lst ws]) := by
    simp only [aCons, hb, mC, mNew, hml, if_pos hlen, aNil]
  have hlen2 : (S ++ [Ob.lst ws]).length = S.length + 1 := by simp
  have hlen3 : (S ++ [Ob.lst ws] ++ [Ob.ins "Frame" []]).length = S.length + 2 := by simp
  rw [hlen3] at h2 h3 h4 h5
  refine ⟨S', ?_, by omega, fun i hi => ?_, h4, h5⟩
  · simp only [mMakeN, ha, List.length_cons, List.length_nil, Nat.zero_add, Nat.reduceAdd, if_true, hlen2, h1]
  · rw [h3 i (by omega) (by omega), List.append_assoc, List.getElem?_append_left hi]
def Ma.first (bd : Bd) (b : Nat) (nums : List Int) : Fr := Ma.newFr bd b (nums.map .num)
theorem St.started {adr : Role → Nat} (R : St adr A S) (hf : A.frames = []) {b : Nat} {bd : Bd} (hb : A.plan[b]? = some bd) {x : W} {nums : List Int} (hx : NumsAt S x nums) (hn : nums.length = bd.takes) (ht : bd.takes ≤ bd.boxes) (hbx : bd.boxes ≤ 1000) (hl : ∀ i ∈ nums, lim i) :
    ∃ p q S', F_started [.ref (adr .run), natW b, x] S = some (.non, S') ∧ St (adrPush adr 0 p q) (A.push (Ma.first bd b nums)) S' ∧ Go adr A S (adrPush adr 0 p q) (A.push (Ma.first bd b nums)) S' := by
  have hbl : b < A.plan.length := (List.getElem?_eq_some_iff.mp hb).1
  let e0 : Env := [some (.ref (adr .run)), some (natW b), some x, none, none, none, none, none]
  let e1 : Env := [some (.ref (adr .run)), some (natW b), some x, some (.ref (adr .planL)), none, none, none, none]
  let e2 : Env := [some (.ref (adr .run)), some (natW b), some x, some (.ref (adr .planL)), some (natW bd.takes), some (natW bd.boxes), some (.tup (bd.rows.map rowW)), none]
  have z1 : sAsg (op1 (fld cs_plan "plan") (op1 (fld cs_world "world") (mVar 0))) (gName 3) e0 S = some (.nx e1, S) :=
    asg_of (w := .ref (adr .planL)) (S1 := S) (by simp [op1, mVar, e0, R.g_world, R.g_plan]) rfl
  have hpl : mLen (mVar 3) e1 S = some (natW A.plan.length, S) := by rw [len_ref (S1 := S) rfl R.o_plan, List.length_map]
  have a1 : mCallN 3 F_is_whole (aCons (mVar 1) (aCons (mC (.int 0)) (aCons (op2 fSub (mLen (mVar 3)) (mC (.int 1))) aNil))) e1 S = some (.bl true, S) :=
    call3_of (w1 := natW b) (w2 := .int 0) (w3 := .int ((A.plan.length : Int) - 1)) rfl rfl (op2_of hpl rfl rfl) (whole_nat S hbl rfl)
  have a2 : mCallN 1 F_is_list (aCons (mVar 2) aNil) e1 S = some (.bl true, S) := call1_of rfl (is_list_of hx.ty)
  have z2 : sIf (tOr (tNot (tVal (mCallN 3 F_is_whole (aCons (mVar 1) (aCons (mC (.int 0)) (aCons (op2 fSub (mLen (mVar 3)) (mC (.int 1))) aNil)))))) (tNot (tVal (mCallN 1 F_is_list (aCons (mVar 2) aNil))))) sNever sNil e1 S = some (.nx e1, S) := by
    refine if_nil_of ?_
    simp only [tOr, tNot, tval_of a1, tval_of a2, Bool.not_true]
  have z3 : sAsg (op2 fIx (mVar 3) (mVar 1)) (gTupN 3 (gCons (gName 4) (gCons (gName 5) (gCons (gName 6) gNil)))) e1 S = some (.nx e2, S) :=
    asg_of (w := bdW bd) (S1 := S) (op2_of (x := .ref (adr .planL)) (y := natW b) rfl rfl (fIx_nat R.seq_plan (by rw [List.getElem?_map, hb]; rfl))) rfl
  have b1 : op2 fNe (mLen (mVar 2)) (mVar 4) e2 S = some (.bl false, S) :=
    op2_of (hx.len rfl) (y := natW bd.takes) rfl (by rw [ne_nat]; simp [hn])
  have b2 : mAll (aComp (iSeq (mVar 2)) (gName 7) tYes (mCallN 1 F_is_number (aCons (mVar 7) aNil)) [7]) e2 S = some (.bl true, S) := by
    refine mAll_seq (x := x) (ws := nums.map .int) (S1 := S) rfl hx.seq hx.walk (by simp; omega) fun w hw => ?_
    obtain ⟨i, hi, rfl⟩ := List.mem_map.mp hw
    refine call1_of rfl ?_
    rw [is_number_of S (t := "int") rfl]
    have := hl i hi
    simp [wholeB]
    exact this
  have z4 : sIf (tOr (tVal (op2 fNe (mLen (mVar 2)) (mVar 4))) (tNot (tVal (mAll (aComp (iSeq (mVar 2)) (gName 7) tYes (mCallN 1 F_is_number (aCons (mVar 7) aNil)) [7]))))) sNever sNil e2 S = some (.nx e2, S) := by
    refine if_nil_of ?_
    simp only [tOr, tNot, tval_of b1, tval_of b2, Bool.not_true]
  have hboxes : aCat (aSeq (mVar 2)) (aRep (aMax (aCons (mC .non) aNil)) (op2 fSub (mVar 5) (mVar 4))) e2 S = some ((Ma.first bd b nums).boxes.map valW, S) := by
    have q1 : aSeq (mVar 2) e2 S = some (nums.map .int, S) := by
      have : mVar 2 e2 S = some (x, S) := rfl
      simp only [aSeq, this, hx.seq, Option.map_some]
    have q2 : op2 fSub (mVar 5) (mVar 4) e2 S = some (.int ((bd.boxes - bd.takes : Nat) : Int), S) := op2_of (x := natW bd.boxes) (y := natW bd.takes) rfl rfl (by simp [fSub, onI, natW]; omega)
    have q3 : aRep (aMax (aCons (mC .non) aNil)) (op2 fSub (mVar 5) (mVar 4)) e2 S = some (nones (bd.boxes - bd.takes), S) := by
      simp only [aRep, aMax, aCons, mC, aNil, List.length_cons, List.length_nil, Nat.zero_add]
      rw [if_pos (by simp)]
      simp only [q2, Int.toNat_natCast]
      rw [if_pos ⟨by omega, by omega, by simp; omega⟩, rep_nones]
    have hv : (Ma.first bd b nums).boxes.map valW = nums.map W.int ++ nones (bd.boxes - bd.takes) := by
      simp only [Ma.first, Ma.newFr, List.map_append, List.map_map, List.length_map, hn, nones_val]
      rfl
    rw [hv]
    simp only [aCat, q1, q3]
    rw [if_pos (by simp [nones]; omega)]
  have hbl2 : ((Ma.first bd b nums).boxes.map valW).length ≤ 1000 := by
    simp only [Ma.first, Ma.newFr, List.length_map, List.length_append, List.length_replicate]
    omega
  obtain ⟨S1, y1, y2, y3, y4, y5⟩ := make_frameL (S := S) (b := b) (e := e2) (mb := mVar 1) (ml := aCat (aSeq (mVar 2)) (aRep (aMax (aCons (mC .non) aNil)) (op2 fSub (mVar 5) (mVar 4)))) rfl hboxes hbl2
  obtain ⟨R1, x1⟩ := R.grow (S' := S1) (by omega) y3
  have own : ∀ k, S.length ≤ k → ¬ Own adr A k := fun k hk ⟨r, h1, h2⟩ => by
    have := R.lt h1
    omega
  have hfl0 : A.frames.length = 0 := by rw [hf]; rfl
  obtain ⟨R2, x2⟩ := R1.push (S0 := S) (f := Ma.first bd b nums) (p := S.length + 1) (q := S.length + 2) x1 y4 y5 (by omega) (by omega) (own _ (by omega)) (own _ (by omega)) (by omega)
  rw [hfl0] at R2 x2
  refine ⟨S.length + 1, S.length + 2, _, ?_, R2, x2⟩
  have z5 : sDrop (mAppend (op1 (fld cs_frames "frames") (mVar 0)) (mMakeN "Frame" 4 F_Frame_init (aCons (mVar 1) (aCons (mC (.int 0)) (aCons (mNew (aCat (aSeq (mVar 2)) (aRep (aMax (aCons (mC .non) aNil)) (op2 fSub (mVar 5) (mVar 4))))) aNil))))) e2 S = some (.nx e2, S1.set (adr .framesL) (.lst (framesW adr 0 ++ [.ref (S.length + 1)]))) := by
    have q1 : op1 (fld cs_frames "frames") (mVar 0) e2 S = some (.ref (adr .framesL), S) := by simp [op1, mVar, e2, R.g_frames]
    have q2 := R.o_frames
    have q3 := R1.o_frames
    rw [hfl0] at q2 q3
    simp only [sDrop, mAppend, q1, q2, y1, q3]
    rw [if_pos (by simp)]
    rfl
  rw [F_started, fnOf_eq]
  show fin (b_started e0 S) = _
  unfold b_started
  rw [seq_of z1, seq_of z2, seq_of z3, seq_of z4, z5]
  rfl
/-- a new machine -/
theorem Plain_init_of {p d : Nat} (hp : Pr S p d [] plan es) (hpl : plan.length ≤ 1000) (h1 : es.length ≤ 1) {b : Nat} {bd : Bd} (hb : plan[b]? = some bd) {x : W} {nums : List Int} (hx : NumsAt S x nums) (hn : nums.length = bd.takes) (ht : bd.takes ≤ bd.boxes) (hbx : bd.boxes ≤ 1000) (hl : ∀ i ∈ nums, lim i) :
    ∃ adr S', F_Plain_init [.ref S.length, .ref p, natW b, x] (S ++ [.ins "Plain" []]) = some (.non, S') ∧ St adr (Ma.start p [] plan es [Ma.first bd b nums]) S' ∧ Gr S S' ∧ adr .run = S.length ∧ (∀ i, i < S.length → ¬ Own adr (Ma.start p [] plan es [Ma.first bd b nums]) i) := by
  have q1 := Rows_init_of hp hpl h1
  have R := St.begin (kinds := []) (plan := plan) (es := es) S p
  obtain ⟨p', q', S', y, R', g⟩ := R.started (A := Ma.start p [] plan es []) rfl hb (hx.gr (Gr.app (runObs p S.length [] plan es))) hn ht hbx hl
  have nown : ∀ i, i < S.length → ¬ Own (adr0 S.length) (Ma.start p [] plan es []) i := by
    rintro i hi ⟨r, h2, h3⟩
    cases r with
    | frame i => exact absurd h2 (Nat.not_lt_zero _)
    | boxes i => exact absurd h2 (Nat.not_lt_zero _)
    | cells i => exact absurd h2 (Nat.not_lt_zero _)
    | seen i => exact absurd h2 (Nat.not_lt_zero _)
    | _ => simp only [adr0] at h3; omega
  have hlen : (S ++ runObs p S.length [] plan es).length = S.length + 10 := by simp [runObs, worldObs]
  refine ⟨_, S', ?_, R', ⟨by have := g.len; omega, fun i hi => ?_⟩, rfl, fun i hi => (g.keep i (by omega) (nown i hi)).2⟩
  · let e0 : Env := [some (.ref S.length), some (.ref p), some (natW b), some x]
    have z1 : sDrop (mCallN 2 F_Rows_init (aCons (mVar 0) (aCons (mVar 1) aNil))) e0 (S ++ [.ins "Plain" []]) = some (.nx e0, S ++ runObs p S.length [] plan es) := by
      have := call2_of (e := e0) (m1 := mVar 0) (m2 := mVar 1) rfl rfl q1
      simp only [sDrop, this]
    have z2 : sDrop (mCallN 3 F_started (aCons (mVar 0) (aCons (mVar 2) (aCons (mVar 3) aNil)))) e0 (S ++ runObs p S.length [] plan es) = some (.nx e0, S') := by
      have := call3_of (e := e0) (m1 := mVar 0) (m2 := mVar 2) (m3 := mVar 3) rfl rfl rfl y
      simp only [sDrop, this]
    rw [F_Plain_init, fnOf_eq]
    show fin (b_Plain_init e0 _) = _
    unfold b_Plain_init
    rw [seq_of z1, z2]
    rfl
  · rw [(g.keep i (by omega) (nown i hi)).1, List.getElem?_append_left hi]
end
end Gm

set_option linter.all false
namespace Gm
open PySem (Str)
section
variable {A A1 A2 : Ma} {S S0 S1 S2 S3 S' : Store} {e : Env} {adr : Role → Nat}
/-! ### draws -/
def drawKvs (L a : Int) (c : Nat) : List (W × W) := [(.str "left", .int L), (.str "at", .int a), (.str "cells", .ref c)]
structure Draw (S : Store) (s c : Nat) (ns : List Int) (L : Int) (a : Nat) : Prop where
  st : S[s]? = some (.dct false (drawKvs L a c))
  cs : S[c]? = some (.lst (ns.map .int))
  len : ns.length ≤ 1000
  nn : 0 ≤ L
theorem GrP.refl {p : Nat} : GrP p S S := ⟨Nat.le_refl _, fun _ _ _ => rfl⟩
theorem GrP.trans {p : Nat} (x : GrP p S S1) (y : GrP p S1 S2) : GrP p S S2 := ⟨Nat.le_trans x.len y.len, fun i h n => (y.keep i (Nat.lt_of_lt_of_le h x.len) n).trans (x.keep i h n)⟩
theorem GrP.of {p : Nat} (x : Gr S S1) : GrP p S S1 := ⟨x.len, fun i h _ => x.keep i h⟩
theorem GrP.set {p : Nat} {o : Ob} : GrP p S (S.set p o) := ⟨by simp, fun i h n => by rw [List.getElem?_set_ne (Ne.symm n)]⟩
theorem GrP.at {p i : Nat} {o : Ob} (x : GrP p S S') (h : S[i]? = some o) (n : i ≠ p) : S'[i]? = some o := by
  rw [x.keep i (List.getElem?_eq_some_iff.mp h).1 n, h]
theorem St.other (R : St adr A S) {s : Nat} (x : GrP s S S') (no : ¬ Own adr A s) : St adr A S' :=
  ⟨fun r h => by rw [x.keep _ (R.lt h) fun z => no ⟨r, h, z⟩]; exact R.ob r h, R.inj⟩
theorem rds_ints (S : Store) (n : Nat) : ∀ ns : List Int, rds S (n + 1) (ns.map .int) = some (ns.map .int)
  | [] => by simp [rds]
  | a :: as => by
    rw [List.map_cons, rds, rds_ints S n as]
    simp [rd]
theorem rd_ints {c : Nat} {ns : List Int} (h : S[c]? = some (.lst (ns.map .int))) : rd S 40 (.ref c) = some (.cl (ns.map .int)) := by
  simp [rd, h, rds_ints S 38 ns]
theorem eqds_nil : ∀ ns : List Int, eqds (ns.map .int) [] = ns.isEmpty
  | [] => by simp [eqds]
  | _ :: _ => by simp [eqds]
theorem law_begin_of {r : Nat} {ns : List Int} (hns : ns.length ≤ 1000) : F_law_begin [.cl (ns.map .int)] S = some (.ref (S.length + 1), S ++ [.lst (ns.map .int), .dct false (drawKvs 0 0 S.length)]) := by
  let e0 : Env := [some (.cl (ns.map .int))]
  have h1 : mNew (aSeq (mVar 0)) e0 S = some (.ref S.length, S ++ [.lst (ns.map .int)]) := by
    have : aSeq (mVar 0) e0 S = some (ns.map .int, S) := rfl
    simp only [mNew, this]
    rw [if_pos (by simp; omega)]
  have h2 : mDisp false (pCons (mC (.str "left")) (mC (.int 0)) (pCons (mC (.str "at")) (mC (.int 0)) (pCons (mC (.str "cells")) (mNew (aSeq (mVar 0))) pNil))) e0 S = some (.ref (S.length + 1), S ++ [.lst (ns.map .int), .dct false (drawKvs 0 0 S.length)]) := by
    simp only [mDisp, pCons, mC, h1, pNil]
    rw [if_pos ⟨by rfl, by simp⟩]
    simp
    rfl
  rw [F_law_begin, fnOf_eq]
  show fin (b_law_begin e0 S) = _
  unfold b_law_begin
  rw [ret_of h2]
  rfl
section
variable {s c : Nat} {ns : List Int} {L : Int} {a : Nat}
theorem Draw.get_left (D : Draw S s c ns L a) : fGetD (.ref s) (.str "left") S = some (.int L) := by
  simp only [fGetD, D.st]
  rfl
theorem Draw.get_at (D : Draw S s c ns L a) : fGetD (.ref s) (.str "at") S = some (.int a) := by
  simp only [fGetD, D.st]
  rfl
theorem Draw.get_cells (D : Draw S s c ns L a) : fGetD (.ref s) (.str "cells") S = some (.ref c) := by
  simp only [fGetD, D.st]
  rfl
theorem Draw.ne (D : Draw S s c ns L a) : s ≠ c := fun z => by
  have h1 := D.st
  have h2 := D.cs
  rw [z, h2] at h1
  cases h1
theorem Draw.put (D : Draw S s c ns L a) (L' : Int) (a' : Nat) (h : 0 ≤ L') : Draw (S.set s (.dct false (drawKvs L' a' c))) s c ns L' a' := by
  refine ⟨List.getElem?_set_self (List.getElem?_eq_some_iff.mp D.st).1, ?_, D.len, h⟩
  rw [List.getElem?_set_ne D.ne]
  exact D.cs
theorem Draw.gr (D : Draw S s c ns L a) (x : Gr S S') : Draw S' s c ns L a := ⟨x.at D.st, x.at D.cs, D.len, D.nn⟩
theorem Draw.go {adr' : Role → Nat} {A' : Ma} (D : Draw S s c ns L a) (x : Go adr A S adr' A' S') (h1 : ¬ Own adr A s) (h2 : ¬ Own adr A c) : Draw S' s c ns L a ∧ ¬ Own adr' A' s ∧ ¬ Own adr' A' c := by
  obtain ⟨g1, g2⟩ := x.keep s (List.getElem?_eq_some_iff.mp D.st).1 h1
  obtain ⟨g3, g4⟩ := x.keep c (List.getElem?_eq_some_iff.mp D.cs).1 h2
  exact ⟨⟨by rw [g1]; exact D.st, by rw [g3]; exact D.cs, D.len, D.nn⟩, g2, g4⟩
def primes : List Int := [2147483629, 2147483587, 2147483579, 2147483563, 2147483549, 2147483543, 2147483497, 2147483489]
def primeB : Env → MS := fun _ => sNil
abbrev loopB : MS := (sSeq2 (sAsg (op2 fMod (op2 fAdd (op2 fAdd (op2 fMul (op2 fMod (mVar 3) (mVar 7)) (mC (.int 48271))) (op2 fMul (mC (.int 1103515245)) (op2 fAdd (mVar 1) (mC (.int 1))))) (op2 fMul (op2 fMul (mC (.int 40503)) (mVar 6)) (mVar 6))) (mVar 7)) (gName 8))
    (sSeq2 (sAsg (op2 fMod (op2 fAdd (op2 fAdd (op2 fMul (mVar 8) (mVar 8)) (op2 fMul (mC (.int 11)) (mVar 1))) (mVar 6)) (mVar 7)) (gName 8))
    (sAsg (op2 fAdd (op2 fMul (mVar 4) (mC (.int 2147483647))) (op2 fMod (op2 fMul (mVar 8) (op2 fAdd (op2 fAdd (mVar 8) (mVar 6)) (mC (.int 1)))) (mVar 7))) (gName 4))))
abbrev moreE (s c p : Nat) (k cell N : Int) (a6 a7 a8 : Option W) : Env := [some (.ref s), some (.int k), some (.ref c), some (.int cell), some (.int N), some (.ref p), a6, a7, a8]
theorem inLine_of {i : Int} (h1 : -(2 ^ 64) < i) (h2 : i < 2 ^ 64) : inLine i = true := by
  simp only [inLine, Bool.and_eq_true, decide_eq_true_eq]
  exact ⟨h1, h2⟩
theorem fMul_r {i j : Int} (h : inLine j = true) : fMul (.int i) (.int j) S = some (.int (i * j)) := by
  simp only [fMul, onI, h, Bool.or_true, if_true]
theorem fMul_l {i j : Int} (h : inLine i = true) : fMul (.int i) (.int j) S = some (.int (i * j)) := by
  simp only [fMul, onI, h, Bool.true_or, if_true]
theorem fMod_of {i j : Int} (h : 0 < j) : fMod (.int i) (.int j) S = some (.int (i % j)) := by
  simp only [fMod, onI, if_pos h]
theorem fAdd_int {i j : Int} : fAdd (.int i) (.int j) S = some (.int (i + j)) := rfl
/-- one turn of the mixing loop: what is mixed stays from nought on -/
theorem mix_turn {p : Nat} {k cell N i q : Int} {a8 : Option W} (hN : 0 ≤ N) (hi : 0 ≤ i ∧ i < 8) (hq : 0 < q ∧ q < 2147483648) :
    ∃ one N', loopB (moreE s c p k cell N (some (.int i)) (some (.int q)) a8) S = some (.nx (moreE s c p k cell N' (some (.int i)) (some (.int q)) (some (.int one))), S) ∧ 0 ≤ N' := by
  let o1 : Int := (cell % q * 48271 + 1103515245 * (k + 1) + 40503 * i * i) % q
  let o2 : Int := (o1 * o1 + 11 * k + i) % q
  let N' : Int := N * 2147483647 + o2 * (o2 + i + 1) % q
  have b1 : 0 ≤ o1 ∧ o1 < q := ⟨Int.emod_nonneg _ (by omega), Int.emod_lt_of_pos _ hq.1⟩
  have b2 : 0 ≤ o2 ∧ o2 < q := ⟨Int.emod_nonneg _ (by omega), Int.emod_lt_of_pos _ hq.1⟩
  have c1 : inLine 48271 = true := by decide +kernel
  have c2 : inLine 1103515245 = true := by decide +kernel
  have c3 : inLine 40503 = true := by decide +kernel
  have c4 : inLine 11 = true := by decide +kernel
  have c5 : inLine 2147483647 = true := by decide +kernel
  have l1 : inLine i = true := inLine_of (by omega) (by omega)
  have l2 : inLine o1 = true := inLine_of (by omega) (by omega)
  have l3 : inLine o2 = true := inLine_of (by omega) (by omega)
  let e0 := moreE s c p k cell N (some (.int i)) (some (.int q)) a8
  let e1 := moreE s c p k cell N (some (.int i)) (some (.int q)) (some (.int o1))
  let e2 := moreE s c p k cell N (some (.int i)) (some (.int q)) (some (.int o2))
  have z1 : sAsg (op2 fMod (op2 fAdd (op2 fAdd (op2 fMul (op2 fMod (mVar 3) (mVar 7)) (mC (.int 48271))) (op2 fMul (mC (.int 1103515245)) (op2 fAdd (mVar 1) (mC (.int 1))))) (op2 fMul (op2 fMul (mC (.int 40503)) (mVar 6)) (mVar 6))) (mVar 7)) (gName 8) e0 S = some (.nx e1, S) :=
    asg_of (w := .int o1) (S1 := S) (op2_of (op2_of (op2_of (op2_of (op2_of (x := .int cell) (y := .int q) rfl rfl (fMod_of hq.1)) rfl (fMul_r c1)) (op2_of rfl (op2_of (x := .int k) (y := .int 1) rfl rfl fAdd_int) (fMul_l c2)) fAdd_int) (op2_of (op2_of (x := .int 40503) (y := .int i) rfl rfl (fMul_l c3)) (y := .int i) rfl (fMul_r l1)) fAdd_int) (y := .int q) rfl (fMod_of hq.1)) rfl
  have z2 : sAsg (op2 fMod (op2 fAdd (op2 fAdd (op2 fMul (mVar 8) (mVar 8)) (op2 fMul (mC (.int 11)) (mVar 1))) (mVar 6)) (mVar 7)) (gName 8) e1 S = some (.nx e2, S) :=
    asg_of (w := .int o2) (S1 := S) (op2_of (op2_of (op2_of (op2_of (x := .int o1) (y := .int o1) rfl rfl (fMul_r l2)) (op2_of (x := .int 11) (y := .int k) rfl rfl (fMul_l c4)) fAdd_int) (y := .int i) rfl fAdd_int) (y := .int q) rfl (fMod_of hq.1)) rfl
  have z3 : sAsg (op2 fAdd (op2 fMul (mVar 4) (mC (.int 2147483647))) (op2 fMod (op2 fMul (mVar 8) (op2 fAdd (op2 fAdd (mVar 8) (mVar 6)) (mC (.int 1)))) (mVar 7))) (gName 4) e2 S = some (.nx (moreE s c p k cell N' (some (.int i)) (some (.int q)) (some (.int o2))), S) :=
    asg_of (w := .int N') (S1 := S) (op2_of (op2_of (x := .int N) (y := .int 2147483647) rfl rfl (fMul_r c5)) (op2_of (op2_of (x := .int o2) rfl (op2_of (op2_of (x := .int o2) (y := .int i) rfl rfl fAdd_int) (y := .int 1) rfl fAdd_int) (fMul_l l3)) (y := .int q) rfl (fMod_of hq.1)) fAdd_int) rfl
  refine ⟨o2, N', ?_, ?_⟩
  · show sSeq2 _ _ e0 S = _
    rw [seq_of z1, seq_of z2, z3]
  · have : 0 ≤ o2 * (o2 + i + 1) % q := Int.emod_nonneg _ (by omega)
    have : 0 ≤ N * 2147483647 := Int.mul_nonneg hN (by decide)
    omega
end
end
end Gm

set_option linter.all false
namespace Gm
open PySem (Str)
section
variable {A A1 A2 : Ma} {S S0 S1 S2 S3 S' : Store} {e : Env} {adr : Role → Nat} {s c : Nat} {ns : List Int} {L : Int} {a : Nat}
theorem put_left (L L' a : Int) (c : Nat) : dPut false (drawKvs L a c) (.str "left") (.int L') = drawKvs L' a c := rfl
theorem put_at (L a a' : Int) (c : Nat) : dPut false (drawKvs L a c) (.str "at") (.int a') = drawKvs L a' c := rfl
theorem Draw.x_putAt (D : Draw S s c ns L a) {mv mo mk : ME} {v : Int} (h1 : mv e S = some (.int v, S)) (h2 : mo e S = some (.ref s, S)) (h3 : mk e S = some (.str "at", S)) : sPutD mv mo mk e S = some (.nx e, S.set s (.dct false (drawKvs L v c))) := by
  simp only [sPutD, h1, h2, h3, D.st, put_at]
  rw [if_pos ⟨rfl, by simp [drawKvs]⟩]
theorem Draw.x_putLeft (D : Draw S s c ns L a) {mv mo mk : ME} {v : Int} (h1 : mv e S0 = some (.int v, S)) (h2 : mo e S = some (.ref s, S)) (h3 : mk e S = some (.str "left", S)) : sPutD mv mo mk e S0 = some (.nx e, S.set s (.dct false (drawKvs v a c))) := by
  simp only [sPutD, h1, h2, h3, D.st, put_left]
  rw [if_pos ⟨rfl, by simp [drawKvs]⟩]
theorem pow18 : op2 fPow (mC (.int 10)) (mC (.int 18)) e S = some (.int (10 ^ 18), S) := by
  refine op2_of (x := .int 10) (y := .int 18) rfl rfl ?_
  simp only [fPow, onI]
  rw [if_pos (by decide)]
  rfl
theorem law_more_of (D : Draw S s c ns L a) : ∃ v S', F_law_more [.ref s] S = some (.int v, S') ∧ 0 ≤ v ∧ Draw S' s c ns L (a + 1) ∧ GrP s S S' := by
  let e0 : Env := [some (.ref s), none, none, none, none, none, none, none, none]
  let e1 : Env := [some (.ref s), some (.int a), none, none, none, none, none, none, none]
  let e2 : Env := [some (.ref s), some (.int a), some (.ref c), none, none, none, none, none, none]
  have z1 : sAsg (op2 fGetD (mVar 0) (mC (.str "at"))) (gName 1) e0 S = some (.nx e1, S) :=
    asg_of (w := .int a) (S1 := S) (op2_of (x := .ref s) (y := .str "at") rfl rfl D.get_at) rfl
  have D1 := D.put L (a + 1) D.nn
  have g1 : GrP s S (S.set s (.dct false (drawKvs L ((a + 1 : Nat) : Int) c))) := GrP.set
  have z2 : sPutD (op2 fAdd (mVar 1) (mC (.int 1))) (mVar 0) (mC (.str "at")) e1 S = some (.nx e1, S.set s (.dct false (drawKvs L ((a + 1 : Nat) : Int) c))) :=
    D.x_putAt (op2_of (x := .int a) (y := .int 1) rfl rfl fAdd_int) rfl rfl
  generalize hS1 : S.set s (.dct false (drawKvs L ((a + 1 : Nat) : Int) c)) = S1 at *
  have z3 : sAsg (op2 fGetD (mVar 0) (mC (.str "cells"))) (gName 2) e1 S1 = some (.nx e2, S1) :=
    asg_of (w := .ref c) (S1 := S1) (op2_of (x := .ref s) (y := .str "cells") rfl rfl D1.get_cells) rfl
  have D2 := D1.gr (Gr.one (.lst []))
  have hnew : (S1 ++ [Ob.lst []])[S1.length]? = some (.lst []) := List.getElem?_concat_length
  have q1 : op2 fNe (mVar 2) (mNew (aMax aNil)) e2 S1 = some (.bl (!ns.isEmpty), S1 ++ [.lst []]) := by
    refine op2_of (f := fNe) (ma := mVar 2) (mb := mNew (aMax aNil)) (e := e2) (S := S1) (x := .ref c) (y := .ref S1.length) (S1 := S1) (S2 := S1 ++ [.lst []]) rfl rfl ?_
    have h2 : rd (S1 ++ [.lst []]) 40 (.ref S1.length) = some (.cl []) := rd_ints (ns := []) hnew
    simp only [fNe, eqW, isSc, Bool.and_self, Bool.false_eq_true, if_false, rd_ints D2.cs, h2, eqd, eqds_nil, Option.map_some]
  obtain ⟨cell, q2⟩ : ∃ cell : Int, mIf (tVal (op2 fNe (mVar 2) (mNew (aMax aNil)))) (op1 fAbs (op2 fIx (mVar 2) (op2 fMod (mVar 1) (mLen (mVar 2))))) (mC (.int 0)) e2 S1 = some (.int cell, S1 ++ [.lst []]) := by
    cases hz : ns.isEmpty with
    | true =>
      rw [hz] at q1
      exact ⟨0, by simp only [mIf, tval_of q1]; rfl⟩
    | false =>
      rw [hz] at q1
      have hpos : 0 < ns.length := by
        cases ns with
        | nil => cases hz
        | cons x xs => simp
      have hlen : mLen (mVar 2) e2 (S1 ++ [.lst []]) = some (natW ns.length, S1 ++ [.lst []]) := by rw [len_ref (S1 := S1 ++ [.lst []]) rfl D2.cs, List.length_map]
      have hlt : (a % ns.length) < ns.length := Nat.mod_lt _ hpos
      have hm : op2 fMod (mVar 1) (mLen (mVar 2)) e2 (S1 ++ [.lst []]) = some (natW (a % ns.length), S1 ++ [.lst []]) :=
        op2_of (x := .int a) rfl hlen (by simp only [natW, fMod, onI]; rw [if_pos (by omega)]; rfl)
      have hix : op2 fIx (mVar 2) (op2 fMod (mVar 1) (mLen (mVar 2))) e2 (S1 ++ [.lst []]) = some (.int ns[a % ns.length], S1 ++ [.lst []]) :=
        op2_of (x := .ref c) rfl hm (fIx_nat (seq_ref D2.cs) (by rw [List.getElem?_map, List.getElem?_eq_getElem hlt]; rfl))
      refine ⟨if ns[a % ns.length] < 0 then -ns[a % ns.length] else ns[a % ns.length], ?_⟩
      simp only [mIf, tval_of q1, Bool.not_false, op1, hix, fAbs]
  generalize hS2 : S1 ++ [Ob.lst []] = S2 at *
  have g2 : GrP s S S2 := by rw [← hS2]; exact g1.trans (GrP.of (Gr.one _))
  let e3 : Env := [some (.ref s), some (.int a), some (.ref c), some (.int cell), none, none, none, none, none]
  have z4 := asg_of (g := gName 3) (e1 := e3) (S2 := S2) q2 rfl
  have hlen : mLen (mVar 2) e3 S2 = some (natW ns.length, S2) := by rw [len_ref (S1 := S2) rfl D2.cs, List.length_map]
  have t1 : tVal (op2 fLt (mVar 1) (mLen (mVar 2))) e3 S2 = some (decide (a < ns.length), S2) :=
    tval_of (op2_of (x := .int a) rfl hlen (by simp [fLt, onI, natW]))
  have t2 : tVal (op2 fGe (mVar 3) (op2 fPow (mC (.int 10)) (mC (.int 18)))) e3 S2 = some (decide (10 ^ 18 ≤ cell), S2) :=
    tval_of (op2_of (x := .int cell) rfl pow18 rfl)
  have t3 : tAnd (tVal (op2 fLt (mVar 1) (mLen (mVar 2)))) (tVal (op2 fGe (mVar 3) (op2 fPow (mC (.int 10)) (mC (.int 18))))) e3 S2 = some (decide (a < ns.length) && decide (10 ^ 18 ≤ cell), S2) := by
    simp only [tAnd, t1]
    cases decide (a < ns.length) with
    | true => simp only [t2, Bool.true_and]
    | false => simp
  rw [F_law_more, fnOf_eq]
  show ∃ v S', fin (b_law_more e0 S) = _ ∧ _
  unfold b_law_more
  rw [seq_of z1, seq_of z2, seq_of z3, seq_of z4]
  cases hb : (decide (a < ns.length) && decide (10 ^ 18 ≤ cell)) with
  | true =>
    rw [hb] at t3
    have hge : 10 ^ 18 ≤ cell := by
      simp at hb
      exact hb.2
    refine ⟨cell - 10 ^ 18, S2, ?_, by omega, D2, g2⟩
    rw [seq_rt (if_true_of t3 (ret_of (op2_of (x := .int cell) rfl pow18 rfl)))]
    rfl
  | false =>
    rw [hb] at t3
    rw [seq_of (if_nil_of t3)]
    let e4 : Env := [some (.ref s), some (.int a), some (.ref c), some (.int cell), some (.int 1), none, none, none, none]
    let P1 : List W := primes.map .int
    let e5 : Env := moreE s c S2.length a cell 1 none none none
    have z5 : sAsg (mC (.int 1)) (gName 4) e3 S2 = some (.nx e4, S2) := asg_of (w := .int 1) (S1 := S2) rfl rfl
    have z6 : sAsg (mNew (aMax (aCons (mC (.int 2147483629)) (aCons (mC (.int 2147483587)) (aCons (mC (.int 2147483579)) (aCons (mC (.int 2147483563)) (aCons (mC (.int 2147483549)) (aCons (mC (.int 2147483543)) (aCons (mC (.int 2147483497)) (aCons (mC (.int 2147483489)) aNil)))))))))) (gName 5) e4 S2 = some (.nx e5, S2 ++ [.lst P1]) :=
      asg_of (w := .ref S2.length) (S1 := S2 ++ [.lst P1]) rfl rfl
    rw [seq_of z5, seq_of z6]
    have D3 := D2.gr (Gr.one (.lst P1))
    have g3 := g2.trans (GrP.of (Gr.one (.lst P1)))
    have hP : (S2 ++ [Ob.lst P1])[S2.length]? = some (.lst P1) := List.getElem?_concat_length
    let ws : List W := [.tup [.int 0, .int 2147483629], .tup [.int 1, .int 2147483587], .tup [.int 2, .int 2147483579], .tup [.int 3, .int 2147483563], .tup [.int 4, .int 2147483549], .tup [.int 5, .int 2147483543], .tup [.int 6, .int 2147483497], .tup [.int 7, .int 2147483489]]
    let I : Nat → Env → Store → Prop := fun _ e S' => S' = S2 ++ [.lst P1] ∧ ∃ (N : Int) (a6 a7 a8 : Option W), 0 ≤ N ∧ e = moreE s c S2.length a cell N a6 a7 a8
    have hws : ∀ w ∈ ws, ∃ i q : Int, w = .tup [.int i, .int q] ∧ (0 ≤ i ∧ i < 8) ∧ (0 < q ∧ q < 2147483648) := by
      intro w hw
      simp only [ws, List.mem_cons, List.not_mem_nil, or_false] at hw
      rcases hw with rfl | rfl | rfl | rfl | rfl | rfl | rfl | rfl <;> exact ⟨_, _, rfl, by decide, by decide⟩
    obtain ⟨e', S', h1, ⟨rfl, N, a6, a7, a8, hN, rfl⟩⟩ := forN_inv (s := sEnum (sSeq (.ref S2.length))) (g := gTupN 2 (gCons (gName 6) (gCons (gName 7) gNil))) (body := loopB) ws I
      (fun i e S' hI hi => by
        rw [hI.1]
        simp only [sEnum, sSeq, seq_ref hP, Option.map_some]
        have hi8 : i ≤ 8 := hi
        have : i = 0 ∨ i = 1 ∨ i = 2 ∨ i = 3 ∨ i = 4 ∨ i = 5 ∨ i = 6 ∨ i = 7 ∨ i = 8 := by omega
        rcases this with rfl | rfl | rfl | rfl | rfl | rfl | rfl | rfl | rfl <;> rfl)
      (fun i w e S' hI hi => by
        obtain ⟨rfl, N, a6, a7, a8, hN, rfl⟩ := hI
        obtain ⟨i', q, rfl, hi', hq⟩ := hws w (List.mem_of_getElem? hi)
        obtain ⟨one, N', y1, y2⟩ := mix_turn (S := S2 ++ [.lst P1]) (s := s) (c := c) (p := S2.length) (k := a) (cell := cell) (N := N) (i := i') (q := q) (a8 := a8) hN hi' hq
        exact ⟨_, _, _, _, rfl, y1, rfl, N', _, _, _, y2, rfl⟩)
      turns 0 e5 (S2 ++ [.lst P1]) ⟨rfl, 1, none, none, none, by decide, rfl⟩ (Nat.zero_le _) (by show 8 - 0 < turns; unfold turns; omega)
    have z7 : sFor (iEnumX (mVar 5)) (gTupN 2 (gCons (gName 6) (gCons (gName 7) gNil))) loopB e5 (S2 ++ [.lst P1]) = some (.nx (moreE s c S2.length a cell N a6 a7 a8), S2 ++ [.lst P1]) := by
      have : iEnumX (mVar 5) e5 (S2 ++ [.lst P1]) = some (sEnum (sSeq (.ref S2.length)), S2 ++ [.lst P1]) := by
        have h5 : mVar 5 e5 (S2 ++ [.lst P1]) = some (.ref S2.length, S2 ++ [.lst P1]) := rfl
        simp only [iEnumX, h5, hP]
      simp only [sFor, this]
      exact h1
    refine ⟨N, _, ?_, hN, D3, g3⟩
    rw [seq_of z7]
    rfl
/-- a draw below k -/
theorem law_next_of (D : Draw S s c ns L a) {k : Int} (hk : 0 < k) (hk2 : k < 18446744073709551616) : ∃ v L' a' S', F_law_next [.ref s, .int k] S = some (.int v, S') ∧ 0 ≤ v ∧ v < k ∧ Draw S' s c ns L' a' ∧ GrP s S S' := by
  let e0 : Env := [some (.ref s), some (.int k), none]
  have t0 : tVal (op2 fEq (op2 fGetD (mVar 0) (mC (.str "left"))) (mC (.int 0))) e0 S = some (decide (L = 0), S) := by
    refine tval_of (op2_of (x := .int L) (y := .int 0) (op2_of (x := .ref s) (y := .str "left") rfl rfl D.get_left) rfl ?_)
    simp [fEq, eqW, isSc, eqd, Bool.beq_eq_decide_eq]
  obtain ⟨L1, a1, S1, y1, D1, g1⟩ : ∃ L1 a1 S1, sIf (tVal (op2 fEq (op2 fGetD (mVar 0) (mC (.str "left"))) (mC (.int 0)))) (sPutD (mCallN 1 F_law_more (aCons (mVar 0) aNil)) (mVar 0) (mC (.str "left"))) sNil e0 S = some (.nx e0, S1) ∧ Draw S1 s c ns L1 a1 ∧ GrP s S S1 := by
    by_cases hL : L = 0
    · obtain ⟨v, S1, m1, m2, D1, g1⟩ := law_more_of D
      have hd : decide (L = 0) = true := decide_eq_true hL
      rw [hd] at t0
      refine ⟨v, a + 1, _, if_true_of t0 (D1.x_putLeft (call1_of rfl m1) rfl rfl), D1.put v (a + 1) m2, g1.trans GrP.set⟩
    · have hd : decide (L = 0) = false := decide_eq_false hL
      rw [hd] at t0
      exact ⟨L, a, S, if_nil_of t0, D, GrP.refl⟩
  let e1 : Env := [some (.ref s), some (.int k), some (.int (L1 % k))]
  have z2 : sAsg (op2 fMod (op2 fGetD (mVar 0) (mC (.str "left"))) (mVar 1)) (gName 2) e0 S1 = some (.nx e1, S1) :=
    asg_of (w := .int (L1 % k)) (S1 := S1) (op2_of (x := .int L1) (y := .int k) (op2_of (x := .ref s) (y := .str "left") rfl rfl D1.get_left) rfl (fMod_of hk)) rfl
  have z3 : sAugD (mVar 0) (mC (.str "left")) fDiv (mVar 1) e1 S1 = some (.nx e1, S1.set s (.dct false (drawKvs (L1 / k) a1 c))) := by
    have hv0 : mVar 0 e1 S1 = some (.ref s, S1) := rfl
    have hv1 : mVar 1 e1 S1 = some (.int k, S1) := rfl
    have hdv : dVal false (drawKvs L1 a1 c) (.str "left") = some (.int L1) := rfl
    have hf : fDiv (.int L1) (.int k) S1 = some (.int (L1 / k)) := by simp only [fDiv, onI, if_pos (And.intro hk hk2)]
    have hko : kOk false (.str "left") = true := rfl
    simp only [sAugD, hv0, mC, D1.st, hko, if_true, hdv, hv1, hf, put_left, true_and]
    rw [if_pos (by simp [drawKvs])]
  refine ⟨L1 % k, L1 / k, a1, S1.set s (.dct false (drawKvs (L1 / k) a1 c)), ?_, Int.emod_nonneg _ (by omega), Int.emod_lt_of_pos _ hk, D1.put _ _ (Int.ediv_nonneg D1.nn (by omega)), g1.trans GrP.set⟩
  rw [F_law_next, fnOf_eq]
  show fin (b_law_next e0 S) = _
  unfold b_law_next
  rw [seq_of y1, seq_of z2, seq_of z3]
  rfl
end
end Gm

set_option linter.all false
namespace Gm
open PySem (Str)
namespace Ma
section
variable {A B C : Ma}
theorem runA_end {A : Ma} (h : A.ending ≠ .non) (b : Nat) : A.runA b = (A, 0) := by
  have : isNon A.ending ≠ true := fun z => h ((isNon_iff _).mp z)
  cases b with
  | zero => rfl
  | succ b => simp only [runA, if_neg this]
theorem runA_add : ∀ (a b : Nat) (A : Ma), A.Live → A.runA (a + b) = (((A.runA a).1.runA b).1, (A.runA a).2 + ((A.runA a).1.runA b).2)
  | 0, b, A, _ => by simp [runA]
  | a + 1, b, A, L => by
    rw [Nat.succ_add]
    simp only [runA]
    by_cases h : isNon A.ending = true
    · have he := (isNon_iff _).mp h
      simp only [if_pos h]
      by_cases h2 : A.rowA.2 = true
      · simp only [if_pos h2]
        rw [runA_add a b A.rowA.1 (L.row he)]
        ext <;> simp
        omega
      · simp only [if_neg h2]
        have G := L he
        obtain ⟨bd, hbd, _⟩ := G.fr (A.frames.length - 1) (by have := G.ne; omega)
        rw [runA_end (row_fault (by simpa using h2) ⟨bd, hbd⟩)]
        rfl
    · simp only [if_neg h]
      rw [runA_end (fun z => h ((isNon_iff _).mpr z))]
      rfl
/-- k rows are done, and come to B -/
def Steps (A : Ma) (k : Nat) (B : Ma) : Prop := ∀ b, A.runA (k + b) = ((B.runA b).1, k + (B.runA b).2)
theorem Steps.refl : Steps A 0 A := fun b => by simp
theorem Steps.trans {j k : Nat} (x : Steps A j B) (y : Steps B k C) : Steps A (j + k) C := fun b => by
  rw [Nat.add_assoc, x (k + b), y b]
  ext <;> simp
  omega
theorem Steps.one (he : A.ending = .non) (h : A.rowA = (B, true)) : Steps A 1 B := fun b => by
  rw [Nat.add_comm 1 b]
  simp only [runA, if_pos ((isNon_iff _).mpr he), h, if_true]
  ext <;> simp
  omega
theorem Steps.run {k : Nat} (x : Steps A k B) : A.runA k = (B, k) := by
  have := x 0
  simpa [runA] using this
/-- where a machine stands, but for its profile -/
structure Cf (A : Ma) (pl : List Bd) (en : List ((Str × Str) × Nat)) (fs : List Fr) (told : List W) (n : Nat) : Prop where
  plan : A.plan = pl
  ents : A.entries = en
  frames : A.frames = fs
  told : A.told = told
  passed : A.passed = n
  heap : A.heap = []
  ending : A.ending = .non
section
variable {pl : List Bd} {en : List ((Str × Str) × Nat)} {fs : List Fr} {told : List W} {n : Nat} {f : Fr} {bd : Bd} {r : Row}
theorem Cf.fr (h : Cf A pl en (fs ++ [f]) told n) : A.fr (A.frames.length - 1) = f ∧ A.frames.length - 1 = fs.length := by
  have h1 := h.frames
  unfold Ma.fr
  rw [h1]
  simp
theorem Cf.note (h : Cf A pl en fs told n) (p : Nat × Nat) (w : W) : Cf (A.noteA p w) pl en fs told n := by
  unfold noteA
  split
  · exact h
  · split <;> exact ⟨h.plan, h.ents, h.frames, h.told, h.passed, h.heap, h.ending⟩
theorem Cf.bump (h : Cf A pl en fs told n) : Cf A.bump pl en fs told (n + 1) := ⟨h.plan, h.ents, h.frames, h.told, by show A.passed + 1 = _; rw [h.passed], h.heap, h.ending⟩
theorem Cf.mod (h : Cf A pl en (fs ++ [f]) told n) (g : Fr) : Cf (A.mod fs.length g) pl en (fs ++ [g]) told n := by
  refine ⟨h.plan, h.ents, ?_, h.told, h.passed, h.heap, h.ending⟩
  unfold Ma.mod
  rw [h.frames]
  simp
/-- a row that neither calls, gives nor goes: its deed, then one row on -/
theorem Cf.plain (h : Cf A pl en (fs ++ [f]) told n) (hb : pl[f.body]? = some bd) (hr : bd.rows[f.row]? = some r) (hs : r.stays = false) {A1 : Ma} {g : Fr} {told1 : List W} {en1 : List ((Str × Str) × Nat)} (hd : A.deedA fs.length r = .inr A1) (h1 : Cf A1 pl en1 (fs ++ [g]) told1 n) (hg : g.row = f.row) :
    ∃ B, A.rowA = (B, true) ∧ Cf B pl en1 (fs ++ [{ g with row := f.row + 1 }]) told1 (n + 1) := by
  obtain ⟨e1, e2⟩ := h.fr
  unfold rowA
  rw [e1, h.plan, hb]
  simp only [hr]
  rw [e2, hd]
  refine ⟨_, rfl, ?_⟩
  have h2 := h1.note (f.body, f.row) (A.seenOf f r)
  have h3 := h2.fr
  unfold afterA
  rw [if_neg (by rw [hs]; decide)]
  have e3 : (A1.noteA (f.body, f.row) (A.seenOf f r)).fr fs.length = g := by rw [← h3.2]; exact h3.1
  unfold setRow
  rw [e3, hg]
  exact (h2.mod _).bump
theorem Cf.stay (h : Cf A pl en (fs ++ [f]) told n) (hb : pl[f.body]? = some bd) (hr : bd.rows[f.row]? = some r) (hs : r.stays = true) {A1 : Ma} {fs1 : List Fr} (hd : A.deedA fs.length r = .inr A1) (h1 : Cf A1 pl en fs1 told n) :
    ∃ B, A.rowA = (B, true) ∧ Cf B pl en fs1 told (n + 1) := by
  obtain ⟨e1, e2⟩ := h.fr
  unfold rowA
  rw [e1, h.plan, hb]
  simp only [hr]
  rw [e2, hd]
  refine ⟨_, rfl, ?_⟩
  unfold afterA
  rw [if_pos hs]
  exact (h1.note _ _).bump
theorem Cf.frL (h : Cf A pl en (fs ++ [f]) told n) : A.fr fs.length = f := by rw [← h.fr.2]; exact h.fr.1
theorem Cf.setBox (h : Cf A pl en (fs ++ [f]) told n) (b : Nat) (v : Val) : Cf (A.setBox fs.length b v) pl en (fs ++ [{ f with boxes := f.boxes.set b v }]) told n := by
  unfold Ma.setBox
  rw [h.frL]
  exact h.mod _
theorem Cf.one (h : Cf A pl en fs told n) {m : Nat} {told1 : List W} {fs1 : List Fr} {en1 : List ((Str × Str) × Nat)} (x : ∃ B, A.rowA = (B, true) ∧ Cf B pl en1 fs1 told1 m) : ∃ B, Steps A 1 B ∧ Cf B pl en1 fs1 told1 m := by
  obtain ⟨B, h1, h2⟩ := x
  exact ⟨B, Steps.one h.ending h1, h2⟩
/-! one row each -/
theorem Cf.number {b : Nat} {i : Int} (h : Cf A pl en (fs ++ [f]) told n) (hb : pl[f.body]? = some bd) (hr : bd.rows[f.row]? = some (.number b i)) : ∃ B, A.rowA = (B, true) ∧ Cf B pl en (fs ++ [⟨f.body, f.row + 1, f.boxes.set b (.num i)⟩]) told (n + 1) :=
  h.plain hb hr rfl rfl (h.setBox b (.num i)) rfl
theorem Cf.copy {b c : Nat} (h : Cf A pl en (fs ++ [f]) told n) (hb : pl[f.body]? = some bd) (hr : bd.rows[f.row]? = some (.copy b c)) : ∃ B, A.rowA = (B, true) ∧ Cf B pl en (fs ++ [⟨f.body, f.row + 1, f.boxes.set b (f.box c)⟩]) told (n + 1) := by
  refine h.plain hb hr rfl ?_ (h.setBox b (f.box c)) rfl
  simp only [deedA, h.frL]
theorem Cf.reck {k : Rk} {b c d : Nat} {v : Val} (h : Cf A pl en (fs ++ [f]) told n) (hb : pl[f.body]? = some bd) (hr : bd.rows[f.row]? = some (.reck k b c d)) (hv : reckon k (f.box c) (f.box d) = .inr v) : ∃ B, A.rowA = (B, true) ∧ Cf B pl en (fs ++ [⟨f.body, f.row + 1, f.boxes.set b v⟩]) told (n + 1) := by
  refine h.plain hb hr rfl ?_ (h.setBox b v) rfl
  simp only [deedA, h.frL, hv]
theorem Cf.tell {c : Nat} (h : Cf A pl en (fs ++ [f]) told n) (hb : pl[f.body]? = some bd) (hr : bd.rows[f.row]? = some (.tell c)) : ∃ B, A.rowA = (B, true) ∧ Cf B pl en (fs ++ [⟨f.body, f.row + 1, f.boxes⟩]) (told ++ [A.evOf (f.box c)]) (n + 1) := by
  refine h.plain (A1 := { A with told := A.told ++ [A.evOf (f.box c)] }) (g := f) hb hr rfl ?_ ⟨h.plan, h.ents, h.frames, ?_, h.passed, h.heap, h.ending⟩ rfl
  · simp only [deedA, h.frL]
  · show A.told ++ _ = _
    rw [h.told]
theorem Cf.anew {k nm : Str} {b : Nat} (h : Cf A pl en (fs ++ [f]) told n) (hb : pl[f.body]? = some bd) (hr : bd.rows[f.row]? = some (.anew k nm b)) : ∃ B, A.rowA = (B, true) ∧ Cf B pl (putE en (k, nm) b) (fs ++ [⟨f.body, f.row + 1, f.boxes⟩]) told (n + 1) := by
  refine h.plain (A1 := { A with entries := putE A.entries (k, nm) b }) (g := f) hb hr rfl rfl ⟨h.plan, ?_, h.frames, h.told, h.passed, h.heap, h.ending⟩ rfl
  show putE A.entries _ _ = _
  rw [h.ents]
theorem Cf.go {q : Nat} (h : Cf A pl en (fs ++ [f]) told n) (hb : pl[f.body]? = some bd) (hr : bd.rows[f.row]? = some (.go q)) : ∃ B, A.rowA = (B, true) ∧ Cf B pl en (fs ++ [⟨f.body, q, f.boxes⟩]) told (n + 1) := by
  refine h.stay hb hr rfl rfl ?_
  unfold setRow
  rw [h.frL]
  exact h.mod _
theorem Cf.iff {c q : Nat} (h : Cf A pl en (fs ++ [f]) told n) (hb : pl[f.body]? = some bd) (hr : bd.rows[f.row]? = some (.iff c q)) : ∃ B, A.rowA = (B, true) ∧ Cf B pl en (fs ++ [⟨f.body, if truth (f.box c) then q else f.row + 1, f.boxes⟩]) told (n + 1) := by
  refine h.stay hb hr rfl rfl ?_
  unfold setRow
  rw [h.frL]
  exact h.mod _
theorem Cf.call {b a : Nat} {nm : Str} {as : List Nat} {b' : Nat} {bd' : Bd} (h : Cf A pl en (fs ++ [f]) told n) (hb : pl[f.body]? = some bd) (hr : bd.rows[f.row]? = some (.call b nm a as)) (he : getE en (A.kindOf (f.box a), nm) = some b') (hb' : pl[b']? = some bd') (ht : bd'.takes = as.length + 1) (hl : fs.length + 1 < 40) :
    ∃ B, A.rowA = (B, true) ∧ Cf B pl en (fs ++ [f] ++ [Ma.newFr bd' b' ((a :: as).map f.box)]) told (n + 1) := by
  have ha : A.argsOf fs.length (a :: as) = (a :: as).map f.box := by
    unfold argsOf
    rw [h.frL]
    rfl
  have hfr : A.fresh ((A.argsOf fs.length (a :: as)).headD .non) nm (a :: as).length = .inr (b', bd') := by
    rw [ha]
    unfold fresh
    have e1 : ((a :: as).map f.box).headD .non = f.box a := rfl
    rw [e1, h.ents, he]
    simp only [h.plan, hb', List.length_cons, ht]
    rw [if_neg (by simp), if_neg (by rw [h.frames]; simp; omega)]
  refine h.stay (A1 := A.push (newFr bd' b' (A.argsOf fs.length (a :: as)))) hb hr rfl ?_ ⟨h.plan, h.ents, ?_, h.told, h.passed, h.heap, h.ending⟩
  · simp only [deedA, callA, hfr]
  · show A.frames ++ _ = _
    rw [h.frames, ha]
theorem Cf.giveIn {A : Ma} {g : Fr} (h : Cf A pl en (fs ++ [g] ++ [f]) told n) (v : Val) {bg : Bd} (hg : pl[g.body]? = some bg) {b a : Nat} {nm : Str} {as : List Nat} (hc : bg.rows[g.row]? = some (.call b nm a as)) : Cf (A.giveA v) pl en (fs ++ [⟨g.body, g.row + 1, g.boxes.set b v⟩]) told n := by
  have hl : A.frames.length = fs.length + 2 := by rw [h.frames]; simp
  have e1 : A.fr (A.frames.length - 2) = g := by
    rw [hl]
    unfold Ma.fr
    rw [h.frames]
    simp
  unfold giveA
  rw [if_neg (by omega), e1]
  have hra : A.rowAt g = some (.call b nm a as) := by
    unfold rowAt bdOf
    rw [h.plan, hg]
    exact hc
  rw [hra]
  have hp : A.popped.frames = fs ++ [g] := by
    unfold popped
    rw [h.frames]
    simp
  have hcp : Cf A.popped pl en (fs ++ [g]) told n := ⟨h.plan, h.ents, hp, h.told, h.passed, h.heap, h.ending⟩
  simp only
  unfold gotA
  rw [show A.frames.length - 2 = fs.length by omega, hcp.frL]
  exact hcp.mod _
theorem Cf.give {g : Fr} {c : Nat} (h : Cf A pl en (fs ++ [g] ++ [f]) told n) (hb : pl[f.body]? = some bd) (hr : bd.rows[f.row]? = some (.give c)) {bg : Bd} (hg : pl[g.body]? = some bg) {b a : Nat} {nm : Str} {as : List Nat} (hc : bg.rows[g.row]? = some (.call b nm a as)) :
    ∃ B, A.rowA = (B, true) ∧ Cf B pl en (fs ++ [⟨g.body, g.row + 1, g.boxes.set b (f.box c)⟩]) told (n + 1) := by
  refine h.stay hb hr rfl ?_ (h.giveIn (f.box c) hg hc)
  simp only [deedA, h.frL]
/-- the first frame gives: the end -/
theorem Cf.giveEnd {c : Nat} (h : Cf A pl en [f] told n) (hb : pl[f.body]? = some bd) (hr : bd.rows[f.row]? = some (.give c)) :
    ∃ B, Steps A 1 B ∧ B.ending = .tup [.str "gave", A.evOf (f.box c)] ∧ B.told = told ∧ B.passed = n + 1 ∧ B.frames = [] ∧ B.entries = en := by
  have h' : Cf A pl en ([] ++ [f]) told n := h
  obtain ⟨e1, e2⟩ := h'.fr
  have hl : A.frames.length = 1 := by rw [h.frames]; rfl
  have hd : A.deedA 0 (.give c) = .inr { A.popped with ending := .tup [.str "gave", A.evOf (f.box c)] } := by
    simp only [deedA]
    rw [show A.fr 0 = f from h'.frL]
    unfold giveA
    rw [if_pos (by omega)]
  have hrow : A.rowA = (Ma.bump (noteA { A.popped with ending := .tup [.str "gave", A.evOf (f.box c)] } (f.body, f.row) .non), true) := by
    unfold rowA
    rw [e1, h.plan, hb]
    simp only [hr]
    rw [e2, List.length_nil, hd]
    rfl
  refine ⟨_, Steps.one h.ending hrow, rfl, h.told, by show A.passed + 1 = _; rw [h.passed], ?_, h.ents⟩
  show A.popped.frames = []
  unfold popped
  rw [h.frames]
  rfl
/-- a fault: the end -/
theorem Cf.fault {w : Str} (h : Cf A pl en (fs ++ [f]) told n) (hb : pl[f.body]? = some bd) (hr : bd.rows[f.row]? = some r) (hd : A.deedA fs.length r = .inl w) :
    ∃ B, (∀ b, A.runA (b + 1) = (B, 0)) ∧ B.ending = faultW w f ∧ B.told = told ∧ B.passed = n ∧ B.frames = fs ++ [f] ∧ B.entries = en := by
  obtain ⟨e1, e2⟩ := h.fr
  have hrow : A.rowA = ({ A with ending := faultW w f }, false) := by
    unfold rowA
    rw [e1, h.plan, hb]
    simp only [hr]
    rw [e2, hd]
  refine ⟨{ A with ending := faultW w f }, fun b => ?_, rfl, h.told, h.passed, h.frames, h.ents⟩
  simp only [runA, if_pos ((isNon_iff _).mpr h.ending), hrow, Bool.false_eq_true, if_false]
end
end
end Ma
end Gm

set_option linter.all false
namespace Gm
open PySem (Str)
section
variable {S S1 S' : Store} {e : Env}
/-- two things told alike, kind by kind, so deep -/
def Al (S : Store) : Nat → W → W → Prop
  | 0, _, _ => False
  | _ + 1, .non, .non => True
  | _ + 1, .bl a, .bl b => a = b
  | _ + 1, .int i, .int j => i = j
  | _ + 1, .str x, .str y => x = y
  | n + 1, .tup xs, .tup ys => xs.length = ys.length ∧ xs.length < 100000 ∧ ∀ p ∈ xs.zip ys, Al S n p.1 p.2
  | n + 1, .ref a, .ref b => ∃ xs ys, S[a]? = some (.lst xs) ∧ S[b]? = some (.lst ys) ∧ xs.length = ys.length ∧ xs.length < 100000 ∧ ∀ p ∈ xs.zip ys, Al S n p.1 p.2
  | _, _, _ => False
theorem zip_get {xs ys : List W} (hl : xs.length = ys.length) (i : Nat) : (match xs[i]?, ys[i]? with | some v, some w => some (W.tup [v, w]) | _, _ => none) = ((xs.zip ys).map fun p => W.tup [p.1, p.2])[i]? := by
  rw [List.getElem?_map]
  by_cases h : i < xs.length
  · have h1 : xs[i]? = some xs[i] := List.getElem?_eq_getElem h
    have h2 : ys[i]? = some (ys[i]'(by omega)) := List.getElem?_eq_getElem (by omega)
    have h3 : (xs.zip ys)[i]? = some (xs[i], ys[i]'(by omega)) := List.getElem?_zip_eq_some.mpr ⟨h1, h2⟩
    rw [h1, h2, h3]
    rfl
  · have h1 : xs[i]? = none := List.getElem?_eq_none (by omega)
    have h3 : (xs.zip ys)[i]? = none := List.getElem?_eq_none (by rw [List.length_zip]; omega)
    rw [h1, h3]
    rfl
/-- the pairs, all told alike -/
theorem alike_all {F : Fn} {x y : W} {xs ys : List W} {s : Src} (hi : iZipX (mVar 0) (mVar 1) [some x, some y, none, none] S = some (s, S)) (hs : ∀ i, s i S = some (match xs[i]?, ys[i]? with | some v, some w => some (W.tup [v, w]) | _, _ => none))
    (hl : xs.length = ys.length) (hlen : xs.length < 100000) (hF : ∀ p ∈ xs.zip ys, F [p.1, p.2] S = some (.bl true, S)) :
    mAll (aComp (iZipX (mVar 0) (mVar 1)) (gTupN 2 (gCons (gName 2) (gCons (gName 3) gNil))) tYes (mCallN 2 F (aCons (mVar 2) (aCons (mVar 3) aNil))) [2, 3]) [some x, some y, none, none] S = some (.bl true, S) := by
  have ha : xs.all (fun _ => true) = true := by simp
  rw [← ha]
  refine mAll_of (p := fun _ => true) (l := xs) ?_
  simp only [aComp, hi]
  have hz : (xs.zip ys).length = xs.length := by rw [List.length_zip]; omega
  refine compN_pure ((xs.zip ys).map fun p => W.tup [p.1, p.2]) _ (fun i _ => by rw [hs, zip_get hl]) (by rw [List.length_map, List.length_map, hz]) (by rw [List.length_map, hz]; exact hlen) fun i w hw => ?_
  rw [List.getElem?_map] at hw
  cases hp : (xs.zip ys)[i]? with
  | none => rw [hp] at hw; cases hw
  | some p =>
    rw [hp] at hw
    cases hw
    have hi : i < xs.length := by rw [← hz]; exact (List.getElem?_eq_some_iff.mp hp).1
    refine ⟨[some x, some y, some p.1, some p.2], .bl true, rfl, rfl, call2_of rfl rfl (hF p (List.mem_of_getElem? hp)), ?_⟩
    rw [List.getElem?_map, List.getElem?_eq_getElem hi]
    rfl
theorem alike_of : ∀ (n : Nat) (x y : W), Al S n x y → F_law_alike n [x, y] S = some (.bl true, S)
  | 0, _, _, h => h.elim
  | n + 1, x, y, h => by
    rw [F_law_alike, fnOf_eq]
    show fin (b_law_alike (F_law_alike n) [some x, some y, none, none] S) = _
    unfold b_law_alike
    have isSeq : ∀ {xs ys : List W} {s : Src} {t : String}, tyW S x = some t → tyW S y = some t → (t = "list" ∨ t = "tuple") → mLen (mVar 0) [some x, some y, none, none] S = some (natW xs.length, S) → mLen (mVar 1) [some x, some y, none, none] S = some (natW ys.length, S) →
        iZipX (mVar 0) (mVar 1) [some x, some y, none, none] S = some (s, S) → (∀ i, s i S = some (match xs[i]?, ys[i]? with | some v, some w => some (W.tup [v, w]) | _, _ => none)) → xs.length = ys.length → xs.length < 100000 → (∀ p ∈ xs.zip ys, Al S n p.1 p.2) →
        fin ((sSeq2 (sIf (tVal (op1 (fIs2 "list" "tuple") (mVar 1))) (sSeq2 (sIf (tOr (tVal (op2 fNe (op1 (fIs "list") (mVar 0)) (op1 (fIs "list") (mVar 1)))) (tVal (op2 fNe (op1 (fIs "tuple") (mVar 0)) (op1 (fIs "tuple") (mVar 1))))) (sRet (mC (.bl false))) sNil)
    (sRet (mAnd (op2 fEq (mLen (mVar 0)) (mLen (mVar 1))) (mAll (aComp (iZipX (mVar 0) (mVar 1)) (gTupN 2 (gCons (gName 2) (gCons (gName 3) gNil))) tYes (mCallN 2 (F_law_alike n) (aCons (mVar 2) (aCons (mVar 3) aNil))) [2, 3]))))) sNil)
    (sSeq2 (sIf (tOr (tVal (op1 fIsN (mVar 1))) (tVal (op1 (fIs "bool") (mVar 1)))) (sRet (mIf (tVal (op1 fIsN (mVar 1))) (op1 fIsN (mVar 0)) (mAnd (op1 (fIs "bool") (mVar 0)) (op2 fEq (mVar 0) (mVar 1))))) sNil)
    (sSeq2 (sIf (tVal (op1 (fIs "int") (mVar 1))) (sRet (mAnd (op1 (fIs "int") (mVar 0)) (mAnd (mNot (op1 (fIs "bool") (mVar 0))) (op2 fEq (mVar 0) (mVar 1))))) sNil)
    (sRet (mAnd (op1 (fIs "str") (mVar 0)) (op2 fEq (mVar 0) (mVar 1))))))) [some x, some y, none, none] S) = some (.bl true, S) := by
      intro xs ys s t tx ty ht l1 l2 hi hs hl hlen hp
      have f1 : ∀ c, op1 (fIs c) (mVar 0) [some x, some y, none, none] S = some (.bl (isTy c t), S) := fun c => by simp [op1, mVar, fIs, tx]
      have f2 : ∀ c, op1 (fIs c) (mVar 1) [some x, some y, none, none] S = some (.bl (isTy c t), S) := fun c => by simp [op1, mVar, fIs, ty]
      have c1 : tVal (op1 (fIs2 "list" "tuple") (mVar 1)) [some x, some y, none, none] S = some (true, S) := by
        rcases ht with rfl | rfl <;> simp [tVal, op1, mVar, fIs2, ty, isTy]
      have c2 : tOr (tVal (op2 fNe (op1 (fIs "list") (mVar 0)) (op1 (fIs "list") (mVar 1)))) (tVal (op2 fNe (op1 (fIs "tuple") (mVar 0)) (op1 (fIs "tuple") (mVar 1)))) [some x, some y, none, none] S = some (false, S) := by
        have a1 : ∀ b : Bool, fNe (.bl b) (.bl b) S = some (.bl false) := fun b => by simp [fNe, eqW, isSc, eqd]
        have b1 := tval_of (op2_of (f1 "list") (f2 "list") (a1 _))
        have b2 := tval_of (op2_of (f1 "tuple") (f2 "tuple") (a1 _))
        simp only [tOr, b1, b2]
      have c3 : op2 fEq (mLen (mVar 0)) (mLen (mVar 1)) [some x, some y, none, none] S = some (.bl true, S) := op2_of l1 l2 (by simp [fEq, eqW, isSc, eqd, natW, hl])
      have c4 := alike_all (F := F_law_alike n) hi hs hl hlen fun p hp' => alike_of n p.1 p.2 (hp p hp')
      rw [seq_rt (if_true_of c1 ((seq_of (if_nil_of c2)).trans (ret_of (mAnd_t c3 c4))))]
      rfl
    cases x with
    | non => cases y <;> first | exact h.elim | (simp [sSeq2, sIf, sRet, sNil, tVal, tOr, tNot, op1, mVar, fIs2, fIs, tyW, isTy, fIsN, isNon, mIf, fin])
    | bl a => cases y <;> first | exact h.elim | (cases h; simp [sSeq2, sIf, sRet, sNil, tVal, tOr, tNot, op1, op2, mVar, fIs2, fIs, tyW, isTy, fIsN, isNon, mIf, mAnd, fEq, eqW, isSc, eqd, fin])
    | int i => cases y <;> first | exact h.elim | (cases h; simp [sSeq2, sIf, sRet, sNil, tVal, tOr, tNot, op1, op2, mVar, fIs2, fIs, tyW, isTy, fIsN, isNon, mIf, mAnd, mNot, fEq, eqW, isSc, eqd, fin])
    | str i => cases y <;> first | exact h.elim | (cases h; simp [sSeq2, sIf, sRet, sNil, tVal, tOr, tNot, op1, op2, mVar, fIs2, fIs, tyW, isTy, fIsN, isNon, mIf, mAnd, mNot, fEq, eqW, isSc, eqd, fin])
    | tup xs =>
      cases y with
      | tup ys =>
        obtain ⟨h1, h2, h3⟩ := h
        exact isSeq (xs := xs) (ys := ys) (s := sZip2 (.tup xs) (.tup ys)) rfl rfl (.inr rfl) (by simp [mLen, op1, mVar, natW]) (by simp [mLen, op1, mVar, natW]) rfl (fun i => by
          simp only [sZip2, seqOf]
          cases xs[i]? <;> cases ys[i]? <;> rfl) h1 h2 h3
      | _ => exact h.elim
    | ref a =>
      cases y with
      | ref b =>
        obtain ⟨xs, ys, g1, g2, h1, h2, h3⟩ := h
        exact isSeq (xs := xs) (ys := ys) (s := sZip2 (.ref a) (.ref b)) (by simp [tyW, g1]) (by simp [tyW, g2]) (.inl rfl) (len_ref rfl g1) (len_ref rfl g2) (by simp [iZipX, mVar, g1, g2]) (fun i => by
          simp only [sZip2, seq_ref g1, seq_ref g2]
          cases xs[i]? <;> cases ys[i]? <;> rfl) h1 h2 h3
      | _ => exact h.elim
    | _ => cases y <;> exact h.elim
/-- a list of data and its copy are told alike -/
theorem al_same {n : Nat} (h : ∀ x ∈ [W.non], True) : True := trivial
end
end Gm

set_option linter.all false
namespace Gm
open PySem (Str)
open Ma
namespace K17
def rows0 (first rounds : Int) : List Row := [.number 0 first, .number 1 rounds, .number 2 1, .iff 1 5, .give 0, .call 3 "more" 1 [], .reck .plus 0 0 3, .tell 0, .reck .less 1 1 2, .go 3]
def rows1 (each : Int) (pad : Nat) : List Row := List.replicate pad (.copy 1 0) ++ [.number 0 each, .give 0]
def bd0 (first rounds : Int) : Bd := ⟨0, 4, rows0 first rounds⟩
def bd1 (each : Int) (pad : Nat) : Bd := ⟨1, 2, rows1 each pad⟩
def pl (first rounds each : Int) (pad : Nat) : List Bd := [bd0 first rounds, bd1 each pad]
def en : List ((Str × Str) × Nat) := [(("number", "more"), 1)]
section
variable {A : Ma} {first rounds each t k : Int} {pad n : Nat} {told : List W} {x : Val}
abbrev hd (t k : Int) (x : Val) : List Fr := [⟨0, 3, [.num t, .num k, .num 1, x]⟩]
theorem getE_more : getE en ("number", "more") = some 1 := by decide +kernel
theorem step2 {A : Ma} {i j : Nat} {P Q : Ma → Prop} (h : ∃ B, Steps A i B ∧ P B) (g : ∀ B, P B → ∃ C, Steps B j C ∧ Q C) : ∃ C, Steps A (i + j) C ∧ Q C := by
  obtain ⟨B, h1, h2⟩ := h
  obtain ⟨C, g1, g2⟩ := g B h2
  exact ⟨C, h1.trans g1, g2⟩
/-- the called body: its copies, its number -/
theorem pads (hp : pad < 3) {k : Int} : ∀ (i : Nat) (A : Ma) (u : Val) (n : Nat), i ≤ pad → Cf A (pl first rounds each pad) en (hd5 ++ [⟨1, pad - i, [.num k, u]⟩]) told n →
    ∃ B, Steps A i B ∧ ∃ u', Cf B (pl first rounds each pad) en (hd5 ++ [⟨1, pad, [.num k, u']⟩]) told (n + i)
  | 0, A, u, n, _, h => ⟨A, Steps.refl, u, h⟩
  | i + 1, A, u, n, hi, h => by
    have hr : (bd1 each pad).rows[pad - (i + 1)]? = some (.copy 1 0) := by
      show (rows1 each pad)[pad - (i + 1)]? = _
      unfold rows1
      rw [List.getElem?_append_left (by rw [List.length_replicate]; omega), List.getElem?_replicate, if_pos (by omega)]
    have h1 := h.one (h.copy (bd := bd1 each pad) rfl hr)
    have e : pad - (i + 1) + 1 = pad - i := by omega
    rw [show i + 1 = 1 + i by omega]
    refine step2 h1 fun B hB => ?_
    have hB' : Cf B (pl first rounds each pad) en (hd5 ++ [⟨1, pad - i, [.num k, .num k]⟩]) told (n + 1) := by
      have := hB
      simp only [e] at this
      exact this
    obtain ⟨C, c1, u', c2⟩ := pads hp i B (.num k) (n + 1) (by omega) hB'
    exact ⟨C, c1, u', by rw [show n + (1 + i) = n + 1 + i by omega]; exact c2⟩
/-- a round, to the sum -/
theorem round1 (hp : pad < 3) (hk : k ≠ 0) (h : Cf A (pl first rounds each pad) en (hd t k x) told n) :
    ∃ B, Steps A (4 + pad) B ∧ Cf B (pl first rounds each pad) en [⟨0, 6, [.num t, .num k, .num 1, .num each]⟩] told (n + (4 + pad)) := by
  have h0 : Cf A (pl first rounds each pad) en ([] ++ [⟨0, 3, [.num t, .num k, .num 1, x]⟩]) told n := h
  have s1 := h0.one (h0.iff (bd := bd0 first rounds) (c := 1) (q := 5) rfl rfl)
  have ht : truth (Fr.box ⟨0, 3, [.num t, .num k, .num 1, x]⟩ 1) = true := by
    show decide (k ≠ 0) = true
    simpa using hk
  rw [ht] at s1
  simp only [if_true] at s1
  have main : ∃ B, Steps A (1 + (1 + (pad + (1 + 1)))) B ∧ Cf B (pl first rounds each pad) en [⟨0, 6, [.num t, .num k, .num 1, .num each]⟩] told (n + (4 + pad)) := by
    refine step2 s1 fun B hB => ?_
    have s2 := hB.one (hB.call (bd := bd0 first rounds) (b := 3) (nm := "more") (a := 1) (as := []) (b' := 1) (bd' := bd1 each pad) rfl rfl getE_more rfl rfl (by simp))
    refine step2 s2 fun C hC => ?_
    have hC' : Cf C (pl first rounds each pad) en ([⟨0, 5, [.num t, .num k, .num 1, x]⟩] ++ [⟨1, pad - pad, [.num k, .non]⟩]) told (n + 1 + 1) := by
      rw [Nat.sub_self]
      exact hC
    have s3 := pads (hd5 := [⟨0, 5, [.num t, .num k, .num 1, x]⟩]) hp pad C .non (n + 1 + 1) (Nat.le_refl _) hC'
    refine step2 s3 fun D ⟨u', hD⟩ => ?_
    have r1 : (bd1 each pad).rows[pad]? = some (.number 0 each) := by
      show (rows1 each pad)[pad]? = _
      unfold rows1
      rw [List.getElem?_append_right (by simp)]
      simp
    have r2 : (bd1 each pad).rows[pad + 1]? = some (.give 0) := by
      show (rows1 each pad)[pad + 1]? = _
      unfold rows1
      rw [List.getElem?_append_right (by simp)]
      simp
    have s4 := hD.one (hD.number (bd := bd1 each pad) rfl r1)
    refine step2 s4 fun E hE => ?_
    have hE' : Cf E (pl first rounds each pad) en ([] ++ [⟨0, 5, [.num t, .num k, .num 1, x]⟩] ++ [⟨1, pad + 1, [.num each, u']⟩]) told (n + 1 + 1 + pad + 1) := hE
    have s5 := hE'.one (hE'.give (bd := bd1 each pad) (bg := bd0 first rounds) (c := 0) rfl r2 rfl (b := 3) (nm := "more") (a := 1) (as := []) rfl)
    rw [show n + (4 + pad) = n + 1 + 1 + pad + 1 + 1 by omega]
    exact s5
  obtain ⟨B, h1, h2⟩ := main
  exact ⟨B, by rw [show 4 + pad = 1 + (1 + (pad + (1 + 1))) by omega]; exact h1, h2⟩
theorem round (hp : pad < 3) (hk : k ≠ 0) (hkl : lim (k - 1)) (ht : lim (t + each)) (h : Cf A (pl first rounds each pad) en (hd t k x) told n) :
    ∃ B, Steps A (8 + pad) B ∧ Cf B (pl first rounds each pad) en (hd (t + each) (k - 1) (.num each)) (told ++ [.int (t + each)]) (n + (8 + pad)) := by
  have main : ∃ B, Steps A ((4 + pad) + (1 + (1 + (1 + 1)))) B ∧ Cf B (pl first rounds each pad) en (hd (t + each) (k - 1) (.num each)) (told ++ [.int (t + each)]) (n + (8 + pad)) := by
    refine step2 (round1 hp hk h) fun B hB => ?_
    have hB' : Cf B (pl first rounds each pad) en ([] ++ [⟨0, 6, [.num t, .num k, .num 1, .num each]⟩]) told (n + (4 + pad)) := hB
    have q1 : reckon .plus (.num t) (.num each) = .inr (.num (t + each)) := by
      simp [reckon, Rk.on, ht]
    have s1 := hB'.one (hB'.reck (bd := bd0 first rounds) (k := .plus) (b := 0) (c := 0) (d := 3) (v := .num (t + each)) rfl rfl q1)
    refine step2 s1 fun C hC => ?_
    have s2 := hC.one (hC.tell (bd := bd0 first rounds) (c := 0) rfl rfl)
    refine step2 s2 fun D hD => ?_
    have q2 : reckon .less (.num k) (.num 1) = .inr (.num (k - 1)) := by
      simp [reckon, Rk.on, hkl]
    have s3 := hD.one (hD.reck (bd := bd0 first rounds) (k := .less) (b := 1) (c := 1) (d := 2) (v := .num (k - 1)) rfl rfl q2)
    refine step2 s3 fun E hE => ?_
    have s4 := hE.one (hE.go (bd := bd0 first rounds) (q := 3) rfl rfl)
    rw [show n + (8 + pad) = n + (4 + pad) + 1 + 1 + 1 + 1 by omega]
    exact s4
  obtain ⟨B, h1, h2⟩ := main
  exact ⟨B, by rw [show 8 + pad = (4 + pad) + (1 + (1 + (1 + 1))) by omega]; exact h1, h2⟩
end
end K17
end Gm

set_option linter.all false
namespace Gm
open PySem (Str)
open Ma
namespace K17
def gaveW (t : Int) : W := .tup [.str "gave", .int t]
def greatW : W := .tup [.str "fault", .str "great", .int 0, .int 6]
/-- what the rounds come to: what is told, the end, how many rows -/
def walk (each : Int) (pad : Nat) : Nat → Int → List Int → Nat → List Int × W × Nat
  | 0, t, ev, n => (ev, gaveW t, n + 2)
  | r + 1, t, ev, n => if lim (t + each) then walk each pad r (t + each) (ev ++ [t + each]) (n + (8 + pad)) else (ev, greatW, n + (4 + pad))
section
variable {first rounds each : Int} {pad : Nat}
theorem walkM (hp : pad < 3) : ∀ (r : Nat) (A : Ma) (t : Int) (x : Val) (ev : List Int) (n : Nat), r ≤ 195 → Cf A (pl first rounds each pad) en (hd t (r : Int) x) (ev.map .int) n →
    ∃ B K, (∀ b, A.runA (K + 1 + b) = (B, K)) ∧ K ≤ r * 10 + 2 ∧ B.ending = (walk each pad r t ev n).2.1 ∧ B.told = (walk each pad r t ev n).1.map .int ∧ B.passed = (walk each pad r t ev n).2.2 ∧ n + K = B.passed
  | 0, A, t, x, ev, n, _, h => by
    have h0 : Cf A (pl first rounds each pad) en ([] ++ [⟨0, 3, [.num t, .num 0, .num 1, x]⟩]) (ev.map .int) n := h
    obtain ⟨B, s1, hB⟩ := h0.one (h0.iff (bd := bd0 first rounds) (c := 1) (q := 5) rfl rfl)
    have ht : truth (Fr.box ⟨0, 3, [.num t, .num 0, .num 1, x]⟩ 1) = false := rfl
    rw [ht] at hB
    obtain ⟨C, s2, e1, e2, e3, _⟩ := Cf.giveEnd (c := 0) (f := ⟨0, 4, [.num t, .num 0, .num 1, x]⟩) hB (bd := bd0 first rounds) rfl rfl
    refine ⟨C, 2, fun b => ?_, by omega, e1, e2, e3, by rw [e3]⟩
    have s := s1.trans s2
    have hce : C.ending ≠ .non := by rw [e1]; simp
    rw [show 2 + 1 + b = 1 + 1 + (1 + b) by omega, s, runA_end hce]
    rfl
  | r + 1, A, t, x, ev, n, hr, h => by
    have hk : ((r + 1 : Nat) : Int) ≠ 0 := by omega
    by_cases hl : lim (t + each)
    · have hkl : lim (((r + 1 : Nat) : Int) - 1) := by
        unfold lim
        omega
      obtain ⟨B, s, hB⟩ := round hp hk hkl hl h
      have e : ((r + 1 : Nat) : Int) - 1 = (r : Int) := by omega
      rw [e] at hB
      have hB' : Cf B (pl first rounds each pad) en (hd (t + each) (r : Int) (.num each)) ((ev ++ [t + each]).map .int) (n + (8 + pad)) := by
        rw [List.map_append]
        exact hB
      obtain ⟨C, K, k1, k2, k3, k4, k5, k6⟩ := walkM hp r B (t + each) (.num each) (ev ++ [t + each]) (n + (8 + pad)) (by omega) hB'
      refine ⟨C, 8 + pad + K, fun b => ?_, by omega, ?_, ?_, ?_, by omega⟩
      · rw [show 8 + pad + K + 1 + b = (8 + pad) + (K + 1 + b) by omega, s, k1]
      · simp only [walk, if_pos hl]
        exact k3
      · simp only [walk, if_pos hl]
        exact k4
      · simp only [walk, if_pos hl]
        exact k5
    · obtain ⟨B, s, hB⟩ := round1 hp hk h
      have hB' : Cf B (pl first rounds each pad) en ([] ++ [⟨0, 6, [.num t, .num ((r + 1 : Nat) : Int), .num 1, .num each]⟩]) (ev.map .int) (n + (4 + pad)) := hB
      have hd : B.deedA ([] : List Fr).length (.reck .plus 0 0 3) = .inl "great" := by
        simp only [deedA, hB'.frL]
        show (match reckon .plus (.num t) (.num each) with | .inl f => Sum.inl f | .inr v => _) = _
        simp [reckon, Rk.on, hl]
      obtain ⟨C, c1, c2, c3, c4, _⟩ := hB'.fault (bd := bd0 first rounds) rfl rfl hd
      refine ⟨C, 4 + pad, fun b => ?_, by omega, ?_, ?_, ?_, by omega⟩
      · rw [show 4 + pad + 1 + b = (4 + pad) + (b + 1) by omega, s, c1]
        rfl
      · simp only [walk, if_neg hl]
        exact c2
      · simp only [walk, if_neg hl]
        exact c3
      · simp only [walk, if_neg hl]
        exact c4
/-- the machine's beginning -/
def A0 (p : Nat) (first rounds each : Int) (pad : Nat) : Ma := Ma.start p [] (pl first rounds each pad) en [Ma.first (bd0 first rounds) 0 []]
theorem begin_run {r : Nat} (hp : pad < 3) (hr : r ≤ 195) (p : Nat) :
    ∃ B K, (∀ b, (A0 p first r each pad).runA (K + 1 + b) = (B, K)) ∧ K ≤ 2000 ∧ B.ending = (walk each pad r first [] 3).2.1 ∧ B.told = (walk each pad r first [] 3).1.map .int ∧ B.passed = (walk each pad r first [] 3).2.2 ∧ K = B.passed := by
  have h0 : Cf (A0 p first r each pad) (pl first r each pad) en ([] ++ [⟨0, 0, [.non, .non, .non, .non]⟩]) [] 0 := ⟨rfl, rfl, rfl, rfl, rfl, rfl, rfl⟩
  obtain ⟨B1, s1, h1⟩ := h0.one (h0.number (bd := bd0 first r) (b := 0) (i := first) rfl rfl)
  obtain ⟨B2, s2, h2⟩ := h1.one (h1.number (bd := bd0 first r) (b := 1) (i := r) rfl rfl)
  obtain ⟨B3, s3, h3⟩ := h2.one (h2.number (bd := bd0 first r) (b := 2) (i := 1) rfl rfl)
  have h3' : Cf B3 (pl first r each pad) en (hd first (r : Int) .non) (([] : List Int).map .int) 3 := h3
  obtain ⟨C, K, k1, k2, k3, k4, k5, k6⟩ := walkM hp r B3 first .non [] 3 hr h3'
  have s := (s1.trans s2).trans s3
  refine ⟨C, 3 + K, fun b => ?_, by omega, k3, k4, k5, k6⟩
  rw [show 3 + K + 1 + b = 1 + 1 + 1 + (K + 1 + b) by omega, s, k1]
/-- the beginning is well made -/
theorem A0_good {r : Nat} (hp : pad < 3) (hr : r ≤ 195) (hf : lim first) (he : lim each) (p : Nat) : (A0 p first r each pad).Good := by
  refine ⟨⟨fun b bd h => ?_, fun k b h => ?_⟩, by show 0 < 1; decide, by show 1 ≤ 1000; decide, fun i hi => ?_, fun i hi => ?_, fun i hi v hv => ?_⟩
  · have hb : b = 0 ∨ b = 1 := by
      have := (List.getElem?_eq_some_iff.mp h).1
      have h2 : (A0 p first r each pad).plan.length = 2 := rfl
      omega
    rcases hb with rfl | rfl
    · cases h
      refine ⟨by show 4 ≤ 1000; decide, by show 0 ≤ 4; decide, fun x hx => ?_⟩
      have hx' : x ∈ rows0 first r := hx
      simp only [rows0, List.mem_cons, List.not_mem_nil, or_false] at hx'
      have hlr : lim (r : Int) := by unfold lim; omega
      have hl1 : lim 1 := by decide
      rcases hx' with rfl | rfl | rfl | rfl | rfl | rfl | rfl | rfl | rfl | rfl
      · exact ⟨by show 0 < 4; decide, trivial, trivial, fun b n e => by cases e; exact hf⟩
      · exact ⟨by show 1 < 4; decide, trivial, trivial, fun b n e => by cases e; exact hlr⟩
      · exact ⟨by show 2 < 4; decide, trivial, trivial, fun b n e => by cases e; exact hl1⟩
      · exact ⟨by show 1 < 4; decide, by show 5 ≤ 10; decide, trivial, fun b n e => by cases e⟩
      · exact ⟨by show 0 < 4; decide, trivial, trivial, fun b n e => by cases e⟩
      · exact ⟨by show 3 < 4 ∧ (∀ c ∈ [1], c < 4) ∧ 0 < 1000; decide, trivial, trivial, fun b n e => by cases e⟩
      · exact ⟨by show 0 < 4 ∧ 0 < 4 ∧ 3 < 4; decide, trivial, trivial, fun b n e => by cases e⟩
      · exact ⟨by show 0 < 4; decide, trivial, trivial, fun b n e => by cases e⟩
      · exact ⟨by show 1 < 4 ∧ 1 < 4 ∧ 2 < 4; decide, trivial, trivial, fun b n e => by cases e⟩
      · exact ⟨trivial, by show 3 ≤ 10; decide, trivial, fun b n e => by cases e⟩
    · cases h
      refine ⟨by show 2 ≤ 1000; decide, by show 1 ≤ 2; decide, fun x hx => ?_⟩
      have hx' : x ∈ rows1 each pad := hx
      unfold rows1 at hx'
      rcases List.mem_append.mp hx' with hx2 | hx2
      · rw [List.eq_of_mem_replicate hx2]
        exact ⟨by show 1 < 2 ∧ 0 < 2; decide, trivial, trivial, fun b n e => by cases e⟩
      · simp only [List.mem_cons, List.not_mem_nil, or_false] at hx2
        rcases hx2 with rfl | rfl
        · exact ⟨by show 0 < 2; decide, trivial, trivial, fun b n e => by cases e; exact he⟩
        · exact ⟨by show 0 < 2; decide, trivial, trivial, fun b n e => by cases e⟩
  · have : getE en k = some b := h
    unfold getE en at this
    rw [List.find?_cons] at this
    split at this
    · cases this
      show 1 < 2
      decide
    · cases this
  · have : i = 0 := by
      have h2 : (A0 p first r each pad).frames.length = 1 := rfl
      omega
    subst this
    exact ⟨bd0 first r, rfl, Nat.zero_le _, rfl⟩
  · have h2 : (A0 p first r each pad).frames.length = 1 := rfl
    omega
  · have : i = 0 := by
      have h2 : (A0 p first r each pad).frames.length = 1 := rfl
      omega
    subst this
    have hv' : v ∈ [Val.non, .non, .non, .non] := hv
    simp at hv'
    subst hv'
    exact ⟨trivial, trivial⟩
theorem A0_prog {r : Nat} (hp : pad < 3) (hr : r ≤ 195) (hf : lim first) (he : lim each) : ProgOk [] (pl first r each pad) en := by
  have hlr : lim (r : Int) := by unfold lim; omega
  have hm : nameB "more" = true := by decide +kernel
  refine ⟨by simp, fun k hk => by simp at hk, by simp, by show 1 ≤ 2 ∧ 2 ≤ 12; decide, fun bd hb => ?_, fun x hx => ?_⟩
  · have hb' : bd = bd0 first r ∨ bd = bd1 each pad := by simpa [pl] using hb
    rcases hb' with rfl | rfl
    · refine ⟨by show 1 ≤ 4; decide, by show 4 ≤ 6; decide, by show 0 ≤ 4; decide, by show 10 ≤ 30; decide, fun x hx => ?_⟩
      have hx' : x ∈ rows0 first r := hx
      simp only [rows0, List.mem_cons, List.not_mem_nil, or_false] at hx'
      rcases hx' with rfl | rfl | rfl | rfl | rfl | rfl | rfl | rfl | rfl | rfl
      · exact ⟨by show 0 < 4; decide, hf⟩
      · exact ⟨by show 1 < 4; decide, hlr⟩
      · exact ⟨by show 2 < 4; decide, by decide⟩
      · show 1 < 4 ∧ 5 ≤ 10; decide
      · show 0 < 4; decide
      · exact ⟨by show 3 < 4; decide, hm, by show 0 < 6; decide, by show ∀ c ∈ [1], c < 4; decide⟩
      · show 0 < 4 ∧ 0 < 4 ∧ 3 < 4; decide
      · show 0 < 4; decide
      · show 1 < 4 ∧ 1 < 4 ∧ 2 < 4; decide
      · show 3 ≤ 10; decide
    · refine ⟨by show 1 ≤ 2; decide, by show 2 ≤ 6; decide, by show 1 ≤ 2; decide, by show (rows1 each pad).length ≤ 30; simp [rows1]; omega, fun x hx => ?_⟩
      have hx' : x ∈ rows1 each pad := hx
      unfold rows1 at hx'
      rcases List.mem_append.mp hx' with hx2 | hx2
      · rw [List.eq_of_mem_replicate hx2]
        show 1 < 2 ∧ 0 < 2; decide
      · simp only [List.mem_cons, List.not_mem_nil, or_false] at hx2
        rcases hx2 with rfl | rfl
        · exact ⟨by show 0 < 2; decide, he⟩
        · show 0 < 2; decide
  · have : x = ((("number" : Str), ("more" : Str)), 1) := by simpa [en] using hx
    subst this
    exact ⟨by decide +kernel, hm, by show 1 < 2; decide⟩
end
end K17
end Gm

set_option linter.all false
namespace Gm
open PySem (Str)
open Ma
section
variable {S S0 S1 S2 S3 S' : Store} {e : Env} {adr : Role → Nat} {s c : Nat} {ns : List Int} {L : Int} {a : Nat}
/-- the draws stand in a store, somehow -/
def Dr (S : Store) (s c : Nat) (ns : List Int) : Prop := ∃ L a, Draw S s c ns L a
theorem Dr.gr (D : Dr S s c ns) (x : Gr S S') : Dr S' s c ns := let ⟨L, a, h⟩ := D; ⟨L, a, h.gr x⟩
theorem Dr.next (D : Dr S s c ns) {mk mo : ME} {k : Int} (hk : 0 < k) (hk2 : k < 18446744073709551616) (h0 : mo e S = some (.ref s, S)) (h1 : mk e S = some (.int k, S)) :
    ∃ v S', mCallN 2 F_law_next (aCons mo (aCons mk aNil)) e S = some (.int v, S') ∧ 0 ≤ v ∧ v < k ∧ Dr S' s c ns ∧ GrP s S S' := by
  obtain ⟨L, a, D⟩ := D
  obtain ⟨v, L', a', S', y, h3, h4, D', g⟩ := law_next_of D hk hk2
  exact ⟨v, S', call2_of h0 h1 y, h3, h4, ⟨L', a', D'⟩, g⟩
/-- an item of a list just made -/
theorem pick_of {ml : MA} {mi : ME} {ws : List W} {i : Int} {w : W} (h1 : ml e S = some (ws, S1)) (hl : ws.length ≤ 100000) (h2 : mi e (S1 ++ [.lst ws]) = some (.int i, S2)) (hs : S2[S1.length]? = some (.lst ws)) (h0 : 0 ≤ i) (hw : ws[i.toNat]? = some w) :
    op2 fIx (mNew ml) mi e S = some (w, S2) := by
  have hn : mNew ml e S = some (.ref S1.length, S1 ++ [.lst ws]) := by simp only [mNew, h1, if_pos hl]
  refine op2_of hn h2 ?_
  have := fIx_nat (S := S2) (x := .ref S1.length) (k := i.toNat) (seq_ref hs) hw
  rwa [natW, Int.toNat_of_nonneg h0] at this
theorem aMax_of {m : MA} {ws : List W} (h : m e S = some (ws, S1)) (hl : ws.length ≤ 100000) : aMax m e S = some (ws, S1) := by simp only [aMax, h, if_pos hl]
theorem powc (b x : Int) (h : 0 ≤ x ∧ x ≤ 1000 ∧ b.natAbs < 2 ^ 64) : op2 fPow (mC (.int b)) (mC (.int x)) e S = some (.int (b ^ x.toNat), S) := by
  refine op2_of (x := .int b) (y := .int x) rfl rfl ?_
  simp only [fPow, onI, if_pos h]
namespace K17
theorem law_rows_of (first rounds : Int) : F_law_rows [.int first, .int rounds] S = some (.ref (S.length + 1), S ++ [.lst (((rows0 first rounds).take 5).map rowW), .lst ((rows0 first rounds).map rowW)]) := by
  let e0 : Env := [some (.int first), some (.int rounds), none]
  let e1 : Env := [some (.int first), some (.int rounds), some (.ref S.length)]
  rw [F_law_rows, fnOf_eq]
  show fin (b_law_rows e0 S) = _
  unfold b_law_rows
  rw [seq_of (e1 := e1) (S1 := S ++ [.lst (((rows0 first rounds).take 5).map rowW)]) (asg_of (w := .ref S.length) (S1 := S ++ [.lst (((rows0 first rounds).take 5).map rowW)]) rfl rfl)]
  have hn : (S ++ [Ob.lst (((rows0 first rounds).take 5).map rowW)])[S.length]? = some (.lst (((rows0 first rounds).take 5).map rowW)) := List.getElem?_concat_length
  have hc : ∀ mr : MA, mr e1 (S ++ [.lst (((rows0 first rounds).take 5).map rowW)]) = some (((rows0 first rounds).drop 5).map rowW, S ++ [.lst (((rows0 first rounds).take 5).map rowW)]) → mNew (aCatE (mVar 2) mr) e1 (S ++ [.lst (((rows0 first rounds).take 5).map rowW)]) = some (.ref (S.length + 1), S ++ [.lst (((rows0 first rounds).take 5).map rowW), .lst ((rows0 first rounds).map rowW)]) := by
    intro mr hm
    have hv : mVar 2 e1 (S ++ [.lst (((rows0 first rounds).take 5).map rowW)]) = some (.ref S.length, S ++ [.lst (((rows0 first rounds).take 5).map rowW)]) := rfl
    have h1 : (((rows0 first rounds).take 5).map rowW).length + (((rows0 first rounds).drop 5).map rowW).length ≤ 100000 := by simp [rows0]
    have h2 : ((rows0 first rounds).take 5).map rowW ++ ((rows0 first rounds).drop 5).map rowW = (rows0 first rounds).map rowW := rfl
    have h3 : ((rows0 first rounds).map rowW).length ≤ 100000 := by simp [rows0]
    simp only [mNew, aCatE, hv, hm, hn, if_pos h1, h2, if_pos h3]
    rw [ap_len, ap_add]
    rfl
  rw [ret_of (hc _ rfl)]
  rfl
end K17
end
end Gm

set_option linter.all false
namespace Gm
open PySem (Str)
open Ma
section
variable {S S0 S1 S2 S3 S' : Store} {e : Env} {adr : Role → Nat} {s c : Nat} {ns : List Int} {L : Int} {a : Nat}
namespace K17
/-- the law's names -/
abbrev LE (a0 : W) (s : Nat) (rounds each pad first : Int) (more : W) (run ev : Nat) (done total : Int) (due : W) (k td : Option W) : Env :=
  [some a0, some (.ref s), some (.int rounds), some (.int each), some (.int pad), some (.int first), some more, some (.ref run), some (.ref ev), some (.int done), some (.int total), some due, k, td]
abbrev forBody : MS := (sSeq2 (sAug 10 (fun i j => i + j) (mVar 3))
    (sSeq2 (sIf (tVal (op2 fGt (op1 fAbs (mVar 10)) (op2 fPow (mC (.int 10)) (mC (.int 9))))) (sSeq2 (sAsg (mTup (aCons (mC (.str "fault")) (aCons (mC (.str "great")) (aCons (mC (.int 0)) (aCons (mC (.int 6)) aNil))))) (gName 11))
    (sSeq2 (sAug 9 (fun i j => i + j) (op2 fAdd (mC (.int 4)) (mVar 4)))
    sBreak)) sNil)
    (sSeq2 (sDrop (mAppend (mVar 8) (mVar 10)))
    (sPar 11 9 (aCons (mTup (aCons (mC (.str "gave")) (aCons (mVar 10) aNil))) (aCons (op2 fAdd (op2 fAdd (mVar 9) (mC (.int 8))) (mVar 4)) aNil))))))
theorem abs_lim (t : Int) : decide ((1000000000 : Int) < (if t < 0 then -t else t)) = !decide (lim t) := by
  by_cases h : lim t
  · have h' := h
    unfold lim at h'
    rw [decide_eq_true h]
    refine decide_eq_false ?_
    split <;> omega
  · have h' := h
    unfold lim at h'
    rw [decide_eq_false h]
    refine decide_eq_true ?_
    split <;> omega
/-- the law's own rounds -/
theorem for17 (a0 : W) (s run ev : Nat) (rounds each first : Int) (pad : Nat) (more : W) (hpn : pad < 3) : ∀ (m fuel i : Nat) (S : Store) (t : Int) (evs : List Int) (n : Nat) (k : Option W), m < fuel → evs.length + m < 1000 → S[ev]? = some (.lst (evs.map .int)) →
    ∃ S' done total k', forN (sRange 0 (i + m)) (gName 12) forBody fuel i (LE a0 s rounds each pad first more run ev n t (gaveW t) k none) S = some (.nx (LE a0 s rounds each pad first more run ev done total (walk each pad m t evs n).2.1 k' none), S') ∧
      GrP ev S S' ∧ S'[ev]? = some (.lst ((walk each pad m t evs n).1.map .int)) ∧ S'.length = S.length ∧
      ((∃ t', (walk each pad m t evs n).2.1 = gaveW t' ∧ done + 2 = (walk each pad m t evs n).2.2) ∨ ((walk each pad m t evs n).2.1 = greatW ∧ done = (walk each pad m t evs n).2.2))
  | m, 0, i, S, t, evs, n, k, h, _, _ => absurd h (Nat.not_lt_zero _)
  | 0, fuel + 1, i, S, t, evs, n, k, _, _, hS => by
    refine ⟨S, n, t, k, ?_, GrP.refl, hS, rfl, .inl ⟨t, rfl, by simp [walk]⟩⟩
    have hr : sRange 0 (i + 0) i S = some none := by simp [sRange]
    rw [forN, hr]
    rfl
  | m + 1, fuel + 1, i, S, t, evs, n, k, hf, hl, hS => by
    have hr : sRange 0 (i + (m + 1)) i S = some (some (.int (0 + i))) := by
      simp only [sRange]
      rw [if_pos (by omega)]
    let E := LE a0 s rounds each pad first more run ev n (t + each) (gaveW t) (some (.int (0 + (i : Int)))) none
    have z1 : sAug 10 (fun i j => i + j) (mVar 3) (LE a0 s rounds each pad first more run ev n t (gaveW t) (some (.int (0 + (i : Int)))) none) S = some (.nx E, S) := rfl
    have c1 : tVal (op2 fGt (op1 fAbs (mVar 10)) (op2 fPow (mC (.int 10)) (mC (.int 9)))) E S = some (!decide (lim (t + each)), S) := by
      have q1 : op1 fAbs (mVar 10) E S = some (.int (if t + each < 0 then -(t + each) else t + each), S) := rfl
      refine tval_of (op2_of q1 (powc 10 9 (by decide)) ?_)
      simp only [fGt, onI]
      have := abs_lim (t + each)
      exact congrArg (fun z => some (W.bl z)) this
    by_cases h : lim (t + each)
    · have hc : (!decide (lim (t + each))) = false := by simp [h]
      rw [hc] at c1
      let S1 : Store := S.set ev (.lst ((evs ++ [t + each]).map .int))
      have hlt : ev < S.length := (List.getElem?_eq_some_iff.mp hS).1
      have z3 : sDrop (mAppend (mVar 8) (mVar 10)) E S = some (.nx E, S1) := by
        have h8 : mVar 8 E S = some (.ref ev, S) := rfl
        have h10 : mVar 10 E S = some (.int (t + each), S) := rfl
        have hle : (evs.map W.int).length < 100000 := by simp; omega
        simp only [sDrop, mAppend, h8, h10, hS, if_pos hle, S1, List.map_append, List.map_cons, List.map_nil]
      let E2 := LE a0 s rounds each pad first more run ev ((n + (8 + pad) : Nat) : Int) (t + each) (gaveW (t + each)) (some (.int (0 + (i : Int)))) none
      have z4 : sPar 11 9 (aCons (mTup (aCons (mC (.str "gave")) (aCons (mVar 10) aNil))) (aCons (op2 fAdd (op2 fAdd (mVar 9) (mC (.int 8))) (mVar 4)) aNil)) E S1 = some (.nx E2, S1) := by
        have q1 : mTup (aCons (mC (.str "gave")) (aCons (mVar 10) aNil)) E S1 = some (gaveW (t + each), S1) := rfl
        have q2 : op2 fAdd (op2 fAdd (mVar 9) (mC (.int 8))) (mVar 4) E S1 = some (.int ((n + (8 + pad) : Nat) : Int), S1) := by
          refine op2_of (op2_of (x := .int n) (y := .int 8) rfl rfl fAdd_int) (y := .int pad) rfl ?_
          simp only [fAdd_int]
          congr 2
          omega
        have q3 := aCons_of q1 (aCons_of q2 (aNil_of (e := E)))
        simp only [sPar, q3]
        rfl
      have hb : forBody (LE a0 s rounds each pad first more run ev n t (gaveW t) (some (.int (0 + (i : Int)))) none) S = some (.nx E2, S1) := by
        show sSeq2 _ _ _ _ = _
        rw [seq_of z1, seq_of (if_nil_of c1), seq_of z3, z4]
      obtain ⟨S', done, total, k', y1, y2, y3, y4, y5⟩ := for17 a0 s run ev rounds each first pad more hpn m fuel (i + 1) S1 (t + each) (evs ++ [t + each]) (n + (8 + pad)) (some (.int (0 + (i : Int)))) (by omega) (by simp; omega) (List.getElem?_set_self hlt)
      refine ⟨S', done, total, k', ?_, GrP.set.trans y2, ?_, by rw [y4]; simp [S1], ?_⟩
      · rw [forN, hr]
        simp only [gName]
        show (match forBody (LE a0 s rounds each pad first more run ev n t (gaveW t) (some (.int (0 + (i : Int)))) none) S with | some (.nx e2, S2) => _ | some (.ct e2, S2) => _ | some (.bk e2, S2) => _ | some (.rt v, S2) => _ | none => _) = _
        rw [hb]
        simp only [walk, if_pos h]
        rw [show i + (m + 1) = i + 1 + m by omega]
        exact y1
      · simp only [walk, if_pos h]
        exact y3
      · simp only [walk, if_pos h]
        exact y5
    · have hc : (!decide (lim (t + each))) = true := by simp [h]
      rw [hc] at c1
      let E1 := LE a0 s rounds each pad first more run ev n (t + each) greatW (some (.int (0 + (i : Int)))) none
      let E2 := LE a0 s rounds each pad first more run ev ((n + (4 + pad) : Nat) : Int) (t + each) greatW (some (.int (0 + (i : Int)))) none
      have z2 : sAsg (mTup (aCons (mC (.str "fault")) (aCons (mC (.str "great")) (aCons (mC (.int 0)) (aCons (mC (.int 6)) aNil))))) (gName 11) E S = some (.nx E1, S) := asg_of (w := greatW) (S1 := S) rfl rfl
      have z3 : sAug 9 (fun i j => i + j) (op2 fAdd (mC (.int 4)) (mVar 4)) E1 S = some (.nx E2, S) := by
        have q : op2 fAdd (mC (.int 4)) (mVar 4) E1 S = some (.int ((4 + pad : Nat) : Int), S) := op2_of (x := .int 4) (y := .int pad) rfl rfl (by simp [fAdd])
        have h9 : E1[9]? = some (some (.int n)) := rfl
        simp only [sAug, h9, q]
        have : ((n : Int) + ((4 + pad : Nat) : Int)) = ((n + (4 + pad) : Nat) : Int) := by omega
        rw [this]
        rfl
      have hb : forBody (LE a0 s rounds each pad first more run ev n t (gaveW t) (some (.int (0 + (i : Int)))) none) S = some (.bk E2, S) := by
        show sSeq2 _ _ _ _ = _
        have hi : sIf (tVal (op2 fGt (op1 fAbs (mVar 10)) (op2 fPow (mC (.int 10)) (mC (.int 9))))) (sSeq2 (sAsg (mTup (aCons (mC (.str "fault")) (aCons (mC (.str "great")) (aCons (mC (.int 0)) (aCons (mC (.int 6)) aNil))))) (gName 11)) (sSeq2 (sAug 9 (fun i j => i + j) (op2 fAdd (mC (.int 4)) (mVar 4))) sBreak)) sNil E S = some (.bk E2, S) := by
          refine if_true_of c1 ?_
          rw [seq_of z2, seq_of z3]
          rfl
        rw [seq_of z1, sSeq2, hi]
      refine ⟨S, ((n + (4 + pad) : Nat) : Int), t + each, some (.int (0 + (i : Int))), ?_, GrP.refl, ?_, rfl, ?_⟩
      · rw [forN, hr]
        simp only [gName]
        show (match forBody (LE a0 s rounds each pad first more run ev n t (gaveW t) (some (.int (0 + (i : Int)))) none) S with | some (.nx e2, S2) => _ | some (.ct e2, S2) => _ | some (.bk e2, S2) => _ | some (.rt v, S2) => _ | none => _) = _
        rw [hb]
        simp only [walk, if_neg h]
        rfl
      · simp only [walk, if_neg h]
        exact hS
      · refine .inr ⟨?_, ?_⟩
        · simp only [walk, if_neg h]
        · simp only [walk, if_neg h]
theorem sFor_of {mi : MI} {g : MG} {body : MS} {src : Src} {r : R Fl} (hi : mi e S = some (src, S1)) (h : forN src g body turns 0 e S1 = r) : sFor mi g body e S = r := by
  simp only [sFor, hi, h]
theorem lt_turns {r : Nat} (h : r ≤ 1000) : r < turns := by
  unfold turns
  omega
theorem loop17 (a0 : W) (s run ev : Nat) (each first : Int) (pad r : Nat) (more : W) (hpn : pad < 3) (hr : r ≤ 195) (S : Store) (hS : S[ev]? = some (.lst (([] : List Int).map .int))) :
    ∃ S' done total k', sFor (iRange1 (mVar 2)) (gName 12) forBody (LE a0 s (r : Int) each pad first more run ev ((3 : Nat) : Int) first (gaveW first) none none) S = some (.nx (LE a0 s (r : Int) each pad first more run ev done total (walk each pad r first [] 3).2.1 k' none), S') ∧
      GrP ev S S' ∧ S'[ev]? = some (.lst ((walk each pad r first [] 3).1.map .int)) ∧ S'.length = S.length ∧
      ((∃ t', (walk each pad r first [] 3).2.1 = gaveW t' ∧ done + 2 = (walk each pad r first [] 3).2.2) ∨ ((walk each pad r first [] 3).2.1 = greatW ∧ done = (walk each pad r first [] 3).2.2)) := by
  have hlen : ([] : List Int).length + r < 1000 := by simp; omega
  obtain ⟨S', done, total, k', y, h⟩ := for17 a0 s run ev (r : Int) each first pad more hpn r turns 0 S first [] 3 none (lt_turns (by omega)) hlen hS
  refine ⟨S', done, total, k', ?_, h⟩
  have hi : iRange1 (mVar 2) (LE a0 s (r : Int) each pad first more run ev ((3 : Nat) : Int) first (gaveW first) none none) S = some (sRange 0 (0 + r), S) := by
    have h2 : mVar 2 (LE a0 s (r : Int) each pad first more run ev ((3 : Nat) : Int) first (gaveW first) none none) S = some (.int r, S) := rfl
    simp only [iRange1, h2]
    rw [if_pos (by omega), Int.toNat_natCast, Nat.zero_add]
  exact sFor_of hi y
end K17
end
end Gm

set_option linter.all false
namespace Gm
open PySem (Str)
open Ma
section
variable {S S0 S1 S2 S3 S' : Store} {e : Env} {adr : Role → Nat} {s c : Nat} {ns : List Int} {L : Int} {a : Nat} {A : Ma}
theorem St.end_ (R : St adr A S) : F_Rows_end [.ref (adr .run)] S = some (A.ending, S) := by
  rw [F_Rows_end, fnOf_eq]
  show fin (b_Rows_end [some (.ref (adr .run))] S) = _
  unfold b_Rows_end
  rw [ret_of (w := A.ending) (S1 := S) (by simp [op1, mVar, R.g_ending])]
  rfl
theorem St.done_ (R : St adr A S) : F_Rows_done [.ref (adr .run)] S = some (.int A.passed, S) := by
  rw [F_Rows_done, fnOf_eq]
  show fin (b_Rows_done [some (.ref (adr .run))] S) = _
  unfold b_Rows_done
  rw [ret_of (w := .int A.passed) (S1 := S) (by simp [op1, mVar, R.g_passed])]
  rfl
theorem St.events_ (R : St adr A S) (h : A.told.length ≤ 100000) : F_Rows_events [.ref (adr .run)] S = some (.ref S.length, S ++ [.lst A.told]) := by
  rw [F_Rows_events, fnOf_eq]
  show fin (b_Rows_events [some (.ref (adr .run))] S) = _
  unfold b_Rows_events
  have h1 : op1 (fld cs_told "told") (op1 (fld cs_world "world") (mVar 0)) [some (.ref (adr .run))] S = some (.ref (adr .toldL), S) := by simp [op1, mVar, R.g_world, R.g_told]
  have h2 : mNew (aSeq (op1 (fld cs_told "told") (op1 (fld cs_world "world") (mVar 0)))) [some (.ref (adr .run))] S = some (.ref S.length, S ++ [.lst A.told]) := by
    simp only [mNew, aSeq, h1, seq_ref R.o_told, Option.map_some, if_pos h]
  rw [ret_of h2]
  rfl
namespace K17
abbrev unitsE : ME := op2 fIx (mNew (aMax (aCons (mC (.int 2000)) (aCons (op2 fAdd (mC (.int 1)) (mCallN 2 F_law_next (aCons (mVar 1) (aCons (mC (.int 700)) aNil)))) (aCons (mC (.int 1)) (aCons (mC (.int 300)) aNil)))))) (mCallN 2 F_law_next (aCons (mVar 1) (aCons (mC (.int 4)) aNil)))
abbrev whileT : MT := tVal (op1 fIsN (mMethN "Plain" "end" 1 F_Rows_end (mVar 7) aNil))
abbrev whileB : MS := sDrop (mAppend (mVar 13) (mMethK "Plain" "step" 1 F_Plain_step (mVar 7) (aCons unitsE aNil)))
theorem units_of (D : Dr S s c ns) (h1 : mVar 1 e = fun S => some (.ref s, S)) : ∃ (u : Nat) (S' : Store), unitsE e S = some (natW u, S') ∧ 1 ≤ u ∧ u ≤ 2000 ∧ Dr S' s c ns ∧ GrP s S S' := by
  have hv : ∀ S, mVar 1 e S = some (.ref s, S) := fun S => by rw [h1]
  obtain ⟨v1, S1, y1, p1, q1, D1, g1⟩ := D.next (k := 700) (by decide) (by decide) (hv S) (mk := mC (.int 700)) rfl
  let ws : List W := [.int 2000, .int (1 + v1), .int 1, .int 300]
  have hl : aMax (aCons (mC (.int 2000)) (aCons (op2 fAdd (mC (.int 1)) (mCallN 2 F_law_next (aCons (mVar 1) (aCons (mC (.int 700)) aNil)))) (aCons (mC (.int 1)) (aCons (mC (.int 300)) aNil)))) e S = some (ws, S1) :=
    aMax_of (aCons_of (S1 := S) rfl (aCons_of (S1 := S1) (op2_of (x := .int 1) (S1 := S) rfl y1 fAdd_int) (aCons_of (S1 := S1) rfl (aCons_of (S1 := S1) rfl aNil_of)))) (by simp [ws])
  have x1 : Gr S1 (S1 ++ [.lst ws]) := Gr.one _
  obtain ⟨v2, S2, y2, p2, q2, D2, g2⟩ := (D1.gr x1).next (k := 4) (by decide) (by decide) (hv (S1 ++ [.lst ws])) (mk := mC (.int 4)) rfl
  have ns : S1.length ≠ s := by
    obtain ⟨L, a, d⟩ := D1
    have := (List.getElem?_eq_some_iff.mp d.st).1
    omega
  have hS : S2[S1.length]? = some (.lst ws) := g2.at List.getElem?_concat_length ns
  have g : GrP s S S2 := (g1.trans (GrP.of x1)).trans g2
  have hc : v2 = 0 ∨ v2 = 1 ∨ v2 = 2 ∨ v2 = 3 := by omega
  rcases hc with rfl | rfl | rfl | rfl
  · exact ⟨2000, S2, pick_of hl (by simp [ws]) y2 hS (by decide) rfl, by decide, by decide, D2, g⟩
  · refine ⟨(1 + v1).toNat, S2, ?_, by omega, by omega, D2, g⟩
    have := pick_of (w := .int (1 + v1)) hl (by simp [ws]) y2 hS (by decide) rfl
    rw [natW, Int.toNat_of_nonneg (by omega)]
    exact this
  · exact ⟨1, S2, pick_of hl (by simp [ws]) y2 hS (by decide) rfl, by decide, by decide, D2, g⟩
  · exact ⟨300, S2, pick_of hl (by simp [ws]) y2 hS (by decide) rfl, by decide, by decide, D2, g⟩
/-- how it stands between two turns of the law's while -/
structure Inv (A0 : Ma) (S : Store) (adr : Role → Nat) (N run s c ev td : Nat) (ns evs tl : List Int) : Prop where
  st : St adr (A0.runA N).1 S
  live : (A0.runA N).1.Live
  cap : (A0.runA N).1.Cap (10 + 2 * N)
  run : adr .run = run
  dr : Dr S s c ns
  os : ¬ Own adr (A0.runA N).1 s
  oc : ¬ Own adr (A0.runA N).1 c
  oe : ¬ Own adr (A0.runA N).1 ev
  ot : ¬ Own adr (A0.runA N).1 td
  evS : S[ev]? = some (.lst (evs.map .int))
  tdS : S[td]? = some (.lst (tl.map .int))
  sum : tl.sum = ((A0.runA N).2 : Int)
  len : tl.length ≤ N
theorem while17 {A0 B : Ma} {K : Nat} (L0 : A0.Live) (hK : ∀ b, A0.runA (K + 1 + b) = (B, K)) (hB : B.ending ≠ .non) (hK2 : K ≤ 2000) {run s c ev td : Nat} {ns evs : List Int} (hne : ev ≠ s ∧ td ≠ s ∧ ev ≠ td ∧ c ≠ td)
    (a0 : W) (rounds each pad first : Int) (more : W) (done total : Int) (due : W) (k : Option W) : ∀ (fuel N : Nat) (S : Store) (adr : Role → Nat) (tl : List Int), K + 2 - N < fuel → N ≤ 4000 → Inv A0 S adr N run s c ev td ns evs tl →
    ∃ N' S' adr' tl', whileN whileT whileB fuel (LE a0 s rounds each pad first more run ev done total due k (some (.ref td))) S = some (.nx (LE a0 s rounds each pad first more run ev done total due k (some (.ref td))), S') ∧ Inv A0 S' adr' N' run s c ev td ns evs tl' ∧ (A0.runA N').1.ending ≠ .non ∧ N' ≤ 4000
  | 0, N, S, adr, tl, h, _, _ => absurd h (Nat.not_lt_zero _)
  | fuel + 1, N, S, adr, tl, hf, hN, I => by
    let E := LE a0 s rounds each pad first more run ev done total due k (some (.ref td))
    have ht : whileT E S = some (isNon (A0.runA N).1.ending, S) := by
      have hm : mMethN "Plain" "end" 1 F_Rows_end (mVar 7) aNil E S = some ((A0.runA N).1.ending, S) :=
        (meth0_of (a := adr .run) (by rw [I.run]; rfl) I.st.o_run rfl rfl).trans I.st.end_
      exact tval_of (by simp only [op1, hm, fIsN])
    by_cases he : (A0.runA N).1.ending = .non
    · rw [(isNon_iff _).mpr he] at ht
      have hNK : N ≤ K := by
        rcases Nat.lt_or_ge K N with h | h
        · have := hK (N - (K + 1))
          rw [show K + 1 + (N - (K + 1)) = N by omega] at this
          rw [this] at he
          exact absurd he hB
        · exact h
      obtain ⟨u, S1, y1, u1, u2, D1, g1⟩ := units_of (e := E) I.dr rfl
      have R1 := I.st.other g1 I.os
      obtain ⟨adr2, S2, y2, R2, g2, a1, a2, L2, C2⟩ := R1.step I.live I.cap u2 (by omega)
      have hadd := runA_add N u A0 L0
      have e1 : ((A0.runA N).1.runA u).1 = (A0.runA (N + u)).1 := by rw [hadd]
      have e2 : (A0.runA (N + u)).2 = (A0.runA N).2 + ((A0.runA N).1.runA u).2 := by rw [hadd]
      rw [e1] at R2 g2 L2 C2
      have evS1 := g1.at I.evS hne.1
      have tdS1 := g1.at I.tdS hne.2.1
      obtain ⟨L, a, D1'⟩ := D1
      obtain ⟨D2, os2, oc2⟩ := D1'.go g2 I.os I.oc
      obtain ⟨k1, k2⟩ := g2.keep ev (List.getElem?_eq_some_iff.mp evS1).1 I.oe
      obtain ⟨k3, k4⟩ := g2.keep td (List.getElem?_eq_some_iff.mp tdS1).1 I.ot
      have evS2 : S2[ev]? = some (.lst (evs.map .int)) := by rw [k1]; exact evS1
      have tdS2 : S2[td]? = some (.lst (tl.map .int)) := by rw [k3]; exact tdS1
      let m : Nat := ((A0.runA N).1.runA u).2
      let S3 : Store := S2.set td (.lst ((tl ++ [(m : Int)]).map .int))
      have g3 : GrP td S2 S3 := GrP.set
      have tdlt : td < S2.length := (List.getElem?_eq_some_iff.mp tdS2).1
      have hstep : mMethK "Plain" "step" 1 F_Plain_step (mVar 7) (aCons unitsE aNil) E S = some (natW m, S2) := by
        have h7 : mVar 7 E S = some (.ref run, S) := rfl
        have ho := I.st.o_run
        rw [I.run] at ho
        have hlk : ((A0.runA N).1.runFs adr).lookup ("step" : Str) = none := rfl
        have ha := aCons_of y1 (aNil_of (e := E))
        rw [I.run] at y2
        simp only [mMethK, h7, ho, hlk, and_self, if_true, ha, List.length_cons, List.length_nil, Nat.zero_add]
        exact y2
      have hbody : whileB E S = some (.nx E, S3) := by
        have h13 : mVar 13 E S = some (.ref td, S) := rfl
        have hl : (tl.map W.int).length < 100000 := by have := I.len; simp; omega
        simp only [sDrop, mAppend, h13, I.tdS, hstep, tdS2, if_pos hl, S3, List.map_append, List.map_cons, List.map_nil]
        rfl
      have I3 : Inv A0 S3 adr2 (N + u) run s c ev td ns evs (tl ++ [(m : Int)]) := by
        refine ⟨R2.other g3 k4, L2, ⟨Nat.le_trans C2.prof (by omega), fun i => Nat.le_trans (C2.seen i) (by omega), Nat.le_trans C2.told (by omega), Nat.le_trans C2.ent (by omega)⟩, by rw [a1]; exact I.run, ⟨L, a, ?_⟩, os2, oc2, k2, k4, g3.at evS2 hne.2.2.1, List.getElem?_set_self tdlt, ?_, ?_⟩
        · have nc : c ≠ td := hne.2.2.2
          exact ⟨g3.at D2.st (Ne.symm hne.2.1), g3.at D2.cs nc, D2.len, D2.nn⟩
        · rw [List.sum_append, I.sum, e2]
          simp [m]
        · have := I.len
          simp
          omega
      obtain ⟨N', S', adr', tl', z1, z2, z3, z4⟩ := while17 L0 hK hB hK2 hne a0 rounds each pad first more done total due k fuel (N + u) S3 adr2 (tl ++ [(m : Int)]) (by omega) (by omega) I3
      refine ⟨N', S', adr', tl', ?_, z2, z3, z4⟩
      rw [whileN, ht]
      simp only
      rw [hbody]
      exact z1
    · have hz : isNon (A0.runA N).1.ending = false := by
        cases q : isNon (A0.runA N).1.ending with
        | false => rfl
        | true => exact absurd ((isNon_iff _).mp q) he
      rw [hz] at ht
      exact ⟨N, S, adr, tl, by rw [whileN, ht], I, he, hN⟩
end K17
end
end Gm

set_option linter.all false
namespace Gm
open PySem (Str)
open Ma
section
variable {S S0 S1 S2 S3 S' : Store} {e : Env} {adr : Role → Nat} {s c : Nat} {ns : List Int}
namespace K17
/-- the names up to the run's making -/
abbrev EE (a0 : W) (s : Nat) (b c d f m r : Option W) : Env := [some a0, some (.ref s), b, c, d, f, m, r, none, none, none, none, none, none]
theorem rounds_of (D : Dr S s c ns) (h1 : mVar 1 e = fun S => some (.ref s, S)) : ∃ (r : Nat) (S' : Store), op2 fIx (mNew (aMax (aCons (op2 fAdd (mC (.int 1)) (mCallN 2 F_law_next (aCons (mVar 1) (aCons (mC (.int 195)) aNil)))) (aCons (mC (.int 195)) (aCons (op2 fAdd (mC (.int 1)) (mCallN 2 F_law_next (aCons (mVar 1) (aCons (mC (.int 6)) aNil)))) aNil))))) (mCallN 2 F_law_next (aCons (mVar 1) (aCons (mC (.int 3)) aNil))) e S = some (.int r, S') ∧ r ≤ 195 ∧ Dr S' s c ns := by
  have hv : ∀ S, mVar 1 e S = some (.ref s, S) := fun S => by rw [h1]
  obtain ⟨v1, S1, y1, p1, q1, D1, g1⟩ := D.next (k := 195) (by decide) (by decide) (hv S) (mk := mC (.int 195)) rfl
  obtain ⟨v2, S2, y2, p2, q2, D2, g2⟩ := D1.next (k := 6) (by decide) (by decide) (hv S1) (mk := mC (.int 6)) rfl
  let ws : List W := [.int (1 + v1), .int 195, .int (1 + v2)]
  have hl : aMax (aCons (op2 fAdd (mC (.int 1)) (mCallN 2 F_law_next (aCons (mVar 1) (aCons (mC (.int 195)) aNil)))) (aCons (mC (.int 195)) (aCons (op2 fAdd (mC (.int 1)) (mCallN 2 F_law_next (aCons (mVar 1) (aCons (mC (.int 6)) aNil)))) aNil))) e S = some (ws, S2) :=
    aMax_of (aCons_of (S1 := S1) (op2_of (x := .int 1) (S1 := S) rfl y1 fAdd_int) (aCons_of (S1 := S1) rfl (aCons_of (S1 := S2) (op2_of (x := .int 1) (S1 := S1) rfl y2 fAdd_int) aNil_of))) (by simp [ws])
  have x1 : Gr S2 (S2 ++ [.lst ws]) := Gr.one _
  obtain ⟨v3, S3, y3, p3, q3, D3, g3⟩ := (D2.gr x1).next (k := 3) (by decide) (by decide) (hv (S2 ++ [.lst ws])) (mk := mC (.int 3)) rfl
  have ns : S2.length ≠ s := by
    obtain ⟨L, a, d⟩ := D2
    have := (List.getElem?_eq_some_iff.mp d.st).1
    omega
  have hS : S3[S2.length]? = some (.lst ws) := g3.at List.getElem?_concat_length ns
  have hc : v3 = 0 ∨ v3 = 1 ∨ v3 = 2 := by omega
  rcases hc with rfl | rfl | rfl
  · refine ⟨(1 + v1).toNat, S3, ?_, by omega, D3⟩
    rw [Int.toNat_of_nonneg (by omega)]
    exact pick_of hl (by simp [ws]) y3 hS (by decide) rfl
  · exact ⟨195, S3, pick_of hl (by simp [ws]) y3 hS (by decide) rfl, by decide, D3⟩
  · refine ⟨(1 + v2).toNat, S3, ?_, by omega, D3⟩
    rw [Int.toNat_of_nonneg (by omega)]
    exact pick_of hl (by simp [ws]) y3 hS (by decide) rfl
theorem first_of (D : Dr S s c ns) {r each : Int} (hr : 0 ≤ r ∧ r ≤ 195) (h1 : mVar 1 e = fun S => some (.ref s, S)) (h2 : mVar 2 e = fun S => some (.int r, S)) (h3 : mVar 3 e = fun S => some (.int each, S)) :
    ∃ (f : Int) (S' : Store), op2 fIx (mNew (aMax (aCons (mC (.int 0)) (aCons (op2 fSub (op2 fPow (mC (.int 10)) (mC (.int 9))) (op2 fMul (mVar 2) (mVar 3))) (aCons (op2 fPow (mC (.int 10)) (mC (.int 9))) (aCons (op1 fNeg (op2 fPow (mC (.int 10)) (mC (.int 9)))) (aCons (op2 fAdd (op2 fSub (op2 fPow (mC (.int 10)) (mC (.int 9))) (op2 fMul (mVar 2) (mVar 3))) (mC (.int 1))) aNil))))))) (mCallN 2 F_law_next (aCons (mVar 1) (aCons (mC (.int 5)) aNil))) e S = some (.int f, S') ∧ Dr S' s c ns := by
  have hv : ∀ S, mVar 1 e S = some (.ref s, S) := fun S => by rw [h1]
  have hp : ∀ S, op2 fPow (mC (.int 10)) (mC (.int 9)) e S = some (.int (10 ^ 9), S) := fun S => powc 10 9 (by decide)
  have hm : ∀ S, op2 fMul (mVar 2) (mVar 3) e S = some (.int (r * each), S) := fun S => op2_of (x := .int r) (y := .int each) (by rw [h2]) (by rw [h3]) (fMul_l (inLine_of (by omega) (by omega)))
  have hd : ∀ S, op2 fSub (op2 fPow (mC (.int 10)) (mC (.int 9))) (op2 fMul (mVar 2) (mVar 3)) e S = some (.int (10 ^ 9 - r * each), S) := fun S => op2_of (hp S) (hm S) rfl
  have hneg : op1 fNeg (op2 fPow (mC (.int 10)) (mC (.int 9))) e S = some (.int (-(10 ^ 9)), S) := by simp only [op1, hp, fNeg]
  let ws : List W := [.int 0, .int (10 ^ 9 - r * each), .int (10 ^ 9), .int (-(10 ^ 9)), .int (10 ^ 9 - r * each + 1)]
  have hl : aMax (aCons (mC (.int 0)) (aCons (op2 fSub (op2 fPow (mC (.int 10)) (mC (.int 9))) (op2 fMul (mVar 2) (mVar 3))) (aCons (op2 fPow (mC (.int 10)) (mC (.int 9))) (aCons (op1 fNeg (op2 fPow (mC (.int 10)) (mC (.int 9)))) (aCons (op2 fAdd (op2 fSub (op2 fPow (mC (.int 10)) (mC (.int 9))) (op2 fMul (mVar 2) (mVar 3))) (mC (.int 1))) aNil))))) e S = some (ws, S) :=
    aMax_of (aCons_of (S1 := S) rfl (aCons_of (hd S) (aCons_of (hp S) (aCons_of hneg (aCons_of (op2_of (hd S) (y := .int 1) rfl fAdd_int) aNil_of))))) (by simp [ws])
  have x1 : Gr S (S ++ [.lst ws]) := Gr.one _
  obtain ⟨v3, S3, y3, p3, q3, D3, g3⟩ := (D.gr x1).next (k := 5) (by decide) (by decide) (hv (S ++ [.lst ws])) (mk := mC (.int 5)) rfl
  have ns : S.length ≠ s := by
    obtain ⟨L, a, d⟩ := D
    have := (List.getElem?_eq_some_iff.mp d.st).1
    omega
  have hS : S3[S.length]? = some (.lst ws) := g3.at List.getElem?_concat_length ns
  have hc : v3 = 0 ∨ v3 = 1 ∨ v3 = 2 ∨ v3 = 3 ∨ v3 = 4 := by omega
  rcases hc with rfl | rfl | rfl | rfl | rfl <;> exact ⟨_, S3, pick_of hl (by simp [ws]) y3 hS (by decide) rfl, D3⟩
theorem clamp_lim (f : Int) : lim (if (if (10 ^ 9 : Int) < f then (10 ^ 9 : Int) else f) > -(10 ^ 9) then (if (10 ^ 9 : Int) < f then (10 ^ 9 : Int) else f) else -(10 ^ 9)) := by
  unfold lim
  split <;> split <;> omega
/-- the rows of the called body, as the law writes them -/
theorem more_of {each : Int} {pad : Nat} (hp : pad < 3) (h3 : mVar 3 e = fun S => some (.int each, S)) (h4 : mVar 4 e = fun S => some (.int pad, S)) :
    op2 fAdd (op2 fTimes (mTup (aCons (mTup (aCons (mC (.str "copy")) (aCons (mC (.int 1)) (aCons (mC (.int 0)) aNil)))) aNil)) (mVar 4)) (mTup (aCons (mTup (aCons (mC (.str "number")) (aCons (mC (.int 0)) (aCons (mVar 3) aNil)))) (aCons (mTup (aCons (mC (.str "give")) (aCons (mC (.int 0)) aNil))) aNil))) e S
      = some (.tup ((rows1 each pad).map rowW), S) := by
  have q1 : op2 fTimes (mTup (aCons (mTup (aCons (mC (.str "copy")) (aCons (mC (.int 1)) (aCons (mC (.int 0)) aNil)))) aNil)) (mVar 4) e S = some (.tup (List.replicate pad [rowW (.copy 1 0)]).flatten, S) := by
    refine op2_of (x := .tup [rowW (.copy 1 0)]) (y := .int pad) (S1 := S) rfl (by rw [h4]) ?_
    simp only [fTimes, Int.toNat_natCast]
    rw [if_pos ⟨by simp, by simp, by omega, by omega⟩]
  have q2 : mTup (aCons (mTup (aCons (mC (.str "number")) (aCons (mC (.int 0)) (aCons (mVar 3) aNil)))) (aCons (mTup (aCons (mC (.str "give")) (aCons (mC (.int 0)) aNil))) aNil)) e S = some (.tup [rowW (.number 0 each), rowW (.give 0)], S) := by
    have w1 : mTup (aCons (mC (.str "number")) (aCons (mC (.int 0)) (aCons (mVar 3) aNil))) e S = some (rowW (.number 0 each), S) := by
      have := aCons_of (m := mC (.str "number")) (x := .str "number") (S := S) (S1 := S) (e := e) rfl (aCons_of (m := mC (.int 0)) (x := .int 0) (S1 := S) rfl (aCons_of (m := mVar 3) (x := .int each) (S1 := S) (by rw [h3]) (aNil_of (e := e))))
      simp only [mTup, this]
      rfl
    have := aCons_of w1 (aCons_of (m := mTup (aCons (mC (.str "give")) (aCons (mC (.int 0)) aNil))) (x := rowW (.give 0)) (S1 := S) rfl (aNil_of (e := e)))
    simp only [mTup, this]
    rfl
  refine op2_of q1 q2 ?_
  have hr : pad = 0 ∨ pad = 1 ∨ pad = 2 := by omega
  rcases hr with rfl | rfl | rfl <;> rfl
/-- the program and its run -/
theorem run_of {r : Nat} {each first : Int} {pad : Nat} (hp : pad < 3) (hr : r ≤ 195) (hf : lim first) (he : lim each) (hv5 : mVar 5 e = fun S => some (.int first, S)) (hv2 : mVar 2 e = fun S => some (.int r, S)) (hv6 : mVar 6 e = fun S => some (.tup ((rows1 each pad).map rowW), S)) :
    ∃ run p adr S', mMakeD "Plain" 2 [.wt []] F_Plain_init (aCons (mMakeN "Program" 4 F_Program_init (aCons (mNew (aMax aNil)) (aCons (mNew (aMax (aCons (mTup (aCons (mC (.int 0)) (aCons (mC (.int 4)) (aCons (mCallN 2 F_law_rows (aCons (mVar 5) (aCons (mVar 2) aNil))) aNil)))) (aCons (mTup (aCons (mC (.int 1)) (aCons (mC (.int 2)) (aCons (mVar 6) aNil)))) aNil)))) (aCons (mDisp true (pCons (mTup (aCons (mC (.str "number")) (aCons (mC (.str "more")) aNil))) (mC (.int 1)) pNil)) aNil)))) (aCons (mC (.int 0)) aNil)) e S = some (.ref run, S') ∧
      St adr (A0 p first r each pad) S' ∧ Gr S S' ∧ adr .run = run ∧ ∀ i, i < S.length → ¬ Own adr (A0 p first r each pad) i := by
  -- kinds, rows, bodies, table
  have n0 : mNew (aMax aNil) e S = some (.ref S.length, S ++ [.lst []]) := rfl
  let S1 : Store := S ++ [.lst []]
  have x1 : Gr S S1 := Gr.one _
  have q0 : mCallN 2 F_law_rows (aCons (mVar 5) (aCons (mVar 2) aNil)) e S1 = some (.ref (S1.length + 1), S1 ++ [.lst (((rows0 first r).take 5).map rowW), .lst ((rows0 first r).map rowW)]) :=
    call2_of (by rw [hv5]) (by rw [hv2]) (law_rows_of first r)
  let S2 : Store := S1 ++ [.lst (((rows0 first r).take 5).map rowW), .lst ((rows0 first r).map rowW)]
  have x2 : Gr S1 S2 := Gr.app _
  have hrow : S2[S1.length + 1]? = some (.lst ((rows0 first r).map rowW)) := ap_get
  let b0 : W := .tup [natW 0, natW 4, .ref (S1.length + 1)]
  let b1 : W := .tup [natW 1, natW 2, .tup ((rows1 each pad).map rowW)]
  have t0 : mTup (aCons (mC (.int 0)) (aCons (mC (.int 4)) (aCons (mCallN 2 F_law_rows (aCons (mVar 5) (aCons (mVar 2) aNil))) aNil))) e S1 = some (b0, S2) := by
    have := aCons_of (m := mC (.int 0)) (x := .int 0) (S := S1) (S1 := S1) (e := e) rfl (aCons_of (m := mC (.int 4)) (x := .int 4) (S1 := S1) rfl (aCons_of q0 (aNil_of (e := e))))
    simp only [mTup, this]
    rfl
  have t1 : mTup (aCons (mC (.int 1)) (aCons (mC (.int 2)) (aCons (mVar 6) aNil))) e S2 = some (b1, S2) := by
    have := aCons_of (m := mC (.int 1)) (x := .int 1) (S := S2) (S1 := S2) (e := e) rfl (aCons_of (m := mC (.int 2)) (x := .int 2) (S1 := S2) rfl (aCons_of (m := mVar 6) (x := .tup ((rows1 each pad).map rowW)) (S1 := S2) (by rw [hv6]) (aNil_of (e := e))))
    simp only [mTup, this]
    rfl
  let S3 : Store := S2 ++ [.lst [b0, b1]]
  have x3 : Gr S2 S3 := Gr.one _
  have n1 : mNew (aMax (aCons (mTup (aCons (mC (.int 0)) (aCons (mC (.int 4)) (aCons (mCallN 2 F_law_rows (aCons (mVar 5) (aCons (mVar 2) aNil))) aNil)))) (aCons (mTup (aCons (mC (.int 1)) (aCons (mC (.int 2)) (aCons (mVar 6) aNil)))) aNil))) e S1 = some (.ref S2.length, S3) := by
    have := aMax_of (aCons_of t0 (aCons_of t1 (aNil_of (e := e)))) (by simp)
    simp only [mNew, this]
    rfl
  let S4 : Store := S3 ++ [.dct true (en.map fun x => (keyW x.1, natW x.2))]
  have x4 : Gr S3 S4 := Gr.one _
  have n2 : mDisp true (pCons (mTup (aCons (mC (.str "number")) (aCons (mC (.str "more")) aNil))) (mC (.int 1)) pNil) e S3 = some (.ref S3.length, S4) := rfl
  let S5 : Store := S4 ++ [.ins "Program" []]
  have x5 : Gr S4 S5 := Gr.one _
  have hB : Bds S5 S2.length [.ref (S1.length + 1), .tup ((rows1 each pad).map rowW)] (pl first r each pad) := by
    refine ⟨x5.at (x4.at (List.getElem?_concat_length)), rfl, fun i bd w h1 h2 => ?_⟩
    have hi : i = 0 ∨ i = 1 := by
      have := (List.getElem?_eq_some_iff.mp h2).1
      simp at this
      omega
    rcases hi with rfl | rfl
    · cases h1
      cases h2
      exact .inr ⟨_, rfl, x5.at (x4.at (x3.at hrow))⟩
    · cases h1
      cases h2
      exact .inl rfl
  have hk5 : S5[S.length]? = some (.lst (([] : List (Str × List Str)).map kindW)) := x5.at (x4.at (x3.at (x2.at List.getElem?_concat_length)))
  have ht5 : S5[S3.length]? = some (.dct true (en.map fun x => (keyW x.1, natW x.2))) := x5.at List.getElem?_concat_length
  have hp5 : S5[S4.length]? = some (.ins "Program" []) := List.getElem?_concat_length
  obtain ⟨d, S6, y6, g6, P6, hd1, hd2⟩ := Program_init_of (A0_prog hp hr hf he) hp5 hk5 hB ht5 (by decide)
  have hprog : mMakeN "Program" 4 F_Program_init (aCons (mNew (aMax aNil)) (aCons (mNew (aMax (aCons (mTup (aCons (mC (.int 0)) (aCons (mC (.int 4)) (aCons (mCallN 2 F_law_rows (aCons (mVar 5) (aCons (mVar 2) aNil))) aNil)))) (aCons (mTup (aCons (mC (.int 1)) (aCons (mC (.int 2)) (aCons (mVar 6) aNil)))) aNil)))) (aCons (mDisp true (pCons (mTup (aCons (mC (.str "number")) (aCons (mC (.str "more")) aNil))) (mC (.int 1)) pNil)) aNil))) e S = some (.ref S4.length, S6) := by
    have := aCons_of n0 (aCons_of n1 (aCons_of n2 (aNil_of (e := e))))
    simp only [mMakeN, this, List.length_cons, List.length_nil, Nat.zero_add, Nat.reduceAdd, if_true]
    have hy : F_Program_init [.ref S4.length, .ref S.length, .ref S2.length, .ref S3.length] (S4 ++ [.ins "Program" []]) = some (.non, S6) := y6
    simp only [hy]
  obtain ⟨adr, S7, y7, R7, g7, a7, own7⟩ := Plain_init_of (S := S6) P6 (by show 2 ≤ 1000; decide) (by decide) (b := 0) (bd := bd0 first r) rfl (x := .wt []) (nums := []) (.inr (.inl rfl)) rfl (by show 0 ≤ 4; decide) (by show 4 ≤ 1000; decide) (fun i hi => by simp at hi)
  have x14 : Gr S S4 := x1.trans (x2.trans (x3.trans x4))
  have x6 : Gr S S6 := ⟨by have := g6.len; have := x14.len; have := x5.len; omega, fun i hi => by
    have h4 : i < S4.length := Nat.lt_of_lt_of_le hi x14.len
    rw [g6.keep i (Nat.lt_of_lt_of_le h4 x5.len) (by omega), x5.keep i h4, x14.keep i hi]⟩
  refine ⟨S6.length, S4.length, adr, S7, ?_, R7, x6.trans g7, a7, fun i hi => own7 i (Nat.lt_of_lt_of_le hi x6.len)⟩
  have := aCons_of hprog (aCons_of (m := mC (.int 0)) (x := natW 0) (S1 := S6) rfl (aNil_of (e := e)))
  simp only [mMakeD, this, List.length_cons, List.length_nil, Nat.zero_add, Nat.reduceAdd, if_true]
  have hy : F_Plain_init (.ref S6.length :: ([.ref S4.length, natW 0] ++ [.wt []])) (S6 ++ [.ins "Plain" []]) = some (.non, S7) := y7
  simp only [hy]
end K17
end
end Gm

set_option linter.all false
namespace Gm
open PySem (Str)
open Ma
section
variable {S S0 S1 S2 S3 S' : Store} {e : Env} {adr : Role → Nat} {s c : Nat} {ns : List Int}
theorem wInts_map : ∀ tl : List Int, wInts (tl.map .int) = some tl
  | [] => rfl
  | a :: tl => by
    rw [List.map_cons, wInts, wInts_map tl]
    rfl
theorem al_ints (S : Store) (n : Nat) (xs : List Int) : ∀ p ∈ (xs.map W.int).zip (xs.map W.int), Al S (n + 1) p.1 p.2 := by
  intro p hp
  obtain ⟨i, hi⟩ := List.getElem?_of_mem hp
  obtain ⟨h1, h2⟩ := List.getElem?_zip_eq_some.mp hi
  rw [h1] at h2
  have e : p.1 = p.2 := Option.some.inj h2
  rw [← e]
  rw [List.getElem?_map] at h1
  cases q : xs[i]? with
  | none => rw [q] at h1; cases h1
  | some x =>
    rw [q] at h1
    have e2 : W.int x = p.1 := Option.some.inj h1
    rw [← e2]
    simp [Al]
namespace K17
theorem law17 (ns : List Int) (hns : ns.length ≤ 63) : ∃ S', F_law [.cl (ns.map .int)] [] = some (.bl true, S') := by
  let a0 : W := .cl (ns.map .int)
  -- the draws
  have y1 := law_begin_of (S := []) (r := 0) (ns := ns) (by omega)
  let s : Nat := 1
  let c : Nat := 0
  let T1 : Store := [.lst (ns.map .int), .dct false (drawKvs 0 0 0)]
  have D1 : Dr T1 s c ns := ⟨0, 0, ⟨rfl, rfl, by omega, by decide⟩⟩
  have z1 : sAsg (mCallN 1 F_law_begin (aCons (mVar 0) aNil)) (gName 1) [some a0, none, none, none, none, none, none, none, none, none, none, none, none, none] [] = some (.nx (EE a0 s none none none none none none), T1) :=
    asg_of (w := .ref 1) (S1 := T1) (call1_of rfl y1) rfl
  obtain ⟨r, T2, y2, hr, D2⟩ := rounds_of (e := EE a0 s none none none none none none) D1 rfl
  have z2 := asg_of (g := gName 2) (e1 := EE a0 s (some (.int r)) none none none none none) (S2 := T2) y2 rfl
  let E2 : Env := EE a0 s (some (.int r)) none none none none none
  -- each, pad
  obtain ⟨v3, T3, y3, p3, q3, D3, g3⟩ := D2.next (e := E2) (mo := mVar 1) (mk := op2 fPow (mC (.int 10)) (mC (.int 7))) (k := 10 ^ 7) (by decide) (by decide) rfl (powc 10 7 (by decide))
  obtain ⟨v4, T4, y4, p4, q4, D4, g4⟩ := D3.next (e := E2) (mo := mVar 1) (mk := mC (.int 3)) (k := 3) (by decide) (by decide) rfl rfl
  let each : Int := v3 - 10 ^ 6
  have hel : lim each := by
    unfold lim
    simp only [each]
    omega
  obtain ⟨pad, hpad⟩ : ∃ pad : Nat, (pad : Int) = v4 := ⟨v4.toNat, Int.toNat_of_nonneg p4⟩
  have hp : pad < 3 := by omega
  have z3 : sPar 3 4 (aCons (op2 fSub (mCallN 2 F_law_next (aCons (mVar 1) (aCons (op2 fPow (mC (.int 10)) (mC (.int 7))) aNil))) (op2 fPow (mC (.int 10)) (mC (.int 6)))) (aCons (mCallN 2 F_law_next (aCons (mVar 1) (aCons (mC (.int 3)) aNil))) aNil)) E2 T2 = some (.nx (EE a0 s (some (.int r)) (some (.int each)) (some (.int pad)) none none none), T4) := by
    have := aCons_of (op2_of (f := fSub) (y := .int (10 ^ 6)) y3 (powc 10 6 (by decide)) (z := .int each) rfl) (aCons_of y4 (aNil_of (e := E2)))
    simp only [sPar, this]
    rw [hpad]
    rfl
  let E4 : Env := EE a0 s (some (.int r)) (some (.int each)) (some (.int pad)) none none none
  obtain ⟨f0, T5, y5, D5⟩ := first_of (e := E4) (r := r) (each := each) D4 ⟨by omega, by omega⟩ rfl rfl rfl
  have z4 := asg_of (g := gName 5) (e1 := EE a0 s (some (.int r)) (some (.int each)) (some (.int pad)) (some (.int f0)) none none) (S2 := T5) y5 rfl
  let E5 : Env := EE a0 s (some (.int r)) (some (.int each)) (some (.int pad)) (some (.int f0)) none none
  let first : Int := if (if (10 ^ 9 : Int) < f0 then (10 ^ 9 : Int) else f0) > -(10 ^ 9) then (if (10 ^ 9 : Int) < f0 then (10 ^ 9 : Int) else f0) else -(10 ^ 9)
  have hf : lim first := clamp_lim f0
  have z5 : sAsg (op2 fMax2 (op1 fNeg (op2 fPow (mC (.int 10)) (mC (.int 9)))) (op2 fMin2 (mVar 5) (op2 fPow (mC (.int 10)) (mC (.int 9))))) (gName 5) E5 T5 = some (.nx (EE a0 s (some (.int r)) (some (.int each)) (some (.int pad)) (some (.int first)) none none), T5) := by
    have hpw : op2 fPow (mC (.int 10)) (mC (.int 9)) E5 T5 = some (.int (10 ^ 9), T5) := powc 10 9 (by decide)
    have hneg : op1 fNeg (op2 fPow (mC (.int 10)) (mC (.int 9))) E5 T5 = some (.int (-(10 ^ 9)), T5) := by simp only [op1, hpw, fNeg]
    refine asg_of (w := .int first) (S1 := T5) (op2_of hneg (op2_of (x := .int f0) rfl hpw rfl) ?_) rfl
    rfl
  let E6 : Env := EE a0 s (some (.int r)) (some (.int each)) (some (.int pad)) (some (.int first)) none none
  have y6 := more_of (S := T5) (e := E6) (each := each) hp rfl rfl
  have z6 := asg_of (g := gName 6) (e1 := EE a0 s (some (.int r)) (some (.int each)) (some (.int pad)) (some (.int first)) (some (.tup ((rows1 each pad).map rowW))) none) (S2 := T5) y6 rfl
  let more : W := .tup ((rows1 each pad).map rowW)
  let E7 : Env := EE a0 s (some (.int r)) (some (.int each)) (some (.int pad)) (some (.int first)) (some more) none
  obtain ⟨run, p, adr, T6, y7, R, g6, arun, own⟩ := run_of (S := T5) (e := E7) hp hr hf hel rfl rfl rfl
  have z7 := asg_of (g := gName 7) (e1 := EE a0 s (some (.int r)) (some (.int each)) (some (.int pad)) (some (.int first)) (some more) (some (.ref run))) (S2 := T6) y7 rfl
  let E8 : Env := EE a0 s (some (.int r)) (some (.int each)) (some (.int pad)) (some (.int first)) (some more) (some (.ref run))
  have D6 := D5.gr g6
  have sc5 : s < T5.length ∧ c < T5.length := by
    obtain ⟨L, a, d⟩ := D5
    exact ⟨(List.getElem?_eq_some_iff.mp d.st).1, (List.getElem?_eq_some_iff.mp d.cs).1⟩
  -- events, done, total
  let ev : Nat := T6.length
  let T7 : Store := T6 ++ [.lst []]
  have z8 : sPar3 8 9 10 (aCons (mNew (aMax aNil)) (aCons (mC (.int 3)) (aCons (mVar 5) aNil))) E8 T6 = some (.nx [some a0, some (.ref s), some (.int r), some (.int each), some (.int pad), some (.int first), some more, some (.ref run), some (.ref ev), some (.int 3), some (.int first), none, none, none], T7) := rfl
  obtain ⟨R7, x7⟩ := R.more (.lst [])
  let F0 : Env := LE a0 s r each pad first more run ev ((3 : Nat) : Int) first (gaveW first) none none
  have z9 : sAsg (mTup (aCons (mC (.str "gave")) (aCons (mVar 5) aNil))) (gName 11) [some a0, some (.ref s), some (.int r), some (.int each), some (.int pad), some (.int first), some more, some (.ref run), some (.ref ev), some (.int 3), some (.int first), none, none, none] T7 = some (.nx F0, T7) := asg_of (w := gaveW first) (S1 := T7) rfl rfl
  have hev7 : T7[ev]? = some (.lst (([] : List Int).map .int)) := List.getElem?_concat_length
  obtain ⟨T8, done, total, k', z10, g8, hev8, hlen8, hdone⟩ := loop17 a0 s run ev each first pad r more hp hr T7 hev7
  have ownev : ¬ Own adr (A0 p first r each pad) ev := fun ⟨ro, h1, h2⟩ => by
    have := R.lt h1
    omega
  have R8 := R7.other g8 ownev
  obtain ⟨B, K, hK, hK2, hB1, hB2, hB3, hB4⟩ := begin_run (first := first) (each := each) hp hr p
  let dueW := (walk each pad r first [] 3).2.1
  let evs := (walk each pad r first [] 3).1
  -- done
  have z11 : ∃ dn : Int, dn = K ∧ sAug 9 (fun i j => i + j) (op2 fMul (mC (.int 2)) (op1 fInt (op2 fEq (op2 fIx (mVar 11) (mC (.int 0))) (mC (.str "gave"))))) (LE a0 s r each pad first more run ev done total dueW k' none) T8 = some (.nx (LE a0 s r each pad first more run ev dn total dueW k' none), T8) := by
    have hKp : (K : Int) = ((walk each pad r first [] 3).2.2 : Nat) := by rw [hB4, hB3]
    have l2 : inLine 2 = true := by decide +kernel
    have aug : ∀ (g : W) (bb : Bool), fEq (match dueW with | .tup (x :: _) => x | _ => .non) (.str "gave") T8 = some (.bl bb) → (∃ xs x, dueW = .tup (x :: xs)) → sAug 9 (fun i j => i + j) (op2 fMul (mC (.int 2)) (op1 fInt (op2 fEq (op2 fIx (mVar 11) (mC (.int 0))) (mC (.str "gave"))))) (LE a0 s r each pad first more run ev done total dueW k' none) T8 = some (.nx (LE a0 s r each pad first more run ev (done + 2 * (if bb then 1 else 0)) total dueW k' none), T8) := by
      intro g bb hg ⟨xs, x, hx⟩
      have w1 : op2 fIx (mVar 11) (mC (.int 0)) (LE a0 s r each pad first more run ev done total dueW k' none) T8 = some (x, T8) := op2_of (x := dueW) (y := .int 0) rfl rfl (by rw [hx]; exact ix0)
      rw [hx] at hg
      have w2 := op2_of w1 (mb := mC (.str "gave")) (y := .str "gave") (S2 := T8) rfl hg
      have w3 : op1 fInt (op2 fEq (op2 fIx (mVar 11) (mC (.int 0))) (mC (.str "gave"))) (LE a0 s r each pad first more run ev done total dueW k' none) T8 = some (.int (if bb then 1 else 0), T8) := by
        simp only [op1, w2, fInt_bl]
      have w4 : op2 fMul (mC (.int 2)) (op1 fInt (op2 fEq (op2 fIx (mVar 11) (mC (.int 0))) (mC (.str "gave")))) (LE a0 s r each pad first more run ev done total dueW k' none) T8 = some (.int (2 * (if bb then 1 else 0)), T8) := op2_of (x := .int 2) (S1 := T8) rfl w3 (fMul_l l2)
      have h9 : (LE a0 s r each pad first more run ev done total dueW k' none)[9]? = some (some (.int done)) := rfl
      simp only [sAug, h9, w4]
      rfl
    rcases hdone with ⟨t', h1, h2⟩ | ⟨h1, h2⟩
    · have hd : dueW = gaveW t' := h1
      refine ⟨done + 2, by rw [h2, hKp], ?_⟩
      exact aug .non true (by rw [hd]; rfl) ⟨_, _, hd⟩
    · have hd : dueW = greatW := h1
      refine ⟨done, by rw [h2, hKp], ?_⟩
      have := aug .non false (by rw [hd]; rfl) ⟨_, _, hd⟩
      simpa using this
  obtain ⟨dn, hdn, z11⟩ := z11
  let td : Nat := T8.length
  let T9 : Store := T8 ++ [.lst []]
  obtain ⟨R9, x9⟩ := R8.more (.lst [])
  have z12 : sAsg (mNew (aMax aNil)) (gName 13) (LE a0 s r each pad first more run ev dn total dueW k' none) T8 = some (.nx (LE a0 s r each pad first more run ev dn total dueW k' (some (.ref td))), T9) := asg_of (w := .ref td) (S1 := T9) rfl rfl
  have h67 : T7.length = T6.length + 1 := by simp [T7]
  have htd : td = T6.length + 1 := by show T8.length = _; omega
  have hs6 : s < T6.length ∧ c < T6.length := ⟨Nat.lt_of_lt_of_le sc5.1 g6.len, Nat.lt_of_lt_of_le sc5.2 g6.len⟩
  have G := A0_good (first := first) (each := each) hp hr hf hel p
  have D9 : Dr T9 s c ns := by
    obtain ⟨L, a, d⟩ := D6.gr (Gr.one (.lst []))
    have d8 : Draw T8 s c ns L a := ⟨g8.at d.st (by omega), g8.at d.cs (by omega), d.len, d.nn⟩
    exact ⟨L, a, d8.gr (Gr.one _)⟩
  have I0 : Inv (A0 p first r each pad) T9 adr 0 run s c ev td ns evs [] := by
    refine ⟨R9, fun _ => G, ⟨by show 0 ≤ 10; decide, fun i => by show 0 ≤ 10; decide, by show 0 ≤ 10; decide, by show 1 ≤ 10; decide⟩, arun, D9, own s sc5.1, own c sc5.2, ownev, fun ⟨ro, h1, h2⟩ => ?_, (Gr.one _).at hev8, List.getElem?_concat_length, rfl, Nat.le_refl _⟩
    have := R8.lt h1
    omega
  have hBe : B.ending ≠ .non := by
    rw [hB1]
    rcases hdone with ⟨t', h1, _⟩ | ⟨h1, _⟩ <;> rw [h1] <;> simp [gaveW, greatW]
  obtain ⟨N, T10, adr', tl, z13, I, hend, hN⟩ := while17 (A0 := A0 p first r each pad) (fun _ => G) hK hBe hK2 (run := run) (s := s) (c := c) (ev := ev) (td := td) (ns := ns) (evs := evs) ⟨by omega, by omega, by omega, by omega⟩ a0 r each pad first more dn total dueW k' turns 0 T9 adr [] (by unfold turns; omega) (by omega) I0
  -- the end is the one foretold
  have hfin : (A0 p first r each pad).runA N = (B, K) := by
    have h1 := runA_add N (K + 1) (A0 p first r each pad) (fun _ => G)
    rw [runA_end hend, Nat.add_comm N (K + 1), hK] at h1
    have e1 := congrArg Prod.fst h1
    have e2 := congrArg Prod.snd h1
    simp only at e1 e2
    ext1
    · exact e1.symm
    · simp only
      omega
  have hBm : ((A0 p first r each pad).runA N).1 = B := by rw [hfin]
  have hKm : ((A0 p first r each pad).runA N).2 = K := by rw [hfin]
  have RB := I.st
  rw [hBm] at RB
  have hrun := I.run
  have Bt : B.told.length ≤ 10000 := by
    have := I.cap.told
    rw [hBm] at this
    omega
  -- alike
  let FE : Env := LE a0 s r each pad first more run ev dn total dueW k' (some (.ref td))
  have m1 : mMethN "Plain" "events" 1 F_Rows_events (mVar 7) aNil FE T10 = some (.ref T10.length, T10 ++ [.lst B.told]) :=
    (meth0_of (a := adr' .run) (by rw [hrun]; rfl) RB.o_run rfl rfl).trans (RB.events_ (by omega))
  obtain ⟨RC, xC⟩ := RB.more (.lst B.told)
  let T11 : Store := T10 ++ [.lst B.told]
  have m2 : mMethN "Plain" "end" 1 F_Rows_end (mVar 7) aNil FE T11 = some (B.ending, T11) :=
    (meth0_of (a := adr' .run) (by rw [hrun]; rfl) RC.o_run rfl rfl).trans RC.end_
  have m3 : mMethN "Plain" "done" 1 F_Rows_done (mVar 7) aNil FE T11 = some (.int B.passed, T11) :=
    (meth0_of (a := adr' .run) (by rw [hrun]; rfl) RC.o_run rfl rfl).trans RC.done_
  let l1 : List W := [.ref T10.length, B.ending, .int B.passed]
  let l2 : List W := [.ref ev, dueW, .int dn]
  let T12 : Store := T11 ++ [.lst l1]
  let T13 : Store := T12 ++ [.lst l2]
  have n1 : mNew (aMax (aCons (mMethN "Plain" "events" 1 F_Rows_events (mVar 7) aNil) (aCons (mMethN "Plain" "end" 1 F_Rows_end (mVar 7) aNil) (aCons (mMethN "Plain" "done" 1 F_Rows_done (mVar 7) aNil) aNil)))) FE T10 = some (.ref T11.length, T12) := by
    have := aMax_of (aCons_of m1 (aCons_of m2 (aCons_of m3 (aNil_of (e := FE))))) (by simp)
    simp only [mNew, this]
    rfl
  have n2 : mNew (aMax (aCons (mVar 8) (aCons (mVar 11) (aCons (mVar 9) aNil)))) FE T12 = some (.ref T12.length, T13) := rfl
  have x10 : Gr T10 T13 := (Gr.one _).trans ((Gr.one _).trans (Gr.one _))
  have al : Al T13 8 (.ref T11.length) (.ref T12.length) := by
    have g1 : T13[T11.length]? = some (.lst l1) := (Gr.one _).at List.getElem?_concat_length
    have g2 : T13[T12.length]? = some (.lst l2) := List.getElem?_concat_length
    refine ⟨l1, l2, g1, g2, rfl, by simp [l1], fun q hq => ?_⟩
    simp only [l1, l2, List.zip_cons_cons, List.zip_nil_right, List.mem_cons, List.not_mem_nil, or_false] at hq
    rcases hq with rfl | rfl | rfl
    · have g3 : T13[T10.length]? = some (.lst (evs.map .int)) := by
        rw [← hB2]
        exact ((Gr.one _).trans (Gr.one _)).at List.getElem?_concat_length
      have g4 : T13[ev]? = some (.lst (evs.map .int)) := x10.at I.evS
      refine ⟨_, _, g3, g4, rfl, ?_, al_ints T13 5 evs⟩
      rw [← hB2]
      omega
    · show Al T13 7 B.ending dueW
      rw [hB1]
      rcases hdone with ⟨t', h1, _⟩ | ⟨h1, _⟩
      · show Al T13 7 (walk each pad r first [] 3).2.1 (walk each pad r first [] 3).2.1
        rw [h1]
        simp [Al, gaveW]
      · show Al T13 7 (walk each pad r first [] 3).2.1 (walk each pad r first [] 3).2.1
        rw [h1]
        simp [Al, greatW]
    · show (B.passed : Int) = dn
      rw [hdn, hB4]
  have t14 : mCallN 2 (F_law_alike 8) (aCons (mNew (aMax (aCons (mMethN "Plain" "events" 1 F_Rows_events (mVar 7) aNil) (aCons (mMethN "Plain" "end" 1 F_Rows_end (mVar 7) aNil) (aCons (mMethN "Plain" "done" 1 F_Rows_done (mVar 7) aNil) aNil))))) (aCons (mNew (aMax (aCons (mVar 8) (aCons (mVar 11) (aCons (mVar 9) aNil))))) aNil)) FE T10 = some (.bl true, T13) := by
    have := aCons_of n1 (aCons_of n2 (aNil_of (e := FE)))
    simp only [mCallN, this, List.length_cons, List.length_nil, Nat.zero_add, Nat.reduceAdd, if_true]
    exact alike_of 8 _ _ al
  have z14 : sIf (tNot (tVal (mCallN 2 (F_law_alike 8) (aCons (mNew (aMax (aCons (mMethN "Plain" "events" 1 F_Rows_events (mVar 7) aNil) (aCons (mMethN "Plain" "end" 1 F_Rows_end (mVar 7) aNil) (aCons (mMethN "Plain" "done" 1 F_Rows_done (mVar 7) aNil) aNil))))) (aCons (mNew (aMax (aCons (mVar 8) (aCons (mVar 11) (aCons (mVar 9) aNil))))) aNil))))) (sRet (mC (.bl false))) sNil FE T10 = some (.nx FE, T13) := by
    simp only [sIf, tNot, tval_of t14, Bool.not_true, sNil]
  -- the sum, and no further step
  have q1 : op2 fEq (mSumE (mVar 13)) (mVar 9) FE T13 = some (.bl true, T13) := by
    have hs : mSumE (mVar 13) FE T13 = some (.int tl.sum, T13) := by
      have h13 : mVar 13 FE T13 = some (.ref td, T13) := rfl
      simp only [mSumE, op1, h13, seq_ref (x10.at I.tdS), wInts_map, Option.map_some]
    refine op2_of hs (y := .int dn) rfl ?_
    have : tl.sum = dn := by rw [I.sum, hKm, hdn]
    simp [fEq, eqW, isSc, eqd, this]
  have R13 : St adr' B T13 := (RB.grow x10.len x10.keep).1
  have hlive : B.Live := fun h => absurd h (by rw [← hBm]; exact hend)
  obtain ⟨adr3, T14, y15, _⟩ := R13.step (k := 2000) hlive (n := 8100) (by
    have := I.cap
    rw [hBm] at this
    exact ⟨Nat.le_trans this.prof (by omega), fun i => Nat.le_trans (this.seen i) (by omega), Nat.le_trans this.told (by omega), Nat.le_trans this.ent (by omega)⟩) (by decide) (by decide)
  have q2 : op2 fEq (mMethK "Plain" "step" 1 F_Plain_step (mVar 7) (aCons (mC (.int 2000)) aNil)) (mC (.int 0)) FE T13 = some (.bl true, T14) := by
    have hz : (B.runA 2000).2 = 0 := by rw [runA_end (by rw [← hBm]; exact hend)]
    rw [hz, hrun] at y15
    have hm : mMethK "Plain" "step" 1 F_Plain_step (mVar 7) (aCons (mC (.int 2000)) aNil) FE T13 = some (natW 0, T14) := by
      have h7 : mVar 7 FE T13 = some (.ref run, T13) := rfl
      have ho := R13.o_run
      rw [hrun] at ho
      have hlk : (B.runFs adr').lookup ("step" : Str) = none := rfl
      have ha := aCons_of (m := mC (.int 2000)) (x := natW 2000) (S := T13) (S1 := T13) (e := FE) rfl (aNil_of (e := FE))
      simp only [mMethK, h7, ho, hlk, and_self, if_true, ha, List.length_cons, List.length_nil, Nat.zero_add]
      exact y15
    exact op2_of hm (y := .int 0) rfl rfl
  refine ⟨T14, ?_⟩
  rw [F_law, fnOf_eq]
  show fin (b_law [some a0, none, none, none, none, none, none, none, none, none, none, none, none, none] []) = _
  unfold b_law
  rw [seq_of z1, seq_of z2, seq_of z3, seq_of z4, seq_of z5, seq_of z6, seq_of z7, seq_of z8, seq_of z9]
  rw [seq_of z10]
  rw [seq_of z11, seq_of z12]
  unfold sWhile
  rw [seq_of z13]
  rw [seq_of z14, ret_of (mAnd_t q1 q2)]
  rfl
end K17
end
end Gm

set_option Elab.async false
set_option linter.all false
set_option maxRecDepth 100000
set_option maxHeartbeats 4000000
open PySem PySem.W PySem.Calls PyProof.Rows
theorem PySem.Challenge.cw_guessmill_k17_long_runs_holds : PySem.Challenge.rw_guessmill_k17_long_runs.Holds := by
  w_on; o_law
  refine HandSHeadRun.head_any (r := OpenLaw.row PySem.Challenge.rw_guessmill_k17_long_runs) (q := view (OpenLaw.row PySem.Challenge.rw_guessmill_k17_long_runs).prog [65]) (H := Gm.hkM) (ob := Gm.obK) (M := 60000) (loose := Gm.looseL) (d := HandSHeadRun.topDef (OpenLaw.row PySem.Challenge.rw_guessmill_k17_long_runs).prog 65) (kwd := []) Gm.obK_eq
    (by kernel_rfl) (fun s => by kernel_rfl) Gm.runK (by kernel_rfl) (by kernel_rfl) (by kernel_rfl) (by rfl) (by first | assumption | decide +kernel) (by decide +kernel) ⟨rfl, rfl, rfl, rfl, rfl, by decide +kernel⟩ ?hw ?hc
  case hw => w_witness2
  case hc =>
    refine L2.walk_ofE (l := PySem.Challenge.rw_guessmill_k17_long_runs) (n := 63) (k := 9) (x := "_law_script") (CX := L2.CX0) rfl (by decide) (by kernel_rfl) ⟨rfl, by decide, by decide⟩ ?F (fun _ _ _ _ z => z)
    intro w mg fa h Y G hmg0
    obtain ⟨K, KX, c⟩ := Y
    have hmg : mg ("law" : PySem.Str) = some (.ref fa) := by
      have e : (HandSHeadRun.topDef (OpenLaw.row PySem.Challenge.rw_guessmill_k17_long_runs).prog 65).name = ("law" : PySem.Str) := by kernel_rfl
      rw [← e]
      exact hmg0
    obtain ⟨fd, hb, hF⟩ := Gm.facts (P := (PySem.Challenge.rw_guessmill_k17_long_runs).prog) (w := w) KX G hmg c
    exact ⟨K, fd, Gm.LfF K mg 1 Gm.F_law, KX, hb, fun H a ns hl hO hS => Gm.law_start Gm.K17.law17 H a ns hl hO hS, hF⟩
#print axioms PySem.Challenge.cw_guessmill_k17_long_runs_holds

