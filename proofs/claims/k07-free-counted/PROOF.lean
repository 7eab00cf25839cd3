import PyProof.Rows.All
import Wide.All
import OpenK.AllK
import Wide.FinOn
import HandS.ForMost
import HandS.ForExc
import HandS.Defaults
import HandS.CallSlots
import HandS.Flow
import HandS.Gcd
import HandS.Zip
import HandS.Walk
import HandS.Deep
import HandS.IsInst
import HandS.Wide
import HandS.WideBits
import HandS.TupAny
import HandS.TupMul
import HandS.Head2
import HandS.HeadEnd
import HandS.HeadHook2
import HandS.Codes
import HandS.Head3
import HandS.Replace
import PyProof.Rows.SortShellAny
import HandS.SortInts
import HandS.Style
import PyProof.Draws
import HandS.TupLe
import PyProof.CallType
import PyProof.RangeIter
import HandS.DictComp
import HandS.SetFor
import HandS.Dict
import KE.KTupSum
import HandS.Star
import HandS.Conv
import HandS.Iter
import HandS.Small
import HandS.ExcInit
import HandS.ExcField
import HandS.ExcIs
import KE.KExcIs
import PyProof.StrOps2
import PySem.Challenge.RW_threealike_k07_whole_free_hands_counted
set_option linter.all false
/-! Mp: a small pure reading of the programs: values, stores, what expressions and statements do. -/
namespace Mp
/-- values: lst a list that nobody changes, ref a list (dict, instance) of the store, scr the script -/
inductive W where
  | non | bl (b : Bool) | int (i : Int) | str (s : List Nat) | tup (xs : List W) | lst (xs : List W) | scr (xs : List W)
  | dct (ks vs : List W) | ref (i : Nat) | fn (f : Nat) | cls (c : Nat) | exc (c : Nat) (x : W)
  deriving Inhabited
mutual
def W.pure : W → Bool
  | .ref _ => false
  | .tup xs => pures xs
  | .lst xs => pures xs
  | .scr xs => pures xs
  | .dct ks vs => pures ks && pures vs
  | .exc _ _ => false
  | .non => true
  | .bl _ => true
  | .int _ => true
  | .str _ => true
  | .fn _ => true
  | .cls _ => true
def pures : List W → Bool
  | [] => true
  | x :: xs => x.pure && pures xs
end
/-! data: of depth at most k, of None, truths, ints, texts, tuples, lists -/
mutual
def okD : W → Nat → Bool
  | .non, _ => true
  | .bl _, _ => true
  | .int _, _ => true
  | .str _, _ => true
  | .tup xs, k => decide (0 < k) && okDs xs (k - 1)
  | .lst xs, k => decide (0 < k) && okDs xs (k - 1)
  | _, _ => false
def okDs : List W → Nat → Bool
  | [], _ => true
  | x :: xs, k => okD x k && okDs xs k
end
mutual
def eqW : W → W → Bool
  | .non, .non => true
  | .bl a, .bl b => a == b
  | .bl a, .int j => (if a then 1 else 0) == j
  | .int i, .bl b => i == (if b then 1 else 0)
  | .int i, .int j => i == j
  | .str x, .str y => x == y
  | .lst xs, .lst ys => eqWs xs ys
  | .tup xs, .tup ys => eqWs xs ys
  | _, _ => false
def eqWs : List W → List W → Bool
  | [], [] => true
  | x :: xs, y :: ys => eqW x y && eqWs xs ys
  | _, _ => false
end
inductive Cell where
  | lst (xs : List W) | dct (ks vs : List W) | ins (c : Nat) (fs : List (Nat × W))
  deriving Inhabited
abbrev Store := List Cell
inductive R (α : Type) where
  | ok (a : α) (S : Store)
  | exc (c : Nat) (x : W) (S : Store)
  | stuck
def R.bind {α β : Type} : R α → (α → Store → R β) → R β
  | .ok a S, k => k a S
  | .exc c x S, _ => .exc c x S
  | .stuck, _ => .stuck
abbrev Env := List (Option W)
abbrev ME := Env → Store → R W
abbrev MT := Env → Store → R Bool
abbrev MA := Env → Store → R (List W)
def bigLine : Nat := 16777216
/-! expressions -/
def mVar (i : Nat) : ME := fun η S => match η[i]? with
  | some (some w) => .ok w S
  | _ => .stuck
def mC (w : W) : ME := fun _ S => .ok w S
def mStuck : ME := fun _ _ => .stuck
def rOpt {α : Type} (o : Option α) (S : Store) : R α := match o with
  | some w => .ok w S
  | none => .stuck
abbrev O2 := W → W → Store → Option W
abbrev OA := List W → Store → Option W
def mBin (o : O2) (f g : ME) : ME := fun η S => (f η S).bind fun x S1 => (g η S1).bind fun y S2 => rOpt (o x y S2) S2
def mUn (o : W → Store → Option W) (f : ME) : ME := fun η S => (f η S).bind fun x S1 => rOpt (o x S1) S1
def truthy (S : Store) : W → Option Bool
  | .non => some false
  | .bl b => some b
  | .int i => some (i != 0)
  | .str s => some (!s.isEmpty)
  | .tup xs => some (!xs.isEmpty)
  | .lst xs => some (!xs.isEmpty)
  | .ref i => (match S[i]? with
    | some (.lst xs) => some (!xs.isEmpty)
    | _ => none)
  | _ => none
def rTruth (x : W) (S : Store) : R Bool := rOpt (truthy S x) S
/-- a value as a test -/
def mTru (f : ME) : MT := fun η S => (f η S).bind rTruth
def mTNot (f : MT) : MT := fun η S => (f η S).bind fun b S1 => .ok (!b) S1
def mTAnd (f g : MT) : MT := fun η S => (f η S).bind fun b S1 => if b = true then g η S1 else .ok false S1
def mTOr (f g : MT) : MT := fun η S => (f η S).bind fun b S1 => if b = true then .ok true S1 else g η S1
def mNot (f : ME) : ME := fun η S => (f η S).bind fun x S1 => (rTruth x S1).bind fun b S2 => .ok (.bl (!b)) S2
def mAnd (f g : ME) : ME := fun η S => (f η S).bind fun x S1 => (rTruth x S1).bind fun b S2 => if b = true then g η S2 else .ok x S2
def mOr (f g : ME) : ME := fun η S => (f η S).bind fun x S1 => (rTruth x S1).bind fun b S2 => if b = true then .ok x S2 else g η S2
def mIf (c : MT) (f g : ME) : ME := fun η S => (c η S).bind fun b S1 => if b = true then f η S1 else g η S1
def maNil : MA := fun _ S => .ok [] S
def maCons (f : ME) (g : MA) : MA := fun η S => (f η S).bind fun x S1 => (g η S1).bind fun xs S2 => .ok (x :: xs) S2
def sized (n : Nat) (r : R α) : R α := if n ≤ bigLine then r else .stuck
def mTup (g : MA) : ME := fun η S => (g η S).bind fun xs S1 => sized xs.length (.ok (.tup xs) S1)
def mLst (g : MA) : ME := fun η S => (g η S).bind fun xs S1 => sized xs.length (.ok (.lst xs) S1)
/-- a new list of the store -/
def mLstM (g : MA) : ME := fun η S => (g η S).bind fun xs S1 => sized xs.length (.ok (.ref S1.length) (S1 ++ [.lst xs]))
/-- a call of a built-in -/
def mBi (o : OA) (g : MA) : ME := fun η S => (g η S).bind fun xs S1 => rOpt (o xs S1) S1
/-- a chain a < b < c -/
def mChain (o o' : O2) (f g h : ME) : ME := fun η S => (f η S).bind fun x S1 => (g η S1).bind fun y S2 => match o x y S2 with
  | some (.bl true) => (h η S2).bind fun y' S4 => rOpt (o' y y' S4) S4
  | some (.bl false) => .ok (.bl false) S2
  | _ => .stuck
/-! operators -/
/-- a list, of the store or not -/
def lstOf (S : Store) : W → Option (List W)
  | .lst xs => some xs
  | .ref i => (match S[i]? with
    | some (.lst xs) => some xs
    | _ => none)
  | _ => none
def opAdd : O2 := fun x y S => match x, y with
  | .int i, .int j => some (.int (i + j))
  | .str a, .str b => if a.length + b.length ≤ bigLine then some (.str (a ++ b)) else none
  | .tup a, .tup b => if a.length + b.length ≤ bigLine then some (.tup (a ++ b)) else none
  | x, y => (match lstOf S x, lstOf S y with
    | some a, some b => if a.length + b.length ≤ bigLine then some (.lst (a ++ b)) else none
    | _, _ => none)
def opSub : O2 := fun x y _ => match x, y with
  | .int i, .int j => some (.int (i - j))
  | _, _ => none
def mulOk (i j : Int) : Bool := decide (i.natAbs < 18446744073709551616) || decide (j.natAbs < 18446744073709551616)
def opMul : O2 := fun x y S => match x, y with
  | .int i, .int j => if mulOk i j = true then some (.int (i * j)) else none
  | x, .int k => (match lstOf S x with
    | some xs => if -9223372036854775808 ≤ k ∧ k < 9223372036854775808 ∧ xs.length * k.toNat ≤ bigLine then some (.lst (List.replicate k.toNat xs).flatten) else none
    | none => none)
  | _, _ => none
def opDiv : O2 := fun x y _ => match x, y with
  | .int i, .int j => if 0 < j ∧ j.natAbs.log2 < 9000 then some (.int (i / j)) else none
  | _, _ => none
def opMod : O2 := fun x y _ => match x, y with
  | .int i, .int j => if 0 < j then some (.int (i % j)) else none
  | _, _ => none
def opPow : O2 := fun x y _ => match x, y with
  | .int i, .int j => if 0 ≤ j ∧ j ≤ 1000000 ∧ i.natAbs < 18446744073709551616 then some (.int (i ^ j.toNat)) else none
  | _, _ => none
def opNeg : W → Store → Option W := fun x _ => match x with
  | .int i => some (.int (-i))
  | _ => none
/-- a list of the store as a plain one -/
def plainL (S : Store) (w : W) : W := match lstOf S w with
  | some xs => .lst xs
  | none => w
def opEq : O2 := fun x y S => if okD (plainL S x) 30 = true ∧ okD (plainL S y) 30 = true then some (.bl (eqW (plainL S x) (plainL S y))) else none
def opNe : O2 := fun x y S => if okD (plainL S x) 30 = true ∧ okD (plainL S y) 30 = true then some (.bl (!eqW (plainL S x) (plainL S y))) else none
def opCmp (p : Int → Int → Bool) (q : List Nat → List Nat → Bool) : O2 := fun x y _ => match x, y with
  | .int i, .int j => some (.bl (p i j))
  | .str a, .str b => some (.bl (q a b))
  | _, _ => none
def opLt : O2 := opCmp (fun i j => decide (i < j)) fun a b => decide (a < b)
def opLe : O2 := opCmp (fun i j => decide (i ≤ j)) fun a b => !decide (b < a)
def opGt : O2 := opCmp (fun i j => decide (j < i)) fun a b => decide (b < a)
def opGe : O2 := opCmp (fun i j => decide (j ≤ i)) fun a b => !decide (a < b)
def flat : W → Bool
  | .non => true
  | .bl _ => true
  | .int _ => true
  | .str _ => true
  | _ => false
def inW (x : W) (ys : List W) : Bool := ys.any fun y => eqW y x
def seqOf (S : Store) : W → Option (List W)
  | .tup xs => some xs
  | w => lstOf S w
def opIn : O2 := fun x y S => match x, y with
  | .str [c], .str z => some (.bl (decide (c ∈ z)))
  | x, y => (match seqOf S y with
    | some ys => if flat x = true ∧ ys.all flat = true then some (.bl (inW x ys)) else
        (match lstOf S y with
        | some ys => if okD x 30 = true ∧ okDs ys 29 = true then some (.bl (inW x ys)) else none
        | none => none)
    | none => none)
def opNotIn : O2 := fun x y S => match opIn x y S with
  | some (.bl b) => some (.bl (!b))
  | _ => none
def opIsN : W → Store → Option W := fun x _ => match x with
  | .non => some (.bl true)
  | _ => some (.bl false)
def opNotN : W → Store → Option W := fun x _ => match x with
  | .non => some (.bl false)
  | _ => some (.bl true)
/-- kinds: 0 None, 1 bool, 2 int, 3 str, 4 tuple, 5 list, 6 dict -/
def kindOf (S : Store) : W → Option Nat
  | .non => some 0
  | .bl _ => some 1
  | .int _ => some 2
  | .str _ => some 3
  | .tup _ => some 4
  | .lst _ => some 5
  | .scr _ => some 5
  | .dct _ _ => some 6
  | .ref i => (match S[i]? with
    | some (.lst _) => some 5
    | some (.dct _ _) => some 6
    | _ => none)
  | _ => none
def isKind (k c : Nat) : Bool := k == c || (k == 1 && c == 2)
def opIsi (c : Nat) : W → Store → Option W := fun x S => (kindOf S x).map fun k => .bl (isKind k c)
/-! subscripts -/
def ixW (n : Nat) (i : Int) : Option Nat := if 0 ≤ i then (if i < n then some i.toNat else none) else if -(n : Int) ≤ i then some (i + n).toNat else none
def atW (xs : List W) (i : Int) : Option W := (ixW xs.length i).bind fun j => xs[j]?
def opIx : O2 := fun x y S => match x, y with
  | .str z, .int i => (ixW z.length i).bind fun j => z[j]?.map fun c => .str [c]
  | .tup xs, .int i => atW xs i
  | .scr xs, .int i => atW xs i
  | x, .int i => (lstOf S x).bind fun xs => atW xs i
  | _, _ => none
def sIxW (n d : Nat) : Option Int → Nat
  | none => d
  | some v => if v < 0 then (v + (n : Int)).toNat else min v.toNat n
def cutW {α : Type} (xs : List α) (lo hi : Option Int) : List α := (xs.drop (sIxW xs.length 0 lo)).take (sIxW xs.length xs.length hi - sIxW xs.length 0 lo)
def opSl (x : W) (lo hi : Option Int) (S : Store) : Option W := match x with
  | .str z => some (.str (cutW z lo hi))
  | .tup xs => some (.tup (cutW xs lo hi))
  | .scr xs => some (.lst (cutW xs lo hi))
  | x => (lstOf S x).map fun xs => .lst (cutW xs lo hi)
/-! built-in functions, by their values -/
def intsOf : List W → Option (List Int)
  | [] => some []
  | .int i :: r => (intsOf r).map (i :: ·)
  | _ => none
def bls : List W → Option (List Bool)
  | [] => some []
  | .bl i :: r => (bls r).map (i :: ·)
  | _ => none
def strsOf : List W → Option (List (List Nat))
  | [] => some []
  | .str i :: r => (strsOf r).map (i :: ·)
  | _ => none
def baLen : OA := fun xs S => match xs with
  | [.str z] => some (.int z.length)
  | [.tup xs] => some (.int xs.length)
  | [.scr xs] => some (.int xs.length)
  | [x] => (lstOf S x).map fun xs => .int xs.length
  | _ => none
def baAbs : OA := fun xs _ => match xs with
  | [.int i] => some (.int (if i < 0 then -i else i))
  | _ => none
def baMax2 : OA := fun xs _ => match xs with
  | [.int i, .int j] => some (.int (if j > i then j else i))
  | _ => none
def baMin2 : OA := fun xs _ => match xs with
  | [.int i, .int j] => some (.int (if j < i then j else i))
  | _ => none
def isDig (s : List Nat) : Bool := s.all fun c => decide (48 ≤ c) && decide (c ≤ 57)
def digW (s : List Nat) : Nat := s.foldl (fun acc c => acc * 10 + (c - 48)) 0
def numF : Nat → Nat → List Nat
  | 0, _ => []
  | f + 1, n => if n < 10 then [48 + n] else numF f (n / 10) ++ [48 + n % 10]
def numW (n : Nat) : List Nat := numF (n + 1) n
def baStr : OA := fun xs _ => match xs with
  | [.int i] => if 0 ≤ i ∧ i.natAbs.log2 < 1920 then some (.str (numW i.natAbs)) else none
  | _ => none
def baInt : OA := fun xs _ => match xs with
  | [.int i] => some (.int i)
  | [.bl b] => some (.int (if b then 1 else 0))
  | [.str s] => if isDig s = true ∧ s ≠ [] ∧ s.length ≤ 640 then some (.int (digW s)) else none
  | _ => none
def baDivmod : OA := fun xs _ => match xs with
  | [.int i, .int j] => if 0 < j ∧ j.natAbs.log2 < 9000 then some (.tup [.int (i / j), .int (i % j)]) else none
  | _ => none
def baGcd : OA := fun xs _ => match xs with
  | [.int a, .int b] => some (.int (Nat.gcd a.natAbs b.natAbs))
  | _ => none
def falling (n : Int) (k : Nat) : Int := (List.range k).foldl (fun (p : Int) (i : Nat) => p * (n - (i : Int))) 1
def combW (a b : Int) : Int := if b > a then 0 else falling a (min b (a - b)).toNat / falling (min b (a - b)) (min b (a - b)).toNat
def baComb : OA := fun xs _ => match xs with
  | [.int a, .int b] => if 0 ≤ a ∧ 0 ≤ b ∧ a ≤ 18000 then some (.int (combW a b)) else none
  | _ => none
def baSum : OA := fun xs S => match xs with
  | [.scr xs] => (intsOf xs).map fun ns => .int ns.sum
  | [x] => (lstOf S x).bind fun xs => (intsOf xs).map fun ns => .int ns.sum
  | _ => none
def baAll : OA := fun xs S => match xs with
  | [x] => (lstOf S x).bind fun xs => (bls xs).map fun bs => .bl (bs.all id)
  | _ => none
def baAny : OA := fun xs S => match xs with
  | [x] => (lstOf S x).bind fun xs => (bls xs).map fun bs => .bl (bs.any id)
  | _ => none
def baTuple : OA := fun xs S => match xs with
  | [.tup xs] => some (.tup xs)
  | [x] => (lstOf S x).map fun xs => .tup xs
  | _ => none
def baList : OA := fun xs S => match xs with
  | [.tup xs] => some (.lst xs)
  | [x] => (lstOf S x).map fun xs => .lst xs
  | _ => none
def joinW (sep : List Nat) : List (List Nat) → List Nat
  | [] => []
  | [x] => x
  | x :: r => x ++ sep ++ joinW sep r
def opJoin : O2 := fun x y S => match x with
  | .str a => (seqOf S y).bind fun ys => (strsOf ys).bind fun zs => if (zs.map (·.length)).sum + zs.length * a.length ≤ bigLine then some (.str (joinW a zs)) else none
  | _ => none
abbrev MO := Env → Store → R (Option Int)
def moNone : MO := fun _ S => .ok none S
def moSome (f : ME) : MO := fun η S => (f η S).bind fun x S1 => match x with
  | .int i => .ok (some i) S1
  | _ => .stuck
def mSl (f : ME) (lo hi : MO) : ME := fun η S => (f η S).bind fun x S1 => (lo η S1).bind fun l S2 => (hi η S2).bind fun h S3 => rOpt (opSl x l h S3) S3
/-! statements -/
inductive RS where
  | nx (η : Env) (S : Store)
  | bk (η : Env) (S : Store)
  | ct (η : Env) (S : Store)
  | ret (w : W) (S : Store)
  | exc (c : Nat) (x : W) (η : Env) (S : Store)
  | stuck
abbrev MS := Env → Store → RS
def R.toS {α : Type} (η : Env) (r : R α) (k : α → Store → RS) : RS := match r with
  | .ok a S => k a S
  | .exc c x S => .exc c x η S
  | .stuck => .stuck
def RS.next (r : RS) (k : MS) : RS := match r with
  | .nx η S => k η S
  | r => r
def sSeq (f g : MS) : MS := fun η S => (f η S).next g
def sNx : MS := fun η S => .nx η S
def sSet (i : Nat) (f : ME) : MS := fun η S => (f η S).toS η fun w S1 => .nx (η.set i (some w)) S1
def sRet (f : ME) : MS := fun η S => (f η S).toS η fun w S1 => .ret w S1
def sRetN : MS := fun _ S => .ret .non S
def sDrop (f : ME) : MS := fun η S => (f η S).toS η fun _ S1 => .nx η S1
def sIf (c : MT) (f g : MS) : MS := fun η S => (c η S).toS η fun b S1 => if b = true then f η S1 else g η S1
def sStuck : MS := fun _ _ => .stuck
def sBreak : MS := fun η S => .bk η S
def sCont : MS := fun η S => .ct η S
/-! targets -/
abbrev MG := W → Env → Store → Option (Env × Store)
def gVar (i : Nat) : MG := fun w η S => some (η.set i (some w), S)
/-- o[i] = w for a list of the store -/
def setAt (o i w : W) (S : Store) : Option Store := match o, i with
  | .ref r, .int k => (match S[r]? with
    | some (.lst xs) => if 0 ≤ k ∧ k < xs.length then (if w.pure then some (S.set r (.lst (xs.set k.toNat w))) else none)
        else if k < 0 ∧ -(xs.length : Int) ≤ k then (if w.pure then some (S.set r (.lst (xs.set (k + xs.length).toNat w))) else none) else none
    | _ => none)
  | _, _ => none
abbrev MGs := List W → Env → Store → Option (Env × Store)
def gsNil : MGs := fun ws η S => match ws with
  | [] => some (η, S)
  | _ => none
def gsCons (g : MG) (gs : MGs) : MGs := fun ws η S => match ws with
  | w :: r => (g w η S).bind fun (η1, S1) => gs r η1 S1
  | [] => none
def gTupW (gs : MGs) : MG := fun w η S => match w with
  | .tup xs => gs xs η S
  | _ => none
def gIdx (o i : ME) : MG := fun w η S => match o η S with
  | .ok ow S1 => (match i η S1 with
    | .ok iw S2 => (setAt ow iw w S2).map fun S3 => (η, S3)
    | _ => none)
  | _ => none
def optS (o : Option (Env × Store)) : RS := match o with
  | some (η, S) => .nx η S
  | none => .stuck
def sAsg (f : ME) (g : MG) : MS := fun η S => (f η S).toS η fun w S1 => optS (g w η S1)
/-! loops -/
def forL (g : MG) (b : MS) : List W → Env → Store → RS
  | [], η, S => .nx η S
  | x :: r, η, S => match g x η S with
    | none => .stuck
    | some (η1, S1) => (match b η1 S1 with
      | .nx η2 S2 => forL g b r η2 S2
      | .ct η2 S2 => forL g b r η2 S2
      | .bk η2 S2 => .nx η2 S2
      | r => r)
/-- what is walked: its items -/
abbrev MI := Env → Store → R (List W)
def sFor (it : MI) (g : MG) (b : MS) : MS := fun η S => (it η S).toS η fun xs S1 => forL g b xs η S1
def whileL (c : MT) (b : MS) : Nat → Env → Store → RS
  | 0, _, _ => .stuck
  | n + 1, η, S => (c η S).toS η fun t S1 => if t = true then (match b η S1 with
      | .nx η2 S2 => whileL c b n η2 S2
      | .ct η2 S2 => whileL c b n η2 S2
      | .bk η2 S2 => .nx η2 S2
      | r => r) else .nx η S1
def sWhile (n : Nat) (c : MT) (b : MS) : MS := fun η S => whileL c b n η S
/-! comprehensions: names of their own are wiped ahead -/
def wipeE (η : Env) : List Nat → Env
  | [] => η
  | i :: is => (wipeE η is).set i none
def compL (g : MG) (t : MT) (e : ME) (η : Env) : List W → Store → List W → R (List W)
  | [], S, acc => .ok acc S
  | x :: r, S, acc => match g x η S with
    | none => .stuck
    | some (η1, S1) => (t η1 S1).bind fun b S2 => if b = true then (e η1 S2).bind fun w S3 => sized (acc.length + 1) (compL g t e η r S3 (acc ++ [w])) else compL g t e η r S2 acc
def noexc (r : R α) : R α := match r with
  | .exc _ _ _ => .stuck
  | r => r
def mComp (it : MI) (own : List Nat) (g : MG) (t : MT) (e : ME) : ME := fun η S => (it η S).bind fun xs S1 => (noexc (compL g t e (wipeE η own) xs S1 [])).bind fun ws S2 => .ok (.lst ws) S2
def mtYes : MT := fun _ S => .ok true S
/-! calls of the program's own functions -/
abbrev Fns := Nat → List W → Store → R W
def mCall (φ : Fns) (f : Nat) (g : MA) : ME := fun η S => (g η S).bind fun ws S1 => φ f ws S1
/-- keywords: the arguments in the order of the text, then set in the order of the parameters -/
def mCallP (φ : Fns) (f : Nat) (perm : List Nat) (g : MA) : ME := fun η S => (g η S).bind fun ws S1 => φ f (perm.map fun i => ws.getD i .non) S1
/-- a call's end: keep: a list of the store that is new may be handed on -/
def fin (keep : Bool) (n : Nat) (w : W) (S : Store) : R W := if w.pure = true then .ok w (S.take n) else match w with
  | .ref i => if i < n then .ok w (S.take n) else (match S[i]? with
    | some (.lst xs) => if pures xs = true then (if keep = true then .ok (.ref n) (S.take n ++ [.lst xs]) else .ok (.lst xs) (S.take n)) else .stuck
    | _ => .stuck)
  | _ => .stuck
def finS (keep : Bool) (n : Nat) : RS → R W
  | .ret w S => fin keep n w S
  | .nx _ S => .ok .non (S.take n)
  | .exc c x _ S => if x.pure = true then .exc c x (S.take n) else .stuck
  | _ => .stuck
structure Fun where
  np : Nat
  nv : Nat
  keep : Bool := false
  fr : Bool := false
  body : Fns → MS
/-- a call that neither sees nor changes the store -/
def R.frame (S : Store) : R W → R W
  | .ok w _ => if w.pure = true then .ok w S else .stuck
  | .exc c x _ => if x.pure = true then .exc c x S else .stuck
  | .stuck => .stuck
def runF (F : Fun) (φ : Fns) (ws : List W) (S : Store) : R W := if ws.length = F.np then (if F.fr = true then (if pures ws = true then (finS false 0 (F.body φ (ws.map some ++ List.replicate (F.nv - F.np) none) [])).frame S else .stuck) else finS F.keep S.length (F.body φ (ws.map some ++ List.replicate (F.nv - F.np) none) S)) else .stuck
/-- the functions, to a depth -/
def fns (T : List Fun) : Nat → Fns
  | 0, _, _, _ => .stuck
  | d + 1, f, ws, S => match T[f]? with
    | some F => runF F (fns T d) ws S
    | none => .stuck
end Mp

set_option Elab.async false
set_option linter.all false
set_option maxRecDepth 100000
set_option maxHeartbeats 4000000
/-! Mp: the pure reading stands over the hand layer. -/
namespace Mp
open PySem PySem.Spec PyProof.Rows L2
/-- where the functions, the classes stand; an error's attribute -/
structure Gs where
  fa : Nat → Addr
  ca : Nat → Addr
  nm : Nat → Str
  /-- the exception that is handled: its address, that of its dict, its class -/
  ea : Addr := 0
  ed : Addr := 0
  ec : Nat := 0
/-- the store's addresses; what is being built -/
structure Ga where
  ρ : List Addr
  β : List Addr
def Ga.Off (γ : Ga) (a : Addr) : Prop := a ∉ γ.ρ ∧ a ∉ γ.β
def FrT (K : PySem.W.Frag) (γ : Ga) (H : Hp) (a : Addr) (xs : List V) : Prop :=
  (Rd H a (.tup xs) ∧ γ.Off a) ∨ ∃ (o : Obj) (its : Array Value) (n : Nat), K.lookup a = some o ∧ o.cls = .type "tuple" ∧ o.data = .seq its n ∧ its.size ≤ sizeLine ∧ Vals xs its.toList
theorem FrT.sq {K : PySem.W.Frag} {γ : Ga} {H : Hp} {a : Addr} {xs : List V} (h : FrT K γ H a xs) : SqT K H a xs := h.elim (fun z => .inl z.1) .inr
/-- the script -/
def FrS (K : PySem.W.Frag) (γ : Ga) (H : Hp) (a : Addr) (xs : List V) : Prop :=
  ((∃ o, H a = some (.frz o (.lst xs))) ∧ γ.Off a) ∨ ∃ (o : Obj) (its : Array Value) (n : Nat), K.lookup a = some o ∧ o.cls = .type "list" ∧ o.dict = none ∧ o.data = .seq its n ∧ its.size ≤ sizeLine ∧ Vals xs its.toList
theorem FrS.sq {K : PySem.W.Frag} {γ : Ga} {H : Hp} {a : Addr} {xs : List V} (h : FrS K γ H a xs) : SqL K H a xs := h.elim (fun z => .inl (.inr z.1)) .inr
/-- a key as a value; a dict whose keys are ints and texts (told by false ahead of the keys), or tuples of such (true) -/
def keyW : Key → W
  | .inl i => .int i
  | .inr s => .str s.cps.toList
def DctAt (H : Hp) (a : Addr) (ks : List W) (us : List V) : Prop :=
  (∃ kvs : List (Key × V), H a = some (.dK kvs) ∧ ks = .bl false :: kvs.map (fun p => keyW p.1) ∧ us = kvs.map (·.2)) ∨ ∃ kvs : List (List Key × V), H a = some (.dT kvs) ∧ ks = .bl true :: kvs.map (fun p => W.tup (p.1.map keyW)) ∧ us = kvs.map (·.2)
theorem DctAt.keep {H H' : Hp} {a : Addr} {ks : List W} {us : List V} (d : DctAt H a ks us) (k : ∀ o, H a = some o → H' a = some o) : DctAt H' a ks us := d.elim (fun ⟨kvs, h, e⟩ => .inl ⟨kvs, k _ h, e⟩) fun ⟨kvs, h, e⟩ => .inr ⟨kvs, k _ h, e⟩
theorem DctAt.someN {H : Hp} {a : Addr} {ks : List W} {us : List V} (d : DctAt H a ks us) : ∃ o, H a = some o ∧ ∀ xs, o ≠ .tup xs := d.elim (fun ⟨_, h, _⟩ => ⟨_, h, fun _ z => nomatch z⟩) fun ⟨_, h, _⟩ => ⟨_, h, fun _ z => nomatch z⟩
theorem DctAt.some {H : Hp} {a : Addr} {ks : List W} {us : List V} (d : DctAt H a ks us) : ∃ o, H a = some o := d.elim (fun ⟨_, h, _⟩ => ⟨_, h⟩) fun ⟨_, h, _⟩ => ⟨_, h⟩
mutual
inductive Rep (K : PySem.W.Frag) (G : Gs) (γ : Ga) (H : Hp) : W → V → Prop
  | non : Rep K G γ H .non .non
  | bl (b : Bool) : Rep K G γ H (.bl b) (.bl b)
  | int (i : Int) : Rep K G γ H (.int i) (.int i)
  | str (s : List Nat) : (∀ c ∈ s, c < 0x110000) → s.length ≤ sizeLine → Rep K G γ H (.str s) (.str ⟨s.toArray⟩)
  | tup {a : Addr} {vs : List V} {xs : List W} : FrT K γ H a vs → Reps K G γ H xs vs → Rep K G γ H (.tup xs) (.ref a)
  | lst {a : Addr} {vs : List V} {xs : List W} : H a = some (.lst vs) → γ.Off a → Reps K G γ H xs vs → Rep K G γ H (.lst xs) (.ref a)
  | scr {a : Addr} {vs : List V} {xs : List W} : FrS K γ H a vs → Reps K G γ H xs vs → Rep K G γ H (.scr xs) (.ref a)
  | ref {i : Nat} {a : Addr} : γ.ρ[i]? = some a → Rep K G γ H (.ref i) (.ref a)
  | fn (f : Nat) : Rep K G γ H (.fn f) (.ref (G.fa f))
  | dct {a : Addr} {us : List V} {ks ws : List W} : DctAt H a ks us → γ.Off a → Reps K G γ H ws us → Rep K G γ H (.dct ks ws) (.ref a)
  | exc {x : W} {v : V} : H G.ed = some (.xd [(G.nm G.ec, v)]) → γ.Off G.ed → Rep K G γ H x v → Rep K G γ H (.exc G.ec x) (.ref G.ea)
inductive Reps (K : PySem.W.Frag) (G : Gs) (γ : Ga) (H : Hp) : List W → List V → Prop
  | nil : Reps K G γ H [] []
  | cons {w : W} {v : V} {ws : List W} {vs : List V} : Rep K G γ H w v → Reps K G γ H ws vs → Reps K G γ H (w :: ws) (v :: vs)
end
structure Ext (γ : Ga) (H : Hp) (γ' : Ga) (H' : Hp) : Prop where
  pre : γ.ρ <+: γ'.ρ
  bsub : ∀ a ∈ γ.β, a ∈ γ'.β
  bnew : ∀ a ∈ γ'.β, a ∈ γ.β ∨ H a = none
  keep : ∀ a o, H a = some o → a ∉ γ.ρ → H' a = some o
  new : ∀ a, a ∈ γ'.ρ → a ∉ γ.ρ → H a = none
  dom : ∀ a o, H a = some o → ∃ o', H' a = some o'
theorem Ext.refl {γ : Ga} {H : Hp} : Ext γ H γ H := ⟨List.prefix_refl _, fun _ h => h, fun _ h => .inl h, fun _ _ e _ => e, fun _ h1 h2 => absurd h1 h2, fun _ o e => ⟨o, e⟩⟩
theorem Ext.off {γ γ' : Ga} {H H' : Hp} (e : Ext γ H γ' H') {a : Addr} {o : HO} (h : H a = some o) (f : γ.Off a) : γ'.Off a := by
  refine ⟨fun z => ?_, fun z => ?_⟩
  · have q := e.new a z f.1
    rw [h] at q
    cases q
  · rcases e.bnew a z with q | q
    · exact f.2 q
    · rw [h] at q
      cases q
theorem Ext.trans {γ γ1 γ2 : Ga} {H H1 H2 : Hp} (e : Ext γ H γ1 H1) (e2 : Ext γ1 H1 γ2 H2) : Ext γ H γ2 H2 := by
  have nn : ∀ {a : Addr}, H1 a = none → H a = none := fun {a} q => by
    cases z : H a with
    | none => rfl
    | some o =>
      obtain ⟨o', z'⟩ := e.dom a o z
      rw [q] at z'
      cases z'
  refine ⟨e.pre.trans e2.pre, fun a h => e2.bsub a (e.bsub a h), fun a h => ?_, fun a o h n => ?_, fun a h n => ?_, fun a o h => ?_⟩
  · rcases e2.bnew a h with q | q
    · exact e.bnew a q
    · exact .inr (nn q)
  · have n1 : a ∉ γ1.ρ := fun z => by
      have q := e.new a z n
      rw [h] at q
      cases q
    exact e2.keep a o (e.keep a o h n) n1
  · by_cases h1 : a ∈ γ1.ρ
    · exact e.new a h1 n
    · exact nn (e2.new a h h1)
  · obtain ⟨o1, h1⟩ := e.dom a o h
    exact e2.dom a o1 h1
section
variable {K : PySem.W.Frag} {G : Gs} {γ γ' : Ga} {H H' : Hp}
theorem Ext.rd (e : Ext γ H γ' H') {a : Addr} {u : HO} (h : Rd H a u) (f : γ.Off a) : Rd H' a u ∧ γ'.Off a := by
  rcases h with h | ⟨o, h⟩
  · exact ⟨.inl (e.keep _ _ h f.1), e.off h f⟩
  · exact ⟨.inr ⟨o, e.keep _ _ h f.1⟩, e.off h f⟩
theorem FrT.mono (e : Ext γ H γ' H') {a : Addr} {xs : List V} (h : FrT K γ H a xs) : FrT K γ' H' a xs := by
  rcases h with ⟨h, f⟩ | h
  · exact .inl (e.rd h f)
  · exact .inr h
theorem FrS.mono (e : Ext γ H γ' H') {a : Addr} {xs : List V} (h : FrS K γ H a xs) : FrS K γ' H' a xs := by
  rcases h with ⟨⟨o, h⟩, f⟩ | h
  · exact .inl ⟨⟨o, e.keep _ _ h f.1⟩, e.off h f⟩
  · exact .inr h
mutual
theorem Rep.mono (e : Ext γ H γ' H') : ∀ {w : W} {v : V}, Rep K G γ H w v → Rep K G γ' H' w v
  | _, _, .non => .non
  | _, _, .bl b => .bl b
  | _, _, .int i => .int i
  | _, _, .str s h1 h2 => .str s h1 h2
  | _, _, .tup h r => .tup (h.mono e) (Reps.mono e r)
  | _, _, .lst h f r => .lst (e.keep _ _ h f.1) (e.off h f) (Reps.mono e r)
  | _, _, .scr h r => .scr (h.mono e) (Reps.mono e r)
  | _, _, .ref h => .ref (by
      obtain ⟨t, q⟩ := e.pre
      rw [← q]
      rw [List.getElem?_append_left (List.getElem?_eq_some_iff.mp h).1]
      exact h)
  | _, _, .fn f => .fn f
  | _, _, .dct d f r => .dct (d.keep fun o h => e.keep _ _ h f.1) (e.off d.some.choose_spec f) (Reps.mono e r)
  | _, _, .exc h f r => .exc (e.keep _ _ h f.1) (e.off h f) (Rep.mono e r)
theorem Reps.mono (e : Ext γ H γ' H') : ∀ {ws : List W} {vs : List V}, Reps K G γ H ws vs → Reps K G γ' H' ws vs
  | _, _, .nil => .nil
  | _, _, .cons r t => .cons (Rep.mono e r) (Reps.mono e t)
end
/-! the same, what is being built may change -/
structure ExtW (γ : Ga) (H : Hp) (γ' : Ga) (H' : Hp) : Prop where
  pre : γ.ρ <+: γ'.ρ
  bsub : ∀ a ∈ γ.β, a ∈ γ'.β
  bnew : ∀ a ∈ γ'.β, a ∈ γ.β ∨ H a = none
  keep : ∀ a o, H a = some o → γ.Off a → H' a = some o
  new : ∀ a, a ∈ γ'.ρ → a ∉ γ.ρ → H a = none
  dom : ∀ a o, H a = some o → ∃ o', H' a = some o'
theorem Ext.w (e : Ext γ H γ' H') : ExtW γ H γ' H' := ⟨e.pre, e.bsub, e.bnew, fun a o h f => e.keep a o h f.1, e.new, e.dom⟩
theorem ExtW.off (e : ExtW γ H γ' H') {a : Addr} {o : HO} (h : H a = some o) (f : γ.Off a) : γ'.Off a := by
  refine ⟨fun z => ?_, fun z => ?_⟩
  · have q := e.new a z f.1
    rw [h] at q
    cases q
  · rcases e.bnew a z with q | q
    · exact f.2 q
    · rw [h] at q
      cases q
theorem ExtW.trans {γ1 : Ga} {H1 : Hp} (e : ExtW γ H γ1 H1) (e2 : ExtW γ1 H1 γ' H') : ExtW γ H γ' H' := by
  have nn : ∀ {a : Addr}, H1 a = none → H a = none := fun {a} q => by
    cases z : H a with
    | none => rfl
    | some o =>
      obtain ⟨o', z'⟩ := e.dom a o z
      rw [q] at z'
      cases z'
  refine ⟨e.pre.trans e2.pre, fun a h => e2.bsub a (e.bsub a h), fun a h => ?_, fun a o h n => e2.keep a o (e.keep a o h n) (e.off h n), fun a h n => ?_, fun a o h => ?_⟩
  · rcases e2.bnew a h with q | q
    · exact e.bnew a q
    · exact .inr (nn q)
  · by_cases h1 : a ∈ γ1.ρ
    · exact e.new a h1 n
    · exact nn (e2.new a h h1)
  · obtain ⟨o1, h1⟩ := e.dom a o h
    exact e2.dom a o1 h1
theorem ExtW.rd (e : ExtW γ H γ' H') {a : Addr} {u : HO} (h : Rd H a u) (f : γ.Off a) : Rd H' a u ∧ γ'.Off a := by
  rcases h with h | ⟨o, h⟩
  · exact ⟨.inl (e.keep _ _ h f), e.off h f⟩
  · exact ⟨.inr ⟨o, e.keep _ _ h f⟩, e.off h f⟩
theorem FrT.monoW (e : ExtW γ H γ' H') {a : Addr} {xs : List V} (h : FrT K γ H a xs) : FrT K γ' H' a xs := by
  rcases h with ⟨h, f⟩ | h
  · exact .inl (e.rd h f)
  · exact .inr h
theorem FrS.monoW (e : ExtW γ H γ' H') {a : Addr} {xs : List V} (h : FrS K γ H a xs) : FrS K γ' H' a xs := by
  rcases h with ⟨⟨o, h⟩, f⟩ | h
  · exact .inl ⟨⟨o, e.keep _ _ h f⟩, e.off h f⟩
  · exact .inr h
mutual
theorem Rep.monoW (e : ExtW γ H γ' H') : ∀ {w : W} {v : V}, Rep K G γ H w v → Rep K G γ' H' w v
  | _, _, .non => .non
  | _, _, .bl b => .bl b
  | _, _, .int i => .int i
  | _, _, .str s h1 h2 => .str s h1 h2
  | _, _, .tup h r => .tup (h.monoW e) (Reps.monoW e r)
  | _, _, .lst h f r => .lst (e.keep _ _ h f) (e.off h f) (Reps.monoW e r)
  | _, _, .scr h r => .scr (h.monoW e) (Reps.monoW e r)
  | _, _, .ref h => .ref (by
      obtain ⟨t, q⟩ := e.pre
      rw [← q]
      rw [List.getElem?_append_left (List.getElem?_eq_some_iff.mp h).1]
      exact h)
  | _, _, .fn f => .fn f
  | _, _, .dct d f r => .dct (d.keep fun o h => e.keep _ _ h f) (e.off d.some.choose_spec f) (Reps.monoW e r)
  | _, _, .exc h f r => .exc (e.keep _ _ h f) (e.off h f) (Rep.monoW e r)
theorem Reps.monoW (e : ExtW γ H γ' H') : ∀ {ws : List W} {vs : List V}, Reps K G γ H ws vs → Reps K G γ' H' ws vs
  | _, _, .nil => .nil
  | _, _, .cons r t => .cons (Rep.monoW e r) (Reps.monoW e t)
end
/-! values without a name of the store -/
mutual
theorem Rep.less {γ' : Ga} (f : ∀ a o, H a = some o → γ.Off a → γ'.Off a) : ∀ {w : W} {v : V}, w.pure = true → Rep K G γ H w v → Rep K G γ' H w v
  | _, _, _, .non => .non
  | _, _, _, .bl b => .bl b
  | _, _, _, .int i => .int i
  | _, _, _, .str s h1 h2 => .str s h1 h2
  | _, _, p, .tup h r => .tup (by
      rcases h with ⟨h, q⟩ | h
      · refine .inl ⟨h, ?_⟩
        rcases h with h | ⟨o, h⟩
        · exact f _ _ h q
        · exact f _ _ h q
      · exact .inr h) (Reps.less f (by simpa [W.pure] using p) r)
  | _, _, p, .lst h q r => .lst h (f _ _ h q) (Reps.less f (by simpa [W.pure] using p) r)
  | _, _, p, .scr h r => .scr (by
      rcases h with ⟨⟨o, h⟩, q⟩ | h
      · exact .inl ⟨⟨o, h⟩, f _ _ h q⟩
      · exact .inr h) (Reps.less f (by simpa [W.pure] using p) r)
  | _, _, p, .ref h => by simp [W.pure] at p
  | _, _, _, .fn f => .fn f
  | _, _, p, .dct d q r => .dct d (f _ _ d.some.choose_spec q) (Reps.less f (by
      rw [W.pure, Bool.and_eq_true] at p
      exact p.2) r)
theorem Reps.less {γ' : Ga} (f : ∀ a o, H a = some o → γ.Off a → γ'.Off a) : ∀ {ws : List W} {vs : List V}, pures ws = true → Reps K G γ H ws vs → Reps K G γ' H ws vs
  | _, _, _, .nil => .nil
  | _, _, p, .cons r t => by
    rw [pures, Bool.and_eq_true] at p
    exact .cons (Rep.less f p.1 r) (Reps.less f p.2 t)
end
theorem Reps.length : ∀ {ws : List W} {vs : List V}, Reps K G γ H ws vs → ws.length = vs.length
  | _, _, .nil => rfl
  | _, _, .cons _ t => by rw [List.length_cons, List.length_cons, Reps.length t]
theorem Reps.get : ∀ {ws : List W} {vs : List V}, Reps K G γ H ws vs → ∀ {i : Nat} {w : W}, ws[i]? = some w → ∃ v, vs[i]? = some v ∧ Rep K G γ H w v
  | _, _, .nil, _, _, h => by simp at h
  | _, _, .cons r t, 0, w, h => by
    simp at h
    subst h
    exact ⟨_, rfl, r⟩
  | _, _, .cons r t, i + 1, w, h => by
    obtain ⟨v, e, q⟩ := Reps.get t (i := i) (w := w) (by simpa using h)
    exact ⟨v, by simpa using e, q⟩
theorem Reps.append : ∀ {ws ws' : List W} {vs vs' : List V}, Reps K G γ H ws vs → Reps K G γ H ws' vs' → Reps K G γ H (ws ++ ws') (vs ++ vs')
  | _, _, _, _, .nil, q => q
  | _, _, _, _, .cons r t, q => .cons r (Reps.append t q)
theorem Reps.one {w : W} {v : V} (r : Rep K G γ H w v) : Reps K G γ H [w] [v] := .cons r .nil
theorem Reps.take : ∀ {ws : List W} {vs : List V} (n : Nat), Reps K G γ H ws vs → Reps K G γ H (ws.take n) (vs.take n)
  | _, _, 0, _ => .nil
  | _, _, _ + 1, .nil => .nil
  | _, _, n + 1, .cons r t => .cons r (Reps.take n t)
theorem Reps.drop : ∀ {ws : List W} {vs : List V} (n : Nat), Reps K G γ H ws vs → Reps K G γ H (ws.drop n) (vs.drop n)
  | _, _, 0, r => r
  | _, _, _ + 1, .nil => .nil
  | _, _, n + 1, .cons r t => Reps.drop n t
theorem Reps.set {w : W} {v : V} (r : Rep K G γ H w v) : ∀ {ws : List W} {vs : List V} (i : Nat), Reps K G γ H ws vs → Reps K G γ H (ws.set i w) (vs.set i v)
  | _, _, _, .nil => .nil
  | _, _, 0, .cons _ t => .cons r t
  | _, _, i + 1, .cons q t => .cons q (Reps.set r i t)
theorem Reps.erase : ∀ {ws : List W} {vs : List V} (i : Nat), Reps K G γ H ws vs → Reps K G γ H (ws.eraseIdx i) (vs.eraseIdx i)
  | _, _, _, .nil => .nil
  | _, _, 0, .cons _ t => t
  | _, _, i + 1, .cons r t => .cons r (Reps.erase i t)
theorem Reps.rev : ∀ {ws : List W} {vs : List V}, Reps K G γ H ws vs → Reps K G γ H ws.reverse vs.reverse
  | _, _, .nil => .nil
  | _, _, .cons r t => by
    rw [List.reverse_cons, List.reverse_cons]
    exact Reps.append (Reps.rev t) (.one r)
end
def CellOk (K : PySem.W.Frag) (G : Gs) (γ : Ga) (H : Hp) : Cell → Addr → Prop
  | .lst xs, a => pures xs = true ∧ ∃ vs, H a = some (.lst vs) ∧ Reps K G γ H xs vs
  | .dct ks ws, a => pures ks = true ∧ pures ws = true ∧ ∃ us, DctAt H a ks us ∧ Reps K G γ H ws us
  | .ins _ _, _ => False
theorem CellOk.to {K : PySem.W.Frag} {G : Gs} {γ γ' : Ga} {H H' : Hp} {c : Cell} {a : Addr} (q : CellOk K G γ H c a) (k : ∀ o, H a = some o → H' a = some o) (m : ∀ {ws : List W} {vs : List V}, pures ws = true → Reps K G γ H ws vs → Reps K G γ' H' ws vs) : CellOk K G γ' H' c a := by
  cases c with
  | lst xs =>
    obtain ⟨p, vs, hv, r⟩ := q
    exact ⟨p, vs, k _ hv, m p r⟩
  | dct ks ws =>
    obtain ⟨p0, p, us, d, r⟩ := q
    exact ⟨p0, p, us, d.keep k, m p r⟩
  | ins _ _ => exact q.elim
structure StoreOk (K : PySem.W.Frag) (G : Gs) (γ : Ga) (H : Hp) (S : Store) : Prop where
  len : γ.ρ.length = S.length
  nd : γ.ρ.Nodup
  cell : ∀ (i : Nat) (c : Cell) (a : Addr), S[i]? = some c → γ.ρ[i]? = some a → CellOk K G γ H c a
  bt : ∀ a ∈ γ.β, a ∉ γ.ρ ∧ ∃ o, H a = some o ∧ ∀ xs, o ≠ .tup xs
def EnvOk (K : PySem.W.Frag) (G : Gs) (γ : Ga) (H : Hp) (η : Env) (σ : L2.St) : Prop := η.length = σ.length ∧ ∀ (i : Nat) (w : W), η[i]? = some (some w) → ∃ v, σ[i]? = some (some v) ∧ Rep K G γ H w v
section
variable {K : PySem.W.Frag} {G : Gs} {γ γ' : Ga} {H H' : Hp} {S : Store} {η : Env} {σ : L2.St}
theorem EnvOk.mono (e : Ext γ H γ' H') (h : EnvOk K G γ H η σ) : EnvOk K G γ' H' η σ := ⟨h.1, fun i w q => by
  obtain ⟨v, e1, r⟩ := h.2 i w q
  exact ⟨v, e1, r.mono e⟩⟩
theorem StoreOk.tracked0 (s : StoreOk K G γ H S) {a : Addr} (h : a ∈ γ.ρ) : ∃ o, H a = some o ∧ ∀ xs, o ≠ .tup xs := by
  obtain ⟨i, hi, e⟩ := List.mem_iff_getElem.mp h
  have hs : i < S.length := by rw [← s.len]; exact hi
  have q := s.cell i S[i] a (List.getElem?_eq_getElem hs) (by rw [← e]; exact List.getElem?_eq_getElem hi)
  cases hc : S[i] with
  | lst xs => rw [hc] at q; obtain ⟨_, vs, hv, _⟩ := q; exact ⟨_, hv, fun _ z => nomatch z⟩
  | dct _ _ => rw [hc] at q; obtain ⟨_, _, us, d, _⟩ := q; exact d.someN
  | ins _ _ => rw [hc] at q; exact q.elim
theorem StoreOk.tracked (s : StoreOk K G γ H S) {a : Addr} (h : a ∈ γ.ρ) : ∃ o, H a = some o := let ⟨o, e, _⟩ := s.tracked0 h; ⟨o, e⟩
theorem StoreOk.fresh (s : StoreOk K G γ H S) {p : Addr} (h : H p = none) : γ.Off p := by
  refine ⟨fun z => ?_, fun z => ?_⟩
  · obtain ⟨o, e⟩ := s.tracked z
    rw [h] at e
    cases e
  · obtain ⟨_, o, e, _⟩ := s.bt p z
    rw [h] at e
    cases e
/-- a new object beside -/
theorem Ext.upd (s : StoreOk K G γ H S) {p : Addr} {o : HO} (h : H p = none) : Ext γ H γ (L2.upd H p o) :=
  ⟨List.prefix_refl _, fun _ h => h, fun _ h => .inl h, fun a u e _ => by rw [upd_ne (ne_of_none e h)]; exact e, fun _ h1 h2 => absurd h1 h2, fun a u e => ⟨u, by rw [upd_ne (ne_of_none e h)]; exact e⟩⟩
theorem StoreOk.upd (s : StoreOk K G γ H S) {p : Addr} {o : HO} (h : H p = none) : StoreOk K G γ (L2.upd H p o) S := by
  have e := Ext.upd (K := K) (G := G) s (o := o) h
  refine ⟨s.len, s.nd, fun i c a hc ha => ?_, fun a ha => ⟨(s.bt a ha).1, ?_⟩⟩
  · have q := s.cell i c a hc ha
    have mem : a ∈ γ.ρ := List.mem_of_getElem? ha
    cases c with
    | lst xs =>
      obtain ⟨p1, vs, hv, r⟩ := q
      exact ⟨p1, vs, by rw [upd_ne (ne_of_none hv h)]; exact hv, r.mono e⟩
    | dct _ _ => exact q.to (fun o e' => by rw [upd_ne (ne_of_none e' h)]; exact e') fun _ r => r.mono e
    | ins _ _ => exact q.elim
  · obtain ⟨o', q, nt⟩ := (s.bt a ha).2
    exact ⟨o', by rw [upd_ne (ne_of_none q h)]; exact q, nt⟩
/-- a new list of the store -/
def Ga.push (γ : Ga) (p : Addr) : Ga := ⟨γ.ρ ++ [p], γ.β⟩
theorem Ext.push (s : StoreOk K G γ H S) {p : Addr} {o : HO} (h : H p = none) : Ext γ H (γ.push p) (L2.upd H p o) :=
  ⟨List.prefix_append _ _, fun _ h => h, fun _ h => .inl h, fun a u e _ => by rw [upd_ne (ne_of_none e h)]; exact e, fun a h1 h2 => by
    rcases List.mem_append.mp h1 with z | z
    · exact absurd z h2
    · have z' : a = p := by simpa using z
      rw [z']; exact h, fun a u e => ⟨u, by rw [upd_ne (ne_of_none e h)]; exact e⟩⟩
theorem StoreOk.push (s : StoreOk K G γ H S) {p : Addr} {xs : List W} {vs : List V} (h : H p = none) (hp : pures xs = true) (r : Reps K G γ H xs vs) : StoreOk K G (γ.push p) (L2.upd H p (.lst vs)) (S ++ [.lst xs]) := by
  have e := Ext.push (K := K) (G := G) s (o := .lst vs) h
  have off := s.fresh h
  refine ⟨by simp [Ga.push, s.len], ?_, fun i c a hc ha => ?_, fun a ha => ?_⟩
  · show (γ.ρ ++ [p]).Nodup
    rw [List.nodup_append]
    exact ⟨s.nd, by simp, fun a ha b hb => by
      have z : b = p := by simpa using hb
      rw [z]
      rintro rfl
      exact off.1 ha⟩
  · by_cases hi : i < S.length
    · rw [List.getElem?_append_left hi] at hc
      have hi' : i < γ.ρ.length := by rw [s.len]; exact hi
      have ha' : γ.ρ[i]? = some a := by
        have z : (γ.ρ ++ [p])[i]? = some a := ha
        rwa [List.getElem?_append_left hi'] at z
      have q := s.cell i c a hc ha'
      cases c with
      | lst ys =>
        obtain ⟨p1, us, hv, r'⟩ := q
        exact ⟨p1, us, by rw [upd_ne (ne_of_none hv h)]; exact hv, r'.mono e⟩
      | dct _ _ => exact q.to (fun o e' => by rw [upd_ne (ne_of_none e' h)]; exact e') fun _ r => r.mono e
      | ins _ _ => exact q.elim
    · have hlt := (List.getElem?_eq_some_iff.mp hc).1
      rw [List.length_append, List.length_singleton] at hlt
      have ei : i = S.length := by omega
      subst ei
      rw [List.getElem?_append_right (Nat.le_refl _), Nat.sub_self] at hc
      have hc' : Cell.lst xs = c := by simpa using hc
      subst hc'
      have ha' : p = a := by
        have z : (γ.ρ ++ [p])[S.length]? = some a := ha
        rw [← s.len, List.getElem?_append_right (Nat.le_refl _), Nat.sub_self] at z
        simpa using z
      subst ha'
      exact ⟨hp, vs, upd_same, r.mono e⟩
  · obtain ⟨n, o, q, nt⟩ := s.bt a ha
    refine ⟨fun z => ?_, o, by rw [upd_ne (ne_of_none q h)]; exact q, nt⟩
    rcases List.mem_append.mp z with z | z
    · exact n z
    · have z' : a = p := by simpa using z
      rw [z', h] at q
      cases q
/-- a list of the store is changed -/
theorem StoreOk.write (s : StoreOk K G γ H S) {i : Nat} {a : Addr} {xs ys : List W} {us : List V} (hc : S[i]? = some (.lst xs)) (ha : γ.ρ[i]? = some a) (hp : pures ys = true) (r : Reps K G γ H ys us) :
    Ext γ H γ (L2.upd H a (.lst us)) ∧ StoreOk K G γ (L2.upd H a (.lst us)) (S.set i (.lst ys)) := by
  have mem : a ∈ γ.ρ := List.mem_of_getElem? ha
  have e : Ext γ H γ (L2.upd H a (.lst us)) := ⟨List.prefix_refl _, fun _ h => h, fun _ h => .inl h, fun b u q n => by
    have z : b ≠ a := fun z => n (by rw [z]; exact mem)
    rw [upd_ne z]; exact q, fun _ h1 h2 => absurd h1 h2, fun b u q => by
    by_cases z : b = a
    · exact ⟨_, by rw [z]; exact upd_same⟩
    · exact ⟨u, by rw [upd_ne z]; exact q⟩⟩
  refine ⟨e, by rw [List.length_set]; exact s.len, s.nd, fun j c b hc' hb => ?_, fun b hb => ?_⟩
  · by_cases hj : i = j
    · subst hj
      rw [List.getElem?_set_self (List.getElem?_eq_some_iff.mp hc).1] at hc'
      have z : Cell.lst ys = c := Option.some.inj hc'
      subst z
      rw [ha] at hb
      cases hb
      exact ⟨hp, us, upd_same, r.mono e⟩
    · rw [List.getElem?_set_ne hj] at hc'
      have q := s.cell j c b hc' hb
      have hne : b ≠ a := fun z => by
        rw [z] at hb
        obtain ⟨h1, e1⟩ := List.getElem?_eq_some_iff.mp ha
        obtain ⟨h2, e2⟩ := List.getElem?_eq_some_iff.mp hb
        exact hj ((List.getElem_inj s.nd).mp (e1.trans e2.symm))
      cases c with
      | lst zs =>
        obtain ⟨p1, vs, hv, r'⟩ := q
        exact ⟨p1, vs, by rw [upd_ne hne]; exact hv, r'.mono e⟩
      | dct _ _ => exact q.to (fun o e' => by rw [upd_ne hne]; exact e') fun _ r => r.mono e
      | ins _ _ => exact q.elim
  · obtain ⟨n, o, q, nt⟩ := s.bt b hb
    exact ⟨n, o, by rw [upd_ne (fun z => n (by rw [z]; exact mem))]; exact q, nt⟩
end
/-! ### ends -/
/-- what an exception is wished to be -/
abbrev Wx := Value → Option Addr → Hp → Prop
abbrev Rel (α β : Type) := Ga → Hp → α → β → Prop
def Post {α β : Type} (K : PySem.W.Frag) (G : Gs) (rel : Rel α β) (wx : Wx) (γ : Ga) (H : Hp) (r : R α) (Q : β → Hp → Prop) : Prop := match r with
  | .ok w S' => ∀ v γ' H', Ext γ H γ' H' → rel γ' H' w v → StoreOk K G γ' H' S' → Q v H'
  | .exc c x S' => ∀ v d γ' H', Ext γ H γ' H' → Rep K G γ' H' x v → StoreOk K G γ' H' S' → H' d = some (.xd [(G.nm c, v)]) → γ'.Off d → wx (.ref (G.ca c)) (some d) H'
  | .stuck => False
section
variable {K : PySem.W.Frag} {G : Gs} {γ γ1 : Ga} {H H1 : Hp} {wx : Wx} {α β α' β' : Type} {rel : Rel α β} {rel' : Rel α' β'}
theorem Post.base {r : R α} {Q : β → Hp → Prop} (e : Ext γ H γ1 H1) (h : Post K G rel wx γ H r Q) : Post K G rel wx γ1 H1 r Q := by
  cases r with
  | ok w S' => exact fun v γ' H' e' q s => h v γ' H' (e.trans e') q s
  | exc c x S' => exact fun v d γ' H' e' q s hd ho => h v d γ' H' (e.trans e') q s hd ho
  | stuck => exact h
theorem Post.seq {r : R α} {k : α → Store → R α'} {Q : β' → Hp → Prop} (h : Post K G rel' wx γ H (r.bind k) Q) :
    Post K G rel wx γ H r fun v H1 => ∃ w S1 γ1, Ext γ H γ1 H1 ∧ rel γ1 H1 w v ∧ StoreOk K G γ1 H1 S1 ∧ Post K G rel' wx γ1 H1 (k w S1) Q := by
  cases r with
  | ok w S' => exact fun v γ' H' e q s => ⟨w, S', γ', e, q, s, Post.base e h⟩
  | exc c x S' => exact h
  | stuck => exact h
theorem Post.imp {r : R α} {Q Q' : β → Hp → Prop} (h : Post K G rel wx γ H r Q) (i : ∀ v H', Q v H' → Q' v H') : Post K G rel wx γ H r Q' := by
  cases r with
  | ok w S' => exact fun v γ' H' e q s => i _ _ (h v γ' H' e q s)
  | exc c x S' => exact h
  | stuck => exact h
end
abbrev relB : Rel Bool Bool := fun _ _ b c => b = c
/-! ### the judgements -/
def tOf (K : PySem.W.Frag) (G : Gs) (Wi : WX) (f : ME) : TE := fun σ H Q => ∃ η S γ, EnvOk K G γ H η σ ∧ StoreOk K G γ H S ∧ Post K G (Rep K G) (fun c d H' => Wi c d σ H') γ H (f η S) Q
def ttOf (K : PySem.W.Frag) (G : Gs) (Wi : WX) (f : MT) : TT := fun σ H Q => ∃ η S γ, EnvOk K G γ H η σ ∧ StoreOk K G γ H S ∧ Post K G relB (fun c d H' => Wi c d σ H') γ H (f η S) Q
def taOf (K : PySem.W.Frag) (G : Gs) (Wi : WX) (f : MA) : TA := fun σ H Q => ∃ η S γ, EnvOk K G γ H η σ ∧ StoreOk K G γ H S ∧ Post K G (Reps K G) (fun c d H' => Wi c d σ H') γ H (f η S) Q
structure SE (X : Cx) (G : Gs) (e : Expr) (f : ME) : Prop where
  run : ∀ Wi, Takes X Wi → PE X e (tOf X.K G Wi f)
structure ST (X : Cx) (G : Gs) (e : Expr) (f : MT) : Prop where
  run : ∀ Wi, Takes X Wi → PT X e (ttOf X.K G Wi f)
structure SW (X : Cx) (G : Gs) (e : Expr) (f : MT) : Prop where
  run : ∀ Wi, Takes X Wi → PW X e (ttOf X.K G Wi f)
structure SA (X : Cx) (G : Gs) (es : List Expr) (f : MA) : Prop where
  run : ∀ Wi, Takes X Wi → PA X es (taOf X.K G Wi f)
theorem _root_.L2.PE.imp {X : Cx} {e : Expr} {t t' : TE} (h : PE X e t) (i : ∀ σ H Q, t' σ H Q → t σ H Q) : PE X e t' := ⟨fun pins s σ H Q I q => h.run pins s σ H Q I (i _ _ _ q)⟩
theorem _root_.L2.PT.imp {X : Cx} {e : Expr} {t t' : TT} (h : PT X e t) (i : ∀ σ H Q, t' σ H Q → t σ H Q) : PT X e t' := ⟨fun pins s σ H Q I q => h.run pins s σ H Q I (i _ _ _ q)⟩
theorem _root_.L2.PW.imp {X : Cx} {e : Expr} {t t' : TT} (h : PW X e t) (i : ∀ σ H Q, t' σ H Q → t σ H Q) : PW X e t' := ⟨fun wh pins s σ H Q I q => h.run wh pins s σ H Q I (i _ _ _ q)⟩
theorem _root_.L2.PA.imp {X : Cx} {e : List Expr} {t t' : TA} (h : PA X e t) (i : ∀ σ H Q, t' σ H Q → t σ H Q) : PA X e t' := ⟨fun pos pins s σ H Q I q => h.run pos pins s σ H Q I (i _ _ _ q)⟩
theorem _root_.L2.PS.imp {X : Cx} {e : Stmt} {t t' : TS} (h : PS X e t) (i : ∀ D σ H, t' D σ H → t D σ H) : PS X e t' := ⟨fun pins s σ H D I q => h.run pins s σ H D I (i _ _ _ q)⟩
theorem _root_.L2.PSs.imp {X : Cx} {e : List Stmt} {t t' : TS} (h : PSs X e t) (i : ∀ D σ H, t' D σ H → t D σ H) : PSs X e t' := ⟨fun pins s σ H D I q => h.run pins s σ H D I (i _ _ _ q)⟩
theorem _root_.L2.OpR.imp {X : Cx} {f : Value → Value → Sem Value} {r r' : R2} (h : OpR X f r) (i : ∀ x y H Q, r' x y H Q → r x y H Q) : OpR X f r' := fun pins s σ H x y v u Q I rx ry q => h pins s σ H x y v u Q I rx ry (i _ _ _ _ q)
end Mp

set_option Elab.async false
set_option linter.all false
set_option maxRecDepth 100000
set_option maxHeartbeats 4000000
/-! Mp: operators. -/
namespace Mp
open PySem PySem.Spec PyProof.Rows L2
theorem bigLine_eq : bigLine = sizeLine := by rw [sizeLine_eq]; rfl
section
variable {K : PySem.W.Frag} {G : Gs} {γ γ' : Ga} {H H' : Hp} {S : Store}
theorem lstOf_rep {w : W} {v : V} {xs : List W} (s : StoreOk K G γ H S) (h : lstOf S w = some xs) (r : Rep K G γ H w v) : ∃ a vs, v = .ref a ∧ H a = some (.lst vs) ∧ Reps K G γ H xs vs := by
  cases r with
  | lst h1 f q =>
    have e : _ = xs := Option.some.inj h
    subst e
    exact ⟨_, _, rfl, h1, q⟩
  | @ref i a h1 =>
    have h' : (match S[i]? with
      | some (.lst xs) => some xs
      | _ => none) = some xs := h
    split at h'
    · rename_i ys hc
      have e : ys = xs := Option.some.inj h'
      subst e
      obtain ⟨_, vs, hv, q⟩ := s.cell i _ a hc h1
      exact ⟨a, vs, rfl, hv, q⟩
    · cases h'
  | _ => cases h
theorem plainL_rep {w : W} {v : V} (s : StoreOk K G γ H S) (r : Rep K G γ H w v) : (∃ xs a vs, plainL S w = .lst xs ∧ v = .ref a ∧ H a = some (.lst vs) ∧ Reps K G γ H xs vs) ∨ plainL S w = w := by
  unfold plainL
  cases h : lstOf S w with
  | none => exact .inr rfl
  | some xs =>
    obtain ⟨a, vs, e, hv, q⟩ := lstOf_rep s h r
    exact .inl ⟨xs, a, vs, rfl, e, hv, q⟩
mutual
def toD : W → PyData
  | .bl b => .bool b
  | .int i => .int i
  | .str s => .str ⟨s.toArray⟩
  | .tup xs => .tuple (toDs xs)
  | .lst xs => .list (toDs xs)
  | .non => .none
  | .scr _ => .none
  | .dct _ _ => .none
  | .ref _ => .none
  | .fn _ => .none
  | .cls _ => .none
  | .exc _ _ => .none
def toDs : List W → List PyData
  | [] => []
  | x :: xs => toD x :: toDs xs
end
mutual
theorem dp_of : ∀ (w : W) (v : V) (k : Nat), okD w k = true → Rep K G γ H w v → Dp K H v (toD w)
  | .non, _, _, _, .non => .non
  | .bl b, _, _, _, .bl _ => .bl b
  | .int i, _, _, _, .int _ => .int i
  | .str s, _, _, _, .str _ _ _ => .str _
  | .tup xs, _, k, o, .tup h q => by
    unfold okD at o
    exact .tup h.sq (dps_of xs _ _ (Bool.and_eq_true_iff.mp o).2 q)
  | .lst xs, _, k, o, .lst h f q => by
    unfold okD at o
    exact .lst (SqL.of h) (dps_of xs _ _ (Bool.and_eq_true_iff.mp o).2 q)
theorem dps_of : ∀ (ws : List W) (vs : List V) (k : Nat), okDs ws k = true → Reps K G γ H ws vs → DpAll K H vs (toDs ws)
  | [], _, _, _, .nil => .nil
  | w :: ws, _, k, o, .cons r t => by
    unfold okDs at o
    obtain ⟨o1, o2⟩ := Bool.and_eq_true_iff.mp o
    exact .cons (dp_of w _ k o1 r) (dps_of ws _ k o2 t)
end
theorem strOk_of {s : List Nat} (h : ∀ c ∈ s, c < 0x110000) : PySem.PyData.canLay0 (.str ⟨s.toArray⟩) = true := by
  unfold PySem.PyData.canLay0 PySem.PyData.strOk
  simp
  exact h
mutual
theorem lay_of : ∀ (w : W) (v : V) (k : Nat), okD w k = true → Rep K G γ H w v → (toD w).canLay0 = true ∧ (toD w).depth ≤ k
  | .non, _, _, _, .non => ⟨by simp [toD, PyData.canLay0], by simp [toD, PyData.depth]⟩
  | .bl b, _, _, _, .bl _ => ⟨by simp [toD, PyData.canLay0], by simp [toD, PyData.depth]⟩
  | .int i, _, _, _, .int _ => ⟨by simp [toD, PyData.canLay0], by simp [toD, PyData.depth]⟩
  | .str s, _, _, _, .str _ h _ => ⟨by unfold toD; exact strOk_of h, by simp [toD, PyData.depth]⟩
  | .tup xs, _, k, o, .tup h q => by
    unfold okD at o
    obtain ⟨o1, o2⟩ := Bool.and_eq_true_iff.mp o
    have o1 : 0 < k := of_decide_eq_true o1
    obtain ⟨h1, h2⟩ := lays_of xs _ _ o2 q
    exact ⟨by simp only [toD, PyData.canLay0]; exact h1, by simp only [toD, PyData.depth]; omega⟩
  | .lst xs, _, k, o, .lst h f q => by
    unfold okD at o
    obtain ⟨o1, o2⟩ := Bool.and_eq_true_iff.mp o
    have o1 : 0 < k := of_decide_eq_true o1
    obtain ⟨h1, h2⟩ := lays_of xs _ _ o2 q
    exact ⟨by simp only [toD, PyData.canLay0]; exact h1, by simp only [toD, PyData.depth]; omega⟩
theorem lays_of : ∀ (ws : List W) (vs : List V) (k : Nat), okDs ws k = true → Reps K G γ H ws vs → PyData.canLayAll0 (toDs ws) = true ∧ PyData.depthAll (toDs ws) ≤ k
  | [], _, _, _, .nil => ⟨by simp [toDs, PyData.canLayAll0], by simp [toDs, PyData.depthAll]⟩
  | w :: ws, _, k, o, .cons r t => by
    unfold okDs at o
    obtain ⟨o1, o2⟩ := Bool.and_eq_true_iff.mp o
    obtain ⟨a1, a2⟩ := lay_of w _ k o1 r
    obtain ⟨b1, b2⟩ := lays_of ws _ k o2 t
    exact ⟨by simp only [toDs, PyData.canLayAll0, a1, b1, Bool.and_self], by simp only [toDs, PyData.depthAll]; omega⟩
end
theorem str_beqW (x y : List Nat) : ((⟨x.toArray⟩ : Str) == ⟨y.toArray⟩) = (x == y) := by
  rw [← SeqAt.str_beq]
mutual
theorem eqv_of : ∀ (a b : W) (k j : Nat), okD a k = true → okD b j = true → PyData.eqv (toD a) (toD b) = eqW a b
  | .non, b, _, _, _, h => by cases b <;> simp [toD, PyData.eqv, eqW, okD] at h ⊢
  | .bl _, b, _, _, _, h => by cases b <;> simp [toD, PyData.eqv, eqW, okD] at h ⊢
  | .int _, b, _, _, _, h => by cases b <;> simp [toD, PyData.eqv, eqW, okD] at h ⊢
  | .str _, b, _, _, _, h => by
    cases b <;> simp only [toD, PyData.eqv, eqW, okD] at h ⊢ <;> first | exact str_beqW _ _ | cases h
  | .tup xs, b, k, j, g, h => by
    cases b <;> simp only [toD, PyData.eqv, eqW, okD] at h ⊢ <;> first | exact eqvs_of xs _ _ _ (Bool.and_eq_true_iff.mp (by unfold okD at g; exact g)).2 (Bool.and_eq_true_iff.mp h).2 | cases h
  | .lst xs, b, k, j, g, h => by
    cases b <;> simp only [toD, PyData.eqv, eqW, okD] at h ⊢ <;> first | exact eqvs_of xs _ _ _ (Bool.and_eq_true_iff.mp (by unfold okD at g; exact g)).2 (Bool.and_eq_true_iff.mp h).2 | cases h
  | .scr _, _, _, _, g, _ => by simp [okD] at g
  | .dct _ _, _, _, _, g, _ => by simp [okD] at g
  | .ref _, _, _, _, g, _ => by simp [okD] at g
  | .fn _, _, _, _, g, _ => by simp [okD] at g
  | .cls _, _, _, _, g, _ => by simp [okD] at g
  | .exc _ _, _, _, _, g, _ => by simp [okD] at g
theorem eqvs_of : ∀ (a b : List W) (k j : Nat), okDs a k = true → okDs b j = true → PyData.eqvAll (toDs a) (toDs b) = eqWs a b
  | [], [], _, _, _, _ => by simp [toDs, PyData.eqvAll, eqWs]
  | [], _ :: _, _, _, _, _ => by simp [toDs, PyData.eqvAll, eqWs]
  | _ :: _, [], _, _, _, _ => by simp [toDs, PyData.eqvAll, eqWs]
  | x :: xs, y :: ys, k, j, g, h => by
    unfold okDs at g h
    obtain ⟨g1, g2⟩ := Bool.and_eq_true_iff.mp g
    obtain ⟨h1, h2⟩ := Bool.and_eq_true_iff.mp h
    simp only [toDs, PyData.eqvAll, eqWs]
    rw [eqv_of x y k j g1 h1, eqvs_of xs ys k j g2 h2]
end
theorem dp_plain {w : W} {v : V} (s : StoreOk K G γ H S) (r : Rep K G γ H w v) (o : okD (plainL S w) 30 = true) : Dp K H v (toD (plainL S w)) ∧ SeqAt.shaped (toD (plainL S w)) = true := by
  have fin : ∀ {k : Nat} {d : PyData}, d.canLay0 = true → d.depth ≤ 30 → SeqAt.shaped d = true := fun h1 h2 => by
    unfold SeqAt.shaped
    rw [h1, decide_eq_true (show _ ≤ 64 by omega)]
    rfl
  rcases plainL_rep s r with ⟨xs, a, vs, e, rfl, hv, q⟩ | e
  · rw [e] at o ⊢
    have o2 := o
    unfold okD at o2
    obtain ⟨o3, o4⟩ := Bool.and_eq_true_iff.mp o2
    obtain ⟨l1, l2⟩ := lays_of xs _ _ o4 q
    refine ⟨by unfold toD; exact .lst (SqL.of hv) (dps_of xs _ _ o4 q), fin (k := 0) (by simp only [toD, PyData.canLay0]; exact l1) (by simp only [toD, PyData.depth]; omega)⟩
  · rw [e] at o ⊢
    obtain ⟨l1, l2⟩ := lay_of w v 30 o r
    exact ⟨dp_of w v 30 o r, fin (k := 0) l1 l2⟩
end
/-! operators by their values -/
def rOf (K : PySem.W.Frag) (G : Gs) (o : O2) : R2 := fun x y H Q => ∃ wx wy S γ w, Rep K G γ H wx x ∧ Rep K G γ H wy y ∧ StoreOk K G γ H S ∧ o wx wy S = some w ∧
  ∀ v γ' H', Ext γ H γ' H' → Rep K G γ' H' w v → StoreOk K G γ' H' S → Q v H'
section
variable {X : Cx} {G : Gs}
theorem o2_add : OpR X (binaryOp .Add) (rOf X.K G opAdd) := by
  refine (OpR.or op_add (OpR.or op_add_str (OpR.or op_cat op_catA))).imp ?_
  rintro x y H Q ⟨wx, wy, S, γ, w, rx, ry, s, h, k⟩
  unfold opAdd at h
  split at h
  · cases rx; cases ry; cases h
    exact .inl ⟨_, _, rfl, rfl, k _ γ H Ext.refl (.int _) s⟩
  · rename_i a b
    cases rx with
    | str _ a1 a2 =>
      cases ry with
      | str _ b1 b2 =>
        split at h
        · rename_i hl
          cases h
          rw [bigLine_eq] at hl
          refine .inr (.inl ⟨_, _, rfl, rfl, ?_, ?_⟩)
          · simpa [Str.length] using hl
          · have e : ((⟨a.toArray⟩ : Str) ++ ⟨b.toArray⟩) = ⟨(a ++ b).toArray⟩ := by
              show Str.mk _ = _
              simp
            rw [e]
            refine k _ γ H Ext.refl (.str _ (fun c hc => ?_) (by simpa using hl)) s
            rcases List.mem_append.mp hc with z | z
            · exact a1 c z
            · exact b1 c z
        · cases h
  · cases rx with
    | @tup a1 v1 x1 f1 q1 =>
      cases ry with
      | @tup a2 v2 x2 f2 q2 =>
        split at h
        · rename_i hl
          cases h
          rw [bigLine_eq] at hl
          have e1 := q1.length
          have e2 := q2.length
          refine .inr (.inr (.inr ⟨a1, a2, v1, v2, rfl, rfl, f1.sq, f2.sq, by omega, fun e => ?_, fun _ e => ?_, fun _ _ p hp => ?_⟩))
          · subst e
            cases q1
            exact k _ γ H Ext.refl (.tup f2 q2) s
          · subst e
            cases q2
            rw [List.append_nil] at k
            exact k _ γ H Ext.refl (.tup f1 q1) s
          · have ex := Ext.upd (K := X.K) (G := G) s (o := .tup (v1 ++ v2)) hp
            exact k _ γ _ ex (.tup (.inl ⟨.inl upd_same, s.fresh hp⟩) ((q1.mono ex).append (q2.mono ex))) (s.upd hp)
        · cases h
  · split at h
    · rename_i xs ys hx hy
      split at h
      · rename_i hl
        cases h
        rw [bigLine_eq] at hl
        obtain ⟨a1, v1, rfl, h1, q1⟩ := lstOf_rep s hx rx
        obtain ⟨a2, v2, rfl, h2, q2⟩ := lstOf_rep s hy ry
        have e1 := q1.length
        have e2 := q2.length
        refine .inr (.inr (.inl ⟨a1, a2, v1, v2, rfl, rfl, h1, h2, by omega, fun p hp => ?_⟩))
        have ex := Ext.upd (K := X.K) (G := G) s (o := .lst (v1 ++ v2)) hp
        exact k _ γ _ ex (.lst upd_same (s.fresh hp) ((q1.mono ex).append (q2.mono ex))) (s.upd hp)
      · cases h
    · cases h
theorem o2_sub : OpR X (binaryOp .Sub) (rOf X.K G opSub) := by
  refine op_sub.imp ?_
  rintro x y H Q ⟨wx, wy, S, γ, w, rx, ry, s, h, k⟩
  unfold opSub at h
  split at h
  · cases rx; cases ry; cases h
    exact ⟨_, _, rfl, rfl, k _ γ H Ext.refl (.int _) s⟩
  · cases h
theorem reps_flat {K : PySem.W.Frag} {γ : Ga} {H : Hp} {xs : List W} {vs : List V} (q : Reps K G γ H xs vs) : ∀ n, Reps K G γ H (List.replicate n xs).flatten (List.replicate n vs).flatten
  | 0 => .nil
  | n + 1 => by
    rw [List.replicate_succ, List.replicate_succ, List.flatten_cons, List.flatten_cons]
    exact q.append (reps_flat q n)
theorem o2_mul : OpR X (binaryOp .Mult) (rOf X.K G opMul) := by
  refine (OpR.or op_mul op_rep).imp ?_
  rintro x y H Q ⟨wx, wy, S, γ, w, rx, ry, s, h, k⟩
  unfold opMul at h
  split at h
  · cases rx; cases ry
    split at h
    · rename_i i j hm
      cases h
      refine .inl ⟨_, _, rfl, rfl, ?_, k _ γ H Ext.refl (.int _) s⟩
      unfold mulOk at hm
      rw [Bool.or_eq_true, decide_eq_true_eq, decide_eq_true_eq] at hm
      unfold CMul
      omega
    · cases h
  · rename_i n _
    split at h
    · rename_i xs hx
      split at h
      · rename_i hl
        cases h
        cases ry
        obtain ⟨a1, v1, rfl, h1, q1⟩ := lstOf_rep s hx rx
        have e1 := q1.length
        obtain ⟨l1, l2, l3⟩ := hl
        rw [bigLine_eq] at l3
        refine .inr ⟨a1, _, v1, rfl, rfl, h1, by omega, by omega, by rw [← e1]; exact l3, fun p hp => ?_⟩
        have ex := Ext.upd (K := X.K) (G := G) s (o := .lst (List.replicate n.toNat v1).flatten) hp
        exact k _ γ _ ex (.lst upd_same (s.fresh hp) (reps_flat (q1.mono ex) _)) (s.upd hp)
      · cases h
    · cases h
  · cases h
theorem o2_div : OpR X (binaryOp .FloorDiv) (rOf X.K G opDiv) := by
  refine op_fdivW.imp ?_
  rintro x y H Q ⟨wx, wy, S, γ, w, rx, ry, s, h, k⟩
  unfold opDiv at h
  split at h
  · cases rx; cases ry
    split at h
    · rename_i hm
      cases h
      exact ⟨_, _, rfl, rfl, hm, k _ γ H Ext.refl (.int _) s⟩
    · cases h
  · cases h
theorem o2_mod : OpR X (binaryOp .Mod) (rOf X.K G opMod) := by
  refine op_mod.imp ?_
  rintro x y H Q ⟨wx, wy, S, γ, w, rx, ry, s, h, k⟩
  unfold opMod at h
  split at h
  · cases rx; cases ry
    split at h
    · rename_i hm
      cases h
      exact ⟨_, _, rfl, rfl, hm, k _ γ H Ext.refl (.int _) s⟩
    · cases h
  · cases h
theorem o2_pow : OpR X (binaryOp .Pow) (rOf X.K G opPow) := by
  refine op_pow.imp ?_
  rintro x y H Q ⟨wx, wy, S, γ, w, rx, ry, s, h, k⟩
  unfold opPow at h
  split at h
  · cases rx; cases ry
    split at h
    · rename_i hm
      cases h
      exact ⟨_, _, rfl, rfl, ⟨hm.1, hm.2.1, by have := hm.2.2; omega⟩, k _ γ H Ext.refl (.int _) s⟩
    · cases h
  · cases h
theorem o2_eq (hu : X.A.units + 64 < cLine) : OpR X (compareOp .Eq) (rOf X.K G opEq) := by
  refine (op_eqD hu).imp ?_
  rintro x y H Q ⟨wx, wy, S, γ, w, rx, ry, s, h, k⟩
  unfold opEq at h
  split at h
  · rename_i hm
    cases h
    obtain ⟨d1, s1⟩ := dp_plain s rx hm.1
    obtain ⟨d2, s2⟩ := dp_plain s ry hm.2
    exact ⟨_, _, d1, d2, s1, s2, by rw [eqv_of _ _ _ _ hm.1 hm.2]; exact k _ γ H Ext.refl (.bl _) s⟩
  · cases h
theorem o2_ne (hu : X.A.units + 64 < cLine) : OpR X (compareOp .NotEq) (rOf X.K G opNe) := by
  refine (op_neD hu).imp ?_
  rintro x y H Q ⟨wx, wy, S, γ, w, rx, ry, s, h, k⟩
  unfold opNe at h
  split at h
  · rename_i hm
    cases h
    obtain ⟨d1, s1⟩ := dp_plain s rx hm.1
    obtain ⟨d2, s2⟩ := dp_plain s ry hm.2
    exact ⟨_, _, d1, d2, s1, s2, by rw [eqv_of _ _ _ _ hm.1 hm.2]; exact k _ γ H Ext.refl (.bl _) s⟩
  · cases h
theorem o2_cmp {op : CmpOp} {p : Int → Int → Bool} {q : List Nat → List Nat → Bool} (h1 : OpR X (compareOp op) (rI0 fun i j => .bl (p i j)))
    (h2 : OpR X (compareOp op) (fun x y H Q => ∃ i j, x = .str i ∧ y = .str j ∧ Q (.bl (q i.cps.toList j.cps.toList)) H)) : OpR X (compareOp op) (rOf X.K G (opCmp p q)) := by
  refine (OpR.or h1 h2).imp ?_
  rintro x y H Q ⟨wx, wy, S, γ, w, rx, ry, s, h, k⟩
  unfold opCmp at h
  split at h
  · cases rx; cases ry; cases h
    exact .inl ⟨_, _, rfl, rfl, k _ γ H Ext.refl (.bl _) s⟩
  · cases rx; cases ry; cases h
    exact .inr ⟨_, _, rfl, rfl, k _ γ H Ext.refl (.bl _) s⟩
  · cases h
theorem o2_lt : OpR X (compareOp .Lt) (rOf X.K G opLt) := o2_cmp op_lt op_lt_str
theorem o2_le : OpR X (compareOp .LtE) (rOf X.K G opLe) := o2_cmp op_le (q := fun a b => !decide (b < a)) op_le_str
theorem o2_gt : OpR X (compareOp .Gt) (rOf X.K G opGt) := o2_cmp op_gt (q := fun a b => decide (b < a)) op_gt_str
theorem o2_ge : OpR X (compareOp .GtE) (rOf X.K G opGe) := o2_cmp op_ge (q := fun a b => !decide (a < b)) op_ge_str
end
end Mp

set_option Elab.async false
set_option linter.all false
set_option maxRecDepth 100000
set_option maxHeartbeats 4000000
/-! Mp: expressions. -/
namespace Mp
open PySem PySem.Spec PyProof.Rows L2
section
variable {K : PySem.W.Frag} {G : Gs} {γ : Ga} {H : Hp} {S : Store} {wx : Wx} {α : Type}
theorem rOf_of {o : O2} {x y : W} {v u : V} {Q : VK} (rx : Rep K G γ H x v) (ry : Rep K G γ H y u) (s : StoreOk K G γ H S) (h : Post K G (Rep K G) wx γ H (rOpt (o x y S) S) Q) : rOf K G o v u H Q := by
  cases e : o x y S with
  | none =>
    rw [e] at h
    exact h.elim
  | some w =>
    rw [e] at h
    exact ⟨x, y, S, γ, w, rx, ry, s, e, fun v γ' H' ex r s' => h v γ' H' ex r s'⟩
/-- an operator of one value -/
def ruOf (K : PySem.W.Frag) (G : Gs) (o : W → Store → Option W) : V → Hp → VK → Prop := fun x H Q => ∃ wx S γ w, Rep K G γ H wx x ∧ StoreOk K G γ H S ∧ o wx S = some w ∧
  ∀ v γ' H', Ext γ H γ' H' → Rep K G γ' H' w v → StoreOk K G γ' H' S → Q v H'
theorem ruOf_of {o : W → Store → Option W} {x : W} {v : V} {Q : VK} (rx : Rep K G γ H x v) (s : StoreOk K G γ H S) (h : Post K G (Rep K G) wx γ H (rOpt (o x S) S) Q) : ruOf K G o v H Q := by
  cases e : o x S with
  | none =>
    rw [e] at h
    exact h.elim
  | some w =>
    rw [e] at h
    exact ⟨x, S, γ, w, rx, s, e, fun v γ' H' ex r s' => h v γ' H' ex r s'⟩
/-- a built-in's call -/
def raOf (K : PySem.W.Frag) (G : Gs) (o : OA) : List V → Hp → VK → Prop := fun xs H Q => ∃ ws S γ w, Reps K G γ H ws xs ∧ StoreOk K G γ H S ∧ o ws S = some w ∧
  ∀ v γ' H', Ext γ H γ' H' → Rep K G γ' H' w v → StoreOk K G γ' H' S → Q v H'
theorem raOf_of {o : OA} {ws : List W} {vs : List V} {Q : VK} (rx : Reps K G γ H ws vs) (s : StoreOk K G γ H S) (h : Post K G (Rep K G) wx γ H (rOpt (o ws S) S) Q) : raOf K G o vs H Q := by
  cases e : o ws S with
  | none =>
    rw [e] at h
    exact h.elim
  | some w =>
    rw [e] at h
    exact ⟨ws, S, γ, w, rx, s, e, fun v γ' H' ex r s' => h v γ' H' ex r s'⟩
theorem truthy_rep {w : W} {v : V} {b : Bool} (s : StoreOk K G γ H S) (r : Rep K G γ H w v) (h : truthy S w = some b) : TruV K v H b := by
  have emp : ∀ {xs : List W} {vs : List V}, Reps K G γ H xs vs → xs.isEmpty = vs.isEmpty := fun q => by cases q <;> rfl
  cases r with
  | non => cases h; rfl
  | bl c => cases h; rfl
  | int i => cases h; rfl
  | str l h1 h2 =>
    cases h
    refine ⟨by simpa [Str.length] using h2, ?_⟩
    cases l with
    | nil => rfl
    | cons c l =>
      show true = _
      simp [Str.length]
      omega
  | tup f q =>
    cases h
    exact .inr (.inl ⟨_, f.sq, by rw [emp q]⟩)
  | lst h1 f q =>
    cases h
    exact .inl ⟨_, SqL.of h1, by rw [emp q]⟩
  | @ref i a h1 =>
    have h' : (match S[i]? with
      | some (.lst xs) => some (!xs.isEmpty)
      | _ => none) = some b := h
    split at h'
    · rename_i ys hc
      obtain ⟨_, vs, hv, q⟩ := s.cell i _ a hc h1
      cases h'
      exact .inl ⟨_, SqL.of hv, by rw [emp q]⟩
    · cases h'
  | scr f q => cases h
  | fn f => cases h
  | dct d f r => cases h
  | exc h1 f r => cases h
theorem tru_of {w : W} {v : V} {Q : Bool → Hp → Prop} (r : Rep K G γ H w v) (s : StoreOk K G γ H S) (h : Post K G relB wx γ H (rTruth w S) Q) : ∃ k, TruV K v H k ∧ Q k H := by
  unfold rTruth at h
  cases e : truthy S w with
  | none =>
    rw [e] at h
    exact h.elim
  | some b =>
    rw [e] at h
    exact ⟨b, truthy_rep s r e, h b γ H Ext.refl rfl s⟩
end
section
variable {X : Cx} {G : Gs} {x : Str} {pos p : Pos} {a b c : Expr} {es rest : List Expr} {f g h : ME} {ga : MA} {t u : MT} {o o' : O2}
theorem se_var (i : Nat) (hN : X.N[i]? = some x := by rfl) (hv : Vis X.env.scope x := by first | exact Or.inl rfl | exact Or.inr (Or.inl rfl) | exact Or.inr (Or.inr rfl)) (hd : (x == ("__debug__" : Str)) = false := by decide)
    (hcd : (x == ("__classdict__" : Str)) = false := by decide) : SE X G (.Name x pos) (mVar i) := by
  refine ⟨fun Wi tk => (pe_var hN hv hd hcd).imp ?_⟩
  rintro σ H Q ⟨η, S, γ, he, hs, q⟩
  unfold mVar at q
  split at q
  · rename_i w e
    obtain ⟨v, e1, r⟩ := he.2 i w e
    exact ⟨v, e1, q v γ H Ext.refl r hs⟩
  · exact q.elim
theorem se_c {e : Expr} {v : V} {w : W} (h : PE X e (tC v)) (r : ∀ γ H, Rep X.K G γ H w v) : SE X G e (mC w) := by
  refine ⟨fun Wi tk => h.imp ?_⟩
  rintro σ H Q ⟨η, S, γ, he, hs, q⟩
  exact q v γ H Ext.refl (r γ H) hs
theorem se_int {i : Int} {j : Nat} : SE X G (.Constant (.int i) j pos) (mC (.int i)) := se_c pe_int fun _ _ => .int i
theorem se_bl {i : Bool} {j : Nat} : SE X G (.Constant (.bool i) j pos) (mC (.bl i)) := se_c pe_bl fun _ _ => .bl i
theorem se_non {j : Nat} : SE X G (.Constant .none j pos) (mC .non) := se_c pe_non fun _ _ => .non
theorem rep_str {K : PySem.W.Frag} {γ : Ga} {H : Hp} {z : Str} {l : List Nat} (e : z = ⟨l.toArray⟩) (hl : (l.all (· < 0x110000) && decide (l.length ≤ 16777216)) = true) : Rep K G γ H (.str l) (.str z) := by
  subst e
  rw [Bool.and_eq_true, decide_eq_true_eq] at hl
  refine .str l (fun c hc => ?_) (by rw [sizeLine_eq]; exact hl.2)
  have := List.all_eq_true.mp hl.1 c hc
  simpa using this
theorem se_str {z : Str} {j : Nat} (l : List Nat) (e : z = ⟨l.toArray⟩ := by decide +kernel) (hl : (l.all (· < 0x110000) && decide (l.length ≤ 16777216)) = true := by decide +kernel) : SE X G (.Constant (.str z) j pos) (mC (.str l)) := se_c pe_str fun _ _ => rep_str e hl
/-- a constant of the module -/
theorem se_gstr {z : Str} (l : List Nat) (hm : ∃ t, X.mg x = some (.str z t)) (hg : Gl X x := by rfl) (e : z = ⟨l.toArray⟩ := by decide +kernel) (hl : (l.all (· < 0x110000) && decide (l.length ≤ 16777216)) = true := by decide +kernel) (hd : (x == ("__debug__" : Str)) = false := by decide) : SE X G (.Name x pos) (mC (.str l)) := by
  obtain ⟨t, hm⟩ := hm
  exact se_c (pe_glob (v := .str z) hg hm ⟨t, rfl⟩ hd) fun _ _ => rep_str e hl
theorem se_gint {i : Int} (hm : ∃ t, X.mg x = some (.int i t)) (hg : Gl X x := by rfl) (hd : (x == ("__debug__" : Str)) = false := by decide) : SE X G (.Name x pos) (mC (.int i)) := by
  obtain ⟨t, hm⟩ := hm
  exact se_c (pe_glob (v := .int i) hg hm ⟨t, rfl⟩ hd) fun _ _ => .int i
theorem se_fn (n : Nat) (hm : X.mg x = some (.ref (G.fa n))) (hg : Gl X x := by rfl) (hd : (x == ("__debug__" : Str)) = false := by decide) : SE X G (.Name x pos) (mC (.fn n)) :=
  se_c (pe_glob (v := .ref (G.fa n)) hg hm rfl hd) fun _ _ => .fn n
/-- code that the proof never comes to -/
theorem se_never {e : Expr} : SE X G e mStuck := ⟨fun Wi tk => ⟨fun pins s σ H Q I h => by
  obtain ⟨η, S, γ, he, hs, q⟩ := h
  exact q.elim⟩⟩
theorem se_bin {op : Operator} (ho : OpR X (binaryOp op) (rOf X.K G o)) (ha : SE X G a f) (hb : SE X G b g) : SE X G (.BinOp a op b pos) (mBin o f g) := by
  refine ⟨fun Wi tk => (pe_op ho (ha.run Wi tk) (hb.run Wi tk)).imp ?_⟩
  rintro σ H Q ⟨η, S, γ, he, hs, q⟩
  exact ⟨η, S, γ, he, hs, (Post.seq q).imp fun x H1 ⟨wx, S1, γ1, e1, r1, s1, q1⟩ => ⟨η, S1, γ1, he.mono e1, s1, (Post.seq q1).imp fun y H2 ⟨wy, S2, γ2, e2, r2, s2, q2⟩ => rOf_of (r1.mono e2) r2 s2 q2⟩⟩
theorem se_un {op : UnaryOp} {o : W → Store → Option W} (ho : UnR X (unaryOp op) (ruOf X.K G o)) (ha : SE X G a f) : SE X G (.UnaryOp op a pos) (mUn o f) := by
  refine ⟨fun Wi tk => (pe_un ho (ha.run Wi tk)).imp ?_⟩
  rintro σ H Q ⟨η, S, γ, he, hs, q⟩
  exact ⟨η, S, γ, he, hs, (Post.seq q).imp fun x H1 ⟨wx, S1, γ1, e1, r1, s1, q1⟩ => ruOf_of r1 s1 q1⟩
theorem un_negW : UnR X (unaryOp .USub) (ruOf X.K G opNeg) := fun pins s σ H x v Q I rx q => by
  refine un_neg pins s σ H x v Q I rx ?_
  obtain ⟨wx, S, γ, w, r, ss, h, k⟩ := q
  unfold opNeg at h
  split at h
  · cases r; cases h
    exact ⟨_, rfl, k _ γ H Ext.refl (.int _) ss⟩
  · cases h
theorem se_cmp {op : CmpOp} (ho : OpR X (compareOp op) (rOf X.K G o)) (ha : SE X G a f) (hb : SE X G b g) (hm : behindInMarks op b = false := by first | exact nobehind _ (by decide) (by decide) | rfl) : SE X G (.Compare a [op] [b] pos) (mBin o f g) := by
  refine ⟨fun Wi tk => (pe_cmpR ho (ha.run Wi tk) (hb.run Wi tk) hm).imp ?_⟩
  rintro σ H Q ⟨η, S, γ, he, hs, q⟩
  exact ⟨η, S, γ, he, hs, (Post.seq q).imp fun x H1 ⟨wx, S1, γ1, e1, r1, s1, q1⟩ => ⟨η, S1, γ1, he.mono e1, s1, (Post.seq q1).imp fun y H2 ⟨wy, S2, γ2, e2, r2, s2, q2⟩ => rOf_of (r1.mono e2) r2 s2 q2⟩⟩
theorem isN_sound {neg : Bool} : True := trivial
theorem se_isN {j : Nat} {p' : Pos} (ha : SE X G a f) : SE X G (.Compare a [.Is] [.Constant .none j p'] pos) (mUn opIsN f) := by
  refine ⟨fun Wi tk => (pe_cmpR op_isN (ha.run Wi tk) pe_non (nomark _)).imp ?_⟩
  rintro σ H Q ⟨η, S, γ, he, hs, q⟩
  refine ⟨η, S, γ, he, hs, (Post.seq q).imp fun x H1 ⟨wx, S1, γ1, e1, r1, s1, q1⟩ => ⟨rfl, ?_⟩⟩
  cases r1 <;> exact q1 _ γ1 H1 Ext.refl (.bl _) s1
theorem se_notN {j : Nat} {p' : Pos} (ha : SE X G a f) : SE X G (.Compare a [.IsNot] [.Constant .none j p'] pos) (mUn opNotN f) := by
  refine ⟨fun Wi tk => (pe_cmpR op_notN (ha.run Wi tk) pe_non (nomark _)).imp ?_⟩
  rintro σ H Q ⟨η, S, γ, he, hs, q⟩
  refine ⟨η, S, γ, he, hs, (Post.seq q).imp fun x H1 ⟨wx, S1, γ1, e1, r1, s1, q1⟩ => ⟨rfl, ?_⟩⟩
  cases r1 <;> exact q1 _ γ1 H1 Ext.refl (.bl _) s1
theorem se_chain {op op' : CmpOp} (ho : OpR X (compareOp op) (rOf X.K G o)) (ho' : OpR X (compareOp op') (rOf X.K G o')) (ha : SE X G a f) (hb : SE X G b g) (hc : SE X G c h) (hm : lastMarks [op, op'] [b, c] = false := by with_unfolding_all rfl) :
    SE X G (.Compare a [op, op'] [b, c] pos) (mChain o o' f g h) := by
  refine ⟨fun Wi tk => (pe_chain ho ho' (ha.run Wi tk) (hb.run Wi tk) (hc.run Wi tk) hm).imp ?_⟩
  rintro σ H Q ⟨η, S, γ, he, hs, q⟩
  refine ⟨η, S, γ, he, hs, (Post.seq q).imp fun x H1 ⟨wx, S1, γ1, e1, r1, s1, q1⟩ => ⟨η, S1, γ1, he.mono e1, s1, (Post.seq q1).imp fun y H2 ⟨wy, S2, γ2, e2, r2, s2, q2⟩ => ?_⟩⟩
  split at q2
  · rename_i e
    refine ⟨wx, wy, S2, γ2, _, r1.mono e2, r2, s2, e, fun v γ3 H3 e3 r3 s3 => ?_⟩
    cases r3
    refine ⟨true, rfl, ?_⟩
    rw [if_pos rfl]
    exact ⟨η, S2, γ3, ((he.mono e1).mono e2).mono e3, s3, (Post.seq (Post.base e3 q2)).imp fun z H4 ⟨wz, S4, γ4, e4, r4, s4, q4⟩ => rOf_of (r2.mono (e3.trans e4)) r4 s4 q4⟩
  · rename_i e
    refine ⟨wx, wy, S2, γ2, _, r1.mono e2, r2, s2, e, fun v γ3 H3 e3 r3 s3 => ?_⟩
    cases r3
    refine ⟨false, rfl, ?_⟩
    rw [if_neg Bool.false_ne_true]
    exact q2 _ γ3 H3 e3 (.bl _) s3
  · exact q2.elim
theorem se_one {op : BoolOp} (ha : SE X G a f) : SE X G (.BoolOp op [a] pos) f := ⟨fun Wi tk => pe_one (ha.run Wi tk)⟩
theorem se_and (ha : SE X G a f) (hb : SE X G (.BoolOp .And (b :: rest) pos) g) : SE X G (.BoolOp .And (a :: b :: rest) pos) (mAnd f g) := by
  refine ⟨fun Wi tk => (pe_andT (ha.run Wi tk) (hb.run Wi tk)).imp ?_⟩
  rintro σ H Q ⟨η, S, γ, he, hs, q⟩
  refine ⟨η, S, γ, he, hs, (Post.seq q).imp fun x H1 ⟨wx, S1, γ1, e1, r1, s1, q1⟩ => ?_⟩
  unfold rTruth at q1
  cases e : truthy S1 wx with
  | none =>
    rw [e] at q1
    exact q1.elim
  | some k =>
    rw [e] at q1
    refine ⟨k, truthy_rep s1 r1 e, ?_⟩
    cases k with
    | true => exact ⟨η, S1, γ1, he.mono e1, s1, q1⟩
    | false => exact q1 x γ1 H1 Ext.refl r1 s1
theorem se_or (ha : SE X G a f) (hb : SE X G (.BoolOp .Or (b :: rest) pos) g) : SE X G (.BoolOp .Or (a :: b :: rest) pos) (mOr f g) := by
  refine ⟨fun Wi tk => (pe_orT (ha.run Wi tk) (hb.run Wi tk)).imp ?_⟩
  rintro σ H Q ⟨η, S, γ, he, hs, q⟩
  refine ⟨η, S, γ, he, hs, (Post.seq q).imp fun x H1 ⟨wx, S1, γ1, e1, r1, s1, q1⟩ => ?_⟩
  unfold rTruth at q1
  cases e : truthy S1 wx with
  | none =>
    rw [e] at q1
    exact q1.elim
  | some k =>
    rw [e] at q1
    refine ⟨k, truthy_rep s1 r1 e, ?_⟩
    cases k with
    | false => exact ⟨η, S1, γ1, he.mono e1, s1, q1⟩
    | true => exact q1 x γ1 H1 Ext.refl r1 s1
theorem se_not (ha : SE X G a f) : SE X G (.UnaryOp .Not a pos) (mNot f) := by
  refine ⟨fun Wi tk => (pe_notT (ha.run Wi tk)).imp ?_⟩
  rintro σ H Q ⟨η, S, γ, he, hs, q⟩
  refine ⟨η, S, γ, he, hs, (Post.seq q).imp fun x H1 ⟨wx, S1, γ1, e1, r1, s1, q1⟩ => ?_⟩
  unfold rTruth at q1
  cases e : truthy S1 wx with
  | none =>
    rw [e] at q1
    exact q1.elim
  | some k =>
    rw [e] at q1
    exact ⟨k, truthy_rep s1 r1 e, q1 _ γ1 H1 Ext.refl (.bl _) s1⟩
/-! tests -/
theorem st_tru (ha : SE X G a f) (he : ∀ whole, isTrue a X.env whole = (do let v ← whole; standAt a.pos; holding [v] (PySem.truthy v)) := by intro _; rfl) : ST X G a (mTru f) := by
  refine ⟨fun Wi tk => (pt_truth (ha.run Wi tk) he).imp ?_⟩
  rintro σ H Q ⟨η, S, γ, he, hs, q⟩
  exact ⟨η, S, γ, he, hs, (Post.seq q).imp fun x H1 ⟨wx, S1, γ1, e1, r1, s1, q1⟩ => tru_of r1 s1 q1⟩
/-- a comparison as a test -/
def mTCmp (o : O2) (f g : ME) : MT := fun η S => (f η S).bind fun x S1 => (g η S1).bind fun y S2 => match o x y S2 with
  | some (.bl b) => .ok b S2
  | _ => .stuck
theorem st_cmp {op : CmpOp} (ho : OpR X (compareOp op) (rOf X.K G o)) (ha : SE X G a f) (hb : SE X G b g) (hm : behindInMarks op b = false := by first | exact nobehind _ (by decide) (by decide) | rfl) : ST X G (.Compare a [op] [b] pos) (mTCmp o f g) := by
  refine ⟨fun Wi tk => (pt_cmpR ho (ha.run Wi tk) (hb.run Wi tk) hm).imp ?_⟩
  rintro σ H Q ⟨η, S, γ, he, hs, q⟩
  refine ⟨η, S, γ, he, hs, (Post.seq q).imp fun x H1 ⟨wx, S1, γ1, e1, r1, s1, q1⟩ => ⟨η, S1, γ1, he.mono e1, s1, (Post.seq q1).imp fun y H2 ⟨wy, S2, γ2, e2, r2, s2, q2⟩ => ?_⟩⟩
  split at q2
  · rename_i k e
    refine ⟨wx, wy, S2, γ2, _, r1.mono e2, r2, s2, e, fun v γ3 H3 e3 r3 s3 => ?_⟩
    cases r3
    exact ⟨_, rfl, q2 _ γ3 H3 e3 rfl s3⟩
  · exact q2.elim
def mTUn (o : W → Store → Option W) (f : ME) : MT := fun η S => (f η S).bind fun x S1 => match o x S1 with
  | some (.bl b) => .ok b S1
  | _ => .stuck
theorem st_isN {j : Nat} {p' : Pos} (ha : SE X G a f) : ST X G (.Compare a [.Is] [.Constant .none j p'] pos) (mTUn opIsN f) := by
  refine ⟨fun Wi tk => (pt_cmpR op_isN (ha.run Wi tk) pe_non (nomark _)).imp ?_⟩
  rintro σ H Q ⟨η, S, γ, he, hs, q⟩
  refine ⟨η, S, γ, he, hs, (Post.seq q).imp fun x H1 ⟨wx, S1, γ1, e1, r1, s1, q1⟩ => ⟨rfl, _, rfl, ?_⟩⟩
  cases r1 <;> exact q1 _ γ1 H1 Ext.refl rfl s1
theorem st_notN {j : Nat} {p' : Pos} (ha : SE X G a f) : ST X G (.Compare a [.IsNot] [.Constant .none j p'] pos) (mTUn opNotN f) := by
  refine ⟨fun Wi tk => (pt_cmpR op_notN (ha.run Wi tk) pe_non (nomark _)).imp ?_⟩
  rintro σ H Q ⟨η, S, γ, he, hs, q⟩
  refine ⟨η, S, γ, he, hs, (Post.seq q).imp fun x H1 ⟨wx, S1, γ1, e1, r1, s1, q1⟩ => ⟨rfl, _, rfl, ?_⟩⟩
  cases r1 <;> exact q1 _ γ1 H1 Ext.refl rfl s1
def mTChain (o o' : O2) (f g h : ME) : MT := fun η S => (f η S).bind fun x S1 => (g η S1).bind fun y S2 => match o x y S2 with
  | some (.bl true) => (h η S2).bind fun y' S4 => (match o' y y' S4 with
    | some (.bl b) => .ok b S4
    | _ => .stuck)
  | some (.bl false) => .ok false S2
  | _ => .stuck
theorem st_chain {op op' : CmpOp} (ho : OpR X (compareOp op) (rOf X.K G o)) (ho' : OpR X (compareOp op') (rOf X.K G o')) (ha : SE X G a f) (hb : SE X G b g) (hc : SE X G c h) (hm : lastMarks [op, op'] [b, c] = false := by with_unfolding_all rfl) :
    ST X G (.Compare a [op, op'] [b, c] pos) (mTChain o o' f g h) := by
  refine ⟨fun Wi tk => (pt_chain ho ho' (ha.run Wi tk) (hb.run Wi tk) (hc.run Wi tk) hm).imp ?_⟩
  rintro σ H Q ⟨η, S, γ, he, hs, q⟩
  refine ⟨η, S, γ, he, hs, (Post.seq q).imp fun x H1 ⟨wx, S1, γ1, e1, r1, s1, q1⟩ => ⟨η, S1, γ1, he.mono e1, s1, (Post.seq q1).imp fun y H2 ⟨wy, S2, γ2, e2, r2, s2, q2⟩ => ?_⟩⟩
  split at q2
  · rename_i e
    refine ⟨wx, wy, S2, γ2, _, r1.mono e2, r2, s2, e, fun v γ3 H3 e3 r3 s3 => ?_⟩
    cases r3
    refine ⟨true, rfl, ?_⟩
    rw [if_pos rfl]
    refine ⟨η, S2, γ3, ((he.mono e1).mono e2).mono e3, s3, (Post.seq (Post.base e3 q2)).imp fun z H4 ⟨wz, S4, γ4, e4, r4, s4, q4⟩ => ?_⟩
    split at q4
    · rename_i k ek
      refine ⟨wy, wz, S4, γ4, _, r2.mono (e3.trans e4), r4, s4, ek, fun v γ5 H5 e5 r5 s5 => ?_⟩
      cases r5
      exact ⟨_, rfl, q4 _ γ5 H5 e5 rfl s5⟩
    · exact q4.elim
  · rename_i e
    refine ⟨wx, wy, S2, γ2, _, r1.mono e2, r2, s2, e, fun v γ3 H3 e3 r3 s3 => ?_⟩
    cases r3
    refine ⟨false, rfl, ?_⟩
    rw [if_neg Bool.false_ne_true]
    exact ⟨_, rfl, q2 _ γ3 H3 e3 rfl s3⟩
  · exact q2.elim
theorem st_not (ha : ST X G a t) : ST X G (.UnaryOp .Not a pos) (mTNot t) := by
  refine ⟨fun Wi tk => (pt_not (ha.run Wi tk)).imp ?_⟩
  rintro σ H Q ⟨η, S, γ, he, hs, q⟩
  refine ⟨η, S, γ, he, hs, (Post.seq (rel := relB) q).imp fun x H1 ⟨wx, S1, γ1, e1, r1, s1, q1⟩ => ?_⟩
  cases r1
  exact q1 _ γ1 H1 Ext.refl rfl s1
theorem sw_and1 (ha : ST X G a t) : SW X G (.BoolOp .And [a] pos) t := ⟨fun Wi tk => pw_and1 (ha.run Wi tk)⟩
theorem sw_or1 (ha : ST X G a t) : SW X G (.BoolOp .Or [a] pos) t := ⟨fun Wi tk => pw_or1 (ha.run Wi tk)⟩
theorem sw_and (ha : ST X G a t) (hb : SW X G (.BoolOp .And (b :: rest) pos) u) : SW X G (.BoolOp .And (a :: b :: rest) pos) (mTAnd t u) := by
  refine ⟨fun Wi tk => (pw_and (ha.run Wi tk) (hb.run Wi tk)).imp ?_⟩
  rintro σ H Q ⟨η, S, γ, he, hs, q⟩
  refine ⟨η, S, γ, he, hs, (Post.seq (rel := relB) q).imp fun x H1 ⟨wx, S1, γ1, e1, r1, s1, q1⟩ => ?_⟩
  cases r1
  cases x with
  | true => exact ⟨η, S1, γ1, he.mono e1, s1, q1⟩
  | false => exact q1 _ γ1 H1 Ext.refl rfl s1
theorem sw_or (ha : ST X G a t) (hb : SW X G (.BoolOp .Or (b :: rest) pos) u) : SW X G (.BoolOp .Or (a :: b :: rest) pos) (mTOr t u) := by
  refine ⟨fun Wi tk => (pw_or (ha.run Wi tk) (hb.run Wi tk)).imp ?_⟩
  rintro σ H Q ⟨η, S, γ, he, hs, q⟩
  refine ⟨η, S, γ, he, hs, (Post.seq (rel := relB) q).imp fun x H1 ⟨wx, S1, γ1, e1, r1, s1, q1⟩ => ?_⟩
  cases r1
  cases x with
  | false => exact ⟨η, S1, γ1, he.mono e1, s1, q1⟩
  | true => exact q1 _ γ1 H1 Ext.refl rfl s1
theorem st_w (h : SW X G a t) : ST X G a t := ⟨fun Wi tk => (h.run Wi tk).pt⟩
theorem se_if (hc : ST X G c t) (ha : SE X G a f) (hb : SE X G b g) : SE X G (.IfExp c a b pos) (mIf t f g) := by
  refine ⟨fun Wi tk => (pe_ifExp (hc.run Wi tk) (ha.run Wi tk) (hb.run Wi tk)).imp ?_⟩
  rintro σ H Q ⟨η, S, γ, he, hs, q⟩
  refine ⟨η, S, γ, he, hs, (Post.seq (rel := relB) q).imp fun x H1 ⟨wx, S1, γ1, e1, r1, s1, q1⟩ => ?_⟩
  cases r1
  cases x with
  | true => exact ⟨η, S1, γ1, he.mono e1, s1, q1⟩
  | false => exact ⟨η, S1, γ1, he.mono e1, s1, q1⟩
/-! lists of expressions -/
theorem sa_nil : SA X G [] maNil := by
  refine ⟨fun Wi tk => pa_nil.imp ?_⟩
  rintro σ H Q ⟨η, S, γ, he, hs, q⟩
  exact q _ γ H Ext.refl .nil hs
theorem sa_cons (ha : SE X G a f) (hr : SA X G es ga) (hs : starEach (a :: es) X.env = (false, eval a X.env) :: starEach es X.env := by rfl) : SA X G (a :: es) (maCons f ga) := by
  refine ⟨fun Wi tk => (pa_cons (ha.run Wi tk) (hr.run Wi tk) hs).imp ?_⟩
  rintro σ H Q ⟨η, S, γ, he, hs, q⟩
  exact ⟨η, S, γ, he, hs, (Post.seq q).imp fun x H1 ⟨wx, S1, γ1, e1, r1, s1, q1⟩ => ⟨η, S1, γ1, he.mono e1, s1, (Post.seq q1).imp fun y H2 ⟨wy, S2, γ2, e2, r2, s2, q2⟩ => q2 _ γ2 H2 Ext.refl (.cons (r1.mono e2) r2) s2⟩⟩
theorem sized_post {K : PySem.W.Frag} {γ : Ga} {H : Hp} {α β : Type} {rel : Rel α β} {wx : Wx} {n : Nat} {r : R α} {Q : β → Hp → Prop} (h : Post K G rel wx γ H (sized n r) Q) : n ≤ sizeLine ∧ Post K G rel wx γ H r Q := by
  unfold sized at h
  split at h
  · rename_i hl
    exact ⟨by rw [← bigLine_eq]; exact hl, h⟩
  · exact h.elim
theorem se_tup {x1 : Nat} (h : SA X G es ga) : SE X G (.Tuple es x1 pos) (mTup ga) := by
  refine ⟨fun Wi tk => (pe_tup (h.run Wi tk)).imp ?_⟩
  rintro σ H Q ⟨η, S, γ, he, hs, q⟩
  refine ⟨η, S, γ, he, hs, (Post.seq q).imp fun x H1 ⟨wx, S1, γ1, e1, r1, s1, q1⟩ => ?_⟩
  obtain ⟨hl, q1⟩ := sized_post q1
  refine ⟨by rw [← r1.length]; exact hl, fun p hp => ?_⟩
  have ex := Ext.upd (K := X.K) (G := G) s1 (o := .tup x) hp
  exact q1 _ γ1 _ ex (.tup (.inl ⟨.inl upd_same, s1.fresh hp⟩) (r1.mono ex)) (s1.upd hp)
theorem se_lst (h : SA X G es ga) : SE X G (.List es pos) (mLst ga) := by
  refine ⟨fun Wi tk => (pe_lst (h.run Wi tk)).imp ?_⟩
  rintro σ H Q ⟨η, S, γ, he, hs, q⟩
  refine ⟨η, S, γ, he, hs, (Post.seq q).imp fun x H1 ⟨wx, S1, γ1, e1, r1, s1, q1⟩ => ?_⟩
  obtain ⟨hl, q1⟩ := sized_post q1
  refine ⟨by rw [← r1.length]; exact hl, fun p hp => ?_⟩
  have ex := Ext.upd (K := X.K) (G := G) s1 (o := .lst x) hp
  exact q1 _ γ1 _ ex (.lst upd_same (s1.fresh hp) (r1.mono ex)) (s1.upd hp)
end
end Mp

set_option Elab.async false
set_option linter.all false
set_option maxRecDepth 100000
set_option maxHeartbeats 4000000
/-! Mp: statements, targets, loops. -/
namespace Mp
open PySem PySem.Spec PyProof.Rows L2
def PostS (K : PySem.W.Frag) (G : Gs) (Wi : WX) (γ : Ga) (H : Hp) (r : RS) (D : Ends) : Prop := match r with
  | .nx η' S' => ∀ σ' γ' H', Ext γ H γ' H' → EnvOk K G γ' H' η' σ' → StoreOk K G γ' H' S' → D.nx σ' H'
  | .bk η' S' => ∀ σ' γ' H', Ext γ H γ' H' → EnvOk K G γ' H' η' σ' → StoreOk K G γ' H' S' → D.bk σ' H'
  | .ct η' S' => ∀ σ' γ' H', Ext γ H γ' H' → EnvOk K G γ' H' η' σ' → StoreOk K G γ' H' S' → D.ct σ' H'
  | .ret w S' => ∀ v γ' H', Ext γ H γ' H' → Rep K G γ' H' w v → StoreOk K G γ' H' S' → D.rt v H'
  | .exc c x η' S' => ∀ v d σ' γ' H', Ext γ H γ' H' → EnvOk K G γ' H' η' σ' → Rep K G γ' H' x v → StoreOk K G γ' H' S' → H' d = some (.xd [(G.nm c, v)]) → γ'.Off d → Wi (.ref (G.ca c)) (some d) σ' H'
  | .stuck => False
section
variable {K : PySem.W.Frag} {G : Gs} {Wi : WX} {γ γ1 : Ga} {H H1 : Hp} {D : Ends}
theorem PostS.base {r : RS} (e : Ext γ H γ1 H1) (h : PostS K G Wi γ H r D) : PostS K G Wi γ1 H1 r D := by
  cases r with
  | nx η' S' => exact fun σ' γ' H' e' q s => h σ' γ' H' (e.trans e') q s
  | bk η' S' => exact fun σ' γ' H' e' q s => h σ' γ' H' (e.trans e') q s
  | ct η' S' => exact fun σ' γ' H' e' q s => h σ' γ' H' (e.trans e') q s
  | ret w S' => exact fun v γ' H' e' q s => h v γ' H' (e.trans e') q s
  | exc c x η' S' => exact fun v d σ' γ' H' e' q r s hd ho => h v d σ' γ' H' (e.trans e') q r s hd ho
  | stuck => exact h
/-- an expression ahead of a statement's end -/
theorem PostS.expr {α β : Type} {rel : Rel α β} {η : Env} {σ : L2.St} {r : R α} {k : α → Store → RS} (he : EnvOk K G γ H η σ) (h : PostS K G Wi γ H (r.toS η k) D) :
    Post K G rel (fun c d H' => Wi c d σ H') γ H r fun v H1 => ∃ w S1 γ1, Ext γ H γ1 H1 ∧ rel γ1 H1 w v ∧ StoreOk K G γ1 H1 S1 ∧ PostS K G Wi γ1 H1 (k w S1) D := by
  cases r with
  | ok w S' => exact fun v γ' H' e q s => ⟨w, S', γ', e, q, s, PostS.base e h⟩
  | exc c x S' => exact fun v d γ' H' e q s hd ho => h v d σ γ' H' e (he.mono e) q s hd ho
  | stuck => exact h
theorem PostS.next {r : RS} {k : MS} (h : PostS K G Wi γ H (r.next k) D) : PostS K G Wi γ H r { D with nx := fun σ' H' => ∃ η S γ1, EnvOk K G γ1 H' η σ' ∧ StoreOk K G γ1 H' S ∧ PostS K G Wi γ1 H' (k η S) D } := by
  cases r with
  | nx η' S' => exact fun σ' γ' H' e q s => ⟨η', S', γ', q, s, PostS.base e h⟩
  | bk η' S' => exact h
  | ct η' S' => exact h
  | ret w S' => exact h
  | exc c x η' S' => exact h
  | stuck => exact h
end
def tsOf (K : PySem.W.Frag) (G : Gs) (Wi : WX) (f : MS) : TS := fun D σ H => ∃ η S γ, EnvOk K G γ H η σ ∧ StoreOk K G γ H S ∧ PostS K G Wi γ H (f η S) D
structure SS (X : Cx) (G : Gs) (e : Stmt) (f : MS) : Prop where
  run : ∀ Wi, Takes X Wi → PS X e (tsOf X.K G Wi f)
structure SSs (X : Cx) (G : Gs) (e : List Stmt) (f : MS) : Prop where
  run : ∀ Wi, Takes X Wi → PSs X e (tsOf X.K G Wi f)
/-- targets: is: the slots that may change -/
def tgOf (K : PySem.W.Frag) (G : Gs) (is : List Nat) (g : MG) : TG := fun v σ H Q => ∃ η S γ w η' S', EnvOk K G γ H η σ ∧ StoreOk K G γ H S ∧ Rep K G γ H w v ∧ g w η S = some (η', S') ∧
  ∀ σ' γ' H', Ext γ H γ' H' → EnvOk K G γ' H' η' σ' → StoreOk K G γ' H' S' → σ'.length = σ.length → (∀ i, i ∉ is → σ'[i]? = σ[i]?) → Q σ' H'
def tgsOf (K : PySem.W.Frag) (G : Gs) (is : List Nat) (g : MGs) : TGs := fun vs σ H Q => ∃ η S γ ws η' S', EnvOk K G γ H η σ ∧ StoreOk K G γ H S ∧ Reps K G γ H ws vs ∧ g ws η S = some (η', S') ∧
  ∀ σ' γ' H', Ext γ H γ' H' → EnvOk K G γ' H' η' σ' → StoreOk K G γ' H' S' → σ'.length = σ.length → (∀ i, i ∉ is → σ'[i]? = σ[i]?) → Q σ' H'
structure SG (X : Cx) (G : Gs) (e : Expr) (is : List Nat) (g : MG) : Prop where
  run : PG X e (tgOf X.K G is g)
structure SGs (X : Cx) (G : Gs) (e : List Expr) (is : List Nat) (g : MGs) : Prop where
  run : PGs X e (tgsOf X.K G is g)
theorem _root_.L2.PG.imp {X : Cx} {e : Expr} {t t' : TG} (h : PG X e t) (i : ∀ v σ H Q, t' v σ H Q → t v σ H Q) : PG X e t' := ⟨fun pins s σ H v u Q I r q => h.run pins s σ H v u Q I r (i _ _ _ _ q)⟩
theorem _root_.L2.PGs.imp {X : Cx} {e : List Expr} {t t' : TGs} (h : PGs X e t) (i : ∀ v σ H Q, t' v σ H Q → t v σ H Q) : PGs X e t' := ⟨fun pins s σ H v u Q I r q => h.run pins s σ H v u Q I r (i _ _ _ _ q)⟩
/-- what holds of the place where code stands -/
structure Cfg (X : Cx) : Prop where
  calm : X.calm = true
  nd : X.N.Nodup
  own : PassesOwn (model X.prog X.w) X.A X.env X.xe
  un : X.A.units + 100 < cLine
theorem EnvOk.set {K : PySem.W.Frag} {G : Gs} {γ : Ga} {H : Hp} {η : Env} {σ : L2.St} {w : W} {v : V} (he : EnvOk K G γ H η σ) (r : Rep K G γ H w v) (i : Nat) : EnvOk K G γ H (η.set i (some w)) (σ.set i (some v)) := by
  refine ⟨by rw [List.length_set, List.length_set]; exact he.1, fun j u hj => ?_⟩
  by_cases hij : i = j
  · subst hij
    have hlt : i < η.length := by
      have := (List.getElem?_eq_some_iff.mp hj).1
      rwa [List.length_set] at this
    rw [List.getElem?_set_self hlt] at hj
    cases hj
    exact ⟨v, by rw [List.getElem?_set_self (by rw [← he.1]; exact hlt)], r⟩
  · rw [List.getElem?_set_ne hij] at hj
    rw [List.getElem?_set_ne hij]
    exact he.2 j u hj
section
variable {X : Cx} {G : Gs} {x : Str} {pos p : Pos} {a b c e : Expr} {es rest : List Expr} {f h : ME} {g : MG} {gs : MGs} {ga : MA} {t : MT} {st : Stmt} {sts : List Stmt} {m n : MS} {is js : List Nat}
theorem sss_nil : SSs X G [] sNx := by
  refine ⟨fun Wi tk => pss_nil.imp ?_⟩
  rintro D σ H ⟨η, S, γ, he, hs, q⟩
  exact q σ γ H Ext.refl he hs
theorem sss_cons (h1 : SS X G st m) (h2 : SSs X G sts n) : SSs X G (st :: sts) (sSeq m n) := by
  refine ⟨fun Wi tk => (pss_cons (h1.run Wi tk) (h2.run Wi tk)).imp ?_⟩
  rintro D σ H ⟨η, S, γ, he, hs, q⟩
  exact ⟨η, S, γ, he, hs, PostS.next q⟩
theorem sss_one (h1 : SS X G st m) : SSs X G [st] m := ⟨fun Wi tk => pss_one (h1.run Wi tk)⟩
theorem sss_never : SSs X G sts sStuck := ⟨fun Wi tk => ⟨fun pins s σ H D I q => by
  obtain ⟨η, S, γ, he, hs, q⟩ := q
  exact q.elim⟩⟩
theorem ss_pass : SS X G (.Pass pos) sNx := by
  refine ⟨fun Wi tk => ps_pass.imp ?_⟩
  rintro D σ H ⟨η, S, γ, he, hs, q⟩
  exact q σ γ H Ext.refl he hs
theorem ss_break : SS X G (.Break pos) sBreak := by
  refine ⟨fun Wi tk => ps_break.imp ?_⟩
  rintro D σ H ⟨η, S, γ, he, hs, q⟩
  exact q σ γ H Ext.refl he hs
theorem ss_continue : SS X G (.Continue pos) sCont := by
  refine ⟨fun Wi tk => ps_continue.imp ?_⟩
  rintro D σ H ⟨η, S, γ, he, hs, q⟩
  exact q σ γ H Ext.refl he hs
theorem ss_expr (ha : SE X G a f) (hsw : swapsWith a none pos.line X.env = pure false := by rfl) : SS X G (.Expr a pos) (sDrop f) := by
  refine ⟨fun Wi tk => (ps_expr (ha.run Wi tk) hsw).imp ?_⟩
  rintro D σ H ⟨η, S, γ, he, hs, q⟩
  exact ⟨η, S, γ, he, hs, (PostS.expr he q).imp fun v H1 ⟨w, S1, γ1, e1, r1, s1, q1⟩ => q1 σ γ1 H1 Ext.refl (he.mono e1) s1⟩
theorem ss_ret (ha : SE X G a f) : SS X G (.Return (some a) pos) (sRet f) := by
  refine ⟨fun Wi tk => (ps_ret (ha.run Wi tk)).imp ?_⟩
  rintro D σ H ⟨η, S, γ, he, hs, q⟩
  exact ⟨η, S, γ, he, hs, (PostS.expr he q).imp fun v H1 ⟨w, S1, γ1, e1, r1, s1, q1⟩ => q1 v γ1 H1 Ext.refl r1 s1⟩
theorem ss_retN : SS X G (.Return none pos) sRetN := by
  refine ⟨fun Wi tk => ps_retN.imp ?_⟩
  rintro D σ H ⟨η, S, γ, he, hs, q⟩
  exact q _ γ H Ext.refl .non hs
theorem ss_set (i : Nat) (cf : Cfg X) (ha : SE X G a f) (hi : X.N[i]? = some x := by rfl) (hx : Loc X.env.scope x := by first | exact Or.inl rfl | exact Or.inr rfl) (hsw : swapsWith a (some (.Name x p)) pos.line X.env = pure false := by rfl)
    (hf : X.fn x = true ∨ X.env.scope.names.lookup x = some .local := by first | exact .inl rfl | exact .inr rfl) : SS X G (.Assign [.Name x p] a pos) (sSet i f) := by
  refine ⟨fun Wi tk => (ps_set cf.nd hi hx (ha.run Wi tk) hsw hf).imp ?_⟩
  rintro D σ H ⟨η, S, γ, he, hs, q⟩
  exact ⟨η, S, γ, he, hs, (PostS.expr he q).imp fun v H1 ⟨w, S1, γ1, e1, r1, s1, q1⟩ => q1 _ γ1 H1 Ext.refl ((he.mono e1).set r1 i) s1⟩
theorem ss_if (hc : ST X G c t) (h1 : SSs X G sts m) {sts' : List Stmt} (h2 : SSs X G sts' n) : SS X G (.If c sts sts' pos) (sIf t m n) := by
  refine ⟨fun Wi tk => (ps_if (hc.run Wi tk) (h1.run Wi tk) (h2.run Wi tk)).imp ?_⟩
  rintro D σ H ⟨η, S, γ, he, hs, q⟩
  refine ⟨η, S, γ, he, hs, (PostS.expr (rel := relB) he q).imp fun v H1 ⟨w, S1, γ1, e1, r1, s1, q1⟩ => ?_⟩
  cases r1
  cases v with
  | true => exact ⟨η, S1, γ1, he.mono e1, s1, q1⟩
  | false => exact ⟨η, S1, γ1, he.mono e1, s1, q1⟩
/-! targets -/
theorem sg_name (i : Nat) (cf : Cfg X) (hi : X.N[i]? = some x := by rfl) (hx : Loc X.env.scope x := by first | exact Or.inl rfl | exact Or.inr rfl)
    (hf : X.fn x = true ∨ X.env.scope.names.lookup x = some .local := by first | exact .inl rfl | exact .inr rfl) : SG X G (.Name x pos) [i] (gVar i) := by
  refine ⟨(pg_name cf.nd hi hx hf).imp ?_⟩
  rintro v σ H Q ⟨η, S, γ, w, η', S', he, hs, r, e, q⟩
  cases e
  exact q _ γ H Ext.refl (he.set r i) hs (by rw [List.length_set]) fun j hj => List.getElem?_set_ne (fun z => hj (by simp [z]))
theorem sgs_nil : SGs X G [] [] gsNil := by
  refine ⟨pgs_nil.imp ?_⟩
  rintro vs σ H Q ⟨η, S, γ, ws, η', S', he, hs, r, e, q⟩
  cases r with
  | nil =>
    cases e
    exact ⟨rfl, q _ γ H Ext.refl he hs rfl fun _ _ => rfl⟩
  | cons r t => cases e
theorem sgs_cons (h1 : SG X G a is g) (h2 : SGs X G es js gs) (hs : (assignEach (a :: es) X.env).map (·.2) = assign a X.env :: (assignEach es X.env).map (·.2) := by rfl) : SGs X G (a :: es) (is ++ js) (gsCons g gs) := by
  refine ⟨(pgs_cons h1.run h2.run hs).imp ?_⟩
  rintro vs σ H Q ⟨η, S, γ, ws, η', S', he, hst, r, e, q⟩
  cases r with
  | nil => cases e
  | @cons w v ws vs r t =>
    unfold gsCons at e
    simp only [Option.bind_eq_bind] at e
    cases eg : g w η S with
    | none =>
      rw [eg] at e
      cases e
    | some p =>
      obtain ⟨η1, S1⟩ := p
      rw [eg] at e
      have e : gs ws η1 S1 = some (η', S') := e
      refine ⟨v, vs, rfl, η, S, γ, w, η1, S1, he, hst, r, eg, fun σ1 γ1 H1 e1 he1 hs1 hl1 hn1 => ?_⟩
      refine ⟨η1, S1, γ1, ws, η', S', he1, hs1, t.mono e1, e, fun σ2 γ2 H2 e2 he2 hs2 hl2 hn2 => ?_⟩
      exact q σ2 γ2 H2 (e1.trans e2) he2 hs2 (hl2.trans hl1) fun i hi => by
        rw [List.mem_append, not_or] at hi
        exact (hn2 i hi.2).trans (hn1 i hi.1)
theorem gs_len {X : Cx} {G : Gs} : True := trivial
theorem sg_tup {k : Nat} (nn : Nat) (cf : Cfg X) (h : SGs X G es is gs) (hn : (assignEach es X.env).length = nn := by rfl) (hst : (assignEach es X.env).findIdx? (·.1) = none := by rfl) (hl : ∀ ws η S r, gs ws η S = some r → ws.length = nn := by intro ws η S r z; first | (match ws, z with | [_, _], _ => rfl) | (match ws, z with | [_, _, _], _ => rfl)) : SG X G (.Tuple es k pos) is (gTupW gs) := by
  refine ⟨(pg_tup cf.calm h.run hn hst).imp ?_⟩
  rintro v σ H Q ⟨η, S, γ, w, η', S', he, hs, r, e, q⟩
  cases r with
  | tup f t =>
    have e : gs _ η S = some (η', S') := e
    refine ⟨_, _, rfl, f.sq, ?_, η, S, γ, _, η', S', he, hs, t, e, q⟩
    rw [← t.length]
    exact hl _ _ _ _ e
  | _ => cases e
theorem setAt_sound {K : PySem.W.Frag} {γ : Ga} {H : Hp} {S S' : Store} {o i w : W} {ov iv v : V} {Q : Hp → Prop} (s : StoreOk K G γ H S) (ro : Rep K G γ H o ov) (ri : Rep K G γ H i iv) (r : Rep K G γ H w v) (e : setAt o i w S = some S')
    (q : ∀ H', Ext γ H γ H' → StoreOk K G γ H' S' → Q H') : rSetL ov iv v H Q := by
  unfold setAt at e
  split at e
  · rename_i rr k
    cases ri
    cases ro with
    | @ref _ a ha =>
    split at e
    · rename_i xs hc
      obtain ⟨px, vs, hv, qv⟩ := s.cell _ _ a hc ha
      have hl := qv.length
      have pset : ∀ (xs : List W) (j : Nat), pures xs = true → w.pure = true → pures (xs.set j w) = true := by
        intro xs
        induction xs with
        | nil => intro j h1 h2; rfl
        | cons y ys ih =>
          intro j h1 h2
          rw [pures, Bool.and_eq_true] at h1
          cases j with
          | zero => rw [List.set_cons_zero, pures, h2, h1.2]; rfl
          | succ j => rw [List.set_cons_succ, pures, h1.1, ih j h1.2 h2]; rfl
      split at e
      · rename_i hk
        split at e
        · rename_i pw
          cases e
          obtain ⟨x1, x2⟩ := s.write hc ha (pset xs k.toNat px pw) (Reps.set r k.toNat qv)
          refine ⟨a, vs, k, k.toNat, rfl, rfl, hv, ?_, q _ x1 x2⟩
          unfold ixN
          rw [if_pos hk.1, if_pos (by rw [← hl]; exact hk.2)]
        · cases e
      · split at e
        · rename_i hk
          split at e
          · rename_i pw
            cases e
            obtain ⟨x1, x2⟩ := s.write hc ha (pset xs (k + xs.length).toNat px pw) (Reps.set r (k + xs.length).toNat qv)
            refine ⟨a, vs, k, (k + xs.length).toNat, rfl, rfl, hv, ?_, q _ x1 x2⟩
            unfold ixN
            rw [if_neg (by omega), if_pos (by rw [← hl]; exact hk.2), hl]
          · cases e
        · cases e
    · cases e
  · cases e
theorem sg_idx {fo fi : ME} (ho : SE X G a fo) (hi : SE X G b fi) (ha : ∀ v, assign (.Subscript a b pos) X.env v = (do
      let ov ← holding [v] (eval a X.env)
      let iv ← holding [v, ov] (eval b X.env)
      standAt pos
      holding [v, ov, iv] (setItem ov iv v)
      release [v, ov, iv] []) := by intro _; rfl) : SG X G (.Subscript a b pos) [] (gIdx fo fi) := by
  refine ⟨(pg_sub (ho.run (fun _ _ _ _ => False) takes0) (hi.run (fun _ _ _ _ => False) takes0) set_list ha).imp ?_⟩
  rintro v σ H Q ⟨η, S, γ, w, η', S', he, hs, r, e, q⟩
  unfold gIdx at e
  cases e1 : fo η S with
  | ok ow S1 =>
    rw [e1] at e
    refine ⟨η, S, γ, he, hs, ?_⟩
    rw [e1]
    intro ov γ1 H1 x1 ro s1
    cases e2 : fi η S1 with
    | ok iw S2 =>
      simp only [e2] at e
      refine ⟨η, S1, γ1, he.mono x1, s1, ?_⟩
      rw [e2]
      intro iv γ2 H2 x2 ri s2
      cases e3 : setAt ow iw w S2 with
      | none =>
        rw [e3] at e
        cases e
      | some S3 =>
        rw [e3] at e
        cases e
        exact setAt_sound s2 (ro.mono x2) ri ((r.mono x1).mono x2) e3 fun H3 x3 s3 => q σ γ2 H3 ((x1.trans x2).trans x3) (((he.mono x1).mono x2).mono x3) s3 rfl fun _ _ => rfl
    | exc c x S2 => simp only [e2] at e; cases e
    | stuck => simp only [e2] at e; cases e
  | exc c x S2 => rw [e1] at e; cases e
  | stuck => rw [e1] at e; cases e
/-- target = e -/
theorem ss_asg (ha : SE X G a f) (hg : SG X G b is g) (hs : swapsWithSole [b] a pos.line X.env = pure false := by rfl) (hw : swappedStores [b] a X.env = pure none := by rfl)
    (h1 : (assignEach [b] X.env).map (·.2) = [assign b X.env] := by rfl) : SS X G (.Assign [b] a pos) (sAsg f g) := by
  refine ⟨fun Wi tk => (ps_asg (ha.run Wi tk) hg.run hs hw h1).imp ?_⟩
  rintro D σ H ⟨η, S, γ, he, hs, q⟩
  refine ⟨η, S, γ, he, hs, (PostS.expr he q).imp fun v H1 ⟨w, S1, γ1, e1, r1, s1, q1⟩ => ?_⟩
  unfold optS at q1
  cases eg : g w η S1 with
  | none =>
    rw [eg] at q1
    exact q1.elim
  | some z =>
    obtain ⟨η', S'⟩ := z
    rw [eg] at q1
    exact ⟨η, S1, γ1, w, η', S', he.mono e1, s1, r1, eg, fun σ' γ' H' x he' s' _ _ => q1 σ' γ' H' x he' s'⟩
/-- a, b = x, y: plain names -/
def sPar (i j : Nat) (g : MA) : MS := fun η S => (g η S).toS η fun ws S1 => match ws with
  | [w, u] => .nx ((η.set i (some w)).set j (some u)) S1
  | _ => .stuck
theorem ss_par {x y : Str} {px py pt : Pos} {kt k2 pt2} (i j : Nat) (cf : Cfg X) (ha : SA X G [a, b] ga) (hi : X.N[i]? = some x := by rfl) (hj : X.N[j]? = some y := by rfl) (hij : i ≠ j := by decide)
    (hx : X.env.scope.names.lookup x = some .local := by rfl) (hy : X.env.scope.names.lookup y = some .local := by rfl) 
    (hw : swappedStores [.Tuple [.Name x px, .Name y py] kt pt] (.Tuple [a, b] k2 pt2) X.env = pure (some [x, y]) := by rfl)
    (hs : swapsWithSole [.Tuple [.Name x px, .Name y py] kt pt] (.Tuple [a, b] k2 pt2) pos.line X.env = pure false := by rfl) : SS X G (.Assign [.Tuple [.Name x px, .Name y py] kt pt] (.Tuple [a, b] k2 pt2) pos) (sPar i j ga) := by
  refine ⟨fun Wi tk => (ps_par cf.calm cf.nd hi hj hij hx hy (ha.run Wi tk) hw hs).imp ?_⟩
  rintro D σ H ⟨η, S, γ, he, hs, q⟩
  refine ⟨η, S, γ, he, hs, (PostS.expr he q).imp fun v H1 ⟨w, S1, γ1, e1, r1, s1, q1⟩ => ?_⟩
  split at q1
  · cases r1 with
    | cons r r1 =>
      cases r1 with
      | cons r' r1 =>
        cases r1
        exact ⟨_, _, rfl, q1 _ γ1 H1 Ext.refl (((he.mono e1).set r i).set r' j) s1⟩
  · exact q1.elim
def sPar3 (i j l : Nat) (g : MA) : MS := fun η S => (g η S).toS η fun ws S1 => match ws with
  | [w, u, z] => .nx (((η.set i (some w)).set j (some u)).set l (some z)) S1
  | _ => .stuck
end
end Mp

set_option Elab.async false
set_option linter.all false
set_option maxRecDepth 100000
set_option maxHeartbeats 4000000
/-! Mp: what is walked; for, while, comprehensions. -/
namespace Mp
open PySem PySem.Spec PyProof.Rows L2
/-- an iterator that gives the items xs, from γ0, H0 on -/
structure ItOk (K : PySem.W.Frag) (G : Gs) (J : It) (xs : List W) (γ0 : Ga) (H0 : Hp) : Prop where
  go : ∀ (i : Nat) γ H S, i < xs.length → ExtW γ0 H0 γ H → StoreOk K G γ H S → J.go i H
  stop : ∀ γ H S, ExtW γ0 H0 γ H → StoreOk K G γ H S → J.stop xs.length H
  yld : ∀ (i : Nat) (w : W) γ H S x H', xs[i]? = some w → ExtW γ0 H0 γ H → StoreOk K G γ H S → J.yld i H x H' → Ext γ H γ H' ∧ StoreOk K G γ H' S ∧ Rep K G γ H' w x
def PostI (K : PySem.W.Frag) (G : Gs) (wx : Wx) (γ : Ga) (H : Hp) (r : R (List W)) (Q : It → Hp → Prop) : Prop := match r with
  | .ok xs S' => ∀ J γ' H', Ext γ H γ' H' → StoreOk K G γ' H' S' → ItOk K G J xs γ' H' → Q J H'
  | .exc c x S' => ∀ v d γ' H', Ext γ H γ' H' → Rep K G γ' H' x v → StoreOk K G γ' H' S' → H' d = some (.xd [(G.nm c, v)]) → γ'.Off d → wx (.ref (G.ca c)) (some d) H'
  | .stuck => False
def tiOf (K : PySem.W.Frag) (G : Gs) (Wi : WX) (f : MI) : TI := fun σ H R => ∃ η S γ, EnvOk K G γ H η σ ∧ StoreOk K G γ H S ∧ PostI K G (fun c d H' => Wi c d σ H') γ H (f η S) R
structure SI (X : Cx) (G : Gs) (tg it : Expr) (f : MI) : Prop where
  run : ∀ Wi, Takes X Wi → PI X tg it (tiOf X.K G Wi f)
theorem _root_.L2.PI.imp {X : Cx} {tg e : Expr} {t t' : TI} (h : PI X tg e t) (i : ∀ σ H R, t' σ H R → t σ H R) : PI X tg e t' := ⟨fun pins s σ H R I q => h.run pins s σ H R I (i _ _ _ q)⟩
theorem _root_.L2.PI.or {X : Cx} {tg e : Expr} {t t' : TI} (h : PI X tg e t) (h' : PI X tg e t') : PI X tg e (fun σ H R => t σ H R ∨ t' σ H R) := ⟨fun pins s σ H R I q => q.elim (h.run pins s σ H R I) (h'.run pins s σ H R I)⟩
theorem PostI.base {K : PySem.W.Frag} {G : Gs} {wx : Wx} {γ γ1 : Ga} {H H1 : Hp} {r : R (List W)} {Q : It → Hp → Prop} (e : Ext γ H γ1 H1) (h : PostI K G wx γ H r Q) : PostI K G wx γ1 H1 r Q := by
  cases r with
  | ok w S' => exact fun J γ' H' e' s i => h J γ' H' (e.trans e') s i
  | exc c x S' => exact fun v d γ' H' e' q s hd ho => h v d γ' H' (e.trans e') q s hd ho
  | stuck => exact h
theorem PostI.seq {K : PySem.W.Frag} {G : Gs} {wx : Wx} {γ : Ga} {H : Hp} {α β : Type} {rel : Rel α β} {r : R α} {k : α → Store → R (List W)} {Q : It → Hp → Prop} (h : PostI K G wx γ H (r.bind k) Q) :
    Post K G rel wx γ H r fun v H1 => ∃ w S1 γ1, Ext γ H γ1 H1 ∧ rel γ1 H1 w v ∧ StoreOk K G γ1 H1 S1 ∧ PostI K G wx γ1 H1 (k w S1) Q := by
  cases r with
  | ok w S' => exact fun v γ' H' e q s => ⟨w, S', γ', e, q, s, PostI.base e h⟩
  | exc c x S' => exact h
  | stuck => exact h
/-- the items of a list, a tuple, a text -/
def seqI : W → Option (List W)
  | .lst xs => some xs
  | .scr xs => some xs
  | .tup xs => some xs
  | .str s => some (s.map fun c => .str [c])
  | _ => none
def miSeq (f : ME) : MI := fun η S => (f η S).bind fun w S1 => rOpt (seqI w) S1
section
variable {K : PySem.W.Frag} {G : Gs} {γ : Ga} {H : Hp} {S : Store}
theorem itOk_list {a : Addr} {xs : List W} {vs : List V} (st : ∀ {γ' H'}, ExtW γ H γ' H' → SqL K H' a vs) (q : Reps K G γ H xs vs) : ItOk K G (Itl K a) xs γ H := by
  refine ⟨fun i γ' H' S hi e _ => ?_, fun γ' H' S e _ => ⟨vs, st e, Nat.le_of_eq q.length.symm⟩, fun i w γ' H' S x H'' hw e s y => ?_⟩
  · have hl : i < vs.length := by rw [← q.length]; exact hi
    exact ⟨vs, vs[i], st e, List.getElem?_eq_getElem hl⟩
  · obtain ⟨e1, y⟩ := y
    subst e1
    obtain ⟨v, hv, r⟩ := q.get hw
    have z := y vs (st e)
    rw [hv] at z
    cases z
    exact ⟨Ext.refl, s, r.monoW e⟩
theorem itOk_tup {a : Addr} {xs : List W} {vs : List V} (h : FrT K γ H a vs) (q : Reps K G γ H xs vs) : ItOk K G (Itt K a) xs γ H := by
  have st : ∀ {γ' H'}, ExtW γ H γ' H' → SqT K H' a vs := fun e => (h.monoW e).sq
  refine ⟨fun i γ' H' S hi e _ => ?_, fun γ' H' S e _ => ⟨vs, st e, Nat.le_of_eq q.length.symm⟩, fun i w γ' H' S x H'' hw e s y => ?_⟩
  · have hl : i < vs.length := by rw [← q.length]; exact hi
    exact ⟨vs, vs[i], st e, List.getElem?_eq_getElem hl⟩
  · obtain ⟨e1, y⟩ := y
    subst e1
    obtain ⟨v, hv, r⟩ := q.get hw
    have z := y vs (st e)
    rw [hv] at z
    cases z
    exact ⟨Ext.refl, s, r.monoW e⟩
theorem itOk_str {l : List Nat} (h1 : ∀ c ∈ l, c < 0x110000) : ItOk K G (Its ⟨l.toArray⟩) (l.map fun c => .str [c]) γ H := by
  refine ⟨fun i γ' H' S hi e _ => ?_, fun γ' H' S e _ => ?_, fun i w γ' H' S x H'' hw e s y => ?_⟩
  · rw [List.length_map] at hi
    show i < l.toArray.size
    simpa using hi
  · rw [List.length_map]
    show l.toArray.size ≤ l.length
    simp
  · obtain ⟨e1, c, hc, rfl⟩ := y
    subst e1
    have hc' : l[i]? = some c := by simpa using hc
    rw [List.getElem?_map, hc'] at hw
    cases hw
    refine ⟨Ext.refl, s, .str [c] (fun d hd => ?_) (by rw [sizeLine_eq]; show 1 ≤ 16777216; decide)⟩
    have : d = c := by simpa using hd
    rw [this]
    exact h1 c (List.mem_of_getElem? hc')
theorem itOk_range {lo : Int} {n : Nat} : ItOk K G (Itr lo n) ((List.range n).map fun (i : Nat) => W.int (lo + i)) γ H := by
  refine ⟨fun i γ' H' S hi e _ => ?_, fun γ' H' S e _ => ?_, fun i w γ' H' S x H'' hw e s y => ?_⟩
  · rw [List.length_map, List.length_range] at hi
    exact hi
  · rw [List.length_map, List.length_range]
    exact Nat.le_refl n
  · obtain ⟨e1, rfl⟩ := y
    subst e1
    rw [List.getElem?_map] at hw
    by_cases hi : i < n
    · rw [List.getElem?_range hi] at hw
      cases hw
      exact ⟨Ext.refl, s, .int _⟩
    · rw [List.getElem?_eq_none (by rw [List.length_range]; omega)] at hw
      cases hw
end
section
variable {X : Cx} {G : Gs} {tg a b e : Expr} {pos p : Pos} {f h : ME} {g : MG} {ga : MA} {t : MT} {m : MS} {it : MI} {is own : List Nat}
theorem si_seq (ha : SE X G a f) : SI X G tg a (miSeq f) := by
  refine ⟨fun Wi tk => (PI.or (pi_list (ha.run Wi tk)) (PI.or (pi_tup (ha.run Wi tk)) (pi_str (ha.run Wi tk)))).imp ?_⟩
  rintro σ H R ⟨η, S, γ, he, hs, q⟩
  have key : Post X.K G (Rep X.K G) (fun c d H' => Wi c d σ H') γ H (f η S) (fun v H1 => ∃ w S1 γ1, Ext γ H γ1 H1 ∧ Rep X.K G γ1 H1 w v ∧ StoreOk X.K G γ1 H1 S1 ∧ PostI X.K G (fun c d H' => Wi c d σ H') γ1 H1 (rOpt (seqI w) S1) R) := PostI.seq q
  cases ef : f η S with
  | ok w S1 =>
    rw [ef] at key
    cases w with
    | lst xs =>
      refine .inl ⟨η, S, γ, he, hs, ?_⟩
      rw [ef]
      intro v γ1 H1 e1 r1 s1
      have q' : PostI X.K G (fun c d H' => Wi c d σ H') γ H ((f η S).bind fun w S1 => rOpt (seqI w) S1) R := q
      rw [ef] at q'
      cases r1 with
      | lst h1 o1 q1 => exact ⟨_, rfl, ⟨_, SqL.of h1⟩, q' _ γ1 H1 e1 s1 (itOk_list (fun e => .inl (e.rd (.inl h1) o1).1) q1)⟩
    | scr xs =>
      refine .inl ⟨η, S, γ, he, hs, ?_⟩
      rw [ef]
      intro v γ1 H1 e1 r1 s1
      have q' : PostI X.K G (fun c d H' => Wi c d σ H') γ H ((f η S).bind fun w S1 => rOpt (seqI w) S1) R := q
      rw [ef] at q'
      cases r1 with
      | scr h1 q1 => exact ⟨_, rfl, ⟨_, h1.sq⟩, q' _ γ1 H1 e1 s1 (itOk_list (fun e => (h1.monoW e).sq) q1)⟩
    | tup xs =>
      refine .inr (.inl ⟨η, S, γ, he, hs, ?_⟩)
      rw [ef]
      intro v γ1 H1 e1 r1 s1
      have q' : PostI X.K G (fun c d H' => Wi c d σ H') γ H ((f η S).bind fun w S1 => rOpt (seqI w) S1) R := q
      rw [ef] at q'
      cases r1 with
      | tup h1 q1 => exact ⟨_, rfl, ⟨_, h1.sq⟩, q' _ γ1 H1 e1 s1 (itOk_tup h1 q1)⟩
    | str l =>
      refine .inr (.inr ⟨η, S, γ, he, hs, ?_⟩)
      rw [ef]
      intro v γ1 H1 e1 r1 s1
      have q' : PostI X.K G (fun c d H' => Wi c d σ H') γ H ((f η S).bind fun w S1 => rOpt (seqI w) S1) R := q
      rw [ef] at q'
      cases r1 with
      | str _ h1 h2 => exact ⟨_, rfl, q' _ γ1 H1 e1 s1 (itOk_str h1)⟩
    | _ =>
      exfalso
      have q' : PostI X.K G (fun c d H' => Wi c d σ H') γ H ((f η S).bind fun w S1 => rOpt (seqI w) S1) R := q
      rw [ef] at q'
      exact q'
  | exc c x S1 =>
    refine .inl ⟨η, S, γ, he, hs, ?_⟩
    have q' : PostI X.K G (fun c d H' => Wi c d σ H') γ H ((f η S).bind fun w S1 => rOpt (seqI w) S1) R := q
    rw [ef] at q' ⊢
    exact q'
  | stuck =>
    exfalso
    have q' : PostI X.K G (fun c d H' => Wi c d σ H') γ H ((f η S).bind fun w S1 => rOpt (seqI w) S1) R := q
    rw [ef] at q'
    exact q'
def rangeW (lo : Int) (n : Nat) : List W := (List.range n).map fun (i : Nat) => W.int (lo + i)
def rng1 : List W → Option (List W)
  | [.int j] => if -4611686018427387904 ≤ j ∧ j < 4611686018427387904 then some (rangeW 0 j.toNat) else none
  | _ => none
def rng2 : List W → Option (List W)
  | [.int i, .int j] => if -4611686018427387904 ≤ i ∧ i < 4611686018427387904 ∧ -4611686018427387904 ≤ j ∧ j < 4611686018427387904 then some (rangeW i (j - i).toNat) else none
  | _ => none
def miRng (o : List W → Option (List W)) (ga : MA) : MI := fun η S => (ga η S).bind fun ws S1 => rOpt (o ws) S1
theorem si_range1 (hm : X.mg "range" = none) (ha : SA X G [a] ga) (hg : Gl X "range" := by rfl) (hs : starEach [a] X.env = [(false, eval a X.env)] := by rfl) : SI X G tg (.Call (.Name "range" p) [a] [] pos) (miRng rng1 ga) := by
  refine ⟨fun Wi tk => (pi_range1 hg hm (ha.run Wi tk) hs).imp ?_⟩
  rintro σ H R ⟨η, S, γ, he, hs, q⟩
  refine ⟨η, S, γ, he, hs, (PostI.seq q).imp fun x H1 ⟨wx, S1, γ1, e1, r1, s1, q1⟩ => ?_⟩
  unfold rng1 at q1
  split at q1
  · split at q1
    · rename_i hj
      cases r1 with
      | cons r r1 =>
        cases r1
        cases r
        exact ⟨_, rfl, by omega, by omega, q1 _ γ1 H1 Ext.refl s1 itOk_range⟩
    · exact q1.elim
  · exact q1.elim
theorem si_range2 (hm : X.mg "range" = none) (ha : SA X G [a, b] ga) (hg : Gl X "range" := by rfl) (hs : starEach [a, b] X.env = [(false, eval a X.env), (false, eval b X.env)] := by rfl) (hs2 : starEach [b] X.env = [(false, eval b X.env)] := by rfl) :
    SI X G tg (.Call (.Name "range" p) [a, b] [] pos) (miRng rng2 ga) := by
  refine ⟨fun Wi tk => (pi_range2 hg hm (ha.run Wi tk) hs hs2).imp ?_⟩
  rintro σ H R ⟨η, S, γ, he, hs, q⟩
  refine ⟨η, S, γ, he, hs, (PostI.seq q).imp fun x H1 ⟨wx, S1, γ1, e1, r1, s1, q1⟩ => ?_⟩
  unfold rng2 at q1
  split at q1
  · split at q1
    · rename_i hj
      cases r1 with
      | cons r r1 =>
        cases r1 with
        | cons r' r1 =>
          cases r1
          cases r
          cases r'
          exact ⟨_, _, rfl, ⟨by omega, by omega, by omega, by omega⟩, q1 _ γ1 H1 Ext.refl s1 itOk_range⟩
    · exact q1.elim
  · exact q1.elim
/-! loops -/
theorem postS_turn {K : PySem.W.Frag} {Wi : WX} {γ : Ga} {H : Hp} {D : Ends} {r : RS} {k : MS} {N : L2.St → Hp → Prop}
    (hN : ∀ η2 S2 γ2 σ2 H2, EnvOk K G γ2 H2 η2 σ2 → StoreOk K G γ2 H2 S2 → Ext γ H γ2 H2 → PostS K G Wi γ2 H2 (k η2 S2) D → N σ2 H2)
    (h : PostS K G Wi γ H (match r with
      | .nx η2 S2 => k η2 S2
      | .ct η2 S2 => k η2 S2
      | .bk η2 S2 => .nx η2 S2
      | r => r) D) : PostS K G Wi γ H r { D with nx := N, ct := N, bk := D.nx } := by
  cases r with
  | nx η' S' => exact fun σ' γ' H' e q s => hN η' S' γ' σ' H' q s e (PostS.base e h)
  | bk η' S' => exact h
  | ct η' S' => exact fun σ' γ' H' e q s => hN η' S' γ' σ' H' q s e (PostS.base e h)
  | ret w S' => exact h
  | exc c x η' S' => exact h
  | stuck => exact h
theorem for_turns {K : PySem.W.Frag} {Wi : WX} {γ0 : Ga} {H0 : Hp} {J : It} {xs : List W} {D : Ends} {η0 : Env} {S0 : Store} {σ0 : L2.St} (ok : ItOk K G J xs γ0 H0) (he : EnvOk K G γ0 H0 η0 σ0) (hs : StoreOk K G γ0 H0 S0)
    (h : PostS K G Wi γ0 H0 (forL g m xs η0 S0) D) : ∃ Wv : Nat → Nat → L2.St → Hp → Prop, (∃ k, Wv 0 k σ0 H0) ∧ ∀ i k σ H, Wv i k σ H →
      (J.stop i H ∧ D.nx σ H) ∨ (J.go i H ∧ ∃ N : L2.St → Hp → Prop, (∀ σ' H', N σ' H' → ∃ k', k' < k ∧ Wv (i + 1) k' σ' H') ∧ ∀ x H', J.yld i H x H' → tgOf K G is g x σ H' fun σ2 H2 => tsOf K G Wi m { D with nx := N, ct := N, bk := D.nx } σ2 H2) := by
  refine ⟨fun i k σ H => k = xs.length - i ∧ i ≤ xs.length ∧ ∃ η S γ, EnvOk K G γ H η σ ∧ StoreOk K G γ H S ∧ Ext γ0 H0 γ H ∧ PostS K G Wi γ H (forL g m (xs.drop i) η S) D, ⟨xs.length, rfl, Nat.zero_le _, η0, S0, γ0, he, hs, Ext.refl, h⟩, ?_⟩
  rintro i k σ H ⟨rfl, hi, η, S, γ, he, hs, ex, q⟩
  by_cases hlt : i < xs.length
  · refine .inr ⟨ok.go i γ H S hlt ex.w hs, _, fun σ' H' z => ⟨xs.length - (i + 1), by omega, z⟩, fun x H' y => ?_⟩
    obtain ⟨e1, s1, r1⟩ := ok.yld i xs[i] γ H S x H' (List.getElem?_eq_getElem hlt) ex.w hs y
    rw [List.drop_eq_getElem_cons hlt] at q
    unfold forL at q
    cases eg : g xs[i] η S with
    | none =>
      rw [eg] at q
      exact q.elim
    | some z =>
      obtain ⟨η1, S1⟩ := z
      rw [eg] at q
      refine ⟨η, S, γ, xs[i], η1, S1, he.mono e1, s1, r1, eg, fun σ2 γ2 H2 e2 he2 s2 _ _ => ⟨η1, S1, γ2, he2, s2, ?_⟩⟩
      refine postS_turn (k := forL g m (xs.drop (i + 1))) (fun η3 S3 γ3 σ3 H3 he3 s3 e3 q3 => ⟨rfl, hlt, η3, S3, γ3, he3, s3, ((ex.trans e1).trans e2).trans e3, q3⟩) (PostS.base (e1.trans e2) q)
  · have e : i = xs.length := by omega
    subst e
    rw [List.drop_length] at q
    exact .inl ⟨ok.stop γ H S ex.w hs, q σ γ H Ext.refl he hs⟩
theorem ss_for {sts : List Stmt} (cf : Cfg X) (hi : SI X G tg a it) (hg : SG X G tg is g) (hb : SSs X G sts m) (hs : ∀ x, foldedSetIterable a X.env x = pure x := by intro _; rfl) : SS X G (.For tg a sts [] pos) (sFor it g m) := by
  refine ⟨fun Wi tk => (ps_for cf.own cf.calm (hi.run Wi tk) hg.run (hb.run Wi tk) hs).imp ?_⟩
  rintro D σ H ⟨η, S, γ, he, hs, q⟩
  refine ⟨η, S, γ, he, hs, ?_⟩
  have q : PostS X.K G Wi γ H ((it η S).toS η fun xs S1 => forL g m xs η S1) D := q
  cases ei : it η S with
  | ok xs S1 =>
    rw [ei] at q
    intro J γ1 H1 e1 s1 ok
    exact for_turns ok (he.mono e1) s1 (PostS.base e1 q)
  | exc c x S1 =>
    rw [ei] at q
    exact fun v d γ' H' e r s hd => q v d σ γ' H' e (he.mono e) r s hd
  | stuck =>
    rw [ei] at q
    exact q.elim
theorem ss_while {sts : List Stmt} (n : Nat) (cf : Cfg X) (hc : ST X G a t) (hb : SSs X G sts m) : SS X G (.While a sts [] pos) (sWhile n t m) := by
  refine ⟨fun Wi tk => (ps_while cf.own (hc.run Wi tk) (hb.run Wi tk)).imp ?_⟩
  rintro D σ H ⟨η, S, γ, he, hs, q⟩
  refine ⟨fun k σ H => ∃ η S γ, EnvOk X.K G γ H η σ ∧ StoreOk X.K G γ H S ∧ PostS X.K G Wi γ H (whileL t m k η S) D, ⟨n, η, S, γ, he, hs, q⟩, ?_⟩
  rintro k σ H ⟨η, S, γ, he, hs, q⟩
  cases k with
  | zero => exact q.elim
  | succ k =>
    unfold whileL at q
    refine ⟨η, S, γ, he, hs, (PostS.expr (rel := relB) he q).imp fun v H1 ⟨w, S1, γ1, e1, r1, s1, q1⟩ => ?_⟩
    cases r1
    cases v with
    | true => exact ⟨_, fun σ' H' z => ⟨k, Nat.lt_succ_self k, z⟩, η, S1, γ1, he.mono e1, s1, postS_turn (k := whileL t m k) (fun η3 S3 γ3 σ3 H3 he3 s3 e3 q3 => ⟨η3, S3, γ3, he3, s3, q3⟩) q1⟩
    | false => exact q1 σ γ1 H1 Ext.refl (he.mono e1) s1
end
/-! comprehensions -/
section
variable {K : PySem.W.Frag} {G : Gs} {γ : Ga} {H : Hp} {S : Store} {D : Addr} {o : HO}
theorem Ga.Off.ne {a : Addr} (z : γ.Off a) (h : D ∈ γ.β) : a ≠ D := fun e => z.2 (by rw [e]; exact h)
mutual
theorem Rep.busy (h : D ∈ γ.β) (n : D ∉ γ.ρ) : ∀ {w : W} {v : V}, Rep K G γ H w v → Rep K G γ (upd H D o) w v
  | _, _, .non => .non
  | _, _, .bl b => .bl b
  | _, _, .int i => .int i
  | _, _, .str s h1 h2 => .str s h1 h2
  | _, _, .tup f r => .tup (by
      rcases f with ⟨f, z⟩ | f
      · have ne : ∀ {a : Addr}, γ.Off a → a ≠ D := fun z e => z.2 (e ▸ h)
        refine .inl ⟨?_, z⟩
        rcases f with f | ⟨ob, f⟩
        · exact .inl (by rw [upd_ne (z.ne h)]; exact f)
        · exact .inr ⟨ob, by rw [upd_ne (z.ne h)]; exact f⟩
      · exact .inr f) (Reps.busy h n r)
  | _, _, .lst f z r => .lst (by rw [upd_ne (z.ne h)]; exact f) z (Reps.busy h n r)
  | _, _, .scr f r => .scr (by
      rcases f with ⟨⟨ob, f⟩, z⟩ | f
      · exact .inl ⟨⟨ob, by rw [upd_ne (z.ne h)]; exact f⟩, z⟩
      · exact .inr f) (Reps.busy h n r)
  | _, _, .ref f => .ref f
  | _, _, .fn f => .fn f
  | _, _, .dct d z r => .dct (d.keep fun ob f => by rw [upd_ne (z.ne h)]; exact f) z (Reps.busy h n r)
  | _, _, .exc f z r => .exc (by rw [upd_ne (z.ne h)]; exact f) z (Rep.busy h n r)
theorem Reps.busy (h : D ∈ γ.β) (n : D ∉ γ.ρ) : ∀ {w : List W} {v : List V}, Reps K G γ H w v → Reps K G γ (upd H D o) w v
  | _, _, .nil => .nil
  | _, _, .cons r t => .cons (Rep.busy h n r) (Reps.busy h n t)
end
mutual
theorem Rep.shrink {γ' : Ga} (hρ : γ'.ρ = γ.ρ) (f : ∀ a o, H a = some o → γ.Off a → γ'.Off a) : ∀ {w : W} {v : V}, Rep K G γ H w v → Rep K G γ' H w v
  | _, _, .non => .non
  | _, _, .bl b => .bl b
  | _, _, .int i => .int i
  | _, _, .str s h1 h2 => .str s h1 h2
  | _, _, .tup h r => .tup (by
      rcases h with ⟨h, q⟩ | h
      · refine .inl ⟨h, ?_⟩
        rcases h with h | ⟨o, h⟩
        · exact f _ _ h q
        · exact f _ _ h q
      · exact .inr h) (Reps.shrink hρ f r)
  | _, _, .lst h q r => .lst h (f _ _ h q) (Reps.shrink hρ f r)
  | _, _, .scr h r => .scr (by
      rcases h with ⟨⟨o, h⟩, q⟩ | h
      · exact .inl ⟨⟨o, h⟩, f _ _ h q⟩
      · exact .inr h) (Reps.shrink hρ f r)
  | _, _, .ref h => .ref (by rw [hρ]; exact h)
  | _, _, .fn f => .fn f
  | _, _, .dct d q r => .dct d (f _ _ d.some.choose_spec q) (Reps.shrink hρ f r)
  | _, _, .exc h q r => .exc h (f _ _ h q) (Rep.shrink hρ f r)
theorem Reps.shrink {γ' : Ga} (hρ : γ'.ρ = γ.ρ) (f : ∀ a o, H a = some o → γ.Off a → γ'.Off a) : ∀ {ws : List W} {vs : List V}, Reps K G γ H ws vs → Reps K G γ' H ws vs
  | _, _, .nil => .nil
  | _, _, .cons r t => .cons (Rep.shrink hρ f r) (Reps.shrink hρ f t)
end
theorem StoreOk.busy {o : HO} (s : StoreOk K G γ H S) (h : D ∈ γ.β) (nt : ∀ xs, o ≠ .tup xs := by intro _ z; cases z) : StoreOk K G γ (L2.upd H D o) S := by
  have n := (s.bt D h).1
  refine ⟨s.len, s.nd, fun i c a hc ha => ?_, fun a ha => ⟨(s.bt a ha).1, ?_⟩⟩
  · have q := s.cell i c a hc ha
    have ne : a ≠ D := fun e => n (e ▸ List.mem_of_getElem? ha)
    cases c with
    | lst ys =>
      obtain ⟨p1, us, hv, r'⟩ := q
      exact ⟨p1, us, by rw [upd_ne ne]; exact hv, Reps.busy h n r'⟩
    | dct _ _ => exact q.to (fun ob f => by rw [upd_ne ne]; exact f) fun _ r => Reps.busy h n r
    | ins _ _ => exact q.elim
  · by_cases z : a = D
    · exact ⟨o, by rw [z]; exact upd_same, nt⟩
    · obtain ⟨u, q, n2⟩ := (s.bt a ha).2
      exact ⟨u, by rw [upd_ne z]; exact q, n2⟩
theorem wipe_same {σ σ' : L2.St} : ∀ {own is : List Nat}, (∀ i ∈ is, i ∈ own) → σ'.length = σ.length → (∀ i, i ∉ is → σ'[i]? = σ[i]?) → wipe σ' own = wipe σ own := by
  have at_ : ∀ (τ : L2.St) (own : List Nat) (i : Nat), (wipe τ own)[i]? = if i ∈ own ∧ i < τ.length then some none else τ[i]? := by
    intro τ own
    induction own with
    | nil => intro i; simp [wipe]
    | cons j own ih =>
      intro i
      show ((wipe τ own).set j none)[i]? = _
      by_cases hj : j = i
      · subst hj
        by_cases hl : j < τ.length
        · rw [List.getElem?_set_self (by rw [wipe_length]; exact hl), if_pos ⟨List.mem_cons_self .., hl⟩]
        · rw [if_neg (fun z => hl z.2), List.getElem?_eq_none (by rw [List.length_set, wipe_length]; omega), List.getElem?_eq_none (by omega)]
      · rw [List.getElem?_set_ne hj, ih i]
        by_cases hm : i ∈ own
        · by_cases hl : i < τ.length
          · rw [if_pos ⟨hm, hl⟩, if_pos ⟨List.mem_cons_of_mem _ hm, hl⟩]
          · rw [if_neg (fun z => hl z.2), if_neg (fun z => hl z.2)]
        · rw [if_neg (fun z => hm z.1), if_neg (fun z => (List.mem_cons.mp z.1).elim (fun q => hj q.symm) hm)]
  intro own is h1 h2 h3
  refine List.ext_getElem? fun i => ?_
  rw [at_, at_, h2]
  by_cases hm : i ∈ own ∧ i < σ.length
  · rw [if_pos hm, if_pos hm]
  · rw [if_neg hm, if_neg hm]
    by_cases hi : i ∈ is
    · have hl : ¬ i < σ.length := fun z => hm ⟨h1 i hi, z⟩
      rw [List.getElem?_eq_none (by omega), List.getElem?_eq_none (by omega)]
    · exact h3 i hi
theorem wipe_wipe {σ : L2.St} {own : List Nat} : wipe (wipe σ own) own = wipe σ own := by
  refine List.ext_getElem? fun i => ?_
  have at_ : ∀ (τ : L2.St) (own : List Nat) (i : Nat), (wipe τ own)[i]? = if i ∈ own ∧ i < τ.length then some none else τ[i]? := by
    intro τ own
    induction own with
    | nil => intro i; simp [wipe]
    | cons j own ih =>
      intro i
      show ((wipe τ own).set j none)[i]? = _
      by_cases hj : j = i
      · subst hj
        by_cases hl : j < τ.length
        · rw [List.getElem?_set_self (by rw [wipe_length]; exact hl), if_pos ⟨List.mem_cons_self .., hl⟩]
        · rw [if_neg (fun z => hl z.2), List.getElem?_eq_none (by rw [List.length_set, wipe_length]; omega), List.getElem?_eq_none (by omega)]
      · rw [List.getElem?_set_ne hj, ih i]
        by_cases hm : i ∈ own
        · by_cases hl : i < τ.length
          · rw [if_pos ⟨hm, hl⟩, if_pos ⟨List.mem_cons_of_mem _ hm, hl⟩]
          · rw [if_neg (fun z => hl z.2), if_neg (fun z => hl z.2)]
        · rw [if_neg (fun z => hm z.1), if_neg (fun z => (List.mem_cons.mp z.1).elim (fun q => hj q.symm) hm)]
  rw [at_, at_, wipe_length]
  by_cases hm : i ∈ own ∧ i < σ.length
  · rw [if_pos hm, if_pos hm]
  · rw [if_neg hm, if_neg hm]
theorem EnvOk.wipe {η : Env} {σ : L2.St} (he : EnvOk K G γ H η σ) : ∀ own : List Nat, EnvOk K G γ H (wipeE η own) (L2.wipe σ own)
  | [] => he
  | i :: own => by
    have ih := EnvOk.wipe he own
    refine ⟨by unfold wipeE L2.wipe; rw [List.length_set, List.length_set]; exact ih.1, fun j w hj => ?_⟩
    unfold wipeE at hj
    unfold L2.wipe
    by_cases hij : i = j
    · subst hij
      have hl := (List.getElem?_eq_some_iff.mp hj).1
      rw [List.length_set] at hl
      rw [List.getElem?_set_self hl] at hj
      cases hj
    · rw [List.getElem?_set_ne hij] at hj ⊢
      exact ih.2 j w hj
end
/-- the tests of a comprehension -/
structure STs (X : Cx) (G : Gs) (es : List Expr) (f : MT) : Prop where
  run : ∀ Wi, Takes X Wi → PTs X es (ttOf X.K G Wi f)
theorem sts_nil {X : Cx} {G : Gs} : STs X G [] mtYes := ⟨fun Wi tk => ⟨fun pins s σ H Q I q => by
  obtain ⟨η, S, γ, he, hs, q⟩ := q
  exact pts_nil.run pins s σ H Q I (q true γ H Ext.refl rfl hs)⟩⟩
theorem sts_one {X : Cx} {G : Gs} {a : Expr} {t : MT} (h : ST X G a t) : STs X G [a] t := ⟨fun Wi tk => pts_one (h.run Wi tk)⟩
theorem Cfg.blk {X : Cx} (cf : Cfg X) (s : Shared) (H : Hp) (scope : Scope) (env : PySem.Env) (fp : List Addr) : Cfg (X.blk s H scope env fp) := ⟨cf.calm, cf.nd, PassesOwn.never, cf.un⟩

section
variable {X : Cx} {G : Gs} {tg iter elt : Expr} {ifs : List Expr} {scope : Scope} {f : ME} {g : MG} {t : MT} {it : MI} {is : List Nat} {own : List (Str × Nat)} {pos : Pos}
/-- a turn after another -/
theorem lc_turns {K : PySem.W.Frag} {γ0 : Ga} {H0 : Hp} {J : It} {xs : List W} {η : Env} {S0 : Store} {σ : L2.St} {wsF : List W} {SF : Store} {Wx' : Wx} {Q : VK} {vs : List Nat} (ok : ItOk K G J xs γ0 H0) (he : EnvOk K G γ0 H0 η σ) (hs : StoreOk K G γ0 H0 S0)
    (his : ∀ i ∈ is, i ∈ vs) (h : compL g t f (wipeE η vs) xs S0 [] = .ok wsF SF) (hQ : ∀ v γ' H', Ext γ0 H0 γ' H' → Rep K G γ' H' (.lst wsF) v → StoreOk K G γ' H' SF → Q v H') :
    ∀ D, H0 D = none → ∃ Wv : Nat → Nat → Hp → Prop, (∃ m, Wv 0 m (L2.upd H0 D (.lst []))) ∧ ∀ i m H, Wv i m H →
      (J.stop i H ∧ Q (.ref D) H) ∨ (J.go i H ∧ ∃ Nx : Hp → Prop, (∀ H', Nx H' → ∃ m', m' < m ∧ Wv (i + 1) m' H') ∧ ∀ x H', J.yld i H x H' → tgOf K G is g x (wipe σ vs) H' fun σ2 H2 => wipe σ2 vs = wipe σ vs ∧ ttOf K G (fun _ _ _ _ => False) t σ2 H2 fun b H3 =>
        if b = true then tOf K G (fun _ _ _ _ => False) f σ2 H3 fun y H4 => ∃ acc, H4 D = some (.lst acc) ∧ acc.length < sizeLine ∧ Nx (L2.upd H4 D (.lst (acc ++ [y]))) else Nx H3) := by
  intro D hD
  refine ⟨fun i m H => m = xs.length - i ∧ i ≤ xs.length ∧ ∃ S γ acc us, StoreOk K G γ H S ∧ Ext γ0 H0 γ H ∧ D ∈ γ.β ∧ H D = some (.lst us) ∧ Reps K G γ H acc us ∧ compL g t f (wipeE η vs) (xs.drop i) S acc = .ok wsF SF, ⟨xs.length, rfl, Nat.zero_le _, ?_⟩, ?_⟩
  · have off := hs.fresh hD
    refine ⟨S0, ⟨γ0.ρ, D :: γ0.β⟩, [], [], ?_, ?_, List.mem_cons_self .., upd_same, .nil, h⟩
    · have s1 := hs.upd (o := .lst []) hD
      refine ⟨s1.len, s1.nd, fun i c a hc ha => ?_, fun a ha => ?_⟩
      · have q := s1.cell i c a hc ha
        cases c with
        | lst ys =>
          obtain ⟨p1, us, hv, r'⟩ := hs.cell i _ a hc ha
          refine ⟨p1, us, by rw [upd_ne (ne_of_none hv hD)]; exact hv, r'.mono ?_⟩
          exact ⟨List.prefix_refl _, fun b hb => List.mem_cons_of_mem _ hb, fun b hb => (List.mem_cons.mp hb).elim (fun z => .inr (by rw [z]; exact hD)) .inl, fun b u e _ => by rw [upd_ne (ne_of_none e hD)]; exact e, fun _ h1 h2 => absurd h1 h2, fun b u e => ⟨u, by rw [upd_ne (ne_of_none e hD)]; exact e⟩⟩
        | dct _ _ => exact (hs.cell i _ a hc ha).to (fun o f => by rw [upd_ne (ne_of_none f hD)]; exact f) fun _ r => by refine r.mono ?_; exact ⟨List.prefix_refl _, fun b hb => List.mem_cons_of_mem _ hb, fun b hb => (List.mem_cons.mp hb).elim (fun z => .inr (by rw [z]; exact hD)) .inl, fun b u e _ => by rw [upd_ne (ne_of_none e hD)]; exact e, fun _ h1 h2 => absurd h1 h2, fun b u e => ⟨u, by rw [upd_ne (ne_of_none e hD)]; exact e⟩⟩
        | ins _ _ => exact q.elim
      · rcases List.mem_cons.mp ha with z | z
        · rw [z]
          exact ⟨off.1, _, upd_same, fun _ z => nomatch z⟩
        · obtain ⟨n, o, q, nt⟩ := hs.bt a z
          exact ⟨n, o, by rw [upd_ne (ne_of_none q hD)]; exact q, nt⟩
    · exact ⟨List.prefix_refl _, fun b hb => List.mem_cons_of_mem _ hb, fun b hb => (List.mem_cons.mp hb).elim (fun z => .inr (by rw [z]; exact hD)) .inl, fun b u e _ => by rw [upd_ne (ne_of_none e hD)]; exact e, fun _ h1 h2 => absurd h1 h2, fun b u e => ⟨u, by rw [upd_ne (ne_of_none e hD)]; exact e⟩⟩
  · rintro i m H ⟨rfl, hi, S, γ, acc, us, s, ex, dβ, hus, racc, hc⟩
    by_cases hlt : i < xs.length
    · refine .inr ⟨ok.go i γ H S hlt ex.w s, _, fun H' z => ⟨xs.length - (i + 1), by omega, z⟩, fun x H' y => ?_⟩
      obtain ⟨e1, s1, r1⟩ := ok.yld i xs[i] γ H S x H' (List.getElem?_eq_getElem hlt) ex.w s y
      rw [List.drop_eq_getElem_cons hlt] at hc
      unfold compL at hc
      cases eg : g xs[i] (wipeE η vs) S with
      | none =>
        rw [eg] at hc
        cases hc
      | some z =>
        obtain ⟨η1, S1⟩ := z
        rw [eg] at hc
        refine ⟨wipeE η vs, S, γ, xs[i], η1, S1, ((he.mono ex).mono e1).wipe vs, s1, r1, eg, fun σ2 γ2 H2 e2 he2 s2 hl2 hn2 => ⟨?_, ?_⟩⟩
        · rw [wipe_same (σ := wipe σ vs) his hl2 hn2, wipe_wipe]
        · refine ⟨η1, S1, γ2, he2, s2, ?_⟩
          cases et : t η1 S1 with
          | stuck =>
            simp only [et] at hc
            cases hc
          | exc c x S2 =>
            simp only [et] at hc
            cases hc
          | ok b S2 =>
            simp only [et, R.bind] at hc
            intro b' γ3 H3 e3 rb s3
            cases rb
            have ext3 : Ext γ0 H0 γ3 H3 := ((ex.trans e1).trans e2).trans e3
            have d3 : D ∈ γ3.β := e3.bsub _ (e2.bsub _ (e1.bsub _ dβ))
            have hus3 : H3 D = some (.lst us) := by
              have k1 := e1.keep D _ hus (s.bt D dβ).1
              have k2 := e2.keep D _ k1 (s1.bt D (e1.bsub _ dβ)).1
              exact e3.keep D _ k2 (s2.bt D (e2.bsub _ (e1.bsub _ dβ))).1
            have racc3 := ((racc.mono e1).mono e2).mono e3
            cases b with
            | false =>
              rw [if_neg Bool.false_ne_true] at hc ⊢
              exact ⟨rfl, hlt, S2, γ3, acc, us, s3, ext3, d3, hus3, racc3, hc⟩
            | true =>
              rw [if_pos rfl] at hc ⊢
              refine ⟨η1, S2, γ3, he2.mono e3, s3, ?_⟩
              cases ee : f η1 S2 with
              | stuck =>
                simp only [ee] at hc
                cases hc
              | exc c x S3 =>
                simp only [ee] at hc
                cases hc
              | ok w S3 =>
                simp only [ee] at hc
                intro v γ4 H4 e4 r4 s4
                have d4 : D ∈ γ4.β := e4.bsub _ d3
                have hus4 : H4 D = some (.lst us) := e4.keep D _ hus3 (s3.bt D d3).1
                unfold sized at hc
                split at hc
                · rename_i hsz
                  rw [bigLine_eq] at hsz
                  have ll := racc3.length
                  refine ⟨us, hus4, by omega, rfl, hlt, S3, γ4, acc ++ [w], us ++ [v], s4.busy d4, ?_, d4, upd_same, ?_, hc⟩
                  · have x4 := ext3.trans e4
                    have na : ∀ {a : Addr} {o : HO}, H0 a = some o → a ≠ D := fun q => ne_of_none q hD
                    exact ⟨x4.pre, x4.bsub, x4.bnew, fun a o q n => by rw [upd_ne (na q)]; exact x4.keep a o q n, x4.new, fun a o q => by
                      obtain ⟨o', q'⟩ := x4.dom a o q
                      exact ⟨o', by rw [upd_ne (na q)]; exact q'⟩⟩
                  · have n4 := (s4.bt D d4).1
                    exact (Reps.busy d4 n4 (racc3.mono e4)).append (.one (Rep.busy d4 n4 r4))
                · cases hc
    · have e : i = xs.length := by omega
      subst e
      rw [List.drop_length] at hc
      cases hc
      refine .inl ⟨ok.stop γ H _ ex.w s, ?_⟩
      have nD := (s.bt D dβ).1
      have fr : Ext γ0 H0 ⟨γ.ρ, γ.β.filter (fun a => decide (a ≠ D))⟩ H := by
        refine ⟨ex.pre, fun a ha => ?_, fun a ha => ex.bnew a (List.mem_filter.mp ha).1, ex.keep, ex.new, ex.dom⟩
        refine List.mem_filter.mpr ⟨ex.bsub a ha, ?_⟩
        obtain ⟨_, o, q, _⟩ := hs.bt a ha
        exact decide_eq_true (ne_of_none q hD)
      have up : Ext γ H ⟨γ.ρ, γ.β.filter (fun a => decide (a ≠ D))⟩ H → True := fun _ => trivial
      have lessO : ∀ (a : Addr) (o : HO), H a = some o → γ.Off a → Ga.Off ⟨γ.ρ, γ.β.filter (fun a => decide (a ≠ D))⟩ a := fun a o _ z => ⟨z.1, fun q => z.2 (List.mem_filter.mp q).1⟩
      have shr : ∀ {w : W} {v : V}, Rep K G γ H w v → Rep K G ⟨γ.ρ, γ.β.filter (fun a => decide (a ≠ D))⟩ H w v := fun r => Rep.shrink (γ := γ) (γ' := ⟨γ.ρ, γ.β.filter (fun a => decide (a ≠ D))⟩) rfl lessO r
      have shrs : ∀ {w : List W} {v : List V}, Reps K G γ H w v → Reps K G ⟨γ.ρ, γ.β.filter (fun a => decide (a ≠ D))⟩ H w v := fun r => Reps.shrink (γ := γ) (γ' := ⟨γ.ρ, γ.β.filter (fun a => decide (a ≠ D))⟩) rfl lessO r
      refine hQ (.ref D) _ H fr (.lst hus ⟨nD, fun q => ?_⟩ (shrs racc)) ⟨s.len, s.nd, fun i c a hc ha => ?_, fun a ha => s.bt a (List.mem_filter.mp ha).1⟩
      · have := (List.mem_filter.mp q).2
        simp at this
      · have q := s.cell i c a hc ha
        cases c with
        | lst ys =>
          obtain ⟨p1, us', hv, r'⟩ := q
          exact ⟨p1, us', hv, shrs r'⟩
        | dct _ _ => exact q.to (fun _ f => f) fun _ r => shrs r
        | ins _ _ => exact q.elim
theorem comp_read {Wi : WX} {Q : VK} {σ : L2.St} {H : Hp} (his : ∀ i ∈ is, i ∈ own.map (·.2)) (q : tOf X.K G Wi (mComp it (own.map (·.2)) g t f) σ H Q) :
    tLc (tiOf X.K G Wi it) (tgOf X.K G is g) (ttOf X.K G (fun _ _ _ _ => False) t) (tOf X.K G (fun _ _ _ _ => False) f) (own.map (·.2)) σ H Q := by
  obtain ⟨η, S, γ, he, hs, q⟩ := q
  refine ⟨η, S, γ, he, hs, ?_⟩
  have q : Post X.K G (Rep X.K G) (fun c d H' => Wi c d σ H') γ H ((it η S).bind fun xs S1 => (noexc (compL g t f (wipeE η (own.map (·.2))) xs S1 [])).bind fun ws S2 => .ok (.lst ws) S2) Q := q
  cases ei : it η S with
  | stuck =>
    rw [ei] at q
    exact q.elim
  | exc c x S1 =>
    rw [ei] at q
    exact q
  | ok xs S1 =>
    rw [ei] at q
    intro J γ1 H1 e1 s1 ok
    have q : Post X.K G (Rep X.K G) (fun c d H' => Wi c d σ H') γ H ((noexc (compL g t f (wipeE η (own.map (·.2))) xs S1 [])).bind fun ws S2 => .ok (.lst ws) S2) Q := q
    cases ec : compL g t f (wipeE η (own.map (·.2))) xs S1 [] with
    | stuck =>
      rw [ec] at q
      exact q.elim
    | exc c x S2 =>
      rw [ec] at q
      exact q.elim
    | ok ws S2 =>
      rw [ec] at q
      exact lc_turns (Wx' := fun _ _ _ => False) ok (he.mono e1) s1 his ec fun v γ' H' e r s => q v γ' H' (e1.trans e) r s
theorem se_comp (own : List (Str × Nat)) (cf : Cfg X) (hi : SI X G tg iter it) (ok : BlkOk X.N X.env.scope scope own)
    (hg : ∀ (s : Shared) (H : Hp) (C : Addr) (cl : List (Str × Addr)) (fp : List Addr), Cfg (X.blk s H scope (compEnvC scope cl C X.env) fp) → SG (X.blk s H scope (compEnvC scope cl C X.env) fp) G tg is g)
    (ht : ∀ (s : Shared) (H : Hp) (C : Addr) (cl : List (Str × Addr)) (fp : List Addr), Cfg (X.blk s H scope (compEnvC scope cl C X.env) fp) → STs (X.blk s H scope (compEnvC scope cl C X.env) fp) G ifs t)
    (he : ∀ (s : Shared) (H : Hp) (C : Addr) (cl : List (Str × Addr)) (fp : List Addr), Cfg (X.blk s H scope (compEnvC scope cl C X.env) fp) → SE (X.blk s H scope (compEnvC scope cl C X.env) fp) G elt f)
    (his : ∀ i ∈ is, i ∈ own.map (·.2) := by decide) (hs : ∀ x, foldedSetIterable iter X.env x = pure x := by intro _; rfl) :
    SE X G (.ListComp elt [⟨tg, iter, ifs, 0⟩] scope pos) (mComp it (own.map (·.2)) g t f) := by
  refine ⟨fun Wi tk => (pe_lc (g := tgOf X.K G is g) (tt := ttOf X.K G (fun _ _ _ _ => False) t) (te := tOf X.K G (fun _ _ _ _ => False) f) cf.calm cf.nd (hi.run Wi tk) ok (fun s H C cl fp => (hg s H C cl fp (cf.blk ..)).run) (fun s H C cl fp => (ht s H C cl fp (cf.blk ..)).run _ takes0) (fun s H C cl fp => (he s H C cl fp (cf.blk ..)).run _ takes0) hs).imp ?_⟩
  intro σ H Q q
  exact comp_read his q
theorem ss_setLc {y : Str} {py : Pos} {spos : Pos} (i : Nat) (own : List (Str × Nat)) (cf : Cfg X) (hi : SI X G tg iter it) (ok : BlkOk X.N X.env.scope scope own)
    (hg : ∀ (s : Shared) (H : Hp) (C : Addr) (cl : List (Str × Addr)) (fp : List Addr), Cfg (X.blk s H scope (compEnvC scope cl C X.env) fp) → SG (X.blk s H scope (compEnvC scope cl C X.env) fp) G tg is g)
    (ht : ∀ (s : Shared) (H : Hp) (C : Addr) (cl : List (Str × Addr)) (fp : List Addr), Cfg (X.blk s H scope (compEnvC scope cl C X.env) fp) → STs (X.blk s H scope (compEnvC scope cl C X.env) fp) G ifs t)
    (he : ∀ (s : Shared) (H : Hp) (C : Addr) (cl : List (Str × Addr)) (fp : List Addr), Cfg (X.blk s H scope (compEnvC scope cl C X.env) fp) → SE (X.blk s H scope (compEnvC scope cl C X.env) fp) G elt f)
    (hy : X.N[i]? = some y := by rfl) (hyl : X.env.scope.names.lookup y = some .local := by rfl)
    (hsw : swapsWith (.ListComp elt [⟨tg, iter, ifs, 0⟩] scope pos) (some (.Name y py)) spos.line X.env = pure true := by exact sw_true rfl rfl rfl (by decide +kernel))
    (his : ∀ i ∈ is, i ∈ own.map (·.2) := by decide) (hs : ∀ x, foldedSetIterable iter X.env x = pure x := by intro _; rfl) :
    SS X G (.Assign [.Name y py] (.ListComp elt [⟨tg, iter, ifs, 0⟩] scope pos) spos) (sSet i (mComp it (own.map (·.2)) g t f)) := by
  refine ⟨fun Wi tk => (ps_setLc (i := i) (g := tgOf X.K G is g) (tt := ttOf X.K G (fun _ _ _ _ => False) t) (te := tOf X.K G (fun _ _ _ _ => False) f) cf.calm cf.nd hy hyl hsw (hi.run Wi tk) ok (fun s H C cl fp => (hg s H C cl fp (cf.blk ..)).run) (fun s H C cl fp => (ht s H C cl fp (cf.blk ..)).run _ takes0) (fun s H C cl fp => (he s H C cl fp (cf.blk ..)).run _ takes0) hs).imp ?_⟩
  rintro D σ H ⟨η, S, γ, he, hs, q⟩
  refine comp_read his ⟨η, S, γ, he, hs, (PostS.expr he q).imp fun v H1 ⟨w, S1, γ1, e1, r1, s1, q1⟩ => q1 _ γ1 H1 Ext.refl ((he.mono e1).set r1 i) s1⟩
end
end Mp

set_option Elab.async false
set_option linter.all false
set_option maxRecDepth 100000
set_option maxHeartbeats 4000000
/-! Mp: functions, calls. -/
namespace Mp
open PySem PySem.Spec PyProof.Rows L2
/-- a function's promise: what φ gives -/
def spF (K : PySem.W.Frag) (G : Gs) (np : Nat) (φ : List W → Store → R W) : Sp := fun vs H Q E => vs.length = np ∧ ∃ ws S γ, Reps K G γ H ws vs ∧ StoreOk K G γ H S ∧ Post K G (Rep K G) E γ H (φ ws S) Q
section
variable {K : PySem.W.Frag} {G : Gs} {γ γ' : Ga} {H H' : Hp} {S S' : Store} {D : Ends} {Q : VK} {E : XK}
theorem pre_take {l m : List Addr} (h : l <+: m) {n : Nat} (e : l.length = n) : m.take n = l := by
  obtain ⟨t, rfl⟩ := h
  subst e
  simp
/-- what a call leaves: the store's old part -/
theorem cut_ok (s : StoreOk K G γ H S) (e : Ext γ H γ' H') (s' : StoreOk K G γ' H' S') : Ext γ H ⟨γ.ρ, γ'.β⟩ H' ∧ StoreOk K G ⟨γ.ρ, γ'.β⟩ H' (S'.take S.length) ∧ ∀ a o, H' a = some o → γ'.Off a → Ga.Off ⟨γ.ρ, γ'.β⟩ a := by
  have sub : ∀ a ∈ γ.ρ, a ∈ γ'.ρ := fun a h => e.pre.subset h
  have less : ∀ a o, H' a = some o → γ'.Off a → Ga.Off ⟨γ.ρ, γ'.β⟩ a := fun a o _ z => ⟨fun q => z.1 (sub a q), z.2⟩
  refine ⟨⟨List.prefix_refl _, e.bsub, e.bnew, e.keep, fun _ h1 h2 => absurd h1 h2, e.dom⟩, ⟨?_, s.nd, fun i c a hc ha => ?_, fun a ha => ⟨fun q => (s'.bt a ha).1 (sub a q), (s'.bt a ha).2⟩⟩, less⟩
  · have l1 := e.pre.length_le
    rw [s.len, s'.len] at l1
    rw [List.length_take]
    show γ.ρ.length = _
    rw [s.len]
    omega
  · have hi : i < S.length := by
      have := (List.getElem?_eq_some_iff.mp hc).1
      rw [List.length_take] at this
      omega
    rw [List.getElem?_take_of_lt hi] at hc
    have ha' : γ'.ρ[i]? = some a := by
      obtain ⟨t, q⟩ := e.pre
      rw [← q, List.getElem?_append_left (List.getElem?_eq_some_iff.mp ha).1]
      exact ha
    have q := s'.cell i c a hc ha'
    cases c with
    | lst xs =>
      obtain ⟨p, vs, hv, r⟩ := q
      exact ⟨p, vs, hv, Reps.less less p r⟩
    | dct _ _ => exact q.to (fun _ f => f) fun p r => Reps.less less p r
    | ins _ _ => exact q.elim
theorem fin_ok {Wi : WX} {keep : Bool} {r : RS} (hW : ∀ c d σ H', E c d H' → Wi c d σ H') (s : StoreOk K G γ H S) (h : Post K G (Rep K G) E γ H (finS keep S.length r) Q) : PostS K G Wi γ H r { nx := fun _ H' => Q .non H', rt := Q } := by
  cases r with
  | nx η' S' =>
    intro σ' γ' H' e _ s'
    obtain ⟨a, b, _⟩ := cut_ok s e s'
    exact h _ _ H' a .non b
  | bk η' S' => exact h.elim
  | ct η' S' => exact h.elim
  | stuck => exact h.elim
  | exc c x η' S' =>
    have h : Post K G (Rep K G) E γ H (if x.pure = true then .exc c x (S'.take S.length) else .stuck) Q := h
    split at h
    · rename_i px
      intro v d σ' γ' H' e _ r s' hd ho
      obtain ⟨a, b, less⟩ := cut_ok s e s'
      exact hW _ _ _ _ (h v d _ H' a (Rep.less less px r) b hd (less _ _ hd ho))
    · exact h.elim
  | ret w S' =>
    replace h : Post K G (Rep K G) E γ H (fin keep S.length w S') Q := h
    intro v γ' H' e r s'
    obtain ⟨a, bS, less⟩ := cut_ok s e s'
    unfold fin at h
    split at h
    · rename_i pw
      exact h v _ H' a (Rep.less less pw r) bS
    · rename_i hnp
      split at h
      · rename_i w i
        cases r with
        | @ref _ ad hr =>
        split at h
        · rename_i hi
          refine h _ _ H' a (.ref ?_) bS
          show γ.ρ[i]? = some ad
          obtain ⟨t, q⟩ := e.pre
          rw [← q, List.getElem?_append_left (by rw [s.len]; exact hi)] at hr
          exact hr
        · rename_i hi
          split at h
          · rename_i xs hc
            obtain ⟨_, vs, hv, rv⟩ := s'.cell i _ ad hc hr
            have hnot : ad ∉ γ.ρ := fun z => by
              obtain ⟨j, hj, ej⟩ := List.mem_iff_getElem.mp z
              have hj' : j < S.length := by rw [← s.len]; exact hj
              obtain ⟨t, q⟩ := e.pre
              have e1 : γ'.ρ[j]? = some ad := by rw [← q, List.getElem?_append_left hj, List.getElem?_eq_getElem hj, ej]
              obtain ⟨x1, x2⟩ := List.getElem?_eq_some_iff.mp e1
              obtain ⟨y1, y2⟩ := List.getElem?_eq_some_iff.mp hr
              have := (List.getElem_inj s'.nd).mp (x2.trans y2.symm)
              omega
            have hoff : ad ∉ γ'.β := fun z => (s'.bt ad z).1 (List.mem_of_getElem? hr)
            by_cases pxs : pures xs = true
            · rw [if_pos pxs] at h
              have rv' : Reps K G ⟨γ.ρ, γ'.β⟩ H' xs vs := Reps.less less pxs rv
              by_cases hkp : keep = true
              · rw [if_pos hkp] at h
                refine h (.ref ad) ⟨γ.ρ ++ [ad], γ'.β⟩ H' ⟨List.prefix_append _ _, a.bsub, a.bnew, a.keep, fun b hb hn => ?_, a.dom⟩ (.ref ?_) ⟨?_, ?_, fun j c b' hc' hb' => ?_, fun b hb => ⟨fun z => ?_, (bS.bt b hb).2⟩⟩
                · rcases List.mem_append.mp hb with z | z
                  · exact absurd z hn
                  · have z' : b = ad := by simpa using z
                    rw [z'] at hn ⊢
                    exact e.new ad (List.mem_of_getElem? hr) hn
                · show (γ.ρ ++ [ad])[S.length]? = some ad
                  rw [← s.len, List.getElem?_append_right (Nat.le_refl _), Nat.sub_self]
                  rfl
                · show (γ.ρ ++ [ad]).length = (S'.take S.length ++ [Cell.lst xs]).length
                  rw [List.length_append, List.length_append, ← bS.len]
                  rfl
                · show (γ.ρ ++ [ad]).Nodup
                  rw [List.nodup_append]
                  exact ⟨s.nd, by simp, fun b hb c hc => by
                    have z : c = ad := by simpa using hc
                    rw [z]
                    rintro rfl
                    exact hnot hb⟩
                · have lessK : ∀ b o, H' b = some o → Ga.Off ⟨γ.ρ, γ'.β⟩ b → b ≠ ad → Ga.Off ⟨γ.ρ ++ [ad], γ'.β⟩ b := fun b o _ z ne => ⟨fun q => (List.mem_append.mp q).elim z.1 fun q => ne (by simpa using q), z.2⟩
                  have lessT : ∀ b o, H' b = some o → γ'.Off b → Ga.Off ⟨γ.ρ ++ [ad], γ'.β⟩ b := fun b o hb z => lessK b o hb (less b o hb z) fun q => z.1 (by rw [q]; exact List.mem_of_getElem? hr)
                  have ll : (S'.take S.length).length = S.length := by rw [← bS.len]; exact s.len
                  by_cases hj : j < S.length
                  · rw [List.getElem?_append_left (by rw [ll]; exact hj)] at hc'
                    have hb2 : γ.ρ[j]? = some b' := by
                      have z : (γ.ρ ++ [ad])[j]? = some b' := hb'
                      rwa [List.getElem?_append_left (by rw [s.len]; exact hj)] at z
                    rw [List.getElem?_take_of_lt hj] at hc'
                    have hb3 : γ'.ρ[j]? = some b' := by
                      obtain ⟨t, q⟩ := e.pre
                      rw [← q, List.getElem?_append_left (List.getElem?_eq_some_iff.mp hb2).1]
                      exact hb2
                    have q := s'.cell j c b' hc' hb3
                    cases c with
                    | lst ys =>
                      obtain ⟨p, us, hu, ru⟩ := q
                      exact ⟨p, us, hu, Reps.less lessT p ru⟩
                    | dct _ _ => exact q.to (fun _ f => f) fun p r => Reps.less lessT p r
                    | ins _ _ => exact q.elim
                  · have hlt := (List.getElem?_eq_some_iff.mp hc').1
                    rw [List.length_append, List.length_singleton, ll] at hlt
                    have ej : j = S.length := by omega
                    subst ej
                    have z1 : Cell.lst xs = c := by
                      rw [List.getElem?_append_right (by rw [ll]; exact Nat.le_refl _), ll, Nat.sub_self] at hc'
                      simpa using hc'
                    subst z1
                    have z2 : ad = b' := by
                      have z : (γ.ρ ++ [ad])[S.length]? = some b' := hb'
                      rw [← s.len, List.getElem?_append_right (Nat.le_refl _), Nat.sub_self] at z
                      simpa using z
                    subst z2
                    exact ⟨pxs, vs, hv, Reps.less lessT pxs rv⟩
                · rcases List.mem_append.mp z with z | z
                  · exact (bS.bt b hb).1 z
                  · have z' : b = ad := by simpa using z
                    exact hoff (by rw [← z']; exact hb)
              · rw [if_neg hkp] at h
                exact h (.ref ad) _ H' a (.lst hv ⟨hnot, hoff⟩ rv') bS
            · rw [if_neg pxs] at h
              exact h.elim
          · exact h.elim
      · exact h.elim
end
section
variable {K : PySem.W.Frag} {G : Gs} {γ γ' : Ga} {H H' : Hp} {S S' : Store} {Q : VK} {E : XK}
def Ga.hid (γ : Ga) : Ga := ⟨[], γ.β ++ γ.ρ⟩
theorem off_hid {a : Addr} (h : γ.Off a) : γ.hid.Off a := ⟨by show a ∉ []; simp, fun z => (List.mem_append.mp z).elim h.2 h.1⟩
theorem store_hid (s : StoreOk K G γ H S) : StoreOk K G γ.hid H [] := ⟨rfl, List.nodup_nil, fun i c a hc _ => by simp at hc, fun a ha => ⟨by show a ∉ []; simp, by
  rcases List.mem_append.mp ha with z | z
  · exact (s.bt a z).2
  · exact s.tracked0 z⟩⟩
theorem reps_hid {ws : List W} {vs : List V} (p : pures ws = true) (r : Reps K G γ H ws vs) : Reps K G γ.hid H ws vs := Reps.less (fun _ _ _ h => off_hid h) p r
theorem back_hid (s : StoreOk K G γ H S) (e : Ext γ.hid H γ' H') (s' : StoreOk K G γ' H' S') :
    Ext γ H ⟨γ.ρ, γ'.β.filter fun a => !decide (a ∈ γ.ρ)⟩ H' ∧ StoreOk K G ⟨γ.ρ, γ'.β.filter fun a => !decide (a ∈ γ.ρ)⟩ H' S ∧ ∀ a o, H' a = some o → γ'.Off a → Ga.Off ⟨γ.ρ, γ'.β.filter fun a => !decide (a ∈ γ.ρ)⟩ a := by
  have mf : ∀ {a : Addr}, a ∈ (γ'.β.filter fun a => !decide (a ∈ γ.ρ)) ↔ a ∈ γ'.β ∧ a ∉ γ.ρ := fun {a} => by
    rw [List.mem_filter, Bool.not_eq_true', decide_eq_false_iff_not]
  have ke : ∀ a o, H a = some o → H' a = some o := fun a o h => e.keep a o h (by show a ∉ []; simp)
  have ex : Ext γ H ⟨γ.ρ, γ'.β.filter fun a => !decide (a ∈ γ.ρ)⟩ H' := ⟨List.prefix_refl _, fun a h => mf.mpr ⟨e.bsub a (List.mem_append_left _ h), (s.bt a h).1⟩, fun a h => by
    obtain ⟨h1, h2⟩ := mf.mp h
    rcases e.bnew a h1 with z | z
    · rcases List.mem_append.mp z with z | z
      · exact .inl z
      · exact absurd z h2
    · exact .inr z, fun a o h _ => ke a o h, fun _ h1 h2 => absurd h1 h2, e.dom⟩
  refine ⟨ex, ⟨s.len, s.nd, fun i c a hc ha => ?_, fun a ha => ⟨(mf.mp ha).2, (s'.bt a (mf.mp ha).1).2⟩⟩, fun a o _ h => ⟨fun z => h.2 (e.bsub a (List.mem_append_right _ z)), fun z => h.2 (mf.mp z).1⟩⟩
  have q := s.cell i c a hc ha
  cases c with
  | lst xs =>
    obtain ⟨p, vs, hv, r⟩ := q
    exact ⟨p, vs, ke _ _ hv, r.mono ex⟩
  | dct _ _ => exact q.to (fun o f => ke _ _ f) fun _ r => r.mono ex
  | ins _ _ => exact q.elim
theorem frame_post {r : R W} (s : StoreOk K G γ H S) (h : Post K G (Rep K G) E γ H (r.frame S) Q) : Post K G (Rep K G) E γ.hid H r Q := by
  cases r with
  | stuck => exact h.elim
  | ok w S' =>
    have h : Post K G (Rep K G) E γ H (if w.pure = true then R.ok w S else .stuck) Q := h
    split at h
    · rename_i pw
      intro v γ' H' e r s'
      obtain ⟨a, b, c⟩ := back_hid s e s'
      exact h v _ H' a (Rep.less c pw r) b
    · exact h.elim
  | exc c x S' =>
    have h : Post K G (Rep K G) E γ H (if x.pure = true then R.exc c x S else .stuck) Q := h
    split at h
    · rename_i px
      intro v d γ' H' e r s' hd ho
      obtain ⟨a, b, cc⟩ := back_hid s e s'
      exact h v d _ H' a (Rep.less cc px r) b hd (cc _ _ hd ho)
    · exact h.elim
end
theorem Post.not_stuck {K : PySem.W.Frag} {G : Gs} {α β : Type} {rel : Rel α β} {wx : Wx} {γ : Ga} {H : Hp} {r : R α} {Q : β → Hp → Prop} (h : Post K G rel wx γ H r Q) : r ≠ .stuck := fun z => by
  rw [z] at h
  exact h
/-! a function of the text -/
structure FnR where
  x : Str
  ps : List Str
  st : Stmt
structure FT (P : Program) (w : World) (K : PySem.W.Frag) (mg : Str → Option Value) (base : Heap) (G : Gs) (d : Nat) (φ : List W → Store → R W) (f : Nat) (r : FnR) (fd : FuncData) : Prop where
  ok : FnOk P w K mg base (L2.CX P w) (d + 2) (G.fa f) fd r.ps (spF K G r.ps.length φ)
  gl : mg r.x = some (.ref (G.fa f))
  F : FunD K r.x r.x (defArgs r.st) (defBody r.st) (defScope r.st) [] [] (G.fa f) fd
  b : Binds K fd r.ps []
  len : ∀ ws S, φ ws S ≠ .stuck → ws.length = r.ps.length
abbrev AllF (P : Program) (w : World) (K : PySem.W.Frag) (mg : Str → Option Value) (base : Heap) (G : Gs) (T : List Mp.Fun) (D : List FnR) (d : Nat) : Prop := ∀ f r, D[f]? = some r → ∃ fd, FT P w K mg base G d (fns T d f) f r fd
section
variable {X : Cx} {G : Gs} {d f : Nat} {r : FnR} {φ : Fns} {x : Str} {p pos : Pos} {e : Expr} {es : List Expr} {ga : MA}
theorem se_call (f : Nat) (h : ∃ fd, FT X.prog X.w X.K X.mg X.base G d (φ f) f r fd) (hr : Room (d + 2) X.A) (ha : SA X G (e :: es) ga) (hx : r.x = x := by rfl) (hg : Gl X x := by rfl) (hdb : (x == ("__debug__" : Str)) = false := by decide)
    (he : starEach (e :: es) X.env = (false, eval e X.env) :: starEach es X.env := by rfl) (hpl : (backTo pos (starEach es X.env)).any (·.1) = false := by rfl) : SE X G (.Call (.Name x p) (e :: es) [] pos) (mCall φ f ga) := by
  obtain ⟨fd, h⟩ := h
  subst hx
  refine ⟨fun Wi tk => (pe_callS h.ok hr hg h.gl h.F.kp h.b (fun σ => passAt tk σ) (ha.run Wi tk) hdb he hpl).imp ?_⟩
  rintro σ H Q ⟨η, S, γ, he, hs, q⟩
  refine ⟨η, S, γ, he, hs, ?_⟩
  have q : Post X.K G (Rep X.K G) (fun c d H' => Wi c d σ H') γ H ((ga η S).bind fun ws S1 => φ f ws S1) Q := q
  cases eg : ga η S with
  | stuck =>
    rw [eg] at q
    exact q.elim
  | exc c x S1 =>
    rw [eg] at q
    exact q
  | ok ws S1 =>
    rw [eg] at q
    intro vs γ1 H1 e1 r1 s1
    exact ⟨by rw [← r1.length]; exact h.len ws S1 (Post.not_stuck q), ws, S1, γ1, r1, s1, Post.base e1 q⟩
end
/-! calls without places, with keywords -/
section
variable {X : Cx} {k : Nat} {f : Addr} {fd : FuncData} {ps ks : List Str} {sp : Sp} {E : L2.St → XK} {x : Str} {p pos : Pos} {kws : List Keyword} {e : Expr} {es : List Expr} {t tk : TA}
/-- how a call by keywords alone, or behind n places, binds -/
def KwB (K : PySem.W.Frag) (fd : FuncData) (ps ks : List Str) (n : Nat) (perm : List Nat) : Prop := ∀ (s : Shared) (us : List Value), us.length = n + ks.length → BindsTo s fd ⟨us.take n, ks.zip (us.drop n)⟩ (ps.zip (perm.map fun i => us.getD i .none))
def tCallP (sp : Sp) (perm : List Nat) (E : L2.St → XK) (t tk : TA) : TE := fun σ H Q => t σ H fun vs H1 => tk σ H1 fun zs H2 => sp (perm.map fun i => (vs ++ zs).getD i .non) H2 Q (E σ)
theorem vals_perm {vs : List V} {us : List Value} (r : Vals vs us) (perm : List Nat) (h : ∀ i ∈ perm, i < vs.length) : Vals (perm.map fun i => vs.getD i .non) (perm.map fun i => us.getD i .none) := by
  induction perm with
  | nil => exact .nil
  | cons i perm ih =>
    refine .cons ?_ (ih fun j hj => h j (List.mem_cons_of_mem _ hj))
    have hi := h i (List.mem_cons_self ..)
    obtain ⟨u, hu, ru⟩ := r.get (List.getElem?_eq_getElem hi)
    show L2.RelV (vs.getD i .non) (us.getD i .none)
    rw [List.getD_eq_getElem?_getD, List.getD_eq_getElem?_getD, List.getElem?_eq_getElem hi, hu]
    exact ru
theorem run_fnP {pins : List (Addr × Obj)} {σ : L2.St} {H : Hp} {s : Shared} {Q : VK} {us ws : List Value} {vs zs : List V} {n : Nat} {perm : List Nat} (F : FnOk X.prog X.w X.K X.mg X.base (L2.CX X.prog X.w) k f fd ps sp) (hr : Room k X.A) (hb : KwB X.K fd ps ks n perm) (hx : PassesAt (L2.CX X.prog X.w) X σ (E σ))
    (hn : us.length = n) (hk : ws.length = ks.length) (hp : ∀ i ∈ perm, i < n + ks.length) (I : Inv X pins σ H s) (r : Vals vs us) (rz : Vals zs ws) (h : sp (perm.map fun i => (vs ++ zs).getD i .non) H Q (E σ)) : wpAny (model X.prog X.w) X.A (call (.ref f) us (ks.zip ws)) (EP X pins σ Q) X.xe s := by
  have r1 : Vals (vs ++ zs) (us ++ ws) := r.append rz
  have lv : (vs ++ zs).length = n + ks.length := by rw [r1.length, List.length_append, hn, hk]
  have r2 := vals_perm r1 perm fun i hi => by rw [lv]; exact hp i hi
  have hb2 := hb s (us ++ ws) (by rw [List.length_append, hn, hk])
  rw [← hn, List.take_left' rfl, List.drop_left' rfl] at hb2
  refine wpAny_call (codeAny_mono (F.run X.A X.stack s H ⟨us, ks.zip ws⟩ _ _ Q (E σ) hr I.env0 hb2 r2 h) fun r s' hq => ?_)
  cases r with
  | error e => exact hx pins H s e s' I hq
  | ok fl =>
    cases fl with
    | ret u => exact I.after hq
    | next => exact False.elim hq
    | brk => exact False.elim hq
    | cont => exact False.elim hq
end
section
variable {X : Cx} {G : Gs} {d f : Nat} {r : FnR} {φ : Fns} {x : Str} {p pos : Pos} {e : Expr} {es : List Expr} {ga gk : MA} {kws : List Keyword} {f' : ME}
/-- the values of keywords -/
structure SK (X : Cx) (G : Gs) (kws : List Keyword) (f : MA) : Prop where
  run : ∀ Wi, Takes X Wi → PK X kws (taOf X.K G Wi f)
theorem _root_.L2.PK.imp {X : Cx} {e : List Keyword} {t t' : TA} (h : PK X e t) (i : ∀ σ H Q, t' σ H Q → t σ H Q) : PK X e t' := ⟨fun pos pins s σ H Q I q => h.run pos pins s σ H Q I (i _ _ _ q)⟩
theorem sk_nil : SK X G [] maNil := by
  refine ⟨fun Wi tk => pk_nil.imp ?_⟩
  rintro σ H Q ⟨η, S, γ, he, hs, q⟩
  exact q _ γ H Ext.refl .nil hs
theorem sk_cons {nm : Option Str} {kpos : Pos} (ha : SE X G e f') (hr : SK X G kws gk) : SK X G (⟨nm, e, kpos⟩ :: kws) (maCons f' gk) := by
  refine ⟨fun Wi tk => (pk_cons (ha.run Wi tk) (hr.run Wi tk)).imp ?_⟩
  rintro σ H Q ⟨η, S, γ, he, hs, q⟩
  exact ⟨η, S, γ, he, hs, (Post.seq q).imp fun x H1 ⟨wx, S1, γ1, e1, r1, s1, q1⟩ => ⟨η, S1, γ1, he.mono e1, s1, (Post.seq q1).imp fun y H2 ⟨wy, S2, γ2, e2, r2, s2, q2⟩ => q2 _ γ2 H2 Ext.refl (.cons (r1.mono e2) r2) s2⟩⟩
/-- f(k = v, ..) -/
def mCallK (φ : Fns) (f : Nat) (perm : List Nat) (gk : MA) : ME := fun η S => (gk η S).bind fun ws S1 => if perm.all (fun i => decide (i < ws.length)) = true then φ f (perm.map fun i => ws.getD i .non) S1 else .stuck
theorem reps_perm {K : PySem.W.Frag} {γ : Ga} {H : Hp} {ws : List W} {vs : List V} (r : Reps K G γ H ws vs) (perm : List Nat) (h : perm.all (fun i => decide (i < ws.length)) = true) : Reps K G γ H (perm.map fun i => ws.getD i .non) (perm.map fun i => vs.getD i .non) := by
  induction perm with
  | nil => exact .nil
  | cons i perm ih =>
    rw [List.all_cons, Bool.and_eq_true] at h
    refine .cons ?_ (ih h.2)
    have hi : i < ws.length := of_decide_eq_true h.1
    obtain ⟨v, hv, rv⟩ := r.get (List.getElem?_eq_getElem hi)
    show Rep K G γ H (ws.getD i .non) (vs.getD i .non)
    rw [List.getD_eq_getElem?_getD, List.getD_eq_getElem?_getD, List.getElem?_eq_getElem hi, hv]
    exact rv
theorem se_callK0 (f : Nat) (ks : List Str) (perm : List Nat) (h : ∃ fd, FT X.prog X.w X.K X.mg X.base G d (φ f) f r fd ∧ KwB X.K fd r.ps ks 0 perm) (hr : Room (d + 2) X.A) (hk : SK X G kws gk) (hx : r.x = x := by rfl) (hg : Gl X x := by rfl) (hdb : (x == ("__debug__" : Str)) = false := by decide)
    (hall : (backToKw pos (keywordEach kws X.env)).all (·.1.isSome) = true := by rfl) (hks : (backToKw pos (keywordEach kws X.env)).filterMap (·.1) = ks := by rfl)
    (hpl : ((backTo pos (starEach [] X.env)).any (·.1) || (backToKw pos (keywordEach kws X.env)).any (·.1.isNone)) = false := by rfl) (hp : perm.all (fun i => decide (i < ks.length)) = true := by rfl) (hlen : kws.length = ks.length := by rfl)
    (hkl : ∀ η S ws S', gk η S = .ok ws S' → ws.length = ks.length) : SE X G (.Call (.Name x p) [] kws pos) (mCallK φ f perm gk) := by
  obtain ⟨fd, h, hb⟩ := h
  subst hx
  refine ⟨fun Wi tk => ⟨fun pins s σ H Q I q => ?_⟩⟩
  obtain ⟨η, S, γ, he, hs, q⟩ := q
  refine wpAny_Call_Name_kw (ld_glob I hg h.gl ?_ hdb)
  refine PySem.W.callWith_KW0 (h₀ := X.base) I.ok.mod.kin h.F.kp hall ?_ hpl
  have q : Post X.K G (Rep X.K G) (fun c d H' => Wi c d σ H') γ H ((gk η S).bind fun ws S1 => if perm.all (fun i => decide (i < ws.length)) = true then φ f (perm.map fun i => ws.getD i .non) S1 else .stuck) Q := q
  refine thn ((hk.run Wi tk).run pos pins s σ H (fun zs H2 => ∃ ws S1 γ1, gk η S = .ok ws S1 ∧ Ext γ H γ1 H2 ∧ Reps X.K G γ1 H2 ws zs ∧ StoreOk X.K G γ1 H2 S1) I ⟨η, S, γ, he, hs, ?_⟩) fun us s1 ⟨zs, H2, I2, rz, ws, S1, γ1, eg, e1, r1, s1'⟩ => ⟨I2.kIn, ?_⟩
  · cases eg : gk η S with
    | stuck =>
      rw [eg] at q
      exact q.elim
    | exc c x S1 =>
      rw [eg] at q
      exact q
    | ok ws S1 => exact fun vs γ1 H1 e1 r1 s1 => ⟨ws, S1, γ1, rfl, e1, r1, s1⟩
  · rw [eg] at q
    have q : Post X.K G (Rep X.K G) (fun c d H' => Wi c d σ H') γ H (if perm.all (fun i => decide (i < ws.length)) = true then φ f (perm.map fun i => ws.getD i .non) S1 else .stuck) Q := q
    have lw := hkl _ _ _ _ eg
    rw [hks]
    split at q
    · rename_i hpw
      refine run_fnP (n := 0) (perm := perm) (us := []) (vs := []) (E := fun σ c d H' => Wi c d σ H') h.ok hr hb (passAt tk σ) rfl ?_ ?_ I2 .nil rz ?_
      · rw [← rz.length, ← r1.length, lw]
      · intro i hi
        have := List.all_eq_true.mp hp i hi
        have := of_decide_eq_true this
        omega
      · have q2 := Post.base e1 q
        exact ⟨by rw [List.length_map]; have := h.len _ _ (Post.not_stuck q); rw [List.length_map] at this; exact this, _, S1, γ1, by rw [List.nil_append]; exact reps_perm r1 perm hpw, s1', q2⟩
    · exact q.elim
end
end Mp

set_option Elab.async false
set_option linter.all false
set_option maxRecDepth 100000
set_option maxHeartbeats 4000000
/-! Mp: subscripts, slices, built-in functions. -/
namespace Mp
open PySem PySem.Spec PyProof.Rows L2
theorem _root_.L2.IxR.imp {X : Cx} {r r' : R2} (h : IxR X r) (i : ∀ x y H Q, r' x y H Q → r x y H Q) : IxR X r' := fun a b pins s σ H x y v u Q I rx ry q e => h a b pins s σ H x y v u Q I rx ry (i _ _ _ _ q) e
theorem _root_.L2.SlR.imp {X : Cx} {r r' : V → Option Int → Option Int → Hp → VK → Prop} (h : SlR X r) (i : ∀ x l u H Q, r' x l u H Q → r x l u H Q) : SlR X r' := fun pins s σ H x v vl vu lo hi sl Q I rx hs pl pu q => h pins s σ H x v vl vu lo hi sl Q I rx hs pl pu (i _ _ _ _ _ q)
theorem _root_.L2.CallR.imp {X : Cx} {f : Value} {r r' : List V → Hp → VK → Prop} (h : CallR X f r) (i : ∀ x H Q, r' x H Q → r x H Q) : CallR X f r' := fun pins s σ H xs us Q I r q => h pins s σ H xs us Q I r (i _ _ _ q)
section
variable {K : PySem.W.Frag} {G : Gs} {γ γ' : Ga} {H H' : Hp} {S : Store}
theorem atW_rep {xs : List W} {vs : List V} {i : Int} {w : W} (q : Reps K G γ H xs vs) (h : atW xs i = some w) : ∃ v, atI vs i = some v ∧ Rep K G γ H w v := by
  unfold atW at h
  cases e : ixW xs.length i with
  | none => rw [e] at h; cases h
  | some j =>
    rw [e] at h
    obtain ⟨v, hv, r⟩ := q.get h
    refine ⟨v, ?_, r⟩
    unfold atI
    have e2 : ixN vs.length i = some j := by rw [← q.length]; exact e
    rw [e2]
    exact hv
/-- what a list, a tuple is, in the heap -/
theorem lst_or {w : W} {v : V} {xs : List W} (s : StoreOk K G γ H S) (h : lstOf S w = some xs) (r : Rep K G γ H w v) : ∃ a vs, v = .ref a ∧ SqL K H a vs ∧ Reps K G γ H xs vs := by
  obtain ⟨a, vs, e, hv, q⟩ := lstOf_rep s h r
  exact ⟨a, vs, e, SqL.of hv, q⟩
end
section
variable {X : Cx} {G : Gs}
theorem ix_W : IxR X (rOf X.K G opIx) := by
  refine (ix_seq).imp ?_
  rintro x y H Q ⟨wx, wy, S, γ, w, rx, ry, s, h, k⟩
  unfold opIx at h
  split at h
  · rename_i z i
    cases rx with
    | str _ h1 h2 =>
    cases ry
    cases e : ixW z.length i with
    | none => rw [e] at h; cases h
    | some j =>
      rw [e] at h
      cases e2 : z[j]? with
      | none =>
        have h : z[j]?.map (fun c => W.str [c]) = some w := h
        rw [e2] at h
        cases h
      | some c =>
        have h : z[j]?.map (fun c => W.str [c]) = some w := h
        rw [e2] at h
        cases h
        refine .inr (.inr ⟨_, _, c, rfl, rfl, by simpa [Str.length] using h2, ?_, k _ γ H Ext.refl (.str [c] (fun d hd => ?_) (by rw [sizeLine_eq]; show 1 ≤ 16777216; decide)) s⟩)
        · unfold atI
          show (ixN z.length i).bind _ = _
          have e3 : ixN z.length i = some j := e
          rw [e3]
          exact e2
        · have : d = c := by simpa using hd
          rw [this]
          exact h1 c (List.mem_of_getElem? e2)
  · cases rx with
    | tup f q =>
    cases ry
    obtain ⟨v, hv, r⟩ := atW_rep q h
    exact .inr (.inl ⟨_, _, _, v, rfl, rfl, f.sq, hv, k v γ H Ext.refl r s⟩)
  · cases rx with
    | scr f q =>
    cases ry
    obtain ⟨v, hv, r⟩ := atW_rep q h
    exact .inl ⟨_, _, _, v, rfl, rfl, f.sq, hv, k v γ H Ext.refl r s⟩
  · cases e : lstOf S wx with
    | none => rw [e] at h; cases h
    | some xs =>
      rw [e] at h
      obtain ⟨a, vs, rfl, hs, q⟩ := lst_or s e rx
      cases ry
      obtain ⟨v, hv, r⟩ := atW_rep q h
      exact .inl ⟨_, _, _, v, rfl, rfl, hs, hv, k v γ H Ext.refl r s⟩
  · cases h
def rSlW (K : PySem.W.Frag) (G : Gs) : V → Option Int → Option Int → Hp → VK → Prop := fun x lo hi H Q => ∃ wx S γ w, Rep K G γ H wx x ∧ StoreOk K G γ H S ∧ opSl wx lo hi S = some w ∧
  ∀ v γ' H', Ext γ H γ' H' → Rep K G γ' H' w v → StoreOk K G γ' H' S → Q v H'
theorem cut_reps {K : PySem.W.Frag} {γ : Ga} {H : Hp} {xs : List W} {vs : List V} (q : Reps K G γ H xs vs) (lo hi : Option Int) : Reps K G γ H (cutW xs lo hi) (cutV vs lo hi) := by
  have e : cutV vs lo hi = (vs.drop (sIxW xs.length 0 lo)).take (sIxW xs.length xs.length hi - sIxW xs.length 0 lo) := by
    unfold cutV
    rw [← q.length]
    cases lo <;> cases hi <;> rfl
  rw [e]
  exact (q.drop _).take _
theorem sl_W : SlR X (rSlW X.K G) := by
  refine (SlR.or sl_str (SlR.or sl_tupA sl_list)).imp ?_
  rintro x lo hi H Q ⟨wx, S, γ, w, rx, s, h, k⟩
  unfold opSl at h
  split at h
  · rename_i z
    cases rx with
    | str _ h1 h2 =>
    cases h
    refine .inl ⟨_, rfl, by simpa [Str.length] using h2, ?_⟩
    have e : cutS ⟨z.toArray⟩ lo hi = ⟨(cutW z lo hi).toArray⟩ := by
      unfold cutS cutW
      simp only [Str.length, List.size_toArray]
      cases lo <;> cases hi <;> rfl
    rw [e]
    refine k _ γ H Ext.refl (.str _ (fun c hc => ?_) ?_) s
    · exact h1 c (List.mem_of_mem_drop (List.mem_of_mem_take hc))
    · unfold cutW
      rw [List.length_take, List.length_drop]
      omega
  · rename_i xs
    cases rx with
    | @tup a vs _ f q =>
    cases h
    refine .inr (.inl ⟨a, vs, rfl, f.sq, fun hw => ?_, fun _ p hp => ?_⟩)
    · have e : cutW xs lo hi = xs := by
        have z1 : sIxW xs.length 0 lo = 0 := by
          have := hw.1
          rw [← q.length] at this
          cases lo <;> exact this
        have z2 : sIxW xs.length xs.length hi = xs.length := by
          have := hw.2
          rw [← q.length] at this
          cases hi <;> exact this
        unfold cutW
        rw [z1, z2]
        simp
      rw [e] at k
      exact k _ γ H Ext.refl (.tup f q) s
    · have ex := Ext.upd (K := X.K) (G := G) s (o := .tup (cutV vs lo hi)) hp
      exact k _ γ _ ex (.tup (.inl ⟨.inl upd_same, s.fresh hp⟩) (cut_reps (q.mono ex) lo hi)) (s.upd hp)
  · cases rx with
    | @scr a vs xs f q =>
    cases h
    refine .inr (.inr ⟨a, vs, rfl, f.sq, fun p hp => ?_⟩)
    have ex := Ext.upd (K := X.K) (G := G) s (o := .lst (cutV vs lo hi)) hp
    exact k _ γ _ ex (.lst upd_same (s.fresh hp) (cut_reps (q.mono ex) lo hi)) (s.upd hp)
  · cases e : lstOf S wx with
    | none => rw [e] at h; cases h
    | some xs =>
      rw [e] at h
      cases h
      obtain ⟨a, vs, rfl, hs, q⟩ := lst_or s e rx
      refine .inr (.inr ⟨a, vs, rfl, hs, fun p hp => ?_⟩)
      have ex := Ext.upd (K := X.K) (G := G) s (o := .lst (cutV vs lo hi)) hp
      exact k _ γ _ ex (.lst upd_same (s.fresh hp) (cut_reps (q.mono ex) lo hi)) (s.upd hp)
variable {a b e : Expr} {es : List Expr} {f g : ME} {ga : MA} {pos p p2 p3 : Pos} {x : Str} {lo hi : Option Expr} {ml mh : MO} {o : OA}
theorem se_ix (ha : SE X G a f) (hb : SE X G b g) (hs : PlainIx b := by exact fun _ _ => rfl) : SE X G (.Subscript a b pos) (mBin opIx f g) := by
  refine ⟨fun Wi tk => (pe_ix (ix_W (G := G)) (ha.run Wi tk) (hb.run Wi tk) hs).imp ?_⟩
  rintro σ H Q ⟨η, S, γ, he, hs, q⟩
  exact ⟨η, S, γ, he, hs, (Post.seq q).imp fun x H1 ⟨wx, S1, γ1, e1, r1, s1, q1⟩ => ⟨η, S1, γ1, he.mono e1, s1, (Post.seq q1).imp fun y H2 ⟨wy, S2, γ2, e2, r2, s2, q2⟩ => rOf_of (r1.mono e2) r2 s2 q2⟩⟩
def toOf (K : PySem.W.Frag) (G : Gs) (Wi : WX) (f : MO) : TO := fun σ H Q => ∃ η S γ, EnvOk K G γ H η σ ∧ StoreOk K G γ H S ∧ Post K G (fun _ _ a b => a = b) (fun c d H' => Wi c d σ H') γ H (f η S) Q
structure SO (X : Cx) (G : Gs) (e : Option Expr) (f : MO) : Prop where
  run : ∀ Wi, Takes X Wi → PO X e (toOf X.K G Wi f)
theorem _root_.L2.PO.imp {X : Cx} {e : Option Expr} {t t' : TO} (h : PO X e t) (i : ∀ σ H Q, t' σ H Q → t σ H Q) : PO X e t' := ⟨fun pins s σ H Q I q => h.run pins s σ H Q I (i _ _ _ q)⟩
theorem so_none : SO X G none moNone := by
  refine ⟨fun Wi tk => po_none.imp ?_⟩
  rintro σ H Q ⟨η, S, γ, he, hs, q⟩
  exact q _ γ H Ext.refl rfl hs
theorem so_some (ha : SE X G a f) : SO X G (some a) (moSome f) := by
  refine ⟨fun Wi tk => (po_some (ha.run Wi tk)).imp ?_⟩
  rintro σ H Q ⟨η, S, γ, he, hs, q⟩
  refine ⟨η, S, γ, he, hs, (Post.seq q).imp fun x H1 ⟨wx, S1, γ1, e1, r1, s1, q1⟩ => ?_⟩
  split at q1
  · cases r1
    exact ⟨_, rfl, q1 _ γ1 H1 Ext.refl rfl s1⟩
  · exact q1.elim
theorem se_sl (ha : SE X G a f) (hl : SO X G lo ml) (hh : SO X G hi mh) : SE X G (.Subscript a (.Slice lo hi none p2) pos) (mSl f ml mh) := by
  refine ⟨fun Wi tk => (pe_slice (sl_W (G := G)) (ha.run Wi tk) (hl.run Wi tk) (hh.run Wi tk)).imp ?_⟩
  rintro σ H Q ⟨η, S, γ, he, hs, q⟩
  refine ⟨η, S, γ, he, hs, (Post.seq q).imp fun x H1 ⟨wx, S1, γ1, e1, r1, s1, q1⟩ => ⟨η, S1, γ1, he.mono e1, s1, (Post.seq (rel := fun _ _ a b => a = b) q1).imp fun l H2 ⟨wl, S2, γ2, e2, r2, s2, q2⟩ => ⟨η, S2, γ2, (he.mono e1).mono e2, s2, (Post.seq (rel := fun _ _ a b => a = b) q2).imp fun u H3 ⟨wu, S3, γ3, e3, r3, s3, q3⟩ => ?_⟩⟩⟩
  cases r2
  cases r3
  cases e : opSl wx l u S3 with
  | none =>
    rw [e] at q3
    exact q3.elim
  | some w =>
    rw [e] at q3
    exact ⟨wx, S3, γ3, w, (r1.mono e2).mono e3, s3, e, fun v γ' H' ex r s' => q3 v γ' H' ex r s'⟩
/-! built-in functions -/
theorem se_bi {id : String} (hc : CallR X (.builtin id) (raOf X.K G o)) (hm : X.mg x = none) (ha : SA X G (e :: es) ga) (hv : bootBuiltins x = some (.builtin id) := by decide +kernel) (hg : Gl X x := by rfl) (hn : x ≠ "__name__" := by decide) (hdb : (x == ("__debug__" : Str)) = false := by decide)
    (he : starEach (e :: es) X.env = (false, eval e X.env) :: starEach es X.env := by rfl) (hpl : (backTo pos (starEach es X.env)).any (·.1) = false := by rfl) : SE X G (.Call (.Name x p) (e :: es) [] pos) (mBi o ga) := by
  refine ⟨fun Wi tk => (pe_callB hc hg hm hv (ha.run Wi tk) hn hdb he hpl).imp ?_⟩
  rintro σ H Q ⟨η, S, γ, he, hs, q⟩
  exact ⟨η, S, γ, he, hs, (Post.seq q).imp fun x H1 ⟨wx, S1, γ1, e1, r1, s1, q1⟩ => raOf_of r1 s1 q1⟩
theorem se_ty {T : String} (hc : CallR X (.type T) (raOf X.K G o)) (hm : X.mg x = none) (ha : SA X G (e :: es) ga) (hv : bootBuiltins x = some (.type T) := by decide +kernel) (hg : Gl X x := by rfl) (hn : x ≠ "__name__" := by decide) (hdb : (x == ("__debug__" : Str)) = false := by decide)
    (he : starEach (e :: es) X.env = (false, eval e X.env) :: starEach es X.env := by rfl) (hpl : (backTo pos (starEach es X.env)).any (·.1) = false := by rfl) : SE X G (.Call (.Name x p) (e :: es) [] pos) (mBi o ga) := by
  refine ⟨fun Wi tk => (pe_callTy hc hg hm hv (ha.run Wi tk) hn hdb he hpl).imp ?_⟩
  rintro σ H Q ⟨η, S, γ, he, hs, q⟩
  exact ⟨η, S, γ, he, hs, (Post.seq q).imp fun x H1 ⟨wx, S1, γ1, e1, r1, s1, q1⟩ => raOf_of r1 s1 q1⟩
/-- a module's name for a built-in function -/
theorem se_bf {id : String} (hc : CallR X (.builtin id) (raOf X.K G o)) (hm : X.mg x = some (.builtin id)) (ha : SA X G (e :: es) ga) (hg : Gl X x := by rfl) (hdb : (x == ("__debug__" : Str)) = false := by decide)
    (he : starEach (e :: es) X.env = (false, eval e X.env) :: starEach es X.env := by rfl) (hpl : (backTo pos (starEach es X.env)).any (·.1) = false := by rfl) : SE X G (.Call (.Name x p) (e :: es) [] pos) (mBi o ga) := by
  refine ⟨fun Wi tk => (pe_callBfun hc hg hm (ha.run Wi tk) hdb he hpl).imp ?_⟩
  rintro σ H Q ⟨η, S, γ, he, hs, q⟩
  exact ⟨η, S, γ, he, hs, (Post.seq q).imp fun x H1 ⟨wx, S1, γ1, e1, r1, s1, q1⟩ => raOf_of r1 s1 q1⟩
theorem cr_len : CallR X (.builtin "len") (raOf X.K G baLen) := by
  refine call_len.imp ?_
  rintro xs H Q ⟨ws, S, γ, w, rs, s, h, k⟩
  unfold baLen at h
  split at h
  · rename_i z
    cases rs with
    | cons r t =>
    cases t
    cases r with
    | str _ h1 h2 =>
    cases h
    refine ⟨_, z.length, rfl, ⟨by simpa [Str.length] using h2, by simp [Str.length]⟩, k _ γ H Ext.refl (.int _) s⟩
  · cases rs with
    | cons r t =>
    cases t
    cases r with
    | tup f q =>
    cases h
    exact ⟨_, _, rfl, .inr ⟨_, f.sq, q.length⟩, k _ γ H Ext.refl (.int _) s⟩
  · cases rs with
    | cons r t =>
    cases t
    cases r with
    | scr f q =>
    cases h
    exact ⟨_, _, rfl, .inl ⟨_, f.sq, q.length⟩, k _ γ H Ext.refl (.int _) s⟩
  · rename_i x _ _ _
    cases rs with
    | cons r t =>
    cases t
    cases e : lstOf S x with
    | none => rw [e] at h; cases h
    | some ys =>
      rw [e] at h
      cases h
      obtain ⟨a, vs, rfl, hs, q⟩ := lst_or s e r
      exact ⟨_, _, rfl, .inl ⟨_, hs, q.length⟩, k _ γ H Ext.refl (.int _) s⟩
  · cases h
theorem cr_abs : CallR X (.builtin "abs") (raOf X.K G baAbs) := by
  refine call_abs.imp ?_
  rintro xs H Q ⟨ws, S, γ, w, rs, s, h, k⟩
  unfold baAbs at h
  split at h
  · cases rs with
    | cons r t =>
    cases t
    cases r
    cases h
    exact ⟨_, rfl, k _ γ H Ext.refl (.int _) s⟩
  · cases h
theorem cr_max2 (hc : X.calm = true) : CallR X (.builtin "max") (raOf X.K G baMax2) := by
  refine (call_max2 hc).imp ?_
  rintro xs H Q ⟨ws, S, γ, w, rs, s, h, k⟩
  unfold baMax2 at h
  split at h
  · cases rs with
    | cons r t =>
    cases t with
    | cons r' t =>
    cases t
    cases r
    cases r'
    cases h
    exact ⟨_, _, rfl, k _ γ H Ext.refl (.int _) s⟩
  · cases h
theorem cr_min2 (hc : X.calm = true) : CallR X (.builtin "min") (raOf X.K G baMin2) := by
  refine (call_min2 hc).imp ?_
  rintro xs H Q ⟨ws, S, γ, w, rs, s, h, k⟩
  unfold baMin2 at h
  split at h
  · cases rs with
    | cons r t =>
    cases t with
    | cons r' t =>
    cases t
    cases r
    cases r'
    cases h
    exact ⟨_, _, rfl, k _ γ H Ext.refl (.int _) s⟩
  · cases h
theorem cr_int : CallR X (.type "int") (raOf X.K G baInt) := by
  intro pins s σ H xs us Q I r0 q
  obtain ⟨ws, S, γ, w, rs, ss, h, k⟩ := q
  unfold baInt at h
  split at h
  · cases rs with
    | cons r t =>
    cases t
    cases r
    cases h
    exact call_int1 pins s σ H _ us Q I r0 (.inl ⟨_, rfl, k _ γ H Ext.refl (.int _) ss⟩)
  · cases rs with
    | cons r t =>
    cases t
    cases r
    cases h
    exact call_int1 pins s σ H _ us Q I r0 (.inr ⟨_, rfl, k _ γ H Ext.refl (.int _) ss⟩)
  · rename_i z
    cases rs with
    | cons r t =>
    cases t
    cases r
    split at h
    · rename_i hd
      cases h
      exact call_int_str pins s σ H _ us Q I r0 ⟨_, _, rfl, SX.int_S hd.1 hd.2.1 (by omega), (by show z.toArray.size ≤ 640; rw [List.size_toArray]; exact hd.2.2), k _ γ H Ext.refl (.int _) ss⟩
    · cases h
  · cases h
theorem numF_eq : ∀ f n : Nat, n < f → numF f n = TL.numL n
  | 0, n, h => absurd h (Nat.not_lt_zero n)
  | f + 1, n, h => by
    unfold numF
    by_cases e : n < 10
    · rw [if_pos e, TL.numL_lt e]
    · rw [if_neg e, numF_eq f (n / 10) (by omega), ← TL.numL_step (by omega)]
theorem numW_eq (n : Nat) : numW n = TL.numL n := numF_eq (n + 1) n (Nat.lt_succ_self n)
theorem numW_len {n : Nat} (h : n.log2 < 1920) : (numW n).length ≤ 640 := by
  rw [numW_eq]
  refine TL.numL_len (by decide) (Nat.lt_of_lt_of_le (Nat.lt_of_lt_of_le (Nat.lt_log2_self (n := n)) (Nat.pow_le_pow_right (by decide) (show n.log2 + 1 ≤ 1920 by omega))) (by decide +kernel))
theorem cr_strW : CallR X (.type "str") (raOf X.K G baStr) := by
  intro pins s σ H xs us Q I r0 q
  obtain ⟨ws, S, γ, w, rs, ss, h, k⟩ := q
  unfold baStr at h
  split at h
  · rename_i i
    cases rs with
    | cons r t =>
    cases t
    cases r
    split at h
    · rename_i hd
      cases h
      refine call_str_int pins s σ H _ us Q I r0 ⟨_, rfl, hd.2, ?_⟩
      have e : i = ((i.natAbs : Nat) : Int) := by omega
      have e2 : PySem.Str.ofString (toString i) = ⟨(numW i.natAbs).toArray⟩ := by
        rw [numW_eq]
        conv => lhs; rw [e]
        exact SX.num_S _
      have r : Rep X.K G γ H (.str (numW i.natAbs)) (.str (PySem.Str.ofString (toString i))) := by
        rw [e2]
        refine Rep.str _ ?_ ?_
        · intro c hc
          rw [numW_eq] at hc
          have := TL.numL_digits _ c hc
          omega
        · exact Nat.le_trans (numW_len hd.2) (by decide)
      exact k _ γ H Ext.refl r ss
    · cases h
  · cases h
theorem divmodW {X : Cx} : CallR X (.builtin "divmod") (fun xs H Q => ∃ i j : Int, xs = [.int i, .int j] ∧ (0 < j ∧ j.natAbs.log2 < 9000) ∧ ∀ p, H p = none → Q (.ref p) (upd H p (.tup [.int (i / j), .int (i % j)]))) := by
  intro pins s σ H xs us Q I r h
  obtain ⟨i, j, rfl, ⟨h1, h2⟩, q⟩ := h
  obtain ⟨u, w', rfl, ⟨t, rfl⟩, ⟨t', rfl⟩⟩ := vals2 r
  refine divmod_int (by omega) ?_ (.inl (PyProof.noPylong_of_log2 h2))
  rw [Int.fdiv_eq_ediv_of_nonneg i (by omega), Int.fmod_eq_emod_of_nonneg i (by omega)]
  have ok : ObjOk X.prog X.w (upd H s.heap.objs.size (.tup [.int (i / j), .int (i % j)])) (s.heap.push { cls := .type "tuple", data := .seq #[.int (i / j) s.toks, .int (i % j) (s.toks + 1)] }) s.heap.objs.size (.tup [.int (i / j), .int (i % j)]) :=
    ⟨by show 2 ≤ sizeLine; rw [sizeLine_eq]; decide, [.int (i / j) s.toks, .int (i % j) (s.toks + 1)], .cons ⟨_, rfl⟩ (.cons ⟨_, rfl⟩ .nil), _, Heap.get?_push_size s.heap rfl, rfl, 0, rfl⟩
  exact ⟨.ref s.heap.objs.size, _, I.laid (fun b o e => Heap.get?_push_of_some _ e) (Nat.le_refl _) ok, rfl, q _ (I.hok.fresh (Nat.le_refl _))⟩
theorem cr_divmod : CallR X (.builtin "divmod") (raOf X.K G baDivmod) := by
  refine divmodW.imp ?_
  rintro xs H Q ⟨ws, S, γ, w, rs, s, h, k⟩
  unfold baDivmod at h
  split at h
  · cases rs with
    | cons r t =>
    cases t with
    | cons r' t =>
    cases t
    cases r
    cases r'
    split at h
    · rename_i i j hd
      cases h
      refine ⟨_, _, rfl, hd, fun p hp => ?_⟩
      have ex := Ext.upd (K := X.K) (G := G) s (o := .tup [.int (i / j), .int (i % j)]) hp
      exact k _ γ _ ex (.tup (.inl ⟨.inl upd_same, s.fresh hp⟩) (.cons (.int _) (.cons (.int _) .nil))) (s.upd hp)
    · cases h
  · cases h
theorem cr_gcdW : CallR X (.builtin "math.gcd") (raOf X.K G baGcd) := by
  refine cr_gcd.imp ?_
  rintro xs H Q ⟨ws, S, γ, w, rs, s, h, k⟩
  unfold baGcd at h
  split at h
  · cases rs with
    | cons r t =>
    cases t with
    | cons r' t =>
    cases t
    cases r
    cases r'
    cases h
    exact ⟨_, _, rfl, k _ γ H Ext.refl (.int _) s⟩
  · cases h
theorem cr_combW : CallR X (.builtin "math.comb") (raOf X.K G baComb) := by
  intro pins s σ H xs us Q I r0 q
  obtain ⟨ws, S, γ, w, rs, ss, h, k⟩ := q
  unfold baComb at h
  split at h
  · rename_i a b
    cases rs with
    | cons r t =>
    cases t with
    | cons r' t =>
    cases t
    cases r
    cases r'
    split at h
    · rename_i hd
      cases h
      obtain ⟨t, u, rfl⟩ := Vals.int2 r0
      refine PySem.W.mc_comb hd.1 hd.2.1 (by omega) (.inr hd.2.2) fun _ => ⟨.int _, H, I.tok _, ⟨_, rfl⟩, ?_⟩
      exact k _ γ H Ext.refl (.int _) ss
    · cases h
  · cases h
theorem intsOf_reps {K : PySem.W.Frag} {γ : Ga} {H : Hp} : ∀ {xs : List W} {vs : List V} {ns : List Int}, Reps K G γ H xs vs → intsOf xs = some ns → vs = ns.map V.int
  | [], _, ns, .nil, h => by cases h; rfl
  | x :: xs, _, ns, .cons r t, h => by
    cases r with
    | int i =>
      have h : (intsOf xs).map (i :: ·) = some ns := h
      cases e : intsOf xs with
      | none => rw [e] at h; cases h
      | some ms =>
        rw [e] at h
        have h : some (i :: ms) = some ns := h
        cases h
        rw [intsOf_reps t e]
        rfl
    | _ => simp [intsOf] at h
theorem bls_reps {K : PySem.W.Frag} {γ : Ga} {H : Hp} : ∀ {xs : List W} {vs : List V} {ns : List Bool}, Reps K G γ H xs vs → bls xs = some ns → vs = ns.map V.bl
  | [], _, ns, .nil, h => by cases h; rfl
  | x :: xs, _, ns, .cons r t, h => by
    cases r with
    | bl i =>
      have h : (bls xs).map (i :: ·) = some ns := h
      cases e : bls xs with
      | none => rw [e] at h; cases h
      | some ms =>
        rw [e] at h
        have h : some (i :: ms) = some ns := h
        cases h
        rw [bls_reps t e]
        rfl
    | _ => simp [bls] at h
theorem strsOf_reps {K : PySem.W.Frag} {γ : Ga} {H : Hp} : ∀ {xs : List W} {vs : List V} {ns : List (List Nat)}, Reps K G γ H xs vs → strsOf xs = some ns → vs = (ns.map fun l => (⟨l.toArray⟩ : Str)).map V.str ∧ ∀ l ∈ ns, ∀ c ∈ l, c < 0x110000
  | [], _, ns, .nil, h => by cases h; exact ⟨rfl, fun l hl => by cases hl⟩
  | x :: xs, _, ns, .cons r t, h => by
    cases r with
    | str i h1 h2 =>
      have h : (strsOf xs).map (i :: ·) = some ns := h
      cases e : strsOf xs with
      | none => rw [e] at h; cases h
      | some ms =>
        rw [e] at h
        have h : some (i :: ms) = some ns := h
        cases h
        obtain ⟨e1, e2⟩ := strsOf_reps t e
        rw [e1]
        refine ⟨rfl, fun l hl => ?_⟩
        rcases List.mem_cons.mp hl with z | z
        · rw [z]; exact h1
        · exact e2 l z
    | _ => simp [strsOf] at h
theorem cr_sumW (hc : X.calm = true) : CallR X (.builtin "sum") (raOf X.K G baSum) := by
  refine (cr_sum hc).imp ?_
  rintro xs H Q ⟨ws, S, γ, w, rs, s, h, k⟩
  unfold baSum at h
  split at h
  · rename_i ys
    cases rs with
    | cons r t =>
    cases t
    cases e : intsOf ys with
    | none => rw [e] at h; cases h
    | some ns =>
      rw [e] at h
      cases h
      cases r with
      | @scr a vs _ f q =>
      have ev := intsOf_reps q e
      subst ev
      exact ⟨a, ns, rfl, f.sq, k _ γ H Ext.refl (.int _) s⟩
  · rename_i x _
    cases rs with
    | cons r t =>
    cases t
    cases e : lstOf S x with
    | none => rw [e] at h; cases h
    | some ys =>
      rw [e] at h
      cases e2 : intsOf ys with
      | none =>
        have h : (intsOf ys).map (fun ns => W.int ns.sum) = some w := h
        rw [e2] at h; cases h
      | some ns =>
        have h : (intsOf ys).map (fun ns => W.int ns.sum) = some w := h
        rw [e2] at h
        cases h
        obtain ⟨a, vs, rfl, hs, q⟩ := lst_or s e r
        have ev := intsOf_reps q e2
        subst ev
        exact ⟨a, ns, rfl, hs, k _ γ H Ext.refl (.int _) s⟩
  · cases h
theorem cr_allW (hc : X.calm = true) : CallR X (.builtin "all") (raOf X.K G baAll) := by
  refine (cr_all hc).imp ?_
  rintro xs H Q ⟨ws, S, γ, w, rs, s, h, k⟩
  unfold baAll at h
  split at h
  · rename_i x
    cases rs with
    | cons r t =>
    cases t
    cases e : lstOf S x with
    | none => rw [e] at h; cases h
    | some ys =>
      rw [e] at h
      cases e2 : bls ys with
      | none =>
        have h : (bls ys).map (fun bs => W.bl (bs.all id)) = some w := h
        rw [e2] at h; cases h
      | some ns =>
        have h : (bls ys).map (fun bs => W.bl (bs.all id)) = some w := h
        rw [e2] at h
        cases h
        obtain ⟨a, vs, rfl, hs, q⟩ := lst_or s e r
        have ev := bls_reps q e2
        subst ev
        exact ⟨a, ns, rfl, hs, k _ γ H Ext.refl (.bl _) s⟩
  · cases h
theorem cr_anyW (hc : X.calm = true) : CallR X (.builtin "any") (raOf X.K G baAny) := by
  refine (cr_any hc).imp ?_
  rintro xs H Q ⟨ws, S, γ, w, rs, s, h, k⟩
  unfold baAny at h
  split at h
  · rename_i x
    cases rs with
    | cons r t =>
    cases t
    cases e : lstOf S x with
    | none => rw [e] at h; cases h
    | some ys =>
      rw [e] at h
      cases e2 : bls ys with
      | none =>
        have h : (bls ys).map (fun bs => W.bl (bs.any id)) = some w := h
        rw [e2] at h; cases h
      | some ns =>
        have h : (bls ys).map (fun bs => W.bl (bs.any id)) = some w := h
        rw [e2] at h
        cases h
        obtain ⟨a, vs, rfl, hs, q⟩ := lst_or s e r
        have ev := bls_reps q e2
        subst ev
        exact ⟨a, ns, rfl, hs, k _ γ H Ext.refl (.bl _) s⟩
  · cases h
theorem cr_tupleW : CallR X (.type "tuple") (raOf X.K G baTuple) := by
  refine call_tuple_of.imp ?_
  rintro xs H Q ⟨ws, S, γ, w, rs, s, h, k⟩
  unfold baTuple at h
  split at h
  · cases rs with
    | cons r t =>
    cases t
    cases r with
    | tup f q =>
    cases h
    exact ⟨_, _, rfl, .inr ⟨f.sq, k _ γ H Ext.refl (.tup f q) s⟩⟩
  · rename_i x _
    cases rs with
    | cons r t =>
    cases t
    cases e : lstOf S x with
    | none => rw [e] at h; cases h
    | some ys =>
      rw [e] at h
      cases h
      obtain ⟨a, vs, rfl, hs, q⟩ := lst_or s e r
      refine ⟨a, vs, rfl, .inl ⟨hs, fun p hp => ?_⟩⟩
      have ex := Ext.upd (K := X.K) (G := G) s (o := .tup vs) hp
      exact k _ γ _ ex (.tup (.inl ⟨.inl upd_same, s.fresh hp⟩) (q.mono ex)) (s.upd hp)
  · cases h
theorem cr_listW : CallR X (.type "list") (raOf X.K G baList) := by
  refine call_list_of.imp ?_
  rintro xs H Q ⟨ws, S, γ, w, rs, s, h, k⟩
  unfold baList at h
  split at h
  · cases rs with
    | cons r t =>
    cases t
    cases r with
    | @tup a vs _ f q =>
    cases h
    refine ⟨_, _, rfl, .inr f.sq, fun p hp => ?_⟩
    have ex := Ext.upd (K := X.K) (G := G) s (o := .lst vs) hp
    exact k _ γ _ ex (.lst upd_same (s.fresh hp) (q.mono ex)) (s.upd hp)
  · rename_i x _
    cases rs with
    | cons r t =>
    cases t
    cases e : lstOf S x with
    | none => rw [e] at h; cases h
    | some ys =>
      rw [e] at h
      cases h
      obtain ⟨a, vs, rfl, hs, q⟩ := lst_or s e r
      refine ⟨a, vs, rfl, .inl hs, fun p hp => ?_⟩
      have ex := Ext.upd (K := X.K) (G := G) s (o := .lst vs) hp
      exact k _ γ _ ex (.lst upd_same (s.fresh hp) (q.mono ex)) (s.upd hp)
  · cases h
/-! isinstance of a built-in type -/
def tyNm : Nat → String
  | 0 => "NoneType" | 1 => "bool" | 2 => "int" | 3 => "str" | 4 => "tuple" | 5 => "list" | _ => "dict"
theorem kind_kit {k c : Nat} (hk : k < 7) (hc : 1 ≤ c ∧ c < 7) : kitB (tyNm k) (tyNm c) = some (isKind k c) := by
  have all : ∀ k, k < 7 → ∀ c, c < 7 → 1 ≤ c → kitB (tyNm k) (tyNm c) = some (isKind k c) := by decide +kernel
  exact all k hk c hc.2 hc.1
theorem kind_ty {K : PySem.W.Frag} {γ : Ga} {H : Hp} {S : Store} {w : W} {v : V} {k : Nat} (s : StoreOk K G γ H S) (r : Rep K G γ H w v) (h : kindOf S w = some k) : k < 7 ∧ TyX K H v (.type (tyNm k)) := by
  cases r with
  | non => cases h; exact ⟨by decide, .base .non⟩
  | bl b => cases h; exact ⟨by decide, .base (.bl b)⟩
  | int i => cases h; exact ⟨by decide, .base (.int i)⟩
  | str l _ _ => cases h; exact ⟨by decide, .base (.str _)⟩
  | tup f q =>
    cases h
    refine ⟨by decide, ?_⟩
    rcases f with ⟨f | ⟨o, f⟩, _⟩ | ⟨o, its, n, hl, hc, _⟩
    · exact .base (.tup f)
    · exact .fTuple f
    · exact .kTuple hl hc
  | lst f _ q => cases h; exact ⟨by decide, .base (.lst f)⟩
  | scr f q =>
    cases h
    rcases f with ⟨⟨o, f⟩, _⟩ | ⟨o, its, n, hl, hc, _⟩
    · exact ⟨by decide, .base (.frz f)⟩
    · exact ⟨by decide, .kList hl hc⟩
  | @ref i a ha =>
    have h' : (match S[i]? with
      | some (.lst _) => some 5
      | some (.dct _ _) => some 6
      | _ => none) = some k := h
    split at h'
    · rename_i xs hc
      cases h'
      obtain ⟨_, vs, hv, _⟩ := s.cell i _ a hc ha
      exact ⟨by decide, .base (.lst hv)⟩
    · rename_i ks vs hc
      obtain ⟨_, _, us, d, _⟩ := s.cell i _ a hc ha
      cases h'
      rcases d with ⟨_, d, _⟩ | ⟨_, d, _⟩
      · exact ⟨by decide, .base (.dK d)⟩
      · exact ⟨by decide, .base (.dT d)⟩
    · cases h'
  | exc h1 f r => cases h
  | fn f => cases h
  | dct d f q =>
    cases h
    rcases d with ⟨_, d, _⟩ | ⟨_, d, _⟩
    · exact ⟨by decide, .base (.dK d)⟩
    · exact ⟨by decide, .base (.dT d)⟩
theorem se_isi (c : Nat) (hm : X.mg "isinstance" = none) (hmt : X.mg x = none) (ha : SE X G a f) (hv : bootBuiltins x = some (.type (tyNm c)) := by decide +kernel) (hc : 1 ≤ c ∧ c < 7 := by decide)
    (hg : Gl X "isinstance" := by rfl) (hgt : Gl X x := by rfl) (hn : x ≠ "__name__" := by decide) (hdb : (x == ("__debug__" : Str)) = false := by decide)
    (h1 : starEach (a :: [.Name x p2]) X.env = (false, eval a X.env) :: starEach [.Name x p2] X.env := by rfl) (h2 : starEach [.Name x p2] X.env = (false, eval (.Name x p2) X.env) :: starEach [] X.env := by rfl)
    (hpl : (backTo pos (starEach [.Name x p2] X.env)).any (·.1) = false := by rfl) : SE X G (.Call (.Name "isinstance" p) [a, .Name x p2] [] pos) (mUn (opIsi c) f) := by
  refine ⟨fun Wi tk => (pe_callB call_isi hg hm (by decide +kernel) (pa_cons (ha.run Wi tk) (pa_cons (pe_bltn (v := .ty (tyNm c)) hgt hmt hv rfl hn hdb) pa_nil h2) h1) (by decide) (by decide) h1 hpl).imp ?_⟩
  rintro σ H Q ⟨η, S, γ, he, hs, q⟩
  refine ⟨η, S, γ, he, hs, (Post.seq q).imp fun x H1 ⟨wx, S1, γ1, e1, r1, s1, q1⟩ => ?_⟩
  unfold opIsi at q1
  cases e : kindOf S1 wx with
  | none =>
    rw [e] at q1
    exact q1.elim
  | some k =>
    rw [e] at q1
    obtain ⟨k7, ty⟩ := kind_ty s1 r1 e
    exact ⟨x, .ty (tyNm c), _, _, _, rfl, .ty _, ty, kit_ty (kind_kit k7 hc), q1 _ γ1 H1 Ext.refl (.bl _) s1⟩
/-! texts joined -/
theorem join_W {a : List Nat} : ∀ {zs : List (List Nat)}, Txt.join ⟨a.toArray⟩ (zs.map fun l => (⟨l.toArray⟩ : Str)) = ⟨(joinW a zs).toArray⟩ := by
  intro zs
  rw [TL.join_eq]
  induction zs with
  | nil => rfl
  | cons z zs ih =>
    cases zs with
    | nil => rfl
    | cons y zs =>
      show (⟨z.toArray⟩ : Str) ++ ⟨a.toArray⟩ ++ Str.join ⟨a.toArray⟩ (List.map (fun l => (⟨l.toArray⟩ : Str)) (y :: zs)) = _
      rw [ih]
      show Str.mk ((z.toArray ++ a.toArray) ++ (joinW a (y :: zs)).toArray) = _
      simp [joinW]
theorem joinW_mem {a : List Nat} {c : Nat} : ∀ {zs : List (List Nat)}, c ∈ joinW a zs → c ∈ a ∨ ∃ z ∈ zs, c ∈ z
  | [], h => by cases h
  | [z], h => .inr ⟨z, List.mem_singleton.mpr rfl, h⟩
  | z :: y :: zs, h => by
    unfold joinW at h
    rcases List.mem_append.mp h with h | h
    · rcases List.mem_append.mp h with h | h
      · exact .inr ⟨z, List.mem_cons_self .., h⟩
      · exact .inl h
    · rcases joinW_mem h with h | ⟨u, hu, h⟩
      · exact .inl h
      · exact .inr ⟨u, List.mem_cons_of_mem _ hu, h⟩
theorem joinW_len {a : List Nat} : ∀ {zs : List (List Nat)}, (joinW a zs).length ≤ (zs.map (·.length)).sum + zs.length * a.length
  | [] => Nat.zero_le _
  | [z] => by simp [joinW]
  | z :: y :: zs => by
    have ih := joinW_len (a := a) (zs := y :: zs)
    unfold joinW
    simp only [List.length_append, List.map_cons, List.sum_cons, List.length_cons] at ih ⊢
    rw [Nat.add_mul] at ih ⊢
    rw [Nat.add_mul]
    omega
def mJoin (f g : ME) : ME := fun η S => (f η S).bind fun x S1 => match x with
  | .str a => (g η S1).bind fun y S2 => rOpt (opJoin (.str a) y S2) S2
  | _ => .stuck
theorem se_join (ha : SE X G a f) (hb : SE X G b g) (hs1 : starEach [b] X.env = [(false, eval b X.env)] := by rfl) (hbase : attributeBase a "join" X.env (eval a X.env) = eval a X.env := by rfl) (hline : (p.endLine == pos.line) = true := by rfl) :
    SE X G (.Call (.Attribute a "join" p) [b] [] pos) (mJoin f g) := by
  refine ⟨fun Wi tk => (pe_join (ha.run Wi tk) (hb.run Wi tk) hs1 hbase hline).imp ?_⟩
  rintro σ H Q ⟨η, S, γ, he, hs, q⟩
  refine ⟨η, S, γ, he, hs, (Post.seq q).imp fun x H1 ⟨wx, S1, γ1, e1, r1, s1, q1⟩ => ?_⟩
  split at q1
  · rename_i l
    cases r1 with
    | str _ a1 a2 =>
    refine ⟨⟨_, rfl⟩, η, S1, γ1, he.mono e1, s1, (Post.seq q1).imp fun y H2 ⟨wy, S2, γ2, e2, r2, s2, q2⟩ => ?_⟩
    unfold opJoin at q2
    cases es : seqOf S2 wy with
    | none =>
      simp only [es] at q2
      exact q2.elim
    | some ys =>
      simp only [es] at q2
      replace q2 : Post X.K G (Rep X.K G) (fun c d H' => Wi c d σ H') γ2 H2 (rOpt ((strsOf ys).bind fun zs => if (zs.map (·.length)).sum + zs.length * l.length ≤ bigLine then some (.str (joinW l zs)) else none) S2) Q := q2
      cases ez : strsOf ys with
      | none =>
        rw [ez] at q2
        exact q2.elim
      | some zs =>
        rw [ez] at q2
        replace q2 : Post X.K G (Rep X.K G) (fun c d H' => Wi c d σ H') γ2 H2 (rOpt (if (zs.map (·.length)).sum + zs.length * l.length ≤ bigLine then some (.str (joinW l zs)) else none) S2) Q := q2
        by_cases hl : (zs.map (·.length)).sum + zs.length * l.length ≤ bigLine
        · rw [if_pos hl] at q2
          have key : ∃ p vs, y = .ref p ∧ (SqL X.K H2 p vs ∨ SqT X.K H2 p vs) ∧ Reps X.K G γ2 H2 ys vs := by
            cases r2 with
            | tup fr q =>
              cases es
              exact ⟨_, _, rfl, .inr fr.sq, q⟩
            | lst h1 o1 q =>
              have es : lstOf S2 (W.lst _) = some ys := es
              obtain ⟨p, vs, e, hv, q⟩ := lst_or s2 es (.lst h1 o1 q)
              exact ⟨p, vs, e, .inl hv, q⟩
            | @ref i ad h1 =>
              have es : lstOf S2 (W.ref i) = some ys := es
              obtain ⟨p, vs, e, hv, q⟩ := lst_or s2 es (.ref h1)
              exact ⟨p, vs, e, .inl hv, q⟩
            | _ => cases es
          obtain ⟨p, vs, rfl, hsq, qr⟩ := key
          obtain ⟨ev, hc⟩ := strsOf_reps qr ez
          subst ev
          refine ⟨⟨l.toArray⟩, p, zs.map fun l => (⟨l.toArray⟩ : Str), rfl, rfl, hsq, ?_, ?_⟩
          · have e1 : ((zs.map fun l => (⟨l.toArray⟩ : Str)).map (·.length)) = zs.map (·.length) := by
              rw [List.map_map]
              exact List.map_congr_left fun l _ => by simp [Str.length]
            rw [e1, List.length_map]
            have e2 : (⟨l.toArray⟩ : Str).length = l.length := by simp [Str.length]
            rw [e2]
            exact hl
          · rw [join_W]
            refine q2 _ γ2 H2 Ext.refl (.str _ (fun c hc' => ?_) ?_) s2
            · rcases joinW_mem hc' with z | ⟨u, hu, z⟩
              · exact a1 c z
              · exact hc u hu c z
            · have := joinW_len (a := l) (zs := zs)
              rw [← bigLine_eq]
              omega
        · rw [if_neg hl] at q2
          exact q2.elim
  · exact q1.elim
/-! in, not in -/
theorem flat_rep {K : PySem.W.Frag} {γ : Ga} {H : Hp} {w : W} {v : V} (r : Rep K G γ H w v) (f : flat w = true) : flatV v = true := by
  cases r <;> first | rfl | cases f
theorem flats_rep {K : PySem.W.Frag} {γ : Ga} {H : Hp} : ∀ {ws : List W} {vs : List V}, Reps K G γ H ws vs → ws.all flat = true → vs.all flatV = true
  | _, _, .nil, _ => rfl
  | _, _, .cons r t, h => by
    rw [List.all_cons, Bool.and_eq_true] at h ⊢
    exact ⟨flat_rep r h.1, flats_rep t h.2⟩
theorem eqV_rep {K : PySem.W.Frag} {γ : Ga} {H : Hp} {w u : W} {v x : V} (r : Rep K G γ H w v) (q : Rep K G γ H u x) (f : flat w = true) (g : flat u = true) : eqV v x = eqW w u := by
  cases r with
  | str _ _ _ =>
    cases q with
    | str _ _ _ => unfold eqV eqW; exact str_beqW _ _
    | _ => first | (simp [eqV, eqW]; done) | cases g
  | non => cases q <;> first | (simp [eqV, eqW]; done) | cases g
  | bl _ => cases q <;> first | (simp [eqV, eqW]; done) | cases g
  | int _ => cases q <;> first | (simp [eqV, eqW]; done) | cases g
  | _ => cases f
theorem inV_rep {K : PySem.W.Frag} {γ : Ga} {H : Hp} {u : W} {x : V} (q : Rep K G γ H u x) (g : flat u = true) : ∀ {ws : List W} {vs : List V}, Reps K G γ H ws vs → ws.all flat = true → inV x vs = inW u ws
  | _, _, .nil, _ => rfl
  | _, _, .cons r t, h => by
    rw [List.all_cons, Bool.and_eq_true] at h
    have ih := inV_rep q g t h.2
    unfold inV inW at ih ⊢
    rw [List.any_cons, List.any_cons, ih, eqV_rep r q h.1 g]
theorem toDs_map : ∀ xs : List W, toDs xs = xs.map toD
  | [] => rfl
  | x :: xs => by unfold toDs; rw [toDs_map xs]; rfl
theorem shaped_of {d : PyData} {n : Nat} (h1 : d.canLay0 = true) (h2 : d.depth ≤ n) (h3 : n ≤ 64) : SeqAt.shaped d = true := by
  unfold SeqAt.shaped
  rw [h1, decide_eq_true (show d.depth ≤ 64 by omega)]
  rfl
theorem in_core {neg : Bool} {f : Value → Value → Sem Value} (h1 : OpR X f (fun x y H Q => ∃ (c : Nat) (z : Str), x = .str ⟨#[c]⟩ ∧ y = .str z ∧ Q (.bl (if neg then !decide (c ∈ z.cps.toList) else decide (c ∈ z.cps.toList))) H))
    (h2 : OpR X f (rIn X.K neg)) (h3 : OpR X f (fun x y H Q => ∃ d ds, Dp X.K H x d ∧ Dp X.K H y (.list ds) ∧ SeqAt.shaped d = true ∧ SeqAt.shaped (.list ds) = true ∧ Q (.bl (if neg then !ds.any fun z => PyData.eqv z d else ds.any fun z => PyData.eqv z d)) H)) :
    OpR X f (fun x y H Q => ∃ wx wy S γ b, Rep X.K G γ H wx x ∧ Rep X.K G γ H wy y ∧ StoreOk X.K G γ H S ∧ opIn wx wy S = some (.bl b) ∧ Q (.bl (if neg then !b else b)) H) := by
  refine (OpR.or h1 (OpR.or h2 h3)).imp ?_
  rintro x y H Q ⟨wx, wy, S, γ, b, rx, ry, s, h, k⟩
  unfold opIn at h
  split at h
  · rename_i c z
    cases rx
    cases ry
    cases h
    exact .inl ⟨c, _, rfl, rfl, k⟩
  · cases es : seqOf S wy with
    | none => simp only [es] at h; cases h
    | some ys =>
      simp only [es] at h
      have key : ∃ p vs, y = .ref p ∧ (SqL X.K H p vs ∨ SqT X.K H p vs) ∧ Reps X.K G γ H ys vs := by
        cases ry with
        | tup fr q =>
          cases es
          exact ⟨_, _, rfl, .inr fr.sq, q⟩
        | lst h1 o1 q =>
          have es : lstOf S (W.lst _) = some ys := es
          obtain ⟨p, vs, e, hv, q⟩ := lst_or s es (.lst h1 o1 q)
          exact ⟨p, vs, e, .inl hv, q⟩
        | @ref i ad h1 =>
          have es : lstOf S (W.ref i) = some ys := es
          obtain ⟨p, vs, e, hv, q⟩ := lst_or s es (.ref h1)
          exact ⟨p, vs, e, .inl hv, q⟩
        | _ => cases es
      split at h
      · rename_i hf
        cases h
        obtain ⟨p, vs, rfl, hsq, qr⟩ := key
        refine .inr (.inl ⟨p, vs, rfl, hsq, flat_rep rx hf.1, flats_rep qr hf.2, ?_⟩)
        rw [inV_rep rx hf.1 qr hf.2]
        exact k
      · cases el : lstOf S wy with
        | none => simp only [el] at h; cases h
        | some zs =>
          simp only [el] at h
          split at h
          · rename_i hd
            cases h
            obtain ⟨a, vs, rfl, hv, q⟩ := lstOf_rep s el ry
            obtain ⟨l1, l2⟩ := lay_of wx x 30 hd.1 rx
            obtain ⟨m1, m2⟩ := lays_of zs vs 29 hd.2 q
            refine .inr (.inr ⟨toD wx, toDs zs, dp_of wx x 30 hd.1 rx, .lst (SqL.of hv) (dps_of zs _ 29 hd.2 q), shaped_of l1 l2 (by decide), shaped_of (n := 30) (by simp only [PyData.canLay0]; exact m1) (by simp only [PyData.depth]; omega) (by decide), ?_⟩)
            have e : ((toDs zs).any fun z => PyData.eqv z (toD wx)) = inW wx zs := by
              unfold inW
              rw [toDs_map, List.any_map]
              have hz : ∀ z ∈ zs, okD z 29 = true := by
                have : ∀ (l : List W), okDs l 29 = true → ∀ z ∈ l, okD z 29 = true := by
                  intro l
                  induction l with
                  | nil => intro _ z hz; cases hz
                  | cons y l ih =>
                    intro h z hz
                    unfold okDs at h
                    obtain ⟨a1, a2⟩ := Bool.and_eq_true_iff.mp h
                    rcases List.mem_cons.mp hz with e | e
                    · rw [e]; exact a1
                    · exact ih a2 z e
                exact this zs hd.2
              clear m1 m2 q hv
              have : ∀ (l : List W), (∀ z ∈ l, okD z 29 = true) → l.any ((fun z => PyData.eqv z (toD wx)) ∘ toD) = l.any fun y => eqW y wx := by
                intro l
                induction l with
                | nil => intro _; rfl
                | cons y l ih =>
                  intro h
                  rw [List.any_cons, List.any_cons, ih fun z hz => h z (List.mem_cons_of_mem _ hz)]
                  show (PyData.eqv (toD y) (toD wx) || _) = _
                  rw [eqv_of y wx _ _ (h y (List.mem_cons_self ..)) hd.1]
              exact this zs hz
            rw [e]
            exact k
          · cases h
theorem opIn_bl {x y w : W} {S : Store} (h : opIn x y S = some w) : ∃ b, w = .bl b := by
  unfold opIn at h
  repeat' split at h
  all_goals first | (cases h; exact ⟨_, rfl⟩) | cases h
theorem o2_in (hu : X.A.units + 65 < cLine) : OpR X (compareOp .In) (rOf X.K G opIn) := by
  refine (in_core (G := G) (neg := false) op_in_sign op_in_seq (op_inD hu)).imp ?_
  rintro x y H Q ⟨wx, wy, S, γ, w, rx, ry, s, h, k⟩
  obtain ⟨b, rfl⟩ := opIn_bl h
  exact ⟨wx, wy, S, γ, b, rx, ry, s, h, k _ γ H Ext.refl (.bl _) s⟩
theorem o2_notIn (hu : X.A.units + 65 < cLine) : OpR X (compareOp .NotIn) (rOf X.K G opNotIn) := by
  refine (in_core (G := G) (neg := true) op_notIn_sign op_notIn_seq (op_notInD hu)).imp ?_
  rintro x y H Q ⟨wx, wy, S, γ, w, rx, ry, s, h, k⟩
  unfold opNotIn at h
  cases e : opIn wx wy S with
  | none => rw [e] at h; cases h
  | some z =>
    rw [e] at h
    obtain ⟨b, rfl⟩ := opIn_bl e
    cases h
    exact ⟨wx, wy, S, γ, b, rx, ry, s, e, k _ γ H Ext.refl (.bl _) s⟩
/-- a new list of the store -/
def mLstS (g : MA) : ME := fun η S => (g η S).bind fun xs S1 => if pures xs = true then sized xs.length (.ok (.ref S1.length) (S1 ++ [.lst xs])) else .stuck
theorem se_lstS (h : SA X G es ga) : SE X G (.List es pos) (mLstS ga) := by
  refine ⟨fun Wi tk => (pe_lst (h.run Wi tk)).imp ?_⟩
  rintro σ H Q ⟨η, S, γ, he, hs, q⟩
  refine ⟨η, S, γ, he, hs, (Post.seq q).imp fun x H1 ⟨wx, S1, γ1, e1, r1, s1, q1⟩ => ?_⟩
  split at q1
  · rename_i pw
    obtain ⟨hl, q1⟩ := sized_post q1
    refine ⟨by rw [← r1.length]; exact hl, fun p hp => ?_⟩
    have ex := Ext.push (K := X.K) (G := G) s1 (o := .lst x) hp
    refine q1 _ (γ1.push p) _ ex (.ref ?_) (s1.push hp pw r1)
    show (γ1.ρ ++ [p])[S1.length]? = some p
    rw [← s1.len, List.getElem?_append_right (Nat.le_refl _), Nat.sub_self]
    rfl
  · exact q1.elim
/-- how many values a row of targets takes -/
def GLen (gs : MGs) (n : Nat) : Prop := ∀ ws η S r, gs ws η S = some r → ws.length = n
theorem glen_nil : GLen gsNil 0 := fun ws η S r h => by
  cases ws with
  | nil => rfl
  | cons _ _ => cases h
theorem glen_cons {g : MG} {gs : MGs} {n : Nat} (h : GLen gs n) : GLen (gsCons g gs) (n + 1) := fun ws η S r e => by
  cases ws with
  | nil => cases e
  | cons w ws =>
    have e : (g w η S).bind (fun (η1, S1) => gs ws η1 S1) = some r := e
    cases eg : g w η S with
    | none => rw [eg] at e; cases e
    | some p =>
      rw [eg] at e
      rw [List.length_cons, h _ _ _ _ e]
end
end Mp

set_option Elab.async false
set_option linter.all false
set_option maxRecDepth 100000
set_option maxHeartbeats 4000000
/-! Mp: the program's functions, to a depth; the law's end. -/
namespace Mp
open PySem PySem.Spec PyProof.Rows L2
section
variable {P : Program} {w : World} {K : PySem.W.Frag} {mg : Str → Option Value} {base : Heap} {G : Gs} {T : List Mp.Fun} {D : List FnR} {d f : Nat} {r : FnR} {fd : FuncData}
theorem ft_zero (hgl : mg r.x = some (.ref (G.fa f))) (F : FunD K r.x r.x (defArgs r.st) (defBody r.st) (defScope r.st) [] [] (G.fa f) fd) (b : Binds K fd r.ps []) : FT P w K mg base G 0 (fns T 0 f) f r fd where
  ok := ⟨fun vs H Q E h => h.1, fun A outer s H args us vs Q E hr he hb hv h => by
    obtain ⟨_, ws, S, γ, _, _, q⟩ := h
    exact q.elim⟩
  gl := hgl
  F := F
  b := b
  len := fun ws S h => absurd rfl h
theorem getElem?_start {N : List Str} {vs : List V} {i : Nat} {v : V} (h : vs[i]? = some v) : (L2.start N vs)[i]? = some (some v) := by
  unfold L2.start
  have hi : i < vs.length := (List.getElem?_eq_some_iff.mp h).1
  rw [List.getElem?_append_left (by rw [List.length_map]; exact hi), List.getElem?_map, h]
  rfl
theorem env_start {N : List Str} {γ : Ga} {H : Hp} {ws : List W} {vs : List V} {np nv : Nat} (q : Reps K G γ H ws vs) (h1 : ws.length = np) (h2 : nv = N.length) : EnvOk K G γ H (ws.map some ++ List.replicate (nv - np) none) (L2.start N vs) := by
  have hl := q.length
  refine ⟨by unfold L2.start; rw [List.length_append, List.length_append, List.length_map, List.length_map, List.length_replicate, List.length_replicate, ← hl, h1, h2], fun i w hi => ?_⟩
  by_cases lt : i < ws.length
  · rw [List.getElem?_append_left (by rw [List.length_map]; exact lt), List.getElem?_map] at hi
    cases e : ws[i]? with
    | none => rw [e] at hi; cases hi
    | some u =>
      rw [e] at hi
      cases hi
      obtain ⟨v, hv, r⟩ := q.get e
      exact ⟨v, getElem?_start hv, r⟩
  · rw [List.getElem?_append_right (by rw [List.length_map]; omega)] at hi
    have := (List.getElem?_eq_some_iff.mp hi).2
    rw [List.getElem_replicate] at this
    cases this
theorem cfg_of {N ps : List Str} {scope : Scope} {qual : Str} {cdv : Value} {A : Around} {outer : List PySem.Env} {s : Shared} {H : Hp} {E : XK} {fa : Addr} (S : FnScope N ps scope) (hr : Room d (A.deeper (envOfC qual scope s.heap.objs.size fa cdv))) : Cfg (cxOf (L2.CX P w) P w K mg base N qual scope fa cdv A outer s H E) :=
  ⟨rfl, S.nd, passes_of (K := fun e s'' => L2.CX P w outer H s E e s'') rfl, by
    have := hr.un
    show (A.deeper _).units + 100 < cLine
    omega⟩
theorem fn_step {F : Mp.Fun} {N : List Str} (h : FT P w K mg base G d (fns T d f) f r fd) (hT : T[f]? = some F) (hnp : F.np = r.ps.length) (hnv : F.nv = N.length) (S : FnScope N r.ps (defScope r.st))
    (hbody : ∀ (cdv : Value) (A : Around) (outer : List PySem.Env) (s : Shared) (H : Hp) (E : XK), Cfg (cxOf (L2.CX P w) P w K mg base N r.x (defScope r.st) (G.fa f) cdv A outer s H E) → Room (d + 2) (A.deeper (envOfC r.x (defScope r.st) s.heap.objs.size (G.fa f) cdv)) →
      SSs (cxOf (L2.CX P w) P w K mg base N r.x (defScope r.st) (G.fa f) cdv A outer s H E) G (defBody r.st) (F.body (fns T d))) : FT P w K mg base G (d + 1) (fns T (d + 1) f) f r fd where
  ok := by
    refine h.F.ok S (fun vs H Q E q => q.1) fun cdv A outer s H vs Q E hr q => ?_
    obtain ⟨hl, ws, S0, γ, rs, ss, q⟩ := q
    refine ⟨tsOf K G (fun c dd _ H' => E c dd H') (F.body (fns T d)), (hbody cdv A outer s H E (cfg_of S hr) hr).run _ (takes_of rfl rfl rfl rfl), ?_⟩
    have q : Post K G (Rep K G) E γ H (match T[f]? with
      | some F => runF F (fns T d) ws S0
      | none => .stuck) Q := q
    rw [hT] at q
    have q : Post K G (Rep K G) E γ H (if ws.length = F.np then (if F.fr = true then (if pures ws = true then (finS false 0 (F.body (fns T d) (ws.map some ++ List.replicate (F.nv - F.np) none) [])).frame S0 else .stuck) else finS F.keep S0.length (F.body (fns T d) (ws.map some ++ List.replicate (F.nv - F.np) none) S0)) else .stuck) Q := q
    split at q
    · rename_i hw
      split at q
      · split at q
        · rename_i pw
          exact ⟨_, [], γ.hid, env_start (reps_hid pw rs) hw hnv, store_hid ss, fin_ok (keep := false) (fun _ _ _ _ z => z) (store_hid ss) (frame_post ss q)⟩
        · exact q.elim
      · exact ⟨_, S0, γ, env_start rs hw hnv, ss, fin_ok (fun _ _ _ _ z => z) ss q⟩
    · exact q.elim
  gl := h.gl
  F := h.F
  b := h.b
  len := fun ws S0 q => by
    have q : (match T[f]? with
      | some F => runF F (fns T d) ws S0
      | none => .stuck) ≠ R.stuck := q
    rw [hT] at q
    have q : (if ws.length = F.np then (if F.fr = true then (if pures ws = true then (finS false 0 (F.body (fns T d) (ws.map some ++ List.replicate (F.nv - F.np) none) [])).frame S0 else .stuck) else finS F.keep S0.length (F.body (fns T d) (ws.map some ++ List.replicate (F.nv - F.np) none) S0)) else .stuck) ≠ R.stuck := q
    split at q
    · rename_i hw
      rw [hw, hnp]
    · exact absurd rfl q
theorem kwb_of {ks ps : List Str} {n : Nat} {perm : List Nat} {x : Str} {params : Arguments} {body : List Stmt} {scope : Scope} {fa : Addr} (F : FunD K x x params body scope [] [] fa fd)
    (h : ∀ (kV doc pm : Value) (an : Option Addr) (cdv ct : Value) (us : List Value), us.length = n + ks.length → bindArgs (PySem.W.fnOf x x params body scope .none kV doc pm an cdv ct) ⟨us.take n, ks.zip (us.drop n)⟩ = pure (ps.zip (perm.map fun i => us.getD i .none))) : KwB K fd ps ks n perm := by
  obtain ⟨oc, od, dV, kV, doc, pm, an, cdv, ct, osl, rfl, lk, hcd, hD, hK⟩ := F.ex
  rcases hD with ⟨_, rfl⟩ | ⟨e, _⟩
  · exact fun s us hl => .of_eq (h kV doc pm an cdv ct us hl)
  · exact absurd rfl e
/-- what a called def lets out where nothing is wished -/
theorem noexc_fn {k : Nat} {fa : Addr} {ps : List Str} {sp : Sp} (F : FnOk P w K mg base (L2.CX P w) k fa fd ps sp) : FnOk P w K mg base CX0 k fa fd ps (fun vs H Q _ => sp vs H Q fun _ _ _ => False) :=
  ⟨fun vs H Q E h => F.len vs H Q _ h, fun A outer s H args us vs Q E hr he hb hv h => codeAny_mono (F.run A outer s H args us vs Q _ hr he hb hv h) fun r s' z => by
    cases r with
    | ok fl => cases fl <;> exact z
    | error e =>
      obtain ⟨_, _, _, _, _, _, _, _, _, _, _, _, z⟩ := z
      exact z.elim⟩
theorem reps_ints {γ : Ga} {H : Hp} : ∀ ns : List Int, Reps K G γ H (ns.map W.int) (ns.map V.int)
  | [] => .nil
  | n :: ns => .cons (.int n) (reps_ints ns)
/-- the law's promise at the script -/
theorem law_sp {a : Addr} {ns : List Int} {H : Hp} {φ : List W → Store → R W} (ho : Only H) (hs : SqL K H a (ns.map V.int)) (h : ∃ S, φ [.scr (ns.map .int)] [] = .ok (.bl true) S) : spF K G 1 φ [.ref a] H (fun v _ => v = .bl true) fun _ _ _ => False := by
  obtain ⟨S, h⟩ := h
  refine ⟨rfl, [.scr (ns.map .int)], [], ⟨[], []⟩, .one (.scr ?_ (reps_ints ns)), ⟨rfl, List.nodup_nil, fun i c a hc _ => (by simp at hc), fun a ha => (by simp at ha)⟩, ?_⟩
  · rcases hs with (hs | ⟨o, hs⟩) | hs
    · rcases ho a with z | ⟨o, xs, z⟩
      · rw [z] at hs; cases hs
      · rw [z] at hs; cases hs
    · exact .inl ⟨⟨o, hs⟩, by simp, by simp⟩
    · exact .inr hs
  · rw [h]
    intro v γ' H' _ r _
    cases r
    rfl
end
/-! the head's facts -/
def hookM (n : Nat) (fa : List He.Fa) (fn : List He.DefD) (ex : PySem.W.Frag → Bool) : PySem.W.Hook where
  α := He.AlD × Bool
  obs := fun s => (He.obsDG n fa fn s.heap.get?, ex (He.frG s.heap.get? (He.asD s.heap.get? n)))
  val := fun _ => (He.valD fn, true)
  says := fun _ h => ∃ K : PySem.W.Frag, K.In h ∧ He.SaysD fa fn K ∧ ex K = true
  of := fun _ _ e => ⟨_, He.frG_in, congrArg Prod.fst e, congrArg Prod.snd e⟩
  keeps := fun _ _ _ ⟨K, hK, c⟩ k => ⟨K, PySem.W.Frag.In.keeps hK k, c⟩
def obM (n : Nat) (fa : List He.Fa) (fn : List He.DefD) (ex : PySem.W.Frag → Bool) (g : Addr → Option Obj) : He.AlD × Bool := (He.obsDG n fa fn g, ex (He.frG g (He.asD g n)))
theorem obM_eq {n : Nat} {fa : List He.Fa} {fn : List He.DefD} {ex : PySem.W.Frag → Bool} {g : Addr → Option Obj} {s : Shared} (h : ∀ a, g a = s.heap.get? a) : obM n fa fn ex g = (hookM n fa fn ex).obs s := by
  have e : g = s.heap.get? := funext h
  rw [e] <;> rfl
/-- a name that the module binds to a built-in -/
def bltB (K : PySem.W.Frag) (x : Str) (id : String) : Bool := He.eqO (PySem.W.nsIn K mainGlobals x) (some (some (.builtin id)))
theorem bltB_ok {K : PySem.W.Frag} {h : Heap} {mg : Str → Option Value} {x : Str} {id : String} (X : K.In h) (G : h.Ns mainGlobals mg) (c : bltB K x id = true) : mg x = some (.builtin id) := PySem.W.mg_of X G (He.eqO_ok c)
end Mp
namespace Mp
open PySem PySem.Spec PyProof.Rows L2
section
variable {P : Program} {w : World} {K : PySem.W.Frag} {mg : Str → Option Value} {base : Heap} {G : Gs} {φ : List W → Store → R W} {d f : Nat} {r : FnR}
theorem with_kw {ks : List Str} {n : Nat} {perm : List Nat} (h : ∃ fd, FT P w K mg base G d φ f r fd) (k : ∀ fd, FT P w K mg base G d φ f r fd → KwB K fd r.ps ks n perm) : ∃ fd, FT P w K mg base G d φ f r fd ∧ KwB K fd r.ps ks n perm :=
  let ⟨fd, h⟩ := h
  ⟨fd, h, k fd h⟩
end
def MaLen (g : MA) (n : Nat) : Prop := ∀ η S ws S', g η S = .ok ws S' → ws.length = n
theorem ml_nil : MaLen maNil 0 := fun η S ws S' h => by cases h; rfl
theorem ml_cons {f : ME} {g : MA} {n : Nat} (h : MaLen g n) : MaLen (maCons f g) (n + 1) := fun η S ws S' e => by
  have e : ((f η S).bind fun x S1 => (g η S1).bind fun xs S2 => R.ok (x :: xs) S2) = .ok ws S' := e
  cases ef : f η S with
  | stuck => rw [ef] at e; cases e
  | exc c x S1 => rw [ef] at e; cases e
  | ok x S1 =>
    rw [ef] at e
    have e : ((g η S1).bind fun xs S2 => R.ok (x :: xs) S2) = .ok ws S' := e
    cases eg : g η S1 with
    | stuck => rw [eg] at e; cases e
    | exc c x S1 => rw [eg] at e; cases e
    | ok xs S2 =>
      rw [eg] at e
      cases e
      rw [List.length_cons, h _ _ _ _ eg]
end Mp
namespace Mp
open PySem PySem.Spec PyProof.Rows L2
theorem same_fd {K : PySem.W.Frag} {x q x' q' : Str} {pa pa' : Arguments} {bo bo' : List Stmt} {sc sc' : Scope} {dv dv' : List V} {kw kw' : List (Str × V)} {f : Addr} {fd fd' : FuncData} (F : FunD K x q pa bo sc dv kw f fd) (F' : FunD K x' q' pa' bo' sc' dv' kw' f fd') : fd' = fd := by
  obtain ⟨oc, od, dV, kV, doc, pm, an, cdv, ct, osl, e1, lk, _⟩ := F.ex
  obtain ⟨oc', od', dV', kV', doc', pm', an', cdv', ct', osl', e1', lk', _⟩ := F'.ex
  rw [lk] at lk'
  cases lk'
  rfl
end Mp

set_option Elab.async false
set_option linter.all false
set_option maxRecDepth 100000
set_option maxHeartbeats 4000000
/-! Mp: pure laws: runs of the law's draws. -/
namespace Mp
def wellB (φ : Fns) : MS := sSeq (sSet 2 (mIf (mTCmp opLt (mVar 1) (mBi baLen (maCons (mVar 0) (maNil)))) (mBi baInt (maCons (mBin opIx (mVar 0) (mVar 1)) (maNil))) (mBin opAdd (mBin opAdd (mBin opMul (mC (.int 7919)) (mVar 1)) (mBin opMod (mBi baInt (maCons (mBi baSum (maCons (mSl (mVar 0) (moNone) (moSome (mC (.int 3)))) (maNil))) (maNil))) (mC (.int 1000003)))) (mC (.int 29))))) (sSeq (sSet 3 (mBin opAdd (mC (.int 40127)) (mBin opMul (mC (.int 977)) (mVar 1)))) (sSeq (sFor (miSeq (mBin opAdd (mSl (mVar 0) (moNone) (moSome (mC (.int 6)))) (mLst (maCons (mVar 2) (maNil))))) (gVar 4) (sSet 3 (mBin opMod (mBi baInt (maCons (mBin opAdd (mBin opAdd (mBin opMul (mVar 3) (mC (.int 48271))) (mBin opMod (mBi baInt (maCons (mVar 4) (maNil))) (mC (.int 2147483399)))) (mC (.int 53))) (maNil))) (mC (.int 2147483563))))) (sRet (mLstS (maCons (mIf (mTOr (mTCmp opLt (mVar 2) (mC (.int 0))) (mTCmp opGe (mVar 2) (mBin opPow (mC (.int 10)) (mC (.int 17))))) (mBi baAbs (maCons (mVar 2) (maNil))) (mC (.int 0))) (maCons (mVar 3) (maCons (mC (.int 0)) (maNil))))))))
def takeB (φ : Fns) : MS := sSeq (sIf (mTCmp opGt (mBin opIx (mVar 0) (mC (.int 0))) (mC (.int 0))) (sSeq (sAsg (mBi baDivmod (maCons (mBin opIx (mVar 0) (mC (.int 0))) (maCons (mVar 1) (maNil)))) (gTupW (gsCons (gIdx (mVar 0) (mC (.int 0))) (gsCons (gVar 2) (gsNil))))) (sRet (mVar 2))) (sNx)) (sSeq (sAsg (mBin opAdd (mBin opIx (mVar 0) (mC (.int 2))) (mC (.int 1))) (gIdx (mVar 0) (mC (.int 2)))) (sSeq (sSet 3 (mBin opAdd (mBin opMod (mBi baInt (maCons (mBin opIx (mVar 0) (mC (.int 1))) (maNil))) (mC (.int 28657))) (mC (.int 40009)))) (sSeq (sAsg (mBin opMod (mBi baInt (maCons (mBin opAdd (mBin opAdd (mBin opMul (mBin opIx (mVar 0) (mC (.int 1))) (mVar 3)) (mBin opMul (mC (.int 50023)) (mBin opIx (mVar 0) (mC (.int 2))))) (mC (.int 17))) (maNil))) (mC (.int 2147483563))) (gIdx (mVar 0) (mC (.int 1)))) (sRet (mBin opMod (mBi baInt (maCons (mBin opDiv (mBin opIx (mVar 0) (mC (.int 1))) (mC (.int 83))) (maNil))) (mVar 1))))))
theorem sSeq_nx {f g : MS} {η η1 : Env} {S S1 : Store} (h : f η S = .nx η1 S1) : sSeq f g η S = g η1 S1 := by
  unfold sSeq
  rw [h] <;> rfl
theorem sSeq_ret {f g : MS} {η : Env} {w : W} {S S1 : Store} (h : f η S = .ret w S1) : sSeq f g η S = .ret w S1 := by
  unfold sSeq
  rw [h] <;> rfl
theorem sSet_ok {f : ME} {η : Env} {S S1 : Store} {i : Nat} {w : W} (h : f η S = .ok w S1) : sSet i f η S = .nx (η.set i (some w)) S1 := by
  unfold sSet
  rw [h] <;> rfl
theorem sFor_ok {it : MI} {g : MG} {b : MS} {η : Env} {S S1 : Store} {xs : List W} (h : it η S = .ok xs S1) : sFor it g b η S = forL g b xs η S1 := by
  unfold sFor
  rw [h] <;> rfl
/-- runs to its end -/
def Nx (r : RS) (P : Env → Store → Prop) : Prop := ∃ η S, r = .nx η S ∧ P η S
theorem Nx.of {η : Env} {S : Store} {P : Env → Store → Prop} (h : P η S) : Nx (.nx η S) P := ⟨η, S, rfl, h⟩
theorem Nx.seq {f g : MS} {η η1 : Env} {S S1 : Store} {P : Env → Store → Prop} (h : f η S = .nx η1 S1) (k : Nx (g η1 S1) P) : Nx (sSeq f g η S) P := by
  rw [sSeq_nx h]
  exact k
theorem Nx.seqN {f g : MS} {η : Env} {S : Store} {I P : Env → Store → Prop} (h : Nx (f η S) I) (k : ∀ η S, I η S → Nx (g η S) P) : Nx (sSeq f g η S) P := by
  obtain ⟨η1, S1, e, i⟩ := h
  rw [sSeq_nx e]
  exact k _ _ i
theorem Nx.imp {r : RS} {P P' : Env → Store → Prop} (h : Nx r P) (k : ∀ η S, P η S → P' η S) : Nx r P' := by
  obtain ⟨η1, S1, e, i⟩ := h
  exact ⟨_, _, e, k _ _ i⟩
theorem Nx.eq {f : MS} {η η1 : Env} {S S1 : Store} {P : Env → Store → Prop} (h : f η S = .nx η1 S1) (k : P η1 S1) : Nx (f η S) P := ⟨_, _, h, k⟩
/-- a loop that keeps an invariant -/
theorem Nx.loop {g : MG} {b : MS} (I : Env → Store → Prop) : ∀ (xs : List W), (∀ x, x ∈ xs → ∀ η S, I η S → ∃ η1 S1, g x η S = some (η1, S1) ∧ Nx (b η1 S1) I) → ∀ {η S}, I η S → Nx (forL g b xs η S) I
  | [], _, η, S, hi => ⟨η, S, rfl, hi⟩
  | x :: r, h, η, S, hi => by
    obtain ⟨η1, S1, e1, η2, S2, e2, i2⟩ := h x (List.mem_cons_self ..) η S hi
    have : forL g b (x :: r) η S = forL g b r η2 S2 := by
      conv => lhs; unfold forL
      simp only [e1, e2]
    rw [this]
    exact Nx.loop I r (fun y hy => h y (List.mem_cons_of_mem _ hy)) i2
theorem Nx.sfor {it : MI} {g : MG} {b : MS} {η : Env} {S S1 : Store} {xs : List W} (I : Env → Store → Prop) (hit : it η S = .ok xs S1) (h : ∀ x, x ∈ xs → ∀ η S, I η S → ∃ η1 S1, g x η S = some (η1, S1) ∧ Nx (b η1 S1) I) (hi : I η S1) : Nx (sFor it g b η S) I := by
  rw [sFor_ok hit]
  exact Nx.loop I xs h hi
/-- gives a value -/
def Rt (r : RS) (w : W) : Prop := ∃ S, r = .ret w S
theorem Rt.seqN {f g : MS} {η : Env} {S : Store} {I : Env → Store → Prop} {w : W} (h : Nx (f η S) I) (k : ∀ η S, I η S → Rt (g η S) w) : Rt (sSeq f g η S) w := by
  obtain ⟨η1, S1, e, i⟩ := h
  rw [sSeq_nx e]
  exact k _ _ i
theorem Rt.seq {f g : MS} {η η1 : Env} {S S1 : Store} {w : W} (h : f η S = .nx η1 S1) (k : Rt (g η1 S1) w) : Rt (sSeq f g η S) w := by
  rw [sSeq_nx h]
  exact k
theorem forL_nil {g : MG} {b : MS} {η : Env} {S : Store} : forL g b [] η S = .nx η S := rfl
theorem forL_nx {g : MG} {b : MS} {η η1 η2 : Env} {S S1 S2 : Store} {x : W} {r : List W} (hg : g x η S = some (η1, S1)) (hb : b η1 S1 = .nx η2 S2) : forL g b (x :: r) η S = forL g b r η2 S2 := by
  conv => lhs; unfold forL
  simp only [hg, hb]
/-- a loop that keeps an invariant -/
theorem forL_inv {g : MG} {b : MS} (I : Env → Store → Prop) : ∀ (xs : List W), (∀ x, x ∈ xs → ∀ η S, I η S → ∃ η1 S1 η2 S2, g x η S = some (η1, S1) ∧ b η1 S1 = .nx η2 S2 ∧ I η2 S2) → ∀ η S, I η S → ∃ η' S', forL g b xs η S = .nx η' S' ∧ I η' S'
  | [], _, η, S, hi => ⟨η, S, rfl, hi⟩
  | x :: r, h, η, S, hi => by
    obtain ⟨η1, S1, η2, S2, e1, e2, i2⟩ := h x (List.mem_cons_self ..) η S hi
    rw [forL_nx e1 e2]
    exact forL_inv I r (fun y hy => h y (List.mem_cons_of_mem _ hy)) η2 S2 i2
theorem intsOf_map : ∀ ns : List Int, intsOf (ns.map W.int) = some ns
  | [] => rfl
  | n :: r => by
    show (intsOf (r.map W.int)).map (n :: ·) = _
    rw [intsOf_map r] <;> rfl
theorem cutW_map {α β : Type} (f : α → β) (xs : List α) (lo hi : Option Int) : cutW (xs.map f) lo hi = (cutW xs lo hi).map f := by
  unfold cutW
  rw [List.length_map, List.map_take, List.map_drop]
theorem cutW_le {α : Type} (xs : List α) (lo hi : Option Int) : (cutW xs lo hi).length ≤ xs.length := by
  unfold cutW
  rw [List.length_take, List.length_drop]
  omega
theorem mulOk_r {i j : Int} (h : j.natAbs < 18446744073709551616) : mulOk i j = true := by
  unfold mulOk
  rw [decide_eq_true h, Bool.or_true]
theorem mulOk_l {i j : Int} (h : i.natAbs < 18446744073709551616) : mulOk i j = true := by
  unfold mulOk
  rw [decide_eq_true h, Bool.true_or]
theorem opMul_l {i j : Int} {S : Store} (h : i.natAbs < 18446744073709551616) : opMul (.int i) (.int j) S = some (.int (i * j)) := if_pos (mulOk_l h)
theorem opMul_r {i j : Int} {S : Store} (h : j.natAbs < 18446744073709551616) : opMul (.int i) (.int j) S = some (.int (i * j)) := if_pos (mulOk_r h)
theorem opMod_ok {i j : Int} {S : Store} (h : 0 < j) : opMod (.int i) (.int j) S = some (.int (i % j)) := if_pos h
theorem opDiv_ok {i j : Int} {S : Store} (h : 0 < j ∧ j.natAbs.log2 < 9000) : opDiv (.int i) (.int j) S = some (.int (i / j)) := if_pos h
theorem mBin_ok {o : O2} {f g : ME} {η : Env} {S S1 S2 : Store} {x y z : W} (hf : f η S = .ok x S1) (hg : g η S1 = .ok y S2) (h : o x y S2 = some z) : mBin o f g η S = .ok z S2 := by
  unfold mBin
  rw [hf]
  show (g η S1).bind _ = _
  rw [hg]
  show rOpt (o x y S2) S2 = _
  rw [h] <;> rfl
theorem mBi1_ok {o : OA} {f : ME} {η : Env} {S S1 : Store} {x z : W} (hf : f η S = .ok x S1) (h : o [x] S1 = some z) : mBi o (maCons f maNil) η S = .ok z S1 := by
  unfold mBi maCons
  rw [hf]
  show rOpt (o [x] S1) S1 = _
  rw [h] <;> rfl
theorem mVar_ok {i : Nat} {η : Env} {S : Store} {w : W} (h : η[i]? = some (some w)) : mVar i η S = .ok w S := by
  unfold mVar
  rw [h]
theorem mC_ok {w : W} {η : Env} {S : Store} : mC w η S = .ok w S := rfl
theorem mIf_t {c : MT} {f g : ME} {η : Env} {S S1 : Store} (h : c η S = .ok true S1) : mIf c f g η S = f η S1 := by
  unfold mIf
  rw [h] <;> rfl
theorem mIf_f {c : MT} {f g : ME} {η : Env} {S S1 : Store} (h : c η S = .ok false S1) : mIf c f g η S = g η S1 := by
  unfold mIf
  rw [h] <;> rfl
theorem maNil_ok {η : Env} {S : Store} : maNil η S = .ok [] S := rfl
theorem maCons_ok {f : ME} {g : MA} {η : Env} {S S1 S2 : Store} {x : W} {xs : List W} (hf : f η S = .ok x S1) (hg : g η S1 = .ok xs S2) : maCons f g η S = .ok (x :: xs) S2 := by
  unfold maCons
  rw [hf]
  show (g η S1).bind _ = _
  rw [hg] <;> rfl
theorem mBi_ok {o : OA} {g : MA} {η : Env} {S S1 : Store} {xs : List W} {z : W} (hf : g η S = .ok xs S1) (h : o xs S1 = some z) : mBi o g η S = .ok z S1 := by
  unfold mBi
  rw [hf]
  show rOpt (o xs S1) S1 = _
  rw [h] <;> rfl
theorem mUn_ok {o : W → Store → Option W} {f : ME} {η : Env} {S S1 : Store} {x z : W} (hf : f η S = .ok x S1) (h : o x S1 = some z) : mUn o f η S = .ok z S1 := by
  unfold mUn
  rw [hf]
  show rOpt (o x S1) S1 = _
  rw [h] <;> rfl
theorem mTup_ok {g : MA} {η : Env} {S S1 : Store} {xs : List W} (hf : g η S = .ok xs S1) (h : xs.length ≤ bigLine) : mTup g η S = .ok (.tup xs) S1 := by
  unfold mTup
  rw [hf]
  exact if_pos h
theorem mLst_ok {g : MA} {η : Env} {S S1 : Store} {xs : List W} (hf : g η S = .ok xs S1) (h : xs.length ≤ bigLine) : mLst g η S = .ok (.lst xs) S1 := by
  unfold mLst
  rw [hf]
  exact if_pos h
theorem mLstS_ok {g : MA} {η : Env} {S S1 : Store} {xs : List W} (hf : g η S = .ok xs S1) (hp : pures xs = true) (h : xs.length ≤ bigLine) : mLstS g η S = .ok (.ref S1.length) (S1 ++ [.lst xs]) := by
  unfold mLstS
  rw [hf]
  show (if pures xs = true then _ else _) = _
  rw [if_pos hp]
  exact if_pos h
theorem mCall_ok {φ : Fns} {f : Nat} {g : MA} {η : Env} {S S1 S2 : Store} {xs : List W} {z : W} (hf : g η S = .ok xs S1) (h : φ f xs S1 = .ok z S2) : mCall φ f g η S = .ok z S2 := by
  unfold mCall
  rw [hf]
  exact h
theorem mTru_ok {f : ME} {η : Env} {S S1 : Store} {x : W} {b : Bool} (hf : f η S = .ok x S1) (h : truthy S1 x = some b) : mTru f η S = .ok b S1 := by
  unfold mTru
  rw [hf]
  show rOpt (truthy S1 x) S1 = _
  rw [h] <;> rfl
theorem mTNot_ok {f : MT} {η : Env} {S S1 : Store} {b : Bool} (hf : f η S = .ok b S1) : mTNot f η S = .ok (!b) S1 := by
  unfold mTNot
  rw [hf] <;> rfl
theorem mTAnd_t {f g : MT} {η : Env} {S S1 : Store} (hf : f η S = .ok true S1) : mTAnd f g η S = g η S1 := by
  unfold mTAnd
  rw [hf] <;> rfl
theorem mTAnd_f {f g : MT} {η : Env} {S S1 : Store} (hf : f η S = .ok false S1) : mTAnd f g η S = .ok false S1 := by
  unfold mTAnd
  rw [hf] <;> rfl
theorem mTOr_t {f g : MT} {η : Env} {S S1 : Store} (hf : f η S = .ok true S1) : mTOr f g η S = .ok true S1 := by
  unfold mTOr
  rw [hf] <;> rfl
theorem mTOr_f {f g : MT} {η : Env} {S S1 : Store} (hf : f η S = .ok false S1) : mTOr f g η S = g η S1 := by
  unfold mTOr
  rw [hf] <;> rfl
theorem mTCmp_ok {o : O2} {f g : ME} {η : Env} {S S1 S2 : Store} {x y : W} {b : Bool} (hf : f η S = .ok x S1) (hg : g η S1 = .ok y S2) (h : o x y S2 = some (.bl b)) : mTCmp o f g η S = .ok b S2 := by
  unfold mTCmp
  rw [hf]
  show (g η S1).bind _ = _
  rw [hg]
  show (match o x y S2 with | some (.bl b) => R.ok b S2 | _ => .stuck) = _
  rw [h]
theorem sIf_t {c : MT} {f g : MS} {η : Env} {S S1 : Store} (h : c η S = .ok true S1) : sIf c f g η S = f η S1 := by
  unfold sIf
  rw [h] <;> rfl
theorem sIf_f {c : MT} {f g : MS} {η : Env} {S S1 : Store} (h : c η S = .ok false S1) : sIf c f g η S = g η S1 := by
  unfold sIf
  rw [h] <;> rfl
theorem sIf_n {c : MT} {f : MS} {η : Env} {S S1 : Store} (h : c η S = .ok false S1) : sIf c f sNx η S = .nx η S1 := sIf_f h
theorem sRet_ok {f : ME} {η : Env} {S S1 : Store} {w : W} (h : f η S = .ok w S1) : sRet f η S = .ret w S1 := by
  unfold sRet
  rw [h] <;> rfl
theorem sAsg_ok {f : ME} {g : MG} {η η2 : Env} {S S1 S2 : Store} {w : W} (h : f η S = .ok w S1) (hg : g w η S1 = some (η2, S2)) : sAsg f g η S = .nx η2 S2 := by
  unfold sAsg
  rw [h]
  show optS (g w η S1) = _
  rw [hg] <;> rfl
theorem gIdx_ok {o i : ME} {w ow iw : W} {η : Env} {S S1 S2 S3 : Store} (ho : o η S = .ok ow S1) (hi : i η S1 = .ok iw S2) (h : setAt ow iw w S2 = some S3) : gIdx o i w η S = some (η, S3) := by
  unfold gIdx
  rw [ho]
  show (match i η S1 with | .ok iw S2 => (setAt ow iw w S2).map fun S3 => (η, S3) | _ => none) = _
  rw [hi]
  show (setAt ow iw w S2).map _ = _
  rw [h] <;> rfl
theorem gsCons_ok {g : MG} {gs : MGs} {w : W} {r : List W} {η η1 : Env} {S S1 : Store} {z : Option (Env × Store)} (h : g w η S = some (η1, S1)) (h2 : gs r η1 S1 = z) : gsCons g gs (w :: r) η S = z := by
  unfold gsCons
  show (g w η S).bind _ = _
  rw [h]
  exact h2
theorem opIx_ref {S : Store} {i : Nat} {k : Int} {xs : List W} {w : W} (hs : S[i]? = some (.lst xs)) (h : atW xs k = some w) : opIx (.ref i) (.int k) S = some w := by
  show (lstOf S (.ref i)).bind _ = _
  rw [show lstOf S (.ref i) = some xs from by show (match S[i]? with | some (.lst xs) => some xs | _ => none) = _; rw [hs]]
  exact h
theorem setAt_ref {S : Store} {i : Nat} {k : Int} {xs : List W} {w : W} (hs : S[i]? = some (.lst xs)) (h : 0 ≤ k ∧ k < xs.length) (hp : w.pure = true) : setAt (.ref i) (.int k) w S = some (S.set i (.lst (xs.set k.toNat w))) := by
  show (match S[i]? with
    | some (.lst xs) => if 0 ≤ k ∧ k < xs.length then (if w.pure then some (S.set i (.lst (xs.set k.toNat w))) else none)
        else if k < 0 ∧ -(xs.length : Int) ≤ k then (if w.pure then some (S.set i (.lst (xs.set (k + xs.length).toNat w))) else none) else none
    | _ => none) = _
  rw [hs]
  show (if _ then _ else _) = _
  rw [if_pos h, if_pos hp]
/-- the well of a turn -/
theorem well_ok {φ : Fns} {ns : List Int} {t : Nat} {S : Store} (hl : ns.length ≤ 63) (ht : t ≤ 1000) :
    ∃ a b : Int, 0 ≤ a ∧ 0 ≤ b ∧ wellB φ [some (.scr (ns.map .int)), some (.int t), none, none, none] S = .ret (.ref S.length) (S ++ [.lst [.int a, .int b, .int 0]]) := by
  unfold wellB
  have h1 : ∃ o : Int, (mIf (mTCmp opLt (mVar 1) (mBi baLen (maCons (mVar 0) (maNil)))) (mBi baInt (maCons (mBin opIx (mVar 0) (mVar 1)) (maNil))) (mBin opAdd (mBin opAdd (mBin opMul (mC (.int 7919)) (mVar 1)) (mBin opMod (mBi baInt (maCons (mBi baSum (maCons (mSl (mVar 0) (moNone) (moSome (mC (.int 3)))) (maNil))) (maNil))) (mC (.int 1000003)))) (mC (.int 29)))) [some (.scr (ns.map .int)), some (.int t), none, none, none] S = .ok (.int o) S := by
    have hc : (mTCmp opLt (mVar 1) (mBi baLen (maCons (mVar 0) (maNil)))) [some (.scr (ns.map .int)), some (.int t), none, none, none] S = .ok (decide ((t : Int) < ((ns.map W.int).length : Int))) S := rfl
    unfold mIf
    rw [hc]
    by_cases lt : (t : Int) < ((ns.map W.int).length : Int)
    · have l2 : t < ns.length := by rw [List.length_map] at lt; omega
      refine ⟨ns[t], ?_⟩
      show (if decide ((t : Int) < ((ns.map W.int).length : Int)) = true then _ else _) = _
      rw [if_pos (decide_eq_true lt)]
      refine mBi1_ok (x := .int ns[t]) (S1 := S) (mBin_ok (S1 := S) (x := .scr (ns.map .int)) (y := .int t) rfl rfl ?_) rfl
      show atW (ns.map W.int) t = _
      unfold atW ixW
      rw [if_pos (by omega), if_pos lt]
      show (ns.map W.int)[((t : Int)).toNat]? = _
      rw [Int.toNat_natCast, List.getElem?_map, List.getElem?_eq_getElem l2] <;> rfl
    · refine ⟨7919 * t + (cutW ns none (some 3)).sum % 1000003 + 29, ?_⟩
      show (if decide ((t : Int) < ((ns.map W.int).length : Int)) = true then _ else _) = _
      rw [if_neg (by rw [decide_eq_true_eq]; exact lt)]
      refine mBin_ok (S1 := S) (mBin_ok (S1 := S) (mBin_ok (S1 := S) rfl rfl (opMul_l (by decide))) (mBin_ok (S1 := S) (mBi1_ok (S1 := S) (mBi1_ok (S1 := S) (x := .lst ((cutW ns none (some 3)).map .int)) (z := .int (cutW ns none (some 3)).sum) ?_ ?_) rfl) rfl (opMod_ok (by decide))) rfl) rfl rfl
      · show R.ok (W.lst (cutW (ns.map W.int) none (some 3))) S = _
        rw [cutW_map]
      · show (intsOf ((cutW ns none (some 3)).map W.int)).map (fun ns => W.int ns.sum) = _
        rw [intsOf_map] <;> rfl
  obtain ⟨o, h1⟩ := h1
  rw [sSeq_nx (sSet_ok h1)]
  have h2 : (sSet 3 (mBin opAdd (mC (.int 40127)) (mBin opMul (mC (.int 977)) (mVar 1)))) ([some (.scr (ns.map .int)), some (.int t), none, none, none].set 2 (some (.int o))) S = .nx [some (.scr (ns.map .int)), some (.int t), some (.int o), some (.int (40127 + 977 * t)), none] S :=
    sSet_ok (mBin_ok (S1 := S) rfl (mBin_ok (S1 := S) rfl rfl (opMul_l (by decide))) rfl)
  rw [sSeq_nx h2]
  have h3 : ∀ η S, η = [some (.scr (ns.map .int)), some (.int t), some (.int o), some (.int (40127 + 977 * t)), none] → (miSeq (mBin opAdd (mSl (mVar 0) (moNone) (moSome (mC (.int 6)))) (mLst (maCons (mVar 2) (maNil))))) η S = .ok ((cutW ns none (some 6) ++ [o]).map .int) S := by
    rintro η S rfl
    unfold miSeq
    rw [mBin_ok (S1 := S) (S2 := S) (x := .lst ((cutW ns none (some 6)).map .int)) (y := .lst [.int o]) (z := .lst ((cutW ns none (some 6)).map .int ++ [.int o]))]
    · rw [List.map_append] <;> rfl
    · show R.ok (W.lst (cutW (ns.map W.int) none (some 6))) S = _
      rw [cutW_map]
    · rfl
    · show (if ((cutW ns none (some 6)).map W.int).length + 1 ≤ bigLine then _ else _) = _
      have := cutW_le ns none (some 6)
      rw [if_pos (by rw [List.length_map]; unfold bigLine; omega)]
  have h4 := forL_inv (g := gVar 4) (b := sSet 3 (mBin opMod (mBi baInt (maCons (mBin opAdd (mBin opAdd (mBin opMul (mVar 3) (mC (.int 48271))) (mBin opMod (mBi baInt (maCons (mVar 4) (maNil))) (mC (.int 2147483399)))) (mC (.int 53))) (maNil))) (mC (.int 2147483563))))
    (fun η S' => S' = S ∧ ∃ b : Int, 0 ≤ b ∧ ∃ w, η = [some (.scr (ns.map .int)), some (.int t), some (.int o), some (.int b), w]) ((cutW ns none (some 6) ++ [o]).map .int) (by
      intro x hx η S' hi
      obtain ⟨rfl, b, hb, w, rfl⟩ := hi
      obtain ⟨i, _, rfl⟩ := List.mem_map.mp hx
      exact ⟨_, _, _, _, rfl, sSet_ok (mBin_ok (S1 := S') (mBi1_ok (S1 := S') (mBin_ok (S1 := S') (mBin_ok (S1 := S') (mBin_ok (S1 := S') rfl rfl (opMul_r (by decide))) (mBin_ok (S1 := S') (mBi1_ok (S1 := S') rfl rfl) rfl (opMod_ok (by decide))) rfl) rfl rfl) rfl) rfl (opMod_ok (by decide))), rfl, _, Int.emod_nonneg _ (by decide), _, rfl⟩)
    [some (.scr (ns.map .int)), some (.int t), some (.int o), some (.int (40127 + 977 * t)), none] S ⟨rfl, _, by omega, _, rfl⟩
  obtain ⟨η', S', h4, rfl, b, hb, w, rfl⟩ := h4
  rw [sSeq_nx ((sFor_ok (h3 _ S' rfl)).trans h4)]
  refine ⟨if o < 0 ∨ 100000000000000000 ≤ o then (if o < 0 then -o else o) else 0, b, ?_, hb, ?_⟩
  · split
    · split <;> omega
    · omega
  · have h5 : (mIf (mTOr (mTCmp opLt (mVar 2) (mC (.int 0))) (mTCmp opGe (mVar 2) (mBin opPow (mC (.int 10)) (mC (.int 17))))) (mBi baAbs (maCons (mVar 2) (maNil))) (mC (.int 0))) [some (.scr (ns.map .int)), some (.int t), some (.int o), some (.int b), w] S' = .ok (.int (if o < 0 ∨ 100000000000000000 ≤ o then (if o < 0 then -o else o) else 0)) S' := by
      by_cases c1 : o < 0
      · rw [if_pos (.inl c1)]
        unfold mIf
        rw [show (mTOr (mTCmp opLt (mVar 2) (mC (.int 0))) (mTCmp opGe (mVar 2) (mBin opPow (mC (.int 10)) (mC (.int 17))))) [some (.scr (ns.map .int)), some (.int t), some (.int o), some (.int b), w] S' = .ok true S' from by
          show (if decide (o < 0) = true then R.ok true S' else _) = _
          rw [if_pos (decide_eq_true c1)]]
        rfl
      · have e : (mTOr (mTCmp opLt (mVar 2) (mC (.int 0))) (mTCmp opGe (mVar 2) (mBin opPow (mC (.int 10)) (mC (.int 17))))) [some (.scr (ns.map .int)), some (.int t), some (.int o), some (.int b), w] S' = .ok (decide (100000000000000000 ≤ o)) S' := by
          show (if decide (o < 0) = true then R.ok true S' else R.ok (decide ((10 : Int) ^ (17 : Nat) ≤ o)) S') = _
          rw [if_neg (by rw [decide_eq_true_eq]; exact c1)] <;> rfl
        unfold mIf
        rw [e]
        by_cases c2 : 100000000000000000 ≤ o
        · rw [if_pos (.inr c2)]
          show (if decide (100000000000000000 ≤ o) = true then _ else _) = _
          rw [if_pos (decide_eq_true c2)] <;> rfl
        · rw [if_neg (by rintro (z | z) <;> contradiction)]
          show (if decide (100000000000000000 ≤ o) = true then _ else _) = _
          rw [if_neg (by rw [decide_eq_true_eq]; exact c2)] <;> rfl
    exact sRet_ok (mLstS_ok (S1 := S') (maCons_ok h5 (maCons_ok (S1 := S') (x := .int b) rfl (maCons_ok (S1 := S') rfl rfl))) rfl (by show 3 ≤ bigLine; decide))
/-- a well -/
def Well (S : Store) (i : Nat) : Prop := ∃ a b c : Int, 0 ≤ a ∧ 0 ≤ b ∧ S[i]? = some (.lst [.int a, .int b, .int c])
theorem take_ok {φ : Fns} {S : Store} {i : Nat} {n : Int} (hw : Well S i) (h0 : 0 < n) (h1 : n.natAbs.log2 < 9000) :
    ∃ v : Int, 0 ≤ v ∧ v < n ∧ ∃ S', takeB φ [some (.ref i), some (.int n), none, none] S = .ret (.int v) S' ∧ Well S' i ∧ S'.length = S.length ∧ ∀ j, j ≠ i → S'[j]? = S[j]? := by
  obtain ⟨a, b, c, ha, hb, hs⟩ := hw
  have hi : i < S.length := (List.getElem?_eq_some_iff.mp hs).1
  have ix : ∀ {η : Env} {S : Store} {a b c : Int} (_ : S[i]? = some (.lst [.int a, .int b, .int c])) (k : Int) (w : W), η[0]? = some (some (.ref i)) → atW [.int a, .int b, .int c] k = some w → mBin opIx (mVar 0) (mC (.int k)) η S = .ok w S := fun hs k w h0 h => mBin_ok (mVar_ok h0) rfl (opIx_ref hs h)
  have tst : ∀ η : Env, η[0]? = some (some (.ref i)) → (mTCmp opGt (mBin opIx (mVar 0) (mC (.int 0))) (mC (.int 0))) η S = .ok (decide (0 < a)) S := fun η e => mTCmp_ok (ix hs 0 _ e rfl) rfl rfl
  unfold takeB
  by_cases c0 : 0 < a
  · refine ⟨a % n, Int.emod_nonneg _ (by omega), Int.emod_lt_of_pos _ h0, S.set i (.lst [.int (a / n), .int b, .int c]), ?_, ⟨_, _, _, Int.ediv_nonneg ha (by omega), hb, List.getElem?_set_self hi⟩, List.length_set, fun j hj => List.getElem?_set_ne (Ne.symm hj)⟩
    refine sSeq_ret ?_
    rw [sIf_t ((tst _ rfl).trans (by rw [decide_eq_true c0]))]
    refine (sSeq_nx (η1 := [some (.ref i), some (.int n), some (.int (a % n)), none]) (S1 := S.set i (.lst [.int (a / n), .int b, .int c])) (sAsg_ok (S1 := S) (w := .tup [.int (a / n), .int (a % n)]) (mBi_ok (maCons_ok (ix hs 0 _ rfl rfl) (maCons_ok (mVar_ok rfl) rfl)) (if_pos ⟨h0, h1⟩)) (gsCons_ok (gIdx_ok rfl rfl (setAt_ref hs ⟨by decide, by show (_ : Int) < 3; decide⟩ rfl)) (gsCons_ok rfl rfl)))).trans ?_
    rfl
  · have S1 : ∃ S1, S1 = S.set i (.lst [.int a, .int b, .int (c + 1)]) := ⟨_, rfl⟩
    obtain ⟨S1, e1⟩ := S1
    have hs1 : S1[i]? = some (.lst [.int a, .int b, .int (c + 1)]) := by rw [e1, List.getElem?_set_self hi]
    have hd : ∃ d : Int, d = (b * (b % 28657 + 40009) + 50023 * (c + 1) + 17) % 2147483563 := ⟨_, rfl⟩
    obtain ⟨d, ed⟩ := hd
    have d0 : 0 ≤ d := by rw [ed]; exact Int.emod_nonneg _ (by decide)
    have S2 : ∃ S2, S2 = S1.set i (.lst [.int a, .int d, .int (c + 1)]) := ⟨_, rfl⟩
    obtain ⟨S2, e2⟩ := S2
    have hi1 : i < S1.length := (List.getElem?_eq_some_iff.mp hs1).1
    have hs2 : S2[i]? = some (.lst [.int a, .int d, .int (c + 1)]) := by rw [e2, List.getElem?_set_self hi1]
    refine ⟨(d / 83) % n, Int.emod_nonneg _ (by omega), Int.emod_lt_of_pos _ h0, S2, ?_, ⟨_, _, _, ha, d0, hs2⟩, by rw [e2, e1, List.length_set, List.length_set], fun j hj => by rw [e2, e1, List.getElem?_set_ne (Ne.symm hj), List.getElem?_set_ne (Ne.symm hj)]⟩
    refine (sSeq_nx (η1 := [some (.ref i), some (.int n), none, none]) (S1 := S) (sIf_n ((tst [some (.ref i), some (.int n), none, none] rfl).trans (by rw [decide_eq_false c0])))).trans ?_
    refine (sSeq_nx (η1 := [some (.ref i), some (.int n), none, none]) (S1 := S1) (sAsg_ok (S1 := S) (w := .int (c + 1)) (mBin_ok (ix hs 2 _ rfl rfl) rfl rfl) (gIdx_ok rfl rfl (by rw [e1]; exact setAt_ref hs ⟨by decide, by show (_ : Int) < 3; decide⟩ rfl)))).trans ?_
    refine (sSeq_nx (sSet_ok (η := [some (.ref i), some (.int n), none, none]) (mBin_ok (mBin_ok (mBi1_ok (ix hs1 1 _ rfl rfl) rfl) rfl (opMod_ok (by decide))) rfl rfl))).trans ?_
    refine (sSeq_nx (η1 := [some (.ref i), some (.int n), none, some (.int (b % 28657 + 40009))]) (S1 := S2) (sAsg_ok (S1 := S1) (w := .int d) (mBin_ok (mBi1_ok (mBin_ok (mBin_ok (mBin_ok (ix hs1 1 _ rfl rfl) rfl (opMul_r (by
        have := Int.emod_nonneg b (show (28657 : Int) ≠ 0 by decide)
        have := Int.emod_lt_of_pos b (show (0 : Int) < 28657 by decide)
        omega))) (mBin_ok rfl (ix hs1 2 _ rfl rfl) (opMul_l (by decide))) rfl) rfl rfl) rfl) rfl (by rw [ed]; exact opMod_ok (by decide))) (gIdx_ok rfl rfl (by rw [e2]; exact setAt_ref hs1 ⟨by decide, by show (_ : Int) < 3; decide⟩ rfl)))).trans ?_
    exact sRet_ok (mBin_ok (mBi1_ok (mBin_ok (ix hs2 1 _ rfl rfl) rfl (opDiv_ok (by decide))) rfl) rfl (opMod_ok h0))
theorem fns_eq {T : List Fun} {d k : Nat} {F : Fun} {ws : List W} {S : Store} (h : T[k]? = some F) (hl : ws.length = F.np) (hf : F.fr = false := by rfl) : fns T (d + 1) k ws S = finS F.keep S.length (F.body (fns T d) (ws.map some ++ List.replicate (F.nv - F.np) none) S) := by
  show (match T[k]? with
    | some F => runF F (fns T d) ws S
    | none => .stuck) = _
  rw [h]
  refine (if_pos hl).trans (if_neg ?_)
  rw [hf]
  decide
theorem fns_fr {T : List Fun} {d k : Nat} {F : Fun} {ws : List W} {S : Store} (h : T[k]? = some F) (hl : ws.length = F.np) (hp : pures ws = true) (hf : F.fr = true := by rfl) : fns T (d + 1) k ws S = (finS false 0 (F.body (fns T d) (ws.map some ++ List.replicate (F.nv - F.np) none) [])).frame S := by
  show (match T[k]? with
    | some F => runF F (fns T d) ws S
    | none => .stuck) = _
  rw [h]
  exact (if_pos hl).trans ((if_pos hf).trans (if_pos hp))
/-- what a framed function gives at one store it gives at any -/
theorem fr_any {T : List Fun} {d k : Nat} {F : Fun} {ws : List W} {S0 S1 S : Store} {w : W} (h : T[k]? = some F) (e : fns T d k ws S0 = .ok w S1) (hf : F.fr = true := by rfl) : fns T d k ws S = .ok w S := by
  cases d with
  | zero => cases e
  | succ d =>
    have e : (match T[k]? with
      | some F => runF F (fns T d) ws S0
      | none => .stuck) = .ok w S1 := e
    show (match T[k]? with
      | some F => runF F (fns T d) ws S
      | none => .stuck) = _
    rw [h] at e ⊢
    have e : runF F (fns T d) ws S0 = .ok w S1 := e
    show runF F (fns T d) ws S = _
    unfold runF at e ⊢
    split at e
    · rename_i hl
      rw [if_pos hl, if_pos hf]
      split at e
      · rename_i hp
        rw [if_pos hp]
        cases eb : finS false 0 (F.body (fns T d) (ws.map some ++ List.replicate (F.nv - F.np) none) []) with
        | stuck => rw [eb] at e; cases e
        | exc c x S2 =>
          rw [eb] at e
          have e : (if x.pure = true then R.exc c x S0 else .stuck) = .ok w S1 := e
          split at e <;> cases e
        | ok v S2 =>
          rw [eb] at e
          have e : (if v.pure = true then R.ok v S0 else .stuck) = .ok w S1 := e
          split at e
          · rename_i pv
            cases e
            exact if_pos pv
          · cases e
      · cases e
    · cases e
theorem well_call {T : List Fun} {d k : Nat} {ns : List Int} {t : Nat} {S : Store} (h : T[k]? = some ⟨2, 5, true, false, wellB⟩) (hl : ns.length ≤ 63) (ht : t ≤ 1000) :
    ∃ a b : Int, 0 ≤ a ∧ 0 ≤ b ∧ fns T (d + 1) k [.scr (ns.map .int), .int t] S = .ok (.ref S.length) (S ++ [.lst [.int a, .int b, .int 0]]) := by
  obtain ⟨a, b, ha, hb, e⟩ := well_ok (φ := fns T d) (S := S) hl ht
  refine ⟨a, b, ha, hb, ?_⟩
  rw [fns_eq h rfl]
  refine (congrArg (finS true S.length) e).trans ?_
  unfold finS fin
  show (if S.length < S.length then _ else (match (S ++ [Cell.lst [.int a, .int b, .int 0]])[S.length]? with
      | some (Cell.lst xs) => if pures xs = true then (if true = true then R.ok (W.ref S.length) ((S ++ [Cell.lst [.int a, .int b, .int 0]]).take S.length ++ [Cell.lst xs]) else .ok (W.lst xs) ((S ++ [Cell.lst [.int a, .int b, .int 0]]).take S.length)) else .stuck
      | _ => .stuck)) = _
  rw [if_neg (Nat.lt_irrefl _), List.getElem?_append_right (Nat.le_refl _), Nat.sub_self]
  show R.ok _ _ = _
  rw [List.take_left']
  rfl
theorem take_callW {T : List Fun} {d k : Nat} {S : Store} {i : Nat} {n : Int} (h : T[k]? = some ⟨2, 4, false, false, takeB⟩) (hw : Well S i) (h0 : 0 < n) (h1 : n.natAbs.log2 < 9000) :
    ∃ v : Int, 0 ≤ v ∧ v < n ∧ ∃ S', fns T (d + 1) k [.ref i, .int n] S = .ok (.int v) S' ∧ Well S' i ∧ S'.length = S.length ∧ ∀ j, j ≠ i → S'[j]? = S[j]? := by
  obtain ⟨v, v0, v1, S', e, w, l, o⟩ := take_ok (φ := fns T d) hw h0 h1
  refine ⟨v, v0, v1, S', ?_, w, l, o⟩
  rw [fns_eq h rfl]
  refine (congrArg (finS false S.length) e).trans ?_
  show R.ok _ (S'.take S.length) = _
  rw [List.take_of_length_le (by omega)]
theorem log_small {n : Int} (h0 : 0 < n) (h1 : n < 1073741824) : n.natAbs.log2 < 9000 := by
  have : n.natAbs.log2 < 30 := (Nat.log2_lt (by omega)).mpr (by omega)
  omega
theorem take_call {T : List Fun} {d k : Nat} {S : Store} {i : Nat} {n : Int} (h : T[k]? = some ⟨2, 4, false, false, takeB⟩) (hw : Well S i) (h0 : 0 < n) (h1 : n < 1073741824) :
    ∃ v : Int, 0 ≤ v ∧ v < n ∧ ∃ S', fns T (d + 1) k [.ref i, .int n] S = .ok (.int v) S' ∧ Well S' i ∧ S'.length = S.length ∧ ∀ j, j ≠ i → S'[j]? = S[j]? := take_callW h hw h0 (log_small h0 h1)
theorem Well.new {S : Store} {a b c : Int} (ha : 0 ≤ a) (hb : 0 ≤ b) : Well (S ++ [.lst [.int a, .int b, .int c]]) S.length := ⟨a, b, c, ha, hb, by rw [List.getElem?_append_right (Nat.le_refl _), Nat.sub_self] <;> rfl⟩
theorem mem_range {x : W} {a : Int} {n : Nat} (h : x ∈ rangeW a n) : ∃ t : Nat, t < n ∧ x = .int (a + t) := by
  obtain ⟨t, ht, rfl⟩ := List.mem_map.mp h
  exact ⟨t, List.mem_range.mp ht, rfl⟩
theorem pures_ints : ∀ ns : List Int, pures (ns.map W.int) = true
  | [] => rfl
  | n :: r => by
    show (true && pures (r.map W.int)) = true
    rw [pures_ints r] <;> rfl
theorem law_end {T : List Fun} {d k nv : Nat} {b : Fns → MS} {ns : List Int} (h : T[k]? = some ⟨1, nv, false, true, b⟩) (e : Rt (b (fns T d) (some (.scr (ns.map .int)) :: List.replicate (nv - 1) none) []) (.bl true)) : ∃ S, fns T (d + 1) k [.scr (ns.map .int)] [] = .ok (.bl true) S := by
  obtain ⟨S, e⟩ := e
  refine ⟨[], ?_⟩
  rw [fns_fr h rfl (by show (pures (ns.map W.int) && true) = true; rw [pures_ints]; rfl)]
  exact (congrArg (fun z => R.frame [] (finS false 0 z)) e).trans rfl
end Mp

set_option Elab.async false
set_option linter.all false
set_option maxRecDepth 100000
set_option maxHeartbeats 4000000
/-! Mp: zip, enumerate. -/
namespace Mp
open PySem PySem.Spec PyProof.Rows L2 RZ
/-- pairs of items that stand beside each other -/
def pairsW (xs ys : List W) : List W := (xs.zip ys).map fun p => W.tup [p.1, p.2]
def zipW : List W → Option (List W)
  | [.lst xs, .lst ys] => some (pairsW xs ys)
  | [.tup xs, .tup ys] => some (pairsW xs ys)
  | _ => none
def enumL : Int → List W → List W
  | _, [] => []
  | i, x :: r => .tup [.int i, x] :: enumL (i + 1) r
def enumW : List W → Option (List W)
  | [.lst xs] => some (enumL 0 xs)
  | _ => none
section
variable {K : PySem.W.Frag} {G : Gs} {γ : Ga} {H : Hp} {S : Store}
theorem pair_new {T : Addr} {x y : V} {wx wy : W} (hT : H T = none) (s : StoreOk K G γ H S) (rx : Rep K G γ H wx x) (ry : Rep K G γ H wy y) :
    Ext γ H γ (upd H T (.tup [x, y])) ∧ StoreOk K G γ (upd H T (.tup [x, y])) S ∧ Rep K G γ (upd H T (.tup [x, y])) (.tup [wx, wy]) (.ref T) :=
  ⟨Ext.upd s hT, s.upd hT, .tup (.inl ⟨.inl upd_same, s.fresh hT⟩) (.cons (rx.mono (Ext.upd s hT)) (.cons (ry.mono (Ext.upd s hT)) .nil))⟩
theorem pairsW_get {xs ys : List W} {i : Nat} {w : W} (h : (pairsW xs ys)[i]? = some w) : ∃ a b, xs[i]? = some a ∧ ys[i]? = some b ∧ w = .tup [a, b] := by
  unfold pairsW at h
  rw [List.getElem?_map] at h
  cases e : (xs.zip ys)[i]? with
  | none => rw [e] at h; cases h
  | some p =>
    rw [e] at h
    cases h
    rw [List.getElem?_zip_eq_some] at e
    exact ⟨_, _, e.1, e.2, rfl⟩
theorem pairsW_len {xs ys : List W} : (pairsW xs ys).length = min xs.length ys.length := by
  unfold pairsW
  rw [List.length_map, List.length_zip]
theorem itOk_zip {a b : Addr} {xs ys : List W} {vs us : List V} (sa : ∀ {γ' H'}, ExtW γ H γ' H' → SqL K H' a vs) (sb : ∀ {γ' H'}, ExtW γ H γ' H' → SqL K H' b us) (q : Reps K G γ H xs vs) (q' : Reps K G γ H ys us) : ItOk K G (Itz K a b) (pairsW xs ys) γ H := by
  refine ⟨fun i γ' H' S hi e _ => ?_, fun γ' H' S e _ => ⟨vs, us, sa e, sb e, ?_⟩, fun i w γ' H' S x H'' hw e s y => ?_⟩
  · rw [pairsW_len, q.length, q'.length] at hi
    have h1 : i < vs.length := by omega
    have h2 : i < us.length := by omega
    exact ⟨vs, us, vs[i], us[i], sa e, sb e, List.getElem?_eq_getElem h1, List.getElem?_eq_getElem h2⟩
  · rw [pairsW_len, q.length, q'.length]
    omega
  · obtain ⟨T, v, u, rfl, hT, rfl, h1, h2⟩ := y
    obtain ⟨p, r, hp, hr, rfl⟩ := pairsW_get hw
    obtain ⟨v', hv', rv⟩ := q.get hp
    obtain ⟨u', hu', ru⟩ := q'.get hr
    have z1 := h1 vs (sa e)
    have z2 := h2 us (sb e)
    rw [hv'] at z1
    rw [hu'] at z2
    cases z1
    cases z2
    exact pair_new hT s (rv.monoW e) (ru.monoW e)
theorem itOk_zipT {a b : Addr} {xs ys : List W} {vs us : List V} (sa : ∀ {γ' H'}, ExtW γ H γ' H' → SqT K H' a vs) (sb : ∀ {γ' H'}, ExtW γ H γ' H' → SqT K H' b us) (q : Reps K G γ H xs vs) (q' : Reps K G γ H ys us) : ItOk K G (ItzT K a b) (pairsW xs ys) γ H := by
  refine ⟨fun i γ' H' S hi e _ => ?_, fun γ' H' S e _ => ⟨vs, us, sa e, sb e, ?_⟩, fun i w γ' H' S x H'' hw e s y => ?_⟩
  · rw [pairsW_len, q.length, q'.length] at hi
    have h1 : i < vs.length := by omega
    have h2 : i < us.length := by omega
    exact ⟨vs, us, vs[i], us[i], sa e, sb e, List.getElem?_eq_getElem h1, List.getElem?_eq_getElem h2⟩
  · rw [pairsW_len, q.length, q'.length]
    omega
  · obtain ⟨T, v, u, rfl, hT, rfl, h1, h2⟩ := y
    obtain ⟨p, r, hp, hr, rfl⟩ := pairsW_get hw
    obtain ⟨v', hv', rv⟩ := q.get hp
    obtain ⟨u', hu', ru⟩ := q'.get hr
    have z1 := h1 vs (sa e)
    have z2 := h2 us (sb e)
    rw [hv'] at z1
    rw [hu'] at z2
    cases z1
    cases z2
    exact pair_new hT s (rv.monoW e) (ru.monoW e)
theorem enumL_get : ∀ {xs : List W} {k : Int} {i : Nat} {w : W}, (enumL k xs)[i]? = some w → ∃ a, xs[i]? = some a ∧ w = .tup [.int (k + i), a]
  | [], k, i, w, h => by simp [enumL] at h
  | x :: r, k, 0, w, h => by
    have e : w = .tup [.int k, x] := by simpa [enumL] using h.symm
    exact ⟨x, rfl, by rw [e]; simp⟩
  | x :: r, k, i + 1, w, h => by
    have h : (enumL (k + 1) r)[i]? = some w := by simpa [enumL] using h
    obtain ⟨a, ha, e⟩ := enumL_get h
    exact ⟨a, by simpa using ha, by rw [e]; congr 3; omega⟩
theorem enumL_len : ∀ {xs : List W} {k : Int}, (enumL k xs).length = xs.length
  | [], _ => rfl
  | x :: r, k => by rw [enumL, List.length_cons, List.length_cons, enumL_len]
theorem itOk_enum {a : Addr} {xs : List W} {vs : List V} (sa : ∀ {γ' H'}, ExtW γ H γ' H' → SqL K H' a vs) (q : Reps K G γ H xs vs) : ItOk K G (Ite K a) (enumL 0 xs) γ H := by
  refine ⟨fun i γ' H' S hi e _ => ?_, fun γ' H' S e _ => ⟨vs, sa e, ?_⟩, fun i w γ' H' S x H'' hw e s y => ?_⟩
  · rw [enumL_len, q.length] at hi
    exact ⟨vs, vs[i], sa e, List.getElem?_eq_getElem hi⟩
  · rw [enumL_len, q.length]
    exact Nat.le_refl _
  · obtain ⟨T, v, rfl, hT, rfl, h1⟩ := y
    obtain ⟨p, hp, rfl⟩ := enumL_get hw
    obtain ⟨v', hv', rv⟩ := q.get hp
    have z1 := h1 vs (sa e)
    rw [hv'] at z1
    cases z1
    rw [Int.zero_add]
    exact pair_new hT s (.int _) (rv.monoW e)
end
section
variable {X : Cx} {G : Gs} {a b e : Expr} {pos p tpos : Pos} {ga : MA} {elts : List Expr} {kk : Nat}
def miAll (o : List W → Option (List W)) (ga : MA) : MI := fun η S => (ga η S).bind fun ws S1 => rOpt (o ws) S1
theorem si_zip (hm : X.mg "zip" = none) (ha : SA X G [a, b] ga) (hg : Gl X "zip" := by rfl) (hs : starEach [a, b] X.env = (false, eval a X.env) :: starEach [b] X.env := by rfl) (hpl : (backTo pos (starEach [b] X.env)).any (·.1) = false := by rfl) :
    SI X G (.Tuple elts kk tpos) (.Call (.Name "zip" p) [a, b] [] pos) (miAll zipW ga) := by
  refine ⟨fun Wi tk => (pi_zipA hg hm (ha.run Wi tk) hs hpl).imp ?_⟩
  rintro σ H R ⟨η, S, γ, he, hs, q⟩
  refine ⟨η, S, γ, he, hs, (PostI.seq q).imp fun x H1 ⟨wx, S1, γ1, e1, r1, s1, q1⟩ => ?_⟩
  unfold zipW at q1
  split at q1
  · cases r1 with
    | cons r r1 =>
      cases r1 with
      | cons r' r1 =>
        cases r1
        cases r with
        | lst h1 o1 z1 =>
        cases r' with
        | lst h2 o2 z2 =>
        exact ⟨_, _, _, _, rfl, .inl ⟨SqL.of h1, SqL.of h2, q1 _ γ1 H1 Ext.refl s1 (itOk_zip (fun e => .inl (e.rd (.inl h1) o1).1) (fun e => .inl (e.rd (.inl h2) o2).1) z1 z2)⟩⟩
  · cases r1 with
    | cons r r1 =>
      cases r1 with
      | cons r' r1 =>
        cases r1
        cases r with
        | tup h1 z1 =>
        cases r' with
        | tup h2 z2 =>
        exact ⟨_, _, _, _, rfl, .inr ⟨h1.sq, h2.sq, q1 _ γ1 H1 Ext.refl s1 (itOk_zipT (fun e => (h1.monoW e).sq) (fun e => (h2.monoW e).sq) z1 z2)⟩⟩
  · exact q1.elim
theorem si_enum (hm : X.mg "enumerate" = none) (ha : SA X G [a] ga) (hg : Gl X "enumerate" := by rfl) (hs : starEach [a] X.env = [(false, eval a X.env)] := by rfl) :
    SI X G (.Tuple elts kk tpos) (.Call (.Name "enumerate" p) [a] [] pos) (miAll enumW ga) := by
  refine ⟨fun Wi tk => (pi_enum hg hm (ha.run Wi tk) hs).imp ?_⟩
  rintro σ H R ⟨η, S, γ, he, hs, q⟩
  refine ⟨η, S, γ, he, hs, (PostI.seq q).imp fun x H1 ⟨wx, S1, γ1, e1, r1, s1, q1⟩ => ?_⟩
  unfold enumW at q1
  split at q1
  · cases r1 with
    | cons r r1 =>
      cases r1
      cases r with
      | lst h1 o1 z1 =>
      exact ⟨_, _, rfl, SqL.of h1, q1 _ γ1 H1 Ext.refl s1 (itOk_enum (fun e => .inl (e.rd (.inl h1) o1).1) z1)⟩
  · exact q1.elim
end
end Mp

set_option Elab.async false
set_option linter.all false
set_option maxRecDepth 100000
set_option maxHeartbeats 4000000
/-! Mp: comprehensions of two fors. -/
namespace Mp
open PySem PySem.Spec PyProof.Rows L2
def compL2 (g : MG) (t : MT) (it1 : MI) (g1 : MG) (t1 : MT) (e : ME) (vs1 : List Nat) (η : Env) : List W → Store → List W → R (List W)
  | [], S, acc => .ok acc S
  | x :: r, S, acc => match g x η S with
    | none => .stuck
    | some (η1, S1) => (t η1 S1).bind fun b S2 => if b = true then (it1 η1 S2).bind fun ys S3 => (compL g1 t1 e (wipeE η1 vs1) ys S3 acc).bind fun acc' S4 => compL2 g t it1 g1 t1 e vs1 η r S4 acc' else compL2 g t it1 g1 t1 e vs1 η r S2 acc
def mComp2 (it : MI) (own : List Nat) (g : MG) (t : MT) (it1 : MI) (vs1 : List Nat) (g1 : MG) (t1 : MT) (e : ME) : ME := fun η S => (it η S).bind fun xs S1 => (noexc (compL2 g t it1 g1 t1 e vs1 (wipeE η own) xs S1 [])).bind fun ws S2 => .ok (.lst ws) S2
section
variable {X : Cx} {G : Gs} {tg iter elt : Expr} {ifs : List Expr} {scope : Scope} {f : ME} {g g1 : MG} {t t1 : MT} {it it1 : MI} {is is1 : List Nat} {own : List (Str × Nat)} {pos : Pos}
/-- what holds between turns: D holds what was gathered -/
structure Gat (K : PySem.W.Frag) (G : Gs) (γ0 : Ga) (H0 : Hp) (D : Addr) (γ : Ga) (H : Hp) (S : Store) (acc : List W) : Prop where
  s : StoreOk K G γ H S
  ex : Ext γ0 H0 γ H
  dβ : D ∈ γ.β
  us : ∃ us, H D = some (.lst us) ∧ Reps K G γ H acc us
theorem Gat.step {K : PySem.W.Frag} {γ0 γ γ' : Ga} {H0 H H' : Hp} {D : Addr} {S S' : Store} {acc : List W} (h : Gat K G γ0 H0 D γ H S acc) (e : Ext γ H γ' H') (s : StoreOk K G γ' H' S') : Gat K G γ0 H0 D γ' H' S' acc := by
  obtain ⟨us, h1, h2⟩ := h.us
  exact ⟨s, h.ex.trans e, e.bsub _ h.dβ, us, e.keep D _ h1 (h.s.bt D h.dβ).1, h2.mono e⟩
theorem Gat.put {K : PySem.W.Frag} {γ0 γ : Ga} {H0 H : Hp} {D : Addr} {S : Store} {acc : List W} {w : W} {v : V} (h : Gat K G γ0 H0 D γ H S acc) (hD : H0 D = none) (r : Rep K G γ H w v) (hsz : acc.length + 1 ≤ bigLine) :
    ∃ us, H D = some (.lst us) ∧ us.length < sizeLine ∧ Gat K G γ0 H0 D γ (L2.upd H D (.lst (us ++ [v]))) S (acc ++ [w]) := by
  obtain ⟨us, h1, h2⟩ := h.us
  rw [bigLine_eq] at hsz
  have ll := h2.length
  have n4 := (h.s.bt D h.dβ).1
  refine ⟨us, h1, by omega, h.s.busy h.dβ, ?_, h.dβ, us ++ [v], upd_same, (Reps.busy h.dβ n4 h2).append (.one (Rep.busy h.dβ n4 r))⟩
  have na : ∀ {a : Addr} {o : HO}, H0 a = some o → a ≠ D := fun q => ne_of_none q hD
  exact ⟨h.ex.pre, h.ex.bsub, h.ex.bnew, fun a o q n => by rw [upd_ne (na q)]; exact h.ex.keep a o q n, h.ex.new, fun a o q => by
    obtain ⟨o', q'⟩ := h.ex.dom a o q
    exact ⟨o', by rw [upd_ne (na q)]; exact q'⟩⟩
theorem ExtW.busy {γ γ' : Ga} {H H' : Hp} {D : Addr} {o : HO} (e : ExtW γ H γ' H') (h : D ∈ γ.β) : ExtW γ H γ' (L2.upd H' D o) :=
  ⟨e.pre, e.bsub, e.bnew, fun a u q n => by rw [upd_ne (n.ne h)]; exact e.keep a u q n, e.new, fun a u q => by
    by_cases z : a = D
    · exact ⟨_, by rw [z]; exact upd_same⟩
    · obtain ⟨u', q'⟩ := e.dom a u q
      exact ⟨u', by rw [upd_ne z]; exact q'⟩⟩
/-- the inner loop's turns -/
theorem lc_in {K : PySem.W.Frag} {γ0 γ1 : Ga} {H0 H1 : Hp} {D : Addr} {J : It} {ys : List W} {η : Env} {S1 SF : Store} {σ : L2.St} {acc0 accF : List W} {vs : List Nat} {Nx : Hp → Prop} (hD : H0 D = none) (ok : ItOk K G J ys γ1 H1) (he : EnvOk K G γ1 H1 η σ)
    (gt : Gat K G γ0 H0 D γ1 H1 S1 acc0) (his : ∀ i ∈ is, i ∈ vs) (h : compL g t f (wipeE η vs) ys S1 acc0 = .ok accF SF) (hN : ∀ γ H, Gat K G γ0 H0 D γ H SF accF → Nx H) :
    ∃ Wv : Nat → Nat → Hp → Prop, (∃ k, Wv 0 k H1) ∧ ∀ j k H, Wv j k H →
      (J.stop j H ∧ Nx H) ∨ (J.go j H ∧ ∃ Nx1 : Hp → Prop, (∀ H', Nx1 H' → ∃ k', k' < k ∧ Wv (j + 1) k' H') ∧ ∀ x H', J.yld j H x H' → tgOf K G is g x (wipe σ vs) H' fun σ3 H5 => wipe σ3 vs = wipe σ vs ∧ ttOf K G (fun _ _ _ _ => False) t σ3 H5 fun b H6 =>
        if b = true then tOf K G (fun _ _ _ _ => False) f σ3 H6 fun y H7 => ∃ acc, H7 D = some (.lst acc) ∧ acc.length < sizeLine ∧ Nx1 (L2.upd H7 D (.lst (acc ++ [y]))) else Nx1 H6) := by
  refine ⟨fun j k H => k = ys.length - j ∧ j ≤ ys.length ∧ ∃ S γ acc, Gat K G γ0 H0 D γ H S acc ∧ ExtW γ1 H1 γ H ∧ compL g t f (wipeE η vs) (ys.drop j) S acc = .ok accF SF, ⟨ys.length, rfl, Nat.zero_le _, S1, γ1, acc0, gt, Ext.refl.w, h⟩, ?_⟩
  rintro i m H ⟨rfl, hi, S, γ, acc, gt', ex, hc⟩
  have s := gt'.s
  by_cases hlt : i < ys.length
  · refine .inr ⟨ok.go i γ H S hlt ex s, _, fun H' z => ⟨ys.length - (i + 1), by omega, z⟩, fun x H' y => ?_⟩
    obtain ⟨e1, s1, r1⟩ := ok.yld i ys[i] γ H S x H' (List.getElem?_eq_getElem hlt) ex s y
    have gt1 := gt'.step e1 s1
    have ex1 := ex.trans e1.w
    rw [List.drop_eq_getElem_cons hlt] at hc
    unfold compL at hc
    cases eg : g ys[i] (wipeE η vs) S with
    | none =>
      rw [eg] at hc
      cases hc
    | some z =>
      obtain ⟨η1, S2⟩ := z
      rw [eg] at hc
      have heW : EnvOk K G γ H' η σ := ⟨he.1, fun j w q => by
        obtain ⟨v, h1, h2⟩ := he.2 j w q
        exact ⟨v, h1, (h2.monoW ex).mono e1⟩⟩
      refine ⟨wipeE η vs, S, γ, ys[i], η1, S2, heW.wipe vs, s1, r1, eg, fun σ2 γ2 H2 e2 he2 s2 hl2 hn2 => ⟨?_, ?_⟩⟩
      · rw [wipe_same (σ := wipe σ vs) his hl2 hn2, wipe_wipe]
      · refine ⟨η1, S2, γ2, he2, s2, ?_⟩
        cases et : t η1 S2 with
        | stuck =>
          simp only [et] at hc
          cases hc
        | exc c x S2 =>
          simp only [et] at hc
          cases hc
        | ok b S3 =>
          simp only [et, R.bind] at hc
          intro b' γ3 H3 e3 rb s3
          cases rb
          have gt3 := (gt1.step e2 s2).step e3 s3
          have ex3 := (ex1.trans e2.w).trans e3.w
          cases b with
          | false =>
            rw [if_neg Bool.false_ne_true] at hc ⊢
            exact ⟨rfl, hlt, S3, γ3, acc, gt3, ex3, hc⟩
          | true =>
            rw [if_pos rfl] at hc ⊢
            refine ⟨η1, S3, γ3, he2.mono e3, s3, ?_⟩
            cases ee : f η1 S3 with
            | stuck =>
              simp only [ee] at hc
              cases hc
            | exc c x S3 =>
              simp only [ee] at hc
              cases hc
            | ok w S4 =>
              simp only [ee] at hc
              intro v γ4 H4 e4 r4 s4
              unfold sized at hc
              split at hc
              · rename_i hsz
                have gt4 := gt3.step e4 s4
                obtain ⟨us, h1, h2, h3⟩ := gt4.put hD r4 hsz
                exact ⟨us, h1, h2, rfl, hlt, S4, γ4, acc ++ [w], h3, (ex3.trans e4.w).busy gt.dβ, hc⟩
              · cases hc
  · have e : i = ys.length := by omega
    subst e
    rw [List.drop_length] at hc
    cases hc
    exact .inl ⟨ok.stop γ H _ ex s, hN γ H gt'⟩
theorem Gat.start {K : PySem.W.Frag} {γ0 : Ga} {H0 : Hp} {S0 : Store} {D : Addr} (hs : StoreOk K G γ0 H0 S0) (hD : H0 D = none) : Gat K G γ0 H0 D ⟨γ0.ρ, D :: γ0.β⟩ (L2.upd H0 D (.lst [])) S0 [] := by
  have off := hs.fresh hD
  refine ⟨?_, ?_, List.mem_cons_self .., [], upd_same, .nil⟩
  · have s1 := hs.upd (o := .lst []) hD
    refine ⟨s1.len, s1.nd, fun i c a hc ha => ?_, fun a ha => ?_⟩
    · have q := s1.cell i c a hc ha
      cases c with
      | lst ys =>
        obtain ⟨p1, us, hv, r'⟩ := hs.cell i _ a hc ha
        refine ⟨p1, us, by rw [upd_ne (ne_of_none hv hD)]; exact hv, r'.mono ?_⟩
        exact ⟨List.prefix_refl _, fun b hb => List.mem_cons_of_mem _ hb, fun b hb => (List.mem_cons.mp hb).elim (fun z => .inr (by rw [z]; exact hD)) .inl, fun b u e _ => by rw [upd_ne (ne_of_none e hD)]; exact e, fun _ h1 h2 => absurd h1 h2, fun b u e => ⟨u, by rw [upd_ne (ne_of_none e hD)]; exact e⟩⟩
      | dct _ _ => exact (hs.cell i _ a hc ha).to (fun o f => by rw [upd_ne (ne_of_none f hD)]; exact f) fun _ r => by refine r.mono ?_; exact ⟨List.prefix_refl _, fun b hb => List.mem_cons_of_mem _ hb, fun b hb => (List.mem_cons.mp hb).elim (fun z => .inr (by rw [z]; exact hD)) .inl, fun b u e _ => by rw [upd_ne (ne_of_none e hD)]; exact e, fun _ h1 h2 => absurd h1 h2, fun b u e => ⟨u, by rw [upd_ne (ne_of_none e hD)]; exact e⟩⟩
      | ins _ _ => exact q.elim
    · rcases List.mem_cons.mp ha with z | z
      · rw [z]
        exact ⟨off.1, _, upd_same, fun _ z => nomatch z⟩
      · obtain ⟨n, o, q, nt⟩ := hs.bt a z
        exact ⟨n, o, by rw [upd_ne (ne_of_none q hD)]; exact q, nt⟩
  · exact ⟨List.prefix_refl _, fun b hb => List.mem_cons_of_mem _ hb, fun b hb => (List.mem_cons.mp hb).elim (fun z => .inr (by rw [z]; exact hD)) .inl, fun b u e _ => by rw [upd_ne (ne_of_none e hD)]; exact e, fun _ h1 h2 => absurd h1 h2, fun b u e => ⟨u, by rw [upd_ne (ne_of_none e hD)]; exact e⟩⟩
theorem Gat.done {K : PySem.W.Frag} {γ0 γ : Ga} {H0 H : Hp} {S0 S : Store} {D : Addr} {acc : List W} (hs : StoreOk K G γ0 H0 S0) (hD : H0 D = none) (h : Gat K G γ0 H0 D γ H S acc) :
    ∃ γ', Ext γ0 H0 γ' H ∧ Rep K G γ' H (.lst acc) (.ref D) ∧ StoreOk K G γ' H S := by
  obtain ⟨us, hus, racc⟩ := h.us
  have s := h.s
  have ex := h.ex
  have nD := (s.bt D h.dβ).1
  have fr : Ext γ0 H0 ⟨γ.ρ, γ.β.filter (fun a => decide (a ≠ D))⟩ H := by
    refine ⟨ex.pre, fun a ha => ?_, fun a ha => ex.bnew a (List.mem_filter.mp ha).1, ex.keep, ex.new, ex.dom⟩
    refine List.mem_filter.mpr ⟨ex.bsub a ha, ?_⟩
    obtain ⟨_, o, q, _⟩ := hs.bt a ha
    exact decide_eq_true (ne_of_none q hD)
  have lessO : ∀ (a : Addr) (o : HO), H a = some o → γ.Off a → Ga.Off ⟨γ.ρ, γ.β.filter (fun a => decide (a ≠ D))⟩ a := fun a o _ z => ⟨z.1, fun q => z.2 (List.mem_filter.mp q).1⟩
  have shrs : ∀ {w : List W} {v : List V}, Reps K G γ H w v → Reps K G ⟨γ.ρ, γ.β.filter (fun a => decide (a ≠ D))⟩ H w v := fun r => Reps.shrink (γ := γ) (γ' := ⟨γ.ρ, γ.β.filter (fun a => decide (a ≠ D))⟩) rfl lessO r
  refine ⟨_, fr, .lst hus ⟨nD, fun q => ?_⟩ (shrs racc), s.len, s.nd, fun i c a hc ha => ?_, fun a ha => s.bt a (List.mem_filter.mp ha).1⟩
  · have := (List.mem_filter.mp q).2
    simp at this
  · have q := s.cell i c a hc ha
    cases c with
    | lst ys =>
      obtain ⟨p1, us', hv, r'⟩ := q
      exact ⟨p1, us', hv, shrs r'⟩
    | dct _ _ => exact q.to (fun _ f => f) fun _ r => shrs r
    | ins _ _ => exact q.elim
theorem lc2_turns {K : PySem.W.Frag} {γ0 : Ga} {H0 : Hp} {J : It} {xs : List W} {η : Env} {S0 : Store} {σ : L2.St} {wsF : List W} {SF : Store} {Q : VK} {vs vs1 : List Nat} (ok : ItOk K G J xs γ0 H0) (he : EnvOk K G γ0 H0 η σ) (hs : StoreOk K G γ0 H0 S0)
    (his : ∀ i ∈ is, i ∈ vs) (his1 : ∀ i ∈ is1, i ∈ vs1) (h : compL2 g t it1 g1 t1 f vs1 (wipeE η vs) xs S0 [] = .ok wsF SF) (hQ : ∀ v γ' H', Ext γ0 H0 γ' H' → Rep K G γ' H' (.lst wsF) v → StoreOk K G γ' H' SF → Q v H') :
    ∀ D, H0 D = none → ∃ Wv : Nat → Nat → Hp → Prop, (∃ m, Wv 0 m (L2.upd H0 D (.lst []))) ∧ ∀ i m H, Wv i m H →
      (J.stop i H ∧ Q (.ref D) H) ∨ (J.go i H ∧ ∃ Nx : Hp → Prop, (∀ H', Nx H' → ∃ m', m' < m ∧ Wv (i + 1) m' H') ∧ ∀ x H', J.yld i H x H' → tgOf K G is g x (wipe σ vs) H' fun σ2 H2 => wipe σ2 vs = wipe σ vs ∧ ttOf K G (fun _ _ _ _ => False) t σ2 H2 fun b H3 =>
        if b = true then tiOf K G (fun _ _ _ _ => False) it1 σ2 H3 fun J1 H4 => ∃ W1 : Nat → Nat → Hp → Prop, (∃ k, W1 0 k H4) ∧ ∀ j k H, W1 j k H →
          (J1.stop j H ∧ Nx H) ∨ (J1.go j H ∧ ∃ Nx1 : Hp → Prop, (∀ H', Nx1 H' → ∃ k', k' < k ∧ W1 (j + 1) k' H') ∧ ∀ x H', J1.yld j H x H' → tgOf K G is1 g1 x (wipe σ2 vs1) H' fun σ3 H5 => wipe σ3 vs1 = wipe σ2 vs1 ∧ ttOf K G (fun _ _ _ _ => False) t1 σ3 H5 fun b H6 =>
            if b = true then tOf K G (fun _ _ _ _ => False) f σ3 H6 fun y H7 => ∃ acc, H7 D = some (.lst acc) ∧ acc.length < sizeLine ∧ Nx1 (L2.upd H7 D (.lst (acc ++ [y]))) else Nx1 H6)
        else Nx H3) := by
  intro D hD
  refine ⟨fun i m H => m = xs.length - i ∧ i ≤ xs.length ∧ ∃ S γ acc, Gat K G γ0 H0 D γ H S acc ∧ compL2 g t it1 g1 t1 f vs1 (wipeE η vs) (xs.drop i) S acc = .ok wsF SF, ⟨xs.length, rfl, Nat.zero_le _, S0, _, [], Gat.start hs hD, h⟩, ?_⟩
  rintro i m H ⟨rfl, hi, S, γ, acc, gt, hc⟩
  have s := gt.s
  have ex := gt.ex
  by_cases hlt : i < xs.length
  · refine .inr ⟨ok.go i γ H S hlt ex.w s, _, fun H' z => ⟨xs.length - (i + 1), by omega, z⟩, fun x H' y => ?_⟩
    obtain ⟨e1, s1, r1⟩ := ok.yld i xs[i] γ H S x H' (List.getElem?_eq_getElem hlt) ex.w s y
    have gt1 := gt.step e1 s1
    rw [List.drop_eq_getElem_cons hlt] at hc
    unfold compL2 at hc
    cases eg : g xs[i] (wipeE η vs) S with
    | none =>
      rw [eg] at hc
      cases hc
    | some z =>
      obtain ⟨η1, S1⟩ := z
      rw [eg] at hc
      refine ⟨wipeE η vs, S, γ, xs[i], η1, S1, ((he.mono ex).mono e1).wipe vs, s1, r1, eg, fun σ2 γ2 H2 e2 he2 s2 hl2 hn2 => ⟨?_, ?_⟩⟩
      · rw [wipe_same (σ := wipe σ vs) his hl2 hn2, wipe_wipe]
      · refine ⟨η1, S1, γ2, he2, s2, ?_⟩
        cases et : t η1 S1 with
        | stuck =>
          simp only [et] at hc
          cases hc
        | exc c x S2 =>
          simp only [et] at hc
          cases hc
        | ok b S2 =>
          simp only [et, R.bind] at hc
          intro b' γ3 H3 e3 rb s3
          cases rb
          have gt3 := (gt1.step e2 s2).step e3 s3
          cases b with
          | false =>
            rw [if_neg Bool.false_ne_true] at hc ⊢
            exact ⟨rfl, hlt, S2, γ3, acc, gt3, hc⟩
          | true =>
            rw [if_pos rfl] at hc ⊢
            refine ⟨η1, S2, γ3, he2.mono e3, s3, ?_⟩
            cases ei : it1 η1 S2 with
            | stuck =>
              simp only [ei] at hc
              cases hc
            | exc c x S3 =>
              simp only [ei] at hc
              cases hc
            | ok ys S3 =>
              simp only [ei] at hc
              intro J1 γ4 H4 e4 s4 ok4
              have gt4 := gt3.step e4 s4
              cases ec : compL g1 t1 f (wipeE η1 vs1) ys S3 acc with
              | stuck =>
                simp only [ec] at hc
                cases hc
              | exc c x S3 =>
                simp only [ec] at hc
                cases hc
              | ok acc' S4 =>
                simp only [ec] at hc
                exact lc_in hD ok4 ((he2.mono e3).mono e4) gt4 his1 ec fun γ5 H5 gt5 => ⟨rfl, hlt, S4, γ5, acc', gt5, hc⟩
  · have e : i = xs.length := by omega
    subst e
    rw [List.drop_length] at hc
    cases hc
    obtain ⟨γ', e1, e2, e3⟩ := gt.done hs hD
    exact .inl ⟨ok.stop γ H _ ex.w s, hQ _ γ' H e1 e2 e3⟩
theorem comp2_read {Wi : WX} {Q : VK} {σ : L2.St} {H : Hp} {vs1 : List Nat} (his : ∀ i ∈ is, i ∈ own.map (·.2)) (his1 : ∀ i ∈ is1, i ∈ vs1) (q : tOf X.K G Wi (mComp2 it (own.map (·.2)) g t it1 vs1 g1 t1 f) σ H Q) :
    tLc2 (tiOf X.K G Wi it) (tgOf X.K G is g) (ttOf X.K G (fun _ _ _ _ => False) t) (tiOf X.K G (fun _ _ _ _ => False) it1) (tgOf X.K G is1 g1) (ttOf X.K G (fun _ _ _ _ => False) t1) (tOf X.K G (fun _ _ _ _ => False) f) (own.map (·.2)) vs1 σ H Q := by
  obtain ⟨η, S, γ, he, hs, q⟩ := q
  refine ⟨η, S, γ, he, hs, ?_⟩
  have q : Post X.K G (Rep X.K G) (fun c d H' => Wi c d σ H') γ H ((it η S).bind fun xs S1 => (noexc (compL2 g t it1 g1 t1 f vs1 (wipeE η (own.map (·.2))) xs S1 [])).bind fun ws S2 => .ok (.lst ws) S2) Q := q
  cases ei : it η S with
  | stuck =>
    rw [ei] at q
    exact q.elim
  | exc c x S1 =>
    rw [ei] at q
    exact q
  | ok xs S1 =>
    rw [ei] at q
    intro J γ1 H1 e1 s1 ok
    have q : Post X.K G (Rep X.K G) (fun c d H' => Wi c d σ H') γ H ((noexc (compL2 g t it1 g1 t1 f vs1 (wipeE η (own.map (·.2))) xs S1 [])).bind fun ws S2 => .ok (.lst ws) S2) Q := q
    cases ec : compL2 g t it1 g1 t1 f vs1 (wipeE η (own.map (·.2))) xs S1 [] with
    | stuck =>
      rw [ec] at q
      exact q.elim
    | exc c x S2 =>
      rw [ec] at q
      exact q.elim
    | ok ws S2 =>
      rw [ec] at q
      exact lc2_turns ok (he.mono e1) s1 his his1 ec fun v γ' H' e r s => q v γ' H' (e1.trans e) r s
variable {tg1 iter1 : Expr} {ifs1 : List Expr}
theorem se_comp2 (own : List (Str × Nat)) (vs1 : List Nat) (cf : Cfg X) (hi : SI X G tg iter it) (ok : BlkOk X.N X.env.scope scope own)
    (hg : ∀ (s : Shared) (H : Hp) (C : Addr) (cl : List (Str × Addr)) (fp : List Addr), Cfg (X.blk s H scope (compEnvC scope cl C X.env) fp) → SG (X.blk s H scope (compEnvC scope cl C X.env) fp) G tg is g)
    (ht : ∀ (s : Shared) (H : Hp) (C : Addr) (cl : List (Str × Addr)) (fp : List Addr), Cfg (X.blk s H scope (compEnvC scope cl C X.env) fp) → STs (X.blk s H scope (compEnvC scope cl C X.env) fp) G ifs t)
    (hi1 : ∀ (s : Shared) (H : Hp) (C : Addr) (cl : List (Str × Addr)) (fp : List Addr), Cfg (X.blk s H scope (compEnvC scope cl C X.env) fp) → SI (X.blk s H scope (compEnvC scope cl C X.env) fp) G tg1 iter1 it1)
    (hg1 : ∀ (s : Shared) (H : Hp) (C : Addr) (cl : List (Str × Addr)) (fp : List Addr), Cfg (X.blk s H scope (compEnvC scope cl C X.env) fp) → SG (X.blk s H scope (compEnvC scope cl C X.env) fp) G tg1 is1 g1)
    (ht1 : ∀ (s : Shared) (H : Hp) (C : Addr) (cl : List (Str × Addr)) (fp : List Addr), Cfg (X.blk s H scope (compEnvC scope cl C X.env) fp) → STs (X.blk s H scope (compEnvC scope cl C X.env) fp) G ifs1 t1)
    (he : ∀ (s : Shared) (H : Hp) (C : Addr) (cl : List (Str × Addr)) (fp : List Addr), Cfg (X.blk s H scope (compEnvC scope cl C X.env) fp) → SE (X.blk s H scope (compEnvC scope cl C X.env) fp) G elt f)
    (his : ∀ i ∈ is, i ∈ own.map (·.2) := by decide) (his1 : ∀ i ∈ is1, i ∈ vs1 := by decide) (hv : ∀ i ∈ vs1, i ∈ own.map (·.2) := by decide) (hs : ∀ x, foldedSetIterable iter X.env x = pure x := by intro _; rfl) (hs1 : ∀ env x, foldedSetIterable iter1 env x = pure x := by intro _ _; rfl) :
    SE X G (.ListComp elt [⟨tg, iter, ifs, 0⟩, ⟨tg1, iter1, ifs1, 0⟩] scope pos) (mComp2 it (own.map (·.2)) g t it1 vs1 g1 t1 f) := by
  refine ⟨fun Wi tk => (pe_lc2 (g := tgOf X.K G is g) (tt := ttOf X.K G (fun _ _ _ _ => False) t) (te := tOf X.K G (fun _ _ _ _ => False) f) (wi1 := tiOf X.K G (fun _ _ _ _ => False) it1) (g1 := tgOf X.K G is1 g1) (tt1 := ttOf X.K G (fun _ _ _ _ => False) t1) cf.calm cf.nd (hi.run Wi tk) ok hv (fun s H C cl fp => (hg s H C cl fp (cf.blk ..)).run) (fun s H C cl fp => (ht s H C cl fp (cf.blk ..)).run _ takes0)
    (fun s H C cl fp => (hi1 s H C cl fp (cf.blk ..)).run _ takes0) (fun s H C cl fp => (hg1 s H C cl fp (cf.blk ..)).run) (fun s H C cl fp => (ht1 s H C cl fp (cf.blk ..)).run _ takes0) (fun s H C cl fp => (he s H C cl fp (cf.blk ..)).run _ takes0) hs hs1).imp ?_⟩
  intro σ H Q q
  exact comp2_read his his1 q
theorem ss_setLc2 {y : Str} {py : Pos} {spos : Pos} (i : Nat) (own : List (Str × Nat)) (vs1 : List Nat) (cf : Cfg X) (hi : SI X G tg iter it) (ok : BlkOk X.N X.env.scope scope own)
    (hg : ∀ (s : Shared) (H : Hp) (C : Addr) (cl : List (Str × Addr)) (fp : List Addr), Cfg (X.blk s H scope (compEnvC scope cl C X.env) fp) → SG (X.blk s H scope (compEnvC scope cl C X.env) fp) G tg is g)
    (ht : ∀ (s : Shared) (H : Hp) (C : Addr) (cl : List (Str × Addr)) (fp : List Addr), Cfg (X.blk s H scope (compEnvC scope cl C X.env) fp) → STs (X.blk s H scope (compEnvC scope cl C X.env) fp) G ifs t)
    (hi1 : ∀ (s : Shared) (H : Hp) (C : Addr) (cl : List (Str × Addr)) (fp : List Addr), Cfg (X.blk s H scope (compEnvC scope cl C X.env) fp) → SI (X.blk s H scope (compEnvC scope cl C X.env) fp) G tg1 iter1 it1)
    (hg1 : ∀ (s : Shared) (H : Hp) (C : Addr) (cl : List (Str × Addr)) (fp : List Addr), Cfg (X.blk s H scope (compEnvC scope cl C X.env) fp) → SG (X.blk s H scope (compEnvC scope cl C X.env) fp) G tg1 is1 g1)
    (ht1 : ∀ (s : Shared) (H : Hp) (C : Addr) (cl : List (Str × Addr)) (fp : List Addr), Cfg (X.blk s H scope (compEnvC scope cl C X.env) fp) → STs (X.blk s H scope (compEnvC scope cl C X.env) fp) G ifs1 t1)
    (he : ∀ (s : Shared) (H : Hp) (C : Addr) (cl : List (Str × Addr)) (fp : List Addr), Cfg (X.blk s H scope (compEnvC scope cl C X.env) fp) → SE (X.blk s H scope (compEnvC scope cl C X.env) fp) G elt f)
    (hy : X.N[i]? = some y := by rfl) (hyl : X.env.scope.names.lookup y = some .local := by rfl)
    (hsw : swapsWith (.ListComp elt [⟨tg, iter, ifs, 0⟩, ⟨tg1, iter1, ifs1, 0⟩] scope pos) (some (.Name y py)) spos.line X.env = pure true := by exact sw_true rfl rfl rfl (by decide +kernel))
    (his : ∀ i ∈ is, i ∈ own.map (·.2) := by decide) (his1 : ∀ i ∈ is1, i ∈ vs1 := by decide) (hv : ∀ i ∈ vs1, i ∈ own.map (·.2) := by decide) (hs : ∀ x, foldedSetIterable iter X.env x = pure x := by intro _; rfl) (hs1 : ∀ env x, foldedSetIterable iter1 env x = pure x := by intro _ _; rfl) :
    SS X G (.Assign [.Name y py] (.ListComp elt [⟨tg, iter, ifs, 0⟩, ⟨tg1, iter1, ifs1, 0⟩] scope pos) spos) (sSet i (mComp2 it (own.map (·.2)) g t it1 vs1 g1 t1 f)) := by
  refine ⟨fun Wi tk => (ps_setLc2 (i := i) (g := tgOf X.K G is g) (tt := ttOf X.K G (fun _ _ _ _ => False) t) (te := tOf X.K G (fun _ _ _ _ => False) f) (wi1 := tiOf X.K G (fun _ _ _ _ => False) it1) (g1 := tgOf X.K G is1 g1) (tt1 := ttOf X.K G (fun _ _ _ _ => False) t1) cf.calm cf.nd hy hyl hsw (hi.run Wi tk) ok hv (fun s H C cl fp => (hg s H C cl fp (cf.blk ..)).run) (fun s H C cl fp => (ht s H C cl fp (cf.blk ..)).run _ takes0)
    (fun s H C cl fp => (hi1 s H C cl fp (cf.blk ..)).run _ takes0) (fun s H C cl fp => (hg1 s H C cl fp (cf.blk ..)).run) (fun s H C cl fp => (ht1 s H C cl fp (cf.blk ..)).run _ takes0) (fun s H C cl fp => (he s H C cl fp (cf.blk ..)).run _ takes0) hs hs1).imp ?_⟩
  rintro D σ H ⟨η, S, γ, he, hs, q⟩
  refine comp2_read his his1 ⟨η, S, γ, he, hs, (PostS.expr he q).imp fun v H1 ⟨w, S1, γ1, e1, r1, s1, q1⟩ => q1 _ γ1 H1 Ext.refl ((he.mono e1).set r1 i) s1⟩
end
end Mp

set_option Elab.async false
set_option linter.all false
set_option maxRecDepth 100000
set_option maxHeartbeats 4000000
/-! Mp: methods. -/
namespace Mp
open PySem PySem.Spec PyProof.Rows L2
/-- what a method does, by the receiver, the arguments, the store -/
abbrev OM := W → List W → Store → Option (W × Store)
/-- the receiver's kind: 3 a text, 4 a tuple, 5 a list -/
def recOk (c : Nat) (S : Store) (x : W) : Bool := match c, x with
  | 3, .str _ => true
  | 5, .lst _ => true
  | 5, .ref i => (match S[i]? with
    | some (.lst _) => true
    | _ => false)
  | 6, .dct _ _ => true
  | 6, .ref i => (match S[i]? with
    | some (.dct _ _) => true
    | _ => false)
  | _, _ => false
def rOM (o : Option (W × Store)) : R W := match o with
  | some (w, S) => .ok w S
  | none => .stuck
def mMeth (c : Nat) (o : OM) (f : ME) (ga : MA) : ME := fun η S => (f η S).bind fun x S1 => if recOk c S1 x = true then (ga η S1).bind fun ws S2 => rOM (o x ws S2) else .stuck
def omAppend : OM := fun x ws S => match x, ws with
  | .ref i, [w] => (match S[i]? with
    | some (.lst xs) => if w.pure = true ∧ xs.length + 1 ≤ bigLine then some (.non, S.set i (.lst (xs ++ [w]))) else none
    | _ => none)
  | _, _ => none
def omExtend : OM := fun x ws S => match x, ws with
  | .ref i, [w] => (match S[i]?, lstOf S w with
    | some (.lst xs), some ys => if pures ys = true ∧ xs.length + ys.length ≤ bigLine then some (.non, S.set i (.lst (xs ++ ys))) else none
    | _, _ => none)
  | _, _ => none
def omPopAt : OM := fun x ws S => match x, ws with
  | .ref i, [.int k] => (match S[i]? with
    | some (.lst xs) => if 0 ≤ k ∧ k < xs.length ∧ k < 9223372036854775808 then (xs[k.toNat]?).map fun w => (w, S.set i (.lst (xs.eraseIdx k.toNat))) else none
    | _ => none)
  | _, _ => none
def omPop : OM := fun x ws S => match x, ws with
  | .ref i, [] => (match S[i]? with
    | some (.lst xs) => (xs[xs.length - 1]?).map fun w => (w, S.set i (.lst xs.dropLast))
    | _ => none)
  | _, _ => none
/-- the place of a sign in '012' -/
def omIndex012 : OM := fun x ws S => match x, ws with
  | .str z, [.str [c]] => if z = [48, 49, 50] then (if c = 48 then some (.int 0, S) else if c = 49 then some (.int 1, S) else if c = 50 then some (.int 2, S) else none) else none
  | _, _ => none
def rmOf (K : PySem.W.Frag) (G : Gs) (o : OM) : V → List V → Hp → VK → Prop := fun x vs H Q => ∃ wx ws S γ w S3, Rep K G γ H wx x ∧ Reps K G γ H ws vs ∧ StoreOk K G γ H S ∧ o wx ws S = some (w, S3) ∧ ∀ v γ' H', Ext γ H γ' H' → Rep K G γ' H' w v → StoreOk K G γ' H' S3 → Q v H'
theorem pures_append : ∀ {xs ys : List W}, pures xs = true → pures ys = true → pures (xs ++ ys) = true
  | [], _, _, h => h
  | x :: r, ys, h, k => by
    rw [pures, Bool.and_eq_true] at h
    show (x.pure && pures (r ++ ys)) = true
    rw [h.1, pures_append h.2 k] <;> rfl
theorem pures_get : ∀ {xs : List W} {i : Nat} {w : W}, pures xs = true → xs[i]? = some w → w.pure = true
  | [], i, w, _, h => by simp at h
  | x :: r, 0, w, h, e => by
    rw [pures, Bool.and_eq_true] at h
    have : x = w := by simpa using e
    rw [← this]
    exact h.1
  | x :: r, i + 1, w, h, e => by
    rw [pures, Bool.and_eq_true] at h
    exact pures_get h.2 (i := i) (by simpa using e)
theorem pures_erase : ∀ {xs : List W} (i : Nat), pures xs = true → pures (xs.eraseIdx i) = true
  | [], i, h => by simpa using h
  | x :: r, 0, h => by
    rw [pures, Bool.and_eq_true] at h
    exact h.2
  | x :: r, i + 1, h => by
    rw [pures, Bool.and_eq_true] at h
    show (x.pure && pures (r.eraseIdx i)) = true
    rw [h.1, pures_erase i h.2] <;> rfl
theorem pures_take : ∀ {xs : List W} (i : Nat), pures xs = true → pures (xs.take i) = true
  | [], i, h => by simpa using h
  | x :: r, 0, h => rfl
  | x :: r, i + 1, h => by
    rw [pures, Bool.and_eq_true] at h
    show (x.pure && pures (r.take i)) = true
    rw [h.1, pures_take i h.2] <;> rfl
section
variable {X : Cx} {G : Gs} {a e : Expr} {es : List Expr} {apos cpos : Pos} {f : ME} {ga : MA} {T id : String} {name : Str} {o : OM} {c : Nat}
def tyOfC : Nat → String
  | 3 => "str"
  | 6 => "dict"
  | _ => "list"
theorem rec_ty {K : PySem.W.Frag} {γ : Ga} {H : Hp} {S : Store} {w : W} {v : V} (r : Rep K G γ H w v) (s : StoreOk K G γ H S) (h : recOk c S w = true) : tyV K (tyOfC c) v H := by
  unfold recOk at h
  split at h
  · cases r
    rfl
  · cases r with
    | lst h1 o1 q1 => exact .inl ⟨rfl, _, SqL.of h1⟩
  · rename_i i
    cases r with
    | ref hr =>
      split at h
      · rename_i xs hc
        obtain ⟨_, vs, hv, _⟩ := s.cell i _ _ hc hr
        exact .inl ⟨rfl, _, SqL.of hv⟩
      · cases h
  · cases r with
    | dct d f q =>
      refine .inr (.inr (.inl ⟨rfl, ?_⟩))
      rcases d with ⟨_, d, _⟩ | ⟨_, d, _⟩
      · exact .inl ⟨_, d⟩
      · exact .inr ⟨_, d⟩
  · rename_i i
    cases r with
    | ref hr =>
      split at h
      · rename_i xs hc
        obtain ⟨_, _, us, d, _⟩ := s.cell i _ _ hc hr
        refine .inr (.inr (.inl ⟨rfl, ?_⟩))
        rcases d with ⟨_, d, _⟩ | ⟨_, d, _⟩
        · exact .inl ⟨_, d⟩
        · exact .inr ⟨_, d⟩
      · cases h
  · cases h
theorem se_meth (c : Nat) (o : OM) (pa : PlainAttrs (tyOfC c)) (slot : Slot (tyOfC c) name id) (hty : typeOf (.builtin id) = pure (.type "method_descriptor")) (hm : MtR X id (rmOf X.K G o)) (ha : SE X G a f) (hb : SA X G (e :: es) ga)
    (hbase : attributeBase a name X.env (eval a X.env) = eval a X.env := by rfl)
    (hfew : ((backTo cpos (starEach (e :: es) X.env)).all (fun x => !x.1) && (backToKw cpos (keywordEach [] X.env)).all (fun x => x.1.isSome)
      && decide ((e :: es).length + ([] : List Keyword).length + (if ([] : List Keyword).isEmpty then 0 else 1) < 30)) = true := by rfl)
    (hline : (apos.endLine == cpos.line) = true := by rfl) (hs : starEach (e :: es) X.env = (false, eval e X.env) :: starEach es X.env := by rfl) (hplain : (backTo cpos (starEach es X.env)).any (·.1) = false := by rfl) :
    SE X G (.Call (.Attribute a name apos) (e :: es) [] cpos) (mMeth c o f ga) := by
  refine ⟨fun Wi tk => (pe_bm pa slot hty hm (ha.run Wi tk) (hb.run Wi tk) hbase hfew hline hs hplain).imp ?_⟩
  rintro σ H Q ⟨η, S, γ, he, hs, q⟩
  refine ⟨η, S, γ, he, hs, (Post.seq q).imp fun x H1 ⟨wx, S1, γ1, e1, r1, s1, q1⟩ => ?_⟩
  split at q1
  · rename_i hr
    refine ⟨rec_ty r1 s1 hr, η, S1, γ1, he.mono e1, s1, (Post.seq q1).imp fun xs H2 ⟨ws, S2, γ2, e2, r2, s2, q2⟩ => ?_⟩
    cases eo : o wx ws S2 with
    | none =>
      rw [eo] at q2
      exact q2.elim
    | some p =>
      obtain ⟨w, S3⟩ := p
      rw [eo] at q2
      exact ⟨wx, ws, S2, γ2, w, S3, r1.mono e2, r2, s2, eo, q2⟩
  · exact q1.elim
theorem se_meth0 (c : Nat) (o : OM) (pa : PlainAttrs (tyOfC c)) (slot : Slot (tyOfC c) name id) (hty : typeOf (.builtin id) = pure (.type "method_descriptor")) (hm : MtR X id (rmOf X.K G o)) (ha : SE X G a f)
    (hbase : attributeBase a name X.env (eval a X.env) = eval a X.env := by rfl) (hline : (apos.endLine == cpos.line) = true := by rfl) :
    SE X G (.Call (.Attribute a name apos) [] [] cpos) (mMeth c o f maNil) := by
  refine ⟨fun Wi tk => (pe_bm0 pa slot hty hm (ha.run Wi tk) hbase hline).imp ?_⟩
  rintro σ H Q ⟨η, S, γ, he, hs, q⟩
  refine ⟨η, S, γ, he, hs, (Post.seq q).imp fun x H1 ⟨wx, S1, γ1, e1, r1, s1, q1⟩ => ?_⟩
  split at q1
  · rename_i hr
    refine ⟨rec_ty r1 s1 hr, ?_⟩
    replace q1 : Post X.K G (Rep X.K G) (fun c d H' => Wi c d σ H') γ1 H1 (rOM (o wx [] S1)) Q := q1
    cases eo : o wx [] S1 with
    | none =>
      rw [eo] at q1
      exact q1.elim
    | some p =>
      obtain ⟨w, S3⟩ := p
      rw [eo] at q1
      exact ⟨wx, [], S1, γ1, w, S3, r1, .nil, s1, eo, q1⟩
  · exact q1.elim
theorem mt_imp {r r' : V → List V → Hp → VK → Prop} (h : MtR X id r) (i : ∀ x xs H Q, r' x xs H Q → r x xs H Q) : MtR X id r' := fun pins s σ H x xs v us Q I r1 r2 q => h pins s σ H x xs v us Q I r1 r2 (i _ _ _ _ q)
theorem om_append : MtR X "list.append" (rmOf X.K G omAppend) := by
  refine mt_imp mt_append ?_
  rintro x xs H Q ⟨wx, ws, S, γ, w, S3, r, rs, s, h, k⟩
  unfold omAppend at h
  split at h
  · rename_i i w1
    cases r with
    | ref hr =>
    cases rs with
    | cons r1 t =>
    cases t
    split at h
    · rename_i ys hc
      split at h
      · rename_i hp
        cases h
        obtain ⟨py, vs, hv, q⟩ := s.cell i _ _ hc hr
        have hl := q.length
        obtain ⟨ex, s'⟩ := s.write (ys := ys ++ [w1]) (us := vs ++ [_]) hc hr (pures_append py (by show (w1.pure && true) = true; rw [hp.1]; rfl)) (q.append (.one r1))
        have := hp.2
        rw [bigLine_eq] at this
        exact ⟨_, _, _, rfl, rfl, hv, by omega, k _ γ _ ex .non s'⟩
      · cases h
    · cases h
  · cases h
theorem om_extend : MtR X "list.extend" (rmOf X.K G omExtend) := by
  refine mt_imp mt_extend ?_
  rintro x xs H Q ⟨wx, ws, S, γ, w, S3, r, rs, s, h, k⟩
  unfold omExtend at h
  split at h
  · rename_i i w1
    cases r with
    | ref hr =>
    cases rs with
    | cons r1 t =>
    cases t
    split at h
    · rename_i ys zs hc hz
      split at h
      · rename_i hp
        cases h
        obtain ⟨py, vs, hv, q⟩ := s.cell i _ _ hc hr
        obtain ⟨b, us, e, hb, q'⟩ := lstOf_rep s hz r1
        subst e
        have hl := q.length
        have hl' := q'.length
        obtain ⟨ex, s'⟩ := s.write (ys := ys ++ zs) (us := vs ++ us) hc hr (pures_append py hp.1) (q.append q')
        have := hp.2
        rw [bigLine_eq] at this
        exact ⟨_, _, _, _, rfl, rfl, hv, hb, by omega, k _ γ _ ex .non s'⟩
      · cases h
    · cases h
  · cases h
theorem om_popAt : MtR X "list.pop" (rmOf X.K G omPopAt) := by
  refine mt_imp mt_popAt ?_
  rintro x xs H Q ⟨wx, ws, S, γ, w, S3, r, rs, s, h, k⟩
  unfold omPopAt at h
  split at h
  · rename_i i j
    cases r with
    | ref hr =>
    cases rs with
    | cons r1 t =>
    cases t
    cases r1
    split at h
    · rename_i ys hc
      split at h
      · rename_i hj
        obtain ⟨py, vs, hv, q⟩ := s.cell i _ _ hc hr
        cases ew : ys[j.toNat]? with
        | none => rw [ew] at h; cases h
        | some w1 =>
          rw [ew] at h
          cases h
          obtain ⟨v, hw, rv⟩ := q.get ew
          obtain ⟨ex, s'⟩ := s.write (ys := ys.eraseIdx j.toNat) (us := vs.eraseIdx j.toNat) hc hr (pures_erase _ py) (q.erase _)
          have hl := q.length
          refine ⟨_, _, _, j.toNat, v, rfl, rfl, hv, by omega, by omega, ?_, hw, k _ γ _ ex (rv.mono ex) s'⟩
          simp only [seqIndex?]
          rw [if_neg (show ¬ j < 0 by omega)]
          have e1 : (decide (0 ≤ j) && decide (j < (vs.length : Int))) = true := by
            rw [Bool.and_eq_true, decide_eq_true_eq, decide_eq_true_eq]
            omega
          rw [if_pos e1]
      · cases h
    · cases h
  · cases h
theorem om_pop : MtR X "list.pop" (rmOf X.K G omPop) := by
  refine mt_imp mt_pop ?_
  rintro x xs H Q ⟨wx, ws, S, γ, w, S3, r, rs, s, h, k⟩
  unfold omPop at h
  split at h
  · rename_i i
    cases r with
    | ref hr =>
    cases rs
    split at h
    · rename_i ys hc
      obtain ⟨py, vs, hv, q⟩ := s.cell i _ _ hc hr
      cases ew : ys[ys.length - 1]? with
      | none => rw [ew] at h; cases h
      | some w1 =>
        rw [ew] at h
        cases h
        obtain ⟨v, hw, rv⟩ := q.get ew
        have hl := q.length
        have e1 : ys.dropLast = ys.take (ys.length - 1) := List.dropLast_eq_take
        have e2 : vs.dropLast = vs.take (ys.length - 1) := by rw [List.dropLast_eq_take, hl]
        have pd : pures ys.dropLast = true := by
          rw [e1]
          exact pures_take _ py
        obtain ⟨ex, s'⟩ := s.write (ys := ys.dropLast) (us := vs.dropLast) hc hr pd (by rw [e1, e2]; exact q.take _)
        exact ⟨_, _, v, rfl, rfl, hv, by rw [← hl]; exact hw, k _ γ _ ex (rv.mono ex) s'⟩
    · cases h
  · cases h
theorem om_index012 : MtR X "str.index" (rmOf X.K G omIndex012) := by
  refine mt_imp mt_sindex ?_
  rintro x xs H Q ⟨wx, ws, S, γ, w, S3, r, rs, s, h, k⟩
  unfold omIndex012 at h
  split at h
  · rename_i z c
    cases r
    cases rs with
    | cons r1 t =>
    cases t
    cases r1
    split at h
    · rename_i hz
      subst hz
      split at h
      · rename_i hc
        subst hc
        cases h
        exact ⟨_, _, 0, [], rfl, rfl, by decide +kernel, k _ γ H Ext.refl (.int _) s⟩
      · split at h
        · rename_i hc
          subst hc
          cases h
          exact ⟨_, _, 1, [], rfl, rfl, by decide +kernel, k _ γ H Ext.refl (.int _) s⟩
        · split at h
          · rename_i hc
            subst hc
            cases h
            exact ⟨_, _, 2, [], rfl, rfl, by decide +kernel, k _ γ H Ext.refl (.int _) s⟩
          · cases h
    · cases h
  · cases h
end
end Mp

set_option Elab.async false
set_option linter.all false
set_option maxRecDepth 100000
set_option maxHeartbeats 4000000
/-! Mp: sorted, of texts, of ints. -/
namespace Mp
open PySem PySem.Spec PyProof.Rows L2
def ltN : List Nat → List Nat → Bool
  | [], [] => false
  | [], _ :: _ => true
  | _ :: _, [] => false
  | a :: r, b :: t => decide (a < b) || (a == b && ltN r t)
theorem ltN_eq : ∀ a b : List Nat, ltCps a b = ltN a b
  | [], [] => rfl
  | [], _ :: _ => rfl
  | _ :: _, [] => rfl
  | a :: r, b :: t => by
    unfold ltCps ltN
    rw [ltN_eq r t]
def insN (x : List Nat) : List (List Nat) → List (List Nat)
  | [] => [x]
  | y :: r => if ltN y x = true then y :: insN x r else x :: y :: r
def sortN : List (List Nat) → List (List Nat)
  | [] => []
  | x :: r => insN x (sortN r)
theorem ltN_asym : ∀ {a b : List Nat}, ltN a b = true → ltN b a = false
  | [], [], h => rfl
  | [], _ :: _, h => rfl
  | _ :: _, [], h => by cases h
  | a :: r, b :: t, h => by
    unfold ltN at h ⊢
    rw [Bool.or_eq_true, decide_eq_true_eq, Bool.and_eq_true, beq_iff_eq] at h
    rw [Bool.or_eq_false_iff, decide_eq_false_iff_not, Bool.and_eq_false_iff]
    rcases h with h | ⟨h1, h2⟩
    · exact ⟨by omega, .inl (by rw [beq_eq_false_iff_ne]; omega)⟩
    · exact ⟨by omega, .inr (ltN_asym h2)⟩
theorem ltN_ntrans : ∀ {a b c : List Nat}, ltN b a = false → ltN c b = false → ltN c a = false
  | [], [], [], _, _ => rfl
  | [], [], _ :: _, _, h => by cases h; rfl
  | [], _ :: _, [], h, _ => rfl
  | [], b :: t, c :: u, h, k => by cases h; rfl
  | _ :: _, [], _, h, _ => by cases h
  | a :: r, b :: t, [], h, k => by cases k
  | a :: r, b :: t, c :: u, h, k => by
    unfold ltN at h k ⊢
    rw [Bool.or_eq_false_iff, decide_eq_false_iff_not, Bool.and_eq_false_iff, beq_eq_false_iff_ne] at h k ⊢
    refine ⟨by omega, ?_⟩
    by_cases e : c = a
    · subst e
      have e2 : b = c := by omega
      subst e2
      rcases h.2 with z | z
      · exact absurd rfl z
      · rcases k.2 with y | y
        · exact absurd rfl y
        · exact .inr (ltN_ntrans z y)
    · exact .inl e
theorem ltN_tot : ∀ {a b : List Nat}, ltN a b = false → ltN b a = false → a = b
  | [], [], _, _ => rfl
  | [], _ :: _, h, _ => by cases h
  | _ :: _, [], _, h => by cases h
  | a :: r, b :: t, h, k => by
    unfold ltN at h k
    rw [Bool.or_eq_false_iff, decide_eq_false_iff_not, Bool.and_eq_false_iff, beq_eq_false_iff_ne] at h k
    have e : a = b := by omega
    subst e
    rcases h.2 with z | z
    · exact absurd rfl z
    · rcases k.2 with y | y
      · exact absurd rfl y
      · rw [ltN_tot z y]
theorem insN_perm (x : List Nat) : ∀ l, (insN x l).Perm (x :: l)
  | [] => .refl _
  | y :: r => by
    unfold insN
    split
    · exact ((insN_perm x r).cons y).trans (.swap x y r)
    · exact .refl _
theorem sortN_perm : ∀ l, (sortN l).Perm l
  | [] => .refl _
  | x :: r => (insN_perm x _).trans ((sortN_perm r).cons x)
abbrev AscN (l : List (List Nat)) : Prop := l.Pairwise fun a b => ltN b a = false
theorem insN_asc (x : List Nat) : ∀ {l}, AscN l → AscN (insN x l)
  | [], _ => List.pairwise_singleton _ _
  | y :: r, h => by
    have hr := List.pairwise_cons.mp h
    unfold insN
    split
    · rename_i hy
      refine List.pairwise_cons.mpr ⟨fun z hz => ?_, insN_asc x hr.2⟩
      rcases List.mem_cons.mp ((insN_perm x r).mem_iff.mp hz) with e | e
      · rw [e]; exact ltN_asym hy
      · exact hr.1 z e
    · rename_i hy
      have hy : ltN y x = false := by simpa using hy
      refine List.pairwise_cons.mpr ⟨fun z hz => ?_, h⟩
      rcases List.mem_cons.mp hz with e | e
      · rw [e]; exact hy
      · exact ltN_ntrans hy (hr.1 z e)
theorem sortN_asc : ∀ l, AscN (sortN l)
  | [] => List.Pairwise.nil
  | x :: r => insN_asc x (sortN_asc r)
theorem asc_of_sortedS : ∀ {l : List Str}, sortedS l = true → AscN (l.map fun s => s.cps.toList)
  | [], _ => List.Pairwise.nil
  | [x], _ => List.pairwise_singleton _ _
  | x :: y :: r, h => by
    have h : (!ltCps y.cps.toList x.cps.toList && sortedS (y :: r)) = true := h
    rw [Bool.and_eq_true, Bool.not_eq_true', ltN_eq] at h
    have ih := asc_of_sortedS h.2
    have ih' := List.pairwise_cons.mp ih
    refine List.pairwise_cons.mpr ⟨fun z hz => ?_, ih⟩
    rcases List.mem_cons.mp hz with e | e
    · rw [e]; exact h.1
    · exact ltN_ntrans h.1 (ih'.1 z e)
theorem sort_unique {l : List (List Nat)} {ys : List Str} (p : (ys.map fun s => s.cps.toList).Perm l) (h : sortedS ys = true) : ys.map (fun s => s.cps.toList) = sortN l :=
  List.Perm.eq_of_pairwise (le := fun a b => ltN b a = false) (fun a b _ _ h k => ltN_tot k h) (asc_of_sortedS h) (sortN_asc l) (p.trans (sortN_perm l).symm)
def insZ (x : Int) : List Int → List Int
  | [] => [x]
  | y :: r => if y < x then y :: insZ x r else x :: y :: r
def sortZ : List Int → List Int
  | [] => []
  | x :: r => insZ x (sortZ r)
theorem insZ_perm (x : Int) : ∀ l, (insZ x l).Perm (x :: l)
  | [] => .refl _
  | y :: r => by
    unfold insZ
    split
    · exact ((insZ_perm x r).cons y).trans (.swap x y r)
    · exact .refl _
theorem sortZ_perm : ∀ l, (sortZ l).Perm l
  | [] => .refl _
  | x :: r => (insZ_perm x _).trans ((sortZ_perm r).cons x)
theorem insZ_asc (x : Int) : ∀ {l : List Int}, l.Pairwise (· ≤ ·) → (insZ x l).Pairwise (· ≤ ·)
  | [], _ => List.pairwise_singleton _ _
  | y :: r, h => by
    have hr := List.pairwise_cons.mp h
    unfold insZ
    split
    · rename_i hy
      refine List.pairwise_cons.mpr ⟨fun z hz => ?_, insZ_asc x hr.2⟩
      rcases List.mem_cons.mp ((insZ_perm x r).mem_iff.mp hz) with e | e
      · omega
      · exact hr.1 z e
    · rename_i hy
      refine List.pairwise_cons.mpr ⟨fun z hz => ?_, h⟩
      rcases List.mem_cons.mp hz with e | e
      · omega
      · have := hr.1 z e
        omega
theorem sortZ_asc : ∀ l, (sortZ l).Pairwise (· ≤ ·)
  | [] => List.Pairwise.nil
  | x :: r => insZ_asc x (sortZ_asc r)
theorem sortZ_unique {l ys : List Int} (p : ys.Perm l) (h : ys.Pairwise (· ≤ ·)) : ys = sortZ l :=
  List.Perm.eq_of_pairwise (le := (· ≤ ·)) (fun a b _ _ h k => Int.le_antisymm h k) h (sortZ_asc l) (p.trans (sortZ_perm l).symm)
section
variable {prog : Program} {w : World} {A : Around} {E : Value → Shared → Prop} {s : Shared}
/-- the items of a tuple, gathered into a list -/
theorem gather_tup {l : Addr} {vs : List Value} {o : Obj} {n : Nat} {Q : List Value → Shared → Prop} (ho : s.heap.get? l = some o) (hc : o.cls = .type "tuple") (hd : o.data = .seq vs.toArray n) (hsz : vs.length ≤ sizeLine)
    (h : Q vs { s with heap := (s.heap.push (seqObj "list" #[] 0)).update s.heap.objs.size (Obj.mapSeq (· ++ vs.toArray)) }) : wpAny (model prog w) A (collect (.ref l)) Q E s := by
  unfold collect; refine wpAny_bind (wpAny_runValue (codeAny_builtin PyProof.Rows.entry_proto_collect' ?_))
  show wpAny _ _ (do again (.builtin "list.__iadd__" ⟨[← newList [], .ref l], []⟩)) _ _ s; refine wpAny_bind (wpAny_newList (wpAny_pure ⟨Code.quiet_builtin _ (by decide +kernel), codeAny_builtin PyProof.Rows.entry_list_iadd' ?_⟩))
  show wpAny _ _ (Builtin.List.listExtendWith (.ref s.heap.objs.size) (.ref l) (.ref s.heap.objs.size)) _ _ { s with heap := s.heap.push (seqObj "list" #[] 0) }; unfold Builtin.List.listExtendWith
  have ho' : (s.heap.push (seqObj "list" #[] 0)).get? l = some o := Heap.get?_push_of_some _ ho
  refine wpAny_bind (wpAny_typeOf (T := "tuple") ⟨o, ho', hc⟩ ?_)
  have ht : (Value.type "tuple" == Value.type "tuple") = true := by rfl
  rw [if_pos (by rw [ht]; simp)]; refine wpAny_bind (listItems_at ho' hd ?_); refine wpAny_bind (listItems_at (xs := #[]) (n := 0) (Heap.get?_push_size _ rfl) rfl ?_)
  rw [if_neg (by simp)]; refine wpAny_bind (listUpdate_at (xs := #[]) (n := 0) (Heap.get?_push_size _ rfl) rfl ?_ (Nat.zero_le _) (by show (#[] ++ vs.toArray).size ≤ sizeLine + 1; simp only [Array.size_append, List.size_toArray, List.length_nil]; omega))
  refine wpAny_pure ?_
  show wpAny (model prog w) A (do let o ← load s.heap.objs.size; match o.data with | .seq xs _ => pure xs.toList | _ => unsupported "internal:collect") Q E { s with heap := (s.heap.push (seqObj "list" #[] 0)).update s.heap.objs.size (Obj.mapSeq (· ++ vs.toArray)) }
  refine wpAny_bind (wpAny_load (get?_update_seq (Heap.get?_push_size _ rfl) _) ?_)
  show wpAny _ _ (pure ((#[] : Array Value) ++ vs.toArray).toList) Q E _
  rw [show ((#[] : Array Value) ++ vs.toArray).toList = vs by simp]; exact wpAny_pure h
theorem sort_tup {l : Addr} {vs : List Value} {o : Obj} {n : Nat} {κ : KeyKind} (hO : κ.OneLt) {Q : Value → Shared → Prop} (ho : s.heap.get? l = some o) (hc : o.cls = .type "tuple") (hd : o.data = .seq vs.toArray n) (h0 : KeysOf κ (pairsOf vs))
    (hkk : ∀ v₁ v₂ rest, vs = v₁ :: v₂ :: rest → keyKind' (v₁ :: v₂ :: rest).toArray = pure oneType') (hL : vs.length ≤ sizeLine)
    (h : ∀ st' : SortSt, (arrOf st').Perm (pairsOf vs) → SortedToK κ (arrOf st') (pairsOf vs).size → Q (.ref (s.heap.objs.size + 1)) { s with heap := sortedAll s.heap vs ((arrOf st').map (·.2)) }) : wpAny (model prog w) A (call (.builtin "sorted") [.ref l]) Q E s := by
  refine Calls.call_function_entry kind_sorted plain_sorted entry_sorted (args_sorted1 _) ?_; unfold Builtin.«sorted»
  refine wpAny_bind (m := checkCount "sorted" 1 1 _) (wpAny_pure ?_); refine wpAny_bind (gather_tup ho hc hd hL ?_); refine wpAny_bind (wpAny_newList ?_)
  have hsz : ((s.heap.push (seqObj "list" #[] 0)).update s.heap.objs.size (Obj.mapSeq (· ++ vs.toArray))).objs.size = s.heap.objs.size + 1 := by rw [Heap.size_update, size_push']
  have hoL : (((s.heap.push (seqObj "list" #[] 0)).update s.heap.objs.size (Obj.mapSeq (· ++ vs.toArray))).push (seqObj "list" vs.toArray 0)).get? (s.heap.objs.size + 1) = some (seqObj "list" vs.toArray 0) := by rw [← hsz]; exact Heap.get?_push_size _ rfl
  show wpAny _ _ _ _ _ { s with heap := ((s.heap.push (seqObj "list" #[] 0)).update s.heap.objs.size (Obj.mapSeq (· ++ vs.toArray))).push (seqObj "list" vs.toArray 0) }; rw [hsz]
  refine wpAny_bind (wpAny_holding (wpAny_call_entry slot_list_sort ⟨_, hoL, rfl⟩ entry_list_sort (list_sort_treeKAny hO hoL h0 hkk hL fun st' a1 a2 => ⟨_, rfl, ?_⟩) (args_list_sort _)))
  exact wpAny_pure ⟨_, rfl, h st' a1 a2⟩
end
def isTup : W → Bool
  | .tup _ => true
  | _ => false
def sortedRes (t : Bool) (ys : List W) : Option W := match strsOf ys with
  | some zs => some (.lst ((sortN zs).map .str))
  | none => if t = true then none else (intsOf ys).map fun ns => .lst ((sortZ ns).map .int)
def baSorted : OA := fun xs S => match xs with
  | [x] => (seqOf S x).bind (sortedRes (isTup x))
  | _ => none
section
variable {X : Cx} {G : Gs}
theorem reps_of_strs {K : PySem.W.Frag} {γ : Ga} {H : Hp} : ∀ {zs : List (List Nat)}, (∀ z ∈ zs, (∀ c ∈ z, c < 0x110000) ∧ z.length ≤ sizeLine) → Reps K G γ H (zs.map W.str) ((zs.map fun l => (⟨l.toArray⟩ : Str)).map V.str)
  | [], _ => .nil
  | z :: r, h => .cons (.str z (h z (List.mem_cons_self ..)).1 (h z (List.mem_cons_self ..)).2) (reps_of_strs fun y hy => h y (List.mem_cons_of_mem _ hy))
theorem reps_of_ints {K : PySem.W.Frag} {γ : Ga} {H : Hp} : ∀ {zs : List Int}, Reps K G γ H (zs.map W.int) (zs.map V.int)
  | [] => .nil
  | z :: r => .cons (.int z) reps_of_ints
theorem strs_size {K : PySem.W.Frag} {γ : Ga} {H : Hp} : ∀ {xs : List W} {vs : List V} {ns : List (List Nat)}, Reps K G γ H xs vs → strsOf xs = some ns → ∀ l ∈ ns, (∀ c ∈ l, c < 0x110000) ∧ l.length ≤ sizeLine
  | [], _, _, _, h => by cases h; simp
  | x :: r, _, ns, .cons q t, h => by
    cases q with
    | str s h1 h2 =>
      have h : (strsOf r).map (s :: ·) = some ns := h
      cases e : strsOf r with
      | none => rw [e] at h; cases h
      | some ms =>
        rw [e] at h
        cases h
        intro l hl
        rcases List.mem_cons.mp hl with z | z
        · rw [z]; exact ⟨h1, h2⟩
        · exact strs_size t e l z
    | _ => simp [strsOf] at h
theorem intsOf_reps' {K : PySem.W.Frag} {γ : Ga} {H : Hp} : ∀ {xs : List W} {vs : List V} {ns : List Int}, Reps K G γ H xs vs → intsOf xs = some ns → vs = ns.map V.int
  | [], _, _, .nil, h => by cases h; rfl
  | x :: r, _, ns, .cons q t, h => by
    cases q with
    | int i =>
      have h : (intsOf r).map (i :: ·) = some ns := h
      cases e : intsOf r with
      | none => rw [e] at h; cases h
      | some ms =>
        rw [e] at h
        cases h
        rw [intsOf_reps' t e] <;> rfl
    | _ => simp [intsOf] at h
theorem strs_ext (ys : List Str) : ys = (ys.map fun s => s.cps.toList).map fun l => (⟨l.toArray⟩ : Str) := by
  rw [List.map_map]
  conv => lhs; rw [← List.map_id ys]
  exact List.map_congr_left fun s _ => rfl
theorem sorted_post {s : Shared} {pins : List (Addr × Obj)} {σ : L2.St} {H : Hp} {Q : VK} {S : Store} {γ : Ga} {its : List Value} {zs : List (List Nat)} (I : Inv X pins σ H s) (ss : StoreOk X.K G γ H S) (hz : ∀ l ∈ zs, (∀ c ∈ l, c < 0x110000) ∧ l.length ≤ sizeLine) (hsz : zs.length ≤ sizeLine)
    (k : ∀ (v : V) (γ' : Ga) (H' : Hp), Ext γ H γ' H' → Rep X.K G γ' H' (.lst ((sortN zs).map .str)) v → StoreOk X.K G γ' H' S → Q v H') (out : Array Value) (ss' : List Str) (h1 : StrsAre out.toList ss') (h2 : ss'.Perm (zs.map fun l => (⟨l.toArray⟩ : Str))) (h3 : sortedS ss' = true) :
    EP X pins σ Q (.ref (s.heap.objs.size + 1)) { s with heap := sortedAll s.heap its out } := by
  obtain ⟨ep, he'⟩ := PyProof.Rows.sortedAll_at s.heap its out
  have hp : (ss'.map fun s => s.cps.toList).Perm zs := by
    have q := h2.map fun s => s.cps.toList
    rw [List.map_map] at q
    have e : zs.map ((fun s : Str => s.cps.toList) ∘ fun l => (⟨l.toArray⟩ : Str)) = zs := by
      conv => rhs; rw [← List.map_id zs]
      exact List.map_congr_left fun l _ => by simp
    rw [e] at q
    exact q
  have e := sort_unique hp h3
  have e2 : ss' = (sortN zs).map fun l => (⟨l.toArray⟩ : Str) := by rw [← e]; exact strs_ext ss'
  have hf : H (s.heap.objs.size + 1) = none := I.hok.fresh (Nat.le_succ _)
  have hlen : (ss'.map V.str).length ≤ sizeLine := by
    rw [List.length_map, h2.length_eq, List.length_map]
    exact hsz
  have hr : ∀ {γ' : Ga} {H' : Hp}, Reps X.K G γ' H' ((sortN zs).map W.str) (ss'.map V.str) := fun {γ' H'} => by
    rw [e2]
    exact reps_of_strs fun z hz' => hz z ((sortN_perm zs).mem_iff.mp hz')
  exact ⟨.ref _, upd H (s.heap.objs.size + 1) (.lst (ss'.map V.str)), I.laid (t' := s.toks) (fun _ _ => PyProof.Rows.sortedAll_old) (Nat.le_succ _) ⟨hlen, out.toList, ep, vals_of_strs h1, he'⟩, rfl, k _ γ _ (Ext.upd ss hf) (.lst upd_same (ss.fresh hf) hr) (ss.upd hf)⟩
theorem cr_sortedW : CallR X (.builtin "sorted") (raOf X.K G baSorted) := by
  intro pins s σ H xs us Q I r0 q
  obtain ⟨ws, S, γ, w, rs, ss, h, k⟩ := q
  unfold baSorted at h
  split at h
  · rename_i x
    cases rs with
    | cons r t =>
    cases t
    cases es : seqOf S x with
    | none => rw [es] at h; cases h
    | some ys =>
      rw [es] at h
      replace h : sortedRes (isTup x) ys = some w := h
      have lcase : ∀ {a : Addr} {vs : List V}, SqL X.K H a vs → Reps X.K G γ H ys vs → Vals [V.ref a] us → isTup x = false → wpAny (model X.prog X.w) X.A (call (.builtin "sorted") us) (EP X pins σ Q) X.xe s := by
        intro a vs hq rr r0 hx
        rw [hx] at h
        obtain ⟨its, rv, hl, hlz⟩ := I.list hq
        rw [Vals.ref1 r0]
        have hl0 := rv.length
        unfold sortedRes at h
        split at h
        · rename_i zs ez
          cases h
          obtain ⟨ev, _⟩ := strsOf_reps rr ez
          subst ev
          have lz : zs.length ≤ sizeLine := by rw [List.length_map, List.length_map] at hlz; exact hlz
          exact PyProof.Rows.sorted_strsAny hl.isList rv.strs (by rw [← hl0]; exact hlz) fun out ss' h1 h2 h3 => sorted_post I ss (strs_size rr ez) lz k out ss' h1 h2 h3
        · rw [if_neg (by decide)] at h
          cases ei : intsOf ys with
          | none => rw [ei] at h; cases h
          | some ns =>
            rw [ei] at h
            cases h
            have ev := intsOf_reps' rr ei
            subst ev
            have hi := rv.ints
            refine cr_sortedI pins s σ H [V.ref a] [.ref a] Q I (by have := r0; rw [Vals.ref1 r0] at this; exact this) ⟨a, ns, rfl, hq, fun ns' p hp ha hn => ?_⟩
            rw [sortZ_unique hp ha]
            exact k _ γ _ (Ext.upd ss hn) (.lst upd_same (ss.fresh hn) reps_of_ints) (ss.upd hn)
      cases r with
      | tup fr rr =>
        cases es
        have hx : isTup (W.tup ys) = true := rfl
        unfold sortedRes at h
        split at h
        · rename_i zs ez
          cases h
          obtain ⟨its, rv, pl, hlz⟩ := I.tuple fr.sq
          rw [Vals.ref1 r0]
          obtain ⟨ev, _⟩ := strsOf_reps rr ez
          subst ev
          have hl0 := rv.length
          have lz : zs.length ≤ sizeLine := by rw [List.length_map, List.length_map] at hlz; exact hlz
          obtain ⟨o, ho, hc, n, hd⟩ := pl
          refine sort_tup strKind_oneLt ho hc hd rv.strs.keysOf (fun v₁ v₂ rest e => keyKind_strs (by rw [← e]; exact rv.strs)) (by rw [← hl0]; exact hlz) fun st' hp hs => ?_
          obtain ⟨ss', h1, h2, h3⟩ := sorted_out_str rv.strs hp hs
          exact sorted_post I ss (strs_size rr ez) lz k _ ss' h1 h2 h3
        · rw [if_pos hx] at h
          cases h
      | lst h1 o1 rr =>
        have e : seqOf S (W.lst _) = some _ := es
        obtain ⟨a, vs, ev, hv, q⟩ := lst_or ss (show lstOf S (W.lst _) = some ys from es) (.lst h1 o1 rr)
        cases ev
        exact lcase hv q r0 rfl
      | ref hr =>
        obtain ⟨a, vs, ev, hv, q⟩ := lst_or ss (show lstOf S (W.ref _) = some ys from es) (.ref hr)
        cases ev
        exact lcase hv q r0 rfl
      | _ => cases es
  · cases h
end
end Mp

set_option Elab.async false
set_option linter.all false
set_option maxRecDepth 100000
set_option maxHeartbeats 4000000
/-! Mp: three at once; comprehensions whose list changes later. -/
namespace Mp
open PySem PySem.Spec PyProof.Rows L2
section
variable {X : Cx} {G : Gs} {a b c : Expr} {ga : MA} {pos : Pos}
theorem ss_par3 {x y z : Str} {px py pz pt : Pos} {kt k2 pt2} (i j l : Nat) (cf : Cfg X) (ha : SA X G [a, b, c] ga) (hi : X.N[i]? = some x := by rfl) (hj : X.N[j]? = some y := by rfl) (hl : X.N[l]? = some z := by rfl) (hij : i ≠ j := by decide) (hil : i ≠ l := by decide) (hjl : j ≠ l := by decide)
    (hx : X.env.scope.names.lookup x = some .local := by rfl) (hy : X.env.scope.names.lookup y = some .local := by rfl) (hz : X.env.scope.names.lookup z = some .local := by rfl)
    (hw : swappedStores [.Tuple [.Name x px, .Name y py, .Name z pz] kt pt] (.Tuple [a, b, c] k2 pt2) X.env = pure (some [x, y, z]) := by rfl)
    (hs : swapsWithSole [.Tuple [.Name x px, .Name y py, .Name z pz] kt pt] (.Tuple [a, b, c] k2 pt2) pos.line X.env = pure false := by rfl) : SS X G (.Assign [.Tuple [.Name x px, .Name y py, .Name z pz] kt pt] (.Tuple [a, b, c] k2 pt2) pos) (sPar3 i j l ga) := by
  refine ⟨fun Wi tk => (ps_par3 cf.calm cf.nd hi hj hl hij hil hjl hx hy hz (ha.run Wi tk) hw hs).imp ?_⟩
  rintro D σ H ⟨η, S, γ, he, hs, q⟩
  refine ⟨η, S, γ, he, hs, (PostS.expr he q).imp fun v H1 ⟨w, S1, γ1, e1, r1, s1, q1⟩ => ?_⟩
  split at q1
  · cases r1 with
    | cons r r1 =>
      cases r1 with
      | cons r' r1 =>
        cases r1 with
        | cons r'' r1 =>
        cases r1
        exact ⟨_, _, _, rfl, q1 _ γ1 H1 Ext.refl ((((he.mono e1).set r i).set r' j).set r'' l) s1⟩
  · exact q1.elim
end
theorem ItOk.mono {K : PySem.W.Frag} {G : Gs} {J : It} {xs : List W} {γ0 γ1 : Ga} {H0 H1 : Hp} (h : ItOk K G J xs γ0 H0) (e : ExtW γ0 H0 γ1 H1) : ItOk K G J xs γ1 H1 :=
  ⟨fun i γ H S hi x s => h.go i γ H S hi (e.trans x) s, fun γ H S x s => h.stop γ H S (e.trans x) s, fun i w γ H S x H' hw ex s y => h.yld i w γ H S x H' hw (e.trans ex) s y⟩
def mCompS (it : MI) (own : List Nat) (g : MG) (t : MT) (e : ME) : ME := fun η S => (it η S).bind fun xs S1 => (noexc (compL g t e (wipeE η own) xs S1 [])).bind fun ws S2 => if pures ws = true then .ok (.ref S2.length) (S2 ++ [.lst ws]) else .stuck
section
variable {X : Cx} {G : Gs} {tg iter elt : Expr} {ifs : List Expr} {scope : Scope} {f : ME} {g : MG} {t : MT} {it : MI} {is : List Nat} {own : List (Str × Nat)} {pos : Pos}
theorem Gat.doneS {K : PySem.W.Frag} {γ0 γ : Ga} {H0 H : Hp} {S0 S : Store} {D : Addr} {acc : List W} (hs : StoreOk K G γ0 H0 S0) (hD : H0 D = none) (h : Gat K G γ0 H0 D γ H S acc) (hp : pures acc = true) :
    ∃ γ', Ext γ0 H0 γ' H ∧ Rep K G γ' H (.ref S.length) (.ref D) ∧ StoreOk K G γ' H (S ++ [.lst acc]) := by
  obtain ⟨us, hus, racc⟩ := h.us
  have s := h.s
  have ex := h.ex
  have nD := (s.bt D h.dβ).1
  have ol : S.length = γ.ρ.length := s.len.symm
  have lessO : ∀ (a : Addr) (o : HO), H a = some o → γ.Off a → Ga.Off ⟨γ.ρ ++ [D], γ.β.filter (fun a => decide (a ≠ D))⟩ a := fun a o _ z => ⟨fun q => (List.mem_append.mp q).elim z.1 fun q => z.2 ((show a = D by simpa using q) ▸ h.dβ), fun q => z.2 (List.mem_filter.mp q).1⟩
  refine ⟨⟨γ.ρ ++ [D], γ.β.filter (fun a => decide (a ≠ D))⟩, ⟨ex.pre.trans (List.prefix_append _ _), fun a ha => ?_, fun a ha => ex.bnew a (List.mem_filter.mp ha).1, ex.keep, fun a h1 h2 => ?_, ex.dom⟩, .ref ?_, ?_, ?_, fun i c a hc ha => ?_, fun a ha => ⟨fun z => ?_, (s.bt a (List.mem_filter.mp ha).1).2⟩⟩
  · refine List.mem_filter.mpr ⟨ex.bsub a ha, ?_⟩
    obtain ⟨_, o, q, _⟩ := hs.bt a ha
    exact decide_eq_true (ne_of_none q hD)
  · rcases List.mem_append.mp h1 with z | z
    · exact ex.new a z h2
    · have e : a = D := by simpa using z
      rw [e]; exact hD
  · show (γ.ρ ++ [D])[S.length]? = some D
    rw [ol, List.getElem?_append_right (Nat.le_refl _), Nat.sub_self] <;> rfl
  · show (γ.ρ ++ [D]).length = (S ++ [Cell.lst acc]).length
    rw [List.length_append, List.length_append, s.len] <;> rfl
  · show (γ.ρ ++ [D]).Nodup
    rw [List.nodup_append]
    exact ⟨s.nd, by simp, fun b hb c hc => by
      have z : c = D := by simpa using hc
      rw [z]
      rintro rfl
      exact nD hb⟩
  · by_cases hi : i < S.length
    · rw [List.getElem?_append_left hi] at hc
      have ha2 : γ.ρ[i]? = some a := by
        have z : (γ.ρ ++ [D])[i]? = some a := ha
        rwa [List.getElem?_append_left (by rw [← ol]; exact hi)] at z
      have q := s.cell i c a hc ha2
      cases c with
      | lst ys =>
        obtain ⟨p1, us', hv, r'⟩ := q
        exact ⟨p1, us', hv, Reps.less lessO p1 r'⟩
      | dct _ _ => exact q.to (fun _ f => f) fun p r => Reps.less lessO p r
      | ins _ _ => exact q.elim
    · have hlt := (List.getElem?_eq_some_iff.mp hc).1
      rw [List.length_append, List.length_singleton] at hlt
      have ei : i = S.length := by omega
      subst ei
      rw [List.getElem?_append_right (Nat.le_refl _), Nat.sub_self] at hc
      have z1 : Cell.lst acc = c := by simpa using hc
      subst z1
      have z2 : D = a := by
        have z : (γ.ρ ++ [D])[S.length]? = some a := ha
        rw [ol, List.getElem?_append_right (Nat.le_refl _), Nat.sub_self] at z
        simpa using z
      subst z2
      exact ⟨hp, us, hus, Reps.less lessO hp racc⟩
  · rcases List.mem_append.mp z with z | z
    · exact (s.bt a (List.mem_filter.mp ha).1).1 z
    · have e : a = D := by simpa using z
      have := (List.mem_filter.mp ha).2
      rw [e] at this
      simp at this
theorem compS_read {Wi : WX} {Q : VK} {σ : L2.St} {H : Hp} (his : ∀ i ∈ is, i ∈ own.map (·.2)) (q : tOf X.K G Wi (mCompS it (own.map (·.2)) g t f) σ H Q) :
    tLc (tiOf X.K G Wi it) (tgOf X.K G is g) (ttOf X.K G (fun _ _ _ _ => False) t) (tOf X.K G (fun _ _ _ _ => False) f) (own.map (·.2)) σ H Q := by
  obtain ⟨η, S, γ, he, hs, q⟩ := q
  refine ⟨η, S, γ, he, hs, ?_⟩
  have q : Post X.K G (Rep X.K G) (fun c d H' => Wi c d σ H') γ H ((it η S).bind fun xs S1 => (noexc (compL g t f (wipeE η (own.map (·.2))) xs S1 [])).bind fun ws S2 => if pures ws = true then .ok (.ref S2.length) (S2 ++ [.lst ws]) else .stuck) Q := q
  cases ei : it η S with
  | stuck =>
    rw [ei] at q
    exact q.elim
  | exc c x S1 =>
    rw [ei] at q
    exact q
  | ok xs S1 =>
    rw [ei] at q
    intro J γ1 H1 e1 s1 ok D hD
    have q : Post X.K G (Rep X.K G) (fun c d H' => Wi c d σ H') γ H ((noexc (compL g t f (wipeE η (own.map (·.2))) xs S1 [])).bind fun ws S2 => if pures ws = true then .ok (.ref S2.length) (S2 ++ [.lst ws]) else .stuck) Q := q
    cases ec : compL g t f (wipeE η (own.map (·.2))) xs S1 [] with
    | stuck =>
      rw [ec] at q
      exact q.elim
    | exc c x S2 =>
      rw [ec] at q
      exact q.elim
    | ok ws S2 =>
      rw [ec] at q
      have q : Post X.K G (Rep X.K G) (fun c d H' => Wi c d σ H') γ H (if pures ws = true then .ok (.ref S2.length) (S2 ++ [.lst ws]) else .stuck) Q := q
      by_cases hp : pures ws = true
      · rw [if_pos hp] at q
        have gt := Gat.start (G := G) s1 hD
        exact lc_in (Nx := fun H' => Q (.ref D) H') hD (ok.mono gt.ex.w) ((he.mono e1).mono gt.ex) gt his ec fun γ2 H2 g2 => by
          obtain ⟨γ', x1, x2, x3⟩ := g2.doneS s1 hD hp
          exact q _ γ' H2 (e1.trans x1) x2 x3
      · rw [if_neg hp] at q
        exact q.elim
theorem se_compS (own : List (Str × Nat)) (cf : Cfg X) (hi : SI X G tg iter it) (ok : BlkOk X.N X.env.scope scope own)
    (hg : ∀ (s : Shared) (H : Hp) (C : Addr) (cl : List (Str × Addr)) (fp : List Addr), Cfg (X.blk s H scope (compEnvC scope cl C X.env) fp) → SG (X.blk s H scope (compEnvC scope cl C X.env) fp) G tg is g)
    (ht : ∀ (s : Shared) (H : Hp) (C : Addr) (cl : List (Str × Addr)) (fp : List Addr), Cfg (X.blk s H scope (compEnvC scope cl C X.env) fp) → STs (X.blk s H scope (compEnvC scope cl C X.env) fp) G ifs t)
    (he : ∀ (s : Shared) (H : Hp) (C : Addr) (cl : List (Str × Addr)) (fp : List Addr), Cfg (X.blk s H scope (compEnvC scope cl C X.env) fp) → SE (X.blk s H scope (compEnvC scope cl C X.env) fp) G elt f)
    (his : ∀ i ∈ is, i ∈ own.map (·.2) := by decide) (hs : ∀ x, foldedSetIterable iter X.env x = pure x := by intro _; rfl) :
    SE X G (.ListComp elt [⟨tg, iter, ifs, 0⟩] scope pos) (mCompS it (own.map (·.2)) g t f) := by
  refine ⟨fun Wi tk => (pe_lc (g := tgOf X.K G is g) (tt := ttOf X.K G (fun _ _ _ _ => False) t) (te := tOf X.K G (fun _ _ _ _ => False) f) cf.calm cf.nd (hi.run Wi tk) ok (fun s H C cl fp => (hg s H C cl fp (cf.blk ..)).run) (fun s H C cl fp => (ht s H C cl fp (cf.blk ..)).run _ takes0) (fun s H C cl fp => (he s H C cl fp (cf.blk ..)).run _ takes0) hs).imp ?_⟩
  intro σ H Q q
  exact compS_read his q
theorem ss_setLcS {y : Str} {py : Pos} {spos : Pos} (i : Nat) (own : List (Str × Nat)) (cf : Cfg X) (hi : SI X G tg iter it) (ok : BlkOk X.N X.env.scope scope own)
    (hg : ∀ (s : Shared) (H : Hp) (C : Addr) (cl : List (Str × Addr)) (fp : List Addr), Cfg (X.blk s H scope (compEnvC scope cl C X.env) fp) → SG (X.blk s H scope (compEnvC scope cl C X.env) fp) G tg is g)
    (ht : ∀ (s : Shared) (H : Hp) (C : Addr) (cl : List (Str × Addr)) (fp : List Addr), Cfg (X.blk s H scope (compEnvC scope cl C X.env) fp) → STs (X.blk s H scope (compEnvC scope cl C X.env) fp) G ifs t)
    (he : ∀ (s : Shared) (H : Hp) (C : Addr) (cl : List (Str × Addr)) (fp : List Addr), Cfg (X.blk s H scope (compEnvC scope cl C X.env) fp) → SE (X.blk s H scope (compEnvC scope cl C X.env) fp) G elt f)
    (hy : X.N[i]? = some y := by rfl) (hyl : X.env.scope.names.lookup y = some .local := by rfl)
    (hsw : swapsWith (.ListComp elt [⟨tg, iter, ifs, 0⟩] scope pos) (some (.Name y py)) spos.line X.env = pure true := by exact sw_true rfl rfl rfl (by decide +kernel))
    (his : ∀ i ∈ is, i ∈ own.map (·.2) := by decide) (hs : ∀ x, foldedSetIterable iter X.env x = pure x := by intro _; rfl) :
    SS X G (.Assign [.Name y py] (.ListComp elt [⟨tg, iter, ifs, 0⟩] scope pos) spos) (sSet i (mCompS it (own.map (·.2)) g t f)) := by
  refine ⟨fun Wi tk => (ps_setLc (i := i) (g := tgOf X.K G is g) (tt := ttOf X.K G (fun _ _ _ _ => False) t) (te := tOf X.K G (fun _ _ _ _ => False) f) cf.calm cf.nd hy hyl hsw (hi.run Wi tk) ok (fun s H C cl fp => (hg s H C cl fp (cf.blk ..)).run) (fun s H C cl fp => (ht s H C cl fp (cf.blk ..)).run _ takes0) (fun s H C cl fp => (he s H C cl fp (cf.blk ..)).run _ takes0) hs).imp ?_⟩
  rintro D σ H ⟨η, S, γ, he, hs, q⟩
  refine compS_read his ⟨η, S, γ, he, hs, (PostS.expr he q).imp fun v H1 ⟨w, S1, γ1, e1, r1, s1, q1⟩ => q1 _ γ1 H1 Ext.refl ((he.mono e1).set r1 i) s1⟩
end
end Mp

set_option Elab.async false
set_option linter.all false
set_option maxRecDepth 100000
set_option maxHeartbeats 4000000
/-! Mp: a list of the store is walked: each turn reads it anew. -/
namespace Mp
open PySem PySem.Spec PyProof.Rows L2
def itemR (r i : Nat) (S : Store) : Option (Option W) := match S[r]? with
  | some (.lst xs) => some xs[i]?
  | _ => none
def forR (g : MG) (b : MS) (r : Nat) : Nat → Nat → Env → Store → RS
  | 0, _, _, _ => .stuck
  | n + 1, i, η, S => match itemR r i S with
    | none => .stuck
    | some none => .nx η S
    | some (some x) => (match g x η S with
      | none => .stuck
      | some (η1, S1) => (match b η1 S1 with
        | .nx η2 S2 => forR g b r n (i + 1) η2 S2
        | .ct η2 S2 => forR g b r n (i + 1) η2 S2
        | .bk η2 S2 => .nx η2 S2
        | r => r))
def refI : W → Option Nat
  | .ref r => some r
  | _ => none
def forD (g : MG) (b : MS) (η : Env) (w : W) (S : Store) : RS := match refI w with
  | some r => forR g b r 1000000 0 η S
  | none => (match seqI w with
    | some xs => forL g b xs η S
    | none => .stuck)
def sForD (f : ME) (g : MG) (b : MS) : MS := fun η S => (f η S).toS η (forD g b η)
def compR (g : MG) (t : MT) (e : ME) (η : Env) (r : Nat) : Nat → Nat → Store → List W → R (List W)
  | 0, _, _, _ => .stuck
  | n + 1, i, S, acc => match itemR r i S with
    | none => .stuck
    | some none => .ok acc S
    | some (some x) => (match g x η S with
      | none => .stuck
      | some (η1, S1) => (t η1 S1).bind fun b S2 => if b = true then (e η1 S2).bind fun w S3 => sized (acc.length + 1) (compR g t e η r n (i + 1) S3 (acc ++ [w])) else compR g t e η r n (i + 1) S2 acc)
def compD (g : MG) (t : MT) (e : ME) (η : Env) (w : W) (S : Store) : R (List W) := match refI w with
  | some r => compR g t e η r 1000000 0 S []
  | none => (match seqI w with
    | some xs => compL g t e η xs S []
    | none => .stuck)
/-- a comprehension over a list, a tuple, a text; keep: the list changes later -/
def mCompD (keep : Bool) (f : ME) (own : List Nat) (g : MG) (t : MT) (e : ME) : ME := fun η S => (f η S).bind fun w S1 => (noexc (compD g t e (wipeE η own) w S1)).bind fun ws S2 => if keep = true then (if pures ws = true then .ok (.ref S2.length) (S2 ++ [.lst ws]) else .stuck) else .ok (.lst ws) S2
theorem itemR_dct {r i : Nat} {S : Store} {ks ws : List W} (h : S[r]? = some (.dct ks ws)) : itemR r i S = none := by
  unfold itemR
  rw [h]
theorem forR_dct {g : MG} {b : MS} {r n i : Nat} {η : Env} {S : Store} {ks ws : List W} (h : S[r]? = some (.dct ks ws)) : forR g b r (n + 1) i η S = .stuck := by
  unfold forR
  rw [itemR_dct h]
theorem compR_dct {g : MG} {t : MT} {e : ME} {r n i : Nat} {η : Env} {S : Store} {acc : List W} {ks ws : List W} (h : S[r]? = some (.dct ks ws)) : compR g t e η r (n + 1) i S acc = .stuck := by
  unfold compR
  rw [itemR_dct h]
section
variable {K : PySem.W.Frag} {G : Gs} {γ : Ga} {H : Hp} {S : Store}
theorem itemR_ok {r i : Nat} {a : Addr} {o : Option W} (s : StoreOk K G γ H S) (ha : γ.ρ[r]? = some a) (h : itemR r i S = some o) : ∃ xs vs, S[r]? = some (.lst xs) ∧ SqL K H a vs ∧ Reps K G γ H xs vs ∧ o = xs[i]? := by
  unfold itemR at h
  split at h
  · rename_i xs hc
    cases h
    obtain ⟨_, vs, hv, q⟩ := s.cell r _ _ hc ha
    exact ⟨xs, vs, hc, SqL.of hv, q, rfl⟩
  · cases h
theorem item_go {xs : List W} {vs : List V} {i : Nat} {w : W} {a : Addr} (hq : SqL K H a vs) (q : Reps K G γ H xs vs) (h : xs[i]? = some w) : (Itl K a).go i H ∧ ∀ x H', (Itl K a).yld i H x H' → H' = H ∧ Rep K G γ H w x := by
  obtain ⟨v, hv, r⟩ := q.get h
  refine ⟨⟨vs, v, hq, hv⟩, fun x H' y => ?_⟩
  obtain ⟨e, y⟩ := y
  refine ⟨e, ?_⟩
  have z := y vs hq
  rw [hv] at z
  cases z
  exact r
theorem item_stop {xs : List W} {vs : List V} {i : Nat} {a : Addr} (hq : SqL K H a vs) (q : Reps K G γ H xs vs) (h : xs[i]? = none) : (Itl K a).stop i H := by
  refine ⟨vs, hq, ?_⟩
  rw [← q.length]
  exact List.getElem?_eq_none_iff.mp h
theorem forR_turns {Wi : WX} {γ0 : Ga} {H0 : Hp} {D : Ends} {η0 : Env} {S0 : Store} {σ0 : L2.St} {g : MG} {m : MS} {is : List Nat} {r : Nat} {a : Addr} (ha : γ0.ρ[r]? = some a) (n : Nat) (he : EnvOk K G γ0 H0 η0 σ0) (hs : StoreOk K G γ0 H0 S0)
    (h : PostS K G Wi γ0 H0 (forR g m r n 0 η0 S0) D) : ∃ Wv : Nat → Nat → L2.St → Hp → Prop, (∃ k, Wv 0 k σ0 H0) ∧ ∀ i k σ H, Wv i k σ H →
      ((Itl K a).stop i H ∧ D.nx σ H) ∨ ((Itl K a).go i H ∧ ∃ N : L2.St → Hp → Prop, (∀ σ' H', N σ' H' → ∃ k', k' < k ∧ Wv (i + 1) k' σ' H') ∧ ∀ x H', (Itl K a).yld i H x H' → tgOf K G is g x σ H' fun σ2 H2 => tsOf K G Wi m { D with nx := N, ct := N, bk := D.nx } σ2 H2) := by
  refine ⟨fun i k σ H => ∃ η S γ, γ.ρ[r]? = some a ∧ EnvOk K G γ H η σ ∧ StoreOk K G γ H S ∧ PostS K G Wi γ H (forR g m r k i η S) D, ⟨n, η0, S0, γ0, ha, he, hs, h⟩, ?_⟩
  rintro i k σ H ⟨η, S, γ, ha, he, hs, q⟩
  cases k with
  | zero => exact q.elim
  | succ k =>
    unfold forR at q
    cases ei : itemR r i S with
    | none =>
      rw [ei] at q
      exact q.elim
    | some o =>
      obtain ⟨xs, vs, hc, hq, qr, eo⟩ := itemR_ok hs ha ei
      cases o with
      | none =>
        rw [ei] at q
        exact .inl ⟨item_stop hq qr eo.symm, q σ γ H Ext.refl he hs⟩
      | some w =>
        rw [ei] at q
        obtain ⟨hgo, hy⟩ := item_go hq qr eo.symm
        refine .inr ⟨hgo, _, fun σ' H' z => ⟨k, Nat.lt_succ_self k, z⟩, fun x H' y => ?_⟩
        obtain ⟨e1, r1⟩ := hy x H' y
        subst e1
        replace q : PostS K G Wi γ H' (match g w η S with
          | none => .stuck
          | some (η1, S1) => (match m η1 S1 with
            | .nx η2 S2 => forR g m r k (i + 1) η2 S2
            | .ct η2 S2 => forR g m r k (i + 1) η2 S2
            | .bk η2 S2 => .nx η2 S2
            | r => r)) D := q
        cases eg : g w η S with
        | none =>
          rw [eg] at q
          exact q.elim
        | some z =>
          obtain ⟨η1, S1⟩ := z
          rw [eg] at q
          refine ⟨η, S, γ, w, η1, S1, he, hs, r1, eg, fun σ2 γ2 H2 e2 he2 s2 _ _ => ⟨η1, S1, γ2, he2, s2, ?_⟩⟩
          refine postS_turn (k := forR g m r k (i + 1)) (fun η3 S3 γ3 σ3 H3 he3 s3 e3 q3 => ⟨η3, S3, γ3, ?_, he3, s3, q3⟩) (PostS.base e2 q)
          obtain ⟨t, q⟩ := (e2.trans e3).pre
          rw [← q, List.getElem?_append_left (List.getElem?_eq_some_iff.mp ha).1]
          exact ha
end
section
variable {X : Cx} {G : Gs} {tg a : Expr} {pos : Pos} {f : ME} {g : MG} {m : MS} {is : List Nat}
theorem ss_forD {sts : List Stmt} (cf : Cfg X) (ha : SE X G a f) (hg : SG X G tg is g) (hb : SSs X G sts m) (hs : ∀ x, foldedSetIterable a X.env x = pure x := by intro _; rfl) : SS X G (.For tg a sts [] pos) (sForD f g m) := by
  refine ⟨fun Wi tk => (ps_for cf.own cf.calm (PI.or ((si_seq (tg := tg) ha).run Wi tk) (pi_list (ha.run Wi tk))) hg.run (hb.run Wi tk) hs).imp ?_⟩
  rintro D σ H ⟨η, S, γ, he, hs, q⟩
  have q : PostS X.K G Wi γ H ((f η S).toS η (forD g m η)) D := q
  cases ei : f η S with
  | ok w S1 =>
    rw [ei] at q
    replace q : PostS X.K G Wi γ H (forD g m η w S1) D := q
    unfold forD at q
    cases ew : refI w with
    | some r =>
      cases w with
      | ref r' =>
        cases ew
        refine .inr ⟨η, S, γ, he, hs, ?_⟩
        rw [ei]
        intro v γ1 H1 e1 r1 s1
        cases r1 with
        | @ref _ ad hr =>
          have hi : r < S1.length := by rw [← s1.len]; exact (List.getElem?_eq_some_iff.mp hr).1
          have q0 := q
          have hcell : ∃ vs, SqL X.K H1 ad vs := by
            have q := s1.cell r S1[r] ad (List.getElem?_eq_getElem hi) hr
            cases hc : S1[r] with
            | lst xs => rw [hc] at q; obtain ⟨_, vs, hv, _⟩ := q; exact ⟨vs, SqL.of hv⟩
            | dct _ _ => 
              have z : PostS X.K G Wi γ H (forR g m r 1000000 0 η S1) D := q0
              rw [forR_dct (n := 999999) ((List.getElem?_eq_getElem hi).trans (congrArg some hc))] at z
              exact z.elim
            | ins _ _ => rw [hc] at q; exact q.elim
          exact ⟨ad, rfl, hcell, forR_turns hr 1000000 (he.mono e1) s1 (PostS.base e1 q)⟩
      | _ => cases ew
    | none =>
      rw [ew] at q
      refine .inl ⟨η, S, γ, he, hs, ?_⟩
      unfold miSeq
      rw [ei]
      show PostI X.K G _ γ H (rOpt (seqI w) S1) _
      cases es : seqI w with
      | none =>
        simp only [es] at q
        exact q.elim
      | some xs =>
        simp only [es] at q
        intro J γ1 H1 e1 s1 ok
        exact for_turns ok (he.mono e1) s1 (PostS.base e1 q)
  | exc c x S1 =>
    rw [ei] at q
    refine .inl ⟨η, S, γ, he, hs, ?_⟩
    unfold miSeq
    rw [ei]
    exact fun v d γ' H' e r s hd => q v d σ γ' H' e (he.mono e) r s hd
  | stuck =>
    rw [ei] at q
    exact q.elim
end
section
variable {X : Cx} {G : Gs} {tg iter elt : Expr} {ifs : List Expr} {scope : Scope} {f e : ME} {g : MG} {t : MT} {is : List Nat} {own : List (Str × Nat)} {pos : Pos}
theorem lc_inR {K : PySem.W.Frag} {γ0 γ1 : Ga} {H0 H1 : Hp} {D : Addr} {r : Nat} {a : Addr} {η : Env} {S1 SF : Store} {σ : L2.St} {acc0 accF : List W} {vs : List Nat} {Nx : Hp → Prop} (n : Nat) (hD : H0 D = none) (ha : γ1.ρ[r]? = some a) (he : EnvOk K G γ1 H1 η σ)
    (gt : Gat K G γ0 H0 D γ1 H1 S1 acc0) (his : ∀ i ∈ is, i ∈ vs) (h : compR g t f (wipeE η vs) r n 0 S1 acc0 = .ok accF SF) (hN : ∀ γ H, Gat K G γ0 H0 D γ H SF accF → Nx H) :
    ∃ Wv : Nat → Nat → Hp → Prop, (∃ k, Wv 0 k H1) ∧ ∀ j k H, Wv j k H →
      ((Itl K a).stop j H ∧ Nx H) ∨ ((Itl K a).go j H ∧ ∃ Nx1 : Hp → Prop, (∀ H', Nx1 H' → ∃ k', k' < k ∧ Wv (j + 1) k' H') ∧ ∀ x H', (Itl K a).yld j H x H' → tgOf K G is g x (wipe σ vs) H' fun σ3 H5 => wipe σ3 vs = wipe σ vs ∧ ttOf K G (fun _ _ _ _ => False) t σ3 H5 fun b H6 =>
        if b = true then tOf K G (fun _ _ _ _ => False) f σ3 H6 fun y H7 => ∃ acc, H7 D = some (.lst acc) ∧ acc.length < sizeLine ∧ Nx1 (L2.upd H7 D (.lst (acc ++ [y]))) else Nx1 H6) := by
  refine ⟨fun j k H => ∃ S γ acc, Gat K G γ0 H0 D γ H S acc ∧ ExtW γ1 H1 γ H ∧ compR g t f (wipeE η vs) r k j S acc = .ok accF SF, ⟨n, S1, γ1, acc0, gt, Ext.refl.w, h⟩, ?_⟩
  rintro i k H ⟨S, γ, acc, gt', ex, hc⟩
  have s := gt'.s
  cases k with
  | zero => cases hc
  | succ k =>
  unfold compR at hc
  have ha' : γ.ρ[r]? = some a := by
    obtain ⟨t, q⟩ := ex.pre
    rw [← q, List.getElem?_append_left (List.getElem?_eq_some_iff.mp ha).1]
    exact ha
  cases ei : itemR r i S with
  | none =>
    rw [ei] at hc
    cases hc
  | some o =>
    obtain ⟨xs, us, hcell, hq, qr, eo⟩ := itemR_ok s ha' ei
    cases o with
    | none =>
      rw [ei] at hc
      cases hc
      exact .inl ⟨item_stop hq qr eo.symm, hN γ H gt'⟩
    | some w0 =>
      rw [ei] at hc
      obtain ⟨hgo, hy⟩ := item_go hq qr eo.symm
      refine .inr ⟨hgo, _, fun H' z => ⟨k, Nat.lt_succ_self k, z⟩, fun x H' y => ?_⟩
      obtain ⟨e1, r1⟩ := hy x H' y
      subst e1
      cases eg : g w0 (wipeE η vs) S with
      | none =>
        simp only [eg] at hc
        cases hc
      | some z =>
        obtain ⟨η1, S2⟩ := z
        simp only [eg] at hc
        have heW : EnvOk K G γ H' η σ := ⟨he.1, fun j w q => by
          obtain ⟨v, h1, h2⟩ := he.2 j w q
          exact ⟨v, h1, h2.monoW ex⟩⟩
        refine ⟨wipeE η vs, S, γ, w0, η1, S2, heW.wipe vs, s, r1, eg, fun σ2 γ2 H2 e2 he2 s2 hl2 hn2 => ⟨?_, ?_⟩⟩
        · rw [wipe_same (σ := wipe σ vs) his hl2 hn2, wipe_wipe]
        · refine ⟨η1, S2, γ2, he2, s2, ?_⟩
          cases et : t η1 S2 with
          | stuck =>
            simp only [et] at hc
            cases hc
          | exc c x S2 =>
            simp only [et] at hc
            cases hc
          | ok b S3 =>
            simp only [et, R.bind] at hc
            intro b' γ3 H3 e3 rb s3
            cases rb
            have gt3 := (gt'.step e2 s2).step e3 s3
            have ex3 := (ex.trans e2.w).trans e3.w
            cases b with
            | false =>
              rw [if_neg Bool.false_ne_true] at hc ⊢
              exact ⟨S3, γ3, acc, gt3, ex3, hc⟩
            | true =>
              rw [if_pos rfl] at hc ⊢
              refine ⟨η1, S3, γ3, he2.mono e3, s3, ?_⟩
              cases ee : f η1 S3 with
              | stuck =>
                simp only [ee] at hc
                cases hc
              | exc c x S3 =>
                simp only [ee] at hc
                cases hc
              | ok w S4 =>
                simp only [ee] at hc
                intro v γ4 H4 e4 r4 s4
                unfold sized at hc
                split at hc
                · rename_i hsz
                  have gt4 := gt3.step e4 s4
                  obtain ⟨us, h1, h2, h3⟩ := gt4.put hD r4 hsz
                  exact ⟨us, h1, h2, S4, γ4, acc ++ [w], h3, (ex3.trans e4.w).busy gt.dβ, hc⟩
                · cases hc
/-- the end of a comprehension -/
theorem compD_end {K : PySem.W.Frag} {γ0 γ1 : Ga} {H0 H1 : Hp} {S1 : Store} {D : Addr} {Q : VK} {wx : Wx} {keep : Bool} {ws : List W} {SF : Store} (e1 : Ext γ0 H0 γ1 H1) (s1 : StoreOk K G γ1 H1 S1) (hD : H1 D = none)
    (q : Post K G (Rep K G) wx γ0 H0 (if keep = true then (if pures ws = true then R.ok (.ref SF.length) (SF ++ [.lst ws]) else .stuck) else .ok (.lst ws) SF) Q) : ∀ γ H, Gat K G γ1 H1 D γ H SF ws → Q (.ref D) H := by
  intro γ2 H2 g2
  cases keep with
  | true =>
    rw [if_pos rfl] at q
    split at q
    · rename_i hp
      obtain ⟨γ', x1, x2, x3⟩ := g2.doneS s1 hD hp
      exact q _ γ' H2 (e1.trans x1) x2 x3
    · exact q.elim
  | false =>
    rw [if_neg (by decide)] at q
    obtain ⟨γ', x1, x2, x3⟩ := g2.done s1 hD
    exact q _ γ' H2 (e1.trans x1) x2 x3
theorem compD_read {Wi : WX} {Q : VK} {σ : L2.St} {H : Hp} (keep : Bool) (his : ∀ i ∈ is, i ∈ own.map (·.2)) (q : tOf X.K G Wi (mCompD keep e (own.map (·.2)) g t f) σ H Q) :
    tLc (fun σ H R => tiOf X.K G Wi (miSeq e) σ H R ∨ iList X.K (tOf X.K G Wi e) σ H R) (tgOf X.K G is g) (ttOf X.K G (fun _ _ _ _ => False) t) (tOf X.K G (fun _ _ _ _ => False) f) (own.map (·.2)) σ H Q := by
  obtain ⟨η, S, γ, he, hs, q⟩ := q
  have q : Post X.K G (Rep X.K G) (fun c d H' => Wi c d σ H') γ H ((e η S).bind fun w S1 => (noexc (compD g t f (wipeE η (own.map (·.2))) w S1)).bind fun ws S2 => if keep = true then (if pures ws = true then .ok (.ref S2.length) (S2 ++ [.lst ws]) else .stuck) else .ok (.lst ws) S2) Q := q
  cases ei : e η S with
  | stuck =>
    rw [ei] at q
    exact q.elim
  | exc c x S1 =>
    rw [ei] at q
    refine .inl ⟨η, S, γ, he, hs, ?_⟩
    unfold miSeq
    rw [ei]
    exact q
  | ok w S1 =>
    rw [ei] at q
    replace q : Post X.K G (Rep X.K G) (fun c d H' => Wi c d σ H') γ H ((noexc (compD g t f (wipeE η (own.map (·.2))) w S1)).bind fun ws S2 => if keep = true then (if pures ws = true then .ok (.ref S2.length) (S2 ++ [.lst ws]) else .stuck) else .ok (.lst ws) S2) Q := q
    cases ec : compD g t f (wipeE η (own.map (·.2))) w S1 with
    | stuck =>
      rw [ec] at q
      exact q.elim
    | exc c x S2 =>
      rw [ec] at q
      exact q.elim
    | ok ws SF =>
      rw [ec] at q
      replace q : Post X.K G (Rep X.K G) (fun c d H' => Wi c d σ H') γ H (if keep = true then (if pures ws = true then .ok (.ref SF.length) (SF ++ [.lst ws]) else .stuck) else .ok (.lst ws) SF) Q := q
      unfold compD at ec
      cases ew : refI w with
      | some r =>
        rw [ew] at ec
        cases w with
        | ref r' =>
          cases ew
          refine .inr ⟨η, S, γ, he, hs, ?_⟩
          rw [ei]
          intro v γ1 H1 e1 r1 s1
          cases r1 with
          | @ref _ ad hr =>
            have hi : r < S1.length := by rw [← s1.len]; exact (List.getElem?_eq_some_iff.mp hr).1
            have hcell : ∃ vs, SqL X.K H1 ad vs := by
              have q := s1.cell r S1[r] ad (List.getElem?_eq_getElem hi) hr
              cases hc : S1[r] with
              | lst xs => rw [hc] at q; obtain ⟨_, vs, hv, _⟩ := q; exact ⟨vs, SqL.of hv⟩
              | dct _ _ => 
                have z : compR g t f (wipeE η (own.map fun x => x.snd)) r 1000000 0 S1 [] = .ok ws SF := ec
                rw [compR_dct (n := 999999) ((List.getElem?_eq_getElem hi).trans (congrArg some hc))] at z
                cases z
              | ins _ _ => rw [hc] at q; exact q.elim
            refine ⟨ad, rfl, hcell, fun D hD => ?_⟩
            have gt := Gat.start (G := G) s1 hD
            exact lc_inR (γ1 := ⟨γ1.ρ, D :: γ1.β⟩) (Nx := fun H' => Q (.ref D) H') 1000000 hD hr ((he.mono e1).mono gt.ex) gt his ec (compD_end e1 s1 hD q)
        | _ => cases ew
      | none =>
        simp only [ew] at ec
        refine .inl ⟨η, S, γ, he, hs, ?_⟩
        unfold miSeq
        rw [ei]
        show PostI X.K G _ γ H (rOpt (seqI w) S1) _
        cases es : seqI w with
        | none =>
          simp only [es] at ec
          cases ec
        | some xs =>
          simp only [es] at ec
          intro J γ1 H1 e1 s1 ok D hD
          have gt := Gat.start (G := G) s1 hD
          exact lc_in (Nx := fun H' => Q (.ref D) H') hD (ok.mono gt.ex.w) ((he.mono e1).mono gt.ex) gt his ec (compD_end e1 s1 hD q)
theorem se_compD (keep : Bool) (own : List (Str × Nat)) (cf : Cfg X) (hi : SE X G iter e) (ok : BlkOk X.N X.env.scope scope own)
    (hg : ∀ (s : Shared) (H : Hp) (C : Addr) (cl : List (Str × Addr)) (fp : List Addr), Cfg (X.blk s H scope (compEnvC scope cl C X.env) fp) → SG (X.blk s H scope (compEnvC scope cl C X.env) fp) G tg is g)
    (ht : ∀ (s : Shared) (H : Hp) (C : Addr) (cl : List (Str × Addr)) (fp : List Addr), Cfg (X.blk s H scope (compEnvC scope cl C X.env) fp) → STs (X.blk s H scope (compEnvC scope cl C X.env) fp) G ifs t)
    (he : ∀ (s : Shared) (H : Hp) (C : Addr) (cl : List (Str × Addr)) (fp : List Addr), Cfg (X.blk s H scope (compEnvC scope cl C X.env) fp) → SE (X.blk s H scope (compEnvC scope cl C X.env) fp) G elt f)
    (his : ∀ i ∈ is, i ∈ own.map (·.2) := by decide) (hs : ∀ x, foldedSetIterable iter X.env x = pure x := by intro _; rfl) :
    SE X G (.ListComp elt [⟨tg, iter, ifs, 0⟩] scope pos) (mCompD keep e (own.map (·.2)) g t f) := by
  refine ⟨fun Wi tk => (pe_lc (g := tgOf X.K G is g) (tt := ttOf X.K G (fun _ _ _ _ => False) t) (te := tOf X.K G (fun _ _ _ _ => False) f) cf.calm cf.nd (PI.or ((si_seq (tg := tg) hi).run Wi tk) (pi_list (hi.run Wi tk))) ok (fun s H C cl fp => (hg s H C cl fp (cf.blk ..)).run) (fun s H C cl fp => (ht s H C cl fp (cf.blk ..)).run _ takes0) (fun s H C cl fp => (he s H C cl fp (cf.blk ..)).run _ takes0) hs).imp ?_⟩
  intro σ H Q q
  exact compD_read keep his q
theorem ss_setLcD {y : Str} {py : Pos} {spos : Pos} (i : Nat) (keep : Bool) (own : List (Str × Nat)) (cf : Cfg X) (hi : SE X G iter e) (ok : BlkOk X.N X.env.scope scope own)
    (hg : ∀ (s : Shared) (H : Hp) (C : Addr) (cl : List (Str × Addr)) (fp : List Addr), Cfg (X.blk s H scope (compEnvC scope cl C X.env) fp) → SG (X.blk s H scope (compEnvC scope cl C X.env) fp) G tg is g)
    (ht : ∀ (s : Shared) (H : Hp) (C : Addr) (cl : List (Str × Addr)) (fp : List Addr), Cfg (X.blk s H scope (compEnvC scope cl C X.env) fp) → STs (X.blk s H scope (compEnvC scope cl C X.env) fp) G ifs t)
    (he : ∀ (s : Shared) (H : Hp) (C : Addr) (cl : List (Str × Addr)) (fp : List Addr), Cfg (X.blk s H scope (compEnvC scope cl C X.env) fp) → SE (X.blk s H scope (compEnvC scope cl C X.env) fp) G elt f)
    (hy : X.N[i]? = some y := by rfl) (hyl : X.env.scope.names.lookup y = some .local := by rfl)
    (hsw : swapsWith (.ListComp elt [⟨tg, iter, ifs, 0⟩] scope pos) (some (.Name y py)) spos.line X.env = pure true := by exact sw_true rfl rfl rfl (by decide +kernel))
    (his : ∀ i ∈ is, i ∈ own.map (·.2) := by decide) (hs : ∀ x, foldedSetIterable iter X.env x = pure x := by intro _; rfl) :
    SS X G (.Assign [.Name y py] (.ListComp elt [⟨tg, iter, ifs, 0⟩] scope pos) spos) (sSet i (mCompD keep e (own.map (·.2)) g t f)) := by
  refine ⟨fun Wi tk => (ps_setLc (i := i) (g := tgOf X.K G is g) (tt := ttOf X.K G (fun _ _ _ _ => False) t) (te := tOf X.K G (fun _ _ _ _ => False) f) cf.calm cf.nd hy hyl hsw (PI.or ((si_seq (tg := tg) hi).run Wi tk) (pi_list (hi.run Wi tk))) ok (fun s H C cl fp => (hg s H C cl fp (cf.blk ..)).run) (fun s H C cl fp => (ht s H C cl fp (cf.blk ..)).run _ takes0) (fun s H C cl fp => (he s H C cl fp (cf.blk ..)).run _ takes0) hs).imp ?_⟩
  rintro D σ H ⟨η, S, γ, he, hs, q⟩
  refine compD_read keep his ⟨η, S, γ, he, hs, (PostS.expr he q).imp fun v H1 ⟨w, S1, γ1, e1, r1, s1, q1⟩ => q1 _ γ1 H1 Ext.refl ((he.mono e1).set r1 i) s1⟩
end
end Mp

set_option Elab.async false
set_option linter.all false
set_option maxRecDepth 100000
set_option maxHeartbeats 4000000
/-! Mp: a sum of lists that changes later. -/
namespace Mp
open PySem PySem.Spec PyProof.Rows L2
def mAddS (f g : ME) : ME := fun η S => (f η S).bind fun x S1 => (g η S1).bind fun y S2 => match lstOf S2 x, lstOf S2 y with
  | some a, some b => if a.length + b.length ≤ bigLine ∧ pures (a ++ b) = true then .ok (.ref S2.length) (S2 ++ [.lst (a ++ b)]) else .stuck
  | _, _ => .stuck
section
variable {X : Cx} {G : Gs} {a b : Expr} {pos : Pos} {f g : ME}
theorem se_addS (ha : SE X G a f) (hb : SE X G b g) : SE X G (.BinOp a .Add b pos) (mAddS f g) := by
  refine ⟨fun Wi tk => (pe_op op_cat (ha.run Wi tk) (hb.run Wi tk)).imp ?_⟩
  rintro σ H Q ⟨η, S, γ, he, hs, q⟩
  refine ⟨η, S, γ, he, hs, (Post.seq q).imp fun x H1 ⟨wx, S1, γ1, e1, r1, s1, q1⟩ => ⟨η, S1, γ1, he.mono e1, s1, (Post.seq q1).imp fun y H2 ⟨wy, S2, γ2, e2, r2, s2, q2⟩ => ?_⟩⟩
  have r1' := r1.mono e2
  cases hx : lstOf S2 wx with
  | none =>
    simp only [hx] at q2
    exact q2.elim
  | some xs =>
    cases hy : lstOf S2 wy with
    | none =>
      simp only [hx, hy] at q2
      exact q2.elim
    | some ys =>
      simp only [hx, hy] at q2
      by_cases hl : xs.length + ys.length ≤ bigLine ∧ pures (xs ++ ys) = true
      · rw [if_pos hl] at q2
        have hl1 := hl.1
        rw [bigLine_eq] at hl1
        obtain ⟨a1, v1, rfl, h1, q1⟩ := lstOf_rep s2 hx r1'
        obtain ⟨a2, v2, rfl, h2, q2'⟩ := lstOf_rep s2 hy r2
        have e1 := q1.length
        have e2 := q2'.length
        refine ⟨a1, a2, v1, v2, rfl, rfl, h1, h2, by omega, fun p hp => ?_⟩
        have ex := Ext.push (K := X.K) (G := G) s2 (o := .lst (v1 ++ v2)) hp
        refine q2 _ _ _ ex (.ref ?_) (s2.push hp hl.2 (q1.append q2'))
        show (γ2.ρ ++ [p])[S2.length]? = some p
        rw [← s2.len, List.getElem?_append_right (Nat.le_refl _), Nat.sub_self] <;> rfl
      · rw [if_neg hl] at q2
        exact q2.elim
end
end Mp

set_option Elab.async false
set_option linter.all false
set_option maxRecDepth 100000
set_option maxHeartbeats 4000000
/-! Mp: enumerate of tuples. -/
namespace Mp
open PySem PySem.Spec PyProof.Rows L2
theorem tupIt_at {h h' : Heap} {it l : Addr} {i : Nat} (x : h.IsTupleIter it l i) (k : ∀ o, h.get? it = some o → h'.get? it = some o) : h'.IsTupleIter it l i := let ⟨o, ho, r⟩ := x; ⟨o, k o ho, r⟩
theorem tup_at {h h' : Heap} {l : Addr} {xs : Array Value} (x : h.IsTuple l xs) (k : ∀ o, h.get? l = some o → h'.get? l = some o) : h'.IsTuple l xs := let ⟨o, ho, r⟩ := x; ⟨o, k o ho, r⟩
theorem drawsT {prog : Program} {w : World} {A : Around} (hh : A.handled = none) (it l : Addr) (hne : l ≠ it) (items : Array Value) : Draws prog w A it [it, l] items.size (fun i v => items[i]? = some v) (fun i h => h.IsTupleIter it l i ∧ h.IsTuple l items) := by
  refine ⟨fun _ _ st => ?_, fun _ _ _ st hk => ⟨tupIt_at st.1 fun o e => hk it (by simp) o e, tup_at st.2 fun o e => hk l (by simp) o e⟩, fun i s Q E hi st hQ => ?_, fun s Q E st hE => RZ.nextOf_tuple_end hh st.1 st.2 (by simp) hE⟩
  · obtain ⟨⟨o, ho, _⟩, _⟩ := st
    exact ⟨o, ho⟩
  · exact RZ.nextOf_tuple_item st.1 st.2 (x := items[i]) (by simp [hi]) fun h' hit' hs' => hQ _ h' s.toks (by simp [hi]) ⟨hit', st.2.extBut hs'.extBut hne⟩ hs'
theorem meetsET (l : Addr) (items : Array Value) (n : Nat) (dct : Option Addr) (sl : Array (Option Value)) : Meets (Builtin.«enumerate.__new__» ⟨[.type "enumerate", .ref l], []⟩) (fun _ R s => s.heap.get? l = some { cls := .type "tuple", dict := dct, data := .seq items n, slots := sl } ∧
    R (.ok (.ret (.ref (s.heap.push { cls := .type "tuple_iterator", data := .fields #[.ref l, .int 0 0] }).objs.size))) { s with heap := (s.heap.push { cls := .type "tuple_iterator", data := .fields #[.ref l, .int 0 0] }).push { cls := .type "enumerate", data := .fields #[.none, .bool false, .ref s.heap.objs.size, rawInt 0, .none, .none] } }) :=
  .of_wp fun prog w A R s h => by
    obtain ⟨hp, g, d, tk, os⟩ := s; obtain ⟨hl, h⟩ := h
    have hsub := sub_enumerate
    have hL : Heap.IsTuple (Shared.heap ⟨hp, g, d, tk, os⟩) l items := ⟨_, hl, rfl, n, rfl⟩
    wp_walk using AutoSeq1.wpAny_loadPart' hl
    refine wpAny_stack_any fun st => wpAny_pure ?_
    split
    · rename_i c _ _ _ _ _
      cases (c == Value.type "enumerate")
      · wp_walk using AutoSeq1.wpAny_loadPart' hl, wpAny_pyIter_tuple hL
        exact ⟨_, rfl, h⟩
      · wp_walk using AutoSeq1.wpAny_loadPart' hl, wpAny_pyIter_tuple hL
        exact ⟨_, rfl, h⟩
    · wp_walk using AutoSeq1.wpAny_loadPart' hl, wpAny_pyIter_tuple hL
      exact ⟨_, rfl, h⟩
theorem call_enumT {prog : Program} {w : World} {A : Around} {E : Value → Shared → Prop} {s : Shared} {l : Addr} {items : Array Value} {Q : Value → Shared → Prop} (hL : s.heap.IsTuple l items)
    (h : ∀ h', IsEnum h' (s.heap.objs.size + 1) s.heap.objs.size 0 .none → h'.IsTupleIter s.heap.objs.size l 0 → (∀ b o, s.heap.get? b = some o → h'.get? b = some o) → Q (.ref (s.heap.objs.size + 1)) { s with heap := h' }) : wpAny (model prog w) A (call (.type "enumerate") [.ref l]) Q E s := by
  obtain ⟨⟨c, dct, dt, sl⟩, hl, hc, n, hd⟩ := hL
  replace hc : c = .type "tuple" := hc
  replace hd : dt = .seq items n := hd
  subst hc hd
  refine callType_new F.called_enumerate (by decide) (F.typeCall_enumerate_1 _) (F.newCall_enumerate_1 _) (fun obj => F.args_object_init_2 obj _) F.entry_enumerate_new (meetsET l items n dct sl) ⟨hl, ?_⟩
  have hz : (s.heap.push { cls := .type "tuple_iterator", data := .fields #[.ref l, .int 0 0] }).objs.size = s.heap.objs.size + 1 := Heap.size_push ..
  show _ ∧ _
  rw [hz]
  have he : IsEnum ((s.heap.push { cls := .type "tuple_iterator", data := .fields #[.ref l, .int 0 0] }).push { cls := .type "enumerate", data := .fields #[.none, .bool false, .ref s.heap.objs.size, rawInt 0, .none, .none] }) (s.heap.objs.size + 1) s.heap.objs.size 0 .none := by
    have := Heap.get?_push_size (s.heap.push { cls := .type "tuple_iterator", data := .fields #[.ref l, .int 0 0] }) (o := { cls := .type "enumerate", data := .fields #[.none, .bool false, .ref s.heap.objs.size, rawInt 0, .none, .none] }) rfl
    rw [hz] at this
    exact this
  exact ⟨⟨_, he, rfl⟩, h _ he ⟨_, Heap.get?_push_of_some _ (Heap.get?_push_size _ rfl), rfl, rfl⟩ fun b o x => Heap.get?_push_of_some _ (Heap.get?_push_of_some _ x)⟩
def IteT (K : PySem.W.Frag) (a : Addr) : It :=
  ⟨fun i H => ∃ (xs : List V) (x : V), SqT K H a xs ∧ xs[i]? = some x, fun i H v H' => ∃ T x, v = .ref T ∧ H T = none ∧ H' = upd H T (.tup [.int (i : Nat), x]) ∧ ∀ xs, SqT K H a xs → xs[i]? = some x, fun i H => ∃ xs : List V, SqT K H a xs ∧ xs.length = i⟩
theorem turn_enumT {P : Program} {w : World} {K : PySem.W.Frag} {elts : List Expr} {kk : Nat} {tpos : Pos} (a e it : Addr) (h1 : e ≠ it) (h2 : e ≠ a) (h3 : a ≠ it) :
    Turn P w K (.Tuple elts kk tpos) (IteT K a) [e, it] e (fun i h => (∃ old, IsEnum h e it ((i : Nat) : Int) old) ∧ h.IsTupleIter it a i) where
  mem := by simp
  obj := fun i h st b hb => by
    obtain ⟨⟨old, he⟩, ⟨o, ho, hc, hd⟩⟩ := st
    have e' : b = e ∨ b = it := by simpa using hb
    rcases e' with z | z
    · rw [z]
      exact ⟨_, he, fun v q => nomatch q⟩
    · rw [z]
      exact ⟨o, ho, fun v q => by rw [hd] at q; cases q⟩
  keep := fun i h h' st k => ⟨st.1.elim fun old he => ⟨old, k e (by simp) _ he⟩, tupIt_at st.2 fun o q => k it (by simp) o q⟩
  item := by
    intro X hP hw hK hc i pins s σ H E I hf st hg
    subst hP hw hK
    obtain ⟨⟨old, he⟩, hit⟩ := st
    obtain ⟨xs, x, hq, hx⟩ := hg
    obtain ⟨its, rv, p, hz⟩ := I.tuple hq
    have hl := rv.length
    have hlt : i < its.toArray.size := by
      have := (List.getElem?_eq_some_iff.mp hx).1
      simp
      omega
    have hel : e < s.heap.objs.size := Heap.lt_size he
    refine wpAny_pyNext_enum_itemD (drawsT (A := X.A.in1) (show X.A.in1.handled = none from I.ok.hd hc) it a h3 its.toArray) he ⟨hit, p⟩ hlt h1 (by simp [h1, h2]) fun u h' tk hu ho hst hT hsz hk => ?_
    obtain ⟨u', hu', ru⟩ := rv.get hx
    have eu : u' = u := by
      have z : its[i]? = some u := by simpa using hu
      rw [hu'] at z
      exact Option.some.inj z
    subst eu
    refine ⟨_, rfl, wpAny_letOwnedTupleGo_enum (s := { s with heap := h', toks := tk + 1 }) ho fun h'' he' sb => ?_⟩
    have hT2 : h''.get? s.heap.objs.size = some { cls := .type "tuple", data := .seq #[.int i tk, u'] } := (sb.2 _ (Nat.ne_of_gt hel)).trans hT
    have new : ObjOk X.prog X.w (upd H s.heap.objs.size (.tup [.int (i : Nat), x])) h'' s.heap.objs.size (.tup [.int (i : Nat), x]) := ⟨by show 2 ≤ sizeLine; decide, [.int i tk, u'], .cons ⟨_, rfl⟩ (.cons ru .nil), ⟨_, hT2, rfl, _, rfl⟩⟩
    have I1 : Inv X pins σ (upd H s.heap.objs.size (.tup [.int (i : Nat), x])) { s with heap := h'', toks := tk + 1 } := I.turnedNew (ch := [e, it]) (fun b ob hb q => (sb.2 b (fun z => hb (by simp [z]))).trans (hk b ob (fun z => hb (by simp [z])) (fun z => hb (by simp [z])) q)) hf (Nat.le_refl _) new
    refine ⟨.ref s.heap.objs.size, _, I1, rfl, ⟨_, x, rfl, I.hok.fresh (Nat.le_refl _), rfl, fun ys hy => by rw [I.tuple_inj hy hq]; exact hx⟩, ⟨⟨u', ?_⟩, tupIt_at hst.1 fun o q => (sb.2 it (Ne.symm h1)).trans q⟩, fun b hb => ?_⟩
    · have e1 : ((i + 1 : Nat) : Int) = (i : Int) + 1 := by omega
      rw [e1]
      exact he'
    · have hb' : b < s.heap.objs.size := by
        have e' : b = e ∨ b = it := by simpa using hb
        rcases e' with z | z
        · rw [z]
          exact hel
        · rw [z]
          obtain ⟨_, q, _⟩ := hit
          exact Heap.lt_size q
      rw [upd_ne (Nat.ne_of_lt hb')]
      exact (hf b hb).1
  done := by
    intro X hP hw hK hc i pins s σ H E I hf st hg
    subst hP hw hK
    obtain ⟨⟨old, he⟩, hit⟩ := st
    obtain ⟨xs, hq, hx⟩ := hg
    obtain ⟨its, rv, p, hz⟩ := I.tuple hq
    obtain ⟨f0, f1, f2, f3, f4, f5⟩ := hf it (by simp)
    have hl := rv.length
    have ei : i = its.toArray.size := by simp; omega
    subst ei
    exact wpAny_pyNext_enum_endD (drawsT (A := X.A.in1) (show X.A.in1.handled = none from I.ok.hd hc) it a h3 its.toArray) he ⟨hit, p⟩ fun h' eb => ⟨rfl, I.turned (t' := s.toks) (fun b o hb q => eb b o hb q) f0 f1 f3 f4 f5⟩
  self := fun A i s Q E st h => st.1.elim fun old he => wpAny_pyIter_enum he h
def iEnumT (K : PySem.W.Frag) (ta : TA) : TI := fun σ H R => ta σ H fun vs H1 => ∃ a xs, vs = [.ref a] ∧ SqT K H1 a xs ∧ R (IteT K a) H1
theorem pi_enumT {X : Cx} {e : Expr} {ta : TA} {p pos tpos : Pos} {elts : List Expr} {kk : Nat} (hg : Gl X "enumerate") (hm : X.mg "enumerate" = none) (ha : PA X [e] ta) (hs : starEach [e] X.env = [(false, eval e X.env)] := by rfl) : PI X (.Tuple elts kk tpos) (.Call (.Name "enumerate" p) [e] [] pos) (iEnumT X.K ta) := by
  refine ⟨fun pins s σ H R I h => ?_⟩
  refine Call_ (ld_blt I hg hm boot_enumerate (PyProof.Rows.callWith_type1 (thn (ha.run pos pins s σ H _ I h) fun us s1 ⟨vs, H1, I1, r1, q1⟩ => ?_) hs rfl))
  obtain ⟨a, xs, ex, hq, q⟩ := q1
  subst ex
  cases r1 with
  | cons r rr =>
    cases rr
    cases r
    obtain ⟨its, rv, p', hz⟩ := I1.tuple hq
    have hal : a < s1.heap.objs.size := by obtain ⟨_, q, _⟩ := p'; exact Heap.lt_size q
    refine call_enumT p' fun h' he hit hk => wpAny_pyIter_enum he ?_
    have I2 : Inv X pins σ H1 { s1 with heap := h' } := I1.kept (t' := s1.toks) hk
    refine ⟨s1.heap.objs.size + 1, [s1.heap.objs.size + 1, s1.heap.objs.size], _, _, H1, rfl, I2, turn_enumT a (s1.heap.objs.size + 1) s1.heap.objs.size (Nat.succ_ne_self _) (Nat.ne_of_gt (Nat.lt_succ_of_lt hal)) (Nat.ne_of_lt hal), ⟨⟨.none, he⟩, hit⟩, fun b hb => ?_, q⟩
    have e' : b = s1.heap.objs.size + 1 ∨ b = s1.heap.objs.size := by simpa using hb
    have hle : s1.heap.objs.size ≤ b := by
      rcases e' with z | z
      · rw [z]
        exact Nat.le_add_right _ _
      · rw [z]
        exact Nat.le_refl _
    exact I1.fpOk hle (I1.hok.fresh hle)
def enumW2 : List W → Option (List W)
  | [.lst xs] => some (enumL 0 xs)
  | [.tup xs] => some (enumL 0 xs)
  | _ => none
theorem itOk_enumT {K : PySem.W.Frag} {G : Gs} {γ : Ga} {H : Hp} {a : Addr} {xs : List W} {vs : List V} (sa : ∀ {γ' H'}, ExtW γ H γ' H' → SqT K H' a vs) (q : Reps K G γ H xs vs) : ItOk K G (IteT K a) (enumL 0 xs) γ H := by
  refine ⟨fun i γ' H' S hi e _ => ?_, fun γ' H' S e _ => ⟨vs, sa e, ?_⟩, fun i w γ' H' S x H'' hw e s y => ?_⟩
  · rw [enumL_len, q.length] at hi
    exact ⟨vs, vs[i], sa e, List.getElem?_eq_getElem hi⟩
  · rw [enumL_len, q.length]
  · obtain ⟨T, v, rfl, hT, rfl, h1⟩ := y
    obtain ⟨p, hp, rfl⟩ := enumL_get hw
    obtain ⟨v', hv', rv⟩ := q.get hp
    have z1 := h1 vs (sa e)
    rw [hv'] at z1
    cases z1
    rw [Int.zero_add]
    exact pair_new hT s (.int _) (rv.monoW e)
section
variable {X : Cx} {G : Gs} {a : Expr} {pos p tpos : Pos} {ga : MA} {elts : List Expr} {kk : Nat}
theorem si_enum2 (hm : X.mg "enumerate" = none) (ha : SA X G [a] ga) (hg : Gl X "enumerate" := by rfl) (hs : starEach [a] X.env = [(false, eval a X.env)] := by rfl) : SI X G (.Tuple elts kk tpos) (.Call (.Name "enumerate" p) [a] [] pos) (miAll enumW2 ga) := by
  refine ⟨fun Wi tk => (PI.or (pi_enum hg hm (ha.run Wi tk) hs) (pi_enumT hg hm (ha.run Wi tk) hs)).imp ?_⟩
  rintro σ H R ⟨η, S, γ, he, hs, q⟩
  have q : PostI X.K G (fun c d H' => Wi c d σ H') γ H ((ga η S).bind fun ws S1 => rOpt (enumW2 ws) S1) R := q
  cases eg : ga η S with
  | stuck =>
    rw [eg] at q
    exact q.elim
  | exc c x S1 =>
    rw [eg] at q
    refine .inl ⟨η, S, γ, he, hs, ?_⟩
    rw [eg]
    exact q
  | ok ws S1 =>
    rw [eg] at q
    replace q : PostI X.K G (fun c d H' => Wi c d σ H') γ H (rOpt (enumW2 ws) S1) R := q
    unfold enumW2 at q
    split at q
    · refine .inl ⟨η, S, γ, he, hs, ?_⟩
      rw [eg]
      intro vs γ1 H1 e1 r1 s1
      cases r1 with
      | cons r r1 =>
        cases r1
        cases r with
        | lst h1 o1 z1 => exact ⟨_, _, rfl, SqL.of h1, q _ γ1 H1 e1 s1 (itOk_enum (fun e => .inl (e.rd (.inl h1) o1).1) z1)⟩
    · refine .inr ⟨η, S, γ, he, hs, ?_⟩
      rw [eg]
      intro vs γ1 H1 e1 r1 s1
      cases r1 with
      | cons r r1 =>
        cases r1
        cases r with
        | tup h1 z1 => exact ⟨_, _, rfl, h1.sq, q _ γ1 H1 e1 s1 (itOk_enumT (fun e => (h1.monoW e).sq) z1)⟩
    · exact q.elim
end
end Mp

set_option Elab.async false
set_option linter.all false
set_option maxRecDepth 100000
set_option maxHeartbeats 4000000
/-! Mp: tuples compared. -/
namespace Mp
open PySem PySem.Spec PyProof.Rows L2
def lexG {α : Type} [DecidableEq α] (q : α → α → Bool) (z : Nat → Nat → Bool) : List α → List α → Bool
  | x :: xs, y :: ys => if x = y then lexG q z xs ys else q x y
  | [], ys => z 0 ys.length
  | xs, [] => z xs.length 0
def tupsCmp (p : Int → Int → Bool) (q : List Nat → List Nat → Bool) (z : Nat → Nat → Bool) (xs ys : List W) : Option W := match strsOf xs, strsOf ys with
  | some a, some b => some (.bl (lexG q z a b))
  | _, _ => (match intsOf xs, intsOf ys with
    | some a, some b => some (.bl (lexG p z a b))
    | _, _ => none)
def opCmp2 (p : Int → Int → Bool) (q : List Nat → List Nat → Bool) (z : Nat → Nat → Bool) : O2 := fun x y S => match x, y with
  | .tup xs, .tup ys => tupsCmp p q z xs ys
  | x, y => opCmp p q x y S
theorem lexAt_shift {e r : Nat → Bool} {z : Bool} : ∀ (k i : Nat), Ob.lexAt e r z (i + 1) k = Ob.lexAt (fun j => e (j + 1)) (fun j => r (j + 1)) z i k
  | 0, i => rfl
  | k + 1, i => by
    rw [Ob.lexAt_succ, Ob.lexAt_succ, lexAt_shift k (i + 1)]
theorem lexAt_lexG {α : Type} [DecidableEq α] (d : α) (q : α → α → Bool) (z : Nat → Nat → Bool) (hz : ∀ m n, z (m + 1) (n + 1) = z m n) : ∀ xs ys : List α, Ob.lexAt (fun j => decide (xs.getD j d = ys.getD j d)) (fun j => q (xs.getD j d) (ys.getD j d)) (z xs.length ys.length) 0 (min xs.length ys.length) = lexG q z xs ys
  | [], ys => by
    rw [show min ([] : List α).length ys.length = 0 by simp, Ob.lexAt_zero, lexG] <;> rfl
  | x :: xs, [] => by
    rw [show min (x :: xs).length ([] : List α).length = 0 by simp, Ob.lexAt_zero, lexG] <;> first | rfl | simp
  | x :: xs, y :: ys => by
    rw [show min (x :: xs).length (y :: ys).length = min xs.length ys.length + 1 by simp [Nat.succ_min_succ], Ob.lexAt_succ, lexAt_shift, List.length_cons, List.length_cons, hz, lexG]
    have ih := lexAt_lexG d q z hz xs ys
    by_cases e : x = y
    · rw [if_pos (by show decide (x = y) = true; exact decide_eq_true e), if_pos e]
      exact ih
    · rw [if_neg (by show ¬ decide (x = y) = true; rw [decide_eq_true_eq]; exact e), if_neg e]
      rfl
section
variable {X : Cx} {G : Gs}
theorem str_at {its : List Value} {zs : List (List Nat)} (h : StrsAre its (zs.map fun l => (⟨l.toArray⟩ : Str))) {j : Nat} (hj : j < its.toArray.size) : ∃ t, its.toArray[j] = .str ⟨(zs.getD j []).toArray⟩ t := by
  have e : ∀ {its : List Value} {ss : List Str}, StrsAre its ss → ∀ j (hj : j < its.length), ∃ t, its[j] = .str (ss.getD j Str.empty) t := by
    intro its ss h
    induction h with
    | nil => intro j hj; cases hj
    | cons x t r ih =>
      intro j hj
      cases j with
      | zero => exact ⟨t, rfl⟩
      | succ j => exact ih j (by simpa using hj)
  have hj' : j < its.length := by simpa using hj
  obtain ⟨t, q⟩ := e h j hj'
  refine ⟨t, ?_⟩
  have hl : j < zs.length := by
    have := h.length
    rw [List.length_map] at this
    omega
  rw [List.getElem_toArray, q, List.getD_eq_getElem?_getD, List.getElem?_map, List.getElem?_eq_getElem hl, List.getD_eq_getElem?_getD, List.getElem?_eq_getElem hl] <;> rfl
theorem o2_cmpT {op : CmpOp} {p : Int → Int → Bool} {q : List Nat → List Nat → Bool} {zz : Nat → Nat → Bool} (hu : X.A.units + 100 < cLine) (hz : ∀ m n, zz (m + 1) (n + 1) = zz m n) (h0 : OpR X (compareOp op) (rOf X.K G (opCmp p q)))
    (hs : ∀ (A : Around) (s : Shared) (x : Str) (t : Tok) (y : Str) (u : Tok), Ob.RcOp op A s (.str x t) (.str y u) (q x.cps.toList y.cps.toList)) (hi : ∀ (A : Around) (s : Shared) (x : Int) (t : Tok) (y : Int) (u : Tok), Ob.RcOp op A s (.int x t) (.int y u) (p x y))
    (ht : ∀ {A : Around} {s : Shared} {l b : Addr} {items items2 : Array Value} {e r : Nat → Bool} (_ : s.heap.IsTuple l items) (_ : s.heap.IsTuple b items2) (_ : A.units < cLine) (_ : ∀ j (h1 : j < items.size) (h2 : j < items2.size), PySem.SeqAt.EqAt A.in1 s items[j] items2[j] (e j))
      (_ : ∀ j (h1 : j < items.size) (h2 : j < items2.size), e j = false → Ob.RcOp op A.in1 s items[j] items2[j] (r j)), Ob.RcOp op A s (.ref l) (.ref b) (Ob.lexAt e r (zz items.size items2.size) 0 (min items.size items2.size)))
    (hc : ∀ (v u : Value), compareOp op v u = richCompare op v u) : OpR X (compareOp op) (rOf X.K G (opCmp2 p q zz)) := by
  intro pins s σ H x y v u Q I rx ry h
  obtain ⟨wx, wy, S, γ, w, r1, r2, ss, e, k⟩ := h
  unfold opCmp2 at e
  split at e
  · rename_i xs ys
    cases r1 with
    | tup f1 q1 =>
    cases r2 with
    | tup f2 q2 =>
    cases rx
    cases ry
    obtain ⟨its, rv1, p1, _⟩ := I.tuple f1.sq
    obtain ⟨its2, rv2, p2, _⟩ := I.tuple f2.sq
    unfold tupsCmp at e
    split at e
    · rename_i a b ea eb
      cases e
      obtain ⟨ev, _⟩ := strsOf_reps q1 ea
      subst ev
      obtain ⟨ev, _⟩ := strsOf_reps q2 eb
      subst ev
      have l1 : its.toArray.size = a.length := by have := rv1.length; simp at this ⊢; omega
      have l2 : its2.toArray.size = b.length := by have := rv2.length; simp at this ⊢; omega
      have R := ht (A := X.A) (s := s) (e := fun j => decide (a.getD j [] = b.getD j [])) (r := fun j => q (a.getD j []) (b.getD j [])) p1 p2 (by omega) (fun j h1 h2 => by
        obtain ⟨t, et⟩ := str_at rv1.strs h1
        obtain ⟨t', et'⟩ := str_at rv2.strs h2
        rw [et, et']
        have z : ((⟨(a.getD j []).toArray⟩ : Str) == ⟨(b.getD j []).toArray⟩) = decide (a.getD j [] = b.getD j []) := by
          by_cases q : a.getD j [] = b.getD j []
          · rw [decide_eq_true q, q]
            exact beq_self_eq_true _
          · rw [decide_eq_false q]
            refine beq_eq_false_iff_ne.mpr fun z => q ?_
            have z2 := congrArg (fun s : Str => s.cps.toList) z
            simpa using z2
        rw [← z]
        exact PySem.SeqAt.EqAt.str_str _ _ _ _) (fun j h1 h2 _ => by
        obtain ⟨t, et⟩ := str_at rv1.strs h1
        obtain ⟨t', et'⟩ := str_at rv2.strs h2
        rw [et, et']
        have z := hs X.A.in1 s ⟨(a.getD j []).toArray⟩ t ⟨(b.getD j []).toArray⟩ t'
        simpa using z)
      rw [l1, l2, lexAt_lexG [] q zz hz] at R
      rw [hc]
      exact R X.prog X.w X.xe (EP X pins σ Q) ⟨.bl _, H, I, rfl, k _ γ H Ext.refl (.bl _) ss⟩
    · split at e
      · rename_i a b ea eb
        cases e
        have ev := intsOf_reps' q1 ea
        subst ev
        have ev := intsOf_reps' q2 eb
        subst ev
        have i1 : IntsAre its a := Vals.ints rv1
        have i2 : IntsAre its2 b := Vals.ints rv2
        have l1 : its.toArray.size = a.length := by rw [List.size_toArray]; exact i1.length
        have l2 : its2.toArray.size = b.length := by rw [List.size_toArray]; exact i2.length
        have at1 : ∀ j (h1 : j < its.toArray.size), ∃ t, its.toArray[j] = .int (a.getD j 0) t := fun j h1 => PyProof.Rows.IntsAre.int_at i1 _ _ (by simp at h1; simp [h1])
        have at2 : ∀ j (h1 : j < its2.toArray.size), ∃ t, its2.toArray[j] = .int (b.getD j 0) t := fun j h1 => PyProof.Rows.IntsAre.int_at i2 _ _ (by simp at h1; simp [h1])
        have R := ht (A := X.A) (s := s) (e := fun j => decide (a.getD j 0 = b.getD j 0)) (r := fun j => p (a.getD j 0) (b.getD j 0)) p1 p2 (by omega) (fun j h1 h2 => by
          obtain ⟨t, et⟩ := at1 j h1
          obtain ⟨t', et'⟩ := at2 j h2
          rw [et, et']
          have z : (a.getD j 0 == b.getD j 0) = decide (a.getD j 0 = b.getD j 0) := by
            by_cases q : a.getD j 0 = b.getD j 0
            · rw [decide_eq_true q]
              exact beq_iff_eq.mpr q
            · rw [decide_eq_false q]
              exact beq_eq_false_iff_ne.mpr q
          rw [← z]
          exact PySem.SeqAt.EqAt.int_int _ _ _ _) (fun j h1 h2 _ => by
          obtain ⟨t, et⟩ := at1 j h1
          obtain ⟨t', et'⟩ := at2 j h2
          rw [et, et']
          exact hi X.A.in1 s _ _ _ _)
        rw [l1, l2, lexAt_lexG 0 p zz hz] at R
        rw [hc]
        exact R X.prog X.w X.xe (EP X pins σ Q) ⟨.bl _, H, I, rfl, k _ γ H Ext.refl (.bl _) ss⟩
      · cases e
  · exact h0 pins s σ H x y v u Q I rx ry ⟨_, _, S, γ, w, r1, r2, ss, e, k⟩
def opLt2 : O2 := opCmp2 (fun i j => decide (i < j)) (fun a b => decide (a < b)) fun m n => decide (m < n)
def opLe2 : O2 := opCmp2 (fun i j => decide (i ≤ j)) (fun a b => !decide (b < a)) fun m n => decide (m ≤ n)
def opGt2 : O2 := opCmp2 (fun i j => decide (j < i)) (fun a b => decide (b < a)) fun m n => decide (m > n)
def opGe2 : O2 := opCmp2 (fun i j => decide (j ≤ i)) (fun a b => !decide (a < b)) fun m n => decide (m ≥ n)
theorem o2_lt2 (hu : X.A.units + 100 < cLine) : OpR X (compareOp .Lt) (rOf X.K G opLt2) := o2_cmpT hu (fun m n => by simp) o2_lt (fun A s x t y u => fun _ _ _ _ h => PyProof.Rows.lt_str h) (fun A s x t y u => Ob.RcOp.lt_int _ _ _ _) Ob.RcOp.tuples_lt fun _ _ => rfl
theorem o2_le2 (hu : X.A.units + 100 < cLine) : OpR X (compareOp .LtE) (rOf X.K G opLe2) := o2_cmpT hu (fun m n => by simp) o2_le (fun A s x t y u => fun _ _ _ _ h => PySem.P.le_str h) (fun A s x t y u => Ob.RcOp.le_int _ _ _ _) Ob.RcOp.tuples_le fun _ _ => rfl
theorem o2_gt2 (hu : X.A.units + 100 < cLine) : OpR X (compareOp .Gt) (rOf X.K G opGt2) := o2_cmpT hu (fun m n => by simp) o2_gt (fun A s x t y u => fun _ _ _ _ h => PySem.P.gt_str h) (fun A s x t y u => Ob.RcOp.gt_int _ _ _ _) Ob.RcOp.tuples_gt fun _ _ => rfl
theorem o2_ge2 (hu : X.A.units + 100 < cLine) : OpR X (compareOp .GtE) (rOf X.K G opGe2) := o2_cmpT hu (fun m n => by simp) o2_ge (fun A s x t y u => fun _ _ _ _ h => PySem.P.ge_str h) (fun A s x t y u => Ob.RcOp.ge_int _ _ _ _) Ob.RcOp.tuples_ge fun _ _ => rfl
end
end Mp

set_option Elab.async false
set_option linter.all false
set_option maxRecDepth 100000
set_option maxHeartbeats 4000000
/-! Mp: itertools.combinations. -/
namespace MpC
open PySem PySem.Spec
open Sem (wp)
theorem mro_c : mroOf (.type "itertools.combinations") = pure [.type "itertools.combinations", .type "object"] := by rw [mroOf_type]; kernel_rfl
theorem lookup_c_new : typeLookup (.type "itertools.combinations") "__new__" = pure (some (.builtin "itertools.combinations.__new__")) := by rw [typeLookup_type, builtinLookup_eq_fast]; kernel_rfl
theorem sub_c : isSubtype (.type "itertools.combinations") (.type "itertools.combinations") = pure true := by rw [isSubtype_type]; kernel_rfl
theorem slot_c_init : Slot "itertools.combinations" "__init__" "object.__init__" := .of (owner := "object") (n := "__init__") (by rw [typeLookup_type, builtinLookup_eq_fast]; kernel_rfl) (by decide +kernel) (by decide +kernel) (by decide +kernel) (by first | exact .inl (by decide +kernel) | exact .inr (by decide +kernel)) (by rw [isSubtype_type]; kernel_rfl)
theorem called_c : TypeCalled "itertools.combinations" "itertools.combinations.__new__" "object.__init__" := ⟨by decide +kernel, by decide +kernel, ⟨_, _, mro_c⟩, madeBy_type mro_c lookup_c_new (by decide +kernel), by decide +kernel, sub_c, slot_c_init⟩
theorem typeCall_c (a b : Value) : checkTypeCall "itertools.combinations" ⟨[a, b], []⟩ = pure () := by kernel_rfl
theorem newCall_c (a b : Value) : checkBuiltinCall "itertools.combinations.__new__" ⟨[.type "itertools.combinations", a, b], []⟩ = pure () := by kernel_rfl
theorem entry_c_new : entryFor table "itertools.combinations.__new__" = some Builtin.«itertools.combinations.__new__» := entryFor_of_tree (by kernel_rfl)
theorem entry_c_next : entryFor table "itertools.combinations.__next__" = some Builtin.«itertools.combinations.__next__» := entryFor_of_tree (by kernel_rfl)
theorem slot_c_iter : Slot "itertools.combinations" "__iter__" "itertools.combinations.__iter__" := .of (owner := "itertools.combinations") (n := "__iter__") (by rw [typeLookup_type, builtinLookup_eq_fast]; kernel_rfl) (by decide +kernel) (by decide +kernel) (by decide +kernel) (by first | exact .inl (by decide +kernel) | exact .inr (by decide +kernel)) sub_c
theorem slot_c_next : Slot "itertools.combinations" "__next__" "itertools.combinations.__next__" := .of (owner := "itertools.combinations") (n := "__next__") (by rw [typeLookup_type, builtinLookup_eq_fast]; kernel_rfl) (by decide +kernel) (by decide +kernel) (by decide +kernel) (by first | exact .inl (by decide +kernel) | exact .inr (by decide +kernel)) sub_c
theorem entry_c_iter : entryFor table "itertools.combinations.__iter__" = some Builtin.«dict_keyiterator.__iter__» := entryFor_alias (id' := "dict_keyiterator.__iter__") (by kernel_rfl) (by first | rfl | decide +kernel | (unfold String.splitOn; simp +decide [String.splitOnAux])) (by decide +kernel) (by kernel_rfl)
theorem owner_c : Manifest.owners.lookup (String.ofList ['s', 'n', 'o', 'i', 't', 'a', 'n', 'i', 'b', 'm', 'o', 'c', '.', 's', 'l', 'o', 'o', 't', 'r', 'e', 't', 'i'].reverse) = some Manifest.sig_itertools_combinations := by kernel_rfl
theorem args_c_iter (a : Value) : argsOk "itertools.combinations.__iter__" ⟨[a], []⟩ := by unfold argsOk; rw [signature?_of (id := "itertools.combinations.__iter__") (n := ['_', '_', 'r', 'e', 't', 'i', '_', '_']) (o := ['s', 'n', 'o', 'i', 't', 'a', 'n', 'i', 'b', 'm', 'o', 'c', '.', 's', 'l', 'o', 'o', 't', 'r', 'e', 't', 'i']) (by kernel_rfl) owner_c]; kernel_rfl
theorem args_c_next (a : Value) : argsOk "itertools.combinations.__next__" ⟨[a], []⟩ := by unfold argsOk; rw [signature?_of (id := "itertools.combinations.__next__") (n := ['_', '_', 't', 'x', 'e', 'n', '_', '_']) (o := ['s', 'n', 'o', 'i', 't', 'a', 'n', 'i', 'b', 'm', 'o', 'c', '.', 's', 'l', 'o', 'o', 't', 'r', 'e', 't', 'i']) (by kernel_rfl) owner_c]; kernel_rfl
theorem noDict_c : typeHasDict (.type "itertools.combinations") = false := by decide +kernel
/-- the iterator: the pool, the state, what it gave last, where it stands -/
abbrev IsComb (h : Heap) (it pool : Addr) (st : Int) (last : Value) (idx : List Nat) : Prop := h.get? it = some { cls := .type "itertools.combinations", dict := none, data := .fields (#[.ref pool, rawInt st, last] ++ (idx.map fun (n : Nat) => rawInt n).toArray), slots := #[] }
def nextC (n : Nat) (idx : List Nat) : Option (List Nat) := match (List.range idx.length).reverse.find? fun i => idx.getD i 0 != i + n - idx.length with
  | none => none
  | some i => some (idx.take i ++ (List.range (idx.length - i)).map (idx.getD i 0 + 1 + ·))
section
variable {prog : Program} {w : World} {A : Around} {E : Value → Shared → Prop} {s : Shared}
theorem iter_c {it pool : Addr} {st : Int} {last : Value} {idx : List Nat} {Q : Value → Shared → Prop} (hit : IsComb s.heap it pool st last idx) (h : Q (.ref it) s) : wpAny (model prog w) A (pyIter (.ref it)) Q E s := by
  have hT : s.TypeIs (.ref it) "itertools.combinations" := ⟨_, hit, rfl⟩
  refine wpAny_pyIter_slot hT slot_c_iter (wpAny_call_entry slot_c_iter hT entry_c_iter ?_ (args_c_iter _))
  show wpAny _ _ (ret (.ref it)) _ _ s; exact wpAny_pure ⟨_, rfl, "itertools.combinations", _, hT, slot_c_next.lookup, h⟩
theorem numbers_back (idx : List Nat) (a b c : Value) (f : Value → Nat) (hf : ∀ k : Nat, f (rawInt k) = k) : List.map f (List.drop 3 (#[a, b, c] ++ (idx.map fun (n : Nat) => rawInt n).toArray : Array Value).toList) = idx := by
  have e : List.drop 3 (#[a, b, c] ++ (idx.map fun (n : Nat) => rawInt n).toArray : Array Value).toList = idx.map fun (n : Nat) => rawInt n := by simp
  rw [e, List.map_map]
  conv => rhs; rw [← List.map_id idx]
  exact List.map_congr_left fun k _ => hf k
end
end MpC

set_option Elab.async false
set_option linter.all false
set_option maxRecDepth 100000
set_option maxHeartbeats 4000000
/-! Mp: itertools.combinations, a step. -/
namespace MpC
open PySem PySem.Spec
open Sem (wp)
section
variable {prog : Program} {w : World} {A : Around} {E : Value → Shared → Prop} {s : Shared}
theorem f0 (a b c : Value) (xs : Array Value) : (#[a, b, c] ++ xs)[0]? = some a := by rw [Array.getElem?_append_left (show 0 < (#[a, b, c] : Array Value).size from by show 0 < 3; decide)] <;> rfl
theorem f1 (a b c : Value) (xs : Array Value) : (#[a, b, c] ++ xs)[1]? = some b := by rw [Array.getElem?_append_left (show 1 < (#[a, b, c] : Array Value).size from by show 1 < 3; decide)] <;> rfl
theorem f2 (a b c : Value) (xs : Array Value) : (#[a, b, c] ++ xs)[2]? = some c := by rw [Array.getElem?_append_left (show 2 < (#[a, b, c] : Array Value).size from by show 2 < 3; decide)] <;> rfl
theorem set1 (a b c v : Value) (xs : List Value) : (#[a, b, c] ++ xs.toArray).setIfInBounds 1 v = #[a, v, c] ++ xs.toArray := Array.toList_inj.mp (by simp)
theorem set2 (a b c v : Value) (xs : List Value) : (#[a, b, c] ++ xs.toArray).setIfInBounds 2 v = #[a, b, v] ++ xs.toArray := Array.toList_inj.mp (by simp)
theorem hand_out {it pool : Addr} {st : Int} {last : Value} {idx : List Nat} {its : List Value} {n : Nat} {Q : Value → Shared → Prop} (hit : IsComb s.heap it pool st last idx) (hp : s.heap.get? pool = some { cls := .type "tuple", data := .seq its.toArray n }) (hl : idx.length ≤ sizeLine)
    (hQ : ∀ h', IsComb h' it pool st (.ref s.heap.objs.size) idx → h'.get? s.heap.objs.size = some { cls := .type "tuple", data := .seq (idx.map fun i => its.getD i .none).toArray } → (∀ b o, b ≠ it → s.heap.get? b = some o → h'.get? b = some o) → Q (.ref s.heap.objs.size) { s with heap := h' }) :
    wpAny (model prog w) A (do
      let result ← (do let items ← Builtin.Itertools.itPoolItems (.ref pool); newTuple (idx.map fun i => items.getD i .none))
      let before ← field (.ref it) 2
      setField (.ref it) 2 result
      letGo [before] [result]
      ret result) (fun fin s' => ∃ v, fin = .done (.ret v) ∧ Q v s') E s := by
  refine wpAny_bind (wpAny_bind ?_)
  unfold Builtin.Itertools.itPoolItems
  refine wpAny_bind (wpAny_seqItems hp rfl ?_)
  refine wpAny_pure ?_
  show wpAny _ _ (newTuple (idx.map fun i => its.toArray.getD i .none)) _ _ _
  have e : (idx.map fun i => its.toArray.getD i .none) = idx.map fun i => its.getD i .none := List.map_congr_left fun i _ => by simp
  rw [e]
  have hlt : it < s.heap.objs.size := Heap.lt_size hit
  refine wpAny_newTuple ?_ (by rw [List.length_map]; exact hl)
  have hit1 : IsComb (s.heap.push { cls := .type "tuple", data := .seq (idx.map fun i => its.getD i .none).toArray }) it pool st last idx := Heap.get?_push_of_some _ hit
  refine wpAny_bind (wpAny_field hit1 rfl (f2 _ _ _ _) ?_)
  refine wpAny_bind (wpAny_setField hit1 rfl (by simp) ?_)
  refine wpAny_bind (wpAny_letGo ?_)
  refine wpAny_pure ⟨_, rfl, hQ _ ?_ ?_ fun b o hb q => ?_⟩
  · have z := Heap.get?_update_self (Obj.mapFields fun x => x.setIfInBounds 2 (.ref s.heap.objs.size)) hit1 rfl
    exact z.trans (congrArg (fun d => some ({ cls := .type "itertools.combinations", dict := none, data := .fields d, slots := #[] } : Obj)) (set2 _ _ _ _ _))
  · rw [Heap.get?_update_ne _ _ _ _ (Nat.ne_of_gt hlt)]
    exact Heap.get?_push_size _ rfl
  · rw [Heap.get?_update_ne _ _ _ _ hb]
    exact Heap.get?_push_of_some _ q
theorem next_first {it pool : Addr} {last : Value} {idx : List Nat} {its : List Value} {n : Nat} {Q : Option Value → Shared → Prop} (hit : IsComb s.heap it pool 0 last idx) (hp : s.heap.get? pool = some { cls := .type "tuple", data := .seq its.toArray n }) (hne : pool ≠ it) (hl : idx.length ≤ sizeLine)
    (hQ : ∀ h', IsComb h' it pool 1 (.ref s.heap.objs.size) idx → h'.get? s.heap.objs.size = some { cls := .type "tuple", data := .seq (idx.map fun i => its.getD i .none).toArray } → (∀ b o, b ≠ it → s.heap.get? b = some o → h'.get? b = some o) → Q (some (.ref s.heap.objs.size)) { s with heap := h' }) :
    wpAny (model prog w) A (pyNext (.ref it)) Q E s := by
  have hT : s.TypeIs (.ref it) "itertools.combinations" := ⟨_, hit, rfl⟩
  unfold pyNext
  refine wpAny_bind (wpAny_attempt (wpAny_callSpecial?_slot (name := Str.ofString "__next__") hT slot_c_next (wpAny_call_entry slot_c_next hT entry_c_next ?_ (args_c_next _))))
  show wpAny _ _ (field (.ref it) 0 >>= _) _ _ _
  refine wpAny_bind (wpAny_field hit rfl (f0 _ _ _ _) ?_)
  show wpAny _ _ (Builtin.Itertools.itNumbersFrom (.ref it) 3 >>= _) _ _ _
  unfold Builtin.Itertools.itNumbersFrom
  refine wpAny_bind (wpAny_bind (wpAny_load hit (wpAny_pure ?_)))
  rw [numbers_back idx _ _ _ _ (fun k => Int.toNat_natCast k)]
  show wpAny _ _ (Builtin.Itertools.itIntField (.ref it) 1 >>= _) _ _ _
  unfold Builtin.Itertools.itIntField
  refine wpAny_bind (wpAny_bind (wpAny_field hit rfl (f1 _ _ _ _) (wpAny_pure ?_)))
  show wpAny _ _ (setField (.ref it) 1 (rawInt 1) >>= _) _ _ _
  refine wpAny_bind (wpAny_setField hit rfl (by simp) ?_)
  have hit1 : IsComb (s.heap.update it (Obj.mapFields fun x => x.setIfInBounds 1 (rawInt 1))) it pool 1 last idx := by
    have z := Heap.get?_update_self (Obj.mapFields fun x => x.setIfInBounds 1 (rawInt 1)) hit rfl
    exact z.trans (congrArg (fun d => some ({ cls := .type "itertools.combinations", dict := none, data := .fields d, slots := #[] } : Obj)) (set1 _ _ _ _ _))
  have hsz : (s.heap.update it (Obj.mapFields fun x => x.setIfInBounds 1 (rawInt 1))).objs.size = s.heap.objs.size := Heap.size_update ..
  have hp1 : (s.heap.update it (Obj.mapFields fun x => x.setIfInBounds 1 (rawInt 1))).get? pool = some { cls := .type "tuple", data := .seq its.toArray n } := by rw [Heap.get?_update_ne _ _ _ _ hne]; exact hp
  refine hand_out (s := { s with heap := s.heap.update it (Obj.mapFields fun x => x.setIfInBounds 1 (rawInt 1)) }) hit1 hp1 hl fun h' x1 x2 x3 => wpAny_pure ?_
  have x1 : IsComb h' it pool 1 (.ref (s.heap.update it (Obj.mapFields fun x => x.setIfInBounds 1 (rawInt 1))).objs.size) idx := x1
  show Q (some (.ref (s.heap.update it (Obj.mapFields fun x => x.setIfInBounds 1 (rawInt 1))).objs.size)) _
  have x2 : h'.get? (s.heap.update it (Obj.mapFields fun x => x.setIfInBounds 1 (rawInt 1))).objs.size = some { cls := .type "tuple", data := .seq (idx.map fun i => its.getD i .none).toArray } := x2
  rw [hsz] at x1 x2 ⊢
  exact hQ h' x1 x2 fun b o hb q => x3 b o hb (by show (s.heap.update it _).get? b = some o; rw [Heap.get?_update_ne _ _ _ _ hb]; exact q)
theorem next_more {it pool : Addr} {last : Value} {idx jdx : List Nat} {its : List Value} {n : Nat} {Q : Option Value → Shared → Prop} (hit : IsComb s.heap it pool 1 last idx) (hp : s.heap.get? pool = some { cls := .type "tuple", data := .seq its.toArray n }) (hne : pool ≠ it) (hl : jdx.length ≤ sizeLine) (hj : nextC its.length idx = some jdx)
    (hQ : ∀ h', IsComb h' it pool 1 (.ref s.heap.objs.size) jdx → h'.get? s.heap.objs.size = some { cls := .type "tuple", data := .seq (jdx.map fun i => its.getD i .none).toArray } → (∀ b o, b ≠ it → s.heap.get? b = some o → h'.get? b = some o) → Q (some (.ref s.heap.objs.size)) { s with heap := h' }) :
    wpAny (model prog w) A (pyNext (.ref it)) Q E s := by
  have hT : s.TypeIs (.ref it) "itertools.combinations" := ⟨_, hit, rfl⟩
  unfold pyNext
  refine wpAny_bind (wpAny_attempt (wpAny_callSpecial?_slot (name := Str.ofString "__next__") hT slot_c_next (wpAny_call_entry slot_c_next hT entry_c_next ?_ (args_c_next _))))
  show wpAny _ _ (field (.ref it) 0 >>= _) _ _ _
  refine wpAny_bind (wpAny_field hit rfl (f0 _ _ _ _) ?_)
  show wpAny _ _ (Builtin.Itertools.itNumbersFrom (.ref it) 3 >>= _) _ _ _
  unfold Builtin.Itertools.itNumbersFrom
  refine wpAny_bind (wpAny_bind (wpAny_load hit (wpAny_pure ?_)))
  rw [numbers_back idx _ _ _ _ (fun k => Int.toNat_natCast k)]
  show wpAny _ _ (Builtin.Itertools.itIntField (.ref it) 1 >>= _) _ _ _
  unfold Builtin.Itertools.itIntField
  refine wpAny_bind (wpAny_bind (wpAny_field hit rfl (f1 _ _ _ _) (wpAny_pure ?_)))
  show wpAny _ _ (Builtin.Itertools.itPoolItems (.ref pool) >>= _) _ _ _
  unfold Builtin.Itertools.itPoolItems
  refine wpAny_bind (wpAny_bind (wpAny_seqItems hp rfl (wpAny_pure ?_)))
  show wpAny _ _ (match nextC its.toArray.size idx with
    | some next => (Builtin.Itertools.itSetNumbersFrom (.ref it) 3 next >>= fun _ => (do
        let result ← (do let items ← Builtin.Itertools.itPoolItems (.ref pool); newTuple (next.map fun i => items.getD i .none))
        let before ← field (.ref it) 2
        setField (.ref it) 2 result
        letGo [before] [result]
        ret result))
    | none => (do setField (.ref it) 1 (rawInt 2); Builtin.Itertools.itStop)) _ _ _
  rw [show its.toArray.size = its.length from List.size_toArray, hj]
  have ext3 : ∀ (a b c : Value) (xs ys : List Value), ((#[a, b, c] ++ xs.toArray : Array Value).extract 0 3 ++ ys.toArray) = #[a, b, c] ++ ys.toArray := fun a b c xs ys => Array.toList_inj.mp (by simp)
  have hsz : (s.heap.update it (Obj.mapFields fun fs => fs.extract 0 3 ++ (jdx.map fun (n : Nat) => rawInt n).toArray)).objs.size = s.heap.objs.size := Heap.size_update ..
  have hit1 : IsComb (s.heap.update it (Obj.mapFields fun fs => fs.extract 0 3 ++ (jdx.map fun (n : Nat) => rawInt n).toArray)) it pool 1 last jdx := by
    have z := Heap.get?_update_self (Obj.mapFields fun fs => fs.extract 0 3 ++ (jdx.map fun (n : Nat) => rawInt n).toArray) hit rfl
    exact z.trans (congrArg (fun d => some ({ cls := .type "itertools.combinations", dict := none, data := .fields d, slots := #[] } : Obj)) (ext3 _ _ _ _ _))
  have hp1 : (s.heap.update it (Obj.mapFields fun fs => fs.extract 0 3 ++ (jdx.map fun (n : Nat) => rawInt n).toArray)).get? pool = some { cls := .type "tuple", data := .seq its.toArray n } := by rw [Heap.get?_update_ne _ _ _ _ hne]; exact hp
  refine wpAny_bind ?_
  unfold Builtin.Itertools.itSetNumbersFrom
  refine wpAny_updateFields hit rfl ?_ ?_
  · refine hand_out (s := { s with heap := s.heap.update it (Obj.mapFields fun fs => fs.extract 0 3 ++ (jdx.map fun (n : Nat) => rawInt n).toArray) }) hit1 hp1 hl fun h' x1 x2 x3 => wpAny_pure ?_
    have x1 : IsComb h' it pool 1 (.ref (s.heap.update it (Obj.mapFields fun fs => fs.extract 0 3 ++ (jdx.map fun (n : Nat) => rawInt n).toArray)).objs.size) jdx := x1
    show Q (some (.ref (s.heap.update it (Obj.mapFields fun fs => fs.extract 0 3 ++ (jdx.map fun (n : Nat) => rawInt n).toArray)).objs.size)) _
    have x2 : h'.get? (s.heap.update it (Obj.mapFields fun fs => fs.extract 0 3 ++ (jdx.map fun (n : Nat) => rawInt n).toArray)).objs.size = some { cls := .type "tuple", data := .seq (jdx.map fun i => its.getD i .none).toArray } := x2
    rw [hsz] at x1 x2 ⊢
    exact hQ h' x1 x2 fun b o hb q => x3 b o hb (by show (s.heap.update it _).get? b = some o; rw [Heap.get?_update_ne _ _ _ _ hb]; exact q)
  · rw [ext3]
    simp
    omega
theorem stop_at {α : Type} {P : α → Shared → Prop} {E' : Value → Shared → Prop} (hh : A.handled = none) (hE : ∀ h' e, (∀ b o, s.heap.get? b = some o → h'.get? b = some o) → (∃ o, h'.get? e = some o ∧ o.cls = .type "StopIteration") → E' (.ref e) { s with heap := h' }) : wpAny (model prog w) A (Builtin.Itertools.itStop (α := α)) P E' s := by
  unfold Builtin.Itertools.itStop
  refine wpAny_bind ?_; simp only [newExc, newTuple]; refine wpAny_bind (wpAny_newObj_type ?_ (by size_fits))
  refine wpAny_bind (m := firstArgMember _ _) (wpAny_of_eq (a := Value.none) (by first | rfl | (simp only [firstArgMember]; rfl)) ?_); refine wpAny_newObj_type ?_ (by size_fits); simp only [raiseNew]; refine wpAny_bind (wpAny_handled ?_)
  rw [hh]; refine wpAny_bind (wpAny_pure (wpAny_throw ?_))
  exact hE _ _ (fun b o q => Heap.get?_push_of_some _ (Heap.get?_push_of_some _ q)) ⟨_, Heap.get?_push_size _ rfl, rfl⟩
theorem next_stop {it pool : Addr} {st : Int} {last : Value} {idx : List Nat} {its : List Value} {n : Nat} {Q : Option Value → Shared → Prop} (hh : A.handled = none) (hit : IsComb s.heap it pool st last idx) (hp : s.heap.get? pool = some { cls := .type "tuple", data := .seq its.toArray n })
    (hj : st = 2 ∨ (st = 1 ∧ nextC its.length idx = none)) (hQ : ∀ h', (∀ b o, b ≠ it → s.heap.get? b = some o → h'.get? b = some o) → Q none { s with heap := h' }) : wpAny (model prog w) A (pyNext (.ref it)) Q E s := by
  have hT : s.TypeIs (.ref it) "itertools.combinations" := ⟨_, hit, rfl⟩
  have fin : ∀ (h0 : Heap), (∀ b o, b ≠ it → s.heap.get? b = some o → h0.get? b = some o) → ∀ (P : PySem.Fin → Shared → Prop), wpAny (model prog w) A.in1 (Builtin.Itertools.itStop (α := PySem.Fin)) P (fun e s' => wpAny (model prog w) A (do let b ← isInstance e (.type "StopIteration"); if b = true then pure none else throw e) Q E s') { s with heap := h0 } := by
    intro h0 k P
    refine stop_at (s := { s with heap := h0 }) (show A.in1.handled = none from hh) fun h' e k2 x => ?_
    obtain ⟨o, ho, hc⟩ := x
    exact wpAny_bind (wpAny_isInstance (T := "StopIteration") (b := true) ⟨o, ho, hc⟩ isSubtype_stop (wpAny_pure (hQ h' fun b o hb q => k2 b o (k b o hb q))))
  unfold pyNext
  refine wpAny_bind (wpAny_attempt (wpAny_callSpecial?_slot (name := Str.ofString "__next__") hT slot_c_next (wpAny_call_entry slot_c_next hT entry_c_next ?_ (args_c_next _))))
  show wpAny _ _ (field (.ref it) 0 >>= _) _ _ _
  refine wpAny_bind (wpAny_field hit rfl (f0 _ _ _ _) ?_)
  show wpAny _ _ (Builtin.Itertools.itNumbersFrom (.ref it) 3 >>= _) _ _ _
  unfold Builtin.Itertools.itNumbersFrom
  refine wpAny_bind (wpAny_bind (wpAny_load hit (wpAny_pure ?_)))
  rw [numbers_back idx _ _ _ _ (fun k => Int.toNat_natCast k)]
  show wpAny _ _ (Builtin.Itertools.itIntField (.ref it) 1 >>= _) _ _ _
  unfold Builtin.Itertools.itIntField
  refine wpAny_bind (wpAny_bind (wpAny_field hit rfl (f1 _ _ _ _) (wpAny_pure ?_)))
  rcases hj with e | ⟨e, hj⟩
  · subst e
    show wpAny _ _ (rule _ >>= fun _ => Builtin.Itertools.itStop) _ _ _
    refine wpAny_bind (wpAny_rule ?_)
    exact fin s.heap (fun _ _ _ q => q) _
  · subst e
    show wpAny _ _ (Builtin.Itertools.itPoolItems (.ref pool) >>= _) _ _ _
    unfold Builtin.Itertools.itPoolItems
    refine wpAny_bind (wpAny_bind (wpAny_seqItems hp rfl (wpAny_pure ?_)))
    show wpAny _ _ (match nextC its.toArray.size idx with
      | some next => (Builtin.Itertools.itSetNumbersFrom (.ref it) 3 next >>= fun _ => (do
          let result ← (do let items ← Builtin.Itertools.itPoolItems (.ref pool); newTuple (next.map fun i => items.getD i .none))
          let before ← field (.ref it) 2
          setField (.ref it) 2 result
          letGo [before] [result]
          ret result))
      | none => (do setField (.ref it) 1 (rawInt 2); Builtin.Itertools.itStop)) _ _ _
    rw [show its.toArray.size = its.length from List.size_toArray, hj]
    refine wpAny_bind (wpAny_setField hit rfl (by simp) ?_)
    exact fin _ (fun b o hb q => by rw [Heap.get?_update_ne _ _ _ _ hb]; exact q) _
end
end MpC

set_option Elab.async false
set_option linter.all false
set_option maxRecDepth 100000
set_option maxHeartbeats 4000000
/-! Mp: itertools.combinations, made and walked. -/
namespace MpC
open PySem PySem.Spec PyProof.Rows
open Sem (wp)
theorem meets_c (l : Addr) (items : List Value) (n : Nat) (dct : Option Addr) (sl : Array (Option Value)) (r : Nat) (t : Tok) (hr : r ≤ 1048576) (hz : items.length ≤ sizeLine) : Meets (Builtin.«itertools.combinations.__new__» ⟨[.type "itertools.combinations", .ref l, .int r t], []⟩) (fun _ R s => s.heap.get? l = some { cls := .type "list", dict := dct, data := .seq items.toArray n, slots := sl } ∧
    R (.ok (.ret (.ref (s.heap.objs.size + 2)))) { s with heap := ((((s.heap.push (seqObj "list" #[] 0)).update s.heap.objs.size (Obj.mapSeq (· ++ items.toArray))).push { cls := .type "tuple", data := .seq items.toArray }).push { cls := .type "itertools.combinations", data := .fields (#[.ref (s.heap.objs.size + 1), rawInt (if r > items.length then 2 else 0), .none] ++ ((List.range r).map fun (n : Nat) => rawInt n).toArray) }) }) :=
  .of_wp fun prog w A R s h => by
    obtain ⟨hp, g, d, tk, os⟩ := s
    obtain ⟨hl, h⟩ := h
    have hsub := sub_c
    have hsub2 : isSubtype (.type "itertools.combinations") (.type ("itertools." ++ "combinations")) = pure true := by
      rw [show ("itertools." ++ "combinations" : String) = "itertools.combinations" from by decide +kernel]
      exact sub_c
    have hd := noDict_c
    have hn : ¬ (((decide ((r : Int) < -(2 ^ 63 : Int)) || decide ((r : Int) ≥ (2 ^ 63 : Int)))) = true) := by
      have a : decide ((r : Int) < -(2 ^ 63 : Int)) = false := decide_eq_false (by omega)
      have b : decide ((r : Int) ≥ (2 ^ 63 : Int)) = false := decide_eq_false (by omega)
      rw [a, b]
      decide
    unfold Builtin.«itertools.combinations.__new__»
    have hL : Heap.IsList (Shared.heap ⟨hp, g, d, tk, os⟩) l items.toArray := ⟨_, hl, rfl, n, rfl⟩
    have n0 : ¬ ((r : Int) < 0) := by omega
    have n1 : ¬ (Builtin.Itertools.itTooMany (r : Int) = true) := by unfold Builtin.Itertools.itTooMany; rw [decide_eq_true_eq]; omega
    repeat (first
      | (with_reducible show wpAny _ _ (collect _) _ _ _; refine collect_list hL ?_ hz)
      | (refine wpAny_ite_false (decide_eq_false n0) ?_)
      | wp_step
      | simp only [List.head?_cons, Option.some_or, List.getElem?_cons_succ, List.getElem?_cons_zero, List.length_cons, List.length_nil, List.forIn_nil]
      | (refine wpAny_ite_false (decide_eq_false hn) ?_))
    have z1 : ((hp.push (seqObj "list" #[] 0)).update hp.objs.size (Obj.mapSeq fun x => x ++ items.toArray)).objs.size = hp.objs.size + 1 := by rw [Heap.size_update, size_push']
    rw [if_neg (by rw [List.size_toArray, List.length_append, List.length_map, List.length_range, Int.toNat_natCast, sizeLine_eq]; show ¬ 3 + r > _; omega)]
    simp only [newObjAsIs]
    refine wpAny_bind (wpAny_alloc (wpAny_pure (wpAny_pure ⟨_, rfl, ?_⟩)))
    have h : R (.ok (.ret (.ref (hp.objs.size + 2)))) ⟨((((hp.push (seqObj "list" #[] 0)).update hp.objs.size (Obj.mapSeq (· ++ items.toArray))).push { cls := .type "tuple", data := .seq items.toArray }).push { cls := .type "itertools.combinations", data := .fields (#[.ref (hp.objs.size + 1), rawInt (if r > items.length then 2 else 0), .none] ++ ((List.range r).map fun (n : Nat) => rawInt n).toArray) }), g, d, tk, os⟩ := h
    have z2 : (((hp.push (seqObj "list" #[] 0)).update hp.objs.size (Obj.mapSeq fun x => x ++ items.toArray)).push { cls := .type "tuple", data := .seq items.toArray }).objs.size = hp.objs.size + 2 := by rw [size_push', z1]
    have e3 : ∀ (a b c : Value) (L : List Value), ([a, b, c] ++ L).toArray = #[a, b, c] ++ L.toArray := fun a b c L => Array.toList_inj.mp (by simp)
    show R (.ok (.ret (.ref (((hp.push (seqObj "list" #[] 0)).update hp.objs.size (Obj.mapSeq fun x => x ++ items.toArray)).push { cls := .type "tuple", data := .seq items.toArray }).objs.size))) ⟨((((hp.push (seqObj "list" #[] 0)).update hp.objs.size (Obj.mapSeq fun x => x ++ items.toArray)).push { cls := .type "tuple", data := .seq items.toArray }).push { cls := .type "itertools.combinations", data := .fields ([Value.ref ((hp.push (seqObj "list" #[] 0)).update hp.objs.size (Obj.mapSeq fun x => x ++ items.toArray)).objs.size, rawInt (if (r : Int).toNat > items.length then 2 else 0), Value.none] ++ List.map (fun i => rawInt (i : Nat)) (List.range (r : Int).toNat)).toArray }), g, d, tk, os⟩
    rw [z1, z2, e3, Int.toNat_natCast]
    exact h
theorem meets_cT (l : Addr) (items : List Value) (n : Nat) (dct : Option Addr) (sl : Array (Option Value)) (r : Nat) (t : Tok) (hr : r ≤ 1048576) (hz : items.length ≤ sizeLine) : Meets (Builtin.«itertools.combinations.__new__» ⟨[.type "itertools.combinations", .ref l, .int r t], []⟩) (fun _ R s => s.heap.get? l = some { cls := .type "tuple", dict := dct, data := .seq items.toArray n, slots := sl } ∧
    R (.ok (.ret (.ref (s.heap.objs.size + 2)))) { s with heap := ((((s.heap.push (seqObj "list" #[] 0)).update s.heap.objs.size (Obj.mapSeq (· ++ items.toArray))).push { cls := .type "tuple", data := .seq items.toArray }).push { cls := .type "itertools.combinations", data := .fields (#[.ref (s.heap.objs.size + 1), rawInt (if r > items.length then 2 else 0), .none] ++ ((List.range r).map fun (n : Nat) => rawInt n).toArray) }) }) :=
  .of_wp fun prog w A R s h => by
    obtain ⟨hp, g, d, tk, os⟩ := s
    obtain ⟨hl, h⟩ := h
    have hsub := sub_c
    have hsub2 : isSubtype (.type "itertools.combinations") (.type ("itertools." ++ "combinations")) = pure true := by
      rw [show ("itertools." ++ "combinations" : String) = "itertools.combinations" from by decide +kernel]
      exact sub_c
    have hd := noDict_c
    have hn : ¬ (((decide ((r : Int) < -(2 ^ 63 : Int)) || decide ((r : Int) ≥ (2 ^ 63 : Int)))) = true) := by
      have a : decide ((r : Int) < -(2 ^ 63 : Int)) = false := decide_eq_false (by omega)
      have b : decide ((r : Int) ≥ (2 ^ 63 : Int)) = false := decide_eq_false (by omega)
      rw [a, b]
      decide
    unfold Builtin.«itertools.combinations.__new__»
    have hL := hl
    have n0 : ¬ ((r : Int) < 0) := by omega
    have n1 : ¬ (Builtin.Itertools.itTooMany (r : Int) = true) := by unfold Builtin.Itertools.itTooMany; rw [decide_eq_true_eq]; omega
    repeat (first
      | (with_reducible show wpAny _ _ (collect _) _ _ _; refine Mp.gather_tup hL rfl rfl hz ?_)
      | (refine wpAny_ite_false (decide_eq_false n0) ?_)
      | wp_step
      | simp only [List.head?_cons, Option.some_or, List.getElem?_cons_succ, List.getElem?_cons_zero, List.length_cons, List.length_nil, List.forIn_nil]
      | (refine wpAny_ite_false (decide_eq_false hn) ?_))
    have z1 : ((hp.push (seqObj "list" #[] 0)).update hp.objs.size (Obj.mapSeq fun x => x ++ items.toArray)).objs.size = hp.objs.size + 1 := by rw [Heap.size_update, size_push']
    rw [if_neg (by rw [List.size_toArray, List.length_append, List.length_map, List.length_range, Int.toNat_natCast, sizeLine_eq]; show ¬ 3 + r > _; omega)]
    simp only [newObjAsIs]
    refine wpAny_bind (wpAny_alloc (wpAny_pure (wpAny_pure ⟨_, rfl, ?_⟩)))
    have h : R (.ok (.ret (.ref (hp.objs.size + 2)))) ⟨((((hp.push (seqObj "list" #[] 0)).update hp.objs.size (Obj.mapSeq (· ++ items.toArray))).push { cls := .type "tuple", data := .seq items.toArray }).push { cls := .type "itertools.combinations", data := .fields (#[.ref (hp.objs.size + 1), rawInt (if r > items.length then 2 else 0), .none] ++ ((List.range r).map fun (n : Nat) => rawInt n).toArray) }), g, d, tk, os⟩ := h
    have z2 : (((hp.push (seqObj "list" #[] 0)).update hp.objs.size (Obj.mapSeq fun x => x ++ items.toArray)).push { cls := .type "tuple", data := .seq items.toArray }).objs.size = hp.objs.size + 2 := by rw [size_push', z1]
    have e3 : ∀ (a b c : Value) (L : List Value), ([a, b, c] ++ L).toArray = #[a, b, c] ++ L.toArray := fun a b c L => Array.toList_inj.mp (by simp)
    show R (.ok (.ret (.ref (((hp.push (seqObj "list" #[] 0)).update hp.objs.size (Obj.mapSeq fun x => x ++ items.toArray)).push { cls := .type "tuple", data := .seq items.toArray }).objs.size))) ⟨((((hp.push (seqObj "list" #[] 0)).update hp.objs.size (Obj.mapSeq fun x => x ++ items.toArray)).push { cls := .type "tuple", data := .seq items.toArray }).push { cls := .type "itertools.combinations", data := .fields ([Value.ref ((hp.push (seqObj "list" #[] 0)).update hp.objs.size (Obj.mapSeq fun x => x ++ items.toArray)).objs.size, rawInt (if (r : Int).toNat > items.length then 2 else 0), Value.none] ++ List.map (fun i => rawInt (i : Nat)) (List.range (r : Int).toNat)).toArray }), g, d, tk, os⟩
    rw [z1, z2, e3, Int.toNat_natCast]
    exact h
section
variable {prog : Program} {w : World} {A : Around} {E : Value → Shared → Prop} {s : Shared}
theorem made {l : Addr} {items : List Value} {r : Nat} {t : Tok} {Q : Value → Shared → Prop} (hl : s.heap.IsList l items.toArray ∨ s.heap.IsTuple l items.toArray) (hr : r ≤ 1048576) (hz : items.length ≤ sizeLine)
    (h : ∀ h', IsComb h' (s.heap.objs.size + 2) (s.heap.objs.size + 1) (if r > items.length then 2 else 0) .none (List.range r) → h'.get? (s.heap.objs.size + 1) = some { cls := .type "tuple", data := .seq items.toArray } → (∀ b o, s.heap.get? b = some o → h'.get? b = some o) → Q (.ref (s.heap.objs.size + 2)) { s with heap := h' }) :
    wpAny (model prog w) A (call (.type "itertools.combinations") [.ref l, .int r t]) Q E s := by
  have z1 : ((s.heap.push (seqObj "list" #[] 0)).update s.heap.objs.size (Obj.mapSeq (· ++ items.toArray))).objs.size = s.heap.objs.size + 1 := by rw [Heap.size_update, size_push']
  have z2 : (((s.heap.push (seqObj "list" #[] 0)).update s.heap.objs.size (Obj.mapSeq (· ++ items.toArray))).push { cls := .type "tuple", data := .seq items.toArray }).objs.size = s.heap.objs.size + 2 := by rw [size_push', z1]
  have old : ∀ b o, s.heap.get? b = some o → ((s.heap.push (seqObj "list" #[] 0)).update s.heap.objs.size (Obj.mapSeq (· ++ items.toArray))).get? b = some o := fun b o q => by
    rw [Heap.get?_update_ne _ _ _ _ (Nat.ne_of_lt (Heap.lt_size q))]
    exact Heap.get?_push_of_some _ q
  have g1 := Heap.get?_push_size ((s.heap.push (seqObj "list" #[] 0)).update s.heap.objs.size (Obj.mapSeq (· ++ items.toArray))) (o := { cls := .type "tuple", data := .seq items.toArray }) rfl
  rw [z1] at g1
  have g2 := Heap.get?_push_size (((s.heap.push (seqObj "list" #[] 0)).update s.heap.objs.size (Obj.mapSeq (· ++ items.toArray))).push { cls := .type "tuple", data := .seq items.toArray }) (o := { cls := .type "itertools.combinations", data := .fields (#[.ref (s.heap.objs.size + 1), rawInt (if r > items.length then 2 else 0), .none] ++ ((List.range r).map fun (n : Nat) => rawInt n).toArray) }) rfl
  rw [z2] at g2
  have fin := h _ g2 (Heap.get?_push_of_some _ g1) fun b o q => Heap.get?_push_of_some _ (Heap.get?_push_of_some _ (old b o q))
  rcases hl with hl | hl
  · obtain ⟨⟨c, dct, dt, sl⟩, ho, hc, n, hd⟩ := hl
    replace hc : c = .type "list" := hc
    replace hd : dt = .seq items.toArray n := hd
    subst hc hd
    exact callType_new called_c (by decide +kernel) (typeCall_c _ _) (newCall_c _ _) (fun obj => F.args_object_init_3 obj _ _) entry_c_new (meets_c l items n dct sl r t hr hz) ⟨ho, ⟨_, g2, rfl⟩, fin⟩
  · obtain ⟨⟨c, dct, dt, sl⟩, ho, hc, n, hd⟩ := hl
    replace hc : c = .type "tuple" := hc
    replace hd : dt = .seq items.toArray n := hd
    subst hc hd
    exact callType_new called_c (by decide +kernel) (typeCall_c _ _) (newCall_c _ _) (fun obj => F.args_object_init_3 obj _ _) entry_c_new (meets_cT l items n dct sl r t hr hz) ⟨ho, ⟨_, g2, rfl⟩, fin⟩
end
end MpC

set_option Elab.async false
set_option linter.all false
set_option maxRecDepth 100000
set_option maxHeartbeats 4000000
/-! Mp: itertools.combinations walked. -/
namespace Mp
open PySem PySem.Spec PyProof.Rows L2
def combIdx (n : Nat) : Nat → List Nat → Option (List (List Nat))
  | 0, _ => none
  | f + 1, idx => match MpC.nextC n idx with
    | none => some [idx]
    | some j => (combIdx n f j).map (idx :: ·)
def combAll (n r : Nat) : Option (List (List Nat)) := if r > n then some [] else combIdx n 1000000 (List.range r)
def combsW : List W → Option (List W)
  | [x, .int r] => if 0 ≤ r ∧ r ≤ 1048576 then (match x with
    | .lst xs => (combAll xs.length r.toNat).map fun l => l.map fun idx => W.tup (idx.map fun i => xs.getD i .non)
    | .tup xs => (combAll xs.length r.toNat).map fun l => l.map fun idx => W.tup (idx.map fun i => xs.getD i .non)
    | _ => none) else none
  | _ => none
/-- the rows of places, one behind another -/
structure Chain (n r : Nat) (L : List (List Nat)) : Prop where
  first : L ≠ [] → L[0]? = some (List.range r) ∧ r ≤ n
  none : L = [] → r > n
  next : ∀ k a, L[k]? = some a → MpC.nextC n a = L[k + 1]? ∧ a.length = r
theorem nextC_len {n : Nat} {a b : List Nat} (h : MpC.nextC n a = some b) : b.length = a.length := by
  unfold MpC.nextC at h
  split at h
  · cases h
  · rename_i i hi
    cases h
    have hm := List.mem_of_find?_eq_some hi
    rw [List.mem_reverse, List.mem_range] at hm
    rw [List.length_append, List.length_take, List.length_map, List.length_range]
    omega
theorem combIdx_chain {n : Nat} : ∀ (f : Nat) (idx : List Nat) (L : List (List Nat)), combIdx n f idx = some L → L[0]? = some idx ∧ ∀ k a, L[k]? = some a → MpC.nextC n a = L[k + 1]? ∧ a.length = idx.length
  | 0, idx, L, h => by cases h
  | f + 1, idx, L, h => by
    unfold combIdx at h
    split at h
    · rename_i e
      cases h
      refine ⟨rfl, fun k a hk => ?_⟩
      cases k with
      | zero =>
        have : idx = a := by simpa using hk
        subst this
        exact ⟨e, rfl⟩
      | succ k => simp at hk
    · rename_i j e
      cases eq : combIdx n f j with
      | none => rw [eq] at h; cases h
      | some M =>
        rw [eq] at h
        cases h
        obtain ⟨h0, h1⟩ := combIdx_chain f j M eq
        refine ⟨rfl, fun k a hk => ?_⟩
        cases k with
        | zero =>
          have : idx = a := by simpa using hk
          subst this
          exact ⟨by rw [e]; exact h0.symm, rfl⟩
        | succ k =>
          obtain ⟨x1, x2⟩ := h1 k a (by simpa using hk)
          exact ⟨x1, by rw [x2, nextC_len e]⟩
theorem chain_of {n r : Nat} {L : List (List Nat)} (h : combAll n r = some L) : Chain n r L := by
  unfold combAll at h
  split at h
  · rename_i hr
    cases h
    exact ⟨fun z => absurd rfl z, fun _ => hr, fun k a hk => by simp at hk⟩
  · rename_i hr
    obtain ⟨h0, h1⟩ := combIdx_chain _ _ _ h
    refine ⟨fun _ => ⟨h0, by omega⟩, fun z => by rw [z] at h0; simp at h0, fun k a hk => ?_⟩
    obtain ⟨x1, x2⟩ := h1 k a hk
    exact ⟨x1, by rw [x2, List.length_range]⟩
def ItC (vs : List V) (L : List (List Nat)) : It :=
  ⟨fun i _ => i < L.length, fun i H v H' => ∃ T idx, v = .ref T ∧ H T = none ∧ L[i]? = some idx ∧ H' = upd H T (.tup (idx.map fun j => vs.getD j .non)), fun i _ => i = L.length⟩
theorem vals_pick {vs : List V} {us : List Value} (r : Vals vs us) (idx : List Nat) : Vals (idx.map fun j => vs.getD j .non) (idx.map fun j => us.getD j .none) := by
  induction idx with
  | nil => exact .nil
  | cons j idx ih =>
    refine .cons ?_ ih
    show L2.RelV (vs.getD j .non) (us.getD j .none)
    rw [List.getD_eq_getElem?_getD, List.getD_eq_getElem?_getD]
    cases e : vs[j]? with
    | none =>
      have : us[j]? = none := by
        rw [List.getElem?_eq_none_iff] at e ⊢
        rw [← r.length]
        exact e
      rw [this]
      rfl
    | some v =>
      obtain ⟨u, hu, ru⟩ := r.get e
      rw [hu]
      exact ru
theorem turn_c {P : Program} {w : World} {K : PySem.W.Frag} {tg : Expr} {vs : List V} {its : List Value} {r : Nat} {L : List (List Nat)} (it pool : Addr) (hne : pool ≠ it) (hv : Vals vs its) (hr : r ≤ 1048576) (C : Chain its.length r L) :
    Turn P w K tg (ItC vs L) [it, pool] it (fun i h => h.get? pool = some { cls := .type "tuple", data := .seq its.toArray } ∧ ∃ st last idx, MpC.IsComb h it pool st last idx ∧ ((L = [] ∧ st = 2) ∨ (i = 0 ∧ st = 0 ∧ L[0]? = some idx) ∨ ∃ k, i = k + 1 ∧ st = 1 ∧ L[k]? = some idx)) where
  mem := by simp
  obj := fun i h st b hb => by
    obtain ⟨hp, st', last, idx, hit, _⟩ := st
    have e' : b = it ∨ b = pool := by simpa using hb
    rcases e' with z | z
    · rw [z]
      exact ⟨_, hit, fun v q => nomatch q⟩
    · rw [z]
      exact ⟨_, hp, fun v q => nomatch q⟩
  keep := fun i h h' st k => by
    obtain ⟨hp, st', last, idx, hit, x⟩ := st
    exact ⟨k pool (by simp) _ hp, st', last, idx, k it (by simp) _ hit, x⟩
  item := by
    intro X hP hw hK hc i pins s σ H E I hf st hg
    subst hP hw hK
    obtain ⟨hp, st', last, idx, hit, x⟩ := st
    have hg : i < L.length := hg
    have hLne : L ≠ [] := fun z => by rw [z] at hg; simp at hg
    have hlt : it < s.heap.objs.size := Heap.lt_size hit
    have hlp : pool < s.heap.objs.size := Heap.lt_size hp
    have sl : ∀ a : List Nat, a.length = r → a.length ≤ sizeLine := fun a e => by rw [e, sizeLine_eq]; omega
    have fin : ∀ (jdx : List Nat) (h' : Heap), L[i]? = some jdx → MpC.IsComb h' it pool 1 (.ref s.heap.objs.size) jdx → h'.get? s.heap.objs.size = some { cls := .type "tuple", data := .seq (jdx.map fun i => its.getD i .none).toArray } → (∀ b o, b ≠ it → s.heap.get? b = some o → h'.get? b = some o) →
        ∃ u, some (Value.ref s.heap.objs.size) = some u ∧ wpAny (model X.prog X.w) X.A (letOwnedTupleGo tg (.ref it) u) (fun _ s2 => ∃ x H', Inv X pins σ H' s2 ∧ RelV x u ∧ (ItC vs L).yld i H x H' ∧ (s2.heap.get? pool = some { cls := .type "tuple", data := .seq its.toArray } ∧ ∃ st last idx, MpC.IsComb s2.heap it pool st last idx ∧ ((L = [] ∧ st = 2) ∨ (i + 1 = 0 ∧ st = 0 ∧ L[0]? = some idx) ∨ ∃ k, i + 1 = k + 1 ∧ st = 1 ∧ L[k]? = some idx)) ∧ ∀ b ∈ [it, pool], H' b = none) E { s with heap := h' } := by
      intro jdx h' hj x1 x2 x3
      have hl := sl jdx (C.next i jdx hj).2
      refine ⟨_, rfl, go_of (s := { s with heap := h' }) x1 rfl rfl (by decide) ?_⟩
      have new : ObjOk X.prog X.w (upd H s.heap.objs.size (.tup (jdx.map fun j => vs.getD j .non))) h' s.heap.objs.size (.tup (jdx.map fun j => vs.getD j .non)) :=
        ⟨by rw [List.length_map]; exact hl, _, vals_pick hv jdx, ⟨_, x2, rfl, _, rfl⟩⟩
      have I1 : Inv X pins σ (upd H s.heap.objs.size (.tup (jdx.map fun j => vs.getD j .non))) { s with heap := h' } := I.turnedNew (t' := s.toks) (ch := [it, pool]) (fun b o hb q => x3 b o (fun z => hb (by simp [z])) q) hf (Nat.le_refl _) new
      refine ⟨.ref s.heap.objs.size, _, I1, rfl, ⟨_, jdx, rfl, I.hok.fresh (Nat.le_refl _), hj, rfl⟩, ⟨x3 pool _ hne hp, 1, _, jdx, x1, .inr (.inr ⟨i, rfl, rfl, hj⟩)⟩, fun b hb => ?_⟩
      have hb' : b < s.heap.objs.size := by
        have e' : b = it ∨ b = pool := by simpa using hb
        rcases e' with z | z
        · rw [z]; exact hlt
        · rw [z]; exact hlp
      rw [upd_ne (Nat.ne_of_lt hb')]
      exact (hf b hb).1
    rcases x with ⟨z, _⟩ | ⟨z, e, h0⟩ | ⟨k, z, e, hk⟩
    · exact absurd z hLne
    · subst z e
      exact MpC.next_first hit hp hne (sl idx (C.next 0 idx h0).2) fun h' x1 x2 x3 => fin idx h' h0 x1 x2 x3
    · subst z e
      obtain ⟨jdx, hj⟩ : ∃ jdx, L[k + 1]? = some jdx := ⟨_, List.getElem?_eq_getElem hg⟩
      exact MpC.next_more hit hp hne (sl jdx (C.next (k + 1) jdx hj).2) ((C.next k idx hk).1.trans hj) fun h' x1 x2 x3 => fin jdx h' hj x1 x2 x3
  done := by
    intro X hP hw hK hc i pins s σ H E I hf st hg
    subst hP hw hK
    obtain ⟨hp, st', last, idx, hit, x⟩ := st
    have hg : i = L.length := hg
    obtain ⟨f0, f1, f2, f3, f4, f5⟩ := hf it (by simp)
    refine MpC.next_stop (its := its) (I.ok.hd hc) hit hp ?_ fun h' eb => ⟨rfl, I.turned (t' := s.toks) (fun b o hb q => eb b o hb q) f0 f1 f3 f4 f5⟩
    rcases x with ⟨_, e⟩ | ⟨z, _, h0⟩ | ⟨k, z, e, hk⟩
    · exact .inl e
    · have := (List.getElem?_eq_some_iff.mp h0).1
      omega
    · refine .inr ⟨e, ?_⟩
      rw [(C.next k idx hk).1, List.getElem?_eq_none (by omega)]
  self := fun A i s Q E st h => by
    obtain ⟨hp, st', last, idx, hit, x⟩ := st
    exact MpC.iter_c hit h
def iComb (K : PySem.W.Frag) (ta : TA) : TI := fun σ H R => ta σ H fun ws H1 => ∃ a vs r L, ws = [.ref a, .int (r : Nat)] ∧ (SqL K H1 a vs ∨ SqT K H1 a vs) ∧ r ≤ 1048576 ∧ combAll vs.length r = some L ∧ R (ItC vs L) H1
theorem pi_comb {X : Cx} {tg a b : Expr} {ta : TA} {p pos : Pos} {x : Str} (hg : Gl X x) (hm : X.mg x = some (.type "itertools.combinations")) (ha : PA X [a, b] ta) (hdb : (x == ("__debug__" : Str)) = false := by decide)
    (hs : starEach [a, b] X.env = (false, eval a X.env) :: starEach [b] X.env := by rfl) (hpl : (backTo pos (starEach [b] X.env)).any (·.1) = false := by rfl) : PI X tg (.Call (.Name x p) [a, b] [] pos) (iComb X.K ta) := by
  refine ⟨fun pins s σ H R I h => ?_⟩
  refine Call_ (ld_glob I hg hm (PyProof.Rows.callWith_type1 (thn (ha.run pos pins s σ H _ I h) fun us s1 ⟨ws, H1, I1, r1, q1⟩ => ?_) hs hpl) hdb)
  obtain ⟨l, vs, r, L, ex, hq, hr, hL, q⟩ := q1
  subst ex
  obtain ⟨u1, u2, rfl, h1, ⟨t, rfl⟩⟩ := vals2 r1
  cases h1
  have key : ∃ its, Vals vs its ∧ (s1.heap.IsList l its.toArray ∨ s1.heap.IsTuple l its.toArray) ∧ vs.length ≤ sizeLine := by
    rcases hq with hq | hq
    · obtain ⟨its, rv, pl, hz⟩ := I1.list hq
      exact ⟨its, rv, .inl pl.isList, hz⟩
    · obtain ⟨its, rv, pl, hz⟩ := I1.tuple hq
      exact ⟨its, rv, .inr pl, hz⟩
  obtain ⟨its, rv, hob, hz⟩ := key
  have hl := rv.length
  rw [hl] at hL hz
  have C := chain_of hL
  refine MpC.made hob hr hz fun h' hit hpool hk => MpC.iter_c hit ?_
  have I2 : Inv X pins σ H1 { s1 with heap := h' } := I1.kept (t' := s1.toks) hk
  refine ⟨s1.heap.objs.size + 2, [s1.heap.objs.size + 2, s1.heap.objs.size + 1], _, _, H1, rfl, I2, turn_c (s1.heap.objs.size + 2) (s1.heap.objs.size + 1) (Nat.ne_of_lt (Nat.lt_succ_self _)) rv hr C, ⟨hpool, _, _, _, hit, ?_⟩, fun b hb => ?_, q⟩
  · by_cases z : L = []
    · exact .inl ⟨z, if_pos (C.none z)⟩
    · obtain ⟨h0, h1⟩ := C.first z
      exact .inr (.inl ⟨rfl, if_neg (by omega), h0⟩)
  · have e' : b = s1.heap.objs.size + 2 ∨ b = s1.heap.objs.size + 1 := by simpa using hb
    have hle : s1.heap.objs.size ≤ b := by
      rcases e' with z | z
      · rw [z]
        exact Nat.le_add_right _ _
      · rw [z]
        exact Nat.le_add_right _ _
    exact I1.fpOk hle (I1.hok.fresh hle)
theorem reps_pick {K : PySem.W.Frag} {G : Gs} {γ : Ga} {H : Hp} {xs : List W} {vs : List V} (r : Reps K G γ H xs vs) (idx : List Nat) : Reps K G γ H (idx.map fun j => xs.getD j .non) (idx.map fun j => vs.getD j .non) := by
  induction idx with
  | nil => exact .nil
  | cons j idx ih =>
    refine .cons ?_ ih
    show Rep K G γ H (xs.getD j .non) (vs.getD j .non)
    rw [List.getD_eq_getElem?_getD, List.getD_eq_getElem?_getD]
    cases e : xs[j]? with
    | none =>
      have : vs[j]? = none := by
        rw [List.getElem?_eq_none_iff] at e ⊢
        rw [← r.length]
        exact e
      rw [this]
      exact .non
    | some w =>
      obtain ⟨v, hv, rv⟩ := r.get e
      rw [hv]
      exact rv
theorem itOk_comb {K : PySem.W.Frag} {G : Gs} {γ : Ga} {H : Hp} {xs : List W} {vs : List V} {L : List (List Nat)} (q : Reps K G γ H xs vs) : ItOk K G (ItC vs L) (L.map fun idx => W.tup (idx.map fun i => xs.getD i .non)) γ H := by
  refine ⟨fun i γ' H' S hi e _ => ?_, fun γ' H' S e _ => ?_, fun i w γ' H' S x H'' hw e s y => ?_⟩
  · rw [List.length_map] at hi
    exact hi
  · show (L.map _).length = L.length
    rw [List.length_map]
  · obtain ⟨T, idx, rfl, hT, hL, rfl⟩ := y
    rw [List.getElem?_map, hL] at hw
    cases hw
    have ex := Ext.upd (K := K) (G := G) s (o := .tup (idx.map fun j => vs.getD j .non)) hT
    exact ⟨ex, s.upd hT, .tup (.inl ⟨.inl upd_same, s.fresh hT⟩) (((reps_pick q idx).monoW e).mono ex)⟩
section
variable {X : Cx} {G : Gs} {tg a b : Expr} {pos p : Pos} {ga : MA} {x : Str}
theorem si_comb (hm : X.mg x = some (.type "itertools.combinations")) (ha : SA X G [a, b] ga) (hg : Gl X x := by rfl) (hdb : (x == ("__debug__" : Str)) = false := by decide) (hs : starEach [a, b] X.env = (false, eval a X.env) :: starEach [b] X.env := by rfl) (hpl : (backTo pos (starEach [b] X.env)).any (·.1) = false := by rfl) :
    SI X G tg (.Call (.Name x p) [a, b] [] pos) (miAll combsW ga) := by
  refine ⟨fun Wi tk => (pi_comb hg hm (ha.run Wi tk) hdb hs hpl).imp ?_⟩
  rintro σ H R ⟨η, S, γ, he, hs, q⟩
  refine ⟨η, S, γ, he, hs, (PostI.seq q).imp fun v H1 ⟨wx, S1, γ1, e1, r1, s1, q1⟩ => ?_⟩
  unfold combsW at q1
  split at q1
  · rename_i y r
    split at q1
    · rename_i hr
      cases r1 with
      | cons ra r1 =>
      cases r1 with
      | cons rb r1 =>
      cases r1
      cases rb
      have er : ((r.toNat : Nat) : Int) = r := by omega
      split at q1
      · rename_i xs
        cases eL : combAll xs.length r.toNat with
        | none => rw [eL] at q1; exact q1.elim
        | some L =>
          rw [eL] at q1
          cases ra with
          | lst h1 o1 z1 => exact ⟨_, _, r.toNat, L, by rw [er], .inl (SqL.of h1), by omega, by rw [← z1.length]; exact eL, q1 _ γ1 H1 Ext.refl s1 (itOk_comb z1)⟩
      · rename_i xs
        cases eL : combAll xs.length r.toNat with
        | none => rw [eL] at q1; exact q1.elim
        | some L =>
          rw [eL] at q1
          cases ra with
          | tup h1 z1 => exact ⟨_, _, r.toNat, L, by rw [er], .inr h1.sq, by omega, by rw [← z1.length]; exact eL, q1 _ γ1 H1 Ext.refl s1 (itOk_comb z1)⟩
      · exact q1.elim
    · exact q1.elim
  · exact q1.elim
end
/-- a name that the module binds to a built-in type -/
def bltTB (K : PySem.W.Frag) (x : Str) (id : String) : Bool := He.eqO (PySem.W.nsIn K mainGlobals x) (some (some (.type id)))
theorem bltTB_ok {K : PySem.W.Frag} {h : Heap} {mg : Str → Option Value} {x : Str} {id : String} (X : K.In h) (G : h.Ns mainGlobals mg) (c : bltTB K x id = true) : mg x = some (.type id) := PySem.W.mg_of X G (He.eqO_ok c)
end Mp

set_option Elab.async false
set_option linter.all false
set_option maxRecDepth 100000
set_option maxHeartbeats 4000000
/-! Mp: is True, is False. -/
namespace Mp
open PySem PySem.Spec PyProof.Rows L2
def opIsB : O2 := fun x y _ => match x, y with
  | .bl a, .bl b => some (.bl (decide (a = b)))
  | .non, .bl _ => some (.bl false)
  | .int _, .bl _ => some (.bl false)
  | .str _, .bl _ => some (.bl false)
  | .tup _, .bl _ => some (.bl false)
  | .lst _, .bl _ => some (.bl false)
  | .ref _, .bl _ => some (.bl false)
  | _, _ => none
def opNotIsB : O2 := fun x y S => match opIsB x y S with
  | some (.bl b) => some (.bl (!b))
  | _ => none
section
variable {X : Cx} {G : Gs}
theorem isB_val {K : PySem.W.Frag} {γ : Ga} {H : Hp} {S : Store} {wx wy : W} {x y : V} {v u : Value} {b : Bool} (h : opIsB wx wy S = some (.bl b)) (r1 : Rep K G γ H wx x) (r2 : Rep K G γ H wy y) (rx : L2.RelV x v) (ry : L2.RelV y u) : PySem.plainIs v u = true ∧ (v == u) = b := by
  unfold opIsB at h
  split at h
  · rename_i a c
    cases h
    cases r1
    cases r2
    cases (show v = Value.bool a from rx)
    cases (show u = Value.bool c from ry)
    refine ⟨by cases a <;> cases c <;> rfl, ?_⟩
    cases a <;> cases c <;> rfl
  all_goals first
    | (cases h
       cases r2
       cases (show u = Value.bool _ from ry)
       cases r1 <;> first
         | (cases rx; exact ⟨by rfl, by rfl⟩)
         | (obtain ⟨t, rfl⟩ := rx; exact ⟨by rfl, by rfl⟩))
    | cases h
theorem o2_isB : OpR X (compareOp .Is) (rOf X.K G opIsB) := by
  intro pins s σ H x y v u Q I rx ry h
  obtain ⟨wx, wy, S, γ, w, r1, r2, ss, e, k⟩ := h
  have hw : ∃ b, w = .bl b := by
    unfold opIsB at e
    split at e <;> cases e <;> exact ⟨_, rfl⟩
  obtain ⟨b, rfl⟩ := hw
  obtain ⟨hp, he⟩ := isB_val e r1 r2 rx ry
  refine wpAny_is_plain hp ?_
  rw [he]
  exact ⟨.bl b, H, I, rfl, k _ γ H Ext.refl (.bl _) ss⟩
theorem o2_notIsB : OpR X (compareOp .IsNot) (rOf X.K G opNotIsB) := by
  intro pins s σ H x y v u Q I rx ry h
  obtain ⟨wx, wy, S, γ, w, r1, r2, ss, e, k⟩ := h
  unfold opNotIsB at e
  split at e
  · rename_i b eb
    cases e
    obtain ⟨hp, he⟩ := isB_val eb r1 r2 rx ry
    refine wpAny_isNot_plain hp ?_
    rw [he]
    exact ⟨.bl (!b), H, I, rfl, k _ γ H Ext.refl (.bl _) ss⟩
  · cases e
end
/-! bits of naturals -/
def opXor : O2 := fun x y _ => match x, y with
  | .int i, .int j => if 0 ≤ i ∧ 0 ≤ j then some (.int ((i.toNat ^^^ j.toNat : Nat) : Int)) else none
  | _, _ => none
def opAnd : O2 := fun x y _ => match x, y with
  | .int i, .int j => if 0 ≤ i ∧ 0 ≤ j then some (.int ((i.toNat &&& j.toNat : Nat) : Int)) else none
  | _, _ => none
def opShl : O2 := fun x y _ => match x, y with
  | .int i, .int j => if 0 ≤ j ∧ j ≤ 1000000 ∧ i.natAbs < 18446744073709551616 then some (.int (i * 2 ^ j.toNat)) else none
  | _, _ => none
def opShr : O2 := fun x y _ => match x, y with
  | .int i, .int j => if 0 ≤ j ∧ j ≤ 100000 then some (.int (i / 2 ^ j.toNat)) else none
  | _, _ => none
section
variable {X : Cx} {G : Gs}
theorem o2_xor : OpR X (binaryOp .BitXor) (rOf X.K G opXor) := by
  refine op_xor.imp ?_
  rintro x y H Q ⟨wx, wy, S, γ, w, rx, ry, s, h, k⟩
  unfold opXor at h
  split at h
  · cases rx; cases ry
    split at h
    · rename_i hm
      cases h
      exact ⟨_, _, rfl, rfl, by show Q (.int (Builtin.bitXor _ _)) H; rw [Bits.bitXor_pp hm.1 hm.2]; exact k _ γ H Ext.refl (.int _) s⟩
    · cases h
  · cases h
theorem o2_and : OpR X (binaryOp .BitAnd) (rOf X.K G opAnd) := by
  refine op_and.imp ?_
  rintro x y H Q ⟨wx, wy, S, γ, w, rx, ry, s, h, k⟩
  unfold opAnd at h
  split at h
  · cases rx; cases ry
    split at h
    · rename_i hm
      cases h
      exact ⟨_, _, rfl, rfl, by show Q (.int (Builtin.bitAnd _ _)) H; rw [PyProof.Rows.bitAnd_pp hm.1 hm.2]; exact k _ γ H Ext.refl (.int _) s⟩
    · cases h
  · cases h
theorem o2_shl : OpR X (binaryOp .LShift) (rOf X.K G opShl) := by
  refine op_shl.imp ?_
  rintro x y H Q ⟨wx, wy, S, γ, w, rx, ry, s, h, k⟩
  unfold opShl at h
  split at h
  · cases rx; cases ry
    split at h
    · rename_i hm
      cases h
      exact ⟨_, _, rfl, rfl, ⟨hm.1, hm.2.1, hm.2.2⟩, k _ γ H Ext.refl (.int _) s⟩
    · cases h
  · cases h
theorem o2_shr : OpR X (binaryOp .RShift) (rOf X.K G opShr) := by
  refine op_shr.imp ?_
  rintro x y H Q ⟨wx, wy, S, γ, w, rx, ry, s, h, k⟩
  unfold opShr at h
  split at h
  · cases rx; cases ry
    split at h
    · rename_i hm
      cases h
      exact ⟨_, _, rfl, rfl, hm.1, k _ γ H Ext.refl (.int _) s⟩
    · cases h
  · cases h
end
/-! tuples of the module -/
mutual
def cW (K : PySem.W.Frag) : W → Value → Bool
  | .non, .none => true
  | .bl b, .bool c => b == c
  | .int i, .int j _ => decide (i = j)
  | .str s, .str x _ => decide (x = ⟨s.toArray⟩) && (s.all (fun c => decide (c < 0x110000)) && decide (s.length ≤ 16777216))
  | .tup xs, .ref a => (match K.lookup a with
    | some ⟨.type c, _, .seq its _, _⟩ => decide (c = "tuple") && (decide (its.size ≤ 16777216) && cWs K xs its.toList)
    | _ => false)
  | _, _ => false
def cWs (K : PySem.W.Frag) : List W → List Value → Bool
  | [], [] => true
  | w :: ws, v :: vs => cW K w v && cWs K ws vs
  | _, _ => false
end
mutual
theorem cW_ok {K : PySem.W.Frag} {G : Gs} : ∀ {w : W} {u : Value}, cW K w u = true → ∃ v, L2.RelV v u ∧ ∀ γ H, Rep K G γ H w v
  | .non, .none, _ => ⟨.non, rfl, fun _ _ => .non⟩
  | .bl b, .bool c, h => by
    have e : b = c := by simpa [cW] using h
    subst e
    exact ⟨.bl b, rfl, fun _ _ => .bl b⟩
  | .int i, .int j t, h => by
    have e : i = j := by simpa [cW] using h
    subst e
    exact ⟨.int i, ⟨t, rfl⟩, fun _ _ => .int i⟩
  | .str s, .str x t, h => by
    have h : (decide (x = ⟨s.toArray⟩) && (s.all (fun c => decide (c < 0x110000)) && decide (s.length ≤ 16777216))) = true := h
    rw [Bool.and_eq_true, Bool.and_eq_true, decide_eq_true_eq, decide_eq_true_eq] at h
    refine ⟨.str ⟨s.toArray⟩, ⟨t, by rw [h.1]⟩, fun _ _ => .str s (fun c hc => of_decide_eq_true (List.all_eq_true.mp h.2.1 c hc)) (by rw [sizeLine_eq]; exact h.2.2)⟩
  | .tup xs, .ref a, h => by
    have h : (match K.lookup a with
      | some ⟨.type c, _, .seq its _, _⟩ => decide (c = "tuple") && (decide (its.size ≤ 16777216) && cWs K xs its.toList)
      | _ => false) = true := h
    split at h
    · rename_i c dd its n sl e
      rw [Bool.and_eq_true, Bool.and_eq_true, decide_eq_true_eq, decide_eq_true_eq] at h
      obtain ⟨vs, r1, r2⟩ := cWs_ok (G := G) h.2.2
      exact ⟨.ref a, rfl, fun γ H => .tup (.inr ⟨_, its, n, e, congrArg Value.type h.1, rfl, by rw [sizeLine_eq]; exact h.2.1, r1⟩) (r2 γ H)⟩
    · cases h
theorem cWs_ok {K : PySem.W.Frag} {G : Gs} : ∀ {ws : List W} {us : List Value}, cWs K ws us = true → ∃ vs, L2.Vals vs us ∧ ∀ γ H, Reps K G γ H ws vs
  | [], [], _ => ⟨[], .nil, fun _ _ => .nil⟩
  | w :: ws, u :: us, h => by
    have h : (cW K w u && cWs K ws us) = true := h
    rw [Bool.and_eq_true] at h
    obtain ⟨v, a1, a2⟩ := cW_ok (G := G) h.1
    obtain ⟨vs, b1, b2⟩ := cWs_ok (G := G) h.2
    exact ⟨v :: vs, .cons a1 b1, fun γ H => .cons (a2 γ H) (b2 γ H)⟩
end
def conB (K : PySem.W.Frag) (x : Str) (w : W) : Bool := match PySem.W.nsIn K mainGlobals x with
  | some (some u) => cW K w u
  | _ => false
theorem conB_ok {K : PySem.W.Frag} {h : Heap} {mg : Str → Option Value} {x : Str} {w : W} (X : K.In h) (G : h.Ns mainGlobals mg) (c : conB K x w = true) : ∃ u, mg x = some u ∧ cW K w u = true := by
  unfold conB at c
  split at c
  · rename_i u e
    exact ⟨u, PySem.W.mg_of X G e, c⟩
  · cases c
section
variable {X : Cx} {G : Gs} {x : Str} {pos : Pos}
theorem se_gcon (w : W) (hm : ∃ u, X.mg x = some u ∧ cW X.K w u = true) (hg : Gl X x := by rfl) (hd : (x == ("__debug__" : Str)) = false := by decide) : SE X G (.Name x pos) (mC w) := by
  obtain ⟨u, hm, hc⟩ := hm
  obtain ⟨v, rv, rep⟩ := cW_ok (G := G) hc
  exact se_c (pe_glob (v := v) hg hm rv hd) fun γ H => rep γ H
end
end Mp

set_option Elab.async false
set_option linter.all false
set_option maxRecDepth 100000
set_option maxHeartbeats 4000000
/-! Mp: list(..) that changes later. -/
namespace Mp
open PySem PySem.Spec PyProof.Rows L2
def mListSt (ga : MA) : ME := fun η S => (ga η S).bind fun ws S1 => match ws with
  | [x] => (match seqOf S1 x with
    | some xs => if pures xs = true then .ok (.ref S1.length) (S1 ++ [.lst xs]) else .stuck
    | none => .stuck)
  | _ => .stuck
theorem seq_or {K : PySem.W.Frag} {G : Gs} {γ : Ga} {H : Hp} {S : Store} {w : W} {v : V} {xs : List W} (s : StoreOk K G γ H S) (h : seqOf S w = some xs) (r : Rep K G γ H w v) : ∃ a vs, v = .ref a ∧ (SqL K H a vs ∨ SqT K H a vs) ∧ Reps K G γ H xs vs := by
  cases r with
  | tup f q =>
    cases h
    exact ⟨_, _, rfl, .inr f.sq, q⟩
  | lst h1 o1 q =>
    obtain ⟨a, vs, ev, hv, q⟩ := lst_or s (show lstOf S (W.lst _) = some xs from h) (.lst h1 o1 q)
    exact ⟨a, vs, ev, .inl hv, q⟩
  | ref hr =>
    obtain ⟨a, vs, ev, hv, q⟩ := lst_or s (show lstOf S (W.ref _) = some xs from h) (.ref hr)
    exact ⟨a, vs, ev, .inl hv, q⟩
  | _ => cases h
section
variable {X : Cx} {G : Gs} {e : Expr} {es : List Expr} {ga : MA} {p pos : Pos}
theorem se_listSt (hm : X.mg "list" = none) (ha : SA X G (e :: es) ga) (hg : Gl X "list" := by rfl) (he : starEach (e :: es) X.env = (false, eval e X.env) :: starEach es X.env := by rfl) (hpl : (backTo pos (starEach es X.env)).any (·.1) = false := by rfl) : SE X G (.Call (.Name "list" p) (e :: es) [] pos) (mListSt ga) := by
  refine ⟨fun Wi tk => (pe_callTy call_list_of hg hm (by decide +kernel) (ha.run Wi tk) (by decide) (by decide) he hpl).imp ?_⟩
  rintro σ H Q ⟨η, S, γ, he, hs, q⟩
  refine ⟨η, S, γ, he, hs, (Post.seq q).imp fun x H1 ⟨ws, S1, γ1, e1, r1, s1, q1⟩ => ?_⟩
  split at q1
  · rename_i y
    cases r1 with
    | cons r t =>
    cases t
    cases es : seqOf S1 y with
    | none =>
      simp only [es] at q1
      exact q1.elim
    | some xs =>
      simp only [es] at q1
      by_cases hp : pures xs = true
      · rw [if_pos hp] at q1
        obtain ⟨a, vs, ev, hq, q⟩ := seq_or s1 es r
        refine ⟨a, vs, by rw [ev], hq, fun p hp' => ?_⟩
        have ex := Ext.push (K := X.K) (G := G) s1 (o := .lst vs) hp'
        refine q1 _ _ _ ex (.ref ?_) (s1.push hp' hp q)
        show (γ1.ρ ++ [p])[S1.length]? = some p
        rw [← s1.len, List.getElem?_append_right (Nat.le_refl _), Nat.sub_self] <;> rfl
      · rw [if_neg hp] at q1
        exact q1.elim
  · exact q1.elim
end
end Mp

set_option Elab.async false
set_option linter.all false
set_option maxRecDepth 100000
set_option maxHeartbeats 4000000
/-! Mp: dicts whose keys are ints and texts. -/
namespace Mp
open PySem PySem.Spec PyProof.Rows L2
def isKey : W → Bool
  | .int _ => true
  | .str _ => true
  | _ => false
def keqW : W → W → Bool
  | .int i, .int j => decide (i = j)
  | .str a, .str b => decide (a = b)
  | _, _ => false
def hasKey (k : W) : List W → Bool
  | [] => false
  | x :: r => keqW x k || hasKey k r
def lookKey (k : W) : List W → List W → Option W
  | x :: xs, v :: vs => if keqW x k = true then some v else lookKey k xs vs
  | _, _ => none
def setKey (k v : W) : List W → List W → List W
  | x :: xs, u :: us => (if keqW x k = true then v else u) :: setKey k v xs us
  | _, _ => []
def putKs (k : W) (ks : List W) : List W := if hasKey k ks = true then ks else ks ++ [k]
def putVs (k v : W) (ks vs : List W) : List W := if hasKey k ks = true then setKey k v ks vs else vs ++ [v]
def dctOf (S : Store) : W → Option (List W × List W)
  | .dct ks vs => some (ks, vs)
  | .ref i => (match S[i]? with
    | some (.dct ks vs) => some (ks, vs)
    | _ => none)
  | _ => none
section
variable {K : PySem.W.Frag} {G : Gs} {γ : Ga} {H : Hp} {S : Store}
theorem key_rep {k : W} {v : V} (r : Rep K G γ H k v) (h : isKey k = true) : ∃ key : Key, v = kV key ∧ k = keyW key := by
  cases r with
  | int i => exact ⟨.inl i, rfl, rfl⟩
  | str s _ _ => exact ⟨.inr ⟨s.toArray⟩, rfl, rfl⟩
  | _ => cases h
theorem keq_keyW (a b : Key) : keqW (keyW a) (keyW b) = decide (a = b) := by
  cases a with
  | inl i =>
    cases b with
    | inl j =>
      show decide (i = j) = _
      by_cases e : i = j
      · rw [e, decide_eq_true rfl, decide_eq_true rfl]
      · rw [decide_eq_false e, decide_eq_false fun z => e (Sum.inl.inj z)]
    | inr t => exact (decide_eq_false fun z => nomatch z).symm
  | inr s =>
    cases b with
    | inl j => exact (decide_eq_false fun z => nomatch z).symm
    | inr t =>
      show decide (s.cps.toList = t.cps.toList) = _
      by_cases e : s = t
      · rw [e, decide_eq_true rfl, decide_eq_true rfl]
      · rw [decide_eq_false fun z => e ?_, decide_eq_false fun z => e (Sum.inr.inj z)]
        cases s
        cases t
        exact congrArg PySem.Str.mk (Array.toList_inj.mp z)
theorem has_kv (k : Key) : ∀ kvs : List (Key × V), hasKey (keyW k) (kvs.map fun p => keyW p.1) = kvs.any fun kv => decide (kv.1 = k)
  | [] => rfl
  | p :: r => by
    show (keqW (keyW p.1) (keyW k) || hasKey (keyW k) (r.map fun p => keyW p.1)) = _
    rw [keq_keyW, has_kv k r, List.any_cons]
theorem look_kv (k : Key) : ∀ (kvs : List (Key × V)) {ws : List W}, Reps K G γ H ws (kvs.map (·.2)) → (∃ w v, lookKey (keyW k) (kvs.map fun p => keyW p.1) ws = some w ∧ valV kvs k = some v ∧ Rep K G γ H w v) ∨ (lookKey (keyW k) (kvs.map fun p => keyW p.1) ws = none ∧ valV kvs k = none)
  | [], ws, r => by
    refine .inr ⟨?_, rfl⟩
    cases ws <;> rfl
  | p :: t, _, .cons (w := w) (ws := ws) rw' rr => by
    show (∃ w' v, (if keqW (keyW p.1) (keyW k) = true then some w else lookKey (keyW k) (t.map fun p => keyW p.1) ws) = some w' ∧ _) ∨ _
    by_cases e : p.1 = k
    · refine .inl ⟨w, p.2, ?_, valV_pos e, rw'⟩
      rw [if_pos (by rw [keq_keyW]; exact decide_eq_true e)]
    · have ne : ¬ keqW (keyW p.1) (keyW k) = true := by
        rw [keq_keyW, decide_eq_false e]
        exact Bool.false_ne_true
      rcases look_kv k t rr with ⟨w', v, h1, h2, h3⟩ | ⟨h1, h2⟩
      · exact .inl ⟨w', v, by rw [if_neg ne]; exact h1, by rw [valV_neg e]; exact h2, h3⟩
      · refine .inr ⟨?_, by rw [valV_neg e]; exact h2⟩
        show (if keqW (keyW p.1) (keyW k) = true then some w else lookKey (keyW k) (t.map fun p => keyW p.1) ws) = none
        rw [if_neg ne]
        exact h1
theorem put_ks (k : Key) (v : V) (kvs : List (Key × V)) : (putK kvs k v).map (fun p => keyW p.1) = putKs (keyW k) (kvs.map fun p => keyW p.1) := by
  unfold putK putKs
  rw [has_kv]
  split
  · rw [List.map_map]
    refine List.map_congr_left fun p _ => ?_
    simp only [Function.comp_apply]
    split <;> rfl
  · rw [List.map_append] <;> rfl
theorem set_vs (k : Key) {w : W} {v : V} (r : Rep K G γ H w v) : ∀ (kvs : List (Key × V)) {ws : List W}, Reps K G γ H ws (kvs.map (·.2)) → Reps K G γ H (setKey (keyW k) w (kvs.map fun p => keyW p.1) ws) ((kvs.map fun kv => if kv.1 = k then (kv.1, v) else kv).map (·.2))
  | [], ws, t => by
    cases t
    exact .nil
  | p :: t, _, .cons (w := w') (ws := ws) r' t' => by
    have ih := set_vs k r t t'
    show Reps K G γ H ((if keqW (keyW p.1) (keyW k) = true then w else w') :: setKey (keyW k) w (t.map fun p => keyW p.1) ws) ((if p.1 = k then (p.1, v) else p).2 :: (t.map fun kv => if kv.1 = k then (kv.1, v) else kv).map (·.2))
    refine .cons ?_ ih
    rw [keq_keyW]
    by_cases e : p.1 = k
    · rw [if_pos (decide_eq_true e), if_pos e]
      exact r
    · rw [if_neg (by rw [decide_eq_false e]; exact Bool.false_ne_true), if_neg e]
      exact r'
theorem put_vs (k : Key) {w : W} {v : V} (r : Rep K G γ H w v) (kvs : List (Key × V)) {ws : List W} (t : Reps K G γ H ws (kvs.map (·.2))) : Reps K G γ H (putVs (keyW k) w (kvs.map fun p => keyW p.1) ws) ((putK kvs k v).map (·.2)) := by
  unfold putK putVs
  rw [has_kv]
  split
  · exact set_vs k r kvs t
  · rw [List.map_append]
    exact t.append (.one r)
theorem dctOf_rep (s : StoreOk K G γ H S) {w : W} {v : V} {ks ws : List W} (r : Rep K G γ H w v) (h : dctOf S w = some (ks, ws)) : ∃ a us, v = .ref a ∧ DctAt H a ks us ∧ Reps K G γ H ws us := by
  cases r with
  | dct d f q =>
    cases h
    exact ⟨_, _, rfl, d, q⟩
  | @ref i a ha =>
    have h : (match S[i]? with
      | some (.dct ks vs) => some (ks, vs)
      | _ => none) = some (ks, ws) := h
    split at h
    · rename_i hc
      cases h
      obtain ⟨_, _, us, d, q⟩ := s.cell i _ a hc ha
      exact ⟨a, us, rfl, d, q⟩
    · cases h
  | _ => cases h
theorem dct_k {a : Addr} {ks : List W} {us : List V} (d : DctAt H a (.bl false :: ks) us) : ∃ kvs : List (Key × V), H a = some (.dK kvs) ∧ ks = kvs.map (fun p => keyW p.1) ∧ us = kvs.map (·.2) := by
  rcases d with ⟨kvs, h, e, e2⟩ | ⟨kvs, h, e, _⟩
  · exact ⟨kvs, h, by cases e; rfl, e2⟩
  · cases e
end
def opInD : O2 := fun x y S => match dctOf S y with
  | some (.bl false :: ks, _) => if isKey x = true then some (.bl (hasKey x ks)) else none
  | some _ => none
  | none => opIn x y S
def opNotInD : O2 := fun x y S => match dctOf S y with
  | some (.bl false :: ks, _) => if isKey x = true then some (.bl (!hasKey x ks)) else none
  | some _ => none
  | none => opNotIn x y S
section
variable {X : Cx} {G : Gs}
theorem o2_inD (hu : X.A.units + 65 < cLine) : OpR X (compareOp .In) (rOf X.K G opInD) := by
  intro pins s σ H x y v u Q I rx ry h
  obtain ⟨wx, wy, S, γ, w, r1, r2, ss, e, k⟩ := h
  unfold opInD at e
  split at e
  · rename_i ks ws hd
    split at e
    · rename_i hk
      cases e
      obtain ⟨key, rfl, rfl⟩ := key_rep r1 hk
      obtain ⟨a, us, rfl, d, q⟩ := dctOf_rep ss r2 hd
      obtain ⟨kvs, hH, rfl, rfl⟩ := dct_k d
      obtain rfl : u = Value.ref a := ry
      refine d_in (by omega) I (DGet.k (k := key) hH) rx fun s' I' => ⟨.bl (hasKey (keyW key) (kvs.map fun p => keyW p.1)), H, I', ?_, k _ γ H Ext.refl (.bl _) ss⟩
      rw [has_kv, valV_any]
      rfl
    · cases e
  · cases e
  · exact o2_in hu pins s σ H x y v u Q I rx ry ⟨wx, wy, S, γ, w, r1, r2, ss, e, k⟩
theorem o2_notInD (hu : X.A.units + 65 < cLine) : OpR X (compareOp .NotIn) (rOf X.K G opNotInD) := by
  intro pins s σ H x y v u Q I rx ry h
  obtain ⟨wx, wy, S, γ, w, r1, r2, ss, e, k⟩ := h
  unfold opNotInD at e
  split at e
  · rename_i ks ws hd
    split at e
    · rename_i hk
      cases e
      obtain ⟨key, rfl, rfl⟩ := key_rep r1 hk
      obtain ⟨a, us, rfl, d, q⟩ := dctOf_rep ss r2 hd
      obtain ⟨kvs, hH, rfl, rfl⟩ := dct_k d
      obtain rfl : u = Value.ref a := ry
      refine d_notIn (by omega) I (DGet.k (k := key) hH) rx fun s' I' => ⟨.bl (!hasKey (keyW key) (kvs.map fun p => keyW p.1)), H, I', ?_, k _ γ H Ext.refl (.bl _) ss⟩
      rw [has_kv, valV_any]
      rfl
    · cases e
  · cases e
  · exact o2_notIn hu pins s σ H x y v u Q I rx ry ⟨wx, wy, S, γ, w, r1, r2, ss, e, k⟩
end
end Mp

set_option Elab.async false
set_option linter.all false
set_option maxRecDepth 100000
set_option maxHeartbeats 4000000
/-! Mp: dict comprehensions. -/
namespace Mp
open PySem PySem.Spec PyProof.Rows L2
def dcompL (g : MG) (t : MT) (ek ev : ME) (η : Env) : List W → Store → List W → List W → R (List W × List W)
  | [], S, ks, vs => .ok (ks, vs) S
  | x :: r, S, ks, vs => match g x η S with
    | none => .stuck
    | some (η1, S1) => (t η1 S1).bind fun b S2 => if b = true then (ek η1 S2).bind fun k S3 => (ev η1 S3).bind fun w S4 => if isKey k = true then sized (ks.length + 1) (dcompL g t ek ev η r S4 (putKs k ks) (putVs k w ks vs)) else .stuck else dcompL g t ek ev η r S2 ks vs
def mDComp (it : MI) (own : List Nat) (g : MG) (t : MT) (ek ev : ME) : ME := fun η S => (it η S).bind fun xs S1 => (noexc (dcompL g t ek ev (wipeE η own) xs S1 [] [])).bind fun p S2 => .ok (.dct (.bl false :: p.1) p.2) S2
section
variable {X : Cx} {G : Gs} {tg iter kx vx : Expr} {ifs : List Expr} {scope : Scope} {f fk : ME} {g : MG} {t : MT} {it : MI} {is : List Nat} {own : List (Str × Nat)} {pos : Pos}
/-- a turn after another -/
theorem dc_turns {K : PySem.W.Frag} {γ0 : Ga} {H0 : Hp} {J : It} {xs : List W} {η : Env} {S0 : Store} {σ : L2.St} {ksF wsF : List W} {SF : Store} {Wx' : Wx} {Q : VK} {vs : List Nat} (ok : ItOk K G J xs γ0 H0) (he : EnvOk K G γ0 H0 η σ) (hs : StoreOk K G γ0 H0 S0)
    (his : ∀ i ∈ is, i ∈ vs) (h : dcompL g t fk f (wipeE η vs) xs S0 [] [] = .ok (ksF, wsF) SF) (hQ : ∀ v γ' H', Ext γ0 H0 γ' H' → Rep K G γ' H' (.dct (.bl false :: ksF) wsF) v → StoreOk K G γ' H' SF → Q v H') :
    ∀ D, H0 D = none → ∃ Wv : Nat → Nat → Hp → Prop, (∃ m, Wv 0 m (L2.upd H0 D (.dK []))) ∧ ∀ i m H, Wv i m H →
      (J.stop i H ∧ Q (.ref D) H) ∨ (J.go i H ∧ ∃ Nx : Hp → Prop, (∀ H', Nx H' → ∃ m', m' < m ∧ Wv (i + 1) m' H') ∧ ∀ x H', J.yld i H x H' → tgOf K G is g x (wipe σ vs) H' fun σ2 H2 => wipe σ2 vs = wipe σ vs ∧ ttOf K G (fun _ _ _ _ => False) t σ2 H2 fun b H3 =>
        if b = true then tOf K G (fun _ _ _ _ => False) fk σ2 H3 fun y H4 => tOf K G (fun _ _ _ _ => False) f σ2 H4 fun z H5 => ∃ kvs k, y = kV k ∧ H5 D = some (.dK kvs) ∧ kvs.length < sizeLine ∧ Nx (L2.upd H5 D (.dK (putK kvs k z))) else Nx H3) := by
  intro D hD
  refine ⟨fun i m H => m = xs.length - i ∧ i ≤ xs.length ∧ ∃ S γ acc us, StoreOk K G γ H S ∧ Ext γ0 H0 γ H ∧ D ∈ γ.β ∧ H D = some (.dK us) ∧ Reps K G γ H acc (us.map (·.2)) ∧ dcompL g t fk f (wipeE η vs) (xs.drop i) S (us.map fun p => keyW p.1) acc = .ok (ksF, wsF) SF, ⟨xs.length, rfl, Nat.zero_le _, ?_⟩, ?_⟩
  · have off := hs.fresh hD
    refine ⟨S0, ⟨γ0.ρ, D :: γ0.β⟩, [], [], ?_, ?_, List.mem_cons_self .., upd_same, .nil, h⟩
    · have s1 := hs.upd (o := .dK []) hD
      refine ⟨s1.len, s1.nd, fun i c a hc ha => ?_, fun a ha => ?_⟩
      · have q := s1.cell i c a hc ha
        cases c with
        | lst ys =>
          obtain ⟨p1, us, hv, r'⟩ := hs.cell i _ a hc ha
          refine ⟨p1, us, by rw [upd_ne (ne_of_none hv hD)]; exact hv, r'.mono ?_⟩
          exact ⟨List.prefix_refl _, fun b hb => List.mem_cons_of_mem _ hb, fun b hb => (List.mem_cons.mp hb).elim (fun z => .inr (by rw [z]; exact hD)) .inl, fun b u e _ => by rw [upd_ne (ne_of_none e hD)]; exact e, fun _ h1 h2 => absurd h1 h2, fun b u e => ⟨u, by rw [upd_ne (ne_of_none e hD)]; exact e⟩⟩
        | dct _ _ => exact (hs.cell i _ a hc ha).to (fun o f => by rw [upd_ne (ne_of_none f hD)]; exact f) fun _ r => by refine r.mono ?_; exact ⟨List.prefix_refl _, fun b hb => List.mem_cons_of_mem _ hb, fun b hb => (List.mem_cons.mp hb).elim (fun z => .inr (by rw [z]; exact hD)) .inl, fun b u e _ => by rw [upd_ne (ne_of_none e hD)]; exact e, fun _ h1 h2 => absurd h1 h2, fun b u e => ⟨u, by rw [upd_ne (ne_of_none e hD)]; exact e⟩⟩
        | ins _ _ => exact q.elim
      · rcases List.mem_cons.mp ha with z | z
        · rw [z]
          exact ⟨off.1, _, upd_same, fun _ z => nomatch z⟩
        · obtain ⟨n, o, q, nt⟩ := hs.bt a z
          exact ⟨n, o, by rw [upd_ne (ne_of_none q hD)]; exact q, nt⟩
    · exact ⟨List.prefix_refl _, fun b hb => List.mem_cons_of_mem _ hb, fun b hb => (List.mem_cons.mp hb).elim (fun z => .inr (by rw [z]; exact hD)) .inl, fun b u e _ => by rw [upd_ne (ne_of_none e hD)]; exact e, fun _ h1 h2 => absurd h1 h2, fun b u e => ⟨u, by rw [upd_ne (ne_of_none e hD)]; exact e⟩⟩
  · rintro i m H ⟨rfl, hi, S, γ, acc, us, s, ex, dβ, hus, racc, hc⟩
    by_cases hlt : i < xs.length
    · refine .inr ⟨ok.go i γ H S hlt ex.w s, _, fun H' z => ⟨xs.length - (i + 1), by omega, z⟩, fun x H' y => ?_⟩
      obtain ⟨e1, s1, r1⟩ := ok.yld i xs[i] γ H S x H' (List.getElem?_eq_getElem hlt) ex.w s y
      rw [List.drop_eq_getElem_cons hlt] at hc
      unfold dcompL at hc
      cases eg : g xs[i] (wipeE η vs) S with
      | none =>
        rw [eg] at hc
        cases hc
      | some z =>
        obtain ⟨η1, S1⟩ := z
        rw [eg] at hc
        refine ⟨wipeE η vs, S, γ, xs[i], η1, S1, ((he.mono ex).mono e1).wipe vs, s1, r1, eg, fun σ2 γ2 H2 e2 he2 s2 hl2 hn2 => ⟨?_, ?_⟩⟩
        · rw [wipe_same (σ := wipe σ vs) his hl2 hn2, wipe_wipe]
        · refine ⟨η1, S1, γ2, he2, s2, ?_⟩
          cases et : t η1 S1 with
          | stuck =>
            simp only [et] at hc
            cases hc
          | exc c x S2 =>
            simp only [et] at hc
            cases hc
          | ok b S2 =>
            simp only [et, R.bind] at hc
            intro b' γ3 H3 e3 rb s3
            cases rb
            have ext3 : Ext γ0 H0 γ3 H3 := ((ex.trans e1).trans e2).trans e3
            have d3 : D ∈ γ3.β := e3.bsub _ (e2.bsub _ (e1.bsub _ dβ))
            have hus3 : H3 D = some (.dK us) := by
              have k1 := e1.keep D _ hus (s.bt D dβ).1
              have k2 := e2.keep D _ k1 (s1.bt D (e1.bsub _ dβ)).1
              exact e3.keep D _ k2 (s2.bt D (e2.bsub _ (e1.bsub _ dβ))).1
            have racc3 := ((racc.mono e1).mono e2).mono e3
            cases b with
            | false =>
              rw [if_neg Bool.false_ne_true] at hc ⊢
              exact ⟨rfl, hlt, S2, γ3, acc, us, s3, ext3, d3, hus3, racc3, hc⟩
            | true =>
              rw [if_pos rfl] at hc ⊢
              refine ⟨η1, S2, γ3, he2.mono e3, s3, ?_⟩
              cases ek : fk η1 S2 with
              | stuck =>
                simp only [ek] at hc
                cases hc
              | exc c x S3 =>
                simp only [ek] at hc
                cases hc
              | ok wk S3 =>
                simp only [ek] at hc
                intro vk γ4 H4 e4 r4 s4
                have d4 : D ∈ γ4.β := e4.bsub _ d3
                have hus4 : H4 D = some (.dK us) := e4.keep D _ hus3 (s3.bt D d3).1
                refine ⟨η1, S3, γ4, (he2.mono e3).mono e4, s4, ?_⟩
                cases ee : f η1 S3 with
                | stuck =>
                  simp only [ee] at hc
                  cases hc
                | exc c x S4 =>
                  simp only [ee] at hc
                  cases hc
                | ok w S4 =>
                  simp only [ee] at hc
                  intro v γ5 H5 e5 r5 s5
                  have d5 : D ∈ γ5.β := e5.bsub _ d4
                  have hus5 : H5 D = some (.dK us) := e5.keep D _ hus4 (s4.bt D d4).1
                  split at hc
                  · rename_i hkey
                    obtain ⟨key, rfl, rfl⟩ := key_rep r4 hkey
                    unfold sized at hc
                    split at hc
                    · rename_i hsz
                      rw [bigLine_eq, List.length_map] at hsz
                      refine ⟨us, key, rfl, hus5, by omega, rfl, hlt, S4, γ5, putVs (keyW key) w (us.map fun p => keyW p.1) acc, putK us key v, s5.busy d5, ?_, d5, upd_same, ?_, ?_⟩
                      · have x5 := (ext3.trans e4).trans e5
                        have na : ∀ {a : Addr} {o : HO}, H0 a = some o → a ≠ D := fun q => ne_of_none q hD
                        exact ⟨x5.pre, x5.bsub, x5.bnew, fun a o q n => by rw [upd_ne (na q)]; exact x5.keep a o q n, x5.new, fun a o q => by
                          obtain ⟨o', q'⟩ := x5.dom a o q
                          exact ⟨o', by rw [upd_ne (na q)]; exact q'⟩⟩
                      · have n5 := (s5.bt D d5).1
                        exact Reps.busy d5 n5 (put_vs key r5 us ((racc3.mono e4).mono e5))
                      · rw [put_ks]
                        exact hc
                    · cases hc
                  · cases hc
    · have e : i = xs.length := by omega
      subst e
      rw [List.drop_length] at hc
      cases hc
      refine .inl ⟨ok.stop γ H _ ex.w s, ?_⟩
      have nD := (s.bt D dβ).1
      have fr : Ext γ0 H0 ⟨γ.ρ, γ.β.filter (fun a => decide (a ≠ D))⟩ H := by
        refine ⟨ex.pre, fun a ha => ?_, fun a ha => ex.bnew a (List.mem_filter.mp ha).1, ex.keep, ex.new, ex.dom⟩
        refine List.mem_filter.mpr ⟨ex.bsub a ha, ?_⟩
        obtain ⟨_, o, q, _⟩ := hs.bt a ha
        exact decide_eq_true (ne_of_none q hD)
      have up : Ext γ H ⟨γ.ρ, γ.β.filter (fun a => decide (a ≠ D))⟩ H → True := fun _ => trivial
      have lessO : ∀ (a : Addr) (o : HO), H a = some o → γ.Off a → Ga.Off ⟨γ.ρ, γ.β.filter (fun a => decide (a ≠ D))⟩ a := fun a o _ z => ⟨z.1, fun q => z.2 (List.mem_filter.mp q).1⟩
      have shr : ∀ {w : W} {v : V}, Rep K G γ H w v → Rep K G ⟨γ.ρ, γ.β.filter (fun a => decide (a ≠ D))⟩ H w v := fun r => Rep.shrink (γ := γ) (γ' := ⟨γ.ρ, γ.β.filter (fun a => decide (a ≠ D))⟩) rfl lessO r
      have shrs : ∀ {w : List W} {v : List V}, Reps K G γ H w v → Reps K G ⟨γ.ρ, γ.β.filter (fun a => decide (a ≠ D))⟩ H w v := fun r => Reps.shrink (γ := γ) (γ' := ⟨γ.ρ, γ.β.filter (fun a => decide (a ≠ D))⟩) rfl lessO r
      refine hQ (.ref D) _ H fr (.dct (.inl ⟨us, hus, rfl, rfl⟩) ⟨nD, fun q => ?_⟩ (shrs racc)) ⟨s.len, s.nd, fun i c a hc ha => ?_, fun a ha => s.bt a (List.mem_filter.mp ha).1⟩
      · have := (List.mem_filter.mp q).2
        simp at this
      · have q := s.cell i c a hc ha
        cases c with
        | lst ys =>
          obtain ⟨p1, us', hv, r'⟩ := q
          exact ⟨p1, us', hv, shrs r'⟩
        | dct _ _ => exact q.to (fun _ f => f) fun _ r => shrs r
        | ins _ _ => exact q.elim
theorem dcomp_read {Wi : WX} {Q : VK} {σ : L2.St} {H : Hp} (his : ∀ i ∈ is, i ∈ own.map (·.2)) (q : tOf X.K G Wi (mDComp it (own.map (·.2)) g t fk f) σ H Q) :
    tDc (tiOf X.K G Wi it) (tgOf X.K G is g) (ttOf X.K G (fun _ _ _ _ => False) t) (tOf X.K G (fun _ _ _ _ => False) fk) (tOf X.K G (fun _ _ _ _ => False) f) (own.map (·.2)) σ H Q := by
  obtain ⟨η, S, γ, he, hs, q⟩ := q
  refine ⟨η, S, γ, he, hs, ?_⟩
  have q : Post X.K G (Rep X.K G) (fun c d H' => Wi c d σ H') γ H ((it η S).bind fun xs S1 => (noexc (dcompL g t fk f (wipeE η (own.map (·.2))) xs S1 [] [])).bind fun p S2 => .ok (.dct (.bl false :: p.1) p.2) S2) Q := q
  cases ei : it η S with
  | stuck =>
    rw [ei] at q
    exact q.elim
  | exc c x S1 =>
    rw [ei] at q
    exact q
  | ok xs S1 =>
    rw [ei] at q
    intro J γ1 H1 e1 s1 ok
    have q : Post X.K G (Rep X.K G) (fun c d H' => Wi c d σ H') γ H ((noexc (dcompL g t fk f (wipeE η (own.map (·.2))) xs S1 [] [])).bind fun p S2 => .ok (.dct (.bl false :: p.1) p.2) S2) Q := q
    cases ec : dcompL g t fk f (wipeE η (own.map (·.2))) xs S1 [] [] with
    | stuck =>
      rw [ec] at q
      exact q.elim
    | exc c x S2 =>
      rw [ec] at q
      exact q.elim
    | ok ws S2 =>
      rw [ec] at q
      exact dc_turns (Wx' := fun _ _ _ => False) ok (he.mono e1) s1 his ec fun v γ' H' e r s => q v γ' H' (e1.trans e) r s
theorem se_dcomp (own : List (Str × Nat)) (cf : Cfg X) (hi : SI X G tg iter it) (ok : BlkOk X.N X.env.scope scope own)
    (hg : ∀ (s : Shared) (H : Hp) (C : Addr) (cl : List (Str × Addr)) (fp : List Addr), Cfg (X.blk s H scope (compEnvC scope cl C X.env) fp) → SG (X.blk s H scope (compEnvC scope cl C X.env) fp) G tg is g)
    (ht : ∀ (s : Shared) (H : Hp) (C : Addr) (cl : List (Str × Addr)) (fp : List Addr), Cfg (X.blk s H scope (compEnvC scope cl C X.env) fp) → STs (X.blk s H scope (compEnvC scope cl C X.env) fp) G ifs t)
    (hk : ∀ (s : Shared) (H : Hp) (C : Addr) (cl : List (Str × Addr)) (fp : List Addr), Cfg (X.blk s H scope (compEnvC scope cl C X.env) fp) → SE (X.blk s H scope (compEnvC scope cl C X.env) fp) G kx fk)
    (he : ∀ (s : Shared) (H : Hp) (C : Addr) (cl : List (Str × Addr)) (fp : List Addr), Cfg (X.blk s H scope (compEnvC scope cl C X.env) fp) → SE (X.blk s H scope (compEnvC scope cl C X.env) fp) G vx f)
    (his : ∀ i ∈ is, i ∈ own.map (·.2) := by decide) (hs : ∀ x, foldedSetIterable iter X.env x = pure x := by intro _; rfl) :
    SE X G (.DictComp kx vx [⟨tg, iter, ifs, 0⟩] scope pos) (mDComp it (own.map (·.2)) g t fk f) := by
  refine ⟨fun Wi tk => (pe_dc (g := tgOf X.K G is g) (tt := ttOf X.K G (fun _ _ _ _ => False) t) (tk := tOf X.K G (fun _ _ _ _ => False) fk) (tv := tOf X.K G (fun _ _ _ _ => False) f) cf.calm cf.nd (hi.run Wi tk) ok (fun s H C cl fp => (hg s H C cl fp (cf.blk ..)).run) (fun s H C cl fp => (ht s H C cl fp (cf.blk ..)).run _ takes0) (fun s H C cl fp => (hk s H C cl fp (cf.blk ..)).run _ takes0) (fun s H C cl fp => (he s H C cl fp (cf.blk ..)).run _ takes0) hs).imp ?_⟩
  intro σ H Q q
  exact dcomp_read his q
theorem sw_trueD {gs : List Comprehension} {scope : Scope} {pos py : Pos} {y : Str} {l : Nat} {env : PySem.Env} (hk : env.scope.kind = .function) (hy : env.scope.names.lookup y = some .local) (hl : (py.line == pos.line) = true)
    (ha : (scope.names.any fun (n, k) => n == y && (k == .local || k == .cell)) = false) : swapsWith (.DictComp kx vx gs scope pos) (some (.Name y py)) l env = pure true := by
  have ky : env.kindOf y = some .local := hy
  have hb : env.blockKind = .function := by unfold PySem.Env.blockKind; rw [hk]; rfl
  unfold swapsWith
  simp only [hb, ky, ha, Expr.pos, hl]
  rfl
theorem ps_setDc {i : Nat} {y : Str} {py : Pos} {spos : Pos} {wi : TI} {g : TG} {tt : TT} {tk tv : TE} (hc : X.calm = true) (hN : X.N.Nodup) (hy : X.N[i]? = some y) (hyl : X.env.scope.names.lookup y = some .local)
    (hsw : swapsWith (.DictComp kx vx [⟨tg, iter, ifs, 0⟩] scope pos) (some (.Name y py)) spos.line X.env = pure true) (hi : PI X tg iter wi) (ok : BlkOk X.N X.env.scope scope own)
    (hg : ∀ (s : Shared) (H : Hp) (C : Addr) (cl : List (Str × Addr)) (fp : List Addr), PG (X.blk s H scope (compEnvC scope cl C X.env) fp) tg g) (ht : ∀ (s : Shared) (H : Hp) (C : Addr) (cl : List (Str × Addr)) (fp : List Addr), PTs (X.blk s H scope (compEnvC scope cl C X.env) fp) ifs tt)
    (hk : ∀ (s : Shared) (H : Hp) (C : Addr) (cl : List (Str × Addr)) (fp : List Addr), PE (X.blk s H scope (compEnvC scope cl C X.env) fp) kx tk)
    (he : ∀ (s : Shared) (H : Hp) (C : Addr) (cl : List (Str × Addr)) (fp : List Addr), PE (X.blk s H scope (compEnvC scope cl C X.env) fp) vx tv) (hs : ∀ x, foldedSetIterable iter X.env x = pure x := by intro _; rfl) :
    PS X (.Assign [.Name y py] (.DictComp kx vx [⟨tg, iter, ifs, 0⟩] scope pos) spos) (tAsg (tDc wi g tt tk tv (own.map (·.2))) (gName i)) := by
  refine ⟨fun pins s σ H D I h => ?_⟩
  rw [exec_Assign_Name_used _ _ _ _ hsw]
  refine wpAny_bind (wpAny_standAt (wpAny_bind ?_))
  show wpAny _ X.A (do let _ ← comprehension (.DictComp kx vx [⟨tg, iter, ifs, 0⟩] scope pos) scope X.env (firstIterPos [⟨tg, iter, ifs, 0⟩] pos) newDict false (eval iter X.env) (some (assign (.Name y py) X.env))) _ _ s
  have h : tDc wi g tt tk tv (own.map (·.2)) σ H (fun x H1 => gName i x σ H1 D.nx) := h
  refine wpAny_bind (thn (dc_core (Qf := fun _ s' => SP X pins D .next s') hc hN I hi ok hg ht hk he hs h fun L C s' m H' I' q hn f => ?_) fun _ s' hq => wpAny_pure (wpAny_pure hq))
  show wpAny _ _ (assign (.Name y py) X.env (.ref L)) _ _ _
  refine wpAny_assign_Name (store_ok2 (v := V.ref L) I' hN hy (.inl hyl) rfl (fun s2 I2 ⟨a, sb, ha⟩ => ?_) (.inr hyl))
  obtain ⟨f0, f1, f2, f3, f4, f5⟩ := f
  have haC : C ≠ a := by
    rcases ha with z | z
    · rw [z]; exact f1
    · exact fun e => f4 y a z e.symm
  refine ⟨m, hn.sameBut sb haC, fun h3 sb3 => ?_⟩
  exact ⟨_, H', I2.turned (t' := s2.toks) (fun b o hb e => (sb3.2 b hb).trans e) f0 f1 f3 f4 f5, q⟩
theorem ss_setDc {y : Str} {py : Pos} {spos : Pos} (i : Nat) (own : List (Str × Nat)) (cf : Cfg X) (hi : SI X G tg iter it) (ok : BlkOk X.N X.env.scope scope own)
    (hg : ∀ (s : Shared) (H : Hp) (C : Addr) (cl : List (Str × Addr)) (fp : List Addr), Cfg (X.blk s H scope (compEnvC scope cl C X.env) fp) → SG (X.blk s H scope (compEnvC scope cl C X.env) fp) G tg is g)
    (ht : ∀ (s : Shared) (H : Hp) (C : Addr) (cl : List (Str × Addr)) (fp : List Addr), Cfg (X.blk s H scope (compEnvC scope cl C X.env) fp) → STs (X.blk s H scope (compEnvC scope cl C X.env) fp) G ifs t)
    (hk : ∀ (s : Shared) (H : Hp) (C : Addr) (cl : List (Str × Addr)) (fp : List Addr), Cfg (X.blk s H scope (compEnvC scope cl C X.env) fp) → SE (X.blk s H scope (compEnvC scope cl C X.env) fp) G kx fk)
    (he : ∀ (s : Shared) (H : Hp) (C : Addr) (cl : List (Str × Addr)) (fp : List Addr), Cfg (X.blk s H scope (compEnvC scope cl C X.env) fp) → SE (X.blk s H scope (compEnvC scope cl C X.env) fp) G vx f)
    (hy : X.N[i]? = some y := by rfl) (hyl : X.env.scope.names.lookup y = some .local := by rfl)
    (hsw : swapsWith (.DictComp kx vx [⟨tg, iter, ifs, 0⟩] scope pos) (some (.Name y py)) spos.line X.env = pure true := by exact sw_trueD rfl rfl rfl (by decide +kernel))
    (his : ∀ i ∈ is, i ∈ own.map (·.2) := by decide) (hs : ∀ x, foldedSetIterable iter X.env x = pure x := by intro _; rfl) :
    SS X G (.Assign [.Name y py] (.DictComp kx vx [⟨tg, iter, ifs, 0⟩] scope pos) spos) (sSet i (mDComp it (own.map (·.2)) g t fk f)) := by
  refine ⟨fun Wi tk => (ps_setDc (i := i) (g := tgOf X.K G is g) (tt := ttOf X.K G (fun _ _ _ _ => False) t) (tk := tOf X.K G (fun _ _ _ _ => False) fk) (tv := tOf X.K G (fun _ _ _ _ => False) f) cf.calm cf.nd hy hyl hsw (hi.run Wi tk) ok (fun s H C cl fp => (hg s H C cl fp (cf.blk ..)).run) (fun s H C cl fp => (ht s H C cl fp (cf.blk ..)).run _ takes0) (fun s H C cl fp => (hk s H C cl fp (cf.blk ..)).run _ takes0) (fun s H C cl fp => (he s H C cl fp (cf.blk ..)).run _ takes0) hs).imp ?_⟩
  rintro D σ H ⟨η, S, γ, he, hs, q⟩
  refine dcomp_read his ⟨η, S, γ, he, hs, (PostS.expr he q).imp fun v H1 ⟨w, S1, γ1, e1, r1, s1, q1⟩ => q1 _ γ1 H1 Ext.refl ((he.mono e1).set r1 i) s1⟩
end
end Mp

set_option Elab.async false
set_option linter.all false
set_option maxRecDepth 100000
set_option maxHeartbeats 4000000
/-! Mp: count, lists by a number into the store. -/
namespace Mp
open PySem PySem.Spec PyProof.Rows L2
def omCountI : OM := fun x ws S => match lstOf S x, ws with
  | some xs, [.int k] => (intsOf xs).map fun ns => (.int (ns.count k : Nat), S)
  | _, _ => none
def mMulS (f g : ME) : ME := fun η S => (f η S).bind fun x S1 => (g η S1).bind fun y S2 => match lstOf S2 x, y with
  | some xs, .int k => if -9223372036854775808 ≤ k ∧ k < 9223372036854775808 ∧ xs.length * k.toNat ≤ bigLine ∧ pures (List.replicate k.toNat xs).flatten = true then .ok (.ref S2.length) (S2 ++ [.lst (List.replicate k.toNat xs).flatten]) else .stuck
  | _, _ => .stuck
section
variable {X : Cx} {G : Gs} {a b : Expr} {pos : Pos} {f g : ME}
theorem om_countI : MtR X "list.count" (rmOf X.K G omCountI) := by
  refine mt_imp mt_lcount ?_
  rintro x xs H Q ⟨wx, ws, S, γ, w, S3, r, rs, s, e, k⟩
  unfold omCountI at e
  split at e
  · rename_i ys i hl
    cases hn : intsOf ys with
    | none =>
      rw [hn] at e
      cases e
    | some ns =>
      rw [hn] at e
      cases e
      obtain ⟨p, vs, rfl, hs, q⟩ := lst_or s hl r
      cases rs with
      | cons r1 t =>
        cases t
        cases r1
        have ev := intsOf_reps' q hn
        subst ev
        exact ⟨p, ns, i, rfl, rfl, hs, k _ γ H Ext.refl (.int _) s⟩
  · cases e
theorem se_mulS (ha : SE X G a f) (hb : SE X G b g) : SE X G (.BinOp a .Mult b pos) (mMulS f g) := by
  refine ⟨fun Wi tk => (pe_op op_rep (ha.run Wi tk) (hb.run Wi tk)).imp ?_⟩
  rintro σ H Q ⟨η, S, γ, he, hs, q⟩
  refine ⟨η, S, γ, he, hs, (Post.seq q).imp fun x H1 ⟨wx, S1, γ1, e1, r1, s1, q1⟩ => ⟨η, S1, γ1, he.mono e1, s1, (Post.seq q1).imp fun y H2 ⟨wy, S2, γ2, e2, r2, s2, q2⟩ => ?_⟩⟩
  have r1' := r1.mono e2
  split at q2
  · rename_i xs n hx
    split at q2
    · rename_i hl
      obtain ⟨l1, l2, l3, hp'⟩ := hl
      rw [bigLine_eq] at l3
      cases r2
      obtain ⟨a1, v1, rfl, h1, q1⟩ := lstOf_rep s2 hx r1'
      have e1 := q1.length
      refine ⟨a1, _, v1, rfl, rfl, h1, by omega, by omega, by rw [← e1]; exact l3, fun p hp => ?_⟩
      have ex := Ext.push (K := X.K) (G := G) s2 (o := .lst (List.replicate n.toNat v1).flatten) hp
      refine q2 _ _ _ ex (.ref ?_) (s2.push hp hp' (reps_flat q1 _))
      show (γ2.ρ ++ [p])[S2.length]? = some p
      rw [← s2.len, List.getElem?_append_right (Nat.le_refl _), Nat.sub_self] <;> rfl
    · exact q2.elim
  · exact q2.elim
end
def opMulT : O2 := fun x y S => match x, y with
  | .tup xs, .int k => if xs ≠ [] ∧ 2 ≤ k ∧ k ≤ 1000 ∧ xs.length ≤ 1000 then some (.tup (List.replicate k.toNat xs).flatten) else none
  | x, y => opMul x y S
theorem o2_mulT {X : Cx} {G : Gs} : OpR X (binaryOp .Mult) (rOf X.K G opMulT) := by
  refine (OpR.or op_repT (o2_mul (G := G))).imp ?_
  rintro x y H Q ⟨wx, wy, S, γ, w, rx, ry, s, h, k⟩
  unfold opMulT at h
  split at h
  · rename_i xs n
    split at h
    · rename_i hl
      cases h
      cases rx with
      | @tup _ vs _ f q =>
      cases ry
      have e1 := q.length
      obtain ⟨l0, l1, l2, l3⟩ := hl
      refine .inl ⟨_, _, _, rfl, rfl, f.sq, ?_, l1, l2, by omega, fun p hp => ?_⟩
      · intro z
        rw [z] at e1
        exact l0 (List.length_eq_zero_iff.mp e1)
      · have ex := Ext.upd (K := X.K) (G := G) s (o := .tup (List.replicate n.toNat vs).flatten) hp
        exact k _ γ _ ex (.tup (.inl ⟨.inl upd_same, s.fresh hp⟩) (reps_flat (q.mono ex) _)) (s.upd hp)
    · cases h
  · exact .inr ⟨_, _, S, γ, w, rx, ry, s, h, k⟩
def baSumT : OA := fun xs S => match xs with
  | [.tup ys] => (intsOf ys).map fun ns => .int ns.sum
  | xs => baSum xs S
theorem cr_sumT {X : Cx} {G : Gs} (hc : X.calm = true) : CallR X (.builtin "sum") (raOf X.K G baSumT) := by
  intro pins s σ H vs us Q I r h
  obtain ⟨ws, S, γ, w, rs, ss, e, k⟩ := h
  unfold baSumT at e
  split at e
  · rename_i ys
    cases rs with
    | cons r1 t1 =>
    cases t1
    cases en : intsOf ys with
    | none =>
      rw [en] at e
      cases e
    | some ns =>
      rw [en] at e
      cases e
      cases r1 with
      | @tup a vs' _ f q =>
      have ev := intsOf_reps' q en
      subst ev
      obtain ⟨its, rv, ht, _⟩ := I.tuple f.sq
      rw [Vals.ref1 r]
      have hi : IntsAre its ns := Vals.ints rv
      obtain ⟨xs, ex⟩ := hi.allInts.items
      have hn : numsOf (intItems xs).toList = ns := by rw [← ex]; exact hi.numsOf
      rw [nums_intItems] at hn
      rw [ex] at ht
      refine PySem.W.ktm_sumG (I.ok.hd hc) ht fun h' tk t' hk => ⟨.int ns.sum, H, I.kept hk, ⟨t', ?_⟩, k _ γ H Ext.refl (.int _) ss⟩
      rw [preSum_eq, List.take_of_length_le (by simp), hn]
  · exact cr_sumW hc pins s σ H vs us Q I r ⟨ws, S, γ, w, rs, ss, e, k⟩
end Mp

set_option Elab.async false
set_option linter.all false
set_option maxRecDepth 100000
set_option maxHeartbeats 4000000
/-! Mp: stars in displays, ranges downwards, ranges as lists and tuples, lists backwards, min and max of lists of ints. -/
namespace Mp
open PySem PySem.Spec PyProof.Rows L2
def maStar (f : ME) (g : MA) : MA := fun η S => (f η S).bind fun x S1 => match seqOf S1 x with
  | some xs => (g η S1).bind fun ys S2 => .ok (xs ++ ys) S2
  | none => .stuck
def rangeD (hi : Int) (n : Nat) : List W := (List.range n).map fun (i : Nat) => W.int (hi + i * (-1))
def rng3 : List W → Option (List W)
  | [.int i, .int j, .int k] => if k = -1 ∧ -4611686018427387904 ≤ i ∧ i < 4611686018427387904 ∧ -4611686018427387904 ≤ j ∧ j < 4611686018427387904 then some (rangeD i (i - j).toNat) else none
  | _ => none
def mRevL (f : ME) : ME := fun η S => (f η S).bind fun x S1 => match lstOf S1 x with
  | some xs => .ok (.lst xs.reverse) S1
  | none => .stuck
/-- a range as a list (0), a list of the store (1), a tuple (2) -/
def rgOut (m : Nat) (a b : Int) (S : Store) : R W := if 0 ≤ a ∧ a ≤ 1000000 ∧ 0 ≤ b ∧ b ≤ 1000000 then (match m with
  | 0 => .ok (.lst (rangeW a (b - a).toNat)) S
  | 1 => .ok (.ref S.length) (S ++ [.lst (rangeW a (b - a).toNat)])
  | _ => .ok (.tup (rangeW a (b - a).toNat)) S) else .stuck
def mRg1 (m : Nat) (f : ME) : ME := fun η S => (f η S).bind fun x S1 => match x with
  | .int n => rgOut m 0 n S1
  | _ => .stuck
def mRg2 (m : Nat) (f g : ME) : ME := fun η S => (f η S).bind fun x S1 => (g η S1).bind fun y S2 => match x, y with
  | .int i, .int j => rgOut m i j S2
  | _, _ => .stuck
def minZ : Int → List Int → Int
  | m, [] => m
  | m, x :: r => minZ (if x < m then x else m) r
def maxZ : Int → List Int → Int
  | m, [] => m
  | m, x :: r => maxZ (if m < x then x else m) r
theorem minZ_le : ∀ (l : List Int) (m : Int), (minZ m l = m ∨ minZ m l ∈ l) ∧ minZ m l ≤ m ∧ ∀ x ∈ l, minZ m l ≤ x
  | [], m => ⟨.inl rfl, Int.le_refl _, fun x h => by cases h⟩
  | x :: r, m => by
    obtain ⟨h1, h2, h3⟩ := minZ_le r (if x < m then x else m)
    have e : minZ m (x :: r) = minZ (if x < m then x else m) r := rfl
    rw [e]
    refine ⟨?_, ?_, fun y hy => ?_⟩
    · rcases h1 with h | h
      · rw [h]
        split
        · exact .inr (List.mem_cons_self ..)
        · exact .inl rfl
      · exact .inr (List.mem_cons_of_mem _ h)
    · refine Int.le_trans h2 ?_
      split <;> omega
    · rcases List.mem_cons.mp hy with z | z
      · subst z
        refine Int.le_trans h2 ?_
        split <;> omega
      · exact h3 y z
theorem maxZ_le : ∀ (l : List Int) (m : Int), (maxZ m l = m ∨ maxZ m l ∈ l) ∧ m ≤ maxZ m l ∧ ∀ x ∈ l, x ≤ maxZ m l
  | [], m => ⟨.inl rfl, Int.le_refl _, fun x h => by cases h⟩
  | x :: r, m => by
    obtain ⟨h1, h2, h3⟩ := maxZ_le r (if m < x then x else m)
    have e : maxZ m (x :: r) = maxZ (if m < x then x else m) r := rfl
    rw [e]
    refine ⟨?_, ?_, fun y hy => ?_⟩
    · rcases h1 with h | h
      · rw [h]
        split
        · exact .inr (List.mem_cons_self ..)
        · exact .inl rfl
      · exact .inr (List.mem_cons_of_mem _ h)
    · refine Int.le_trans ?_ h2
      split <;> omega
    · rcases List.mem_cons.mp hy with z | z
      · subst z
        refine Int.le_trans ?_ h2
        split <;> omega
      · exact h3 y z
def baMinL : OA := fun xs S => match xs with
  | [x] => (lstOf S x).bind fun ys => (intsOf ys).bind fun ns => match ns with
    | [] => none
    | n :: r => some (.int (minZ n r))
  | xs => baMin2 xs S
def baMaxL : OA := fun xs S => match xs with
  | [x] => (lstOf S x).bind fun ys => (intsOf ys).bind fun ns => match ns with
    | [] => none
    | n :: r => some (.int (maxZ n r))
  | xs => baMax2 xs S
section
variable {K : PySem.W.Frag} {G : Gs} {γ : Ga} {H : Hp} {S : Store}
theorem itOk_down {hi : Int} {n : Nat} : ItOk K G (Itc hi (-1) n) (rangeD hi n) γ H := by
  refine ⟨fun i γ' H' S h e _ => ?_, fun γ' H' S e _ => ?_, fun i w γ' H' S x H'' hw e s y => ?_⟩
  · show i < n
    unfold rangeD at h
    simpa using h
  · show n ≤ _
    unfold rangeD
    simp
  · obtain ⟨e1, y⟩ := y
    subst e1 y
    unfold rangeD at hw
    rw [List.getElem?_map] at hw
    cases hr : (List.range n)[i]? with
    | none => rw [hr] at hw; cases hw
    | some k =>
      rw [hr] at hw
      cases hw
      obtain ⟨h1, h2⟩ := List.getElem?_eq_some_iff.mp hr
      rw [List.getElem_range] at h2
      subst h2
      exact ⟨Ext.refl, s, .int _⟩
theorem rgV_reps (a b : Int) : Reps K G γ H (rangeW a (b - a).toNat) (rgV a b) := by
  unfold rangeW rgV
  induction (List.range (b - a).toNat) with
  | nil => exact .nil
  | cons x r ih => exact .cons (.int _) ih
theorem pures_rangeW (a : Int) (n : Nat) : pures (rangeW a n) = true := by
  unfold rangeW
  induction (List.range n) with
  | nil => rfl
  | cons x r ih =>
    show (true && pures (r.map fun (i : Nat) => W.int (a + i))) = true
    rw [ih] <;> rfl
end
section
variable {X : Cx} {G : Gs} {a b c e : Expr} {es : List Expr} {pos p p1 p2 p3 : Pos} {f g h : ME} {ga : MA} {tg : Expr}
theorem sa_star (ha : SE X G e f) (hr : SA X G es ga) (hs : starEach (.Starred e p :: es) X.env = (true, eval e X.env) :: starEach es X.env := by rfl) : SA X G (.Starred e p :: es) (maStar f ga) := by
  refine ⟨fun Wi tk => (StX.pa_star (ha.run Wi tk) (hr.run Wi tk) hs).imp ?_⟩
  rintro σ H Q ⟨η, S, γ, he, hs, q⟩
  refine ⟨η, S, γ, he, hs, (Post.seq q).imp fun x H1 ⟨wx, S1, γ1, e1, r1, s1, q1⟩ => ?_⟩
  cases es : seqOf S1 wx with
  | none =>
    simp only [es] at q1
    exact q1.elim
  | some xs =>
    simp only [es] at q1
    obtain ⟨a, vs, ev, hq, qr⟩ := seq_or s1 es r1
    subst ev
    exact ⟨a, vs, rfl, hq.elim .inr .inl, η, S1, γ1, he.mono e1, s1, (Post.seq q1).imp fun y H2 ⟨wy, S2, γ2, e2, r2, s2, q2⟩ => q2 _ γ2 H2 Ext.refl ((qr.mono e2).append r2) s2⟩
theorem si_range3 (hm : X.mg "range" = none) (ha : SA X G [a, b, c] ga) (hg : Gl X "range" := by rfl) (hs : starEach [a, b, c] X.env = (false, eval a X.env) :: starEach [b, c] X.env := by rfl) (hpl : (backTo pos (starEach [b, c] X.env)).any (·.1) = false := by rfl) :
    SI X G tg (.Call (.Name "range" p) [a, b, c] [] pos) (miRng rng3 ga) := by
  refine ⟨fun Wi tk => (pi_range3 hg hm (ha.run Wi tk) hs hpl).imp ?_⟩
  rintro σ H R ⟨η, S, γ, he, hs, q⟩
  refine ⟨η, S, γ, he, hs, (PostI.seq q).imp fun x H1 ⟨wx, S1, γ1, e1, r1, s1, q1⟩ => ?_⟩
  unfold rng3 at q1
  split at q1
  · rename_i i j k
    split at q1
    · rename_i hj
      obtain ⟨hk, h1, h2, h3, h4⟩ := hj
      subst hk
      cases r1 with
      | cons r r1 =>
        cases r1 with
        | cons r' r1 =>
          cases r1 with
          | cons r'' r1 =>
            cases r1
            cases r
            cases r'
            cases r''
            exact ⟨_, _, _, _, rfl, RgC.neg (by omega) (by omega) (by omega) (by omega), q1 _ γ1 H1 Ext.refl s1 itOk_down⟩
    · exact q1.elim
  · exact q1.elim
theorem se_revL {k : Nat} (ha : SE X G e f) : SE X G (.Subscript e (.Slice none none (some (.UnaryOp .USub (.Constant (.int 1) k p1) p2)) p3) pos) (mRevL f) := by
  refine ⟨fun Wi tk => (pe_revL (ha.run Wi tk)).imp ?_⟩
  rintro σ H Q ⟨η, S, γ, he, hs, q⟩
  refine ⟨η, S, γ, he, hs, (Post.seq q).imp fun x H1 ⟨wx, S1, γ1, e1, r1, s1, q1⟩ => ?_⟩
  cases el : lstOf S1 wx with
  | none =>
    simp only [el] at q1
    exact q1.elim
  | some xs =>
    simp only [el] at q1
    obtain ⟨a, vs, ev, hq, qr⟩ := lst_or s1 el r1
    refine ⟨a, vs, ev, hq, fun p hp => ?_⟩
    have ex := Ext.upd (K := X.K) (G := G) s1 (o := .lst vs.reverse) hp
    exact q1 _ γ1 _ ex (.lst upd_same (s1.fresh hp) (Reps.rev (qr.mono ex))) (s1.upd hp)
theorem rg_ok {a b : Int} (h : 0 ≤ a ∧ a ≤ 1000000 ∧ 0 ≤ b ∧ b ≤ 1000000) : RgOk a b := RgOk.of_le h.1 (by omega) (by omega) h.2.2.1
theorem rg_post {wx : Wx} {γ : Ga} {H : Hp} {S : Store} {m : Nat} {i j : Int} {Q : VK} (s : StoreOk X.K G γ H S) (hm : m < 2) (q : Post X.K G (Rep X.K G) wx γ H (rgOut m i j S) Q) : RgOk i j ∧ ∀ p, H p = none → Q (.ref p) (upd H p (.lst (rgV i j))) := by
  unfold rgOut at q
  split at q
  · rename_i hr
    refine ⟨rg_ok hr, fun p hp => ?_⟩
    match m, hm with
    | 0, _ =>
      have ex := Ext.upd (K := X.K) (G := G) s (o := .lst (rgV i j)) hp
      exact q _ γ _ ex (.lst upd_same (s.fresh hp) (rgV_reps i j)) (s.upd hp)
    | 1, _ =>
      have ex := Ext.push (K := X.K) (G := G) s (o := .lst (rgV i j)) hp
      refine q _ _ _ ex (.ref ?_) (s.push hp (pures_rangeW _ _) (rgV_reps i j))
      show (γ.ρ ++ [p])[S.length]? = some p
      rw [← s.len, List.getElem?_append_right (Nat.le_refl _), Nat.sub_self] <;> rfl
  · exact q.elim
theorem rg_postT {wx : Wx} {γ : Ga} {H : Hp} {S : Store} {i j : Int} {Q : VK} (s : StoreOk X.K G γ H S) (q : Post X.K G (Rep X.K G) wx γ H (rgOut 2 i j S) Q) : RgOk i j ∧ ∀ p, H p = none → Q (.ref p) (upd H p (.tup (rgV i j))) := by
  unfold rgOut at q
  split at q
  · rename_i hr
    refine ⟨rg_ok hr, fun p hp => ?_⟩
    have ex := Ext.upd (K := X.K) (G := G) s (o := .tup (rgV i j)) hp
    exact q _ γ _ ex (.tup (.inl ⟨.inl upd_same, s.fresh hp⟩) (rgV_reps i j)) (s.upd hp)
  · exact q.elim
theorem se_listRg1 (m : Nat) (cf : Cfg X) (hm : X.mg "list" = none) (hmr : X.mg "range" = none) (ha : SE X G a f) (hk : m < 2 := by decide) (hg : Gl X "list" := by rfl) (hgr : Gl X "range" := by rfl)
    (na : starEach [a] X.env = (false, eval a X.env) :: starEach [] X.env := by rfl) (nb : starEach [.Call (.Name "range" p1) [a] [] p2] X.env = (false, eval (.Call (.Name "range" p1) [a] [] p2) X.env) :: starEach [] X.env := by rfl) :
    SE X G (.Call (.Name "list" p) [.Call (.Name "range" p1) [a] [] p2] [] pos) (mRg1 m f) := by
  refine ⟨fun Wi tk => (pe_listRg cf.calm hg hm (prg_1 hgr hmr (ha.run Wi tk) na) nb).imp ?_⟩
  rintro σ H Q ⟨η, S, γ, he, hs, q⟩
  refine ⟨η, S, γ, he, hs, (Post.seq q).imp fun x H1 ⟨wx, S1, γ1, e1, r1, s1, q1⟩ => ?_⟩
  split at q1
  · cases r1
    exact ⟨_, rfl, rg_post s1 hk q1⟩
  · exact q1.elim
theorem se_listRg2 (m : Nat) (cf : Cfg X) (hm : X.mg "list" = none) (hmr : X.mg "range" = none) (ha : SE X G a f) (hb : SE X G b g) (hk : m < 2 := by decide) (hg : Gl X "list" := by rfl) (hgr : Gl X "range" := by rfl)
    (na : starEach [a, b] X.env = (false, eval a X.env) :: starEach [b] X.env := by rfl) (nb : starEach [b] X.env = (false, eval b X.env) :: starEach [] X.env := by rfl) (hp : (backTo p2 (starEach [b] X.env)).any (·.1) = false := by rfl)
    (nc : starEach [.Call (.Name "range" p1) [a, b] [] p2] X.env = (false, eval (.Call (.Name "range" p1) [a, b] [] p2) X.env) :: starEach [] X.env := by rfl) :
    SE X G (.Call (.Name "list" p) [.Call (.Name "range" p1) [a, b] [] p2] [] pos) (mRg2 m f g) := by
  refine ⟨fun Wi tk => (pe_listRg cf.calm hg hm (prg_2 hgr hmr (ha.run Wi tk) (hb.run Wi tk) na nb hp) nc).imp ?_⟩
  rintro σ H Q ⟨η, S, γ, he, hs, q⟩
  refine ⟨η, S, γ, he, hs, (Post.seq q).imp fun x H1 ⟨wx, S1, γ1, e1, r1, s1, q1⟩ => ⟨η, S1, γ1, he.mono e1, s1, (Post.seq q1).imp fun y H2 ⟨wy, S2, γ2, e2, r2, s2, q2⟩ => ?_⟩⟩
  split at q2
  · cases r1
    cases r2
    exact ⟨_, _, rfl, rfl, rg_post s2 hk q2⟩
  · exact q2.elim
theorem se_tupRg1 (cf : Cfg X) (hm : X.mg "tuple" = none) (hmr : X.mg "range" = none) (ha : SE X G a f) (hg : Gl X "tuple" := by rfl) (hgr : Gl X "range" := by rfl)
    (na : starEach [a] X.env = (false, eval a X.env) :: starEach [] X.env := by rfl) (nb : starEach [.Call (.Name "range" p1) [a] [] p2] X.env = (false, eval (.Call (.Name "range" p1) [a] [] p2) X.env) :: starEach [] X.env := by rfl) :
    SE X G (.Call (.Name "tuple" p) [.Call (.Name "range" p1) [a] [] p2] [] pos) (mRg1 2 f) := by
  refine ⟨fun Wi tk => (pe_tupRg cf.calm hg hm (prg_1 hgr hmr (ha.run Wi tk) na) nb).imp ?_⟩
  rintro σ H Q ⟨η, S, γ, he, hs, q⟩
  refine ⟨η, S, γ, he, hs, (Post.seq q).imp fun x H1 ⟨wx, S1, γ1, e1, r1, s1, q1⟩ => ?_⟩
  split at q1
  · cases r1
    exact ⟨_, rfl, rg_postT s1 q1⟩
  · exact q1.elim
theorem cr_minL (hc : X.calm = true) : CallR X (.builtin "min") (raOf X.K G baMinL) := by
  refine (CallR.or (cr_min hc) (cr_min2 (G := G) hc)).imp ?_
  rintro xs H Q ⟨ws, S, γ, w, rs, s, h, k⟩
  unfold baMinL at h
  split at h
  · rename_i y
    cases rs with
    | cons r t =>
    cases t
    cases el : lstOf S y with
    | none => rw [el] at h; cases h
    | some ys =>
      rw [el] at h
      cases en : intsOf ys with
      | none =>
        have h : (intsOf ys).bind _ = some w := h
        rw [en] at h; cases h
      | some ns =>
        have h : (intsOf ys).bind _ = some w := h
        rw [en] at h
        cases ns with
        | nil => cases h
        | cons n rr =>
          cases h
          obtain ⟨a, vs, rfl, hs, q⟩ := lst_or s el r
          have ev := intsOf_reps' q en
          subst ev
          refine .inl ⟨a, n :: rr, rfl, hs, by rw [List.length_cons]; omega, fun m hm hle => ?_⟩
          obtain ⟨h1, h2, h3⟩ := minZ_le rr n
          have e : m = minZ n rr := by
            have a1 : minZ n rr ≤ m := by
              rcases List.mem_cons.mp hm with z | z
              · rw [z]; exact h2
              · exact h3 m z
            have a2 : m ≤ minZ n rr := by
              rcases h1 with z | z
              · rw [z]; exact hle _ (List.mem_cons_self ..)
              · exact hle _ (List.mem_cons_of_mem _ z)
            omega
          rw [e]
          exact k _ γ H Ext.refl (.int _) s
  · exact .inr ⟨ws, S, γ, w, rs, s, h, k⟩
theorem cr_maxL (hc : X.calm = true) : CallR X (.builtin "max") (raOf X.K G baMaxL) := by
  refine (CallR.or (cr_max hc) (cr_max2 (G := G) hc)).imp ?_
  rintro xs H Q ⟨ws, S, γ, w, rs, s, h, k⟩
  unfold baMaxL at h
  split at h
  · rename_i y
    cases rs with
    | cons r t =>
    cases t
    cases el : lstOf S y with
    | none => rw [el] at h; cases h
    | some ys =>
      rw [el] at h
      cases en : intsOf ys with
      | none =>
        have h : (intsOf ys).bind _ = some w := h
        rw [en] at h; cases h
      | some ns =>
        have h : (intsOf ys).bind _ = some w := h
        rw [en] at h
        cases ns with
        | nil => cases h
        | cons n rr =>
          cases h
          obtain ⟨a, vs, rfl, hs, q⟩ := lst_or s el r
          have ev := intsOf_reps' q en
          subst ev
          refine .inl ⟨a, n :: rr, rfl, hs, by rw [List.length_cons]; omega, fun m hm hle => ?_⟩
          obtain ⟨h1, h2, h3⟩ := maxZ_le rr n
          have e : m = maxZ n rr := by
            have a1 : m ≤ maxZ n rr := by
              rcases List.mem_cons.mp hm with z | z
              · rw [z]; exact h2
              · exact h3 m z
            have a2 : maxZ n rr ≤ m := by
              rcases h1 with z | z
              · rw [z]; exact hle _ (List.mem_cons_self ..)
              · exact hle _ (List.mem_cons_of_mem _ z)
            omega
          rw [e]
          exact k _ γ H Ext.refl (.int _) s
  · exact .inr ⟨ws, S, γ, w, rs, s, h, k⟩
end
end Mp

set_option Elab.async false
set_option linter.all false
set_option maxRecDepth 100000
set_option maxHeartbeats 4000000
/-! Mp: dicts of the store. -/
namespace Mp
open PySem PySem.Spec PyProof.Rows L2
section
variable {K : PySem.W.Frag} {G : Gs} {γ γ' : Ga} {H H' : Hp} {S : Store}
theorem StoreOk.writeC (s : StoreOk K G γ H S) {i : Nat} {a : Addr} {c c' : Cell} {o : HO} (hc : S[i]? = some c) (ha : γ.ρ[i]? = some a) (hn : Ext γ H γ (L2.upd H a o) → CellOk K G γ (L2.upd H a o) c' a) :
    Ext γ H γ (L2.upd H a o) ∧ StoreOk K G γ (L2.upd H a o) (S.set i c') := by
  have mem : a ∈ γ.ρ := List.mem_of_getElem? ha
  have e : Ext γ H γ (L2.upd H a o) := ⟨List.prefix_refl _, fun _ h => h, fun _ h => .inl h, fun b u q n => by
    have z : b ≠ a := fun z => n (by rw [z]; exact mem)
    rw [upd_ne z]; exact q, fun _ h1 h2 => absurd h1 h2, fun b u q => by
    by_cases z : b = a
    · exact ⟨_, by rw [z]; exact upd_same⟩
    · exact ⟨u, by rw [upd_ne z]; exact q⟩⟩
  refine ⟨e, by rw [List.length_set]; exact s.len, s.nd, fun j c2 b hc' hb => ?_, fun b hb => ?_⟩
  · by_cases hj : i = j
    · subst hj
      rw [List.getElem?_set_self (List.getElem?_eq_some_iff.mp hc).1] at hc'
      have z : c' = c2 := Option.some.inj hc'
      subst z
      rw [ha] at hb
      cases hb
      exact hn e
    · rw [List.getElem?_set_ne hj] at hc'
      have hne : b ≠ a := fun z => by
        rw [z] at hb
        obtain ⟨h1, e1⟩ := List.getElem?_eq_some_iff.mp ha
        obtain ⟨h2, e2⟩ := List.getElem?_eq_some_iff.mp hb
        exact hj ((List.getElem_inj s.nd).mp (e1.trans e2.symm))
      exact (s.cell j c2 b hc' hb).to (fun o' e' => by rw [upd_ne hne]; exact e') fun _ r => r.mono e
  · obtain ⟨n, o', q, nt⟩ := s.bt b hb
    exact ⟨n, o', by rw [upd_ne (fun z => n (by rw [z]; exact mem))]; exact q, nt⟩
theorem StoreOk.pushC (s : StoreOk K G γ H S) {p : Addr} {c : Cell} {o : HO} (h : H p = none) (hn : Ext γ H (γ.push p) (L2.upd H p o) → CellOk K G (γ.push p) (L2.upd H p o) c p) : StoreOk K G (γ.push p) (L2.upd H p o) (S ++ [c]) := by
  have e := Ext.push (K := K) (G := G) s (o := o) h
  have off := s.fresh h
  refine ⟨by simp [Ga.push, s.len], ?_, fun i c2 a hc ha => ?_, fun a ha => ?_⟩
  · show (γ.ρ ++ [p]).Nodup
    rw [List.nodup_append]
    exact ⟨s.nd, by simp, fun a ha b hb => by
      have z : b = p := by simpa using hb
      rw [z]
      rintro rfl
      exact off.1 ha⟩
  · by_cases hi : i < S.length
    · rw [List.getElem?_append_left hi] at hc
      have hi' : i < γ.ρ.length := by rw [s.len]; exact hi
      have ha' : γ.ρ[i]? = some a := by
        have z : (γ.ρ ++ [p])[i]? = some a := ha
        rwa [List.getElem?_append_left hi'] at z
      exact (s.cell i c2 a hc ha').to (fun o' e' => by rw [upd_ne (ne_of_none e' h)]; exact e') fun _ r => r.mono e
    · have hlt := (List.getElem?_eq_some_iff.mp hc).1
      rw [List.length_append, List.length_singleton] at hlt
      have ei : i = S.length := by omega
      subst ei
      rw [List.getElem?_append_right (Nat.le_refl _), Nat.sub_self] at hc
      have hc' : c = c2 := by simpa using hc
      subst hc'
      have ha' : p = a := by
        have z : (γ.ρ ++ [p])[S.length]? = some a := ha
        rw [← s.len, List.getElem?_append_right (Nat.le_refl _), Nat.sub_self] at z
        simpa using z
      subst ha'
      exact hn e
  · obtain ⟨n, o', q, nt⟩ := s.bt a ha
    refine ⟨fun z => ?_, o', by rw [upd_ne (ne_of_none q h)]; exact q, nt⟩
    rcases List.mem_append.mp z with z | z
    · exact n z
    · have z' : a = p := by simpa using z
      rw [z', h] at q
      cases q
theorem pures_keys : ∀ kvs : List (Key × V), pures (kvs.map fun p => keyW p.1) = true
  | [] => rfl
  | p :: r => by
    show ((keyW p.1).pure && pures (r.map fun p => keyW p.1)) = true
    rw [pures_keys r, Bool.and_true]
    cases p.1 <;> rfl
theorem pures_put {k w : W} (hw : w.pure = true) : ∀ {ks vs : List W}, pures vs = true → pures (putVs k w ks vs) = true := by
  intro ks vs hv
  unfold putVs
  split
  · have z : ∀ (ks vs : List W), pures vs = true → pures (setKey k w ks vs) = true := by
      intro ks
      induction ks with
      | nil => intro vs _; cases vs <;> rfl
      | cons x r ih =>
        intro vs hv
        cases vs with
        | nil => rfl
        | cons u us =>
          rw [pures, Bool.and_eq_true] at hv
          show ((if keqW x k = true then w else u).pure && pures (setKey k w r us)) = true
          rw [ih us hv.2, Bool.and_true]
          split
          · exact hw
          · exact hv.1
    exact z ks vs hv
  · rw [pures_append hv (by show (w.pure && true) = true; rw [hw]; rfl)]
def setAtD (o i w : W) (S : Store) : Option Store := match dctOf S o, o with
  | some (.bl false :: ks, vs), .ref r => if isKey i = true ∧ w.pure = true ∧ ks.length + 1 ≤ bigLine then some (S.set r (.dct (.bl false :: putKs i ks) (putVs i w ks vs))) else none
  | some _, _ => none
  | none, _ => setAt o i w S
def gIdxD (o i : ME) : MG := fun w η S => match o η S with
  | .ok ow S1 => (match i η S1 with
    | .ok iw S2 => (setAtD ow iw w S2).map fun S3 => (η, S3)
    | _ => none)
  | _ => none
theorem setAtD_sound {S' : Store} {o i w : W} {ov iv v : V} {Q : Hp → Prop} (s : StoreOk K G γ H S) (ro : Rep K G γ H o ov) (ri : Rep K G γ H i iv) (r : Rep K G γ H w v) (e : setAtD o i w S = some S')
    (q : ∀ H', Ext γ H γ H' → StoreOk K G γ H' S' → Q H') : rSetL ov iv v H Q ∨ rSetD ov iv v H Q := by
  unfold setAtD at e
  split at e
  · rename_i ks vs rr hd
    split at e
    · rename_i hk
      obtain ⟨hk1, hk2, hk3⟩ := hk
      cases e
      obtain ⟨key, rfl, rfl⟩ := key_rep ri hk1
      cases ro with
      | @ref _ a ha =>
      have hd : (match S[rr]? with
        | some (.dct ks vs) => some (ks, vs)
        | _ => none) = some (.bl false :: ks, vs) := hd
      split at hd
      · rename_i hc
        cases hd
        obtain ⟨_, pv, us, d, qv⟩ := s.cell rr _ a hc ha
        obtain ⟨kvs, hH, rfl, rfl⟩ := dct_k d
        rw [List.length_map, bigLine_eq] at hk3
        obtain ⟨x1, x2⟩ := s.writeC (o := .dK (putK kvs key v)) (c' := .dct (.bl false :: putKs (keyW key) (kvs.map fun p => keyW p.1)) (putVs (keyW key) w (kvs.map fun p => keyW p.1) vs)) hc ha fun ex => by
          refine ⟨?_, pures_put hk2 pv, _, .inl ⟨putK kvs key v, upd_same, by rw [put_ks], rfl⟩, (put_vs key r kvs qv).mono ex⟩
          rw [← put_ks key v]
          show (true && pures _) = true
          rw [pures_keys] <;> rfl
        exact .inr ⟨a, _, rfl, DPut.k hH (by omega), q _ x1 x2⟩
      · cases hd
    · cases e
  · cases e
  · exact .inl (setAt_sound s ro ri r e q)
end
theorem set_or {X : Cx} (hu : X.A.units + 1 < cLine) : PSet X fun o i v H Q => rSetL o i v H Q ∨ rSetD o i v H Q := by
  intro pins s σ H o i v ov iv u Q I ro ri rv h
  rcases h with h | h
  · exact set_list pins s σ H o i v ov iv u Q I ro ri rv h
  · exact set_dict hu pins s σ H o i v ov iv u Q I ro ri rv h
/-- {} into the store -/
def mDctS : ME := fun _ S => .ok (.ref S.length) (S ++ [.dct [.bl false] []])
/-- {} that nobody changes -/
def mDct0 : ME := fun _ S => .ok (.dct [.bl false] []) S
def omGet2 : OM := fun x ws S => match dctOf S x, ws with
  | some (.bl false :: ks, vs), [k, d] => if isKey k = true then some ((lookKey k ks vs).getD d, S) else none
  | _, _ => none
def omGet1 : OM := fun x ws S => match dctOf S x, ws with
  | some (.bl false :: ks, vs), [k] => if isKey k = true then some ((lookKey k ks vs).getD .non, S) else none
  | _, _ => none
/-- d[k] of a dict -/
def opIxD : O2 := fun x y S => match dctOf S x with
  | some (.bl false :: ks, vs) => if isKey y = true then lookKey y ks vs else none
  | _ => none
section
variable {X : Cx} {G : Gs} {a b : Expr} {pos : Pos} {f g fo fi : ME}
theorem sg_idxD (cf : Cfg X) (ho : SE X G a fo) (hi : SE X G b fi) (ha : ∀ v, assign (.Subscript a b pos) X.env v = (do
      let ov ← holding [v] (eval a X.env)
      let iv ← holding [v, ov] (eval b X.env)
      standAt pos
      holding [v, ov, iv] (setItem ov iv v)
      release [v, ov, iv] []) := by intro _; rfl) : SG X G (.Subscript a b pos) [] (gIdxD fo fi) := by
  refine ⟨(pg_sub (ho.run (fun _ _ _ _ => False) takes0) (hi.run (fun _ _ _ _ => False) takes0) (set_or (by have := cf.un; omega)) ha).imp ?_⟩
  rintro v σ H Q ⟨η, S, γ, w, η', S', he, hs, r, e, q⟩
  unfold gIdxD at e
  cases e1 : fo η S with
  | ok ow S1 =>
    rw [e1] at e
    refine ⟨η, S, γ, he, hs, ?_⟩
    rw [e1]
    intro ov γ1 H1 x1 ro s1
    cases e2 : fi η S1 with
    | ok iw S2 =>
      simp only [e2] at e
      refine ⟨η, S1, γ1, he.mono x1, s1, ?_⟩
      rw [e2]
      intro iv γ2 H2 x2 ri s2
      cases e3 : setAtD ow iw w S2 with
      | none =>
        rw [e3] at e
        cases e
      | some S3 =>
        rw [e3] at e
        cases e
        exact setAtD_sound s2 (ro.mono x2) ri ((r.mono x1).mono x2) e3 fun H3 x3 s3 => q σ γ2 H3 ((x1.trans x2).trans x3) (((he.mono x1).mono x2).mono x3) s3 rfl fun _ _ => rfl
    | exc c x S2 => simp only [e2] at e; cases e
    | stuck => simp only [e2] at e; cases e
  | exc c x S2 => rw [e1] at e; cases e
  | stuck => rw [e1] at e; cases e
theorem se_dctS : SE X G (.Dict [] [] pos) mDctS := by
  refine ⟨fun Wi tk => pe_dnewK.imp ?_⟩
  rintro σ H Q ⟨η, S, γ, he, hs, q⟩
  intro p hp
  have ex := Ext.push (K := X.K) (G := G) hs (o := .dK []) hp
  refine q _ _ _ ex (.ref ?_) (hs.pushC hp fun _ => ⟨rfl, rfl, [], .inl ⟨[], upd_same, rfl, rfl⟩, .nil⟩)
  show (γ.ρ ++ [p])[S.length]? = some p
  rw [← hs.len, List.getElem?_append_right (Nat.le_refl _), Nat.sub_self] <;> rfl
theorem se_dct0 : SE X G (.Dict [] [] pos) mDct0 := by
  refine ⟨fun Wi tk => pe_dnewK.imp ?_⟩
  rintro σ H Q ⟨η, S, γ, he, hs, q⟩
  intro p hp
  have ex := Ext.upd (K := X.K) (G := G) hs (o := .dK []) hp
  exact q _ γ _ ex (.dct (.inl ⟨[], upd_same, rfl, rfl⟩) (hs.fresh hp) .nil) (hs.upd hp)
theorem look_get {K : PySem.W.Frag} {γ : Ga} {H : Hp} {ws : List W} {kvs : List (Key × V)} {k : Key} {d : W} {dv : V} (q : Reps K G γ H ws (kvs.map (·.2))) (rd : Rep K G γ H d dv) : Rep K G γ H ((lookKey (keyW k) (kvs.map fun p => keyW p.1) ws).getD d) ((valV kvs k).getD dv) := by
  rcases look_kv k kvs q with ⟨w, v, h1, h2, h3⟩ | ⟨h1, h2⟩
  · rw [h1, h2]
    exact h3
  · rw [h1, h2]
    exact rd
theorem om_get2 (cf : Cfg X) : MtR X "dict.get" (rmOf X.K G omGet2) := by
  intro pins s σ H x xs v us Q I rx rxs h
  obtain ⟨wx, ws, S, γ, w, S3, r, rs, ss, e, k⟩ := h
  unfold omGet2 at e
  split at e
  · rename_i ks vs kk d hd
    split at e
    · rename_i hk
      cases e
      obtain ⟨a, us', rfl, dd, q⟩ := dctOf_rep ss r hd
      obtain ⟨kvs, hH, rfl, rfl⟩ := dct_k dd
      cases rs with
      | cons rk t =>
      cases t with
      | @cons _ dv _ _ rdv t =>
      cases t
      obtain ⟨key, rfl, rfl⟩ := key_rep rk hk
      cases rxs with
      | cons ra t1 =>
      cases t1 with
      | cons rb t2 =>
      cases t2
      obtain rfl : v = Value.ref a := rx
      exact d_get2 (by have := cf.un; omega) I (DGet.k (k := key) hH) ra rb fun w' s' I' rw' => ⟨_, H, I', rw', k _ γ H Ext.refl (look_get q rdv) ss⟩
    · cases e
  · cases e
theorem om_get1 (cf : Cfg X) : MtR X "dict.get" (rmOf X.K G omGet1) := by
  intro pins s σ H x xs v us Q I rx rxs h
  obtain ⟨wx, ws, S, γ, w, S3, r, rs, ss, e, k⟩ := h
  unfold omGet1 at e
  split at e
  · rename_i ks vs kk hd
    split at e
    · rename_i hk
      cases e
      obtain ⟨a, us', rfl, dd, q⟩ := dctOf_rep ss r hd
      obtain ⟨kvs, hH, rfl, rfl⟩ := dct_k dd
      cases rs with
      | cons rk t =>
      cases t
      obtain ⟨key, rfl, rfl⟩ := key_rep rk hk
      cases rxs with
      | cons ra t1 =>
      cases t1
      obtain rfl : v = Value.ref a := rx
      exact d_get1 (by have := cf.un; omega) I (DGet.k (k := key) hH) ra fun w' s' I' rw' => ⟨_, H, I', rw', k _ γ H Ext.refl (look_get q .non) ss⟩
    · cases e
  · cases e
theorem se_dix (cf : Cfg X) (ha : SE X G a f) (hb : SE X G b g) (hs : NoSl b := by intro _ _; rfl) : SE X G (.Subscript a b pos) (mBin opIxD f g) := by
  refine ⟨fun Wi tk => (pe_dget (by have := cf.un; omega) (ha.run Wi tk) (hb.run Wi tk) hs).imp ?_⟩
  rintro σ H Q ⟨η, S, γ, he, hst, q⟩
  refine ⟨η, S, γ, he, hst, (Post.seq q).imp fun x H1 ⟨wx, S1, γ1, e1, r1, s1, q1⟩ => ⟨η, S1, γ1, he.mono e1, s1, (Post.seq q1).imp fun y H2 ⟨wy, S2, γ2, e2, r2, s2, q2⟩ => ?_⟩⟩
  have r1' := r1.mono e2
  unfold opIxD at q2
  split at q2
  · rename_i ks vs hd
    split at q2
    · rename_i hk
      obtain ⟨a, us', rfl, dd, q⟩ := dctOf_rep s2 r1' hd
      obtain ⟨kvs, hH, rfl, rfl⟩ := dct_k dd
      obtain ⟨key, rfl, rfl⟩ := key_rep r2 hk
      rcases look_kv key kvs q with ⟨w, v, h1, h2, h3⟩ | ⟨h1, h2⟩
      · rw [h1] at q2
        refine ⟨a, v, rfl, ?_, q2 _ γ2 H2 Ext.refl h3 s2⟩
        have g := DGet.k (k := key) hH
        rw [h2] at g
        exact g
      · rw [h1] at q2
        exact q2.elim
    · exact q2.elim
  · exact q2.elim
end
end Mp

set_option Elab.async false
set_option linter.all false
set_option maxRecDepth 100000
set_option maxHeartbeats 4000000
/-! Mp: own exceptions with one field: made, raised. -/
namespace Mp
open PySem PySem.Spec PyProof.Rows L2
/-- def __init__(self, f): self.f = f -/
def spI (C : Addr) (f : Str) : Sp := fun vs H Q _ => ∃ (a : Addr) (v : V), vs = [.ref a, v] ∧ H a = some (exo a C none) ∧ ∀ dx, H dx = none → dx ≠ a → Q .non (upd (upd H dx (exd dx [(f, v)])) a (exo a C (some dx)))
/-- what is known of an own exception's class -/
structure ErrF (P : Program) (w : World) (K : PySem.W.Frag) (mg : Str → Option Value) (base : Heap) (C : Addr) (x f : Str) : Prop where
  gl : mg x = some (.ref C)
  oex : OexC K C
  xf : XfC K C
  ec : ExcC K C
  no : PySem.W.findIn K (.ref C) f = some none
  ini : ∃ fI fd, PySem.W.findIn K (.ref C) "__init__" = some (some (.ref fI)) ∧ PySem.W.typeIn K (.ref fI) = some (.type "function") ∧ FnOk P w K mg base CX0 1 fI fd ["self", f] (spI C f) ∧ Binds K fd ["self", f] []
def sRaise (c : Nat) (f : ME) : MS := fun η S => (f η S).toS η fun w S1 => .exc c w η S1
theorem upd_back {H : Hp} {a dx : Addr} {o1 o2 o3 o4 : HO} (ha : H a = none) (hn : dx ≠ a) : upd (del (upd (upd (upd H a o1) dx o2) a o3) a) dx o4 = upd H dx o4 := by
  funext y
  by_cases h1 : y = dx
  · rw [h1, upd_same, upd_same]
  · rw [upd_ne h1, upd_ne h1]
    unfold del
    by_cases h2 : y = a
    · rw [if_pos h2, h2, ha]
    · rw [if_neg h2, upd_ne h2, upd_ne h1, upd_ne h2]
section
variable {X : Cx} {G : Gs} {c : Nat} {e : Expr} {f : ME} {x : Str} {p pos pos2 : Pos}
theorem ss_raise (cf : Cfg X) (E : ErrF X.prog X.w X.K X.mg X.base (G.ca c) x (G.nm c)) (hr : Room 2 X.A) (ha : SA X G (e :: []) (maCons f maNil)) (hg : Gl X x := by rfl) (hdb : (x == ("__debug__" : Str)) = false := by decide)
    (h1 : starEach (e :: []) X.env = (false, eval e X.env) :: starEach [] X.env := by rfl) (hpl : (backTo pos (starEach [] X.env)).any (·.1) = false := by rfl) :
    SS X G (.Raise (some (.Call (.Name x p) [e] [] pos)) none pos2) (sRaise c f) := by
  obtain ⟨fI, fd, i1, i2, F1, hb⟩ := E.ini
  refine ⟨fun Wi tk => (ps_raise cf.calm tk (pmk_oex (dvs := []) E.oex i1 i2 F1 hr hb .nil pass0 hg E.gl (ha.run Wi tk) hdb h1 hpl)).imp ?_⟩
  rintro D σ H ⟨η, S, γ, hη, hs, q⟩
  refine ⟨η, S, γ, hη, hs, ?_⟩
  have q : PostS X.K G Wi γ H ((f η S).toS η fun w S1 => .exc c w η S1) D := q
  show Post X.K G (Reps X.K G) _ γ H ((f η S).bind fun w S1 => (maNil η S1).bind fun ws S2 => .ok (w :: ws) S2) _
  cases ef : f η S with
  | stuck =>
    rw [ef] at q
    exact q.elim
  | exc c2 x2 S1 =>
    rw [ef] at q
    exact fun v d γ' H' e' r s hd ho => q v d σ γ' H' e' (hη.mono e') r s hd ho
  | ok w S1 =>
    rw [ef] at q
    intro vs γ1 H1 e1 r1 s1
    cases r1 with
    | cons r1 r2 =>
    cases r2
    rename_i v
    refine ⟨by show 1 ≤ 1000; decide, fun a hA => ⟨a, v, rfl, upd_same, fun dx hd hn => ⟨rfl, dx, [(G.nm c, v)], upd_same, ?_, ?_, ?_⟩⟩⟩
    · rw [upd_ne hn, upd_same]
    · rw [upd_ne hn] at hd
      exact hd
    · rw [upd_ne hn] at hd
      rw [upd_back hA hn]
      have ex := Ext.upd (K := X.K) (G := G) s1 (o := .xd [(G.nm c, v)]) hd
      have q : ∀ v d σ' γ' H', Ext γ H γ' H' → EnvOk X.K G γ' H' η σ' → Rep X.K G γ' H' w v → StoreOk X.K G γ' H' S1 → H' d = some (.xd [(G.nm c, v)]) → γ'.Off d → Wi (.ref (G.ca c)) (some d) σ' H' := q
      exact q v dx σ γ1 _ (e1.trans ex) (hη.mono (e1.trans ex)) (r1.mono ex) (s1.upd hd) upd_same (s1.fresh hd)
end
end Mp

set_option Elab.async false
set_option linter.all false
set_option maxRecDepth 100000
set_option maxHeartbeats 4000000
/-! Mp: try .. except .. as. -/
namespace Mp
open PySem PySem.Spec PyProof.Rows L2
mutual
def noX : W → Bool
  | .exc _ _ => false
  | .tup xs => noXs xs
  | .lst xs => noXs xs
  | .scr xs => noXs xs
  | .dct _ vs => noXs vs
  | _ => true
def noXs : List W → Bool
  | [] => true
  | x :: xs => noX x && noXs xs
end
mutual
theorem pure_noX : ∀ {w : W}, w.pure = true → noX w = true
  | .exc _ _, h => by cases h
  | .tup xs, h => by unfold noX; exact pures_noX (by simpa [W.pure] using h)
  | .lst xs, h => by unfold noX; exact pures_noX (by simpa [W.pure] using h)
  | .scr xs, h => by unfold noX; exact pures_noX (by simpa [W.pure] using h)
  | .dct ks vs, h => by
    unfold noX
    rw [W.pure, Bool.and_eq_true] at h
    exact pures_noX h.2
  | .non, _ => rfl
  | .bl _, _ => rfl
  | .int _, _ => rfl
  | .str _, _ => rfl
  | .ref _, _ => rfl
  | .fn _, _ => rfl
  | .cls _, _ => rfl
theorem pures_noX : ∀ {ws : List W}, pures ws = true → noXs ws = true
  | [], _ => rfl
  | x :: xs, h => by
    unfold noXs
    rw [pures, Bool.and_eq_true] at h
    rw [pure_noX h.1, pures_noX h.2] <;> rfl
end
section
variable {K : PySem.W.Frag} {G G' : Gs} {γ : Ga} {H : Hp}
mutual
theorem Rep.cast (hf : G'.fa = G.fa) : ∀ {w : W} {v : V}, noX w = true → Rep K G γ H w v → Rep K G' γ H w v
  | _, _, _, .non => .non
  | _, _, _, .bl b => .bl b
  | _, _, _, .int i => .int i
  | _, _, _, .str s h1 h2 => .str s h1 h2
  | _, _, p, .tup h r => .tup h (Reps.cast hf (by unfold noX at p; exact p) r)
  | _, _, p, .lst h q r => .lst h q (Reps.cast hf (by unfold noX at p; exact p) r)
  | _, _, p, .scr h r => .scr h (Reps.cast hf (by unfold noX at p; exact p) r)
  | _, _, _, .ref h => .ref h
  | _, _, _, .fn f => hf ▸ .fn f
  | _, _, p, .dct d q r => .dct d q (Reps.cast hf (by unfold noX at p; exact p) r)
theorem Reps.cast (hf : G'.fa = G.fa) : ∀ {ws : List W} {vs : List V}, noXs ws = true → Reps K G γ H ws vs → Reps K G' γ H ws vs
  | _, _, _, .nil => .nil
  | _, _, p, .cons r t => by
    unfold noXs at p
    obtain ⟨p1, p2⟩ := Bool.and_eq_true_iff.mp p
    exact .cons (Rep.cast hf p1 r) (Reps.cast hf p2 t)
end
theorem StoreOk.cast {S : Store} (hf : G'.fa = G.fa) (s : StoreOk K G γ H S) : StoreOk K G' γ H S := by
  refine ⟨s.len, s.nd, fun i c a hc ha => ?_, s.bt⟩
  have q := s.cell i c a hc ha
  cases c with
  | lst xs =>
    obtain ⟨p, vs, hv, r⟩ := q
    exact ⟨p, vs, hv, Reps.cast hf (pures_noX p) r⟩
  | dct ks ws =>
    obtain ⟨p0, p, us, d, r⟩ := q
    exact ⟨p0, p, us, d, Reps.cast hf (pures_noX p) r⟩
  | ins _ _ => exact q.elim
def envX (η : Env) : Bool := η.all fun o => match o with
  | some w => noX w
  | none => true
theorem EnvOk.cast {η : Env} {σ : L2.St} (hf : G'.fa = G.fa) (hx : envX η = true) (h : EnvOk K G γ H η σ) : EnvOk K G' γ H η σ := ⟨h.1, fun i w q => by
  obtain ⟨v, e1, r⟩ := h.2 i w q
  have := List.all_eq_true.mp hx (some w) (List.mem_of_getElem? q)
  exact ⟨v, e1, r.cast hf this⟩⟩
theorem EnvOk.setNone {η : Env} {σ : L2.St} (h : EnvOk K G γ H η σ) (i : Nat) : EnvOk K G γ H (η.set i none) (σ.set i none) := by
  refine ⟨by rw [List.length_set, List.length_set]; exact h.1, fun j w q => ?_⟩
  by_cases hij : i = j
  · subst hij
    have hlt : i < η.length := by
      have := (List.getElem?_eq_some_iff.mp q).1
      rwa [List.length_set] at this
    rw [List.getElem?_set_self hlt] at q
    cases q
  · rw [List.getElem?_set_ne hij] at q
    rw [List.getElem?_set_ne hij]
    exact h.2 j w q
theorem EnvOk.unset {η : Env} {σ : L2.St} (h : EnvOk K G γ H η σ) (i : Nat) : EnvOk K G γ H (η.set i none) σ := by
  refine ⟨by rw [List.length_set]; exact h.1, fun j w q => ?_⟩
  by_cases hij : i = j
  · subst hij
    have hlt : i < η.length := by
      have := (List.getElem?_eq_some_iff.mp q).1
      rwa [List.length_set] at this
    rw [List.getElem?_set_self hlt] at q
    cases q
  · rw [List.getElem?_set_ne hij] at q
    exact h.2 j w q
end
def _root_.Mp.Gs.exn (G : Gs) (a d : Addr) (c : Nat) : Gs := { G with ea := a, ed := d, ec := c }
/-- behind an exception -/
def sCatch (i : Nat) (h : MS) (c : Nat) (x : W) (η1 : Env) (S1 : Store) : RS := if envX η1 = true ∧ noX x = true then (match h (η1.set i (some (.exc c x))) S1 with
  | .nx η2 S2 => if envX (η2.set i none) = true then .nx (η2.set i none) S2 else .stuck
  | .ret w S2 => if noX w = true then .ret w S2 else .stuck
  | _ => .stuck) else .stuck
def sTry (i : Nat) (b h : MS) : MS := fun η S => match b η S with
  | .exc c x η1 S1 => sCatch i h c x η1 S1
  | r => r
theorem Cfg.tr {X : Cx} (cf : Cfg X) (pn : List (Addr × Obj)) (xe : Value → Shared → Prop) (h : PassesOwn (model X.prog X.w) X.A X.env xe) : Cfg (X.tr pn xe) := ⟨cf.calm, cf.nd, h, cf.un⟩
section
variable {X : Cx} {G : Gs} {i : Nat} {xn n : Str} {ce : Value} {body suite : List Stmt} {b₀ : Stmt} {np pos pos' : Pos} {b h : MS}
theorem ss_try (i : Nat) (cf : Cfg X) (hi : X.N[i]? = some n) (hln : X.env.kindOf n = some .local) (hc : Names X xn ce) (hE : ∀ c, PySem.W.exmOne X.K (.ref (G.ca c)) ce = some true)
    (hb : ∀ (pn : List (Addr × Obj)) (xe : Value → Shared → Prop), Cfg (X.tr pn xe) → SSs (X.tr pn xe) G body b)
    (hs : ∀ (a : Addr) (oe : Obj) (c : Nat) (d : Addr) (pn : List (Addr × Obj)), Zc (.ref (G.ca c)) (some d) oe → (∃ vs, oe.data = .fields vs) → SSs (X.suite a ((a, oe) :: pn)) (G.exn a d c) (b₀ :: suite) h)
    (h1 : X.stack = X.env :: X.outer := by rfl) (h2 : X.env.frame = some X.env.locals := by rfl) :
    SS X G (.Try body [.ExceptHandler (some (.Name xn np)) (some n) (b₀ :: suite) pos'] [] [] pos) (sTry i b h) := by
  refine ⟨fun Wi tk => (ps_try_as (i := i) (tb := fun W => tsOf X.K G W b) (ts := fun a cls d D σ H => ∃ c dd, cls = .ref (G.ca c) ∧ d = some dd ∧ tsOf X.K (G.exn a dd c) (fun _ _ _ _ => False) h D σ H) (Wout := Wi) h1 h2 cf.nd hi hln hc tk (fun W pn xe tk2 po => (hb pn xe (cf.tr pn xe po)).run W tk2) (fun a oe cls d pn hz hf => ?_)).imp ?_⟩
  · refine ⟨fun pins s σ H D I q => ?_⟩
    obtain ⟨c, dd, rfl, rfl, q⟩ := q
    exact ((hs a oe c dd pn hz hf).run _ takes0).run pins s σ H D I q
  · rintro D σ H ⟨η, S, γ, hη, hS, q⟩
    refine ⟨η, S, γ, hη, hS, ?_⟩
    have q : PostS X.K G Wi γ H (match b η S with
      | .exc c x η1 S1 => sCatch i h c x η1 S1
      | r => r) D := q
    cases e : b η S with
    | nx η1 S1 => rw [e] at q; exact q
    | bk η1 S1 => rw [e] at q; exact q
    | ct η1 S1 => rw [e] at q; exact q
    | ret w S1 => rw [e] at q; exact q
    | stuck => rw [e] at q; exact q
    | exc c x η1 S1 =>
      rw [e] at q
      have q : PostS X.K G Wi γ H (sCatch i h c x η1 S1) D := q
      intro v d σ' γ' H' e' he' r' s' hd ho
      refine ⟨true, hE c, fun _ a hA => ?_, fun z => by cases z⟩
      have f1 : (G.exn a d c).fa = G.fa := rfl
      have f2 : G.fa = (G.exn a d c).fa := rfl
      unfold sCatch at q
      split at q
      · rename_i hx
        refine ⟨c, d, rfl, rfl, η1.set i (some (.exc c x)), S1, γ', ?_, s'.cast f1, ?_⟩
        · have r2 : Rep X.K (G.exn a d c) γ' H' (.exc c x) (.ref a) := Rep.exc (G := G.exn a d c) hd ho (r'.cast f1 hx.2)
          exact (he'.cast f1 hx.1).set r2 i
        · cases e2 : h (η1.set i (some (.exc c x))) S1 with
          | nx η2 S2 =>
            rw [e2] at q
            have q : PostS X.K G Wi γ H (if envX (η2.set i none) = true then .nx (η2.set i none) S2 else .stuck) D := q
            split at q
            · rename_i hx2
              intro σ2 γ2 H2 ex hη2 hS2
              exact q (σ2.set i none) γ2 H2 (e'.trans ex) ((hη2.setNone i).cast f2 hx2) (hS2.cast f2)
            · exact q.elim
          | ret w S2 =>
            rw [e2] at q
            have q : PostS X.K G Wi γ H (if noX w = true then .ret w S2 else .stuck) D := q
            split at q
            · rename_i hx2
              intro v2 γ2 H2 ex r2 hS2
              exact q v2 γ2 H2 (e'.trans ex) (r2.cast f2 hx2) (hS2.cast f2)
            · exact q.elim
          | bk η2 S2 => rw [e2] at q; exact q.elim
          | ct η2 S2 => rw [e2] at q; exact q.elim
          | stuck => rw [e2] at q; exact q.elim
          | exc c2 x2 η2 S2 => rw [e2] at q; exact q.elim
      · exact q.elim
end
end Mp

set_option Elab.async false
set_option linter.all false
set_option maxRecDepth 100000
set_option maxHeartbeats 4000000
/-! Mp: isinstance(e, C) and e.f of the exception that is handled. -/
namespace Mp
open PySem PySem.Spec PyProof.Rows L2
def mIsX (cs : Nat → Bool) (f : ME) : ME := fun η S => (f η S).bind fun w S1 => match w with
  | .exc c _ => .ok (.bl (cs c)) S1
  | _ => .stuck
def mXF (cs : Nat → Bool) (f : ME) : ME := fun η S => (f η S).bind fun w S1 => match w with
  | .exc c x => if cs c = true then .ok x S1 else .stuck
  | _ => .stuck
def rIsD (K : PySem.W.Frag) (C a d : Addr) : List V → Hp → VK → Prop := fun xs H Q =>
  ∃ (c : V) (cv : Value) (b : Bool), xs = [.ref a, c] ∧ (∀ u, RelV c u → u = cv) ∧ PySem.W.kitOne K (.ref C) cv = some b ∧ (∃ fs, H d = some (.xd fs)) ∧ Q (.bl b) H
section
variable {X : Cx} {G : Gs} {a d C : Addr} {c : Nat} {oe : Obj} {pn : List (Addr × Obj)}
theorem call_isD (O : OexC X.K C) (E : ExcC X.K C) (hz : Zc (.ref C) (some d) oe) (hf : ∃ vs, oe.data = .fields vs) : CallR (X.suite a ((a, oe) :: pn)) (.builtin "isinstance") (rIsD X.K C a d) := by
  intro pins s σ H xs us Q I r h
  obtain ⟨c, cv, b, rfl, hcv, e, ⟨fs, hd⟩, q⟩ := h
  cases r with
  | cons rx rr =>
  cases rr with
  | cons rc rn =>
  cases rn
  rename_i ux uc
  obtain rfl : ux = Value.ref a := rx
  obtain rfl := hcv _ rc
  obtain ⟨ha, _⟩ := I.pin (a, oe) (List.mem_append_left _ List.mem_cons_self)
  obtain ⟨vs, hdat⟩ := hf
  have hx : ObjOk X.prog X.w H s.heap d (.xd fs) := I.hok d _ hd
  obtain ⟨mA, hns, hr⟩ := hx
  obtain ⟨od, ho, hl⟩ := lookIn_ns hns
  have hcl : (PySem.W.clsIn X.K C).isSome = true := by
    obtain ⟨nm, q2, N, bs, bm, sn, sub, ab, col, dd, k0, k1, k2, k3, k5, hC, _⟩ := O.cls
    unfold PySem.W.clsIn
    rw [show List.lookup C X.K = _ from hC] <;> rfl
  have J : PySem.W.InstAt s.heap a oe C (some od) := ⟨ha, hz.1, by unfold PySem.W.notCls; rw [hdat] <;> rfl, by rw [hz.2]; exact ho⟩
  exact PySem.W.kia_one (PySem.W.kitx_exc hcl E.hg E.hk E.hs E.ha E.hn E.ht E.hm) I.kIn J e (fun z => nomatch z) fun tk => ⟨.bl b, H, I.kept fun _ _ z => z, rfl, q⟩
variable {e : Expr} {f : ME} {x n : Str} {p p2 pos : Pos}
/-- isinstance of a class of the program -/
theorem se_isX (cs : Nat → Bool) (u : Value) (v : V) (O : OexC X.K (G.ca c)) (E : ExcC X.K (G.ca c)) (hz : Zc (.ref (G.ca c)) (some d) oe) (hf : ∃ vs, oe.data = .fields vs) (hm : X.mg "isinstance" = none)
    (hx : PE (X.suite a ((a, oe) :: pn)) (.Name x p2) (tC v)) (hv : ∀ w, RelV v w → w = u) (hk : PySem.W.kitOne X.K (.ref (G.ca c)) u = some (cs c)) (ha : SE (X.suite a ((a, oe) :: pn)) (G.exn a d c) e f)
    (hg : Gl X "isinstance" := by rfl)
    (h1 : starEach (e :: [.Name x p2]) X.env = (false, eval e X.env) :: starEach [.Name x p2] X.env := by rfl) (h2 : starEach [.Name x p2] X.env = (false, eval (.Name x p2) X.env) :: starEach [] X.env := by rfl)
    (hpl : (backTo pos (starEach [.Name x p2] X.env)).any (·.1) = false := by rfl) : SE (X.suite a ((a, oe) :: pn)) (G.exn a d c) (.Call (.Name "isinstance" p) [e, .Name x p2] [] pos) (mIsX cs f) := by
  refine ⟨fun Wi tk => (pe_callB (call_isD O E hz hf) hg hm (by decide +kernel) (pa_cons (ha.run Wi tk) (pa_cons hx pa_nil h2) h1) (by decide) (by decide) h1 hpl).imp ?_⟩
  rintro σ H Q ⟨η, S, γ, he, hs, q⟩
  refine ⟨η, S, γ, he, hs, (Post.seq q).imp fun y H1 ⟨wy, S1, γ1, e1, r1, s1, q1⟩ => ?_⟩
  cases wy with
  | exc c2 x2 =>
    have h3 : c2 = c ∧ y = .ref a ∧ ∃ fs, H1 d = some (.xd fs) := by
      generalize hw : W.exc c2 x2 = ww at r1
      cases r1 <;> cases hw
      rename_i g1 g2 g3 g4
      exact ⟨rfl, rfl, _, g1⟩
    obtain ⟨rfl, rfl, hd⟩ := h3
    exact ⟨v, u, cs c2, rfl, hv, hk, hd, q1 _ γ1 H1 Ext.refl (.bl _) s1⟩
  | _ => exact q1.elim
/-- its field -/
theorem se_xf (cs : Nat → Bool) (h : cs c = true → XfC X.K (G.ca c) ∧ PySem.W.findIn X.K (.ref (G.ca c)) n = some none ∧ G.nm c = n) (hz : Zc (.ref (G.ca c)) (some d) oe) (hf : ∃ vs, oe.data = .fields vs)
    (ha : SE (X.suite a ((a, oe) :: pn)) (G.exn a d c) e f) (hb : attributeBase e n X.env (eval e X.env) = eval e X.env := by rfl) : SE (X.suite a ((a, oe) :: pn)) (G.exn a d c) (.Attribute e n pos) (mXF cs f) := by
  by_cases hc : cs c = true
  · obtain ⟨T, hno, hn⟩ := h hc
    refine ⟨fun Wi tk => (pe_xf T hno hz hf (ha.run Wi tk) hb).imp ?_⟩
    rintro σ H Q ⟨η, S, γ, he, hs, q⟩
    refine ⟨η, S, γ, he, hs, (Post.seq q).imp fun y H1 ⟨wy, S1, γ1, e1, r1, s1, q1⟩ => ?_⟩
    cases wy with
    | exc c2 x2 =>
      have h3 : c2 = c ∧ y = .ref a ∧ ∃ v, H1 d = some (.xd [(G.nm c, v)]) ∧ Rep X.K (G.exn a d c) γ1 H1 x2 v := by
        generalize hw : W.exc c2 x2 = ww at r1
        cases r1 <;> cases hw
        rename_i g1 g2 g3 g4
        exact ⟨rfl, rfl, _, g1, by assumption⟩
      obtain ⟨rfl, rfl, v, hd, rv⟩ := h3
      have q1 : Post X.K (G.exn a d c2) (Rep X.K (G.exn a d c2)) (fun c d H' => Wi c d σ H') γ1 H1 (if cs c2 = true then .ok x2 S1 else .stuck) Q := q1
      rw [if_pos hc] at q1
      refine ⟨rfl, rfl, d, _, v, rfl, hd, ?_, q1 v γ1 H1 Ext.refl rv s1⟩
      rw [hn]
      simp [List.lookup]
    | _ => exact q1.elim
  · refine ⟨fun Wi tk => ⟨fun pins s σ H Q I q => attr_of hb (thn (ha.run Wi tk |>.run pins s σ H (fun _ _ => False) I ?_) fun u s1 hh => ?_)⟩⟩
    · obtain ⟨η, S, γ, he, hs, q⟩ := q
      refine ⟨η, S, γ, he, hs, (Post.seq q).imp fun y H1 ⟨wy, S1, γ1, e1, r1, s1, q1⟩ => ?_⟩
      cases wy with
      | exc c2 x2 =>
        have h3 : c2 = c := by
          generalize hw : W.exc c2 x2 = ww at r1
          cases r1 <;> cases hw
          rfl
        subst h3
        have q1 : Post X.K (G.exn a d c2) (Rep X.K (G.exn a d c2)) (fun c d H' => Wi c d σ H') γ1 H1 (if cs c2 = true then .ok x2 S1 else .stuck) Q := q1
        rw [if_neg hc] at q1
        exact q1.elim
      | _ => exact q1.elim
    · obtain ⟨_, _, _, _, z⟩ := hh
      exact z.elim
end
end Mp

set_option Elab.async false
set_option linter.all false
set_option maxRecDepth 100000
set_option maxHeartbeats 4000000
/-! Mp: what the head says of own exceptions; calls without arguments. -/
namespace Mp
open PySem PySem.Spec PyProof.Rows L2
def excObjB (C : Addr) (o : Obj) : Bool := match o with
  | ⟨.type "type", _, .cls cd, sl⟩ => (match cd.mro, sl.toList with
    | .ref C' :: bm, [_, _, _, _, some (.builtin n), _] => decide (C' = C) && (n == "ValueError.__new__" && (cd.hasDict && (!cd.hasDel && HandSPX.refsVE bm)))
    | _, _ => false)
  | _ => false
theorem excObjB_ok {C : Addr} {o : Obj} (h : excObjB C o = true) : ∃ nm q N bs bm sn sub ab col dd k0 k1 k2 k3 k5, o = excClassObj nm q C N bs bm true sn sub ab col dd k0 k1 k2 k3 k5 "ValueError.__new__" ∧ HandSPX.refsVE bm = true := by
  unfold excObjB at h
  split at h
  · rename_i dd cd sl
    split at h
    · rename_i C' bm k0 k1 k2 k3 n k5 hm hs
      obtain ⟨nm, bs, mro, N, q, hd, sn, sub, ab, col, hdl⟩ := cd
      simp only [Bool.and_eq_true, decide_eq_true_eq, beq_iff_eq, Bool.not_eq_true'] at h
      obtain ⟨h1, h2, h3, h4, h5⟩ := h
      subst h1 h2 h3 h4
      have hm : mro = Value.ref C' :: bm := hm
      subst hm
      obtain ⟨l⟩ := sl
      have hs : l = [k0, k1, k2, k3, some (Value.builtin "ValueError.__new__"), k5] := hs
      subst hs
      exact ⟨nm, q, N, bs, bm, sn, sub, ab, col, dd, k0, k1, k2, k3, k5, rfl, h5⟩
    · cases h
  · cases h
def errB (K : PySem.W.Frag) (x f : Str) : Bool :=
  let C := He.ga K x
  (match List.lookup C K with
    | some o => excObjB C o
    | none => false) &&
  (He.eqO (PySem.W.findIn K (.ref C) "__setattr__") (some (some (.builtin "object.__setattr__"))) &&
  (decide (PySem.W.subIn K (.ref C) (.type "BaseException") = some true) &&
  (decide (PySem.W.typeIn K (.ref C) = some (.type "type")) &&
  (PySem.W.keepIn K (.ref C) &&
  (He.eqO (PySem.W.findIn K (.ref C) "__getattribute__") (some (some (.builtin "BaseException.__getattribute__"))) &&
  (He.eqO (PySem.W.findIn K (.ref C) "__getattr__") (some none) &&
  (PySem.W.hasDictIn K C &&
  (He.eqO (PySem.W.findIn K (.ref C) "__class__") (some (some (.builtin "object.__class__"))) &&
  (He.eqO (PySem.W.specialIn K (.builtin "object.__class__") "__get__") (some (some (.builtin "getset_descriptor.__get__"))) &&
  (decide (PySem.W.takesIn K (.builtin "object.__class__") = some true) &&
  (decide (PySem.W.mroIn K C (.type "object") = some true) &&
  (He.eqO (PySem.W.findIn K (.ref C) f) (some none) &&
  (He.eqO (PySem.W.findIn K (.ref C) "__init__") (some (some (.ref (He.ma K C "__init__")))) &&
  decide (PySem.W.typeIn K (.ref (He.ma K C "__init__")) = some (.type "function")))))))))))))))
theorem errF_of {P : Program} {w : World} {K : PySem.W.Frag} {mg : Str → Option Value} {base : Heap} {x f qual : Str} {params : Arguments} {body : List Stmt} {scope : Scope} {fd : FuncData} (h : errB K x f = true) (gl : mg x = some (.ref (He.ga K x)))
    (F : FunD K "__init__" qual params body scope [] [] (He.ma K (He.ga K x) "__init__") fd) (S : FnScope ["self", f] ["self", f] scope) (hb : Binds K fd ["self", f] [])
    (hp : ∀ (cdv : Value) (A : Around) (outer : List PySem.Env) (s : Shared) (H : Hp) (E : XK), PSs (cxOf (L2.CX P w) P w K mg base ["self", f] qual scope (He.ma K (He.ga K x) "__init__") cdv A outer s H E) body (tOst K f (tVar 0) (tVar 1))) :
    ErrF P w K mg base (He.ga K x) x f := by
  unfold errB at h
  simp only [Bool.and_eq_true, decide_eq_true_eq] at h
  obtain ⟨h0, h1, h2, h3, h4, h5, h6, h7, h8, h9, h10, h11, h12, h13, h14⟩ := h
  have O : OexC K (He.ga K x) := by
    refine ⟨?_, He.eqO_ok h1, h2, h3, h4⟩
    cases e : List.lookup (He.ga K x) K with
    | none => rw [e] at h0; cases h0
    | some o =>
      rw [e] at h0
      obtain ⟨nm, q, N, bs, bm, sn, sub, ab, col, dd, k0, k1, k2, k3, k5, rfl, hr⟩ := excObjB_ok h0
      exact ⟨nm, q, N, bs, bm, sn, sub, ab, col, dd, k0, k1, k2, k3, k5, rfl, hr⟩
  have no := He.eqO_ok h12
  refine ⟨gl, O, ⟨He.eqO_ok h5, He.eqO_ok h6, h2, h7⟩, ⟨He.eqO_ok h5, He.eqO_ok h6, h2, h7, He.eqO_ok h8, He.eqO_ok h9, h10, h11⟩, no, _, fd, He.eqO_ok h13, h14, ?_, hb⟩
  refine noexc_fn (sp := spI (He.ga K x) f) (F.ok S (fun vs H Q E q => ?_) fun cdv A outer s H vs Q E hr q => ⟨_, hp cdv A outer s H E, ?_⟩)
  · obtain ⟨a, v, rfl, _⟩ := q
    rfl
  · obtain ⟨a, v, rfl, ha, k⟩ := q
    exact ⟨v, rfl, .ref a, rfl, a, _, rfl, O, no, .inl ⟨ha, fun dx hd hn => k dx hd hn⟩⟩
/-- a call without arguments -/
def mCall0 (φ : Fns) (f : Nat) : ME := fun _ S => noexc (φ f [] S)
section
variable {X : Cx} {G : Gs} {d f : Nat} {r : FnR} {φ : Fns} {x : Str} {p pos : Pos}
theorem se_call0 (f : Nat) (h : ∃ fd, FT X.prog X.w X.K X.mg X.base G d (φ f) f r fd) (hr : Room (d + 2) X.A) (hx : r.x = x := by rfl) (hg : Gl X x := by rfl) (hdb : (x == ("__debug__" : Str)) = false := by decide) : SE X G (.Call (.Name x p) [] [] pos) (mCall0 φ f) := by
  obtain ⟨fd, h⟩ := h
  subst hx
  refine ⟨fun Wi tk => (pe_call0 (noexc_fn h.ok) hr hg h.gl h.F.kp h.b .nil pass0 hdb).imp ?_⟩
  rintro σ H Q ⟨η, S, γ, he, hs, q⟩
  have q : Post X.K G (Rep X.K G) (fun c d H' => Wi c d σ H') γ H (noexc (φ f [] S)) Q := q
  refine ⟨?_, [], S, γ, .nil, hs, ?_⟩
  · have := h.len [] S (by
      intro z
      rw [z] at q
      exact q.elim)
    exact this
  · cases e : φ f [] S with
    | ok w S1 => rw [e] at q; exact q
    | exc c y S1 => rw [e] at q; exact q.elim
    | stuck => rw [e] at q; exact q.elim
end
end Mp

set_option Elab.async false
set_option linter.all false
set_option maxRecDepth 100000
set_option maxHeartbeats 4000000
/-! Mp: list.count of truths, list.index of flat things; names set in a suite. -/
namespace Mp
open PySem PySem.Spec PyProof.Rows L2
theorem un_of {n k c : Nat} (h : n + 100 < c) (hk : k ≤ 100 := by decide) : n + k < c := by omega
def omCountB : OM := fun x ws S => match lstOf S x, ws with
  | some xs, [.bl k] => (bls xs).map fun bs => (.int (bs.count k : Nat), S)
  | _, _ => none
def omIndexF : OM := fun x ws S => match lstOf S x, ws with
  | some xs, [y] => if flat y = true ∧ xs.all flat = true then (xs.findIdx? fun z => eqW z y).map fun j => (.int (j : Nat), S) else none
  | _, _ => none
theorem count_bools (k : Bool) : ∀ bs : List Bool, countIn (.bool k) (bs.map .bool) = ((bs.count k : Nat) : Int)
  | [] => rfl
  | b :: r => by
    have ih := count_bools k r
    rw [List.map_cons, List.count_cons]
    show (if PyData.eqv (.bool b) (.bool k) = true then 1 else 0) + countIn (.bool k) (r.map .bool) = _
    rw [ih]
    cases b <;> cases k <;> simp [PyData.eqv] <;> omega
theorem bls_repsB {K : PySem.W.Frag} {G : Gs} {γ : Ga} {H : Hp} : ∀ {xs : List W} {vs : List V} {bs : List Bool}, Reps K G γ H xs vs → bls xs = some bs → vs = bs.map V.bl
  | _, _, _, .nil, h => by cases h; rfl
  | _, _, bs, .cons (w := w) r t, h => by
    cases r with
    | bl b =>
      have h : (bls _).map (b :: ·) = some bs := h
      cases e : bls _ with
      | none => rw [e] at h; cases h
      | some cs =>
        rw [e] at h
        cases h
        rw [bls_repsB t e] <;> rfl
    | _ => cases h
section
variable {X : Cx} {G : Gs}
theorem om_countB : MtR X "list.count" (rmOf X.K G omCountB) := by
  intro pins s σ H x xs v us Q I rx rxs h
  obtain ⟨wx, ws, S, γ, w, S3, r, rs, ss, e, k⟩ := h
  unfold omCountB at e
  split at e
  · rename_i ys b hl
    cases hn : bls ys with
    | none => rw [hn] at e; cases e
    | some bs =>
      rw [hn] at e
      cases e
      obtain ⟨p, vs, rfl, hs, q⟩ := lst_or ss hl r
      cases rs with
      | cons r1 t =>
      cases t
      cases r1
      have ev := bls_repsB q hn
      subst ev
      obtain rfl : v = Value.ref p := rx
      obtain ⟨u, rfl, ru⟩ := Vals.one rxs
      obtain rfl : u = Value.bool b := ru
      obtain ⟨its, rv, pl, hlen⟩ := I.list hs
      have hp : s.heap.IsList p its.toArray := by
        obtain ⟨ob, n, ho, hc, hdn, hd⟩ := pl
        exact ⟨ob, ho, hc, n, hd⟩
      have rd : ∀ (bs : List Bool) (its : List Value), Vals (bs.map V.bl) its → ∃ as, ReadsAll s.heap its (bs.map .bool) as := by
        intro bs
        induction bs with
        | nil =>
          intro its h
          cases h
          exact ⟨[], .nil⟩
        | cons c r ih =>
          intro its h
          cases h with
          | cons h1 h2 =>
          obtain ⟨as, ha⟩ := ih _ h2
          rename_i u _
          obtain rfl : u = Value.bool c := h1
          exact ⟨_, .cons (.bool c) ha⟩
      obtain ⟨as, ha⟩ := rd bs its rv
      refine PyProof.Rows.count_list_bools hp ha (by simp [Spec.Shape.has]) ?_
      rw [count_bools]
      exact ⟨.int (bs.count b : Nat), H, I.kept fun _ _ z => z, ⟨_, rfl⟩, k _ γ H Ext.refl (.int _) ss⟩
  · cases e
theorem om_indexF : MtR X "list.index" (rmOf X.K G omIndexF) := by
  refine mt_imp mt_index ?_
  rintro x xs H Q ⟨wx, ws, S, γ, w, S3, r, rs, s, e, k⟩
  unfold omIndexF at e
  split at e
  · rename_i ys y hl
    split at e
    · rename_i hf
      cases hj : ys.findIdx? fun z => eqW z y with
      | none => rw [hj] at e; cases e
      | some j =>
        rw [hj] at e
        cases e
        obtain ⟨p, vs, rfl, hs, q⟩ := lst_or s hl r
        cases rs with
        | cons r1 t =>
        cases t
        rename_i yv
        have hjj := List.findIdx?_eq_some_iff_getElem.mp hj
        obtain ⟨hlt, hz, hno⟩ := hjj
        have get : ∀ (m : Nat) (hm : m < ys.length), ∃ z', vs[m]? = some z' ∧ Rep X.K G γ H ys[m] z' := fun m hm => by
          obtain ⟨z', h1, h2⟩ := q.get (List.getElem?_eq_getElem hm)
          exact ⟨z', h1, h2⟩
        have fl : ∀ (m : Nat) (hm : m < ys.length), flat ys[m] = true := fun m hm => List.all_eq_true.mp hf.2 _ (List.getElem_mem hm)
        obtain ⟨z, z1, z2⟩ := get j hlt
        refine ⟨p, vs, yv, j, z, rfl, rfl, hs, flat_rep r1 hf.1, flats_rep q hf.2, z1, by rw [eqV_rep z2 r1 (fl j hlt) hf.1]; exact hz, fun m z' hm hz' => ?_, k _ γ H Ext.refl (.int _) s⟩
        have hm2 : m < ys.length := by omega
        obtain ⟨z3, z4, z5⟩ := get m hm2
        rw [hz'] at z4
        cases z4
        rw [eqV_rep z5 r1 (fl m hm2) hf.1]
        have := hno m hm
        simpa using this
    · cases e
  · cases e
variable {a : Expr} {f : ME} {x : Str} {p pos : Pos}
theorem ss_setN (i : Nat) (nd : X.N.Nodup) (ha : SE X G a f) (hi : X.N[i]? = some x := by rfl) (hx : Loc X.env.scope x := by first | exact Or.inl rfl | exact Or.inr rfl) (hsw : swapsWith a (some (.Name x p)) pos.line X.env = pure false := by rfl)
    (hf : X.fn x = true ∨ X.env.scope.names.lookup x = some .local := by first | exact .inl rfl | exact .inr rfl) : SS X G (.Assign [.Name x p] a pos) (sSet i f) := by
  refine ⟨fun Wi tk => (ps_set nd hi hx (ha.run Wi tk) hsw hf).imp ?_⟩
  rintro D σ H ⟨η, S, γ, he, hs, q⟩
  exact ⟨η, S, γ, he, hs, (PostS.expr he q).imp fun v H1 ⟨w, S1, γ1, e1, r1, s1, q1⟩ => q1 _ γ1 H1 Ext.refl ((he.mono e1).set r1 i) s1⟩
end
theorem errB_facts {K : PySem.W.Frag} {x f : Str} (h : errB K x f = true) : OexC K (He.ga K x) ∧ XfC K (He.ga K x) ∧ ExcC K (He.ga K x) ∧ PySem.W.findIn K (.ref (He.ga K x)) f = some none := by
  unfold errB at h
  simp only [Bool.and_eq_true, decide_eq_true_eq] at h
  obtain ⟨h0, h1, h2, h3, h4, h5, h6, h7, h8, h9, h10, h11, h12, h13, h14⟩ := h
  have O : OexC K (He.ga K x) := by
    refine ⟨?_, He.eqO_ok h1, h2, h3, h4⟩
    cases e : List.lookup (He.ga K x) K with
    | none => rw [e] at h0; cases h0
    | some o =>
      rw [e] at h0
      obtain ⟨nm, q, N, bs, bm, sn, sub, ab, col, dd, k0, k1, k2, k3, k5, rfl, hr⟩ := excObjB_ok h0
      exact ⟨nm, q, N, bs, bm, sn, sub, ab, col, dd, k0, k1, k2, k3, k5, rfl, hr⟩
  exact ⟨O, ⟨He.eqO_ok h5, He.eqO_ok h6, h2, h7⟩, ⟨He.eqO_ok h5, He.eqO_ok h6, h2, h7, He.eqO_ok h8, He.eqO_ok h9, h10, h11⟩, He.eqO_ok h12⟩
theorem getD_all {α : Type} {p : α → Bool} {l : List α} {d : α} (h : l.all p = true) (hd : p d = true) (c : Nat) : p (l.getD c d) = true := by
  rw [List.getD_eq_getElem?_getD]
  cases e : l[c]? with
  | none => exact hd
  | some y => exact List.all_eq_true.mp h y (List.mem_of_getElem? e)
end Mp
namespace Mp
/-- an index of a class; what is none stands for the first -/
def ixN (n c : Nat) : Nat := if c < n then c else 0
theorem all_ix {n : Nat} {p : Nat → Bool} (hn : 0 < n) (h : (List.range n).all p = true) (c : Nat) : p (ixN n c) = true := by
  refine List.all_eq_true.mp h _ (List.mem_range.mpr ?_)
  unfold ixN
  split <;> omega
end Mp

set_option Elab.async false
set_option linter.all false
set_option maxRecDepth 100000
set_option maxHeartbeats 4000000
/-! Mp: the other two forms of the law's well. -/
namespace Mp
open PySem PySem.Spec
def wellBB (φ : Fns) : MS := sSeq (sSet 2 (mIf (mTCmp opLt (mVar 1) (mBi baLen (maCons (mVar 0) (maNil)))) (mBi baInt (maCons (mBin opIx (mVar 0) (mVar 1)) (maNil))) (mBin opAdd (mBin opAdd (mBin opMul (mC (.int 9311)) (mVar 1)) (mBin opMod (mBi baInt (maCons (mBi baSum (maCons (mSl (mVar 0) (moNone) (moSome (mC (.int 2)))) (maNil))) (maNil))) (mC (.int 1000003)))) (mC (.int 71))))) (sSeq (sSet 3 (mBin opAdd (mC (.int 50021)) (mBin opMul (mC (.int 1013)) (mVar 1)))) (sSeq (sFor (miSeq (mBin opAdd (mSl (mVar 0) (moNone) (moSome (mC (.int 5)))) (mLst (maCons (mVar 2) (maNil))))) (gVar 4) (sSet 3 (mBin opMod (mBi baInt (maCons (mBin opAdd (mBin opAdd (mBin opMul (mVar 3) (mC (.int 45013))) (mBin opMod (mBi baInt (maCons (mVar 4) (maNil))) (mC (.int 2147483399)))) (mC (.int 37))) (maNil))) (mC (.int 2147483563))))) (sRet (mLstS (maCons (mIf (mTOr (mTCmp opLt (mVar 2) (mC (.int 0))) (mTCmp opGe (mVar 2) (mBin opPow (mC (.int 10)) (mC (.int 17))))) (mBi baAbs (maCons (mVar 2) (maNil))) (mC (.int 0))) (maCons (mVar 3) (maCons (mC (.int 0)) (maNil))))))))
theorem well_okB {φ : Fns} {ns : List Int} {t : Nat} {S : Store} (hl : ns.length ≤ 63) (ht : t ≤ 1000) :
    ∃ a b : Int, 0 ≤ a ∧ 0 ≤ b ∧ wellBB φ [some (.scr (ns.map .int)), some (.int t), none, none, none] S = .ret (.ref S.length) (S ++ [.lst [.int a, .int b, .int 0]]) := by
  unfold wellBB
  have h1 : ∃ o : Int, (mIf (mTCmp opLt (mVar 1) (mBi baLen (maCons (mVar 0) (maNil)))) (mBi baInt (maCons (mBin opIx (mVar 0) (mVar 1)) (maNil))) (mBin opAdd (mBin opAdd (mBin opMul (mC (.int 9311)) (mVar 1)) (mBin opMod (mBi baInt (maCons (mBi baSum (maCons (mSl (mVar 0) (moNone) (moSome (mC (.int 2)))) (maNil))) (maNil))) (mC (.int 1000003)))) (mC (.int 71)))) [some (.scr (ns.map .int)), some (.int t), none, none, none] S = .ok (.int o) S := by
    have hc : (mTCmp opLt (mVar 1) (mBi baLen (maCons (mVar 0) (maNil)))) [some (.scr (ns.map .int)), some (.int t), none, none, none] S = .ok (decide ((t : Int) < ((ns.map W.int).length : Int))) S := rfl
    unfold mIf
    rw [hc]
    by_cases lt : (t : Int) < ((ns.map W.int).length : Int)
    · have l2 : t < ns.length := by rw [List.length_map] at lt; omega
      refine ⟨ns[t], ?_⟩
      show (if decide ((t : Int) < ((ns.map W.int).length : Int)) = true then _ else _) = _
      rw [if_pos (decide_eq_true lt)]
      refine mBi1_ok (x := .int ns[t]) (S1 := S) (mBin_ok (S1 := S) (x := .scr (ns.map .int)) (y := .int t) rfl rfl ?_) rfl
      show atW (ns.map W.int) t = _
      unfold atW ixW
      rw [if_pos (by omega), if_pos lt]
      show (ns.map W.int)[((t : Int)).toNat]? = _
      rw [Int.toNat_natCast, List.getElem?_map, List.getElem?_eq_getElem l2] <;> rfl
    · refine ⟨9311 * t + (cutW ns none (some 2)).sum % 1000003 + 71, ?_⟩
      show (if decide ((t : Int) < ((ns.map W.int).length : Int)) = true then _ else _) = _
      rw [if_neg (by rw [decide_eq_true_eq]; exact lt)]
      refine mBin_ok (S1 := S) (mBin_ok (S1 := S) (mBin_ok (S1 := S) rfl rfl (opMul_l (by decide))) (mBin_ok (S1 := S) (mBi1_ok (S1 := S) (mBi1_ok (S1 := S) (x := .lst ((cutW ns none (some 2)).map .int)) (z := .int (cutW ns none (some 2)).sum) ?_ ?_) rfl) rfl (opMod_ok (by decide))) rfl) rfl rfl
      · show R.ok (W.lst (cutW (ns.map W.int) none (some 2))) S = _
        rw [cutW_map]
      · show (intsOf ((cutW ns none (some 2)).map W.int)).map (fun ns => W.int ns.sum) = _
        rw [intsOf_map] <;> rfl
  obtain ⟨o, h1⟩ := h1
  rw [sSeq_nx (sSet_ok h1)]
  have h2 : (sSet 3 (mBin opAdd (mC (.int 50021)) (mBin opMul (mC (.int 1013)) (mVar 1)))) ([some (.scr (ns.map .int)), some (.int t), none, none, none].set 2 (some (.int o))) S = .nx [some (.scr (ns.map .int)), some (.int t), some (.int o), some (.int (50021 + 1013 * t)), none] S :=
    sSet_ok (mBin_ok (S1 := S) rfl (mBin_ok (S1 := S) rfl rfl (opMul_l (by decide))) rfl)
  rw [sSeq_nx h2]
  have h3 : ∀ η S, η = [some (.scr (ns.map .int)), some (.int t), some (.int o), some (.int (50021 + 1013 * t)), none] → (miSeq (mBin opAdd (mSl (mVar 0) (moNone) (moSome (mC (.int 5)))) (mLst (maCons (mVar 2) (maNil))))) η S = .ok ((cutW ns none (some 5) ++ [o]).map .int) S := by
    rintro η S rfl
    unfold miSeq
    rw [mBin_ok (S1 := S) (S2 := S) (x := .lst ((cutW ns none (some 5)).map .int)) (y := .lst [.int o]) (z := .lst ((cutW ns none (some 5)).map .int ++ [.int o]))]
    · rw [List.map_append] <;> rfl
    · show R.ok (W.lst (cutW (ns.map W.int) none (some 5))) S = _
      rw [cutW_map]
    · rfl
    · show (if ((cutW ns none (some 5)).map W.int).length + 1 ≤ bigLine then _ else _) = _
      have := cutW_le ns none (some 5)
      rw [if_pos (by rw [List.length_map]; unfold bigLine; omega)]
  have h4 := forL_inv (g := gVar 4) (b := sSet 3 (mBin opMod (mBi baInt (maCons (mBin opAdd (mBin opAdd (mBin opMul (mVar 3) (mC (.int 45013))) (mBin opMod (mBi baInt (maCons (mVar 4) (maNil))) (mC (.int 2147483399)))) (mC (.int 37))) (maNil))) (mC (.int 2147483563))))
    (fun η S' => S' = S ∧ ∃ b : Int, 0 ≤ b ∧ ∃ w, η = [some (.scr (ns.map .int)), some (.int t), some (.int o), some (.int b), w]) ((cutW ns none (some 5) ++ [o]).map .int) (by
      intro x hx η S' hi
      obtain ⟨rfl, b, hb, w, rfl⟩ := hi
      obtain ⟨i, _, rfl⟩ := List.mem_map.mp hx
      exact ⟨_, _, _, _, rfl, sSet_ok (mBin_ok (S1 := S') (mBi1_ok (S1 := S') (mBin_ok (S1 := S') (mBin_ok (S1 := S') (mBin_ok (S1 := S') rfl rfl (opMul_r (by decide))) (mBin_ok (S1 := S') (mBi1_ok (S1 := S') rfl rfl) rfl (opMod_ok (by decide))) rfl) rfl rfl) rfl) rfl (opMod_ok (by decide))), rfl, _, Int.emod_nonneg _ (by decide), _, rfl⟩)
    [some (.scr (ns.map .int)), some (.int t), some (.int o), some (.int (50021 + 1013 * t)), none] S ⟨rfl, _, by omega, _, rfl⟩
  obtain ⟨η', S', h4, rfl, b, hb, w, rfl⟩ := h4
  rw [sSeq_nx ((sFor_ok (h3 _ S' rfl)).trans h4)]
  refine ⟨if o < 0 ∨ 100000000000000000 ≤ o then (if o < 0 then -o else o) else 0, b, ?_, hb, ?_⟩
  · split
    · split <;> omega
    · omega
  · have h5 : (mIf (mTOr (mTCmp opLt (mVar 2) (mC (.int 0))) (mTCmp opGe (mVar 2) (mBin opPow (mC (.int 10)) (mC (.int 17))))) (mBi baAbs (maCons (mVar 2) (maNil))) (mC (.int 0))) [some (.scr (ns.map .int)), some (.int t), some (.int o), some (.int b), w] S' = .ok (.int (if o < 0 ∨ 100000000000000000 ≤ o then (if o < 0 then -o else o) else 0)) S' := by
      by_cases c1 : o < 0
      · rw [if_pos (.inl c1)]
        unfold mIf
        rw [show (mTOr (mTCmp opLt (mVar 2) (mC (.int 0))) (mTCmp opGe (mVar 2) (mBin opPow (mC (.int 10)) (mC (.int 17))))) [some (.scr (ns.map .int)), some (.int t), some (.int o), some (.int b), w] S' = .ok true S' from by
          show (if decide (o < 0) = true then R.ok true S' else _) = _
          rw [if_pos (decide_eq_true c1)]]
        rfl
      · have e : (mTOr (mTCmp opLt (mVar 2) (mC (.int 0))) (mTCmp opGe (mVar 2) (mBin opPow (mC (.int 10)) (mC (.int 17))))) [some (.scr (ns.map .int)), some (.int t), some (.int o), some (.int b), w] S' = .ok (decide (100000000000000000 ≤ o)) S' := by
          show (if decide (o < 0) = true then R.ok true S' else R.ok (decide ((10 : Int) ^ (17 : Nat) ≤ o)) S') = _
          rw [if_neg (by rw [decide_eq_true_eq]; exact c1)] <;> rfl
        unfold mIf
        rw [e]
        by_cases c2 : 100000000000000000 ≤ o
        · rw [if_pos (.inr c2)]
          show (if decide (100000000000000000 ≤ o) = true then _ else _) = _
          rw [if_pos (decide_eq_true c2)] <;> rfl
        · rw [if_neg (by rintro (z | z) <;> contradiction)]
          show (if decide (100000000000000000 ≤ o) = true then _ else _) = _
          rw [if_neg (by rw [decide_eq_true_eq]; exact c2)] <;> rfl
    exact sRet_ok (mLstS_ok (S1 := S') (maCons_ok h5 (maCons_ok (S1 := S') (x := .int b) rfl (maCons_ok (S1 := S') rfl rfl))) rfl (by show 3 ≤ bigLine; decide))
theorem well_callB {T : List Fun} {d k : Nat} {ns : List Int} {t : Nat} {S : Store} (h : T[k]? = some ⟨2, 5, true, false, wellBB⟩) (hl : ns.length ≤ 63) (ht : t ≤ 1000) :
    ∃ a b : Int, 0 ≤ a ∧ 0 ≤ b ∧ fns T (d + 1) k [.scr (ns.map .int), .int t] S = .ok (.ref S.length) (S ++ [.lst [.int a, .int b, .int 0]]) := by
  obtain ⟨a, b, ha, hb, e⟩ := well_okB (φ := fns T d) (S := S) hl ht
  refine ⟨a, b, ha, hb, ?_⟩
  rw [fns_eq h rfl]
  refine (congrArg (finS true S.length) e).trans ?_
  unfold finS fin
  show (if S.length < S.length then _ else (match (S ++ [Cell.lst [.int a, .int b, .int 0]])[S.length]? with
      | some (Cell.lst xs) => if pures xs = true then (if true = true then R.ok (W.ref S.length) ((S ++ [Cell.lst [.int a, .int b, .int 0]]).take S.length ++ [Cell.lst xs]) else .ok (W.lst xs) ((S ++ [Cell.lst [.int a, .int b, .int 0]]).take S.length)) else .stuck
      | _ => .stuck)) = _
  rw [if_neg (Nat.lt_irrefl _), List.getElem?_append_right (Nat.le_refl _), Nat.sub_self]
  show R.ok _ _ = _
  rw [List.take_left']
  rfl
def wellBA (φ : Fns) : MS := sSeq (sSet 2 (mIf (mTCmp opLt (mVar 1) (mBi baLen (maCons (mVar 0) (maNil)))) (mBi baInt (maCons (mBin opIx (mVar 0) (mVar 1)) (maNil))) (mBin opAdd (mBin opAdd (mBin opMul (mC (.int 9311)) (mVar 1)) (mBin opMod (mBi baInt (maCons (mBi baSum (maCons (mSl (mVar 0) (moNone) (moSome (mC (.int 2)))) (maNil))) (maNil))) (mC (.int 1000003)))) (mC (.int 71))))) (sSeq (sSet 3 (mBin opAdd (mC (.int 50021)) (mBin opMul (mC (.int 1013)) (mVar 1)))) (sSeq (sFor (miSeq (mBin opAdd (mSl (mVar 0) (moNone) (moSome (mC (.int 5)))) (mLst (maCons (mVar 2) (maNil))))) (gVar 4) (sSet 3 (mBin opMod (mBi baInt (maCons (mBin opAdd (mBin opAdd (mBin opMul (mVar 3) (mC (.int 45013))) (mBin opMod (mBi baInt (maCons (mVar 4) (maNil))) (mC (.int 2147483399)))) (mC (.int 37))) (maNil))) (mC (.int 2147483563))))) (sRet (mLstS (maCons (mIf (mTOr (mTCmp opLt (mVar 2) (mC (.int 0))) (mTCmp opGe (mVar 2) (mBin opPow (mC (.int 10)) (mC (.int 17))))) (mBin opMod (mBi baInt (maCons (mBi baAbs (maCons (mVar 2) (maNil))) (maNil))) (mBin opPow (mC (.int 10)) (mC (.int 60)))) (mC (.int 0))) (maCons (mVar 3) (maCons (mC (.int 0)) (maNil))))))))
theorem well_okA {φ : Fns} {ns : List Int} {t : Nat} {S : Store} (hl : ns.length ≤ 63) (ht : t ≤ 1000) :
    ∃ a b : Int, 0 ≤ a ∧ 0 ≤ b ∧ wellBA φ [some (.scr (ns.map .int)), some (.int t), none, none, none] S = .ret (.ref S.length) (S ++ [.lst [.int a, .int b, .int 0]]) := by
  unfold wellBA
  have h1 : ∃ o : Int, (mIf (mTCmp opLt (mVar 1) (mBi baLen (maCons (mVar 0) (maNil)))) (mBi baInt (maCons (mBin opIx (mVar 0) (mVar 1)) (maNil))) (mBin opAdd (mBin opAdd (mBin opMul (mC (.int 9311)) (mVar 1)) (mBin opMod (mBi baInt (maCons (mBi baSum (maCons (mSl (mVar 0) (moNone) (moSome (mC (.int 2)))) (maNil))) (maNil))) (mC (.int 1000003)))) (mC (.int 71)))) [some (.scr (ns.map .int)), some (.int t), none, none, none] S = .ok (.int o) S := by
    have hc : (mTCmp opLt (mVar 1) (mBi baLen (maCons (mVar 0) (maNil)))) [some (.scr (ns.map .int)), some (.int t), none, none, none] S = .ok (decide ((t : Int) < ((ns.map W.int).length : Int))) S := rfl
    unfold mIf
    rw [hc]
    by_cases lt : (t : Int) < ((ns.map W.int).length : Int)
    · have l2 : t < ns.length := by rw [List.length_map] at lt; omega
      refine ⟨ns[t], ?_⟩
      show (if decide ((t : Int) < ((ns.map W.int).length : Int)) = true then _ else _) = _
      rw [if_pos (decide_eq_true lt)]
      refine mBi1_ok (x := .int ns[t]) (S1 := S) (mBin_ok (S1 := S) (x := .scr (ns.map .int)) (y := .int t) rfl rfl ?_) rfl
      show atW (ns.map W.int) t = _
      unfold atW ixW
      rw [if_pos (by omega), if_pos lt]
      show (ns.map W.int)[((t : Int)).toNat]? = _
      rw [Int.toNat_natCast, List.getElem?_map, List.getElem?_eq_getElem l2] <;> rfl
    · refine ⟨9311 * t + (cutW ns none (some 2)).sum % 1000003 + 71, ?_⟩
      show (if decide ((t : Int) < ((ns.map W.int).length : Int)) = true then _ else _) = _
      rw [if_neg (by rw [decide_eq_true_eq]; exact lt)]
      refine mBin_ok (S1 := S) (mBin_ok (S1 := S) (mBin_ok (S1 := S) rfl rfl (opMul_l (by decide))) (mBin_ok (S1 := S) (mBi1_ok (S1 := S) (mBi1_ok (S1 := S) (x := .lst ((cutW ns none (some 2)).map .int)) (z := .int (cutW ns none (some 2)).sum) ?_ ?_) rfl) rfl (opMod_ok (by decide))) rfl) rfl rfl
      · show R.ok (W.lst (cutW (ns.map W.int) none (some 2))) S = _
        rw [cutW_map]
      · show (intsOf ((cutW ns none (some 2)).map W.int)).map (fun ns => W.int ns.sum) = _
        rw [intsOf_map] <;> rfl
  obtain ⟨o, h1⟩ := h1
  rw [sSeq_nx (sSet_ok h1)]
  have h2 : (sSet 3 (mBin opAdd (mC (.int 50021)) (mBin opMul (mC (.int 1013)) (mVar 1)))) ([some (.scr (ns.map .int)), some (.int t), none, none, none].set 2 (some (.int o))) S = .nx [some (.scr (ns.map .int)), some (.int t), some (.int o), some (.int (50021 + 1013 * t)), none] S :=
    sSet_ok (mBin_ok (S1 := S) rfl (mBin_ok (S1 := S) rfl rfl (opMul_l (by decide))) rfl)
  rw [sSeq_nx h2]
  have h3 : ∀ η S, η = [some (.scr (ns.map .int)), some (.int t), some (.int o), some (.int (50021 + 1013 * t)), none] → (miSeq (mBin opAdd (mSl (mVar 0) (moNone) (moSome (mC (.int 5)))) (mLst (maCons (mVar 2) (maNil))))) η S = .ok ((cutW ns none (some 5) ++ [o]).map .int) S := by
    rintro η S rfl
    unfold miSeq
    rw [mBin_ok (S1 := S) (S2 := S) (x := .lst ((cutW ns none (some 5)).map .int)) (y := .lst [.int o]) (z := .lst ((cutW ns none (some 5)).map .int ++ [.int o]))]
    · rw [List.map_append] <;> rfl
    · show R.ok (W.lst (cutW (ns.map W.int) none (some 5))) S = _
      rw [cutW_map]
    · rfl
    · show (if ((cutW ns none (some 5)).map W.int).length + 1 ≤ bigLine then _ else _) = _
      have := cutW_le ns none (some 5)
      rw [if_pos (by rw [List.length_map]; unfold bigLine; omega)]
  have h4 := forL_inv (g := gVar 4) (b := sSet 3 (mBin opMod (mBi baInt (maCons (mBin opAdd (mBin opAdd (mBin opMul (mVar 3) (mC (.int 45013))) (mBin opMod (mBi baInt (maCons (mVar 4) (maNil))) (mC (.int 2147483399)))) (mC (.int 37))) (maNil))) (mC (.int 2147483563))))
    (fun η S' => S' = S ∧ ∃ b : Int, 0 ≤ b ∧ ∃ w, η = [some (.scr (ns.map .int)), some (.int t), some (.int o), some (.int b), w]) ((cutW ns none (some 5) ++ [o]).map .int) (by
      intro x hx η S' hi
      obtain ⟨rfl, b, hb, w, rfl⟩ := hi
      obtain ⟨i, _, rfl⟩ := List.mem_map.mp hx
      exact ⟨_, _, _, _, rfl, sSet_ok (mBin_ok (S1 := S') (mBi1_ok (S1 := S') (mBin_ok (S1 := S') (mBin_ok (S1 := S') (mBin_ok (S1 := S') rfl rfl (opMul_r (by decide))) (mBin_ok (S1 := S') (mBi1_ok (S1 := S') rfl rfl) rfl (opMod_ok (by decide))) rfl) rfl rfl) rfl) rfl (opMod_ok (by decide))), rfl, _, Int.emod_nonneg _ (by decide), _, rfl⟩)
    [some (.scr (ns.map .int)), some (.int t), some (.int o), some (.int (50021 + 1013 * t)), none] S ⟨rfl, _, by omega, _, rfl⟩
  obtain ⟨η', S', h4, rfl, b, hb, w, rfl⟩ := h4
  rw [sSeq_nx ((sFor_ok (h3 _ S' rfl)).trans h4)]
  refine ⟨if o < 0 ∨ 100000000000000000 ≤ o then ((if o < 0 then -o else o) % 1000000000000000000000000000000000000000000000000000000000000) else 0, b, ?_, hb, ?_⟩
  · split
    · exact Int.emod_nonneg _ (by decide)
    · omega
  · have h5 : (mIf (mTOr (mTCmp opLt (mVar 2) (mC (.int 0))) (mTCmp opGe (mVar 2) (mBin opPow (mC (.int 10)) (mC (.int 17))))) (mBin opMod (mBi baInt (maCons (mBi baAbs (maCons (mVar 2) (maNil))) (maNil))) (mBin opPow (mC (.int 10)) (mC (.int 60)))) (mC (.int 0))) [some (.scr (ns.map .int)), some (.int t), some (.int o), some (.int b), w] S' = .ok (.int (if o < 0 ∨ 100000000000000000 ≤ o then ((if o < 0 then -o else o) % 1000000000000000000000000000000000000000000000000000000000000) else 0)) S' := by
      by_cases c1 : o < 0
      · rw [if_pos (.inl c1)]
        unfold mIf
        rw [show (mTOr (mTCmp opLt (mVar 2) (mC (.int 0))) (mTCmp opGe (mVar 2) (mBin opPow (mC (.int 10)) (mC (.int 17))))) [some (.scr (ns.map .int)), some (.int t), some (.int o), some (.int b), w] S' = .ok true S' from by
          show (if decide (o < 0) = true then R.ok true S' else _) = _
          rw [if_pos (decide_eq_true c1)]]
        rfl
      · have e : (mTOr (mTCmp opLt (mVar 2) (mC (.int 0))) (mTCmp opGe (mVar 2) (mBin opPow (mC (.int 10)) (mC (.int 17))))) [some (.scr (ns.map .int)), some (.int t), some (.int o), some (.int b), w] S' = .ok (decide (100000000000000000 ≤ o)) S' := by
          show (if decide (o < 0) = true then R.ok true S' else R.ok (decide ((10 : Int) ^ (17 : Nat) ≤ o)) S') = _
          rw [if_neg (by rw [decide_eq_true_eq]; exact c1)] <;> rfl
        unfold mIf
        rw [e]
        by_cases c2 : 100000000000000000 ≤ o
        · rw [if_pos (.inr c2)]
          show (if decide (100000000000000000 ≤ o) = true then _ else _) = _
          rw [if_pos (decide_eq_true c2)] <;> rfl
        · rw [if_neg (by rintro (z | z) <;> contradiction)]
          show (if decide (100000000000000000 ≤ o) = true then _ else _) = _
          rw [if_neg (by rw [decide_eq_true_eq]; exact c2)] <;> rfl
    exact sRet_ok (mLstS_ok (S1 := S') (maCons_ok h5 (maCons_ok (S1 := S') (x := .int b) rfl (maCons_ok (S1 := S') rfl rfl))) rfl (by show 3 ≤ bigLine; decide))
theorem well_callA {T : List Fun} {d k : Nat} {ns : List Int} {t : Nat} {S : Store} (h : T[k]? = some ⟨2, 5, true, false, wellBA⟩) (hl : ns.length ≤ 63) (ht : t ≤ 1000) :
    ∃ a b : Int, 0 ≤ a ∧ 0 ≤ b ∧ fns T (d + 1) k [.scr (ns.map .int), .int t] S = .ok (.ref S.length) (S ++ [.lst [.int a, .int b, .int 0]]) := by
  obtain ⟨a, b, ha, hb, e⟩ := well_okA (φ := fns T d) (S := S) hl ht
  refine ⟨a, b, ha, hb, ?_⟩
  rw [fns_eq h rfl]
  refine (congrArg (finS true S.length) e).trans ?_
  unfold finS fin
  show (if S.length < S.length then _ else (match (S ++ [Cell.lst [.int a, .int b, .int 0]])[S.length]? with
      | some (Cell.lst xs) => if pures xs = true then (if true = true then R.ok (W.ref S.length) ((S ++ [Cell.lst [.int a, .int b, .int 0]]).take S.length ++ [Cell.lst xs]) else .ok (W.lst xs) ((S ++ [Cell.lst [.int a, .int b, .int 0]]).take S.length)) else .stuck
      | _ => .stuck)) = _
  rw [if_neg (Nat.lt_irrefl _), List.getElem?_append_right (Nat.le_refl _), Nat.sub_self]
  show R.ok _ _ = _
  rw [List.take_left']
  rfl
end Mp
namespace Mp
open PySem PySem.Spec PyProof.Rows L2
/-- == where both may be {} -/
def opEqE : O2 := fun x y S => match x, y with
  | .dct [.bl false] [], .dct [.bl false] [] => some (.bl true)
  | x, y => opEq x y S
theorem o2_eqE {X : Cx} {G : Gs} (hu : X.A.units + 65 < cLine) : OpR X (compareOp .Eq) (rOf X.K G opEqE) := by
  intro pins s σ H x y v u Q I rx ry h
  obtain ⟨wx, wy, S, γ, w, r1, r2, ss, e, k⟩ := h
  unfold opEqE at e
  split at e
  · cases e
    cases r1 with
    | dct d1 f1 q1 =>
    cases r2 with
    | dct d2 f2 q2 =>
    obtain ⟨kvs1, h1, e1, e1'⟩ := dct_k d1
    obtain ⟨kvs2, h2, e2, e2'⟩ := dct_k d2
    have z1 : kvs1 = [] := List.map_eq_nil_iff.mp e1.symm
    have z2 : kvs2 = [] := List.map_eq_nil_iff.mp e2.symm
    subst z1 z2
    exact op_eq_dict (by omega) pins s σ H _ _ v u Q I rx ry ⟨_, _, [], rfl, rfl, h1, h2, List.nodup_nil, fun p hp => absurd hp (List.not_mem_nil), k _ γ H Ext.refl (.bl _) ss⟩
  · exact o2_eq (by omega) pins s σ H x y v u Q I rx ry ⟨wx, wy, S, γ, w, r1, r2, ss, e, k⟩
end Mp

set_option Elab.async false
set_option linter.all false
set_option maxRecDepth 100000
set_option maxHeartbeats 4000000
/-! Mp: one sign by a number. -/
namespace Mp
open PySem PySem.Spec PyProof.Rows L2
def opMulS : O2 := fun x y S => match x, y with
  | .str [c], .int k => if 1 ≤ k ∧ k ≤ 1000 then some (.str (List.replicate k.toNat c)) else none
  | x, y => opMulT x y S
theorem rep_cps (c : Nat) : ∀ (m : Nat) (acc : Array Nat), (List.replicate m #[c]).foldl (· ++ ·) acc = acc ++ (List.replicate m c).toArray
  | 0, acc => by simp
  | m + 1, acc => by
    rw [List.replicate_succ, List.foldl_cons, rep_cps c m, List.replicate_succ, Array.append_assoc]
    refine congrArg (acc ++ ·) (Array.ext' ?_)
    simp
theorem o2_mulS {X : Cx} {G : Gs} : OpR X (binaryOp .Mult) (rOf X.K G opMulS) := by
  intro pins s σ H x y v u Q I rx ry h
  obtain ⟨wx, wy, S, γ, w, r1, r2, ss, h, k⟩ := h
  unfold opMulS at h
  split at h
  · rename_i c n
    split at h
    · rename_i hl
      cases h
      cases r1 with
      | str _ h1 h2 =>
      cases r2
      obtain ⟨t, rfl⟩ := rx
      obtain ⟨t', rfl⟩ := ry
      have rep : ∀ γ' H', Rep X.K G γ' H' (.str (List.replicate n.toNat c)) (.str ⟨(List.replicate n.toNat c).toArray⟩) := fun γ' H' => .str _ (fun d hd => by
        rw [(List.mem_replicate.mp hd).2]
        exact h1 c (List.mem_singleton.mpr rfl)) (by rw [List.length_replicate, sizeLine_eq]; omega)
      have hn1 : ¬ n < 1 := by omega
      have hlen : (⟨[c].toArray⟩ : Str).length = 1 := rfl
      refine PySem.P.mul_str ?_ (fun _ _ => ?_) (fun _ _ => ?_) ?_
      · have a : ¬ n < -(2 ^ 63 : Int) := by omega
        have b : ¬ n ≥ 2 ^ 63 := by omega
        rw [decide_eq_false a, decide_eq_false b] <;> rfl
      · rw [hlen]
        have : (1 : Int) ≤ (2 ^ 63 - 1) / n := by
          rw [Int.le_ediv_iff_mul_le (by omega)]
          omega
        have e : ((1 : Nat) : Int) = 1 := rfl
        rw [e]
        omega
      · rw [hlen, Nat.one_mul]
        unfold Builtin.Str.tooLong
        have : n.toNat ≤ 1000 := by omega
        first
          | exact decide_eq_false (by omega)
          | (rw [sizeLine_eq]; exact decide_eq_false (by omega))
      · rw [if_neg hn1]
        by_cases e1 : n = 1
        · subst e1
          rw [if_pos (by rfl)]
          exact ⟨.str _, H, I, ⟨t, rfl⟩, k _ γ H Ext.refl (rep γ H) ss⟩
        · rw [if_neg (by
            rw [hlen]
            simp [e1])]
          have ec : (List.replicate n.toNat (⟨[c].toArray⟩ : Str).cps).foldl (· ++ ·) #[] = (List.replicate n.toNat c).toArray := by
            have := rep_cps c n.toNat #[]
            rw [show ((⟨[c].toArray⟩ : Str).cps) = #[c] from rfl, this]
            simp
          rw [ec]
          refine ⟨?_, ⟨.str _, H, I.tok _, ⟨_, rfl⟩, k _ γ H Ext.refl (rep γ H) ss⟩⟩
          show ((List.replicate n.toNat c).toArray.size) ≤ _
          simp only [List.size_toArray, List.length_replicate]
          have : n.toNat ≤ 1000 := by omega
          first
            | omega
            | (rw [sizeLine_eq]; omega)
    · cases h
  · exact o2_mulT pins s σ H x y v u Q I rx ry ⟨_, _, S, γ, w, r1, r2, ss, h, k⟩
end Mp

set_option Elab.async false
set_option linter.all false
set_option maxRecDepth 100000
set_option maxHeartbeats 4000000
/-! Mp: a tuple in a tuple of tuples. -/
namespace Mp
open PySem PySem.Spec PyProof.Rows L2
def opInT : O2 := fun x y S => match x, y with
  | .tup xs, .tup ys => if okD (.tup xs) 30 = true ∧ okD (.tup ys) 30 = true then some (.bl (inW (.tup xs) ys)) else none
  | x, y => opInD x y S
def opNotInT : O2 := fun x y S => match x, y with
  | .tup xs, .tup ys => if okD (.tup xs) 30 = true ∧ okD (.tup ys) 30 = true then some (.bl (!inW (.tup xs) ys)) else none
  | x, y => opNotInD x y S
theorem any_toDs {wx : W} (hx : okD wx 30 = true) (zs : List W) (hd : okDs zs 29 = true) : ((toDs zs).any fun z => PyData.eqv z (toD wx)) = inW wx zs := by
  unfold inW
  rw [toDs_map, List.any_map]
  have hz : ∀ z ∈ zs, okD z 29 = true := by
    have : ∀ (l : List W), okDs l 29 = true → ∀ z ∈ l, okD z 29 = true := by
      intro l
      induction l with
      | nil => intro _ z hz; cases hz
      | cons y l ih =>
        intro h z hz
        unfold okDs at h
        obtain ⟨a1, a2⟩ := Bool.and_eq_true_iff.mp h
        rcases List.mem_cons.mp hz with e | e
        · rw [e]; exact a1
        · exact ih a2 z e
    exact this zs hd
  have : ∀ (l : List W), (∀ z ∈ l, okD z 29 = true) → l.any ((fun z => PyData.eqv z (toD wx)) ∘ toD) = l.any fun y => eqW y wx := by
    intro l
    induction l with
    | nil => intro _; rfl
    | cons y l ih =>
      intro h
      rw [List.any_cons, List.any_cons, ih fun z hz => h z (List.mem_cons_of_mem _ hz)]
      show (PyData.eqv (toD y) (toD wx) || _) = _
      rw [eqv_of y wx _ _ (h y (List.mem_cons_self ..)) hx]
  exact this zs hz
section
variable {X : Cx} {G : Gs}
theorem o2_inT (hu : X.A.units + 65 < cLine) : OpR X (compareOp .In) (rOf X.K G opInT) := by
  intro pins s σ H x y v u Q I rx ry h
  obtain ⟨wx, wy, S, γ, w, r1, r2, ss, e, k⟩ := h
  unfold opInT at e
  split at e
  · rename_i xs ys
    split at e
    · rename_i hk
      cases e
      obtain ⟨l1, l2⟩ := lay_of _ x 30 hk.1 r1
      obtain ⟨m1, m2⟩ := lay_of _ y 30 hk.2 r2
      obtain ⟨as, c1⟩ := Dp.reads I _ x v (dp_of _ x 30 hk.1 r1) rx
      obtain ⟨bs, c2⟩ := Dp.reads I _ y u (dp_of _ y 30 hk.2 r2) ry
      have hd : okDs ys 29 = true := by
        have h2 := hk.2
        unfold okD at h2
        exact (Bool.and_eq_true_iff.mp h2).2
      refine SeqAt.in_tuple_reads (xs := toDs ys) c2 c1 (by have := m1; simp only [toD, PyData.canLay0] at this; exact this) l1 (by omega) ?_
      rw [any_toDs hk.1 ys hd]
      exact ⟨.bl _, H, I, rfl, k _ γ H Ext.refl (.bl _) ss⟩
    · cases e
  · exact o2_inD hu pins s σ H x y v u Q I rx ry ⟨wx, wy, S, γ, w, r1, r2, ss, e, k⟩
theorem o2_notInT (hu : X.A.units + 65 < cLine) : OpR X (compareOp .NotIn) (rOf X.K G opNotInT) := by
  intro pins s σ H x y v u Q I rx ry h
  obtain ⟨wx, wy, S, γ, w, r1, r2, ss, e, k⟩ := h
  unfold opNotInT at e
  split at e
  · rename_i xs ys
    split at e
    · rename_i hk
      cases e
      obtain ⟨l1, l2⟩ := lay_of _ x 30 hk.1 r1
      obtain ⟨m1, m2⟩ := lay_of _ y 30 hk.2 r2
      obtain ⟨as, c1⟩ := Dp.reads I _ x v (dp_of _ x 30 hk.1 r1) rx
      obtain ⟨bs, c2⟩ := Dp.reads I _ y u (dp_of _ y 30 hk.2 r2) ry
      have hd : okDs ys 29 = true := by
        have h2 := hk.2
        unfold okD at h2
        exact (Bool.and_eq_true_iff.mp h2).2
      refine SeqAt.notIn_tuple_reads (xs := toDs ys) c2 c1 (by have := m1; simp only [toD, PyData.canLay0] at this; exact this) l1 (by omega) ?_
      rw [any_toDs hk.1 ys hd]
      exact ⟨.bl _, H, I, rfl, k _ γ H Ext.refl (.bl _) ss⟩
    · cases e
  · exact o2_notInD hu pins s σ H x y v u Q I rx ry ⟨wx, wy, S, γ, w, r1, r2, ss, e, k⟩
end
end Mp

set_option Elab.async false
set_option linter.all false
set_option maxRecDepth 100000
set_option maxHeartbeats 4000000
namespace Lw
open Mp
/-! the functions -/
def isr_TooMany (c : Nat) : Bool := ([3] : List Nat).contains c
def is_TooMany (c : Nat) : Bool := isr_TooMany (ixN 4 c)
def isr_InvalidSize (c : Nat) : Bool := ([2] : List Nat).contains c
def is_InvalidSize (c : Nat) : Bool := isr_InvalidSize (ixN 4 c)
def isr_InvalidNumber (c : Nat) : Bool := ([0] : List Nat).contains c
def is_InvalidNumber (c : Nat) : Bool := isr_InvalidNumber (ixN 4 c)
def flr_given (c : Nat) : Bool := ([0, 1, 2, 3] : List Nat).contains c
def fl_given (c : Nat) : Bool := flr_given (ixN 4 c)
def b_is_whole (φ : Fns) : MS := sRet (mAnd (mUn (opIsi 2) (mVar 0)) (mNot (mUn (opIsi 1) (mVar 0))))
def b_is_between (φ : Fns) : MS := sRet (mAnd (mCall φ 0 (maCons (mVar 0) (maNil))) (mChain opLe2 opLe2 (mVar 1) (mVar 0) (mVar 2)))
def b_is_text_of (φ : Fns) : MS := sRet (mAnd (mUn (opIsi 3) (mVar 0)) (mBi baAll (maCons (mComp (miSeq (mVar 0)) [2] (gVar 2) (mtYes) (mBin opInD (mVar 2) (mVar 1))) (maNil))))
def b_is_ascending (φ : Fns) : MS := sRet (mBi baAll (maCons (mComp (miAll zipW (maCons (mVar 0) (maCons (mSl (mVar 0) (moSome (mC (.int 1))) (moNone)) (maNil)))) [1, 2] (gTupW (gsCons (gVar 1) (gsCons (gVar 2) (gsNil)))) (mtYes) (mBin opLt2 (mVar 1) (mVar 2))) (maNil)))
def b_lowest (φ : Fns) : MS := sSeq (sSet 2 (mBi baGcd (maCons (mVar 0) (maCons (mVar 1) (maNil))))) (sRet (mTup (maCons (mBin opDiv (mVar 0) (mVar 2)) (maCons (mBin opDiv (mVar 1) (mVar 2)) (maNil)))))
def p_power_of_2b (φ : Fns) : MS := sSet 2 (mBin opMul (mVar 2) (mVar 0))
def p_power_of_2 (φ : Fns) : MS := sFor (miRng rng1 (maCons (mVar 1) (maNil))) (gVar 3) (p_power_of_2b φ)
def b_power_of (φ : Fns) : MS := sSeq (sSet 2 (mC (.int 1))) (sSeq (p_power_of_2 φ) (sRet (mVar 2)))
def b_is_mark_number (φ : Fns) : MS := sRet (mCall φ 1 (maCons (mVar 0) (maCons (mC (.int 1)) (maCons (mC (.int 4)) (maNil)))))
def b_is_card_of (φ : Fns) : MS := sRet (mAnd (mCall φ 2 (maCons (mVar 1) (maCons (mC (.str [48, 49, 50])) (maNil)))) (mBin opEq (mBi baLen (maCons (mVar 1) (maNil))) (mVar 0)))
def b_is_hand_of (φ : Fns) : MS := sRet (mAnd (mUn (opIsi 4) (mVar 1)) (mAnd (mBi baAll (maCons (mComp (miSeq (mVar 1)) [2] (gVar 2) (mtYes) (mCall φ 7 (maCons (mVar 0) (maCons (mVar 2) (maNil))))) (maNil))) (mCall φ 3 (maCons (mVar 1) (maNil)))))
def b_deck_size (φ : Fns) : MS := sRet (mCall φ 5 (maCons (mBi baLen (maCons (mC (.str [48, 49, 50])) (maNil))) (maCons (mVar 0) (maNil))))
def p_deck_of_2b (φ : Fns) : MS := sSet 1 (mComp2 (miSeq (mVar 1)) [3, 4] (gVar 3) (mtYes) (miSeq (mC (.str [48, 49, 50]))) [4] (gVar 4) (mtYes) (mBin opAdd (mVar 3) (mVar 4)))
def p_deck_of_2 (φ : Fns) : MS := sFor (miRng rng1 (maCons (mVar 0) (maNil))) (gVar 2) (p_deck_of_2b φ)
def b_deck_of (φ : Fns) : MS := sSeq (sSet 1 (mLst (maCons (mC (.str [])) (maNil)))) (sSeq (p_deck_of_2 φ) (sRet (mVar 1)))
def b_sorts_of (φ : Fns) : MS := sRet (mComp (miSeq (mVar 0)) [1] (gVar 1) (mtYes) (mMeth 3 omIndex012 (mC (.str [48, 49, 50])) (maCons (mVar 1) (maNil))))
def b_card_of_sorts (φ : Fns) : MS := sRet (mJoin (mC (.str [])) (mComp (miSeq (mVar 0)) [1] (gVar 1) (mtYes) (mBin opIx (mC (.str [48, 49, 50])) (mBin opMod (mVar 1) (mBi baLen (maCons (mC (.str [48, 49, 50])) (maNil)))))))
def b_third_of (φ : Fns) : MS := sRet (mCall φ 12 (maCons (mComp (miAll zipW (maCons (mCall φ 11 (maCons (mVar 0) (maNil))) (maCons (mCall φ 11 (maCons (mVar 1) (maNil))) (maNil)))) [2, 3] (gTupW (gsCons (gVar 2) (gsCons (gVar 3) (gsNil)))) (mtYes) (mBin opSub (mBin opSub (mC (.int 0)) (mVar 2)) (mVar 3))) (maNil)))
def b_check_marks (φ : Fns) : MS := sIf (mTNot (mTru (mCall φ 6 (maCons (mVar 0) (maNil))))) (sRaise 0 (mVar 0)) (sNx)
def b_check_hand (φ : Fns) : MS := sIf (mTNot (mTru (mCall φ 8 (maCons (mVar 0) (maCons (mVar 1) (maNil)))))) (sRaise 1 (mVar 1)) (sNx)
def b_check_marked_hand (φ : Fns) : MS := sSeq (sDrop (mCall φ 14 (maCons (mVar 0) (maNil)))) (sDrop (mCall φ 15 (maCons (mVar 0) (maCons (mVar 1) (maNil)))))
def b_check_size (φ : Fns) : MS := sIf (mTNot (mTru (mCall φ 1 (maCons (mVar 0) (maCons (mVar 1) (maCons (mVar 2) (maNil))))))) (sRaise 2 (mVar 0)) (sNx)
def b_check_up_to (φ : Fns) : MS := sIf (mTCmp opGt2 (mVar 0) (mVar 1)) (sRaise 3 (mVar 0)) (sNx)
def b_lots_of (φ : Fns) : MS := sSeq (sSet 1 (mDComp (miSeq (mVar 0)) [3] (gVar 3) (mtYes) (mVar 3) (mC (.bl true)))) (sSeq (sSet 2 (mComp (miAll combsW (maCons (mVar 0) (maCons (mC (.int 2)) (maNil)))) [3, 4] (gTupW (gsCons (gVar 3) (gsCons (gVar 4) (gsNil)))) (mtYes) (mTup (maCons (mVar 3) (maCons (mVar 4) (maCons (mCall φ 13 (maCons (mVar 3) (maCons (mVar 4) (maNil)))) (maNil))))))) (sRet (mComp (miSeq (mVar 2)) [5] (gVar 5) (mTAnd (mTCmp opGt2 (mBin opIx (mVar 5) (mC (.int 2))) (mBin opIx (mVar 5) (mC (.int 1)))) (mTCmp opInD (mBin opIx (mVar 5) (mC (.int 2))) (mVar 1))) (mVar 5))))
def b_is_free_by (φ : Fns) : MS := sRet (mBin opEq (mCall φ 19 (maCons (mVar 0) (maNil))) (mLst (maNil)))
def b_most_free_of (φ : Fns) : MS := sRet (mBin opIx (mC (.tup [(.int 2), (.int 4), (.int 9), (.int 20)])) (mBin opSub (mVar 0) (mC (.int 1))))
def b_free_count_of (φ : Fns) : MS := sSeq (sSet 2 (mBin opIx (mC (.tup [.tup [(.int 1), (.int 3), (.int 3)], .tup [(.int 1), (.int 9), (.int 36), (.int 72), (.int 54)], .tup [(.int 1), (.int 27), (.int 351), (.int 2808), (.int 14742), (.int 50544), (.int 107406), (.int 126360), (.int 63180), (.int 2106)]])) (mBin opSub (mVar 0) (mC (.int 1))))) (sRet (mIf (mTCmp opLt2 (mVar 1) (mBi baLen (maCons (mVar 2) (maNil)))) (mBin opIx (mVar 2) (mVar 1)) (mC (.int 0))))
def b_is_bent (φ : Fns) : MS := sSeq (sSet 1 (mCall φ 11 (maCons (mVar 0) (maNil)))) (sSeq (sIf (mTCmp opLt2 (mBi baLen (maCons (mVar 1) (maNil))) (mC (.int 3))) (sRet (mBin opNotIn (mC (.int 0)) (mVar 1))) (sNx)) (sSeq (sSet 2 (mBin opAdd (mBin opMul (mBin opIx (mVar 1) (mC (.int 0))) (mBin opIx (mVar 1) (mC (.int 0)))) (mBin opMul (mBin opIx (mVar 1) (mC (.int 1))) (mBin opIx (mVar 1) (mC (.int 1)))))) (sSeq (sIf (mTCmp opEq (mBi baLen (maCons (mVar 1) (maNil))) (mC (.int 3))) (sRet (mBin opEq (mBin opMod (mVar 2) (mBi baLen (maCons (mC (.str [48, 49, 50])) (maNil)))) (mBin opIx (mVar 1) (mC (.int 2))))) (sNx)) (sRet (mAnd (mBin opEq (mBin opMod (mBin opAdd (mVar 2) (mBin opMul (mBin opIx (mVar 1) (mC (.int 2))) (mBin opIx (mVar 1) (mC (.int 3))))) (mBi baLen (maCons (mC (.str [48, 49, 50])) (maNil)))) (mC (.int 0))) (mBin opNe (mVar 1) (mLst (maCons (mC (.int 0)) (maCons (mC (.int 0)) (maCons (mC (.int 0)) (maCons (mC (.int 0)) (maNil))))))))))))
def b_greatest_free_of (φ : Fns) : MS := sRet (mComp (miSeq (mCall φ 10 (maCons (mVar 0) (maNil)))) [1] (gVar 1) (mTru (mCall φ 23 (maCons (mVar 1) (maNil)))) (mVar 1))
def b_most_free (φ : Fns) : MS := sSeq (sDrop (mCall φ 14 (maCons (mVar 0) (maNil)))) (sRet (mCall φ 21 (maCons (mVar 0) (maNil))))
def b_free_count (φ : Fns) : MS := sSeq (sDrop (mCall φ 14 (maCons (mVar 0) (maNil)))) (sSeq (sDrop (mCall φ 17 (maCons (mVar 1) (maCons (mC (.int 0)) (maCons (mCall φ 9 (maCons (mVar 0) (maNil))) (maNil)))))) (sSeq (sDrop (mCall φ 18 (maCons (mVar 0) (maCons (mC (.int 3)) (maNil))))) (sRet (mCall φ 22 (maCons (mVar 0) (maCons (mVar 1) (maNil)))))))
def b_greatest_free (φ : Fns) : MS := sSeq (sDrop (mCall φ 14 (maCons (mVar 0) (maNil)))) (sRet (mBi baTuple (maCons (mCall φ 24 (maCons (mVar 0) (maNil))) (maNil))))
def b_is_free (φ : Fns) : MS := sSeq (sDrop (mCall φ 16 (maCons (mVar 0) (maCons (mVar 1) (maNil))))) (sRet (mCall φ 20 (maCons (mVar 1) (maNil))))
def b_free_chance_by (φ : Fns) : MS := sRet (mCall φ 4 (maCons (mCall φ 22 (maCons (mVar 0) (maCons (mVar 1) (maNil)))) (maCons (mCall φ 30 (maCons (mVar 0) (maCons (mVar 1) (maNil)))) (maNil))))
def b_hand_count_by (φ : Fns) : MS := sRet (mBi baComb (maCons (mCall φ 9 (maCons (mVar 0) (maNil))) (maCons (mVar 1) (maNil))))
def b_check_hand_size (φ : Fns) : MS := sSeq (sDrop (mCall φ 14 (maCons (mVar 0) (maNil)))) (sDrop (mCall φ 17 (maCons (mVar 1) (maCons (mC (.int 0)) (maCons (mCall φ 9 (maCons (mVar 0) (maNil))) (maNil))))))
def b_free_chance (φ : Fns) : MS := sSeq (sDrop (mCall φ 31 (maCons (mVar 0) (maCons (mVar 1) (maNil))))) (sSeq (sDrop (mCall φ 18 (maCons (mVar 0) (maCons (mC (.int 3)) (maNil))))) (sRet (mCall φ 29 (maCons (mVar 0) (maCons (mVar 1) (maNil))))))
def b_hand_count (φ : Fns) : MS := sSeq (sDrop (mCall φ 31 (maCons (mVar 0) (maCons (mVar 1) (maNil))))) (sRet (mCall φ 30 (maCons (mVar 0) (maCons (mVar 1) (maNil)))))
def p_law_well_3b (φ : Fns) : MS := sSet 3 (mBin opMod (mBi baInt (maCons (mBin opAdd (mBin opAdd (mBin opMul (mVar 3) (mC (.int 45013))) (mBin opMod (mBi baInt (maCons (mVar 4) (maNil))) (mC (.int 2147483399)))) (mC (.int 37))) (maNil))) (mC (.int 2147483563)))
def p_law_well_3 (φ : Fns) : MS := sFor (miSeq (mBin opAdd (mSl (mVar 0) (moNone) (moSome (mC (.int 5)))) (mLst (maCons (mVar 2) (maNil))))) (gVar 4) (p_law_well_3b φ)
def b_law_well (φ : Fns) : MS := sSeq (sSet 2 (mIf (mTCmp opLt (mVar 1) (mBi baLen (maCons (mVar 0) (maNil)))) (mBi baInt (maCons (mBin opIx (mVar 0) (mVar 1)) (maNil))) (mBin opAdd (mBin opAdd (mBin opMul (mC (.int 9311)) (mVar 1)) (mBin opMod (mBi baInt (maCons (mBi baSum (maCons (mSl (mVar 0) (moNone) (moSome (mC (.int 2)))) (maNil))) (maNil))) (mC (.int 1000003)))) (mC (.int 71))))) (sSeq (sSet 3 (mBin opAdd (mC (.int 50021)) (mBin opMul (mC (.int 1013)) (mVar 1)))) (sSeq (p_law_well_3 φ) (sRet (mLstS (maCons (mIf (mTOr (mTCmp opLt (mVar 2) (mC (.int 0))) (mTCmp opGe (mVar 2) (mBin opPow (mC (.int 10)) (mC (.int 17))))) (mBin opMod (mBi baInt (maCons (mBi baAbs (maCons (mVar 2) (maNil))) (maNil))) (mBin opPow (mC (.int 10)) (mC (.int 60)))) (mC (.int 0))) (maCons (mVar 3) (maCons (mC (.int 0)) (maNil))))))))
def b_law_take (φ : Fns) : MS := sSeq (sIf (mTCmp opGt (mBin opIx (mVar 0) (mC (.int 0))) (mC (.int 0))) (sSeq (sAsg (mBi baDivmod (maCons (mBin opIx (mVar 0) (mC (.int 0))) (maCons (mVar 1) (maNil)))) (gTupW (gsCons (gIdx (mVar 0) (mC (.int 0))) (gsCons (gVar 2) (gsNil))))) (sRet (mVar 2))) (sNx)) (sSeq (sAsg (mBin opAdd (mBin opIx (mVar 0) (mC (.int 2))) (mC (.int 1))) (gIdx (mVar 0) (mC (.int 2)))) (sSeq (sSet 3 (mBin opAdd (mBin opMod (mBi baInt (maCons (mBin opIx (mVar 0) (mC (.int 1))) (maNil))) (mC (.int 28657))) (mC (.int 40009)))) (sSeq (sAsg (mBin opMod (mBi baInt (maCons (mBin opAdd (mBin opAdd (mBin opMul (mBin opIx (mVar 0) (mC (.int 1))) (mVar 3)) (mBin opMul (mC (.int 50023)) (mBin opIx (mVar 0) (mC (.int 2))))) (mC (.int 17))) (maNil))) (mC (.int 2147483563))) (gIdx (mVar 0) (mC (.int 1)))) (sRet (mBin opMod (mBi baInt (maCons (mBin opDiv (mBin opIx (mVar 0) (mC (.int 1))) (mC (.int 83))) (maNil))) (mVar 1))))))
def b_law_pick (φ : Fns) : MS := sRet (mBin opIx (mVar 1) (mCall φ 35 (maCons (mVar 0) (maCons (mBi baLen (maCons (mVar 1) (maNil))) (maNil)))))
def b_law_is (φ : Fns) : MS := sSeq (sIf (mTru (mUn (opIsi 4) (mVar 1))) (sSeq (sIf (mTOr (mTNot (mTru (mUn (opIsi 4) (mVar 0)))) (mTCmp opNe (mBi baLen (maCons (mVar 0) (maNil))) (mBi baLen (maCons (mVar 1) (maNil))))) (sRet (mC (.bl false))) (sNx)) (sRet (mBi baAll (maCons (mComp (miAll enumW2 (maCons (mVar 1) (maNil))) [2, 3] (gTupW (gsCons (gVar 2) (gsCons (gVar 3) (gsNil)))) (mtYes) (mCall φ 37 (maCons (mBin opIx (mVar 0) (mVar 2)) (maCons (mVar 3) (maNil))))) (maNil))))) (sNx)) (sSeq (sIf (mTru (mUn (opIsi 5) (mVar 1))) (sRet (mAnd (mUn (opIsi 5) (mVar 0)) (mCall φ 37 (maCons (mBi baTuple (maCons (mVar 0) (maNil))) (maCons (mBi baTuple (maCons (mVar 1) (maNil))) (maNil)))))) (sNx)) (sSeq (sIf (mTru (mUn (opIsi 6) (mVar 1))) (sRet (mAnd (mUn (opIsi 6) (mVar 0)) (mBin opEqE (mVar 0) (mVar 1)))) (sNx)) (sSeq (sIf (mTOr (mTUn opIsN (mVar 1)) (mTOr (mTCmp opIsB (mVar 1) (mC (.bl true))) (mTCmp opIsB (mVar 1) (mC (.bl false))))) (sRet (mIf (mTUn opIsN (mVar 1)) (mUn opIsN (mVar 0)) (mIf (mTCmp opIsB (mVar 1) (mC (.bl true))) (mBin opIsB (mVar 0) (mC (.bl true))) (mBin opIsB (mVar 0) (mC (.bl false)))))) (sNx)) (sSeq (sIf (mTru (mUn (opIsi 2) (mVar 1))) (sRet (mAnd (mUn (opIsi 2) (mVar 0)) (mAnd (mNot (mUn (opIsi 1) (mVar 0))) (mBin opEqE (mVar 0) (mVar 1))))) (sNx)) (sRet (mAnd (mUn (opIsi 3) (mVar 0)) (mBin opEqE (mVar 0) (mVar 1))))))))
def b_law_is_card (φ : Fns) : MS := sRet (mAnd (mUn (opIsi 3) (mVar 1)) (mAnd (mBin opEq (mBi baLen (maCons (mVar 1) (maNil))) (mVar 0)) (mBin opEq (mComp (miSeq (mVar 1)) [2] (gVar 2) (mTCmp opNotIn (mVar 2) (mC (.str [48, 49, 50]))) (mVar 2)) (mLst (maNil)))))
def b_law_is_hand (φ : Fns) : MS := sSeq (sIf (mTOr (mTNot (mTru (mUn (opIsi 4) (mVar 1)))) (mTCmp opNe (mComp (miSeq (mVar 1)) [2] (gVar 2) (mTNot (mTru (mCall φ 38 (maCons (mVar 0) (maCons (mVar 2) (maNil)))))) (mVar 2)) (mLst (maNil)))) (sRet (mC (.bl false))) (sNx)) (sRet (mBin opEq (mComp (miRng rng2 (maCons (mC (.int 1)) (maCons (mBi baLen (maCons (mVar 1) (maNil))) (maNil)))) [3] (gVar 3) (mTCmp opGe2 (mBin opIx (mVar 1) (mBin opSub (mVar 3) (mC (.int 1)))) (mBin opIx (mVar 1) (mVar 3))) (mVar 3)) (mLst (maNil))))
def p_law_deck_2b2b (φ : Fns) : MS := sSet 3 (mBin opAdd (mVar 3) (mComp (miSeq (mC (.str [48, 49, 50]))) [5] (gVar 5) (mtYes) (mBin opAdd (mVar 4) (mVar 5))))
def p_law_deck_2b2 (φ : Fns) : MS := sFor (miSeq (mVar 1)) (gVar 4) (p_law_deck_2b2b φ)
def p_law_deck_2b (φ : Fns) : MS := sSeq (sSet 3 (mLst (maNil))) (sSeq (p_law_deck_2b2 φ) (sSet 1 (mVar 3)))
def p_law_deck_2 (φ : Fns) : MS := sFor (miRng rng1 (maCons (mVar 0) (maNil))) (gVar 2) (p_law_deck_2b φ)
def b_law_deck (φ : Fns) : MS := sSeq (sSet 1 (mLst (maCons (mC (.str [])) (maNil)))) (sSeq (p_law_deck_2 φ) (sRet (mBi baTuple (maCons (mVar 1) (maNil)))))
def b_law_third (φ : Fns) : MS := sRet (mJoin (mC (.str [])) (mComp (miRng rng1 (maCons (mBi baLen (maCons (mVar 0) (maNil))) (maNil))) [2] (gVar 2) (mtYes) (mBin opIx (mC (.str [48, 49, 50])) (mBin opMod (mBi baInt (maCons (mBin opSub (mBin opSub (mC (.int 6)) (mBi baInt (maCons (mBin opIx (mVar 0) (mVar 2)) (maNil)))) (mBi baInt (maCons (mBin opIx (mVar 1) (mVar 2)) (maNil)))) (maNil))) (mC (.int 3))))))
def p_law_is_free_1b (φ : Fns) : MS := sIf (mTCmp opNe (mComp (miSeq (mSl (mVar 0) (moSome (mBin opAdd (mVar 1) (mC (.int 1)))) (moNone))) [3] (gVar 3) (mTAnd (mTCmp opInT (mCall φ 41 (maCons (mVar 2) (maCons (mVar 3) (maNil)))) (mVar 0)) (mTCmp opGt2 (mCall φ 41 (maCons (mVar 2) (maCons (mVar 3) (maNil)))) (mVar 3))) (mVar 3)) (mLst (maNil))) (sRet (mC (.bl false))) (sNx)
def p_law_is_free_1 (φ : Fns) : MS := sFor (miAll enumW2 (maCons (mVar 0) (maNil))) (gTupW (gsCons (gVar 1) (gsCons (gVar 2) (gsNil)))) (p_law_is_free_1b φ)
def b_law_is_free (φ : Fns) : MS := sSeq (p_law_is_free_1 φ) (sRet (mC (.bl true)))
def p_law_hands_2b (φ : Fns) : MS := sSet 1 (mBin opAdd (mVar 1) (mComp (miSeq (mVar 1)) [3] (gVar 3) (mtYes) (mBin opAdd (mVar 3) (mTup (maCons (mVar 2) (maNil))))))
def p_law_hands_2 (φ : Fns) : MS := sFor (miSeq (mCall φ 40 (maCons (mVar 0) (maNil)))) (gVar 2) (p_law_hands_2b φ)
def b_law_hands (φ : Fns) : MS := sSeq (sSet 1 (mLst (maCons (mTup (maNil)) (maNil)))) (sSeq (p_law_hands_2 φ) (sRet (mVar 1)))
def b_law_counts (φ : Fns) : MS := sSeq (sIf (mTCmp opEq (mVar 0) (mC (.int 3))) (sRet (mBin opAdd (mLst (maCons (mC (.int 1)) (maCons (mC (.int 27)) (maCons (mC (.int 351)) (maCons (mC (.int 2808)) (maCons (mC (.int 14742)) (maCons (mC (.int 50544)) (maCons (mC (.int 107406)) (maCons (mC (.int 126360)) (maCons (mC (.int 63180)) (maCons (mC (.int 2106)) (maNil)))))))))))) (mBin opMul (mLst (maCons (mC (.int 0)) (maNil))) (mC (.int 18))))) (sNx)) (sSeq (sSet 1 (mComp (miSeq (mCall φ 43 (maCons (mVar 0) (maNil)))) [2] (gVar 2) (mTru (mCall φ 42 (maCons (mVar 2) (maNil)))) (mBi baLen (maCons (mVar 2) (maNil))))) (sRet (mComp (miRng rng1 (maCons (mBin opAdd (mBi baLen (maCons (mCall φ 40 (maCons (mVar 0) (maNil))) (maNil))) (mC (.int 1))) (maNil))) [3] (gVar 3) (mtYes) (mMeth 5 omCountI (mVar 1) (maCons (mVar 3) (maNil))))))
def p_law_chosen_2b (φ : Fns) : MS := sSet 2 (mBin opDiv (mBin opMul (mVar 2) (mBin opSub (mVar 0) (mVar 3))) (mBin opAdd (mVar 3) (mC (.int 1))))
def p_law_chosen_2 (φ : Fns) : MS := sFor (miRng rng1 (maCons (mVar 1) (maNil))) (gVar 3) (p_law_chosen_2b φ)
def b_law_chosen (φ : Fns) : MS := sSeq (sSet 2 (mC (.int 1))) (sSeq (p_law_chosen_2 φ) (sRet (mVar 2)))
def b_law_size_right (φ : Fns) : MS := sSeq (sIf (mTNot (mTru (mCall φ 37 (maCons (mLst (maCons (mCall φ 26 (maCons (mVar 0) (maCons (mVar 1) (maNil)))) (maCons (mCallK φ 26 [1, 0] (maCons (mVar 1) (maCons (mVar 0) (maNil)))) (maNil)))) (maCons (mLst (maCons (mVar 2) (maCons (mVar 2) (maNil)))) (maNil)))))) (sRet (mC (.bl false))) (sNx)) (sSeq (sSet 3 (mCall φ 45 (maCons (mBi baLen (maCons (mCall φ 40 (maCons (mVar 0) (maNil))) (maNil))) (maCons (mVar 1) (maNil))))) (sSeq (sSet 4 (mCall φ 32 (maCons (mVar 0) (maCons (mVar 1) (maNil))))) (sSeq (sIf (mTOr (mTNot (mTru (mUn (opIsi 4) (mVar 4)))) (mTOr (mTCmp opNe (mBi baLen (maCons (mVar 4) (maNil))) (mC (.int 2))) (mTOr (mTNot (mTru (mCall φ 37 (maCons (mCall φ 33 (maCons (mVar 0) (maCons (mVar 1) (maNil)))) (maCons (mVar 3) (maNil)))))) (mTOr (mTCmp opNe (mBin opMul (mBin opIx (mVar 4) (mC (.int 0))) (mVar 3)) (mBin opMul (mVar 2) (mBin opIx (mVar 4) (mC (.int 1))))) (mTCmp opLt2 (mBin opIx (mVar 4) (mC (.int 1))) (mC (.int 1))))))) (sRet (mC (.bl false))) (sNx)) (sRet (mBin opEq (mComp (miRng rng2 (maCons (mC (.int 2)) (maCons (mC (.int 40)) (maNil)))) [5] (gVar 5) (mTAnd (mTCmp opEq (mBin opMod (mBi baInt (maCons (mBin opIx (mVar 4) (mC (.int 0))) (maNil))) (mVar 5)) (mC (.int 0))) (mTCmp opEq (mBin opMod (mBi baInt (maCons (mBin opIx (mVar 4) (mC (.int 1))) (maNil))) (mVar 5)) (mC (.int 0)))) (mVar 5)) (mLst (maNil)))))))
def p_law_greatest_right_1b (φ : Fns) : MS := sSeq (sSet 2 (mCall φ 27 (maCons (mVar 0) (maNil)))) (sSeq (sIf (mTNot (mTru (mCall φ 37 (maCons (mLst (maCons (mCall φ 25 (maCons (mVar 0) (maNil))) (maCons (mCallK φ 25 [0] (maCons (mVar 0) (maNil))) (maCons (mCall φ 28 (maCons (mVar 0) (maCons (mVar 2) (maNil)))) (maNil))))) (maCons (mLst (maCons (mVar 1) (maCons (mVar 1) (maCons (mC (.bl true)) (maNil))))) (maNil)))))) (sRet (mC (.bl false))) (sNx)) (sIf (mTOr (mTNot (mTru (mCall φ 39 (maCons (mVar 0) (maCons (mVar 2) (maNil)))))) (mTOr (mTCmp opNe (mBi baLen (maCons (mVar 2) (maNil))) (mVar 1)) (mTNot (mTru (mCall φ 42 (maCons (mVar 2) (maNil))))))) (sRet (mC (.bl false))) (sNx)))
def p_law_greatest_right_1 (φ : Fns) : MS := sFor (miSeq (mLst (maCons (mTup (maCons (mC (.int 1)) (maCons (mC (.int 2)) (maNil)))) (maCons (mTup (maCons (mC (.int 2)) (maCons (mC (.int 4)) (maNil)))) (maCons (mTup (maCons (mC (.int 3)) (maCons (mC (.int 9)) (maNil)))) (maCons (mTup (maCons (mC (.int 4)) (maCons (mC (.int 20)) (maNil)))) (maNil))))))) (gTupW (gsCons (gVar 0) (gsCons (gVar 1) (gsNil)))) (p_law_greatest_right_1b φ)
def b_law_greatest_right (φ : Fns) : MS := sSeq (p_law_greatest_right_1 φ) (sRet (mC (.bl true)))
def b_law_caught (φ : Fns) : MS := sTry 3 (sRet (mLst (maCons (mC (.str [116, 111, 108, 100])) (maCons (mIf (mTCmp opEq (mVar 0) (mC (.int 0))) (mCall φ 26 (maCons (mVar 1) (maCons (mVar 2) (maNil)))) (mIf (mTCmp opEq (mVar 0) (mC (.int 1))) (mCall φ 25 (maCons (mVar 1) (maNil))) (mCall φ 27 (maCons (mVar 1) (maNil))))) (maNil))))) (sSeq (sSet 4 (mLst (maCons (mIsX is_InvalidNumber (mVar 3)) (maCons (mIsX is_InvalidSize (mVar 3)) (maCons (mIsX is_TooMany (mVar 3)) (maNil)))))) (sRet (mIf (mTCmp opNe (mMeth 5 omCountB (mVar 4) (maCons (mC (.bl true)) (maNil))) (mC (.int 1))) (mLst (maCons (mC (.str [111, 100, 100])) (maCons (mC .non) (maNil)))) (mLst (maCons (mBin opIx (mLst (maCons (mC (.str [110, 117, 109, 98, 101, 114])) (maCons (mC (.str [115, 105, 122, 101])) (maCons (mC (.str [109, 97, 110, 121])) (maNil))))) (mMeth 5 omIndexF (mVar 4) (maCons (mC (.bl true)) (maNil)))) (maCons (mXF fl_given (mVar 3)) (maNil)))))))
def p_law_refused_right_1b (φ : Fns) : MS := sIf (mTNot (mTru (mCall φ 37 (maCons (mComp (miRng rng1 (maCons (mC (.int 3)) (maNil))) [4] (gVar 4) (mtYes) (mCall φ 48 (maCons (mVar 4) (maCons (mVar 1) (maCons (mC .non) (maNil)))))) (maCons (mBin opMul (mLst (maCons (mLst (maCons (mC (.str [110, 117, 109, 98, 101, 114])) (maCons (mVar 1) (maNil)))) (maNil))) (mC (.int 3))) (maNil)))))) (sRet (mC (.bl false))) (sNx)
def p_law_refused_right_1 (φ : Fns) : MS := sFor (miSeq (mLst (maCons (mC (.int 0)) (maCons (mC (.int 5)) (maCons (mUn opNeg (mC (.int 1))) (maCons (mC (.bl true)) (maCons (mC .non) (maCons (mC (.str [50])) (maCons (mTup (maCons (mC (.int 2)) (maNil))) (maCons (mBin opPow (mC (.int 10)) (mC (.int 20))) (maCons (mCall φ 36 (maCons (mVar 0) (maCons (mLst (maCons (mLst (maNil)) (maCons (mDct0) (maNil)))) (maNil)))) (maNil)))))))))))) (gVar 1) (p_law_refused_right_1b φ)
def p_law_refused_right_3b (φ : Fns) : MS := sIf (mTNot (mTru (mCall φ 37 (maCons (mCall φ 48 (maCons (mC (.int 0)) (maCons (mVar 2) (maCons (mVar 3) (maNil))))) (maCons (mLst (maCons (mC (.str [115, 105, 122, 101])) (maCons (mVar 3) (maNil)))) (maNil)))))) (sRet (mC (.bl false))) (sNx)
def p_law_refused_right_3 (φ : Fns) : MS := sFor (miSeq (mLst (maCons (mBin opAdd (mBi baLen (maCons (mCall φ 40 (maCons (mVar 2) (maNil))) (maNil))) (mC (.int 1))) (maCons (mUn opNeg (mC (.int 1))) (maCons (mC (.bl true)) (maCons (mC .non) (maCons (mC (.str [49])) (maCons (mTup (maCons (mC (.int 1)) (maNil))) (maCons (mBin opPow (mC (.int 10)) (mC (.int 20))) (maNil)))))))))) (gVar 3) (p_law_refused_right_3b φ)
def b_law_refused_right (φ : Fns) : MS := sSeq (p_law_refused_right_1 φ) (sSeq (sSet 2 (mBin opAdd (mC (.int 1)) (mCall φ 35 (maCons (mVar 0) (maCons (mC (.int 4)) (maNil)))))) (sSeq (p_law_refused_right_3 φ) (sRet (mCall φ 37 (maCons (mComp (miSeq (mLst (maCons (mC (.int 0)) (maCons (mC (.int 20)) (maCons (mC (.int 81)) (maNil)))))) [3] (gVar 3) (mtYes) (mCall φ 48 (maCons (mC (.int 0)) (maCons (mC (.int 4)) (maCons (mVar 3) (maNil)))))) (maCons (mBin opMul (mLst (maCons (mLst (maCons (mC (.str [109, 97, 110, 121])) (maCons (mC (.int 4)) (maNil)))) (maNil))) (mC (.int 3))) (maNil)))))))
def p_law_5b (φ : Fns) : MS := sSeq (sSet 2 (mCall φ 44 (maCons (mVar 4) (maNil)))) (sIf (mTCmp opNe (mComp (miRng rng1 (maCons (mBi baLen (maCons (mVar 2) (maNil))) (maNil))) [5] (gVar 5) (mTNot (mTru (mCall φ 46 (maCons (mVar 4) (maCons (mVar 5) (maCons (mBin opIx (mVar 2) (mVar 5)) (maNil))))))) (mVar 5)) (mLst (maNil))) (sRet (mC (.bl false))) (sNx))
def p_law_5 (φ : Fns) : MS := sFor (miSeq (mLst (maCons (mC (.int 1)) (maCons (mC (.int 2)) (maNil))))) (gVar 4) (p_law_5b φ)
def b_law (φ : Fns) : MS := sSeq (sSet 1 (mCall φ 34 (maCons (mVar 0) (maCons (mC (.int 0)) (maNil))))) (sSeq (sSet 2 (mCall φ 44 (maCons (mC (.int 3)) (maNil)))) (sSeq (sSet 3 (mLst (maCons (mCall φ 35 (maCons (mVar 1) (maCons (mC (.int 10)) (maNil)))) (maCons (mCall φ 36 (maCons (mVar 1) (maCons (mLst (maCons (mC (.int 9)) (maCons (mC (.int 9)) (maCons (mC (.int 8)) (maCons (mBin opAdd (mC (.int 10)) (mCall φ 35 (maCons (mVar 1) (maCons (mC (.int 18)) (maNil))))) (maNil)))))) (maNil)))) (maNil))))) (sSeq (sIf (mTOr (mTNot (mTru (mCall0 φ 47))) (mTCmp opNe (mComp (miSeq (mVar 3)) [5] (gVar 5) (mTNot (mTru (mCall φ 37 (maCons (mCall φ 26 (maCons (mC (.int 3)) (maCons (mVar 5) (maNil)))) (maCons (mBin opIx (mVar 2) (mVar 5)) (maNil)))))) (mVar 5)) (mLst (maNil)))) (sRet (mC (.bl false))) (sNx)) (sSeq (p_law_5 φ) (sRet (mBi baAll (maCons (mComp (miRng rng1 (maCons (mBi baMax2 (maCons (mC (.int 2)) (maCons (mBi baMin2 (maCons (mBi baLen (maCons (mVar 0) (maNil))) (maCons (mC (.int 3)) (maNil)))) (maNil)))) (maNil))) [6] (gVar 6) (mtYes) (mCall φ 49 (maCons (mCall φ 34 (maCons (mVar 0) (maCons (mVar 6) (maNil)))) (maNil)))) (maNil))))))))
def T : List Mp.Fun := [⟨1, 1, false, true, b_is_whole⟩, ⟨3, 3, false, true, b_is_between⟩, ⟨2, 3, false, true, b_is_text_of⟩, ⟨1, 3, false, true, b_is_ascending⟩, ⟨2, 3, false, true, b_lowest⟩, ⟨2, 4, false, true, b_power_of⟩, ⟨1, 1, false, true, b_is_mark_number⟩, ⟨2, 2, false, true, b_is_card_of⟩, ⟨2, 3, false, true, b_is_hand_of⟩, ⟨1, 1, false, true, b_deck_size⟩, ⟨1, 5, false, true, b_deck_of⟩, ⟨1, 2, false, true, b_sorts_of⟩, ⟨1, 2, false, true, b_card_of_sorts⟩, ⟨2, 4, false, true, b_third_of⟩, ⟨1, 1, false, true, b_check_marks⟩, ⟨2, 2, false, true, b_check_hand⟩, ⟨2, 2, false, true, b_check_marked_hand⟩, ⟨3, 3, false, true, b_check_size⟩, ⟨2, 2, false, true, b_check_up_to⟩, ⟨1, 6, false, true, b_lots_of⟩, ⟨1, 1, false, true, b_is_free_by⟩, ⟨1, 1, false, true, b_most_free_of⟩, ⟨2, 3, false, true, b_free_count_of⟩, ⟨1, 3, false, true, b_is_bent⟩, ⟨1, 2, false, true, b_greatest_free_of⟩, ⟨1, 1, false, true, b_most_free⟩, ⟨2, 2, false, true, b_free_count⟩, ⟨1, 1, false, true, b_greatest_free⟩, ⟨2, 2, false, true, b_is_free⟩, ⟨2, 2, false, true, b_free_chance_by⟩, ⟨2, 2, false, true, b_hand_count_by⟩, ⟨2, 2, false, true, b_check_hand_size⟩, ⟨2, 2, false, true, b_free_chance⟩, ⟨2, 2, false, true, b_hand_count⟩, ⟨2, 5, true, false, b_law_well⟩, ⟨2, 4, false, false, b_law_take⟩, ⟨2, 2, false, false, b_law_pick⟩, ⟨2, 4, false, true, b_law_is⟩, ⟨2, 3, false, true, b_law_is_card⟩, ⟨2, 4, false, true, b_law_is_hand⟩, ⟨1, 6, false, true, b_law_deck⟩, ⟨2, 3, false, true, b_law_third⟩, ⟨1, 4, false, true, b_law_is_free⟩, ⟨1, 4, false, true, b_law_hands⟩, ⟨1, 4, false, true, b_law_counts⟩, ⟨2, 4, false, true, b_law_chosen⟩, ⟨3, 6, false, true, b_law_size_right⟩, ⟨0, 3, false, true, b_law_greatest_right⟩, ⟨3, 5, false, true, b_law_caught⟩, ⟨1, 5, false, false, b_law_refused_right⟩, ⟨1, 7, false, true, b_law⟩]
end Lw
namespace Lw
open PySem PySem.Spec PyProof.Rows L2 Mp
def top (i : Nat) : Stmt := PySem.Challenge.pw_threealike_k07_whole_free_hands_counted.main.body.getD i (.Pass ⟨0, 0, 0, 0⟩)
def r_is_whole : FnR := ⟨"is_whole", ["value"], top 3⟩
def r_is_between : FnR := ⟨"is_between", ["value", "low", "high"], top 4⟩
def r_is_text_of : FnR := ⟨"is_text_of", ["value", "signs"], top 5⟩
def r_is_ascending : FnR := ⟨"is_ascending", ["row"], top 6⟩
def r_lowest : FnR := ⟨"lowest", ["top", "low"], top 7⟩
def r_power_of : FnR := ⟨"power_of", ["number", "many"], top 8⟩
def r_is_mark_number : FnR := ⟨"is_mark_number", ["value"], top 12⟩
def r_is_card_of : FnR := ⟨"is_card_of", ["number", "value"], top 13⟩
def r_is_hand_of : FnR := ⟨"is_hand_of", ["number", "value"], top 14⟩
def r_deck_size : FnR := ⟨"deck_size", ["number"], top 15⟩
def r_deck_of : FnR := ⟨"deck_of", ["number"], top 16⟩
def r_sorts_of : FnR := ⟨"sorts_of", ["card"], top 17⟩
def r_card_of_sorts : FnR := ⟨"card_of_sorts", ["sorts"], top 18⟩
def r_third_of : FnR := ⟨"third_of", ["card", "other"], top 19⟩
def r_check_marks : FnR := ⟨"check_marks", ["number"], top 27⟩
def r_check_hand : FnR := ⟨"check_hand", ["number", "hand"], top 28⟩
def r_check_marked_hand : FnR := ⟨"check_marked_hand", ["number", "hand"], top 29⟩
def r_check_size : FnR := ⟨"check_size", ["size", "low", "high"], top 30⟩
def r_check_up_to : FnR := ⟨"check_up_to", ["many", "most"], top 31⟩
def r_lots_of : FnR := ⟨"lots_of", ["hand"], top 33⟩
def r_is_free_by : FnR := ⟨"is_free_by", ["hand"], top 34⟩
def r_most_free_of : FnR := ⟨"most_free_of", ["number"], top 39⟩
def r_free_count_of : FnR := ⟨"free_count_of", ["number", "size"], top 40⟩
def r_is_bent : FnR := ⟨"is_bent", ["card"], top 41⟩
def r_greatest_free_of : FnR := ⟨"greatest_free_of", ["number"], top 42⟩
def r_most_free : FnR := ⟨"most_free", ["number"], top 44⟩
def r_free_count : FnR := ⟨"free_count", ["number", "size"], top 45⟩
def r_greatest_free : FnR := ⟨"greatest_free", ["number"], top 46⟩
def r_is_free : FnR := ⟨"is_free", ["number", "hand"], top 48⟩
def r_free_chance_by : FnR := ⟨"free_chance_by", ["number", "size"], top 50⟩
def r_hand_count_by : FnR := ⟨"hand_count_by", ["number", "size"], top 51⟩
def r_check_hand_size : FnR := ⟨"check_hand_size", ["number", "size"], top 53⟩
def r_free_chance : FnR := ⟨"free_chance", ["number", "size"], top 54⟩
def r_hand_count : FnR := ⟨"hand_count", ["number", "size"], top 55⟩
def r_law_well : FnR := ⟨"_law_well", ["script", "turn"], top 57⟩
def r_law_take : FnR := ⟨"_law_take", ["well", "many"], top 58⟩
def r_law_pick : FnR := ⟨"_law_pick", ["well", "some"], top 59⟩
def r_law_is : FnR := ⟨"_law_is", ["one", "due"], top 60⟩
def r_law_is_card : FnR := ⟨"_law_is_card", ["many", "value"], top 61⟩
def r_law_is_hand : FnR := ⟨"_law_is_hand", ["many", "value"], top 62⟩
def r_law_deck : FnR := ⟨"_law_deck", ["many"], top 63⟩
def r_law_third : FnR := ⟨"_law_third", ["one", "other"], top 64⟩
def r_law_is_free : FnR := ⟨"_law_is_free", ["hand"], top 65⟩
def r_law_hands : FnR := ⟨"_law_hands", ["many"], top 66⟩
def r_law_counts : FnR := ⟨"_law_counts", ["many"], top 67⟩
def r_law_chosen : FnR := ⟨"_law_chosen", ["whole", "few"], top 68⟩
def r_law_size_right : FnR := ⟨"_law_size_right", ["many", "size", "due"], top 69⟩
def r_law_greatest_right : FnR := ⟨"_law_greatest_right", [], top 70⟩
def r_law_caught : FnR := ⟨"_law_caught", ["which", "number", "size"], top 71⟩
def r_law_refused_right : FnR := ⟨"_law_refused_right", ["well"], top 72⟩
def r_law : FnR := ⟨"law", ["script"], top 73⟩
def N_is_whole : List Str := ["value"]
theorem s_is_whole : FnScope N_is_whole r_is_whole.ps (defScope r_is_whole.st) := ⟨rfl, rfl, rfl, by decide +kernel, rfl, by decide +kernel, by decide +kernel⟩
def N_is_between : List Str := ["value", "low", "high"]
theorem s_is_between : FnScope N_is_between r_is_between.ps (defScope r_is_between.st) := ⟨rfl, rfl, rfl, by decide +kernel, rfl, by decide +kernel, by decide +kernel⟩
def N_is_text_of : List Str := ["value", "signs", "sign"]
theorem s_is_text_of : FnScope N_is_text_of r_is_text_of.ps (defScope r_is_text_of.st) := ⟨rfl, rfl, rfl, by decide +kernel, rfl, by decide +kernel, by decide +kernel⟩
def N_is_ascending : List Str := ["row", "one", "two"]
theorem s_is_ascending : FnScope N_is_ascending r_is_ascending.ps (defScope r_is_ascending.st) := ⟨rfl, rfl, rfl, by decide +kernel, rfl, by decide +kernel, by decide +kernel⟩
def N_lowest : List Str := ["top", "low", "common"]
theorem s_lowest : FnScope N_lowest r_lowest.ps (defScope r_lowest.st) := ⟨rfl, rfl, rfl, by decide +kernel, rfl, by decide +kernel, by decide +kernel⟩
def N_power_of : List Str := ["number", "many", "found", "_"]
theorem s_power_of : FnScope N_power_of r_power_of.ps (defScope r_power_of.st) := ⟨rfl, rfl, rfl, by decide +kernel, rfl, by decide +kernel, by decide +kernel⟩
def N_is_mark_number : List Str := ["value"]
theorem s_is_mark_number : FnScope N_is_mark_number r_is_mark_number.ps (defScope r_is_mark_number.st) := ⟨rfl, rfl, rfl, by decide +kernel, rfl, by decide +kernel, by decide +kernel⟩
def N_is_card_of : List Str := ["number", "value"]
theorem s_is_card_of : FnScope N_is_card_of r_is_card_of.ps (defScope r_is_card_of.st) := ⟨rfl, rfl, rfl, by decide +kernel, rfl, by decide +kernel, by decide +kernel⟩
def N_is_hand_of : List Str := ["number", "value", "card"]
theorem s_is_hand_of : FnScope N_is_hand_of r_is_hand_of.ps (defScope r_is_hand_of.st) := ⟨rfl, rfl, rfl, by decide +kernel, rfl, by decide +kernel, by decide +kernel⟩
def N_deck_size : List Str := ["number"]
theorem s_deck_size : FnScope N_deck_size r_deck_size.ps (defScope r_deck_size.st) := ⟨rfl, rfl, rfl, by decide +kernel, rfl, by decide +kernel, by decide +kernel⟩
def N_deck_of : List Str := ["number", "found", "_", "card", "sort"]
theorem s_deck_of : FnScope N_deck_of r_deck_of.ps (defScope r_deck_of.st) := ⟨rfl, rfl, rfl, by decide +kernel, rfl, by decide +kernel, by decide +kernel⟩
def N_sorts_of : List Str := ["card", "sort"]
theorem s_sorts_of : FnScope N_sorts_of r_sorts_of.ps (defScope r_sorts_of.st) := ⟨rfl, rfl, rfl, by decide +kernel, rfl, by decide +kernel, by decide +kernel⟩
def N_card_of_sorts : List Str := ["sorts", "sort"]
theorem s_card_of_sorts : FnScope N_card_of_sorts r_card_of_sorts.ps (defScope r_card_of_sorts.st) := ⟨rfl, rfl, rfl, by decide +kernel, rfl, by decide +kernel, by decide +kernel⟩
def N_third_of : List Str := ["card", "other", "one", "two"]
theorem s_third_of : FnScope N_third_of r_third_of.ps (defScope r_third_of.st) := ⟨rfl, rfl, rfl, by decide +kernel, rfl, by decide +kernel, by decide +kernel⟩
def N_check_marks : List Str := ["number"]
theorem s_check_marks : FnScope N_check_marks r_check_marks.ps (defScope r_check_marks.st) := ⟨rfl, rfl, rfl, by decide +kernel, rfl, by decide +kernel, by decide +kernel⟩
def N_check_hand : List Str := ["number", "hand"]
theorem s_check_hand : FnScope N_check_hand r_check_hand.ps (defScope r_check_hand.st) := ⟨rfl, rfl, rfl, by decide +kernel, rfl, by decide +kernel, by decide +kernel⟩
def N_check_marked_hand : List Str := ["number", "hand"]
theorem s_check_marked_hand : FnScope N_check_marked_hand r_check_marked_hand.ps (defScope r_check_marked_hand.st) := ⟨rfl, rfl, rfl, by decide +kernel, rfl, by decide +kernel, by decide +kernel⟩
def N_check_size : List Str := ["size", "low", "high"]
theorem s_check_size : FnScope N_check_size r_check_size.ps (defScope r_check_size.st) := ⟨rfl, rfl, rfl, by decide +kernel, rfl, by decide +kernel, by decide +kernel⟩
def N_check_up_to : List Str := ["many", "most"]
theorem s_check_up_to : FnScope N_check_up_to r_check_up_to.ps (defScope r_check_up_to.st) := ⟨rfl, rfl, rfl, by decide +kernel, rfl, by decide +kernel, by decide +kernel⟩
def N_lots_of : List Str := ["hand", "known", "some", "card", "other", "lot"]
theorem s_lots_of : FnScope N_lots_of r_lots_of.ps (defScope r_lots_of.st) := ⟨rfl, rfl, rfl, by decide +kernel, rfl, by decide +kernel, by decide +kernel⟩
def N_is_free_by : List Str := ["hand"]
theorem s_is_free_by : FnScope N_is_free_by r_is_free_by.ps (defScope r_is_free_by.st) := ⟨rfl, rfl, rfl, by decide +kernel, rfl, by decide +kernel, by decide +kernel⟩
def N_most_free_of : List Str := ["number"]
theorem s_most_free_of : FnScope N_most_free_of r_most_free_of.ps (defScope r_most_free_of.st) := ⟨rfl, rfl, rfl, by decide +kernel, rfl, by decide +kernel, by decide +kernel⟩
def N_free_count_of : List Str := ["number", "size", "counts"]
theorem s_free_count_of : FnScope N_free_count_of r_free_count_of.ps (defScope r_free_count_of.st) := ⟨rfl, rfl, rfl, by decide +kernel, rfl, by decide +kernel, by decide +kernel⟩
def N_is_bent : List Str := ["card", "sorts", "squares"]
theorem s_is_bent : FnScope N_is_bent r_is_bent.ps (defScope r_is_bent.st) := ⟨rfl, rfl, rfl, by decide +kernel, rfl, by decide +kernel, by decide +kernel⟩
def N_greatest_free_of : List Str := ["number", "card"]
theorem s_greatest_free_of : FnScope N_greatest_free_of r_greatest_free_of.ps (defScope r_greatest_free_of.st) := ⟨rfl, rfl, rfl, by decide +kernel, rfl, by decide +kernel, by decide +kernel⟩
def N_most_free : List Str := ["number"]
theorem s_most_free : FnScope N_most_free r_most_free.ps (defScope r_most_free.st) := ⟨rfl, rfl, rfl, by decide +kernel, rfl, by decide +kernel, by decide +kernel⟩
def N_free_count : List Str := ["number", "size"]
theorem s_free_count : FnScope N_free_count r_free_count.ps (defScope r_free_count.st) := ⟨rfl, rfl, rfl, by decide +kernel, rfl, by decide +kernel, by decide +kernel⟩
def N_greatest_free : List Str := ["number"]
theorem s_greatest_free : FnScope N_greatest_free r_greatest_free.ps (defScope r_greatest_free.st) := ⟨rfl, rfl, rfl, by decide +kernel, rfl, by decide +kernel, by decide +kernel⟩
def N_is_free : List Str := ["number", "hand"]
theorem s_is_free : FnScope N_is_free r_is_free.ps (defScope r_is_free.st) := ⟨rfl, rfl, rfl, by decide +kernel, rfl, by decide +kernel, by decide +kernel⟩
def N_free_chance_by : List Str := ["number", "size"]
theorem s_free_chance_by : FnScope N_free_chance_by r_free_chance_by.ps (defScope r_free_chance_by.st) := ⟨rfl, rfl, rfl, by decide +kernel, rfl, by decide +kernel, by decide +kernel⟩
def N_hand_count_by : List Str := ["number", "size"]
theorem s_hand_count_by : FnScope N_hand_count_by r_hand_count_by.ps (defScope r_hand_count_by.st) := ⟨rfl, rfl, rfl, by decide +kernel, rfl, by decide +kernel, by decide +kernel⟩
def N_check_hand_size : List Str := ["number", "size"]
theorem s_check_hand_size : FnScope N_check_hand_size r_check_hand_size.ps (defScope r_check_hand_size.st) := ⟨rfl, rfl, rfl, by decide +kernel, rfl, by decide +kernel, by decide +kernel⟩
def N_free_chance : List Str := ["number", "size"]
theorem s_free_chance : FnScope N_free_chance r_free_chance.ps (defScope r_free_chance.st) := ⟨rfl, rfl, rfl, by decide +kernel, rfl, by decide +kernel, by decide +kernel⟩
def N_hand_count : List Str := ["number", "size"]
theorem s_hand_count : FnScope N_hand_count r_hand_count.ps (defScope r_hand_count.st) := ⟨rfl, rfl, rfl, by decide +kernel, rfl, by decide +kernel, by decide +kernel⟩
def N_law_well : List Str := ["script", "turn", "own", "stir", "cell"]
theorem s_law_well : FnScope N_law_well r_law_well.ps (defScope r_law_well.st) := ⟨rfl, rfl, rfl, by decide +kernel, rfl, by decide +kernel, by decide +kernel⟩
def N_law_take : List Str := ["well", "many", "figure", "by"]
theorem s_law_take : FnScope N_law_take r_law_take.ps (defScope r_law_take.st) := ⟨rfl, rfl, rfl, by decide +kernel, rfl, by decide +kernel, by decide +kernel⟩
def N_law_pick : List Str := ["well", "some"]
theorem s_law_pick : FnScope N_law_pick r_law_pick.ps (defScope r_law_pick.st) := ⟨rfl, rfl, rfl, by decide +kernel, rfl, by decide +kernel, by decide +kernel⟩
def N_law_is : List Str := ["one", "due", "at", "each"]
theorem s_law_is : FnScope N_law_is r_law_is.ps (defScope r_law_is.st) := ⟨rfl, rfl, rfl, by decide +kernel, rfl, by decide +kernel, by decide +kernel⟩
def N_law_is_card : List Str := ["many", "value", "sign"]
theorem s_law_is_card : FnScope N_law_is_card r_law_is_card.ps (defScope r_law_is_card.st) := ⟨rfl, rfl, rfl, by decide +kernel, rfl, by decide +kernel, by decide +kernel⟩
def N_law_is_hand : List Str := ["many", "value", "card", "at"]
theorem s_law_is_hand : FnScope N_law_is_hand r_law_is_hand.ps (defScope r_law_is_hand.st) := ⟨rfl, rfl, rfl, by decide +kernel, rfl, by decide +kernel, by decide +kernel⟩
def N_law_deck : List Str := ["many", "rows", "turn", "longer", "row", "sign"]
theorem s_law_deck : FnScope N_law_deck r_law_deck.ps (defScope r_law_deck.st) := ⟨rfl, rfl, rfl, by decide +kernel, rfl, by decide +kernel, by decide +kernel⟩
def N_law_third : List Str := ["one", "other", "at"]
theorem s_law_third : FnScope N_law_third r_law_third.ps (defScope r_law_third.st) := ⟨rfl, rfl, rfl, by decide +kernel, rfl, by decide +kernel, by decide +kernel⟩
def N_law_is_free : List Str := ["hand", "at", "one", "other"]
theorem s_law_is_free : FnScope N_law_is_free r_law_is_free.ps (defScope r_law_is_free.st) := ⟨rfl, rfl, rfl, by decide +kernel, rfl, by decide +kernel, by decide +kernel⟩
def N_law_hands : List Str := ["many", "rows", "card", "row"]
theorem s_law_hands : FnScope N_law_hands r_law_hands.ps (defScope r_law_hands.st) := ⟨rfl, rfl, rfl, by decide +kernel, rfl, by decide +kernel, by decide +kernel⟩
def N_law_counts : List Str := ["many", "sizes", "hand", "size"]
theorem s_law_counts : FnScope N_law_counts r_law_counts.ps (defScope r_law_counts.st) := ⟨rfl, rfl, rfl, by decide +kernel, rfl, by decide +kernel, by decide +kernel⟩
def N_law_chosen : List Str := ["whole", "few", "found", "each"]
theorem s_law_chosen : FnScope N_law_chosen r_law_chosen.ps (defScope r_law_chosen.st) := ⟨rfl, rfl, rfl, by decide +kernel, rfl, by decide +kernel, by decide +kernel⟩
def N_law_size_right : List Str := ["many", "size", "due", "whole", "share", "by"]
theorem s_law_size_right : FnScope N_law_size_right r_law_size_right.ps (defScope r_law_size_right.st) := ⟨rfl, rfl, rfl, by decide +kernel, rfl, by decide +kernel, by decide +kernel⟩
def N_law_greatest_right : List Str := ["many", "due", "some"]
theorem s_law_greatest_right : FnScope N_law_greatest_right r_law_greatest_right.ps (defScope r_law_greatest_right.st) := ⟨rfl, rfl, rfl, by decide +kernel, rfl, by decide +kernel, by decide +kernel⟩
def N_law_caught : List Str := ["which", "number", "size", "e", "hits"]
theorem s_law_caught : FnScope N_law_caught r_law_caught.ps (defScope r_law_caught.st) := ⟨rfl, rfl, rfl, by decide +kernel, rfl, by decide +kernel, by decide +kernel⟩
def N_law_refused_right : List Str := ["well", "number", "many", "size", "which"]
theorem s_law_refused_right : FnScope N_law_refused_right r_law_refused_right.ps (defScope r_law_refused_right.st) := ⟨rfl, rfl, rfl, by decide +kernel, rfl, by decide +kernel, by decide +kernel⟩
def N_law : List Str := ["script", "first", "rows", "some", "many", "size", "turn"]
theorem s_law : FnScope N_law r_law.ps (defScope r_law.st) := ⟨rfl, rfl, rfl, by decide +kernel, rfl, by decide +kernel, by decide +kernel⟩
def D : List FnR := [r_is_whole, r_is_between, r_is_text_of, r_is_ascending, r_lowest, r_power_of, r_is_mark_number, r_is_card_of, r_is_hand_of, r_deck_size, r_deck_of, r_sorts_of, r_card_of_sorts, r_third_of, r_check_marks, r_check_hand, r_check_marked_hand, r_check_size, r_check_up_to, r_lots_of, r_is_free_by, r_most_free_of, r_free_count_of, r_is_bent, r_greatest_free_of, r_most_free, r_free_count, r_greatest_free, r_is_free, r_free_chance_by, r_hand_count_by, r_check_hand_size, r_free_chance, r_hand_count, r_law_well, r_law_take, r_law_pick, r_law_is, r_law_is_card, r_law_is_hand, r_law_deck, r_law_third, r_law_is_free, r_law_hands, r_law_counts, r_law_chosen, r_law_size_right, r_law_greatest_right, r_law_caught, r_law_refused_right, r_law]
def ERR : List (Str × Str) := [("InvalidNumber", "given"), ("InvalidHand", "given"), ("InvalidSize", "given"), ("TooMany", "given")]
def er0 (c : Nat) : Str × Str := ERR.getD c ("InvalidNumber", "given")
def er (c : Nat) : Str × Str := er0 (ixN 4 c)
def gs (K : PySem.W.Frag) : Gs := { fa := fun f => He.ga K ((D.getD f r_law).x), ca := fun c => He.ga K (er c).1, nm := fun c => (er c).2 }
def clsB : Stmt → List Stmt
  | .ClassDef _ _ _ b _ _ _ _ _ _ _ => b
  | _ => []
def i_InvalidNumber : Stmt := (clsB (top 22)).getD 0 (.Pass ⟨0, 0, 0, 0⟩)
theorem s_i_InvalidNumber : FnScope ["self", "given"] ["self", "given"] (defScope i_InvalidNumber) := ⟨rfl, rfl, rfl, by decide +kernel, rfl, by decide +kernel, by decide +kernel⟩
def i_InvalidHand : Stmt := (clsB (top 23)).getD 0 (.Pass ⟨0, 0, 0, 0⟩)
theorem s_i_InvalidHand : FnScope ["self", "given"] ["self", "given"] (defScope i_InvalidHand) := ⟨rfl, rfl, rfl, by decide +kernel, rfl, by decide +kernel, by decide +kernel⟩
def i_InvalidSize : Stmt := (clsB (top 24)).getD 0 (.Pass ⟨0, 0, 0, 0⟩)
theorem s_i_InvalidSize : FnScope ["self", "given"] ["self", "given"] (defScope i_InvalidSize) := ⟨rfl, rfl, rfl, by decide +kernel, rfl, by decide +kernel, by decide +kernel⟩
def i_TooMany : Stmt := (clsB (top 25)).getD 0 (.Pass ⟨0, 0, 0, 0⟩)
theorem s_i_TooMany : FnScope ["self", "given"] ["self", "given"] (defScope i_TooMany) := ⟨rfl, rfl, rfl, by decide +kernel, rfl, by decide +kernel, by decide +kernel⟩
def BL : List Str := (["isinstance", "int", "bool", "str", "all", "zip", "range", "len", "tuple", "sum", "abs", "divmod", "enumerate", "list", "dict", "min", "max"] : List String).map Str.ofString
structure Fx (K : PySem.W.Frag) (mg : Str → Option Value) : Prop where
  bl : ∀ (i : Nat) (x : Str), BL[i]? = some x → mg x = none
  c_MOST_MARKS : ∃ t, mg "MOST_MARKS" = some (.int (4) t)
  c_SORTS : ∃ t, mg "SORTS" = some (.str "012" t)
  c_MOST_COUNTED : ∃ t, mg "MOST_COUNTED" = some (.int (3) t)
  c_MOST_FREE : ∃ u, mg "MOST_FREE" = some u ∧ cW K (.tup [(.int 2), (.int 4), (.int 9), (.int 20)]) u = true
  c_FREE_COUNTS : ∃ u, mg "FREE_COUNTS" = some u ∧ cW K (.tup [.tup [(.int 1), (.int 3), (.int 3)], .tup [(.int 1), (.int 9), (.int 36), (.int 72), (.int 54)], .tup [(.int 1), (.int 27), (.int 351), (.int 2808), (.int 14742), (.int 50544), (.int 107406), (.int 126360), (.int 63180), (.int 2106)]]) u = true
  i_gcd : mg "gcd" = some (.builtin "math.gcd")
  i_combinations : mg "combinations" = some (.type "itertools.combinations")
  i_comb : mg "comb" = some (.builtin "math.comb")
  er_InvalidNumber : ∀ (P : Program) (w : World) (base : Heap), ErrF P w K mg base (He.ga K "InvalidNumber") "InvalidNumber" "given"
  er_InvalidHand : ∀ (P : Program) (w : World) (base : Heap), ErrF P w K mg base (He.ga K "InvalidHand") "InvalidHand" "given"
  er_InvalidSize : ∀ (P : Program) (w : World) (base : Heap), ErrF P w K mg base (He.ga K "InvalidSize") "InvalidSize" "given"
  er_TooMany : ∀ (P : Program) (w : World) (base : Heap), ErrF P w K mg base (He.ga K "TooMany") "TooMany" "given"
  eb : ∀ c, errB K (er c).1 (er c).2 = true
  gl_InvalidNumber : mg "InvalidNumber" = some (.ref (He.ga K "InvalidNumber"))
  gl_InvalidSize : mg "InvalidSize" = some (.ref (He.ga K "InvalidSize"))
  gl_TooMany : mg "TooMany" = some (.ref (He.ga K "TooMany"))
  gl_ThreeError : mg "ThreeError" = some (.ref (He.ga K "ThreeError"))
  te_ThreeError : ∀ c, PySem.W.exmOne K (.ref (He.ga K (er c).1)) (.ref (He.ga K "ThreeError")) = some true
  ki_TooMany : ∀ c, PySem.W.kitOne K (.ref (He.ga K (er c).1)) (.ref (He.ga K "TooMany")) = some (is_TooMany c)
  ki_InvalidSize : ∀ c, PySem.W.kitOne K (.ref (He.ga K (er c).1)) (.ref (He.ga K "InvalidSize")) = some (is_InvalidSize c)
  ki_InvalidNumber : ∀ c, PySem.W.kitOne K (.ref (He.ga K (er c).1)) (.ref (He.ga K "InvalidNumber")) = some (is_InvalidNumber c)
  xf_given : ∀ c, fl_given c = true → XfC K (He.ga K (er c).1) ∧ PySem.W.findIn K (.ref (He.ga K (er c).1)) "given" = some none ∧ (er c).2 = "given"
theorem fgl {P : Program} {w : World} {K : PySem.W.Frag} {mg : Str → Option Value} {base : Heap} {G : Gs} {d f : Nat} {φ : List W → Store → R W} {r : FnR} (h : ∃ fd, FT P w K mg base G d φ f r fd) : mg r.x = some (.ref (G.fa f)) := h.elim fun _ h => h.gl
section
variable {P : Program} {w : World} {K : PySem.W.Frag} {mg : Str → Option Value} {base : Heap} {d : Nat} (B : Fx K mg) (IH : AllF P w K mg base (gs K) T D d)
include B IH
theorem d_is_whole (cdv : Value) (A : Around) (outer : List PySem.Env) (s : Shared) (H : Hp) (E : XK) (cf : Cfg (cxOf (L2.CX P w) P w K mg base N_is_whole "is_whole" (defScope (top 3)) ((gs K).fa 0) cdv A outer s H E)) (hr : Room (d + 2) (A.deeper (envOfC "is_whole" (defScope (top 3)) s.heap.objs.size ((gs K).fa 0) cdv))) :
    SSs (cxOf (L2.CX P w) P w K mg base N_is_whole "is_whole" (defScope (top 3)) ((gs K).fa 0) cdv A outer s H E) (gs K) (defBody (top 3)) (b_is_whole (fns T d)) := by
  unfold b_is_whole
  exact sss_one (ss_ret (se_and (se_isi 2 (B.bl 0 _ rfl) (B.bl 1 _ rfl) (se_var 0)) (se_one (se_not (se_isi 1 (B.bl 0 _ rfl) (B.bl 2 _ rfl) (se_var 0))))))
theorem d_is_between (cdv : Value) (A : Around) (outer : List PySem.Env) (s : Shared) (H : Hp) (E : XK) (cf : Cfg (cxOf (L2.CX P w) P w K mg base N_is_between "is_between" (defScope (top 4)) ((gs K).fa 1) cdv A outer s H E)) (hr : Room (d + 2) (A.deeper (envOfC "is_between" (defScope (top 4)) s.heap.objs.size ((gs K).fa 1) cdv))) :
    SSs (cxOf (L2.CX P w) P w K mg base N_is_between "is_between" (defScope (top 4)) ((gs K).fa 1) cdv A outer s H E) (gs K) (defBody (top 4)) (b_is_between (fns T d)) := by
  unfold b_is_between
  exact sss_one (ss_ret (se_and (se_call 0 (IH 0 _ rfl) hr (sa_cons (se_var 0) (sa_nil))) (se_one (se_chain (o2_le2 (by have := cf.un; omega)) (o2_le2 (by have := cf.un; omega)) (se_var 1) (se_var 0) (se_var 2)))))
theorem d_is_text_of (cdv : Value) (A : Around) (outer : List PySem.Env) (s : Shared) (H : Hp) (E : XK) (cf : Cfg (cxOf (L2.CX P w) P w K mg base N_is_text_of "is_text_of" (defScope (top 5)) ((gs K).fa 2) cdv A outer s H E)) (hr : Room (d + 2) (A.deeper (envOfC "is_text_of" (defScope (top 5)) s.heap.objs.size ((gs K).fa 2) cdv))) :
    SSs (cxOf (L2.CX P w) P w K mg base N_is_text_of "is_text_of" (defScope (top 5)) ((gs K).fa 2) cdv A outer s H E) (gs K) (defBody (top 5)) (b_is_text_of (fns T d)) := by
  unfold b_is_text_of
  exact sss_one (ss_ret (se_and (se_isi 3 (B.bl 0 _ rfl) (B.bl 3 _ rfl) (se_var 0)) (se_one (se_bi (cr_allW cf.calm) (B.bl 4 _ rfl) (sa_cons (se_comp [("sign", 2)] cf (si_seq (se_var 0)) (blkOk_by (by kernel_rfl)) (fun _ _ _ _ _ cf => sg_name 2 cf) (fun _ _ _ _ _ cf => sts_nil) (fun _ _ _ _ _ cf => se_cmp (o2_inD (by have := cf.un; omega)) (se_var 2) (se_var 1))) (sa_nil))))))
theorem d_is_ascending (cdv : Value) (A : Around) (outer : List PySem.Env) (s : Shared) (H : Hp) (E : XK) (cf : Cfg (cxOf (L2.CX P w) P w K mg base N_is_ascending "is_ascending" (defScope (top 6)) ((gs K).fa 3) cdv A outer s H E)) (hr : Room (d + 2) (A.deeper (envOfC "is_ascending" (defScope (top 6)) s.heap.objs.size ((gs K).fa 3) cdv))) :
    SSs (cxOf (L2.CX P w) P w K mg base N_is_ascending "is_ascending" (defScope (top 6)) ((gs K).fa 3) cdv A outer s H E) (gs K) (defBody (top 6)) (b_is_ascending (fns T d)) := by
  unfold b_is_ascending
  exact sss_one (ss_ret (se_bi (cr_allW cf.calm) (B.bl 4 _ rfl) (sa_cons (se_comp [("one", 1), ("two", 2)] cf (si_zip (B.bl 5 _ rfl) (sa_cons (se_var 0) (sa_cons (se_sl (se_var 0) (so_some (se_int)) (so_none)) (sa_nil)))) (blkOk_by (by kernel_rfl)) (fun _ _ _ _ _ cf => sg_tup 2 cf (sgs_cons (sg_name 1 cf) (sgs_cons (sg_name 2 cf) (sgs_nil))) (hl := glen_cons (glen_cons (glen_nil)))) (fun _ _ _ _ _ cf => sts_nil) (fun _ _ _ _ _ cf => se_cmp (o2_lt2 (by have := cf.un; omega)) (se_var 1) (se_var 2))) (sa_nil))))
theorem d_lowest (cdv : Value) (A : Around) (outer : List PySem.Env) (s : Shared) (H : Hp) (E : XK) (cf : Cfg (cxOf (L2.CX P w) P w K mg base N_lowest "lowest" (defScope (top 7)) ((gs K).fa 4) cdv A outer s H E)) (hr : Room (d + 2) (A.deeper (envOfC "lowest" (defScope (top 7)) s.heap.objs.size ((gs K).fa 4) cdv))) :
    SSs (cxOf (L2.CX P w) P w K mg base N_lowest "lowest" (defScope (top 7)) ((gs K).fa 4) cdv A outer s H E) (gs K) (defBody (top 7)) (b_lowest (fns T d)) := by
  unfold b_lowest
  exact sss_cons (ss_set 2 cf (se_bf cr_gcdW B.i_gcd (sa_cons (se_var 0) (sa_cons (se_var 1) (sa_nil))))) (sss_one (ss_ret (se_tup (sa_cons (se_bin o2_div (se_var 0) (se_var 2)) (sa_cons (se_bin o2_div (se_var 1) (se_var 2)) (sa_nil))))))
theorem d_power_of (cdv : Value) (A : Around) (outer : List PySem.Env) (s : Shared) (H : Hp) (E : XK) (cf : Cfg (cxOf (L2.CX P w) P w K mg base N_power_of "power_of" (defScope (top 8)) ((gs K).fa 5) cdv A outer s H E)) (hr : Room (d + 2) (A.deeper (envOfC "power_of" (defScope (top 8)) s.heap.objs.size ((gs K).fa 5) cdv))) :
    SSs (cxOf (L2.CX P w) P w K mg base N_power_of "power_of" (defScope (top 8)) ((gs K).fa 5) cdv A outer s H E) (gs K) (defBody (top 8)) (b_power_of (fns T d)) := by
  unfold b_power_of
  exact sss_cons (ss_set 2 cf (se_int)) (sss_cons (ss_for cf (si_range1 (B.bl 6 _ rfl) (sa_cons (se_var 1) (sa_nil))) (sg_name 3 cf) (sss_one (ss_set 2 cf (se_bin o2_mul (se_var 2) (se_var 0))))) (sss_one (ss_ret (se_var 2))))
theorem d_is_mark_number (cdv : Value) (A : Around) (outer : List PySem.Env) (s : Shared) (H : Hp) (E : XK) (cf : Cfg (cxOf (L2.CX P w) P w K mg base N_is_mark_number "is_mark_number" (defScope (top 12)) ((gs K).fa 6) cdv A outer s H E)) (hr : Room (d + 2) (A.deeper (envOfC "is_mark_number" (defScope (top 12)) s.heap.objs.size ((gs K).fa 6) cdv))) :
    SSs (cxOf (L2.CX P w) P w K mg base N_is_mark_number "is_mark_number" (defScope (top 12)) ((gs K).fa 6) cdv A outer s H E) (gs K) (defBody (top 12)) (b_is_mark_number (fns T d)) := by
  unfold b_is_mark_number
  exact sss_one (ss_ret (se_call 1 (IH 1 _ rfl) hr (sa_cons (se_var 0) (sa_cons (se_int) (sa_cons (se_gint B.c_MOST_MARKS) (sa_nil))))))
theorem d_is_card_of (cdv : Value) (A : Around) (outer : List PySem.Env) (s : Shared) (H : Hp) (E : XK) (cf : Cfg (cxOf (L2.CX P w) P w K mg base N_is_card_of "is_card_of" (defScope (top 13)) ((gs K).fa 7) cdv A outer s H E)) (hr : Room (d + 2) (A.deeper (envOfC "is_card_of" (defScope (top 13)) s.heap.objs.size ((gs K).fa 7) cdv))) :
    SSs (cxOf (L2.CX P w) P w K mg base N_is_card_of "is_card_of" (defScope (top 13)) ((gs K).fa 7) cdv A outer s H E) (gs K) (defBody (top 13)) (b_is_card_of (fns T d)) := by
  unfold b_is_card_of
  exact sss_one (ss_ret (se_and (se_call 2 (IH 2 _ rfl) hr (sa_cons (se_var 1) (sa_cons (se_gstr [48, 49, 50] B.c_SORTS) (sa_nil)))) (se_one (se_cmp (o2_eq (by have := cf.un; omega)) (se_bi cr_len (B.bl 7 _ rfl) (sa_cons (se_var 1) (sa_nil))) (se_var 0)))))
theorem d_is_hand_of (cdv : Value) (A : Around) (outer : List PySem.Env) (s : Shared) (H : Hp) (E : XK) (cf : Cfg (cxOf (L2.CX P w) P w K mg base N_is_hand_of "is_hand_of" (defScope (top 14)) ((gs K).fa 8) cdv A outer s H E)) (hr : Room (d + 2) (A.deeper (envOfC "is_hand_of" (defScope (top 14)) s.heap.objs.size ((gs K).fa 8) cdv))) :
    SSs (cxOf (L2.CX P w) P w K mg base N_is_hand_of "is_hand_of" (defScope (top 14)) ((gs K).fa 8) cdv A outer s H E) (gs K) (defBody (top 14)) (b_is_hand_of (fns T d)) := by
  unfold b_is_hand_of
  exact sss_one (ss_ret (se_and (se_isi 4 (B.bl 0 _ rfl) (B.bl 8 _ rfl) (se_var 1)) (se_and (se_bi (cr_allW cf.calm) (B.bl 4 _ rfl) (sa_cons (se_comp [("card", 2)] cf (si_seq (se_var 1)) (blkOk_by (by kernel_rfl)) (fun _ _ _ _ _ cf => sg_name 2 cf) (fun _ _ _ _ _ cf => sts_nil) (fun _ _ _ _ _ cf => se_call 7 (IH 7 _ rfl) hr (sa_cons (se_var 0) (sa_cons (se_var 2) (sa_nil))))) (sa_nil))) (se_one (se_call 3 (IH 3 _ rfl) hr (sa_cons (se_var 1) (sa_nil)))))))
theorem d_deck_size (cdv : Value) (A : Around) (outer : List PySem.Env) (s : Shared) (H : Hp) (E : XK) (cf : Cfg (cxOf (L2.CX P w) P w K mg base N_deck_size "deck_size" (defScope (top 15)) ((gs K).fa 9) cdv A outer s H E)) (hr : Room (d + 2) (A.deeper (envOfC "deck_size" (defScope (top 15)) s.heap.objs.size ((gs K).fa 9) cdv))) :
    SSs (cxOf (L2.CX P w) P w K mg base N_deck_size "deck_size" (defScope (top 15)) ((gs K).fa 9) cdv A outer s H E) (gs K) (defBody (top 15)) (b_deck_size (fns T d)) := by
  unfold b_deck_size
  exact sss_one (ss_ret (se_call 5 (IH 5 _ rfl) hr (sa_cons (se_bi cr_len (B.bl 7 _ rfl) (sa_cons (se_gstr [48, 49, 50] B.c_SORTS) (sa_nil))) (sa_cons (se_var 0) (sa_nil)))))
theorem d_deck_of (cdv : Value) (A : Around) (outer : List PySem.Env) (s : Shared) (H : Hp) (E : XK) (cf : Cfg (cxOf (L2.CX P w) P w K mg base N_deck_of "deck_of" (defScope (top 16)) ((gs K).fa 10) cdv A outer s H E)) (hr : Room (d + 2) (A.deeper (envOfC "deck_of" (defScope (top 16)) s.heap.objs.size ((gs K).fa 10) cdv))) :
    SSs (cxOf (L2.CX P w) P w K mg base N_deck_of "deck_of" (defScope (top 16)) ((gs K).fa 10) cdv A outer s H E) (gs K) (defBody (top 16)) (b_deck_of (fns T d)) := by
  unfold b_deck_of
  exact sss_cons (ss_set 1 cf (se_lst (sa_cons (se_str []) (sa_nil)))) (sss_cons (ss_for cf (si_range1 (B.bl 6 _ rfl) (sa_cons (se_var 0) (sa_nil))) (sg_name 2 cf) (sss_one (ss_setLc2 1 [("card", 3), ("sort", 4)] [4] cf (si_seq (se_var 1)) (blkOk_by (by kernel_rfl)) (fun _ _ _ _ _ cf => sg_name 3 cf) (fun _ _ _ _ _ cf => sts_nil) (fun _ _ _ _ _ cf => si_seq (se_gstr [48, 49, 50] B.c_SORTS)) (fun _ _ _ _ _ cf => sg_name 4 cf) (fun _ _ _ _ _ cf => sts_nil) (fun _ _ _ _ _ cf => se_bin o2_add (se_var 3) (se_var 4))))) (sss_one (ss_ret (se_var 1))))
theorem d_sorts_of (cdv : Value) (A : Around) (outer : List PySem.Env) (s : Shared) (H : Hp) (E : XK) (cf : Cfg (cxOf (L2.CX P w) P w K mg base N_sorts_of "sorts_of" (defScope (top 17)) ((gs K).fa 11) cdv A outer s H E)) (hr : Room (d + 2) (A.deeper (envOfC "sorts_of" (defScope (top 17)) s.heap.objs.size ((gs K).fa 11) cdv))) :
    SSs (cxOf (L2.CX P w) P w K mg base N_sorts_of "sorts_of" (defScope (top 17)) ((gs K).fa 11) cdv A outer s H E) (gs K) (defBody (top 17)) (b_sorts_of (fns T d)) := by
  unfold b_sorts_of
  exact sss_one (ss_ret (se_comp [("sort", 1)] cf (si_seq (se_var 0)) (blkOk_by (by kernel_rfl)) (fun _ _ _ _ _ cf => sg_name 1 cf) (fun _ _ _ _ _ cf => sts_nil) (fun _ _ _ _ _ cf => se_meth 3 omIndex012 PySem.F.plainAttrs_str PySem.F.slot_str_index PySem.F.type_str_index om_index012 (se_gstr [48, 49, 50] B.c_SORTS) (sa_cons (se_var 1) (sa_nil)))))
theorem d_card_of_sorts (cdv : Value) (A : Around) (outer : List PySem.Env) (s : Shared) (H : Hp) (E : XK) (cf : Cfg (cxOf (L2.CX P w) P w K mg base N_card_of_sorts "card_of_sorts" (defScope (top 18)) ((gs K).fa 12) cdv A outer s H E)) (hr : Room (d + 2) (A.deeper (envOfC "card_of_sorts" (defScope (top 18)) s.heap.objs.size ((gs K).fa 12) cdv))) :
    SSs (cxOf (L2.CX P w) P w K mg base N_card_of_sorts "card_of_sorts" (defScope (top 18)) ((gs K).fa 12) cdv A outer s H E) (gs K) (defBody (top 18)) (b_card_of_sorts (fns T d)) := by
  unfold b_card_of_sorts
  exact sss_one (ss_ret (se_join (se_str []) (se_comp [("sort", 1)] cf (si_seq (se_var 0)) (blkOk_by (by kernel_rfl)) (fun _ _ _ _ _ cf => sg_name 1 cf) (fun _ _ _ _ _ cf => sts_nil) (fun _ _ _ _ _ cf => se_ix (se_gstr [48, 49, 50] B.c_SORTS) (se_bin o2_mod (se_var 1) (se_bi cr_len (B.bl 7 _ rfl) (sa_cons (se_gstr [48, 49, 50] B.c_SORTS) (sa_nil))))))))
theorem d_third_of (cdv : Value) (A : Around) (outer : List PySem.Env) (s : Shared) (H : Hp) (E : XK) (cf : Cfg (cxOf (L2.CX P w) P w K mg base N_third_of "third_of" (defScope (top 19)) ((gs K).fa 13) cdv A outer s H E)) (hr : Room (d + 2) (A.deeper (envOfC "third_of" (defScope (top 19)) s.heap.objs.size ((gs K).fa 13) cdv))) :
    SSs (cxOf (L2.CX P w) P w K mg base N_third_of "third_of" (defScope (top 19)) ((gs K).fa 13) cdv A outer s H E) (gs K) (defBody (top 19)) (b_third_of (fns T d)) := by
  unfold b_third_of
  exact sss_one (ss_ret (se_call 12 (IH 12 _ rfl) hr (sa_cons (se_comp [("one", 2), ("two", 3)] cf (si_zip (B.bl 5 _ rfl) (sa_cons (se_call 11 (IH 11 _ rfl) hr (sa_cons (se_var 0) (sa_nil))) (sa_cons (se_call 11 (IH 11 _ rfl) hr (sa_cons (se_var 1) (sa_nil))) (sa_nil)))) (blkOk_by (by kernel_rfl)) (fun _ _ _ _ _ cf => sg_tup 2 cf (sgs_cons (sg_name 2 cf) (sgs_cons (sg_name 3 cf) (sgs_nil))) (hl := glen_cons (glen_cons (glen_nil)))) (fun _ _ _ _ _ cf => sts_nil) (fun _ _ _ _ _ cf => se_bin o2_sub (se_bin o2_sub (se_int) (se_var 2)) (se_var 3))) (sa_nil))))
theorem d_check_marks (cdv : Value) (A : Around) (outer : List PySem.Env) (s : Shared) (H : Hp) (E : XK) (cf : Cfg (cxOf (L2.CX P w) P w K mg base N_check_marks "check_marks" (defScope (top 27)) ((gs K).fa 14) cdv A outer s H E)) (hr : Room (d + 2) (A.deeper (envOfC "check_marks" (defScope (top 27)) s.heap.objs.size ((gs K).fa 14) cdv))) :
    SSs (cxOf (L2.CX P w) P w K mg base N_check_marks "check_marks" (defScope (top 27)) ((gs K).fa 14) cdv A outer s H E) (gs K) (defBody (top 27)) (b_check_marks (fns T d)) := by
  unfold b_check_marks
  exact sss_one (ss_if (st_not (st_tru (se_call 6 (IH 6 _ rfl) hr (sa_cons (se_var 0) (sa_nil))))) (sss_one (ss_raise (G := gs K) (c := 0) cf (B.er_InvalidNumber P w base) (hr.mono (by omega)) (sa_cons (se_var 0) (sa_nil)))) (sss_nil))
theorem d_check_hand (cdv : Value) (A : Around) (outer : List PySem.Env) (s : Shared) (H : Hp) (E : XK) (cf : Cfg (cxOf (L2.CX P w) P w K mg base N_check_hand "check_hand" (defScope (top 28)) ((gs K).fa 15) cdv A outer s H E)) (hr : Room (d + 2) (A.deeper (envOfC "check_hand" (defScope (top 28)) s.heap.objs.size ((gs K).fa 15) cdv))) :
    SSs (cxOf (L2.CX P w) P w K mg base N_check_hand "check_hand" (defScope (top 28)) ((gs K).fa 15) cdv A outer s H E) (gs K) (defBody (top 28)) (b_check_hand (fns T d)) := by
  unfold b_check_hand
  exact sss_one (ss_if (st_not (st_tru (se_call 8 (IH 8 _ rfl) hr (sa_cons (se_var 0) (sa_cons (se_var 1) (sa_nil)))))) (sss_one (ss_raise (G := gs K) (c := 1) cf (B.er_InvalidHand P w base) (hr.mono (by omega)) (sa_cons (se_var 1) (sa_nil)))) (sss_nil))
theorem d_check_marked_hand (cdv : Value) (A : Around) (outer : List PySem.Env) (s : Shared) (H : Hp) (E : XK) (cf : Cfg (cxOf (L2.CX P w) P w K mg base N_check_marked_hand "check_marked_hand" (defScope (top 29)) ((gs K).fa 16) cdv A outer s H E)) (hr : Room (d + 2) (A.deeper (envOfC "check_marked_hand" (defScope (top 29)) s.heap.objs.size ((gs K).fa 16) cdv))) :
    SSs (cxOf (L2.CX P w) P w K mg base N_check_marked_hand "check_marked_hand" (defScope (top 29)) ((gs K).fa 16) cdv A outer s H E) (gs K) (defBody (top 29)) (b_check_marked_hand (fns T d)) := by
  unfold b_check_marked_hand
  exact sss_cons (ss_expr (se_call 14 (IH 14 _ rfl) hr (sa_cons (se_var 0) (sa_nil)))) (sss_one (ss_expr (se_call 15 (IH 15 _ rfl) hr (sa_cons (se_var 0) (sa_cons (se_var 1) (sa_nil))))))
theorem d_check_size (cdv : Value) (A : Around) (outer : List PySem.Env) (s : Shared) (H : Hp) (E : XK) (cf : Cfg (cxOf (L2.CX P w) P w K mg base N_check_size "check_size" (defScope (top 30)) ((gs K).fa 17) cdv A outer s H E)) (hr : Room (d + 2) (A.deeper (envOfC "check_size" (defScope (top 30)) s.heap.objs.size ((gs K).fa 17) cdv))) :
    SSs (cxOf (L2.CX P w) P w K mg base N_check_size "check_size" (defScope (top 30)) ((gs K).fa 17) cdv A outer s H E) (gs K) (defBody (top 30)) (b_check_size (fns T d)) := by
  unfold b_check_size
  exact sss_one (ss_if (st_not (st_tru (se_call 1 (IH 1 _ rfl) hr (sa_cons (se_var 0) (sa_cons (se_var 1) (sa_cons (se_var 2) (sa_nil))))))) (sss_one (ss_raise (G := gs K) (c := 2) cf (B.er_InvalidSize P w base) (hr.mono (by omega)) (sa_cons (se_var 0) (sa_nil)))) (sss_nil))
theorem d_check_up_to (cdv : Value) (A : Around) (outer : List PySem.Env) (s : Shared) (H : Hp) (E : XK) (cf : Cfg (cxOf (L2.CX P w) P w K mg base N_check_up_to "check_up_to" (defScope (top 31)) ((gs K).fa 18) cdv A outer s H E)) (hr : Room (d + 2) (A.deeper (envOfC "check_up_to" (defScope (top 31)) s.heap.objs.size ((gs K).fa 18) cdv))) :
    SSs (cxOf (L2.CX P w) P w K mg base N_check_up_to "check_up_to" (defScope (top 31)) ((gs K).fa 18) cdv A outer s H E) (gs K) (defBody (top 31)) (b_check_up_to (fns T d)) := by
  unfold b_check_up_to
  exact sss_one (ss_if (st_cmp (o2_gt2 (by have := cf.un; omega)) (se_var 0) (se_var 1)) (sss_one (ss_raise (G := gs K) (c := 3) cf (B.er_TooMany P w base) (hr.mono (by omega)) (sa_cons (se_var 0) (sa_nil)))) (sss_nil))
theorem d_lots_of (cdv : Value) (A : Around) (outer : List PySem.Env) (s : Shared) (H : Hp) (E : XK) (cf : Cfg (cxOf (L2.CX P w) P w K mg base N_lots_of "lots_of" (defScope (top 33)) ((gs K).fa 19) cdv A outer s H E)) (hr : Room (d + 2) (A.deeper (envOfC "lots_of" (defScope (top 33)) s.heap.objs.size ((gs K).fa 19) cdv))) :
    SSs (cxOf (L2.CX P w) P w K mg base N_lots_of "lots_of" (defScope (top 33)) ((gs K).fa 19) cdv A outer s H E) (gs K) (defBody (top 33)) (b_lots_of (fns T d)) := by
  unfold b_lots_of
  exact sss_cons (ss_set 1 cf (se_dcomp [("card", 3)] cf (si_seq (se_var 0)) (blkOk_by (by kernel_rfl)) (fun _ _ _ _ _ cf => sg_name 3 cf) (fun _ _ _ _ _ cf => sts_nil) (fun _ _ _ _ _ cf => se_var 3) (fun _ _ _ _ _ cf => se_bl))) (sss_cons (ss_setLc 2 [("card", 3), ("other", 4)] cf (si_comb B.i_combinations (sa_cons (se_var 0) (sa_cons (se_int) (sa_nil)))) (blkOk_by (by kernel_rfl)) (fun _ _ _ _ _ cf => sg_tup 2 cf (sgs_cons (sg_name 3 cf) (sgs_cons (sg_name 4 cf) (sgs_nil))) (hl := glen_cons (glen_cons (glen_nil)))) (fun _ _ _ _ _ cf => sts_nil) (fun _ _ _ _ _ cf => se_tup (sa_cons (se_var 3) (sa_cons (se_var 4) (sa_cons (se_call 13 (IH 13 _ rfl) hr (sa_cons (se_var 3) (sa_cons (se_var 4) (sa_nil)))) (sa_nil)))))) (sss_one (ss_ret (se_comp [("lot", 5)] cf (si_seq (se_var 2)) (blkOk_by (by kernel_rfl)) (fun _ _ _ _ _ cf => sg_name 5 cf) (fun _ _ _ _ _ cf => sts_one (st_w (sw_and (st_cmp (o2_gt2 (by have := cf.un; omega)) (se_ix (se_var 5) (se_int)) (se_ix (se_var 5) (se_int))) (sw_and1 (st_cmp (o2_inD (by have := cf.un; omega)) (se_ix (se_var 5) (se_int)) (se_var 1)))))) (fun _ _ _ _ _ cf => se_var 5)))))
theorem d_is_free_by (cdv : Value) (A : Around) (outer : List PySem.Env) (s : Shared) (H : Hp) (E : XK) (cf : Cfg (cxOf (L2.CX P w) P w K mg base N_is_free_by "is_free_by" (defScope (top 34)) ((gs K).fa 20) cdv A outer s H E)) (hr : Room (d + 2) (A.deeper (envOfC "is_free_by" (defScope (top 34)) s.heap.objs.size ((gs K).fa 20) cdv))) :
    SSs (cxOf (L2.CX P w) P w K mg base N_is_free_by "is_free_by" (defScope (top 34)) ((gs K).fa 20) cdv A outer s H E) (gs K) (defBody (top 34)) (b_is_free_by (fns T d)) := by
  unfold b_is_free_by
  exact sss_one (ss_ret (se_cmp (o2_eq (by have := cf.un; omega)) (se_call 19 (IH 19 _ rfl) hr (sa_cons (se_var 0) (sa_nil))) (se_lst (sa_nil))))
theorem d_most_free_of (cdv : Value) (A : Around) (outer : List PySem.Env) (s : Shared) (H : Hp) (E : XK) (cf : Cfg (cxOf (L2.CX P w) P w K mg base N_most_free_of "most_free_of" (defScope (top 39)) ((gs K).fa 21) cdv A outer s H E)) (hr : Room (d + 2) (A.deeper (envOfC "most_free_of" (defScope (top 39)) s.heap.objs.size ((gs K).fa 21) cdv))) :
    SSs (cxOf (L2.CX P w) P w K mg base N_most_free_of "most_free_of" (defScope (top 39)) ((gs K).fa 21) cdv A outer s H E) (gs K) (defBody (top 39)) (b_most_free_of (fns T d)) := by
  unfold b_most_free_of
  exact sss_one (ss_ret (se_ix (se_gcon (.tup [(.int 2), (.int 4), (.int 9), (.int 20)]) B.c_MOST_FREE) (se_bin o2_sub (se_var 0) (se_int))))
theorem d_free_count_of (cdv : Value) (A : Around) (outer : List PySem.Env) (s : Shared) (H : Hp) (E : XK) (cf : Cfg (cxOf (L2.CX P w) P w K mg base N_free_count_of "free_count_of" (defScope (top 40)) ((gs K).fa 22) cdv A outer s H E)) (hr : Room (d + 2) (A.deeper (envOfC "free_count_of" (defScope (top 40)) s.heap.objs.size ((gs K).fa 22) cdv))) :
    SSs (cxOf (L2.CX P w) P w K mg base N_free_count_of "free_count_of" (defScope (top 40)) ((gs K).fa 22) cdv A outer s H E) (gs K) (defBody (top 40)) (b_free_count_of (fns T d)) := by
  unfold b_free_count_of
  exact sss_cons (ss_set 2 cf (se_ix (se_gcon (.tup [.tup [(.int 1), (.int 3), (.int 3)], .tup [(.int 1), (.int 9), (.int 36), (.int 72), (.int 54)], .tup [(.int 1), (.int 27), (.int 351), (.int 2808), (.int 14742), (.int 50544), (.int 107406), (.int 126360), (.int 63180), (.int 2106)]]) B.c_FREE_COUNTS) (se_bin o2_sub (se_var 0) (se_int)))) (sss_one (ss_ret (se_if (st_cmp (o2_lt2 (by have := cf.un; omega)) (se_var 1) (se_bi cr_len (B.bl 7 _ rfl) (sa_cons (se_var 2) (sa_nil)))) (se_ix (se_var 2) (se_var 1)) (se_int))))
theorem d_is_bent (cdv : Value) (A : Around) (outer : List PySem.Env) (s : Shared) (H : Hp) (E : XK) (cf : Cfg (cxOf (L2.CX P w) P w K mg base N_is_bent "is_bent" (defScope (top 41)) ((gs K).fa 23) cdv A outer s H E)) (hr : Room (d + 2) (A.deeper (envOfC "is_bent" (defScope (top 41)) s.heap.objs.size ((gs K).fa 23) cdv))) :
    SSs (cxOf (L2.CX P w) P w K mg base N_is_bent "is_bent" (defScope (top 41)) ((gs K).fa 23) cdv A outer s H E) (gs K) (defBody (top 41)) (b_is_bent (fns T d)) := by
  unfold b_is_bent
  exact sss_cons (ss_set 1 cf (se_call 11 (IH 11 _ rfl) hr (sa_cons (se_var 0) (sa_nil)))) (sss_cons (ss_if (st_cmp (o2_lt2 (by have := cf.un; omega)) (se_bi cr_len (B.bl 7 _ rfl) (sa_cons (se_var 1) (sa_nil))) (se_int)) (sss_one (ss_ret (se_cmp (o2_notIn (by have := cf.un; omega)) (se_int) (se_var 1)))) (sss_nil)) (sss_cons (ss_set 2 cf (se_bin o2_add (se_bin o2_mul (se_ix (se_var 1) (se_int)) (se_ix (se_var 1) (se_int))) (se_bin o2_mul (se_ix (se_var 1) (se_int)) (se_ix (se_var 1) (se_int))))) (sss_cons (ss_if (st_cmp (o2_eq (by have := cf.un; omega)) (se_bi cr_len (B.bl 7 _ rfl) (sa_cons (se_var 1) (sa_nil))) (se_int)) (sss_one (ss_ret (se_cmp (o2_eq (by have := cf.un; omega)) (se_bin o2_mod (se_var 2) (se_bi cr_len (B.bl 7 _ rfl) (sa_cons (se_gstr [48, 49, 50] B.c_SORTS) (sa_nil)))) (se_ix (se_var 1) (se_int))))) (sss_nil)) (sss_one (ss_ret (se_and (se_cmp (o2_eq (by have := cf.un; omega)) (se_bin o2_mod (se_bin o2_add (se_var 2) (se_bin o2_mul (se_ix (se_var 1) (se_int)) (se_ix (se_var 1) (se_int)))) (se_bi cr_len (B.bl 7 _ rfl) (sa_cons (se_gstr [48, 49, 50] B.c_SORTS) (sa_nil)))) (se_int)) (se_one (se_cmp (o2_ne (by have := cf.un; omega)) (se_var 1) (se_lst (sa_cons (se_int) (sa_cons (se_int) (sa_cons (se_int) (sa_cons (se_int) (sa_nil))))))))))))))
theorem d_greatest_free_of (cdv : Value) (A : Around) (outer : List PySem.Env) (s : Shared) (H : Hp) (E : XK) (cf : Cfg (cxOf (L2.CX P w) P w K mg base N_greatest_free_of "greatest_free_of" (defScope (top 42)) ((gs K).fa 24) cdv A outer s H E)) (hr : Room (d + 2) (A.deeper (envOfC "greatest_free_of" (defScope (top 42)) s.heap.objs.size ((gs K).fa 24) cdv))) :
    SSs (cxOf (L2.CX P w) P w K mg base N_greatest_free_of "greatest_free_of" (defScope (top 42)) ((gs K).fa 24) cdv A outer s H E) (gs K) (defBody (top 42)) (b_greatest_free_of (fns T d)) := by
  unfold b_greatest_free_of
  exact sss_one (ss_ret (se_comp [("card", 1)] cf (si_seq (se_call 10 (IH 10 _ rfl) hr (sa_cons (se_var 0) (sa_nil)))) (blkOk_by (by kernel_rfl)) (fun _ _ _ _ _ cf => sg_name 1 cf) (fun _ _ _ _ _ cf => sts_one (st_tru (se_call 23 (IH 23 _ rfl) hr (sa_cons (se_var 1) (sa_nil))))) (fun _ _ _ _ _ cf => se_var 1)))
theorem d_most_free (cdv : Value) (A : Around) (outer : List PySem.Env) (s : Shared) (H : Hp) (E : XK) (cf : Cfg (cxOf (L2.CX P w) P w K mg base N_most_free "most_free" (defScope (top 44)) ((gs K).fa 25) cdv A outer s H E)) (hr : Room (d + 2) (A.deeper (envOfC "most_free" (defScope (top 44)) s.heap.objs.size ((gs K).fa 25) cdv))) :
    SSs (cxOf (L2.CX P w) P w K mg base N_most_free "most_free" (defScope (top 44)) ((gs K).fa 25) cdv A outer s H E) (gs K) (defBody (top 44)) (b_most_free (fns T d)) := by
  unfold b_most_free
  exact sss_cons (ss_expr (se_call 14 (IH 14 _ rfl) hr (sa_cons (se_var 0) (sa_nil)))) (sss_one (ss_ret (se_call 21 (IH 21 _ rfl) hr (sa_cons (se_var 0) (sa_nil)))))
theorem d_free_count (cdv : Value) (A : Around) (outer : List PySem.Env) (s : Shared) (H : Hp) (E : XK) (cf : Cfg (cxOf (L2.CX P w) P w K mg base N_free_count "free_count" (defScope (top 45)) ((gs K).fa 26) cdv A outer s H E)) (hr : Room (d + 2) (A.deeper (envOfC "free_count" (defScope (top 45)) s.heap.objs.size ((gs K).fa 26) cdv))) :
    SSs (cxOf (L2.CX P w) P w K mg base N_free_count "free_count" (defScope (top 45)) ((gs K).fa 26) cdv A outer s H E) (gs K) (defBody (top 45)) (b_free_count (fns T d)) := by
  unfold b_free_count
  exact sss_cons (ss_expr (se_call 14 (IH 14 _ rfl) hr (sa_cons (se_var 0) (sa_nil)))) (sss_cons (ss_expr (se_call 17 (IH 17 _ rfl) hr (sa_cons (se_var 1) (sa_cons (se_int) (sa_cons (se_call 9 (IH 9 _ rfl) hr (sa_cons (se_var 0) (sa_nil))) (sa_nil)))))) (sss_cons (ss_expr (se_call 18 (IH 18 _ rfl) hr (sa_cons (se_var 0) (sa_cons (se_gint B.c_MOST_COUNTED) (sa_nil))))) (sss_one (ss_ret (se_call 22 (IH 22 _ rfl) hr (sa_cons (se_var 0) (sa_cons (se_var 1) (sa_nil))))))))
theorem d_greatest_free (cdv : Value) (A : Around) (outer : List PySem.Env) (s : Shared) (H : Hp) (E : XK) (cf : Cfg (cxOf (L2.CX P w) P w K mg base N_greatest_free "greatest_free" (defScope (top 46)) ((gs K).fa 27) cdv A outer s H E)) (hr : Room (d + 2) (A.deeper (envOfC "greatest_free" (defScope (top 46)) s.heap.objs.size ((gs K).fa 27) cdv))) :
    SSs (cxOf (L2.CX P w) P w K mg base N_greatest_free "greatest_free" (defScope (top 46)) ((gs K).fa 27) cdv A outer s H E) (gs K) (defBody (top 46)) (b_greatest_free (fns T d)) := by
  unfold b_greatest_free
  exact sss_cons (ss_expr (se_call 14 (IH 14 _ rfl) hr (sa_cons (se_var 0) (sa_nil)))) (sss_one (ss_ret (se_ty cr_tupleW (B.bl 8 _ rfl) (sa_cons (se_call 24 (IH 24 _ rfl) hr (sa_cons (se_var 0) (sa_nil))) (sa_nil)))))
theorem d_is_free (cdv : Value) (A : Around) (outer : List PySem.Env) (s : Shared) (H : Hp) (E : XK) (cf : Cfg (cxOf (L2.CX P w) P w K mg base N_is_free "is_free" (defScope (top 48)) ((gs K).fa 28) cdv A outer s H E)) (hr : Room (d + 2) (A.deeper (envOfC "is_free" (defScope (top 48)) s.heap.objs.size ((gs K).fa 28) cdv))) :
    SSs (cxOf (L2.CX P w) P w K mg base N_is_free "is_free" (defScope (top 48)) ((gs K).fa 28) cdv A outer s H E) (gs K) (defBody (top 48)) (b_is_free (fns T d)) := by
  unfold b_is_free
  exact sss_cons (ss_expr (se_call 16 (IH 16 _ rfl) hr (sa_cons (se_var 0) (sa_cons (se_var 1) (sa_nil))))) (sss_one (ss_ret (se_call 20 (IH 20 _ rfl) hr (sa_cons (se_var 1) (sa_nil)))))
theorem d_free_chance_by (cdv : Value) (A : Around) (outer : List PySem.Env) (s : Shared) (H : Hp) (E : XK) (cf : Cfg (cxOf (L2.CX P w) P w K mg base N_free_chance_by "free_chance_by" (defScope (top 50)) ((gs K).fa 29) cdv A outer s H E)) (hr : Room (d + 2) (A.deeper (envOfC "free_chance_by" (defScope (top 50)) s.heap.objs.size ((gs K).fa 29) cdv))) :
    SSs (cxOf (L2.CX P w) P w K mg base N_free_chance_by "free_chance_by" (defScope (top 50)) ((gs K).fa 29) cdv A outer s H E) (gs K) (defBody (top 50)) (b_free_chance_by (fns T d)) := by
  unfold b_free_chance_by
  exact sss_one (ss_ret (se_call 4 (IH 4 _ rfl) hr (sa_cons (se_call 22 (IH 22 _ rfl) hr (sa_cons (se_var 0) (sa_cons (se_var 1) (sa_nil)))) (sa_cons (se_call 30 (IH 30 _ rfl) hr (sa_cons (se_var 0) (sa_cons (se_var 1) (sa_nil)))) (sa_nil)))))
theorem d_hand_count_by (cdv : Value) (A : Around) (outer : List PySem.Env) (s : Shared) (H : Hp) (E : XK) (cf : Cfg (cxOf (L2.CX P w) P w K mg base N_hand_count_by "hand_count_by" (defScope (top 51)) ((gs K).fa 30) cdv A outer s H E)) (hr : Room (d + 2) (A.deeper (envOfC "hand_count_by" (defScope (top 51)) s.heap.objs.size ((gs K).fa 30) cdv))) :
    SSs (cxOf (L2.CX P w) P w K mg base N_hand_count_by "hand_count_by" (defScope (top 51)) ((gs K).fa 30) cdv A outer s H E) (gs K) (defBody (top 51)) (b_hand_count_by (fns T d)) := by
  unfold b_hand_count_by
  exact sss_one (ss_ret (se_bf cr_combW B.i_comb (sa_cons (se_call 9 (IH 9 _ rfl) hr (sa_cons (se_var 0) (sa_nil))) (sa_cons (se_var 1) (sa_nil)))))
theorem d_check_hand_size (cdv : Value) (A : Around) (outer : List PySem.Env) (s : Shared) (H : Hp) (E : XK) (cf : Cfg (cxOf (L2.CX P w) P w K mg base N_check_hand_size "check_hand_size" (defScope (top 53)) ((gs K).fa 31) cdv A outer s H E)) (hr : Room (d + 2) (A.deeper (envOfC "check_hand_size" (defScope (top 53)) s.heap.objs.size ((gs K).fa 31) cdv))) :
    SSs (cxOf (L2.CX P w) P w K mg base N_check_hand_size "check_hand_size" (defScope (top 53)) ((gs K).fa 31) cdv A outer s H E) (gs K) (defBody (top 53)) (b_check_hand_size (fns T d)) := by
  unfold b_check_hand_size
  exact sss_cons (ss_expr (se_call 14 (IH 14 _ rfl) hr (sa_cons (se_var 0) (sa_nil)))) (sss_one (ss_expr (se_call 17 (IH 17 _ rfl) hr (sa_cons (se_var 1) (sa_cons (se_int) (sa_cons (se_call 9 (IH 9 _ rfl) hr (sa_cons (se_var 0) (sa_nil))) (sa_nil)))))))
theorem d_free_chance (cdv : Value) (A : Around) (outer : List PySem.Env) (s : Shared) (H : Hp) (E : XK) (cf : Cfg (cxOf (L2.CX P w) P w K mg base N_free_chance "free_chance" (defScope (top 54)) ((gs K).fa 32) cdv A outer s H E)) (hr : Room (d + 2) (A.deeper (envOfC "free_chance" (defScope (top 54)) s.heap.objs.size ((gs K).fa 32) cdv))) :
    SSs (cxOf (L2.CX P w) P w K mg base N_free_chance "free_chance" (defScope (top 54)) ((gs K).fa 32) cdv A outer s H E) (gs K) (defBody (top 54)) (b_free_chance (fns T d)) := by
  unfold b_free_chance
  exact sss_cons (ss_expr (se_call 31 (IH 31 _ rfl) hr (sa_cons (se_var 0) (sa_cons (se_var 1) (sa_nil))))) (sss_cons (ss_expr (se_call 18 (IH 18 _ rfl) hr (sa_cons (se_var 0) (sa_cons (se_gint B.c_MOST_COUNTED) (sa_nil))))) (sss_one (ss_ret (se_call 29 (IH 29 _ rfl) hr (sa_cons (se_var 0) (sa_cons (se_var 1) (sa_nil)))))))
theorem d_hand_count (cdv : Value) (A : Around) (outer : List PySem.Env) (s : Shared) (H : Hp) (E : XK) (cf : Cfg (cxOf (L2.CX P w) P w K mg base N_hand_count "hand_count" (defScope (top 55)) ((gs K).fa 33) cdv A outer s H E)) (hr : Room (d + 2) (A.deeper (envOfC "hand_count" (defScope (top 55)) s.heap.objs.size ((gs K).fa 33) cdv))) :
    SSs (cxOf (L2.CX P w) P w K mg base N_hand_count "hand_count" (defScope (top 55)) ((gs K).fa 33) cdv A outer s H E) (gs K) (defBody (top 55)) (b_hand_count (fns T d)) := by
  unfold b_hand_count
  exact sss_cons (ss_expr (se_call 31 (IH 31 _ rfl) hr (sa_cons (se_var 0) (sa_cons (se_var 1) (sa_nil))))) (sss_one (ss_ret (se_call 30 (IH 30 _ rfl) hr (sa_cons (se_var 0) (sa_cons (se_var 1) (sa_nil))))))
theorem d_law_well (cdv : Value) (A : Around) (outer : List PySem.Env) (s : Shared) (H : Hp) (E : XK) (cf : Cfg (cxOf (L2.CX P w) P w K mg base N_law_well "_law_well" (defScope (top 57)) ((gs K).fa 34) cdv A outer s H E)) (hr : Room (d + 2) (A.deeper (envOfC "_law_well" (defScope (top 57)) s.heap.objs.size ((gs K).fa 34) cdv))) :
    SSs (cxOf (L2.CX P w) P w K mg base N_law_well "_law_well" (defScope (top 57)) ((gs K).fa 34) cdv A outer s H E) (gs K) (defBody (top 57)) (b_law_well (fns T d)) := by
  unfold b_law_well
  exact sss_cons (ss_set 2 cf (se_if (st_cmp o2_lt (se_var 1) (se_bi cr_len (B.bl 7 _ rfl) (sa_cons (se_var 0) (sa_nil)))) (se_ty cr_int (B.bl 1 _ rfl) (sa_cons (se_ix (se_var 0) (se_var 1)) (sa_nil))) (se_bin o2_add (se_bin o2_add (se_bin o2_mul (se_int) (se_var 1)) (se_bin o2_mod (se_ty cr_int (B.bl 1 _ rfl) (sa_cons (se_bi (cr_sumW cf.calm) (B.bl 9 _ rfl) (sa_cons (se_sl (se_var 0) (so_none) (so_some (se_int))) (sa_nil))) (sa_nil))) (se_int))) (se_int)))) (sss_cons (ss_set 3 cf (se_bin o2_add (se_int) (se_bin o2_mul (se_int) (se_var 1)))) (sss_cons (ss_for cf (si_seq (se_bin o2_add (se_sl (se_var 0) (so_none) (so_some (se_int))) (se_lst (sa_cons (se_var 2) (sa_nil))))) (sg_name 4 cf) (sss_one (ss_set 3 cf (se_bin o2_mod (se_ty cr_int (B.bl 1 _ rfl) (sa_cons (se_bin o2_add (se_bin o2_add (se_bin o2_mul (se_var 3) (se_int)) (se_bin o2_mod (se_ty cr_int (B.bl 1 _ rfl) (sa_cons (se_var 4) (sa_nil))) (se_int))) (se_int)) (sa_nil))) (se_int))))) (sss_one (ss_ret (se_lstS (sa_cons (se_if (st_w (sw_or (st_cmp o2_lt (se_var 2) (se_int)) (sw_or1 (st_cmp o2_ge (se_var 2) (se_bin o2_pow (se_int) (se_int)))))) (se_bin o2_mod (se_ty cr_int (B.bl 1 _ rfl) (sa_cons (se_bi cr_abs (B.bl 10 _ rfl) (sa_cons (se_var 2) (sa_nil))) (sa_nil))) (se_bin o2_pow (se_int) (se_int))) (se_int)) (sa_cons (se_var 3) (sa_cons (se_int) (sa_nil)))))))))
theorem d_law_take (cdv : Value) (A : Around) (outer : List PySem.Env) (s : Shared) (H : Hp) (E : XK) (cf : Cfg (cxOf (L2.CX P w) P w K mg base N_law_take "_law_take" (defScope (top 58)) ((gs K).fa 35) cdv A outer s H E)) (hr : Room (d + 2) (A.deeper (envOfC "_law_take" (defScope (top 58)) s.heap.objs.size ((gs K).fa 35) cdv))) :
    SSs (cxOf (L2.CX P w) P w K mg base N_law_take "_law_take" (defScope (top 58)) ((gs K).fa 35) cdv A outer s H E) (gs K) (defBody (top 58)) (b_law_take (fns T d)) := by
  unfold b_law_take
  exact sss_cons (ss_if (st_cmp o2_gt (se_ix (se_var 0) (se_int)) (se_int)) (sss_cons (ss_asg (se_bi cr_divmod (B.bl 11 _ rfl) (sa_cons (se_ix (se_var 0) (se_int)) (sa_cons (se_var 1) (sa_nil)))) (sg_tup 2 cf (sgs_cons (sg_idx (se_var 0) (se_int)) (sgs_cons (sg_name 2 cf) (sgs_nil))) (hl := glen_cons (glen_cons (glen_nil))))) (sss_one (ss_ret (se_var 2)))) (sss_nil)) (sss_cons (ss_asg (se_bin o2_add (se_ix (se_var 0) (se_int)) (se_int)) (sg_idx (se_var 0) (se_int))) (sss_cons (ss_set 3 cf (se_bin o2_add (se_bin o2_mod (se_ty cr_int (B.bl 1 _ rfl) (sa_cons (se_ix (se_var 0) (se_int)) (sa_nil))) (se_int)) (se_int))) (sss_cons (ss_asg (se_bin o2_mod (se_ty cr_int (B.bl 1 _ rfl) (sa_cons (se_bin o2_add (se_bin o2_add (se_bin o2_mul (se_ix (se_var 0) (se_int)) (se_var 3)) (se_bin o2_mul (se_int) (se_ix (se_var 0) (se_int)))) (se_int)) (sa_nil))) (se_int)) (sg_idx (se_var 0) (se_int))) (sss_one (ss_ret (se_bin o2_mod (se_ty cr_int (B.bl 1 _ rfl) (sa_cons (se_bin o2_div (se_ix (se_var 0) (se_int)) (se_int)) (sa_nil))) (se_var 1)))))))
theorem d_law_pick (cdv : Value) (A : Around) (outer : List PySem.Env) (s : Shared) (H : Hp) (E : XK) (cf : Cfg (cxOf (L2.CX P w) P w K mg base N_law_pick "_law_pick" (defScope (top 59)) ((gs K).fa 36) cdv A outer s H E)) (hr : Room (d + 2) (A.deeper (envOfC "_law_pick" (defScope (top 59)) s.heap.objs.size ((gs K).fa 36) cdv))) :
    SSs (cxOf (L2.CX P w) P w K mg base N_law_pick "_law_pick" (defScope (top 59)) ((gs K).fa 36) cdv A outer s H E) (gs K) (defBody (top 59)) (b_law_pick (fns T d)) := by
  unfold b_law_pick
  exact sss_one (ss_ret (se_ix (se_var 1) (se_call 35 (IH 35 _ rfl) hr (sa_cons (se_var 0) (sa_cons (se_bi cr_len (B.bl 7 _ rfl) (sa_cons (se_var 1) (sa_nil))) (sa_nil))))))
theorem d_law_is (cdv : Value) (A : Around) (outer : List PySem.Env) (s : Shared) (H : Hp) (E : XK) (cf : Cfg (cxOf (L2.CX P w) P w K mg base N_law_is "_law_is" (defScope (top 60)) ((gs K).fa 37) cdv A outer s H E)) (hr : Room (d + 2) (A.deeper (envOfC "_law_is" (defScope (top 60)) s.heap.objs.size ((gs K).fa 37) cdv))) :
    SSs (cxOf (L2.CX P w) P w K mg base N_law_is "_law_is" (defScope (top 60)) ((gs K).fa 37) cdv A outer s H E) (gs K) (defBody (top 60)) (b_law_is (fns T d)) := by
  unfold b_law_is
  exact sss_cons (ss_if (st_tru (se_isi 4 (B.bl 0 _ rfl) (B.bl 8 _ rfl) (se_var 1))) (sss_cons (ss_if (st_w (sw_or (st_not (st_tru (se_isi 4 (B.bl 0 _ rfl) (B.bl 8 _ rfl) (se_var 0)))) (sw_or1 (st_cmp (o2_ne (by have := cf.un; omega)) (se_bi cr_len (B.bl 7 _ rfl) (sa_cons (se_var 0) (sa_nil))) (se_bi cr_len (B.bl 7 _ rfl) (sa_cons (se_var 1) (sa_nil))))))) (sss_one (ss_ret (se_bl))) (sss_nil)) (sss_one (ss_ret (se_bi (cr_allW cf.calm) (B.bl 4 _ rfl) (sa_cons (se_comp [("at", 2), ("each", 3)] cf (si_enum2 (B.bl 12 _ rfl) (sa_cons (se_var 1) (sa_nil))) (blkOk_by (by kernel_rfl)) (fun _ _ _ _ _ cf => sg_tup 2 cf (sgs_cons (sg_name 2 cf) (sgs_cons (sg_name 3 cf) (sgs_nil))) (hl := glen_cons (glen_cons (glen_nil)))) (fun _ _ _ _ _ cf => sts_nil) (fun _ _ _ _ _ cf => se_call 37 (IH 37 _ rfl) hr (sa_cons (se_ix (se_var 0) (se_var 2)) (sa_cons (se_var 3) (sa_nil))))) (sa_nil)))))) (sss_nil)) (sss_cons (ss_if (st_tru (se_isi 5 (B.bl 0 _ rfl) (B.bl 13 _ rfl) (se_var 1))) (sss_one (ss_ret (se_and (se_isi 5 (B.bl 0 _ rfl) (B.bl 13 _ rfl) (se_var 0)) (se_one (se_call 37 (IH 37 _ rfl) hr (sa_cons (se_ty cr_tupleW (B.bl 8 _ rfl) (sa_cons (se_var 0) (sa_nil))) (sa_cons (se_ty cr_tupleW (B.bl 8 _ rfl) (sa_cons (se_var 1) (sa_nil))) (sa_nil)))))))) (sss_nil)) (sss_cons (ss_if (st_tru (se_isi 6 (B.bl 0 _ rfl) (B.bl 14 _ rfl) (se_var 1))) (sss_one (ss_ret (se_and (se_isi 6 (B.bl 0 _ rfl) (B.bl 14 _ rfl) (se_var 0)) (se_one (se_cmp (o2_eqE (by have := cf.un; omega)) (se_var 0) (se_var 1)))))) (sss_nil)) (sss_cons (ss_if (st_w (sw_or (st_isN (se_var 1)) (sw_or (st_cmp o2_isB (se_var 1) (se_bl)) (sw_or1 (st_cmp o2_isB (se_var 1) (se_bl)))))) (sss_one (ss_ret (se_if (st_isN (se_var 1)) (se_isN (se_var 0)) (se_if (st_cmp o2_isB (se_var 1) (se_bl)) (se_cmp o2_isB (se_var 0) (se_bl)) (se_cmp o2_isB (se_var 0) (se_bl)))))) (sss_nil)) (sss_cons (ss_if (st_tru (se_isi 2 (B.bl 0 _ rfl) (B.bl 1 _ rfl) (se_var 1))) (sss_one (ss_ret (se_and (se_isi 2 (B.bl 0 _ rfl) (B.bl 1 _ rfl) (se_var 0)) (se_and (se_not (se_isi 1 (B.bl 0 _ rfl) (B.bl 2 _ rfl) (se_var 0))) (se_one (se_cmp (o2_eqE (by have := cf.un; omega)) (se_var 0) (se_var 1))))))) (sss_nil)) (sss_one (ss_ret (se_and (se_isi 3 (B.bl 0 _ rfl) (B.bl 3 _ rfl) (se_var 0)) (se_one (se_cmp (o2_eqE (by have := cf.un; omega)) (se_var 0) (se_var 1))))))))))
theorem d_law_is_card (cdv : Value) (A : Around) (outer : List PySem.Env) (s : Shared) (H : Hp) (E : XK) (cf : Cfg (cxOf (L2.CX P w) P w K mg base N_law_is_card "_law_is_card" (defScope (top 61)) ((gs K).fa 38) cdv A outer s H E)) (hr : Room (d + 2) (A.deeper (envOfC "_law_is_card" (defScope (top 61)) s.heap.objs.size ((gs K).fa 38) cdv))) :
    SSs (cxOf (L2.CX P w) P w K mg base N_law_is_card "_law_is_card" (defScope (top 61)) ((gs K).fa 38) cdv A outer s H E) (gs K) (defBody (top 61)) (b_law_is_card (fns T d)) := by
  unfold b_law_is_card
  exact sss_one (ss_ret (se_and (se_isi 3 (B.bl 0 _ rfl) (B.bl 3 _ rfl) (se_var 1)) (se_and (se_cmp (o2_eq (by have := cf.un; omega)) (se_bi cr_len (B.bl 7 _ rfl) (sa_cons (se_var 1) (sa_nil))) (se_var 0)) (se_one (se_cmp (o2_eq (by have := cf.un; omega)) (se_comp [("sign", 2)] cf (si_seq (se_var 1)) (blkOk_by (by kernel_rfl)) (fun _ _ _ _ _ cf => sg_name 2 cf) (fun _ _ _ _ _ cf => sts_one (st_cmp (o2_notIn (by have := cf.un; omega)) (se_var 2) (se_str [48, 49, 50]))) (fun _ _ _ _ _ cf => se_var 2)) (se_lst (sa_nil)))))))
theorem d_law_is_hand (cdv : Value) (A : Around) (outer : List PySem.Env) (s : Shared) (H : Hp) (E : XK) (cf : Cfg (cxOf (L2.CX P w) P w K mg base N_law_is_hand "_law_is_hand" (defScope (top 62)) ((gs K).fa 39) cdv A outer s H E)) (hr : Room (d + 2) (A.deeper (envOfC "_law_is_hand" (defScope (top 62)) s.heap.objs.size ((gs K).fa 39) cdv))) :
    SSs (cxOf (L2.CX P w) P w K mg base N_law_is_hand "_law_is_hand" (defScope (top 62)) ((gs K).fa 39) cdv A outer s H E) (gs K) (defBody (top 62)) (b_law_is_hand (fns T d)) := by
  unfold b_law_is_hand
  exact sss_cons (ss_if (st_w (sw_or (st_not (st_tru (se_isi 4 (B.bl 0 _ rfl) (B.bl 8 _ rfl) (se_var 1)))) (sw_or1 (st_cmp (o2_ne (by have := cf.un; omega)) (se_comp [("card", 2)] cf (si_seq (se_var 1)) (blkOk_by (by kernel_rfl)) (fun _ _ _ _ _ cf => sg_name 2 cf) (fun _ _ _ _ _ cf => sts_one (st_not (st_tru (se_call 38 (IH 38 _ rfl) hr (sa_cons (se_var 0) (sa_cons (se_var 2) (sa_nil))))))) (fun _ _ _ _ _ cf => se_var 2)) (se_lst (sa_nil)))))) (sss_one (ss_ret (se_bl))) (sss_nil)) (sss_one (ss_ret (se_cmp (o2_eq (by have := cf.un; omega)) (se_comp [("at", 3)] cf (si_range2 (B.bl 6 _ rfl) (sa_cons (se_int) (sa_cons (se_bi cr_len (B.bl 7 _ rfl) (sa_cons (se_var 1) (sa_nil))) (sa_nil)))) (blkOk_by (by kernel_rfl)) (fun _ _ _ _ _ cf => sg_name 3 cf) (fun _ _ _ _ _ cf => sts_one (st_cmp (o2_ge2 (by have := cf.un; omega)) (se_ix (se_var 1) (se_bin o2_sub (se_var 3) (se_int))) (se_ix (se_var 1) (se_var 3)))) (fun _ _ _ _ _ cf => se_var 3)) (se_lst (sa_nil)))))
theorem d_law_deck (cdv : Value) (A : Around) (outer : List PySem.Env) (s : Shared) (H : Hp) (E : XK) (cf : Cfg (cxOf (L2.CX P w) P w K mg base N_law_deck "_law_deck" (defScope (top 63)) ((gs K).fa 40) cdv A outer s H E)) (hr : Room (d + 2) (A.deeper (envOfC "_law_deck" (defScope (top 63)) s.heap.objs.size ((gs K).fa 40) cdv))) :
    SSs (cxOf (L2.CX P w) P w K mg base N_law_deck "_law_deck" (defScope (top 63)) ((gs K).fa 40) cdv A outer s H E) (gs K) (defBody (top 63)) (b_law_deck (fns T d)) := by
  unfold b_law_deck
  exact sss_cons (ss_set 1 cf (se_lst (sa_cons (se_str []) (sa_nil)))) (sss_cons (ss_for cf (si_range1 (B.bl 6 _ rfl) (sa_cons (se_var 0) (sa_nil))) (sg_name 2 cf) (sss_cons (ss_set 3 cf (se_lst (sa_nil))) (sss_cons (ss_for cf (si_seq (se_var 1)) (sg_name 4 cf) (sss_one (ss_set 3 cf (se_bin o2_add (se_var 3) (se_comp [("sign", 5)] cf (si_seq (se_str [48, 49, 50])) (blkOk_by (by kernel_rfl)) (fun _ _ _ _ _ cf => sg_name 5 cf) (fun _ _ _ _ _ cf => sts_nil) (fun _ _ _ _ _ cf => se_bin o2_add (se_var 4) (se_var 5))))))) (sss_one (ss_set 1 cf (se_var 3)))))) (sss_one (ss_ret (se_ty cr_tupleW (B.bl 8 _ rfl) (sa_cons (se_var 1) (sa_nil))))))
theorem d_law_third (cdv : Value) (A : Around) (outer : List PySem.Env) (s : Shared) (H : Hp) (E : XK) (cf : Cfg (cxOf (L2.CX P w) P w K mg base N_law_third "_law_third" (defScope (top 64)) ((gs K).fa 41) cdv A outer s H E)) (hr : Room (d + 2) (A.deeper (envOfC "_law_third" (defScope (top 64)) s.heap.objs.size ((gs K).fa 41) cdv))) :
    SSs (cxOf (L2.CX P w) P w K mg base N_law_third "_law_third" (defScope (top 64)) ((gs K).fa 41) cdv A outer s H E) (gs K) (defBody (top 64)) (b_law_third (fns T d)) := by
  unfold b_law_third
  exact sss_one (ss_ret (se_join (se_str []) (se_comp [("at", 2)] cf (si_range1 (B.bl 6 _ rfl) (sa_cons (se_bi cr_len (B.bl 7 _ rfl) (sa_cons (se_var 0) (sa_nil))) (sa_nil))) (blkOk_by (by kernel_rfl)) (fun _ _ _ _ _ cf => sg_name 2 cf) (fun _ _ _ _ _ cf => sts_nil) (fun _ _ _ _ _ cf => se_ix (se_str [48, 49, 50]) (se_bin o2_mod (se_ty cr_int (B.bl 1 _ rfl) (sa_cons (se_bin o2_sub (se_bin o2_sub (se_int) (se_ty cr_int (B.bl 1 _ rfl) (sa_cons (se_ix (se_var 0) (se_var 2)) (sa_nil)))) (se_ty cr_int (B.bl 1 _ rfl) (sa_cons (se_ix (se_var 1) (se_var 2)) (sa_nil)))) (sa_nil))) (se_int))))))
theorem d_law_is_free (cdv : Value) (A : Around) (outer : List PySem.Env) (s : Shared) (H : Hp) (E : XK) (cf : Cfg (cxOf (L2.CX P w) P w K mg base N_law_is_free "_law_is_free" (defScope (top 65)) ((gs K).fa 42) cdv A outer s H E)) (hr : Room (d + 2) (A.deeper (envOfC "_law_is_free" (defScope (top 65)) s.heap.objs.size ((gs K).fa 42) cdv))) :
    SSs (cxOf (L2.CX P w) P w K mg base N_law_is_free "_law_is_free" (defScope (top 65)) ((gs K).fa 42) cdv A outer s H E) (gs K) (defBody (top 65)) (b_law_is_free (fns T d)) := by
  unfold b_law_is_free
  exact sss_cons (ss_for cf (si_enum2 (B.bl 12 _ rfl) (sa_cons (se_var 0) (sa_nil))) (sg_tup 2 cf (sgs_cons (sg_name 1 cf) (sgs_cons (sg_name 2 cf) (sgs_nil))) (hl := glen_cons (glen_cons (glen_nil)))) (sss_one (ss_if (st_cmp (o2_ne (by have := cf.un; omega)) (se_comp [("other", 3)] cf (si_seq (se_sl (se_var 0) (so_some (se_bin o2_add (se_var 1) (se_int))) (so_none))) (blkOk_by (by kernel_rfl)) (fun _ _ _ _ _ cf => sg_name 3 cf) (fun _ _ _ _ _ cf => sts_one (st_w (sw_and (st_cmp (o2_inT (by have := cf.un; omega)) (se_call 41 (IH 41 _ rfl) hr (sa_cons (se_var 2) (sa_cons (se_var 3) (sa_nil)))) (se_var 0)) (sw_and1 (st_cmp (o2_gt2 (by have := cf.un; omega)) (se_call 41 (IH 41 _ rfl) hr (sa_cons (se_var 2) (sa_cons (se_var 3) (sa_nil)))) (se_var 3)))))) (fun _ _ _ _ _ cf => se_var 3)) (se_lst (sa_nil))) (sss_one (ss_ret (se_bl))) (sss_nil)))) (sss_one (ss_ret (se_bl)))
theorem d_law_hands (cdv : Value) (A : Around) (outer : List PySem.Env) (s : Shared) (H : Hp) (E : XK) (cf : Cfg (cxOf (L2.CX P w) P w K mg base N_law_hands "_law_hands" (defScope (top 66)) ((gs K).fa 43) cdv A outer s H E)) (hr : Room (d + 2) (A.deeper (envOfC "_law_hands" (defScope (top 66)) s.heap.objs.size ((gs K).fa 43) cdv))) :
    SSs (cxOf (L2.CX P w) P w K mg base N_law_hands "_law_hands" (defScope (top 66)) ((gs K).fa 43) cdv A outer s H E) (gs K) (defBody (top 66)) (b_law_hands (fns T d)) := by
  unfold b_law_hands
  exact sss_cons (ss_set 1 cf (se_lst (sa_cons (se_tup (sa_nil)) (sa_nil)))) (sss_cons (ss_for cf (si_seq (se_call 40 (IH 40 _ rfl) hr (sa_cons (se_var 0) (sa_nil)))) (sg_name 2 cf) (sss_one (ss_set 1 cf (se_bin o2_add (se_var 1) (se_comp [("row", 3)] cf (si_seq (se_var 1)) (blkOk_by (by kernel_rfl)) (fun _ _ _ _ _ cf => sg_name 3 cf) (fun _ _ _ _ _ cf => sts_nil) (fun _ _ _ _ _ cf => se_bin o2_add (se_var 3) (se_tup (sa_cons (se_var 2) (sa_nil))))))))) (sss_one (ss_ret (se_var 1))))
theorem d_law_counts (cdv : Value) (A : Around) (outer : List PySem.Env) (s : Shared) (H : Hp) (E : XK) (cf : Cfg (cxOf (L2.CX P w) P w K mg base N_law_counts "_law_counts" (defScope (top 67)) ((gs K).fa 44) cdv A outer s H E)) (hr : Room (d + 2) (A.deeper (envOfC "_law_counts" (defScope (top 67)) s.heap.objs.size ((gs K).fa 44) cdv))) :
    SSs (cxOf (L2.CX P w) P w K mg base N_law_counts "_law_counts" (defScope (top 67)) ((gs K).fa 44) cdv A outer s H E) (gs K) (defBody (top 67)) (b_law_counts (fns T d)) := by
  unfold b_law_counts
  exact sss_cons (ss_if (st_cmp (o2_eq (by have := cf.un; omega)) (se_var 0) (se_int)) (sss_one (ss_ret (se_bin o2_add (se_lst (sa_cons (se_int) (sa_cons (se_int) (sa_cons (se_int) (sa_cons (se_int) (sa_cons (se_int) (sa_cons (se_int) (sa_cons (se_int) (sa_cons (se_int) (sa_cons (se_int) (sa_cons (se_int) (sa_nil)))))))))))) (se_bin o2_mul (se_lst (sa_cons (se_int) (sa_nil))) (se_int))))) (sss_nil)) (sss_cons (ss_set 1 cf (se_comp [("hand", 2)] cf (si_seq (se_call 43 (IH 43 _ rfl) hr (sa_cons (se_var 0) (sa_nil)))) (blkOk_by (by kernel_rfl)) (fun _ _ _ _ _ cf => sg_name 2 cf) (fun _ _ _ _ _ cf => sts_one (st_tru (se_call 42 (IH 42 _ rfl) hr (sa_cons (se_var 2) (sa_nil))))) (fun _ _ _ _ _ cf => se_bi cr_len (B.bl 7 _ rfl) (sa_cons (se_var 2) (sa_nil))))) (sss_one (ss_ret (se_comp [("size", 3)] cf (si_range1 (B.bl 6 _ rfl) (sa_cons (se_bin o2_add (se_bi cr_len (B.bl 7 _ rfl) (sa_cons (se_call 40 (IH 40 _ rfl) hr (sa_cons (se_var 0) (sa_nil))) (sa_nil))) (se_int)) (sa_nil))) (blkOk_by (by kernel_rfl)) (fun _ _ _ _ _ cf => sg_name 3 cf) (fun _ _ _ _ _ cf => sts_nil) (fun _ _ _ _ _ cf => se_meth 5 omCountI PySem.F.plainAttrs_list PySem.F.slot_list_count PySem.F.type_list_count om_countI (se_var 1) (sa_cons (se_var 3) (sa_nil)))))))
theorem d_law_chosen (cdv : Value) (A : Around) (outer : List PySem.Env) (s : Shared) (H : Hp) (E : XK) (cf : Cfg (cxOf (L2.CX P w) P w K mg base N_law_chosen "_law_chosen" (defScope (top 68)) ((gs K).fa 45) cdv A outer s H E)) (hr : Room (d + 2) (A.deeper (envOfC "_law_chosen" (defScope (top 68)) s.heap.objs.size ((gs K).fa 45) cdv))) :
    SSs (cxOf (L2.CX P w) P w K mg base N_law_chosen "_law_chosen" (defScope (top 68)) ((gs K).fa 45) cdv A outer s H E) (gs K) (defBody (top 68)) (b_law_chosen (fns T d)) := by
  unfold b_law_chosen
  exact sss_cons (ss_set 2 cf (se_int)) (sss_cons (ss_for cf (si_range1 (B.bl 6 _ rfl) (sa_cons (se_var 1) (sa_nil))) (sg_name 3 cf) (sss_one (ss_set 2 cf (se_bin o2_div (se_bin o2_mul (se_var 2) (se_bin o2_sub (se_var 0) (se_var 3))) (se_bin o2_add (se_var 3) (se_int)))))) (sss_one (ss_ret (se_var 2))))
theorem d_law_size_right (cdv : Value) (A : Around) (outer : List PySem.Env) (s : Shared) (H : Hp) (E : XK) (cf : Cfg (cxOf (L2.CX P w) P w K mg base N_law_size_right "_law_size_right" (defScope (top 69)) ((gs K).fa 46) cdv A outer s H E)) (hr : Room (d + 2) (A.deeper (envOfC "_law_size_right" (defScope (top 69)) s.heap.objs.size ((gs K).fa 46) cdv))) :
    SSs (cxOf (L2.CX P w) P w K mg base N_law_size_right "_law_size_right" (defScope (top 69)) ((gs K).fa 46) cdv A outer s H E) (gs K) (defBody (top 69)) (b_law_size_right (fns T d)) := by
  unfold b_law_size_right
  exact sss_cons (ss_if (st_not (st_tru (se_call 37 (IH 37 _ rfl) hr (sa_cons (se_lst (sa_cons (se_call 26 (IH 26 _ rfl) hr (sa_cons (se_var 0) (sa_cons (se_var 1) (sa_nil)))) (sa_cons (se_callK0 26 ["size", "number"] [1, 0] (with_kw (IH 26 _ rfl) fun fd ft => kwb_of ft.F fun _ _ _ _ _ _ us hl => match us, hl with | [_, _], _ => rfl) hr (sk_cons (se_var 1) (sk_cons (se_var 0) (sk_nil))) (hkl := ml_cons (ml_cons (ml_nil)))) (sa_nil)))) (sa_cons (se_lst (sa_cons (se_var 2) (sa_cons (se_var 2) (sa_nil)))) (sa_nil)))))) (sss_one (ss_ret (se_bl))) (sss_nil)) (sss_cons (ss_set 3 cf (se_call 45 (IH 45 _ rfl) hr (sa_cons (se_bi cr_len (B.bl 7 _ rfl) (sa_cons (se_call 40 (IH 40 _ rfl) hr (sa_cons (se_var 0) (sa_nil))) (sa_nil))) (sa_cons (se_var 1) (sa_nil))))) (sss_cons (ss_set 4 cf (se_call 32 (IH 32 _ rfl) hr (sa_cons (se_var 0) (sa_cons (se_var 1) (sa_nil))))) (sss_cons (ss_if (st_w (sw_or (st_not (st_tru (se_isi 4 (B.bl 0 _ rfl) (B.bl 8 _ rfl) (se_var 4)))) (sw_or (st_cmp (o2_ne (by have := cf.un; omega)) (se_bi cr_len (B.bl 7 _ rfl) (sa_cons (se_var 4) (sa_nil))) (se_int)) (sw_or (st_not (st_tru (se_call 37 (IH 37 _ rfl) hr (sa_cons (se_call 33 (IH 33 _ rfl) hr (sa_cons (se_var 0) (sa_cons (se_var 1) (sa_nil)))) (sa_cons (se_var 3) (sa_nil)))))) (sw_or (st_cmp (o2_ne (by have := cf.un; omega)) (se_bin o2_mul (se_ix (se_var 4) (se_int)) (se_var 3)) (se_bin o2_mul (se_var 2) (se_ix (se_var 4) (se_int)))) (sw_or1 (st_cmp (o2_lt2 (by have := cf.un; omega)) (se_ix (se_var 4) (se_int)) (se_int)))))))) (sss_one (ss_ret (se_bl))) (sss_nil)) (sss_one (ss_ret (se_cmp (o2_eq (by have := cf.un; omega)) (se_comp [("by", 5)] cf (si_range2 (B.bl 6 _ rfl) (sa_cons (se_int) (sa_cons (se_int) (sa_nil)))) (blkOk_by (by kernel_rfl)) (fun _ _ _ _ _ cf => sg_name 5 cf) (fun _ _ _ _ _ cf => sts_one (st_w (sw_and (st_cmp (o2_eq (by have := cf.un; omega)) (se_bin o2_mod (se_ty cr_int (B.bl 1 _ rfl) (sa_cons (se_ix (se_var 4) (se_int)) (sa_nil))) (se_var 5)) (se_int)) (sw_and1 (st_cmp (o2_eq (by have := cf.un; omega)) (se_bin o2_mod (se_ty cr_int (B.bl 1 _ rfl) (sa_cons (se_ix (se_var 4) (se_int)) (sa_nil))) (se_var 5)) (se_int)))))) (fun _ _ _ _ _ cf => se_var 5)) (se_lst (sa_nil))))))))
theorem d_law_greatest_right (cdv : Value) (A : Around) (outer : List PySem.Env) (s : Shared) (H : Hp) (E : XK) (cf : Cfg (cxOf (L2.CX P w) P w K mg base N_law_greatest_right "_law_greatest_right" (defScope (top 70)) ((gs K).fa 47) cdv A outer s H E)) (hr : Room (d + 2) (A.deeper (envOfC "_law_greatest_right" (defScope (top 70)) s.heap.objs.size ((gs K).fa 47) cdv))) :
    SSs (cxOf (L2.CX P w) P w K mg base N_law_greatest_right "_law_greatest_right" (defScope (top 70)) ((gs K).fa 47) cdv A outer s H E) (gs K) (defBody (top 70)) (b_law_greatest_right (fns T d)) := by
  unfold b_law_greatest_right
  exact sss_cons (ss_for cf (si_seq (se_lst (sa_cons (se_tup (sa_cons (se_int) (sa_cons (se_int) (sa_nil)))) (sa_cons (se_tup (sa_cons (se_int) (sa_cons (se_int) (sa_nil)))) (sa_cons (se_tup (sa_cons (se_int) (sa_cons (se_int) (sa_nil)))) (sa_cons (se_tup (sa_cons (se_int) (sa_cons (se_int) (sa_nil)))) (sa_nil))))))) (sg_tup 2 cf (sgs_cons (sg_name 0 cf) (sgs_cons (sg_name 1 cf) (sgs_nil))) (hl := glen_cons (glen_cons (glen_nil)))) (sss_cons (ss_set 2 cf (se_call 27 (IH 27 _ rfl) hr (sa_cons (se_var 0) (sa_nil)))) (sss_cons (ss_if (st_not (st_tru (se_call 37 (IH 37 _ rfl) hr (sa_cons (se_lst (sa_cons (se_call 25 (IH 25 _ rfl) hr (sa_cons (se_var 0) (sa_nil))) (sa_cons (se_callK0 25 ["number"] [0] (with_kw (IH 25 _ rfl) fun fd ft => kwb_of ft.F fun _ _ _ _ _ _ us hl => match us, hl with | [_], _ => rfl) hr (sk_cons (se_var 0) (sk_nil)) (hkl := ml_cons (ml_nil))) (sa_cons (se_call 28 (IH 28 _ rfl) hr (sa_cons (se_var 0) (sa_cons (se_var 2) (sa_nil)))) (sa_nil))))) (sa_cons (se_lst (sa_cons (se_var 1) (sa_cons (se_var 1) (sa_cons (se_bl) (sa_nil))))) (sa_nil)))))) (sss_one (ss_ret (se_bl))) (sss_nil)) (sss_one (ss_if (st_w (sw_or (st_not (st_tru (se_call 39 (IH 39 _ rfl) hr (sa_cons (se_var 0) (sa_cons (se_var 2) (sa_nil)))))) (sw_or (st_cmp (o2_ne (by have := cf.un; omega)) (se_bi cr_len (B.bl 7 _ rfl) (sa_cons (se_var 2) (sa_nil))) (se_var 1)) (sw_or1 (st_not (st_tru (se_call 42 (IH 42 _ rfl) hr (sa_cons (se_var 2) (sa_nil))))))))) (sss_one (ss_ret (se_bl))) (sss_nil)))))) (sss_one (ss_ret (se_bl)))
theorem d_law_caught (cdv : Value) (A : Around) (outer : List PySem.Env) (s : Shared) (H : Hp) (E : XK) (cf : Cfg (cxOf (L2.CX P w) P w K mg base N_law_caught "_law_caught" (defScope (top 71)) ((gs K).fa 48) cdv A outer s H E)) (hr : Room (d + 2) (A.deeper (envOfC "_law_caught" (defScope (top 71)) s.heap.objs.size ((gs K).fa 48) cdv))) :
    SSs (cxOf (L2.CX P w) P w K mg base N_law_caught "_law_caught" (defScope (top 71)) ((gs K).fa 48) cdv A outer s H E) (gs K) (defBody (top 71)) (b_law_caught (fns T d)) := by
  unfold b_law_caught
  exact sss_one (ss_try (G := gs K) 3 cf rfl rfl ⟨rfl, by decide, .inl B.gl_ThreeError⟩ B.te_ThreeError (fun pn xe cf => sss_one (ss_ret (se_lst (sa_cons (se_str [116, 111, 108, 100]) (sa_cons (se_if (st_cmp (o2_eq (by have := cf.un; omega)) (se_var 0) (se_int)) (se_call 26 (IH 26 _ rfl) hr (sa_cons (se_var 1) (sa_cons (se_var 2) (sa_nil)))) (se_if (st_cmp (o2_eq (by have := cf.un; omega)) (se_var 0) (se_int)) (se_call 25 (IH 25 _ rfl) hr (sa_cons (se_var 1) (sa_nil))) (se_call 27 (IH 27 _ rfl) hr (sa_cons (se_var 1) (sa_nil))))) (sa_nil)))))) (fun a oe c d pn hz hf => sss_cons (ss_setN 4 s_law_caught.nd (se_lst (sa_cons (se_isX (G := gs K) is_InvalidNumber _ (.ref (He.ga K "InvalidNumber")) (errB_facts (B.eb c)).1 (errB_facts (B.eb c)).2.2.1 hz hf (B.bl 0 _ rfl) (pe_glob rfl B.gl_InvalidNumber rfl) (fun _ h => h) (B.ki_InvalidNumber c) (se_var 3)) (sa_cons (se_isX (G := gs K) is_InvalidSize _ (.ref (He.ga K "InvalidSize")) (errB_facts (B.eb c)).1 (errB_facts (B.eb c)).2.2.1 hz hf (B.bl 0 _ rfl) (pe_glob rfl B.gl_InvalidSize rfl) (fun _ h => h) (B.ki_InvalidSize c) (se_var 3)) (sa_cons (se_isX (G := gs K) is_TooMany _ (.ref (He.ga K "TooMany")) (errB_facts (B.eb c)).1 (errB_facts (B.eb c)).2.2.1 hz hf (B.bl 0 _ rfl) (pe_glob rfl B.gl_TooMany rfl) (fun _ h => h) (B.ki_TooMany c) (se_var 3)) (sa_nil)))))) (sss_one (ss_ret (se_if (st_cmp (o2_ne (un_of cf.un)) (se_meth 5 omCountB PySem.F.plainAttrs_list PySem.F.slot_list_count PySem.F.type_list_count om_countB (se_var 4) (sa_cons (se_bl) (sa_nil))) (se_int)) (se_lst (sa_cons (se_str [111, 100, 100]) (sa_cons (se_non) (sa_nil)))) (se_lst (sa_cons (se_ix (se_lst (sa_cons (se_str [110, 117, 109, 98, 101, 114]) (sa_cons (se_str [115, 105, 122, 101]) (sa_cons (se_str [109, 97, 110, 121]) (sa_nil))))) (se_meth 5 omIndexF PySem.F.plainAttrs_list PySem.F.slot_list_index PySem.F.type_list_index om_indexF (se_var 4) (sa_cons (se_bl) (sa_nil)))) (sa_cons (se_xf (G := gs K) fl_given (B.xf_given c) hz hf (se_var 3)) (sa_nil)))))))))
theorem d_law_refused_right (cdv : Value) (A : Around) (outer : List PySem.Env) (s : Shared) (H : Hp) (E : XK) (cf : Cfg (cxOf (L2.CX P w) P w K mg base N_law_refused_right "_law_refused_right" (defScope (top 72)) ((gs K).fa 49) cdv A outer s H E)) (hr : Room (d + 2) (A.deeper (envOfC "_law_refused_right" (defScope (top 72)) s.heap.objs.size ((gs K).fa 49) cdv))) :
    SSs (cxOf (L2.CX P w) P w K mg base N_law_refused_right "_law_refused_right" (defScope (top 72)) ((gs K).fa 49) cdv A outer s H E) (gs K) (defBody (top 72)) (b_law_refused_right (fns T d)) := by
  unfold b_law_refused_right
  exact sss_cons (ss_for cf (si_seq (se_lst (sa_cons (se_int) (sa_cons (se_int) (sa_cons (se_un un_negW (se_int)) (sa_cons (se_bl) (sa_cons (se_non) (sa_cons (se_str [50]) (sa_cons (se_tup (sa_cons (se_int) (sa_nil))) (sa_cons (se_bin o2_pow (se_int) (se_int)) (sa_cons (se_call 36 (IH 36 _ rfl) hr (sa_cons (se_var 0) (sa_cons (se_lst (sa_cons (se_lst (sa_nil)) (sa_cons (se_dct0) (sa_nil)))) (sa_nil)))) (sa_nil)))))))))))) (sg_name 1 cf) (sss_one (ss_if (st_not (st_tru (se_call 37 (IH 37 _ rfl) hr (sa_cons (se_comp [("which", 4)] cf (si_range1 (B.bl 6 _ rfl) (sa_cons (se_int) (sa_nil))) (blkOk_by (by kernel_rfl)) (fun _ _ _ _ _ cf => sg_name 4 cf) (fun _ _ _ _ _ cf => sts_nil) (fun _ _ _ _ _ cf => se_call 48 (IH 48 _ rfl) hr (sa_cons (se_var 4) (sa_cons (se_var 1) (sa_cons (se_non) (sa_nil)))))) (sa_cons (se_bin o2_mul (se_lst (sa_cons (se_lst (sa_cons (se_str [110, 117, 109, 98, 101, 114]) (sa_cons (se_var 1) (sa_nil)))) (sa_nil))) (se_int)) (sa_nil)))))) (sss_one (ss_ret (se_bl))) (sss_nil)))) (sss_cons (ss_set 2 cf (se_bin o2_add (se_int) (se_call 35 (IH 35 _ rfl) hr (sa_cons (se_var 0) (sa_cons (se_int) (sa_nil)))))) (sss_cons (ss_for cf (si_seq (se_lst (sa_cons (se_bin o2_add (se_bi cr_len (B.bl 7 _ rfl) (sa_cons (se_call 40 (IH 40 _ rfl) hr (sa_cons (se_var 2) (sa_nil))) (sa_nil))) (se_int)) (sa_cons (se_un un_negW (se_int)) (sa_cons (se_bl) (sa_cons (se_non) (sa_cons (se_str [49]) (sa_cons (se_tup (sa_cons (se_int) (sa_nil))) (sa_cons (se_bin o2_pow (se_int) (se_int)) (sa_nil)))))))))) (sg_name 3 cf) (sss_one (ss_if (st_not (st_tru (se_call 37 (IH 37 _ rfl) hr (sa_cons (se_call 48 (IH 48 _ rfl) hr (sa_cons (se_int) (sa_cons (se_var 2) (sa_cons (se_var 3) (sa_nil))))) (sa_cons (se_lst (sa_cons (se_str [115, 105, 122, 101]) (sa_cons (se_var 3) (sa_nil)))) (sa_nil)))))) (sss_one (ss_ret (se_bl))) (sss_nil)))) (sss_one (ss_ret (se_call 37 (IH 37 _ rfl) hr (sa_cons (se_comp [("size", 3)] cf (si_seq (se_lst (sa_cons (se_int) (sa_cons (se_int) (sa_cons (se_int) (sa_nil)))))) (blkOk_by (by kernel_rfl)) (fun _ _ _ _ _ cf => sg_name 3 cf) (fun _ _ _ _ _ cf => sts_nil) (fun _ _ _ _ _ cf => se_call 48 (IH 48 _ rfl) hr (sa_cons (se_int) (sa_cons (se_int) (sa_cons (se_var 3) (sa_nil)))))) (sa_cons (se_bin o2_mul (se_lst (sa_cons (se_lst (sa_cons (se_str [109, 97, 110, 121]) (sa_cons (se_int) (sa_nil)))) (sa_nil))) (se_int)) (sa_nil))))))))
theorem d_law (cdv : Value) (A : Around) (outer : List PySem.Env) (s : Shared) (H : Hp) (E : XK) (cf : Cfg (cxOf (L2.CX P w) P w K mg base N_law "law" (defScope (top 73)) ((gs K).fa 50) cdv A outer s H E)) (hr : Room (d + 2) (A.deeper (envOfC "law" (defScope (top 73)) s.heap.objs.size ((gs K).fa 50) cdv))) :
    SSs (cxOf (L2.CX P w) P w K mg base N_law "law" (defScope (top 73)) ((gs K).fa 50) cdv A outer s H E) (gs K) (defBody (top 73)) (b_law (fns T d)) := by
  unfold b_law
  exact sss_cons (ss_set 1 cf (se_call 34 (IH 34 _ rfl) hr (sa_cons (se_var 0) (sa_cons (se_int) (sa_nil))))) (sss_cons (ss_set 2 cf (se_call 44 (IH 44 _ rfl) hr (sa_cons (se_int) (sa_nil)))) (sss_cons (ss_set 3 cf (se_lst (sa_cons (se_call 35 (IH 35 _ rfl) hr (sa_cons (se_var 1) (sa_cons (se_int) (sa_nil)))) (sa_cons (se_call 36 (IH 36 _ rfl) hr (sa_cons (se_var 1) (sa_cons (se_lst (sa_cons (se_int) (sa_cons (se_int) (sa_cons (se_int) (sa_cons (se_bin o2_add (se_int) (se_call 35 (IH 35 _ rfl) hr (sa_cons (se_var 1) (sa_cons (se_int) (sa_nil))))) (sa_nil)))))) (sa_nil)))) (sa_nil))))) (sss_cons (ss_if (st_w (sw_or (st_not (st_tru (se_call0 47 (IH 47 _ rfl) hr))) (sw_or1 (st_cmp (o2_ne (by have := cf.un; omega)) (se_comp [("size", 5)] cf (si_seq (se_var 3)) (blkOk_by (by kernel_rfl)) (fun _ _ _ _ _ cf => sg_name 5 cf) (fun _ _ _ _ _ cf => sts_one (st_not (st_tru (se_call 37 (IH 37 _ rfl) hr (sa_cons (se_call 26 (IH 26 _ rfl) hr (sa_cons (se_int) (sa_cons (se_var 5) (sa_nil)))) (sa_cons (se_ix (se_var 2) (se_var 5)) (sa_nil))))))) (fun _ _ _ _ _ cf => se_var 5)) (se_lst (sa_nil)))))) (sss_one (ss_ret (se_bl))) (sss_nil)) (sss_cons (ss_for cf (si_seq (se_lst (sa_cons (se_int) (sa_cons (se_int) (sa_nil))))) (sg_name 4 cf) (sss_cons (ss_set 2 cf (se_call 44 (IH 44 _ rfl) hr (sa_cons (se_var 4) (sa_nil)))) (sss_one (ss_if (st_cmp (o2_ne (by have := cf.un; omega)) (se_comp [("size", 5)] cf (si_range1 (B.bl 6 _ rfl) (sa_cons (se_bi cr_len (B.bl 7 _ rfl) (sa_cons (se_var 2) (sa_nil))) (sa_nil))) (blkOk_by (by kernel_rfl)) (fun _ _ _ _ _ cf => sg_name 5 cf) (fun _ _ _ _ _ cf => sts_one (st_not (st_tru (se_call 46 (IH 46 _ rfl) hr (sa_cons (se_var 4) (sa_cons (se_var 5) (sa_cons (se_ix (se_var 2) (se_var 5)) (sa_nil)))))))) (fun _ _ _ _ _ cf => se_var 5)) (se_lst (sa_nil))) (sss_one (ss_ret (se_bl))) (sss_nil))))) (sss_one (ss_ret (se_bi (cr_allW cf.calm) (B.bl 4 _ rfl) (sa_cons (se_comp [("turn", 6)] cf (si_range1 (B.bl 6 _ rfl) (sa_cons (se_bi (cr_max2 cf.calm) (B.bl 16 _ rfl) (sa_cons (se_int) (sa_cons (se_bi (cr_min2 cf.calm) (B.bl 15 _ rfl) (sa_cons (se_bi cr_len (B.bl 7 _ rfl) (sa_cons (se_var 0) (sa_nil))) (sa_cons (se_int) (sa_nil)))) (sa_nil)))) (sa_nil))) (blkOk_by (by kernel_rfl)) (fun _ _ _ _ _ cf => sg_name 6 cf) (fun _ _ _ _ _ cf => sts_nil) (fun _ _ _ _ _ cf => se_call 49 (IH 49 _ rfl) hr (sa_cons (se_call 34 (IH 34 _ rfl) hr (sa_cons (se_var 0) (sa_cons (se_var 6) (sa_nil)))) (sa_nil)))) (sa_nil)))))))))
theorem step : AllF P w K mg base (gs K) T D (d + 1) := by
  intro f r h
  obtain ⟨fd, ft⟩ := IH f r h
  refine ⟨fd, ?_⟩
  match f, h with
  | 0, h =>
    have e : r_is_whole = r := Option.some.inj h
    subst e
    exact fn_step (N := N_is_whole) ft rfl rfl rfl s_is_whole (d_is_whole B IH)
  | 1, h =>
    have e : r_is_between = r := Option.some.inj h
    subst e
    exact fn_step (N := N_is_between) ft rfl rfl rfl s_is_between (d_is_between B IH)
  | 2, h =>
    have e : r_is_text_of = r := Option.some.inj h
    subst e
    exact fn_step (N := N_is_text_of) ft rfl rfl rfl s_is_text_of (d_is_text_of B IH)
  | 3, h =>
    have e : r_is_ascending = r := Option.some.inj h
    subst e
    exact fn_step (N := N_is_ascending) ft rfl rfl rfl s_is_ascending (d_is_ascending B IH)
  | 4, h =>
    have e : r_lowest = r := Option.some.inj h
    subst e
    exact fn_step (N := N_lowest) ft rfl rfl rfl s_lowest (d_lowest B IH)
  | 5, h =>
    have e : r_power_of = r := Option.some.inj h
    subst e
    exact fn_step (N := N_power_of) ft rfl rfl rfl s_power_of (d_power_of B IH)
  | 6, h =>
    have e : r_is_mark_number = r := Option.some.inj h
    subst e
    exact fn_step (N := N_is_mark_number) ft rfl rfl rfl s_is_mark_number (d_is_mark_number B IH)
  | 7, h =>
    have e : r_is_card_of = r := Option.some.inj h
    subst e
    exact fn_step (N := N_is_card_of) ft rfl rfl rfl s_is_card_of (d_is_card_of B IH)
  | 8, h =>
    have e : r_is_hand_of = r := Option.some.inj h
    subst e
    exact fn_step (N := N_is_hand_of) ft rfl rfl rfl s_is_hand_of (d_is_hand_of B IH)
  | 9, h =>
    have e : r_deck_size = r := Option.some.inj h
    subst e
    exact fn_step (N := N_deck_size) ft rfl rfl rfl s_deck_size (d_deck_size B IH)
  | 10, h =>
    have e : r_deck_of = r := Option.some.inj h
    subst e
    exact fn_step (N := N_deck_of) ft rfl rfl rfl s_deck_of (d_deck_of B IH)
  | 11, h =>
    have e : r_sorts_of = r := Option.some.inj h
    subst e
    exact fn_step (N := N_sorts_of) ft rfl rfl rfl s_sorts_of (d_sorts_of B IH)
  | 12, h =>
    have e : r_card_of_sorts = r := Option.some.inj h
    subst e
    exact fn_step (N := N_card_of_sorts) ft rfl rfl rfl s_card_of_sorts (d_card_of_sorts B IH)
  | 13, h =>
    have e : r_third_of = r := Option.some.inj h
    subst e
    exact fn_step (N := N_third_of) ft rfl rfl rfl s_third_of (d_third_of B IH)
  | 14, h =>
    have e : r_check_marks = r := Option.some.inj h
    subst e
    exact fn_step (N := N_check_marks) ft rfl rfl rfl s_check_marks (d_check_marks B IH)
  | 15, h =>
    have e : r_check_hand = r := Option.some.inj h
    subst e
    exact fn_step (N := N_check_hand) ft rfl rfl rfl s_check_hand (d_check_hand B IH)
  | 16, h =>
    have e : r_check_marked_hand = r := Option.some.inj h
    subst e
    exact fn_step (N := N_check_marked_hand) ft rfl rfl rfl s_check_marked_hand (d_check_marked_hand B IH)
  | 17, h =>
    have e : r_check_size = r := Option.some.inj h
    subst e
    exact fn_step (N := N_check_size) ft rfl rfl rfl s_check_size (d_check_size B IH)
  | 18, h =>
    have e : r_check_up_to = r := Option.some.inj h
    subst e
    exact fn_step (N := N_check_up_to) ft rfl rfl rfl s_check_up_to (d_check_up_to B IH)
  | 19, h =>
    have e : r_lots_of = r := Option.some.inj h
    subst e
    exact fn_step (N := N_lots_of) ft rfl rfl rfl s_lots_of (d_lots_of B IH)
  | 20, h =>
    have e : r_is_free_by = r := Option.some.inj h
    subst e
    exact fn_step (N := N_is_free_by) ft rfl rfl rfl s_is_free_by (d_is_free_by B IH)
  | 21, h =>
    have e : r_most_free_of = r := Option.some.inj h
    subst e
    exact fn_step (N := N_most_free_of) ft rfl rfl rfl s_most_free_of (d_most_free_of B IH)
  | 22, h =>
    have e : r_free_count_of = r := Option.some.inj h
    subst e
    exact fn_step (N := N_free_count_of) ft rfl rfl rfl s_free_count_of (d_free_count_of B IH)
  | 23, h =>
    have e : r_is_bent = r := Option.some.inj h
    subst e
    exact fn_step (N := N_is_bent) ft rfl rfl rfl s_is_bent (d_is_bent B IH)
  | 24, h =>
    have e : r_greatest_free_of = r := Option.some.inj h
    subst e
    exact fn_step (N := N_greatest_free_of) ft rfl rfl rfl s_greatest_free_of (d_greatest_free_of B IH)
  | 25, h =>
    have e : r_most_free = r := Option.some.inj h
    subst e
    exact fn_step (N := N_most_free) ft rfl rfl rfl s_most_free (d_most_free B IH)
  | 26, h =>
    have e : r_free_count = r := Option.some.inj h
    subst e
    exact fn_step (N := N_free_count) ft rfl rfl rfl s_free_count (d_free_count B IH)
  | 27, h =>
    have e : r_greatest_free = r := Option.some.inj h
    subst e
    exact fn_step (N := N_greatest_free) ft rfl rfl rfl s_greatest_free (d_greatest_free B IH)
  | 28, h =>
    have e : r_is_free = r := Option.some.inj h
    subst e
    exact fn_step (N := N_is_free) ft rfl rfl rfl s_is_free (d_is_free B IH)
  | 29, h =>
    have e : r_free_chance_by = r := Option.some.inj h
    subst e
    exact fn_step (N := N_free_chance_by) ft rfl rfl rfl s_free_chance_by (d_free_chance_by B IH)
  | 30, h =>
    have e : r_hand_count_by = r := Option.some.inj h
    subst e
    exact fn_step (N := N_hand_count_by) ft rfl rfl rfl s_hand_count_by (d_hand_count_by B IH)
  | 31, h =>
    have e : r_check_hand_size = r := Option.some.inj h
    subst e
    exact fn_step (N := N_check_hand_size) ft rfl rfl rfl s_check_hand_size (d_check_hand_size B IH)
  | 32, h =>
    have e : r_free_chance = r := Option.some.inj h
    subst e
    exact fn_step (N := N_free_chance) ft rfl rfl rfl s_free_chance (d_free_chance B IH)
  | 33, h =>
    have e : r_hand_count = r := Option.some.inj h
    subst e
    exact fn_step (N := N_hand_count) ft rfl rfl rfl s_hand_count (d_hand_count B IH)
  | 34, h =>
    have e : r_law_well = r := Option.some.inj h
    subst e
    exact fn_step (N := N_law_well) ft rfl rfl rfl s_law_well (d_law_well B IH)
  | 35, h =>
    have e : r_law_take = r := Option.some.inj h
    subst e
    exact fn_step (N := N_law_take) ft rfl rfl rfl s_law_take (d_law_take B IH)
  | 36, h =>
    have e : r_law_pick = r := Option.some.inj h
    subst e
    exact fn_step (N := N_law_pick) ft rfl rfl rfl s_law_pick (d_law_pick B IH)
  | 37, h =>
    have e : r_law_is = r := Option.some.inj h
    subst e
    exact fn_step (N := N_law_is) ft rfl rfl rfl s_law_is (d_law_is B IH)
  | 38, h =>
    have e : r_law_is_card = r := Option.some.inj h
    subst e
    exact fn_step (N := N_law_is_card) ft rfl rfl rfl s_law_is_card (d_law_is_card B IH)
  | 39, h =>
    have e : r_law_is_hand = r := Option.some.inj h
    subst e
    exact fn_step (N := N_law_is_hand) ft rfl rfl rfl s_law_is_hand (d_law_is_hand B IH)
  | 40, h =>
    have e : r_law_deck = r := Option.some.inj h
    subst e
    exact fn_step (N := N_law_deck) ft rfl rfl rfl s_law_deck (d_law_deck B IH)
  | 41, h =>
    have e : r_law_third = r := Option.some.inj h
    subst e
    exact fn_step (N := N_law_third) ft rfl rfl rfl s_law_third (d_law_third B IH)
  | 42, h =>
    have e : r_law_is_free = r := Option.some.inj h
    subst e
    exact fn_step (N := N_law_is_free) ft rfl rfl rfl s_law_is_free (d_law_is_free B IH)
  | 43, h =>
    have e : r_law_hands = r := Option.some.inj h
    subst e
    exact fn_step (N := N_law_hands) ft rfl rfl rfl s_law_hands (d_law_hands B IH)
  | 44, h =>
    have e : r_law_counts = r := Option.some.inj h
    subst e
    exact fn_step (N := N_law_counts) ft rfl rfl rfl s_law_counts (d_law_counts B IH)
  | 45, h =>
    have e : r_law_chosen = r := Option.some.inj h
    subst e
    exact fn_step (N := N_law_chosen) ft rfl rfl rfl s_law_chosen (d_law_chosen B IH)
  | 46, h =>
    have e : r_law_size_right = r := Option.some.inj h
    subst e
    exact fn_step (N := N_law_size_right) ft rfl rfl rfl s_law_size_right (d_law_size_right B IH)
  | 47, h =>
    have e : r_law_greatest_right = r := Option.some.inj h
    subst e
    exact fn_step (N := N_law_greatest_right) ft rfl rfl rfl s_law_greatest_right (d_law_greatest_right B IH)
  | 48, h =>
    have e : r_law_caught = r := Option.some.inj h
    subst e
    exact fn_step (N := N_law_caught) ft rfl rfl rfl s_law_caught (d_law_caught B IH)
  | 49, h =>
    have e : r_law_refused_right = r := Option.some.inj h
    subst e
    exact fn_step (N := N_law_refused_right) ft rfl rfl rfl s_law_refused_right (d_law_refused_right B IH)
  | 50, h =>
    have e : r_law = r := Option.some.inj h
    subst e
    exact fn_step (N := N_law) ft rfl rfl rfl s_law (d_law B IH)
  | n + 51, h => exact absurd h (by simp [D])
end
theorem all {P : Program} {w : World} {K : PySem.W.Frag} {mg : Str → Option Value} {base : Heap} (B : Fx K mg) (h0 : AllF P w K mg base (gs K) T D 0) : ∀ d, AllF P w K mg base (gs K) T D d
  | 0 => h0
  | d + 1 => step B (all B h0 d)
/-! the head -/
def fn : List He.DefD := (D.map fun r => ⟨(r.x, none), r.x, r.x, defArgs r.st, defBody r.st, defScope r.st, [], []⟩) ++ [⟨("InvalidNumber", some "__init__"), "__init__", "InvalidNumber.__init__", defArgs i_InvalidNumber, defBody i_InvalidNumber, defScope i_InvalidNumber, [], []⟩, ⟨("InvalidHand", some "__init__"), "__init__", "InvalidHand.__init__", defArgs i_InvalidHand, defBody i_InvalidHand, defScope i_InvalidHand, [], []⟩, ⟨("InvalidSize", some "__init__"), "__init__", "InvalidSize.__init__", defArgs i_InvalidSize, defBody i_InvalidSize, defScope i_InvalidSize, [], []⟩, ⟨("TooMany", some "__init__"), "__init__", "TooMany.__init__", defArgs i_TooMany, defBody i_TooMany, defScope i_TooMany, [], []⟩]
def fa1 : List He.Fa := D.map fun r => .glo r.x
def fa2 : List He.Fa := BL.map .free
def fa3 : List He.Fa := [.int "MOST_MARKS" (4), .str "SORTS" "012", .int "MOST_COUNTED" (3)] ++ [.glo "InvalidNumber", .glo "InvalidHand", .glo "InvalidSize", .glo "TooMany", .glo "ThreeError"]
def fa : List He.Fa := fa1 ++ (fa2 ++ fa3)
def ex (K : PySem.W.Frag) : Bool := bltB K "gcd" "math.gcd" && bltTB K "combinations" "itertools.combinations" && bltB K "comb" "math.comb" && conB K "MOST_FREE" (.tup [(.int 2), (.int 4), (.int 9), (.int 20)]) && conB K "FREE_COUNTS" (.tup [.tup [(.int 1), (.int 3), (.int 3)], .tup [(.int 1), (.int 9), (.int 36), (.int 72), (.int 54)], .tup [(.int 1), (.int 27), (.int 351), (.int 2808), (.int 14742), (.int 50544), (.int 107406), (.int 126360), (.int 63180), (.int 2106)]]) && (List.range 4).all (fun c => errB K (er0 c).1 (er0 c).2) && (List.range 4).all (fun c => decide (PySem.W.exmOne K (.ref (He.ga K (er0 c).1)) (.ref (He.ga K "ThreeError")) = some true)) && (List.range 4).all (fun c => decide (PySem.W.kitOne K (.ref (He.ga K (er0 c).1)) (.ref (He.ga K "TooMany")) = some (isr_TooMany c))) && (List.range 4).all (fun c => decide (PySem.W.kitOne K (.ref (He.ga K (er0 c).1)) (.ref (He.ga K "InvalidSize")) = some (isr_InvalidSize c))) && (List.range 4).all (fun c => decide (PySem.W.kitOne K (.ref (He.ga K (er0 c).1)) (.ref (He.ga K "InvalidNumber")) = some (isr_InvalidNumber c)))
def loose0 : List Str := (["combinations", "comb", "gcd", "is_whole", "is_between", "is_text_of", "is_ascending", "lowest", "power_of", "SORTS", "MOST_MARKS", "is_mark_number", "is_card_of", "is_hand_of", "deck_size", "deck_of", "sorts_of", "card_of_sorts", "third_of", "ThreeError", "InvalidNumber", "InvalidHand", "InvalidSize", "TooMany", "check_marks", "check_hand", "check_marked_hand", "check_size", "check_up_to", "lots_of", "is_free_by", "FREE_COUNTS", "MOST_FREE", "MOST_COUNTED", "most_free_of"] : List String).map Str.ofString
def loose1 : List Str := (["free_count_of", "is_bent", "greatest_free_of", "most_free", "free_count", "greatest_free", "is_free", "free_chance_by", "hand_count_by", "check_hand_size", "free_chance", "hand_count", "_law_well", "_law_take", "_law_pick", "_law_is", "_law_is_card", "_law_is_hand", "_law_deck", "_law_third", "_law_is_free", "_law_hands", "_law_counts", "_law_chosen", "_law_size_right", "_law_greatest_right", "_law_caught", "_law_refused_right"] : List String).map Str.ofString
def loose : List Str := loose0 ++ loose1
abbrev Rr : PySem.W.OpenRow := PySem.W.OpenLaw.row PySem.Challenge.rw_threealike_k07_whole_free_hands_counted
abbrev hk : PySem.W.Hook := hookM 5 fa fn ex
def ob (s : PySem.W.SharedT) : He.AlD × Bool := obM 5 fa fn ex (HandSHeadRun.getT s)
theorem ob_eq (s : PySem.W.SharedT) : ob s = hk.obs s.abs := obM_eq (HandSHeadRun.getT_eq s)
theorem run (w : World) : HandSHeadRun.RunEqI Rr (PySem.W.view Rr.prog [0, 1, 73]) hk ob 60000 loose w := by
  unfold HandSHeadRun.RunEqI
  kernel_rfl
theorem eb_of {K : PySem.W.Frag} (e : ex K = true) (c : Nat) : errB K (er c).1 (er c).2 = true := all_ix (n := 4) (p := fun c => errB K (er0 c).1 (er0 c).2) (by decide) (by
    have z := e
    simp only [ex, Bool.and_eq_true] at z
    simp only [z]) c
theorem facts {K : PySem.W.Frag} {h : Heap} {mg : Str → Option Value} (X : K.In h) (G : h.Ns mainGlobals mg) (c : He.SaysD fa fn K) (e : ex K = true) : Fx K mg where
  bl := fun i x hx => by
    have hi : i < BL.length := (List.getElem?_eq_some_iff.mp hx).1
    refine He.free_ok X G (c.fact (51 + i) ?_)
    rw [show fa = fa1 ++ (fa2 ++ fa3) from rfl, List.getElem?_append_right (show fa1.length ≤ 51 + i from Nat.le_add_right _ i), show 51 + i - fa1.length = i from Nat.add_sub_cancel_left _ i, List.getElem?_append_left (by show i < (BL.map _).length; rw [List.length_map]; exact hi)]
    show (BL.map He.Fa.free)[i]? = _
    rw [List.getElem?_map, hx]
    rfl
  c_MOST_MARKS := He.int_ok X G (c.fact 68 (f := .int "MOST_MARKS" (4)) rfl)
  c_SORTS := He.str_ok X G (c.fact 69 (f := .str "SORTS" "012") rfl)
  c_MOST_COUNTED := He.int_ok X G (c.fact 70 (f := .int "MOST_COUNTED" (3)) rfl)
  c_MOST_FREE := conB_ok X G (by
    have z := e
    simp only [ex, Bool.and_eq_true] at z
    simp only [z])
  c_FREE_COUNTS := conB_ok X G (by
    have z := e
    simp only [ex, Bool.and_eq_true] at z
    simp only [z])
  i_gcd := bltB_ok X G (by
    have z := e
    simp only [ex, Bool.and_eq_true] at z
    simp only [z])
  i_combinations := bltTB_ok X G (by
    have z := e
    simp only [ex, Bool.and_eq_true] at z
    simp only [z])
  i_comb := bltB_ok X G (by
    have z := e
    simp only [ex, Bool.and_eq_true] at z
    simp only [z])
  er_InvalidNumber := fun P w base => by
    obtain ⟨fd, F⟩ := c.def_ 51 (d := ⟨("InvalidNumber", some "__init__"), "__init__", "InvalidNumber.__init__", defArgs i_InvalidNumber, defBody i_InvalidNumber, defScope i_InvalidNumber, [], []⟩) rfl
    exact errF_of (eb_of e 0) (He.glo_ok X G (c.fact 71 (f := .glo "InvalidNumber") rfl)) F s_i_InvalidNumber (FunD.bindsN F fun _ _ _ _ _ _ us hl => match us, hl with | [_, _], _ => rfl) (fun cdv A outer s H E => pss_one (ps_ost (pv 0) (pv 1)))
  er_InvalidHand := fun P w base => by
    obtain ⟨fd, F⟩ := c.def_ 52 (d := ⟨("InvalidHand", some "__init__"), "__init__", "InvalidHand.__init__", defArgs i_InvalidHand, defBody i_InvalidHand, defScope i_InvalidHand, [], []⟩) rfl
    exact errF_of (eb_of e 1) (He.glo_ok X G (c.fact 72 (f := .glo "InvalidHand") rfl)) F s_i_InvalidHand (FunD.bindsN F fun _ _ _ _ _ _ us hl => match us, hl with | [_, _], _ => rfl) (fun cdv A outer s H E => pss_one (ps_ost (pv 0) (pv 1)))
  er_InvalidSize := fun P w base => by
    obtain ⟨fd, F⟩ := c.def_ 53 (d := ⟨("InvalidSize", some "__init__"), "__init__", "InvalidSize.__init__", defArgs i_InvalidSize, defBody i_InvalidSize, defScope i_InvalidSize, [], []⟩) rfl
    exact errF_of (eb_of e 2) (He.glo_ok X G (c.fact 73 (f := .glo "InvalidSize") rfl)) F s_i_InvalidSize (FunD.bindsN F fun _ _ _ _ _ _ us hl => match us, hl with | [_, _], _ => rfl) (fun cdv A outer s H E => pss_one (ps_ost (pv 0) (pv 1)))
  er_TooMany := fun P w base => by
    obtain ⟨fd, F⟩ := c.def_ 54 (d := ⟨("TooMany", some "__init__"), "__init__", "TooMany.__init__", defArgs i_TooMany, defBody i_TooMany, defScope i_TooMany, [], []⟩) rfl
    exact errF_of (eb_of e 3) (He.glo_ok X G (c.fact 74 (f := .glo "TooMany") rfl)) F s_i_TooMany (FunD.bindsN F fun _ _ _ _ _ _ us hl => match us, hl with | [_, _], _ => rfl) (fun cdv A outer s H E => pss_one (ps_ost (pv 0) (pv 1)))
  eb := eb_of e
  gl_InvalidNumber := He.glo_ok X G (c.fact 71 (f := .glo "InvalidNumber") rfl)
  gl_InvalidSize := He.glo_ok X G (c.fact 73 (f := .glo "InvalidSize") rfl)
  gl_TooMany := He.glo_ok X G (c.fact 74 (f := .glo "TooMany") rfl)
  gl_ThreeError := He.glo_ok X G (c.fact 75 (f := .glo "ThreeError") rfl)
  te_ThreeError := fun cc => of_decide_eq_true (all_ix (n := 4) (p := fun c => decide (PySem.W.exmOne K (.ref (He.ga K (er0 c).1)) (.ref (He.ga K "ThreeError")) = some true)) (by decide) (by
    have z := e
    simp only [ex, Bool.and_eq_true] at z
    simp only [z]) cc)
  ki_TooMany := fun cc => of_decide_eq_true (all_ix (n := 4) (p := fun c => decide (PySem.W.kitOne K (.ref (He.ga K (er0 c).1)) (.ref (He.ga K "TooMany")) = some (isr_TooMany c))) (by decide) (by
    have z := e
    simp only [ex, Bool.and_eq_true] at z
    simp only [z]) cc)
  ki_InvalidSize := fun cc => of_decide_eq_true (all_ix (n := 4) (p := fun c => decide (PySem.W.kitOne K (.ref (He.ga K (er0 c).1)) (.ref (He.ga K "InvalidSize")) = some (isr_InvalidSize c))) (by decide) (by
    have z := e
    simp only [ex, Bool.and_eq_true] at z
    simp only [z]) cc)
  ki_InvalidNumber := fun cc => of_decide_eq_true (all_ix (n := 4) (p := fun c => decide (PySem.W.kitOne K (.ref (He.ga K (er0 c).1)) (.ref (He.ga K "InvalidNumber")) = some (isr_InvalidNumber c))) (by decide) (by
    have z := e
    simp only [ex, Bool.and_eq_true] at z
    simp only [z]) cc)
  xf_given := fun cc h => by
    have z : (!flr_given (ixN 4 cc) || decide ((er cc).2 = "given")) = true := all_ix (n := 4) (p := fun i => !flr_given i || decide ((er0 i).2 = "given")) (by decide) (by decide +kernel) cc
    have h : flr_given (ixN 4 cc) = true := h
    rw [h, Bool.not_true, Bool.false_or] at z
    have e2 : (er cc).2 = "given" := of_decide_eq_true z
    have ff := errB_facts (eb_of e cc)
    have f4 := ff.2.2.2
    rw [e2] at f4
    exact ⟨ff.2.1, f4, e2⟩
theorem base0 {P : Program} {w : World} {K : PySem.W.Frag} {h : Heap} {mg : Str → Option Value} {base : Heap} (X : K.In h) (G : h.Ns mainGlobals mg) (c : He.SaysD fa fn K) : AllF P w K mg base (gs K) T D 0 := by
  intro f r hr
  match f, hr with
  | 0, hr =>
    have e : r_is_whole = r := Option.some.inj hr
    subst e
    obtain ⟨fd, F⟩ := c.def_ 0 (d := ⟨(r_is_whole.x, none), r_is_whole.x, r_is_whole.x, defArgs r_is_whole.st, defBody r_is_whole.st, defScope r_is_whole.st, [], []⟩) rfl
    exact ⟨fd, ft_zero (f := 0) (He.glo_ok X G (c.fact 0 (f := .glo r_is_whole.x) rfl)) F (FunD.bindsN F fun _ _ _ _ _ _ us hl => match us, hl with | [_], _ => rfl)⟩
  | 1, hr =>
    have e : r_is_between = r := Option.some.inj hr
    subst e
    obtain ⟨fd, F⟩ := c.def_ 1 (d := ⟨(r_is_between.x, none), r_is_between.x, r_is_between.x, defArgs r_is_between.st, defBody r_is_between.st, defScope r_is_between.st, [], []⟩) rfl
    exact ⟨fd, ft_zero (f := 1) (He.glo_ok X G (c.fact 1 (f := .glo r_is_between.x) rfl)) F (FunD.bindsN F fun _ _ _ _ _ _ us hl => match us, hl with | [_, _, _], _ => rfl)⟩
  | 2, hr =>
    have e : r_is_text_of = r := Option.some.inj hr
    subst e
    obtain ⟨fd, F⟩ := c.def_ 2 (d := ⟨(r_is_text_of.x, none), r_is_text_of.x, r_is_text_of.x, defArgs r_is_text_of.st, defBody r_is_text_of.st, defScope r_is_text_of.st, [], []⟩) rfl
    exact ⟨fd, ft_zero (f := 2) (He.glo_ok X G (c.fact 2 (f := .glo r_is_text_of.x) rfl)) F (FunD.bindsN F fun _ _ _ _ _ _ us hl => match us, hl with | [_, _], _ => rfl)⟩
  | 3, hr =>
    have e : r_is_ascending = r := Option.some.inj hr
    subst e
    obtain ⟨fd, F⟩ := c.def_ 3 (d := ⟨(r_is_ascending.x, none), r_is_ascending.x, r_is_ascending.x, defArgs r_is_ascending.st, defBody r_is_ascending.st, defScope r_is_ascending.st, [], []⟩) rfl
    exact ⟨fd, ft_zero (f := 3) (He.glo_ok X G (c.fact 3 (f := .glo r_is_ascending.x) rfl)) F (FunD.bindsN F fun _ _ _ _ _ _ us hl => match us, hl with | [_], _ => rfl)⟩
  | 4, hr =>
    have e : r_lowest = r := Option.some.inj hr
    subst e
    obtain ⟨fd, F⟩ := c.def_ 4 (d := ⟨(r_lowest.x, none), r_lowest.x, r_lowest.x, defArgs r_lowest.st, defBody r_lowest.st, defScope r_lowest.st, [], []⟩) rfl
    exact ⟨fd, ft_zero (f := 4) (He.glo_ok X G (c.fact 4 (f := .glo r_lowest.x) rfl)) F (FunD.bindsN F fun _ _ _ _ _ _ us hl => match us, hl with | [_, _], _ => rfl)⟩
  | 5, hr =>
    have e : r_power_of = r := Option.some.inj hr
    subst e
    obtain ⟨fd, F⟩ := c.def_ 5 (d := ⟨(r_power_of.x, none), r_power_of.x, r_power_of.x, defArgs r_power_of.st, defBody r_power_of.st, defScope r_power_of.st, [], []⟩) rfl
    exact ⟨fd, ft_zero (f := 5) (He.glo_ok X G (c.fact 5 (f := .glo r_power_of.x) rfl)) F (FunD.bindsN F fun _ _ _ _ _ _ us hl => match us, hl with | [_, _], _ => rfl)⟩
  | 6, hr =>
    have e : r_is_mark_number = r := Option.some.inj hr
    subst e
    obtain ⟨fd, F⟩ := c.def_ 6 (d := ⟨(r_is_mark_number.x, none), r_is_mark_number.x, r_is_mark_number.x, defArgs r_is_mark_number.st, defBody r_is_mark_number.st, defScope r_is_mark_number.st, [], []⟩) rfl
    exact ⟨fd, ft_zero (f := 6) (He.glo_ok X G (c.fact 6 (f := .glo r_is_mark_number.x) rfl)) F (FunD.bindsN F fun _ _ _ _ _ _ us hl => match us, hl with | [_], _ => rfl)⟩
  | 7, hr =>
    have e : r_is_card_of = r := Option.some.inj hr
    subst e
    obtain ⟨fd, F⟩ := c.def_ 7 (d := ⟨(r_is_card_of.x, none), r_is_card_of.x, r_is_card_of.x, defArgs r_is_card_of.st, defBody r_is_card_of.st, defScope r_is_card_of.st, [], []⟩) rfl
    exact ⟨fd, ft_zero (f := 7) (He.glo_ok X G (c.fact 7 (f := .glo r_is_card_of.x) rfl)) F (FunD.bindsN F fun _ _ _ _ _ _ us hl => match us, hl with | [_, _], _ => rfl)⟩
  | 8, hr =>
    have e : r_is_hand_of = r := Option.some.inj hr
    subst e
    obtain ⟨fd, F⟩ := c.def_ 8 (d := ⟨(r_is_hand_of.x, none), r_is_hand_of.x, r_is_hand_of.x, defArgs r_is_hand_of.st, defBody r_is_hand_of.st, defScope r_is_hand_of.st, [], []⟩) rfl
    exact ⟨fd, ft_zero (f := 8) (He.glo_ok X G (c.fact 8 (f := .glo r_is_hand_of.x) rfl)) F (FunD.bindsN F fun _ _ _ _ _ _ us hl => match us, hl with | [_, _], _ => rfl)⟩
  | 9, hr =>
    have e : r_deck_size = r := Option.some.inj hr
    subst e
    obtain ⟨fd, F⟩ := c.def_ 9 (d := ⟨(r_deck_size.x, none), r_deck_size.x, r_deck_size.x, defArgs r_deck_size.st, defBody r_deck_size.st, defScope r_deck_size.st, [], []⟩) rfl
    exact ⟨fd, ft_zero (f := 9) (He.glo_ok X G (c.fact 9 (f := .glo r_deck_size.x) rfl)) F (FunD.bindsN F fun _ _ _ _ _ _ us hl => match us, hl with | [_], _ => rfl)⟩
  | 10, hr =>
    have e : r_deck_of = r := Option.some.inj hr
    subst e
    obtain ⟨fd, F⟩ := c.def_ 10 (d := ⟨(r_deck_of.x, none), r_deck_of.x, r_deck_of.x, defArgs r_deck_of.st, defBody r_deck_of.st, defScope r_deck_of.st, [], []⟩) rfl
    exact ⟨fd, ft_zero (f := 10) (He.glo_ok X G (c.fact 10 (f := .glo r_deck_of.x) rfl)) F (FunD.bindsN F fun _ _ _ _ _ _ us hl => match us, hl with | [_], _ => rfl)⟩
  | 11, hr =>
    have e : r_sorts_of = r := Option.some.inj hr
    subst e
    obtain ⟨fd, F⟩ := c.def_ 11 (d := ⟨(r_sorts_of.x, none), r_sorts_of.x, r_sorts_of.x, defArgs r_sorts_of.st, defBody r_sorts_of.st, defScope r_sorts_of.st, [], []⟩) rfl
    exact ⟨fd, ft_zero (f := 11) (He.glo_ok X G (c.fact 11 (f := .glo r_sorts_of.x) rfl)) F (FunD.bindsN F fun _ _ _ _ _ _ us hl => match us, hl with | [_], _ => rfl)⟩
  | 12, hr =>
    have e : r_card_of_sorts = r := Option.some.inj hr
    subst e
    obtain ⟨fd, F⟩ := c.def_ 12 (d := ⟨(r_card_of_sorts.x, none), r_card_of_sorts.x, r_card_of_sorts.x, defArgs r_card_of_sorts.st, defBody r_card_of_sorts.st, defScope r_card_of_sorts.st, [], []⟩) rfl
    exact ⟨fd, ft_zero (f := 12) (He.glo_ok X G (c.fact 12 (f := .glo r_card_of_sorts.x) rfl)) F (FunD.bindsN F fun _ _ _ _ _ _ us hl => match us, hl with | [_], _ => rfl)⟩
  | 13, hr =>
    have e : r_third_of = r := Option.some.inj hr
    subst e
    obtain ⟨fd, F⟩ := c.def_ 13 (d := ⟨(r_third_of.x, none), r_third_of.x, r_third_of.x, defArgs r_third_of.st, defBody r_third_of.st, defScope r_third_of.st, [], []⟩) rfl
    exact ⟨fd, ft_zero (f := 13) (He.glo_ok X G (c.fact 13 (f := .glo r_third_of.x) rfl)) F (FunD.bindsN F fun _ _ _ _ _ _ us hl => match us, hl with | [_, _], _ => rfl)⟩
  | 14, hr =>
    have e : r_check_marks = r := Option.some.inj hr
    subst e
    obtain ⟨fd, F⟩ := c.def_ 14 (d := ⟨(r_check_marks.x, none), r_check_marks.x, r_check_marks.x, defArgs r_check_marks.st, defBody r_check_marks.st, defScope r_check_marks.st, [], []⟩) rfl
    exact ⟨fd, ft_zero (f := 14) (He.glo_ok X G (c.fact 14 (f := .glo r_check_marks.x) rfl)) F (FunD.bindsN F fun _ _ _ _ _ _ us hl => match us, hl with | [_], _ => rfl)⟩
  | 15, hr =>
    have e : r_check_hand = r := Option.some.inj hr
    subst e
    obtain ⟨fd, F⟩ := c.def_ 15 (d := ⟨(r_check_hand.x, none), r_check_hand.x, r_check_hand.x, defArgs r_check_hand.st, defBody r_check_hand.st, defScope r_check_hand.st, [], []⟩) rfl
    exact ⟨fd, ft_zero (f := 15) (He.glo_ok X G (c.fact 15 (f := .glo r_check_hand.x) rfl)) F (FunD.bindsN F fun _ _ _ _ _ _ us hl => match us, hl with | [_, _], _ => rfl)⟩
  | 16, hr =>
    have e : r_check_marked_hand = r := Option.some.inj hr
    subst e
    obtain ⟨fd, F⟩ := c.def_ 16 (d := ⟨(r_check_marked_hand.x, none), r_check_marked_hand.x, r_check_marked_hand.x, defArgs r_check_marked_hand.st, defBody r_check_marked_hand.st, defScope r_check_marked_hand.st, [], []⟩) rfl
    exact ⟨fd, ft_zero (f := 16) (He.glo_ok X G (c.fact 16 (f := .glo r_check_marked_hand.x) rfl)) F (FunD.bindsN F fun _ _ _ _ _ _ us hl => match us, hl with | [_, _], _ => rfl)⟩
  | 17, hr =>
    have e : r_check_size = r := Option.some.inj hr
    subst e
    obtain ⟨fd, F⟩ := c.def_ 17 (d := ⟨(r_check_size.x, none), r_check_size.x, r_check_size.x, defArgs r_check_size.st, defBody r_check_size.st, defScope r_check_size.st, [], []⟩) rfl
    exact ⟨fd, ft_zero (f := 17) (He.glo_ok X G (c.fact 17 (f := .glo r_check_size.x) rfl)) F (FunD.bindsN F fun _ _ _ _ _ _ us hl => match us, hl with | [_, _, _], _ => rfl)⟩
  | 18, hr =>
    have e : r_check_up_to = r := Option.some.inj hr
    subst e
    obtain ⟨fd, F⟩ := c.def_ 18 (d := ⟨(r_check_up_to.x, none), r_check_up_to.x, r_check_up_to.x, defArgs r_check_up_to.st, defBody r_check_up_to.st, defScope r_check_up_to.st, [], []⟩) rfl
    exact ⟨fd, ft_zero (f := 18) (He.glo_ok X G (c.fact 18 (f := .glo r_check_up_to.x) rfl)) F (FunD.bindsN F fun _ _ _ _ _ _ us hl => match us, hl with | [_, _], _ => rfl)⟩
  | 19, hr =>
    have e : r_lots_of = r := Option.some.inj hr
    subst e
    obtain ⟨fd, F⟩ := c.def_ 19 (d := ⟨(r_lots_of.x, none), r_lots_of.x, r_lots_of.x, defArgs r_lots_of.st, defBody r_lots_of.st, defScope r_lots_of.st, [], []⟩) rfl
    exact ⟨fd, ft_zero (f := 19) (He.glo_ok X G (c.fact 19 (f := .glo r_lots_of.x) rfl)) F (FunD.bindsN F fun _ _ _ _ _ _ us hl => match us, hl with | [_], _ => rfl)⟩
  | 20, hr =>
    have e : r_is_free_by = r := Option.some.inj hr
    subst e
    obtain ⟨fd, F⟩ := c.def_ 20 (d := ⟨(r_is_free_by.x, none), r_is_free_by.x, r_is_free_by.x, defArgs r_is_free_by.st, defBody r_is_free_by.st, defScope r_is_free_by.st, [], []⟩) rfl
    exact ⟨fd, ft_zero (f := 20) (He.glo_ok X G (c.fact 20 (f := .glo r_is_free_by.x) rfl)) F (FunD.bindsN F fun _ _ _ _ _ _ us hl => match us, hl with | [_], _ => rfl)⟩
  | 21, hr =>
    have e : r_most_free_of = r := Option.some.inj hr
    subst e
    obtain ⟨fd, F⟩ := c.def_ 21 (d := ⟨(r_most_free_of.x, none), r_most_free_of.x, r_most_free_of.x, defArgs r_most_free_of.st, defBody r_most_free_of.st, defScope r_most_free_of.st, [], []⟩) rfl
    exact ⟨fd, ft_zero (f := 21) (He.glo_ok X G (c.fact 21 (f := .glo r_most_free_of.x) rfl)) F (FunD.bindsN F fun _ _ _ _ _ _ us hl => match us, hl with | [_], _ => rfl)⟩
  | 22, hr =>
    have e : r_free_count_of = r := Option.some.inj hr
    subst e
    obtain ⟨fd, F⟩ := c.def_ 22 (d := ⟨(r_free_count_of.x, none), r_free_count_of.x, r_free_count_of.x, defArgs r_free_count_of.st, defBody r_free_count_of.st, defScope r_free_count_of.st, [], []⟩) rfl
    exact ⟨fd, ft_zero (f := 22) (He.glo_ok X G (c.fact 22 (f := .glo r_free_count_of.x) rfl)) F (FunD.bindsN F fun _ _ _ _ _ _ us hl => match us, hl with | [_, _], _ => rfl)⟩
  | 23, hr =>
    have e : r_is_bent = r := Option.some.inj hr
    subst e
    obtain ⟨fd, F⟩ := c.def_ 23 (d := ⟨(r_is_bent.x, none), r_is_bent.x, r_is_bent.x, defArgs r_is_bent.st, defBody r_is_bent.st, defScope r_is_bent.st, [], []⟩) rfl
    exact ⟨fd, ft_zero (f := 23) (He.glo_ok X G (c.fact 23 (f := .glo r_is_bent.x) rfl)) F (FunD.bindsN F fun _ _ _ _ _ _ us hl => match us, hl with | [_], _ => rfl)⟩
  | 24, hr =>
    have e : r_greatest_free_of = r := Option.some.inj hr
    subst e
    obtain ⟨fd, F⟩ := c.def_ 24 (d := ⟨(r_greatest_free_of.x, none), r_greatest_free_of.x, r_greatest_free_of.x, defArgs r_greatest_free_of.st, defBody r_greatest_free_of.st, defScope r_greatest_free_of.st, [], []⟩) rfl
    exact ⟨fd, ft_zero (f := 24) (He.glo_ok X G (c.fact 24 (f := .glo r_greatest_free_of.x) rfl)) F (FunD.bindsN F fun _ _ _ _ _ _ us hl => match us, hl with | [_], _ => rfl)⟩
  | 25, hr =>
    have e : r_most_free = r := Option.some.inj hr
    subst e
    obtain ⟨fd, F⟩ := c.def_ 25 (d := ⟨(r_most_free.x, none), r_most_free.x, r_most_free.x, defArgs r_most_free.st, defBody r_most_free.st, defScope r_most_free.st, [], []⟩) rfl
    exact ⟨fd, ft_zero (f := 25) (He.glo_ok X G (c.fact 25 (f := .glo r_most_free.x) rfl)) F (FunD.bindsN F fun _ _ _ _ _ _ us hl => match us, hl with | [_], _ => rfl)⟩
  | 26, hr =>
    have e : r_free_count = r := Option.some.inj hr
    subst e
    obtain ⟨fd, F⟩ := c.def_ 26 (d := ⟨(r_free_count.x, none), r_free_count.x, r_free_count.x, defArgs r_free_count.st, defBody r_free_count.st, defScope r_free_count.st, [], []⟩) rfl
    exact ⟨fd, ft_zero (f := 26) (He.glo_ok X G (c.fact 26 (f := .glo r_free_count.x) rfl)) F (FunD.bindsN F fun _ _ _ _ _ _ us hl => match us, hl with | [_, _], _ => rfl)⟩
  | 27, hr =>
    have e : r_greatest_free = r := Option.some.inj hr
    subst e
    obtain ⟨fd, F⟩ := c.def_ 27 (d := ⟨(r_greatest_free.x, none), r_greatest_free.x, r_greatest_free.x, defArgs r_greatest_free.st, defBody r_greatest_free.st, defScope r_greatest_free.st, [], []⟩) rfl
    exact ⟨fd, ft_zero (f := 27) (He.glo_ok X G (c.fact 27 (f := .glo r_greatest_free.x) rfl)) F (FunD.bindsN F fun _ _ _ _ _ _ us hl => match us, hl with | [_], _ => rfl)⟩
  | 28, hr =>
    have e : r_is_free = r := Option.some.inj hr
    subst e
    obtain ⟨fd, F⟩ := c.def_ 28 (d := ⟨(r_is_free.x, none), r_is_free.x, r_is_free.x, defArgs r_is_free.st, defBody r_is_free.st, defScope r_is_free.st, [], []⟩) rfl
    exact ⟨fd, ft_zero (f := 28) (He.glo_ok X G (c.fact 28 (f := .glo r_is_free.x) rfl)) F (FunD.bindsN F fun _ _ _ _ _ _ us hl => match us, hl with | [_, _], _ => rfl)⟩
  | 29, hr =>
    have e : r_free_chance_by = r := Option.some.inj hr
    subst e
    obtain ⟨fd, F⟩ := c.def_ 29 (d := ⟨(r_free_chance_by.x, none), r_free_chance_by.x, r_free_chance_by.x, defArgs r_free_chance_by.st, defBody r_free_chance_by.st, defScope r_free_chance_by.st, [], []⟩) rfl
    exact ⟨fd, ft_zero (f := 29) (He.glo_ok X G (c.fact 29 (f := .glo r_free_chance_by.x) rfl)) F (FunD.bindsN F fun _ _ _ _ _ _ us hl => match us, hl with | [_, _], _ => rfl)⟩
  | 30, hr =>
    have e : r_hand_count_by = r := Option.some.inj hr
    subst e
    obtain ⟨fd, F⟩ := c.def_ 30 (d := ⟨(r_hand_count_by.x, none), r_hand_count_by.x, r_hand_count_by.x, defArgs r_hand_count_by.st, defBody r_hand_count_by.st, defScope r_hand_count_by.st, [], []⟩) rfl
    exact ⟨fd, ft_zero (f := 30) (He.glo_ok X G (c.fact 30 (f := .glo r_hand_count_by.x) rfl)) F (FunD.bindsN F fun _ _ _ _ _ _ us hl => match us, hl with | [_, _], _ => rfl)⟩
  | 31, hr =>
    have e : r_check_hand_size = r := Option.some.inj hr
    subst e
    obtain ⟨fd, F⟩ := c.def_ 31 (d := ⟨(r_check_hand_size.x, none), r_check_hand_size.x, r_check_hand_size.x, defArgs r_check_hand_size.st, defBody r_check_hand_size.st, defScope r_check_hand_size.st, [], []⟩) rfl
    exact ⟨fd, ft_zero (f := 31) (He.glo_ok X G (c.fact 31 (f := .glo r_check_hand_size.x) rfl)) F (FunD.bindsN F fun _ _ _ _ _ _ us hl => match us, hl with | [_, _], _ => rfl)⟩
  | 32, hr =>
    have e : r_free_chance = r := Option.some.inj hr
    subst e
    obtain ⟨fd, F⟩ := c.def_ 32 (d := ⟨(r_free_chance.x, none), r_free_chance.x, r_free_chance.x, defArgs r_free_chance.st, defBody r_free_chance.st, defScope r_free_chance.st, [], []⟩) rfl
    exact ⟨fd, ft_zero (f := 32) (He.glo_ok X G (c.fact 32 (f := .glo r_free_chance.x) rfl)) F (FunD.bindsN F fun _ _ _ _ _ _ us hl => match us, hl with | [_, _], _ => rfl)⟩
  | 33, hr =>
    have e : r_hand_count = r := Option.some.inj hr
    subst e
    obtain ⟨fd, F⟩ := c.def_ 33 (d := ⟨(r_hand_count.x, none), r_hand_count.x, r_hand_count.x, defArgs r_hand_count.st, defBody r_hand_count.st, defScope r_hand_count.st, [], []⟩) rfl
    exact ⟨fd, ft_zero (f := 33) (He.glo_ok X G (c.fact 33 (f := .glo r_hand_count.x) rfl)) F (FunD.bindsN F fun _ _ _ _ _ _ us hl => match us, hl with | [_, _], _ => rfl)⟩
  | 34, hr =>
    have e : r_law_well = r := Option.some.inj hr
    subst e
    obtain ⟨fd, F⟩ := c.def_ 34 (d := ⟨(r_law_well.x, none), r_law_well.x, r_law_well.x, defArgs r_law_well.st, defBody r_law_well.st, defScope r_law_well.st, [], []⟩) rfl
    exact ⟨fd, ft_zero (f := 34) (He.glo_ok X G (c.fact 34 (f := .glo r_law_well.x) rfl)) F (FunD.bindsN F fun _ _ _ _ _ _ us hl => match us, hl with | [_, _], _ => rfl)⟩
  | 35, hr =>
    have e : r_law_take = r := Option.some.inj hr
    subst e
    obtain ⟨fd, F⟩ := c.def_ 35 (d := ⟨(r_law_take.x, none), r_law_take.x, r_law_take.x, defArgs r_law_take.st, defBody r_law_take.st, defScope r_law_take.st, [], []⟩) rfl
    exact ⟨fd, ft_zero (f := 35) (He.glo_ok X G (c.fact 35 (f := .glo r_law_take.x) rfl)) F (FunD.bindsN F fun _ _ _ _ _ _ us hl => match us, hl with | [_, _], _ => rfl)⟩
  | 36, hr =>
    have e : r_law_pick = r := Option.some.inj hr
    subst e
    obtain ⟨fd, F⟩ := c.def_ 36 (d := ⟨(r_law_pick.x, none), r_law_pick.x, r_law_pick.x, defArgs r_law_pick.st, defBody r_law_pick.st, defScope r_law_pick.st, [], []⟩) rfl
    exact ⟨fd, ft_zero (f := 36) (He.glo_ok X G (c.fact 36 (f := .glo r_law_pick.x) rfl)) F (FunD.bindsN F fun _ _ _ _ _ _ us hl => match us, hl with | [_, _], _ => rfl)⟩
  | 37, hr =>
    have e : r_law_is = r := Option.some.inj hr
    subst e
    obtain ⟨fd, F⟩ := c.def_ 37 (d := ⟨(r_law_is.x, none), r_law_is.x, r_law_is.x, defArgs r_law_is.st, defBody r_law_is.st, defScope r_law_is.st, [], []⟩) rfl
    exact ⟨fd, ft_zero (f := 37) (He.glo_ok X G (c.fact 37 (f := .glo r_law_is.x) rfl)) F (FunD.bindsN F fun _ _ _ _ _ _ us hl => match us, hl with | [_, _], _ => rfl)⟩
  | 38, hr =>
    have e : r_law_is_card = r := Option.some.inj hr
    subst e
    obtain ⟨fd, F⟩ := c.def_ 38 (d := ⟨(r_law_is_card.x, none), r_law_is_card.x, r_law_is_card.x, defArgs r_law_is_card.st, defBody r_law_is_card.st, defScope r_law_is_card.st, [], []⟩) rfl
    exact ⟨fd, ft_zero (f := 38) (He.glo_ok X G (c.fact 38 (f := .glo r_law_is_card.x) rfl)) F (FunD.bindsN F fun _ _ _ _ _ _ us hl => match us, hl with | [_, _], _ => rfl)⟩
  | 39, hr =>
    have e : r_law_is_hand = r := Option.some.inj hr
    subst e
    obtain ⟨fd, F⟩ := c.def_ 39 (d := ⟨(r_law_is_hand.x, none), r_law_is_hand.x, r_law_is_hand.x, defArgs r_law_is_hand.st, defBody r_law_is_hand.st, defScope r_law_is_hand.st, [], []⟩) rfl
    exact ⟨fd, ft_zero (f := 39) (He.glo_ok X G (c.fact 39 (f := .glo r_law_is_hand.x) rfl)) F (FunD.bindsN F fun _ _ _ _ _ _ us hl => match us, hl with | [_, _], _ => rfl)⟩
  | 40, hr =>
    have e : r_law_deck = r := Option.some.inj hr
    subst e
    obtain ⟨fd, F⟩ := c.def_ 40 (d := ⟨(r_law_deck.x, none), r_law_deck.x, r_law_deck.x, defArgs r_law_deck.st, defBody r_law_deck.st, defScope r_law_deck.st, [], []⟩) rfl
    exact ⟨fd, ft_zero (f := 40) (He.glo_ok X G (c.fact 40 (f := .glo r_law_deck.x) rfl)) F (FunD.bindsN F fun _ _ _ _ _ _ us hl => match us, hl with | [_], _ => rfl)⟩
  | 41, hr =>
    have e : r_law_third = r := Option.some.inj hr
    subst e
    obtain ⟨fd, F⟩ := c.def_ 41 (d := ⟨(r_law_third.x, none), r_law_third.x, r_law_third.x, defArgs r_law_third.st, defBody r_law_third.st, defScope r_law_third.st, [], []⟩) rfl
    exact ⟨fd, ft_zero (f := 41) (He.glo_ok X G (c.fact 41 (f := .glo r_law_third.x) rfl)) F (FunD.bindsN F fun _ _ _ _ _ _ us hl => match us, hl with | [_, _], _ => rfl)⟩
  | 42, hr =>
    have e : r_law_is_free = r := Option.some.inj hr
    subst e
    obtain ⟨fd, F⟩ := c.def_ 42 (d := ⟨(r_law_is_free.x, none), r_law_is_free.x, r_law_is_free.x, defArgs r_law_is_free.st, defBody r_law_is_free.st, defScope r_law_is_free.st, [], []⟩) rfl
    exact ⟨fd, ft_zero (f := 42) (He.glo_ok X G (c.fact 42 (f := .glo r_law_is_free.x) rfl)) F (FunD.bindsN F fun _ _ _ _ _ _ us hl => match us, hl with | [_], _ => rfl)⟩
  | 43, hr =>
    have e : r_law_hands = r := Option.some.inj hr
    subst e
    obtain ⟨fd, F⟩ := c.def_ 43 (d := ⟨(r_law_hands.x, none), r_law_hands.x, r_law_hands.x, defArgs r_law_hands.st, defBody r_law_hands.st, defScope r_law_hands.st, [], []⟩) rfl
    exact ⟨fd, ft_zero (f := 43) (He.glo_ok X G (c.fact 43 (f := .glo r_law_hands.x) rfl)) F (FunD.bindsN F fun _ _ _ _ _ _ us hl => match us, hl with | [_], _ => rfl)⟩
  | 44, hr =>
    have e : r_law_counts = r := Option.some.inj hr
    subst e
    obtain ⟨fd, F⟩ := c.def_ 44 (d := ⟨(r_law_counts.x, none), r_law_counts.x, r_law_counts.x, defArgs r_law_counts.st, defBody r_law_counts.st, defScope r_law_counts.st, [], []⟩) rfl
    exact ⟨fd, ft_zero (f := 44) (He.glo_ok X G (c.fact 44 (f := .glo r_law_counts.x) rfl)) F (FunD.bindsN F fun _ _ _ _ _ _ us hl => match us, hl with | [_], _ => rfl)⟩
  | 45, hr =>
    have e : r_law_chosen = r := Option.some.inj hr
    subst e
    obtain ⟨fd, F⟩ := c.def_ 45 (d := ⟨(r_law_chosen.x, none), r_law_chosen.x, r_law_chosen.x, defArgs r_law_chosen.st, defBody r_law_chosen.st, defScope r_law_chosen.st, [], []⟩) rfl
    exact ⟨fd, ft_zero (f := 45) (He.glo_ok X G (c.fact 45 (f := .glo r_law_chosen.x) rfl)) F (FunD.bindsN F fun _ _ _ _ _ _ us hl => match us, hl with | [_, _], _ => rfl)⟩
  | 46, hr =>
    have e : r_law_size_right = r := Option.some.inj hr
    subst e
    obtain ⟨fd, F⟩ := c.def_ 46 (d := ⟨(r_law_size_right.x, none), r_law_size_right.x, r_law_size_right.x, defArgs r_law_size_right.st, defBody r_law_size_right.st, defScope r_law_size_right.st, [], []⟩) rfl
    exact ⟨fd, ft_zero (f := 46) (He.glo_ok X G (c.fact 46 (f := .glo r_law_size_right.x) rfl)) F (FunD.bindsN F fun _ _ _ _ _ _ us hl => match us, hl with | [_, _, _], _ => rfl)⟩
  | 47, hr =>
    have e : r_law_greatest_right = r := Option.some.inj hr
    subst e
    obtain ⟨fd, F⟩ := c.def_ 47 (d := ⟨(r_law_greatest_right.x, none), r_law_greatest_right.x, r_law_greatest_right.x, defArgs r_law_greatest_right.st, defBody r_law_greatest_right.st, defScope r_law_greatest_right.st, [], []⟩) rfl
    exact ⟨fd, ft_zero (f := 47) (He.glo_ok X G (c.fact 47 (f := .glo r_law_greatest_right.x) rfl)) F (FunD.bindsN F fun _ _ _ _ _ _ us hl => match us, hl with | [], _ => rfl)⟩
  | 48, hr =>
    have e : r_law_caught = r := Option.some.inj hr
    subst e
    obtain ⟨fd, F⟩ := c.def_ 48 (d := ⟨(r_law_caught.x, none), r_law_caught.x, r_law_caught.x, defArgs r_law_caught.st, defBody r_law_caught.st, defScope r_law_caught.st, [], []⟩) rfl
    exact ⟨fd, ft_zero (f := 48) (He.glo_ok X G (c.fact 48 (f := .glo r_law_caught.x) rfl)) F (FunD.bindsN F fun _ _ _ _ _ _ us hl => match us, hl with | [_, _, _], _ => rfl)⟩
  | 49, hr =>
    have e : r_law_refused_right = r := Option.some.inj hr
    subst e
    obtain ⟨fd, F⟩ := c.def_ 49 (d := ⟨(r_law_refused_right.x, none), r_law_refused_right.x, r_law_refused_right.x, defArgs r_law_refused_right.st, defBody r_law_refused_right.st, defScope r_law_refused_right.st, [], []⟩) rfl
    exact ⟨fd, ft_zero (f := 49) (He.glo_ok X G (c.fact 49 (f := .glo r_law_refused_right.x) rfl)) F (FunD.bindsN F fun _ _ _ _ _ _ us hl => match us, hl with | [_], _ => rfl)⟩
  | 50, hr =>
    have e : r_law = r := Option.some.inj hr
    subst e
    obtain ⟨fd, F⟩ := c.def_ 50 (d := ⟨(r_law.x, none), r_law.x, r_law.x, defArgs r_law.st, defBody r_law.st, defScope r_law.st, [], []⟩) rfl
    exact ⟨fd, ft_zero (f := 50) (He.glo_ok X G (c.fact 50 (f := .glo r_law.x) rfl)) F (FunD.bindsN F fun _ _ _ _ _ _ us hl => match us, hl with | [_], _ => rfl)⟩
  | n + 51, hr => exact absurd hr (by simp [D])
def law (d : Nat) : List W → Store → R W := fns T d 50
end Lw

/-! k63, k60 ..: sums of numbers without carry, plainly: leads, what they span. -/
namespace C63
def stp (x l : Nat) : Nat := if x ^^^ l < x then x ^^^ l else x
def red : List Nat → Nat → Nat
  | [], x => x
  | l :: L, x => red L (stp x l)
def inSp : List Nat → Nat → Prop
  | [], y => y = 0
  | l :: L, y => inSp L y ∨ inSp L (y ^^^ l)
theorem top_bit {l : Nat} (h : l ≠ 0) : l.testBit l.log2 = true := by
  rw [Nat.testBit_eq_decide_div_mod_eq]
  have a := Nat.log2_self_le h
  have b : l < 2 ^ (l.log2 + 1) := Nat.lt_log2_self
  have c : l / 2 ^ l.log2 = 1 := by
    refine Nat.div_eq_of_lt_le (by rw [Nat.one_mul]; exact a) ?_
    rw [Nat.pow_succ] at b
    omega
  rw [c]
  decide
theorem above {l j : Nat} (h : l.log2 < j) : l.testBit j = false := by
  refine Nat.testBit_lt_two_pow (Nat.lt_of_lt_of_le Nat.lt_log2_self ?_)
  exact Nat.pow_le_pow_right (by decide) h
theorem lt_of_bit {n m : Nat} (i : Nat) (hn : n.testBit i = false) (hm : m.testBit i = true) (h : ∀ j, i < j → n.testBit j = m.testBit j) : n < m := by
  rw [Nat.testBit_eq_decide_div_mod_eq, decide_eq_false_iff_not] at hn
  rw [Nat.testBit_eq_decide_div_mod_eq, decide_eq_true_eq] at hm
  have e : n / 2 ^ i / 2 = m / 2 ^ i / 2 := by
    rw [Nat.div_div_eq_div_mul, Nat.div_div_eq_div_mul, ← Nat.pow_succ]
    refine Nat.eq_of_testBit_eq fun j => ?_
    rw [Nat.testBit_div_two_pow, Nat.testBit_div_two_pow]
    exact h _ (by omega)
  have a1 : n < 2 ^ i * (n / 2 ^ i + 1) := Nat.lt_mul_div_succ n (Nat.pow_pos (by decide))
  have a2 : 2 ^ i * (m / 2 ^ i) ≤ m := Nat.mul_div_le m _
  have a3 : n / 2 ^ i + 1 ≤ m / 2 ^ i := by omega
  have a4 : 2 ^ i * (n / 2 ^ i + 1) ≤ 2 ^ i * (m / 2 ^ i) := Nat.mul_le_mul_left _ a3
  omega
theorem few : ∀ (n : Nat) (l : List Nat), l.Nodup → (∀ x ∈ l, x < n) → l.length ≤ n
  | 0, l, _, h => by
    cases l with
    | nil => exact Nat.le_refl 0
    | cons x r => exact absurd (h x (List.mem_cons_self ..)) (Nat.not_lt_zero _)
  | n + 1, l, nd, h => by
    by_cases hm : n ∈ l
    · have ih := few n (l.erase n) (nd.erase n) fun x hx => by
        obtain ⟨h1, h2⟩ := nd.mem_erase_iff.mp hx
        have := h x h2
        omega
      rw [List.length_erase_of_mem hm] at ih
      omega
    · have ih := few n l nd fun x hx => by
        have h1 := h x hx
        have h2 : x ≠ n := fun z => hm (z ▸ hx)
        omega
      omega
theorem stp_eq {l : Nat} (h : l ≠ 0) (x : Nat) : stp x l = if x.testBit l.log2 = true then x ^^^ l else x := by
  unfold stp
  by_cases b : x.testBit l.log2 = true
  · rw [if_pos b, if_pos]
    refine lt_of_bit l.log2 ?_ b fun j hj => ?_
    · rw [Nat.testBit_xor, b, top_bit h]
      rfl
    · rw [Nat.testBit_xor, above hj, Bool.xor_false]
  · rw [if_neg b, if_neg]
    have b : x.testBit l.log2 = false := by simpa using b
    have : x < x ^^^ l := by
      refine lt_of_bit l.log2 b ?_ fun j hj => ?_
      · rw [Nat.testBit_xor, b, top_bit h]
        rfl
      · rw [Nat.testBit_xor, above hj, Bool.xor_false]
    omega
theorem xor_assoc3 (a b c : Nat) : (a ^^^ b) ^^^ c = (a ^^^ c) ^^^ b := by
  rw [Nat.xor_assoc, Nat.xor_comm b c, ← Nat.xor_assoc]
theorem sp_zero : ∀ L, inSp L 0
  | [] => rfl
  | _ :: L => .inl (sp_zero L)
theorem sp_xor : ∀ (L : List Nat) {a b : Nat}, inSp L a → inSp L b → inSp L (a ^^^ b)
  | [], a, b, h, k => by
    have h : a = 0 := h
    have k : b = 0 := k
    rw [h, k]
    exact Nat.xor_self 0
  | l :: L, a, b, h, k => by
    rcases h with h | h
    · rcases k with k | k
      · exact .inl (sp_xor L h k)
      · refine .inr ?_
        rw [Nat.xor_assoc]
        exact sp_xor L h k
    · rcases k with k | k
      · refine .inr ?_
        rw [xor_assoc3]
        exact sp_xor L h k
      · refine .inl ?_
        have z := sp_xor L h k
        rw [Nat.xor_assoc, Nat.xor_comm l, Nat.xor_assoc, Nat.xor_self, Nat.xor_zero] at z
        exact z
theorem sp_red : ∀ (L : List Nat) (x : Nat), inSp L (x ^^^ red L x)
  | [], x => Nat.xor_self x
  | l :: L, x => by
    have ih := sp_red L (stp x l)
    show inSp L (x ^^^ red L (stp x l)) ∨ inSp L (x ^^^ red L (stp x l) ^^^ l)
    unfold stp at ih ⊢
    split at ih
    · refine .inr ?_
      rename_i h
      rw [if_pos h]
      rw [xor_assoc3]
      exact ih
    · rename_i h
      rw [if_neg h]
      exact .inl ih
def Good (L : List Nat) : Prop := (∀ l ∈ L, l ≠ 0) ∧ L.Pairwise fun a b => b.testBit a.log2 = false
theorem Good.tail {l : Nat} {L : List Nat} (h : Good (l :: L)) : Good L := ⟨fun x hx => h.1 x (List.mem_cons_of_mem _ hx), (List.pairwise_cons.mp h.2).2⟩
theorem sp_bit {t : Nat} : ∀ {L : List Nat}, (∀ l ∈ L, l.testBit t = false) → ∀ {y : Nat}, inSp L y → y.testBit t = false
  | [], _, y, h => by
    have h : y = 0 := h
    rw [h]
    exact Nat.zero_testBit t
  | l :: L, hb, y, h => by
    have hL : ∀ l ∈ L, l.testBit t = false := fun x hx => hb x (List.mem_cons_of_mem _ hx)
    rcases h with h | h
    · exact sp_bit hL h
    · have z := sp_bit hL h
      rw [Nat.testBit_xor, hb l (List.mem_cons_self ..), Bool.xor_false] at z
      exact z
theorem sp_clear : ∀ {L : List Nat}, Good L → ∀ {y : Nat}, inSp L y → (∀ l ∈ L, y.testBit l.log2 = false) → y = 0
  | [], _, y, h, _ => h
  | l :: L, g, y, h, hb => by
    have hp := (List.pairwise_cons.mp g.2).1
    rcases h with h | h
    · exact sp_clear g.tail h fun x hx => hb x (List.mem_cons_of_mem _ hx)
    · have z := sp_bit hp h
      rw [Nat.testBit_xor, hb l (List.mem_cons_self ..), top_bit (g.1 l (List.mem_cons_self ..))] at z
      cases z
theorem red_keep {t : Nat} : ∀ {L : List Nat}, (∀ l ∈ L, l ≠ 0 ∧ l.testBit t = false) → ∀ (x : Nat), (red L x).testBit t = x.testBit t
  | [], _, x => rfl
  | l :: L, h, x => by
    have ih := red_keep (t := t) (L := L) (fun y hy => h y (List.mem_cons_of_mem _ hy)) (stp x l)
    show (red L (stp x l)).testBit t = _
    rw [ih, stp_eq (h l (List.mem_cons_self ..)).1]
    split
    · rw [Nat.testBit_xor, (h l (List.mem_cons_self ..)).2, Bool.xor_false]
    · rfl
theorem red_bits : ∀ {L : List Nat}, Good L → ∀ (x l : Nat), l ∈ L → (red L x).testBit l.log2 = false
  | [], _, x, l, h => by cases h
  | a :: L, g, x, l, h => by
    have hp := (List.pairwise_cons.mp g.2).1
    show (red L (stp x a)).testBit l.log2 = false
    rcases List.mem_cons.mp h with e | h
    · subst e
      rw [red_keep fun y hy => ⟨g.tail.1 y hy, hp y hy⟩, stp_eq (g.1 l (List.mem_cons_self ..))]
      split
      · rename_i b
        rw [Nat.testBit_xor, b, top_bit (g.1 l (List.mem_cons_self ..))]
        rfl
      · rename_i b
        simpa using b
    · exact red_bits g.tail _ l h
theorem red_zero {L : List Nat} (g : Good L) (x : Nat) : red L x = 0 ↔ inSp L x := by
  constructor
  · intro h
    have z := sp_red L x
    rw [h, Nat.xor_zero] at z
    exact z
  · intro h
    refine sp_clear g ?_ fun l hl => red_bits g x l hl
    have z := sp_xor L h (sp_red L x)
    rw [← Nat.xor_assoc, Nat.xor_self, Nat.zero_xor] at z
    exact z
theorem good_push {L : List Nat} (g : Good L) {x : Nat} (h : red L x ≠ 0) : Good (L ++ [red L x]) := by
  refine ⟨fun l hl => ?_, ?_⟩
  · rcases List.mem_append.mp hl with z | z
    · exact g.1 l z
    · rw [List.mem_singleton.mp z]
      exact h
  · refine List.pairwise_append.mpr ⟨g.2, List.pairwise_singleton _ _, fun a ha b hb => ?_⟩
    rw [List.mem_singleton.mp hb]
    exact red_bits g x a ha
theorem sp_perm {L M : List Nat} (p : L.Perm M) : ∀ y, inSp L y ↔ inSp M y := by
  induction p with
  | nil => exact fun _ => Iff.rfl
  | cons a p ih => exact fun y => or_congr (ih y) (ih _)
  | swap a b l =>
    intro y
    show ((inSp l y ∨ inSp l (y ^^^ a)) ∨ (inSp l (y ^^^ b) ∨ inSp l (y ^^^ b ^^^ a))) ↔ ((inSp l y ∨ inSp l (y ^^^ b)) ∨ (inSp l (y ^^^ a) ∨ inSp l (y ^^^ a ^^^ b)))
    rw [xor_assoc3 y b a]
    constructor
    · rintro ((h | h) | (h | h))
      · exact .inl (.inl h)
      · exact .inr (.inl h)
      · exact .inl (.inr h)
      · exact .inr (.inr h)
    · rintro ((h | h) | (h | h))
      · exact .inl (.inl h)
      · exact .inr (.inl h)
      · exact .inl (.inr h)
      · exact .inr (.inr h)
  | trans _ _ ih1 ih2 => exact fun y => (ih1 y).trans (ih2 y)
/-- with one more: what is spanned is told by the number itself -/
theorem sp_push (L : List Nat) (x y : Nat) : inSp (L ++ [red L x]) y ↔ (inSp L y ∨ inSp L (y ^^^ x)) := by
  rw [sp_perm (List.perm_append_comm (l₁ := L) (l₂ := [red L x])) y]
  show (inSp L y ∨ inSp L (y ^^^ red L x)) ↔ _
  have s := sp_red L x
  refine or_congr Iff.rfl ⟨fun h => ?_, fun h => ?_⟩
  · have z := sp_xor L h s
    rw [Nat.xor_comm x, ← Nat.xor_assoc, Nat.xor_assoc y, Nat.xor_self, Nat.xor_zero] at z
    exact z
  · have z := sp_xor L h s
    rw [← Nat.xor_assoc, Nat.xor_assoc y, Nat.xor_self, Nat.xor_zero] at z
    exact z
theorem good_tops {L : List Nat} (g : Good L) : (L.map Nat.log2).Nodup := by
  refine List.pairwise_map.mpr ?_
  refine List.Pairwise.imp_of_mem ?_ g.2
  intro a b _ hb h e
  rw [e, top_bit (g.1 b hb)] at h
  cases h
theorem log_le {a b : Nat} (hb : b ≠ 0) (h : b ≤ a) : b.log2 ≤ a.log2 := by
  rcases Nat.lt_or_ge a.log2 b.log2 with z | z
  · have h1 : a < 2 ^ (a.log2 + 1) := Nat.lt_log2_self
    have h2 := Nat.log2_self_le hb
    have h3 : 2 ^ (a.log2 + 1) ≤ 2 ^ b.log2 := Nat.pow_le_pow_right (by decide) z
    omega
  · exact z
theorem good_desc {L M : List Nat} (g : Good L) (p : M.Perm L) (d : M.Pairwise (· ≥ ·)) : Good M := by
  have nz : ∀ l ∈ M, l ≠ 0 := fun l hl => g.1 l (p.mem_iff.mp hl)
  have nd : (M.map Nat.log2).Nodup := (p.map Nat.log2).nodup_iff.mpr (good_tops g)
  refine ⟨nz, ?_⟩
  have nd := List.pairwise_map.mp nd
  refine List.Pairwise.imp_of_mem ?_ (List.pairwise_and_iff.mpr ⟨d, nd⟩)
  rintro a b ha hb ⟨h1, h2⟩
  refine above ?_
  have := log_le (nz b hb) h1
  omega
/-- two ways that go along -/
def Same (L M : List Nat) : Prop := Good L ∧ Good M ∧ L.length = M.length ∧ ∀ y, inSp L y ↔ inSp M y
theorem same_nil : Same [] [] := ⟨⟨fun _ h => (by cases h), List.Pairwise.nil⟩, ⟨fun _ h => (by cases h), List.Pairwise.nil⟩, rfl, fun _ => Iff.rfl⟩
theorem same_zero {L M : List Nat} (s : Same L M) (x : Nat) : red L x = 0 ↔ red M x = 0 := by
  rw [red_zero s.1, red_zero s.2.1]
  exact s.2.2.2 x
theorem same_push {L M M' : List Nat} (s : Same L M) {x : Nat} (h : red L x ≠ 0) (p : M'.Perm (M ++ [red M x])) (d : M'.Pairwise (· ≥ ·)) : Same (L ++ [red L x]) M' := by
  have h2 : red M x ≠ 0 := fun z => h ((same_zero s x).mpr z)
  refine ⟨good_push s.1 h, good_desc (good_push s.2.1 h2) p d, ?_, fun y => ?_⟩
  · rw [p.length_eq, List.length_append, List.length_append, s.2.2.1]
    rfl
  · rw [sp_perm p y, sp_push, sp_push]
    exact or_congr (s.2.2.2 y) (s.2.2.2 _)
theorem red_lt {n : Nat} : ∀ {L : List Nat}, (∀ l ∈ L, l < 2 ^ n) → ∀ {x : Nat}, x < 2 ^ n → red L x < 2 ^ n
  | [], _, x, h => h
  | l :: L, hL, x, h => by
    refine red_lt (fun y hy => hL y (List.mem_cons_of_mem _ hy)) ?_
    unfold stp
    split
    · exact Nat.xor_lt_two_pow h (hL l (List.mem_cons_self ..))
    · exact h
theorem good_few {n : Nat} {L : List Nat} (g : Good L) (h : ∀ l ∈ L, l < 2 ^ n) : L.length ≤ n := by
  have nd := good_tops g
  have z := few n _ nd fun t ht => by
    obtain ⟨l, hl, rfl⟩ := List.mem_map.mp ht
    exact (Nat.log2_lt (g.1 l hl)).mpr (h l hl)
  rw [List.length_map] at z
  exact z
end C63

namespace Lw
open Mp C63
def isStr (r : R W) (s : List Nat) : Bool := match r with
  | .ok (.str t) [] => decide (t = s)
  | _ => false
def isInt (r : R W) (i : Int) : Bool := match r with
  | .ok (.int j) [] => decide (j = i)
  | _ => false
def isTrue (r : R W) : Bool := match r with
  | .ok (.bl true) [] => true
  | _ => false
theorem isStr_ok {r : R W} {s : List Nat} (h : isStr r s = true) : r = .ok (.str s) [] := by
  unfold isStr at h
  split at h
  · rw [of_decide_eq_true h]
  · cases h
theorem isInt_ok {r : R W} {i : Int} (h : isInt r i = true) : r = .ok (.int i) [] := by
  unfold isInt at h
  split at h
  · rw [of_decide_eq_true h]
  · cases h
theorem isTrue_ok {r : R W} (h : isTrue r = true) : r = .ok (.bl true) [] := by
  unfold isTrue at h
  split at h
  · rfl
  · cases h
theorem rangeW_succ (s k : Nat) : rangeW (s : Int) (k + 1) = .int s :: rangeW ((s + 1 : Nat) : Int) k := by
  unfold rangeW
  rw [List.range_succ_eq_map, List.map_cons, List.map_map]
  have e : (s : Int) + ((0 : Nat) : Int) = s := by simp
  rw [e]
  refine congrArg _ (List.map_congr_left fun i _ => ?_)
  show W.int _ = W.int _
  congr 1
  push_cast
  omega
theorem rng_int (a b : Nat) (h : a ≤ b) : rangeW (a : Int) (((b : Nat) : Int) - (a : Int)).toNat = rangeW (a : Int) (b - a) := by
  rw [show (((b : Nat) : Int) - (a : Int)).toNat = b - a by omega]
theorem miRng_ok {o : List W → Option (List W)} {ga : MA} {η : Env} {S S1 : Store} {ws xs : List W} (h : ga η S = .ok ws S1) (k : o ws = some xs) : miRng o ga η S = .ok xs S1 := by
  unfold miRng
  rw [h]
  show rOpt (o ws) S1 = _
  rw [k] <;> rfl
theorem fr_ret {T : List Fun} {d k np nv : Nat} {b : Fns → MS} {ws : List W} {η : Env} {S S' : Store} {w : W} (h : T[k]? = some ⟨np, nv, false, true, b⟩) (hl : ws.length = np) (hp : pures ws = true) (hη : ws.map some ++ List.replicate (nv - np) none = η) (e : b (fns T d) η [] = .ret w S') (pw : w.pure = true) : fns T (d + 1) k ws S = .ok w S := by
  rw [fns_fr h hl hp rfl]
  show R.frame S (finS false 0 (b (fns T d) (ws.map some ++ List.replicate (nv - np) none) [])) = _
  rw [hη, e]
  show R.frame S (fin false 0 w S') = _
  unfold fin
  rw [if_pos pw]
  exact if_pos pw
theorem mMeth_ok {c : Nat} {o : OM} {f : ME} {ga : MA} {η : Env} {S S1 S2 S3 : Store} {x w : W} {ws : List W} (hf : f η S = .ok x S1) (hr : recOk c S1 x = true) (hg : ga η S1 = .ok ws S2) (ho : o x ws S2 = some (w, S3)) : mMeth c o f ga η S = .ok w S3 := by
  unfold mMeth
  rw [hf]
  show (if recOk c S1 x = true then (ga η S1).bind fun ws S2 => rOM (o x ws S2) else .stuck) = _
  rw [if_pos hr, hg]
  show rOM (o x ws S2) = _
  rw [ho] <;> rfl
theorem rng1_nat {b : Nat} (hb : b < 1000000) : rng1 [.int (b : Int)] = some (rangeW 0 b) := by
  show (if -4611686018427387904 ≤ (b : Int) ∧ (b : Int) < 4611686018427387904 then some (rangeW 0 ((b : Int)).toNat) else none) = _
  rw [if_pos ⟨by omega, by omega⟩, Int.toNat_natCast]
theorem sDrop_ok {f : ME} {η : Env} {S S1 : Store} {w : W} (h : f η S = .ok w S1) : sDrop f η S = .nx η S1 := by
  unfold sDrop
  rw [h] <;> rfl
theorem mAnd_t {f g : ME} {η : Env} {S S1 : Store} {x : W} (h : f η S = .ok x S1) (ht : truthy S1 x = some true) : mAnd f g η S = g η S1 := by
  unfold mAnd
  rw [h]
  show (rTruth x S1).bind _ = _
  unfold rTruth
  rw [ht]
  rfl
theorem fr_non {T : List Fun} {d k np nv : Nat} {b : Fns → MS} {ws : List W} {η η' : Env} {S S' : Store} (h : T[k]? = some ⟨np, nv, false, true, b⟩) (hl : ws.length = np) (hp : pures ws = true) (hη : ws.map some ++ List.replicate (nv - np) none = η) (e : b (fns T d) η [] = .nx η' S') : fns T (d + 1) k ws S = .ok .non S := by
  rw [fns_fr h hl hp rfl]
  show R.frame S (finS false 0 (b (fns T d) (ws.map some ++ List.replicate (nv - np) none) [])) = _
  rw [hη, e]
  rfl
theorem comp_gen {it : MI} {own : List Nat} {g : MG} {t : MT} {e : ME} {η : Env} {S : Store} {α : Type} {u v : α → W} {l : List α} (hi : it η S = .ok (l.map u) S) (h : ∀ i, i ∈ l → ∃ η1, g (u i) (wipeE η own) S = some (η1, S) ∧ t η1 S = .ok true S ∧ e η1 S = .ok (v i) S) (hl : l.length ≤ bigLine) : mComp it own g t e η S = .ok (.lst (l.map v)) S := by
  unfold mComp
  rw [hi]
  show (noexc (compL g t e (wipeE η own) (l.map u) S [])).bind (fun ws S2 => R.ok (W.lst ws) S2) = _
  have key : ∀ (xs : List α) (acc : List W), (∀ i, i ∈ xs → ∃ η1, g (u i) (wipeE η own) S = some (η1, S) ∧ t η1 S = .ok true S ∧ e η1 S = .ok (v i) S) → acc.length + xs.length ≤ bigLine → compL g t e (wipeE η own) (xs.map u) S acc = .ok (acc ++ xs.map v) S := by
    intro xs
    induction xs with
    | nil =>
      intro acc _ _
      show R.ok acc S = _
      rw [List.map_nil, List.append_nil]
    | cons x r ih =>
      intro acc h hl
      obtain ⟨η1, h1, h2, h3⟩ := h x (List.mem_cons_self ..)
      rw [List.map_cons]
      unfold compL
      simp only [h1, h2, h3, R.bind]
      rw [if_pos True.intro]
      unfold sized
      rw [if_pos (by rw [List.length_cons] at hl; omega), ih (acc ++ [v x]) (fun y hy => h y (List.mem_cons_of_mem _ hy)) (by rw [List.length_append, List.length_singleton]; rw [List.length_cons] at hl; omega), List.append_assoc] <;> rfl
  rw [key l [] h (by simpa using hl), List.nil_append] <;> rfl
theorem forR_nx {g : MG} {b : MS} {r : Nat} {xs : List W} (I : Nat → Env → Store → Prop) (hx : ∀ i η S, I i η S → S[r]? = some (.lst xs)) (hs : ∀ i (h : i < xs.length) η S, I i η S → ∃ η1 S1, g xs[i] η S = some (η1, S1) ∧ Nx (b η1 S1) (I (i + 1))) : ∀ (k i : Nat) (η : Env) (S : Store), I i η S → i + k = xs.length → ∀ fuel, k < fuel → Nx (forR g b r fuel i η S) (I xs.length)
  | 0, i, η, S, hi, hk, fuel + 1, hf => by
    have ex := hx i η S hi
    have e : forR g b r (fuel + 1) i η S = .nx η S := by
      conv => lhs; unfold forR
      have : itemR r i S = some none := by
        unfold itemR
        rw [ex]
        show some xs[i]? = _
        rw [List.getElem?_eq_none (by omega)]
      rw [this]
    rw [e]
    exact Nx.of (by rw [← hk]; exact hi)
  | k + 1, i, η, S, hi, hk, fuel + 1, hf => by
    have ex := hx i η S hi
    have hl : i < xs.length := by omega
    obtain ⟨η1, S1, eg, η2, S2, eb, i2⟩ := hs i hl η S hi
    have e : forR g b r (fuel + 1) i η S = forR g b r fuel (i + 1) η2 S2 := by
      conv => lhs; unfold forR
      have : itemR r i S = some (some xs[i]) := by
        unfold itemR
        rw [ex]
        show some xs[i]? = _
        rw [List.getElem?_eq_getElem hl]
      simp only [this, eg, eb]
    rw [e]
    exact forR_nx I hx hs k (i + 1) η2 S2 i2 (by omega) fuel (by omega)
  | _, _, _, _, _, _, 0, hf => by omega
/-- a loop over a range, by its index -/
theorem loop_ix {g : MG} {b : MS} (I : Nat → Env → Store → Prop) : ∀ (k s : Nat), (∀ i, s ≤ i → i < s + k → ∀ η S, I i η S → ∃ η1 S1, g (.int (i : Int)) η S = some (η1, S1) ∧ Nx (b η1 S1) (I (i + 1))) → ∀ η S, I s η S → Nx (forL g b (rangeW (s : Int) k) η S) (I (s + k))
  | 0, s, _, η, S, hi => ⟨η, S, rfl, hi⟩
  | k + 1, s, h, η, S, hi => by
    obtain ⟨η1, S1, e1, η2, S2, e2, i2⟩ := h s (Nat.le_refl _) (by omega) η S hi
    rw [rangeW_succ, forL_nx e1 e2]
    have := loop_ix I k (s + 1) (fun i h1 h2 => h i (by omega) (by omega)) η2 S2 i2
    rw [show s + 1 + k = s + (k + 1) by omega] at this
    exact this
theorem nf_call {T : List Fun} {d k np nv : Nat} {keep : Bool} {b : Fns → MS} {ws : List W} {η : Env} {S : Store} (h : T[k]? = some ⟨np, nv, keep, false, b⟩) (hl : ws.length = np) (hη : ws.map some ++ List.replicate (nv - np) none = η) : fns T (d + 1) k ws S = finS keep S.length (b (fns T d) η S) := by
  subst hη
  exact fns_eq h hl
theorem pures_strs : ∀ l : List (List Nat), pures (l.map W.str) = true
  | [] => rfl
  | i :: r => by
    show (true && pures (r.map W.str)) = true
    rw [pures_strs r] <;> rfl
theorem lt_get {S : Store} {i : Nat} {c : Cell} (h : S[i]? = some c) : i < S.length := (List.getElem?_eq_some_iff.mp h).1
theorem get_app {S U : Store} {i : Nat} {c : Cell} (h : S[i]? = some c) : (S ++ U)[i]? = some c := by
  rw [List.getElem?_append_left (lt_get h)]
  exact h
theorem get_new {S : Store} {c : Cell} : (S ++ [c])[S.length]? = some c := by
  rw [List.getElem?_append_right (Nat.le_refl _), Nat.sub_self] <;> rfl
theorem eraseIdx_map' {α β : Type} (f : α → β) : ∀ (l : List α) (k : Nat), (l.map f).eraseIdx k = (l.eraseIdx k).map f
  | [], _ => rfl
  | _ :: _, 0 => rfl
  | x :: r, k + 1 => by
    show f x :: (r.map f).eraseIdx k = f x :: (r.eraseIdx k).map f
    rw [eraseIdx_map' f r k]
theorem erase_perm : ∀ (l : List Nat) (k : Nat) (h : k < l.length), (l[k] :: l.eraseIdx k).Perm l
  | [], _, h => absurd h (Nat.not_lt_zero _)
  | x :: r, 0, _ => .refl _
  | x :: r, k + 1, h => by
    have ih := erase_perm r k (by rw [List.length_cons] at h; omega)
    show ((r[k]'(by rw [List.length_cons] at h; omega)) :: x :: r.eraseIdx k).Perm (x :: r)
    exact (List.Perm.swap _ _ _).trans (ih.cons x)
theorem mCallK_ok {φ : Fns} {f : Nat} {perm : List Nat} {gk : MA} {η : Env} {S S1 S2 : Store} {ws zs : List W} {w : W} (hg : gk η S = .ok ws S1) (hp : perm.all (fun i => decide (i < ws.length)) = true) (hz : (perm.map fun i => ws.getD i .non) = zs) (h : φ f zs S1 = .ok w S2) : mCallK φ f perm gk η S = .ok w S2 := by
  unfold mCallK
  rw [hg]
  show (if _ then _ else _) = _
  rw [if_pos hp, hz]
  exact h
theorem mOr_t {f g : ME} {η : Env} {S S1 : Store} {x : W} (h : f η S = .ok x S1) (ht : truthy S1 x = some true) : mOr f g η S = .ok x S1 := by
  unfold mOr
  rw [h]
  show (rTruth x S1).bind _ = _
  unfold rTruth
  rw [ht]
  rfl
theorem mOr_f {f g : ME} {η : Env} {S S1 : Store} {x : W} (h : f η S = .ok x S1) (ht : truthy S1 x = some false) : mOr f g η S = g η S1 := by
  unfold mOr
  rw [h]
  show (rTruth x S1).bind _ = _
  unfold rTruth
  rw [ht]
  rfl
theorem no2 {f g : ME} {η : Env} {S S1 S2 : Store} (hf : f η S = .ok (.bl true) S1) (hg : g η S1 = .ok (.bl true) S2) : mTOr (mTNot (mTru f)) (mTNot (mTru g)) η S = .ok false S2 := (mTOr_f (mTNot_ok (mTru_ok hf rfl))).trans (mTNot_ok (mTru_ok hg rfl))
theorem ne_int {a : Int} {S : Store} : opNe (.int a) (.int a) S = some (.bl false) := by
  show some (W.bl (!(a == a))) = _
  rw [beq_self_eq_true] <;> rfl
theorem strsOf_inv : ∀ {xs : List W} {zs : List (List Nat)}, strsOf xs = some zs → xs = zs.map .str
  | [], zs, h => by
    cases h
    rfl
  | .str s :: r, zs, h => by
    have h : (strsOf r).map (s :: ·) = some zs := h
    cases e : strsOf r with
    | none =>
      rw [e] at h
      cases h
    | some ys =>
      rw [e] at h
      cases h
      rw [strsOf_inv e] <;> rfl
  | .non :: r, zs, h => by cases h
  | .bl _ :: r, zs, h => by cases h
  | .int _ :: r, zs, h => by cases h
  | .tup _ :: r, zs, h => by cases h
  | .lst _ :: r, zs, h => by cases h
  | .scr _ :: r, zs, h => by cases h
  | .dct _ _ :: r, zs, h => by cases h
  | .ref _ :: r, zs, h => by cases h
  | .fn _ :: r, zs, h => by cases h
  | .cls _ :: r, zs, h => by cases h
  | .exc _ _ :: r, zs, h => by cases h
end Lw

namespace Lw
open Mp
/-! law k07: closed facts -/
mutual
def synW : W → W → Bool
  | .non, .non => true
  | .bl a, .bl b => a == b
  | .int a, .int b => decide (a = b)
  | .str a, .str b => decide (a = b)
  | .tup a, .tup b => synWs a b
  | .lst a, .lst b => synWs a b
  | .dct a c, .dct b d => synWs a b && synWs c d
  | _, _ => false
def synWs : List W → List W → Bool
  | [], [] => true
  | x :: r, y :: s => synW x y && synWs r s
  | _, _ => false
end
mutual
theorem synW_ok : ∀ {a b : W}, synW a b = true → a = b
  | .non, .non, _ => rfl
  | .bl a, .bl b, h => by
    have h : (a == b) = true := by simpa [synW] using h
    rw [beq_iff_eq] at h
    rw [h]
  | .int a, .int b, h => by
    have h : decide (a = b) = true := by simpa [synW] using h
    rw [of_decide_eq_true h]
  | .str a, .str b, h => by
    have h : decide (a = b) = true := by simpa [synW] using h
    rw [of_decide_eq_true h]
  | .tup a, .tup b, h => by
    have h : synWs a b = true := by simpa [synW] using h
    rw [synWs_ok h]
  | .lst a, .lst b, h => by
    have h : synWs a b = true := by simpa [synW] using h
    rw [synWs_ok h]
  | .dct a c, .dct b d, h => by
    have h : (synWs a b && synWs c d) = true := by
      unfold synW at h
      exact h
    obtain ⟨h1, h2⟩ := Bool.and_eq_true_iff.mp h
    rw [synWs_ok h1, synWs_ok h2]
theorem synWs_ok : ∀ {a b : List W}, synWs a b = true → a = b
  | [], [], _ => rfl
  | x :: r, y :: s, h => by
    unfold synWs at h
    obtain ⟨h1, h2⟩ := Bool.and_eq_true_iff.mp h
    rw [synW_ok h1, synWs_ok h2]
end
def resW (r : R W) (w : W) : Bool := match r with
  | .ok v [] => synW v w
  | _ => false
theorem resW_ok {r : R W} {w : W} (h : resW r w = true) : r = .ok w [] := by
  unfold resW at h
  split at h
  · rw [synW_ok h]
  · cases h
def L3 : List W := ([1, 27, 351, 2808, 14742, 50544, 107406, 126360, 63180, 2106, 0, 0, 0, 0, 0, 0, 0, 0, 0, 0, 0, 0, 0, 0, 0, 0, 0, 0] : List Int).map W.int
def Lc : Nat → List W
  | 1 => ([1, 3, 3, 0] : List Int).map W.int
  | _ => ([1, 9, 36, 72, 54, 0, 0, 0, 0, 0] : List Int).map W.int
theorem c_cnt3 : resW (fns T 59 44 [.int 3] []) (.lst L3) = true := by kernel_rfl
theorem c_cnt : ([1, 2] : List Nat).all (fun m => resW (fns T 59 44 [.int (m : Nat)] []) (.lst (Lc m))) = true := by kernel_rfl
theorem c_great : resW (fns T 59 47 [] []) (.bl true) = true := by kernel_rfl
theorem c_size3 : (List.range 28).all (fun s => resW (fns T 59 26 [.int 3, .int (s : Nat)] []) (L3.getD s .non) && resW (fns T 59 37 [L3.getD s .non, L3.getD s .non] []) (.bl true)) = true := by kernel_rfl
theorem c_right : ([1, 2] : List Nat).all (fun m => (List.range (Lc m).length).all fun s => resW (fns T 59 46 [.int (m : Nat), .int (s : Nat), (Lc m).getD s .non] []) (.bl true)) = true := by kernel_rfl
/-- what is no number -/
def noN : List W := [.int 0, .int 5, .int (-1), .bl true, .non, .str [50], .tup [.int 2], .int 100000000000000000000, .lst [], .dct [.bl false] []]
def numW (w : W) : W := .lst [.str [110, 117, 109, 98, 101, 114], w]
def sizW (w : W) : W := .lst [.str [115, 105, 122, 101], w]
def manW : W := .lst [.str [109, 97, 110, 121], .int 4]
theorem c_noN : noN.all (fun w => (List.range 3).all (fun k => resW (fns T 58 48 [.int (k : Nat), w, .non] []) (numW w)) && resW (fns T 58 37 [.lst [numW w, numW w, numW w], .lst [numW w, numW w, numW w]] []) (.bl true)) = true := by kernel_rfl
/-- what is no size -/
def noS (n : Nat) : List W := [.int ((3 ^ n + 1 : Nat) : Int), .int (-1), .bl true, .non, .str [49], .tup [.int 1], .int 100000000000000000000]
theorem c_deck : ([1, 2, 3, 4] : List Nat).all (fun n => match fns T 58 40 [.int (n : Nat)] [] with
  | .ok (.tup xs) [] => xs.length == 3 ^ n
  | _ => false) = true := by kernel_rfl
theorem c_noS : ([1, 2, 3, 4] : List Nat).all (fun n => (noS n).all fun w => resW (fns T 58 48 [.int 0, .int (n : Nat), w] []) (sizW w) && resW (fns T 58 37 [sizW w, sizW w] []) (.bl true)) = true := by kernel_rfl
theorem c_many : ([0, 20, 81] : List Int).all (fun s => resW (fns T 58 48 [.int 0, .int 4, .int s] []) manW) = true := by kernel_rfl
theorem c_many2 : resW (fns T 58 37 [.lst [manW, manW, manW], .lst [manW, manW, manW]] []) (.bl true) = true := by kernel_rfl
end Lw

namespace Lw
open Mp
/-! law k07: the law -/
def nW (n : Nat) : W := .int n
theorem comp_flt {it : MI} {own : List Nat} {g : MG} {t : MT} {e : ME} {η : Env} {S : Store} {α : Type} {u v : α → W} {P : α → Bool} {l : List α} (hi : it η S = .ok (l.map u) S) (h : ∀ i, i ∈ l → ∃ η1, g (u i) (wipeE η own) S = some (η1, S) ∧ t η1 S = .ok (P i) S ∧ (P i = true → e η1 S = .ok (v i) S)) (hl : l.length ≤ bigLine) : mComp it own g t e η S = .ok (.lst ((l.filter P).map v)) S := by
  unfold mComp
  rw [hi]
  show (noexc (compL g t e (wipeE η own) (l.map u) S [])).bind (fun ws S2 => R.ok (W.lst ws) S2) = _
  have key : ∀ (xs : List α) (acc : List W), (∀ i, i ∈ xs → ∃ η1, g (u i) (wipeE η own) S = some (η1, S) ∧ t η1 S = .ok (P i) S ∧ (P i = true → e η1 S = .ok (v i) S)) → acc.length + xs.length ≤ bigLine → compL g t e (wipeE η own) (xs.map u) S acc = .ok (acc ++ (xs.filter P).map v) S := by
    intro xs
    induction xs with
    | nil =>
      intro acc _ _
      show R.ok acc S = _
      rw [List.filter_nil, List.map_nil, List.append_nil]
    | cons x r ih =>
      intro acc h hl
      rw [List.length_cons] at hl
      obtain ⟨η1, h1, h2, h3⟩ := h x (List.mem_cons_self ..)
      have h' : ∀ i, i ∈ r → ∃ η1, g (u i) (wipeE η own) S = some (η1, S) ∧ t η1 S = .ok (P i) S ∧ (P i = true → e η1 S = .ok (v i) S) := fun y hy => h y (List.mem_cons_of_mem _ hy)
      rw [List.map_cons]
      unfold compL
      cases hp : P x with
      | true =>
        rw [hp] at h2
        simp only [h1, h2, h3 hp, R.bind]
        rw [if_pos True.intro]
        unfold sized
        rw [if_pos (by omega), ih (acc ++ [v x]) h' (by rw [List.length_append, List.length_singleton]; omega), List.append_assoc, List.filter_cons, if_pos hp] <;> rfl
      | false =>
        rw [hp] at h2
        simp only [h1, h2, R.bind]
        rw [if_neg (by decide), ih acc h' (by omega), List.filter_cons, if_neg (by rw [hp]; decide)]
  rw [key l [] h (by simpa using hl), List.nil_append] <;> rfl
theorem all_true {S : Store} : ∀ xs : List W, baAll [.lst (xs.map fun _ => W.bl true)] S = some (.bl true)
  | xs => by
    have h : bls (xs.map fun _ => W.bl true) = some (xs.map fun _ => true) := by
      induction xs with
      | nil => rfl
      | cons x r ih =>
        show (bls (r.map fun _ => W.bl true)).map (true :: ·) = _
        rw [ih] <;> rfl
    show (bls (xs.map fun _ => W.bl true)).map (fun bs => W.bl (bs.all id)) = _
    rw [h]
    show some (W.bl ((xs.map fun _ => true).all id)) = _
    have e : (xs.map fun _ => true).all id = true := List.all_eq_true.mpr fun x hx => by
      obtain ⟨_, _, rfl⟩ := List.mem_map.mp hx
      rfl
    rw [e]
theorem all_trues {S : Store} {α : Type} (l : List α) : baAll [.lst (l.map fun _ => W.bl true)] S = some (.bl true) := by
  have := all_true (S := S) (l.map fun _ => W.non)
  rw [List.map_map] at this
  exact this
theorem atW_get {xs : List W} {a : Nat} (h : a < xs.length) : atW xs (a : Int) = some xs[a] := by
  unfold atW ixW
  rw [if_pos (by omega), if_pos (by omega)]
  show xs[((a : Int)).toNat]? = _
  rw [Int.toNat_natCast, List.getElem?_eq_getElem h]
theorem atW_f {α : Type} (f : α → W) (z : α) {l : List α} {a : Nat} (h : a < l.length) : atW (l.map f) (a : Int) = some (f (l.getD a z)) := by
  rw [atW_get (by rw [List.length_map]; exact h), List.getElem_map, List.getD_eq_getElem?_getD, List.getElem?_eq_getElem h] <;> rfl
theorem rangeW_nat (n : Nat) : rangeW 0 n = (List.range n).map nW := by
  unfold rangeW
  exact List.map_congr_left fun i _ => by show W.int (0 + (i : Int)) = W.int (i : Int); rw [Int.zero_add]
theorem pures_get' {ws : List W} (h : pures ws = true) {k : Nat} (hk : k < ws.length) : ws[k].pure = true := pures_get h (List.getElem?_eq_getElem hk)
theorem pick_l {d i : Nat} {ws : List W} {S : Store} (hw : Well S i) (h0 : 0 < ws.length) (hl : ws.length < 1000000) (hp : pures ws = true) : ∃ k, ∃ hk : k < ws.length, ∃ S', fns T (d + 2) 36 [.ref i, .lst ws] S = .ok ws[k] S' ∧ Well S' i ∧ S'.length = S.length := by
  obtain ⟨v, v0, v1, S1, ec, w1, l1, o1⟩ := take_call (T := T) (d := d) (k := 35) (S := S) (i := i) (n := (ws.length : Int)) rfl hw (by omega) (by omega)
  have hk : v.toNat < ws.length := by omega
  refine ⟨v.toNat, hk, S1, ?_, w1, l1⟩
  refine (nf_call (η := [some (.ref i), some (.lst ws)]) (np := 2) (nv := 2) (keep := false) (b := b_law_pick) rfl rfl rfl).trans ?_
  have eb : b_law_pick (fns T (d + 1)) [some (.ref i), some (.lst ws)] S = .ret ws[v.toNat] S1 := by
    refine sRet_ok (mBin_ok (S1 := S) (x := .lst ws) (y := .int v) (mVar_ok rfl) (mCall_ok (S1 := S) (maCons_ok (mVar_ok rfl) (maCons_ok (mBi1_ok (S1 := S) (x := .lst ws) (mVar_ok rfl) rfl) maNil_ok)) ec) ?_)
    show atW ws v = _
    have := atW_get hk
    rw [show ((v.toNat : Nat) : Int) = v by omega] at this
    exact this
  rw [eb]
  show (if ws[v.toNat].pure = true then R.ok ws[v.toNat] (S1.take S.length) else _) = _
  rw [if_pos (pures_get' hp hk), List.take_of_length_le (by omega)]
theorem compL_inv {g : MG} {e : ME} {η : Env} {α : Type} {u : α → W} {w : W} (I : Store → Prop) : ∀ (l : List α) (acc : List W) (S : Store), I S → (∀ x, x ∈ l → ∀ S, I S → ∃ η1 S', g (u x) η S = some (η1, S) ∧ e η1 S = .ok w S' ∧ I S') → acc.length + l.length ≤ bigLine → ∃ S', compL g mtYes e η (l.map u) S acc = .ok (acc ++ l.map fun _ => w) S' ∧ I S'
  | [], acc, S, hi, _, _ => ⟨S, by rw [List.map_nil, List.map_nil, List.append_nil] <;> rfl, hi⟩
  | x :: r, acc, S, hi, h, hl => by
    rw [List.length_cons] at hl
    obtain ⟨η1, S1, h1, h2, i1⟩ := h x (List.mem_cons_self ..) S hi
    obtain ⟨S2, e2, i2⟩ := compL_inv I r (acc ++ [w]) S1 i1 (fun y hy => h y (List.mem_cons_of_mem _ hy)) (by rw [List.length_append, List.length_singleton]; omega)
    refine ⟨S2, ?_, i2⟩
    rw [List.map_cons]
    unfold compL
    simp only [h1, mtYes, h2, R.bind]
    rw [if_pos True.intro]
    unfold sized
    rw [if_pos (by omega)]
    rw [e2, List.append_assoc] <;> rfl
theorem mComp_of {it : MI} {own : List Nat} {g : MG} {t : MT} {e : ME} {η : Env} {S S1 S2 : Store} {xs ws : List W} (hi : it η S = .ok xs S1) (hc : compL g t e (wipeE η own) xs S1 [] = .ok ws S2) : mComp it own g t e η S = .ok (.lst ws) S2 := by
  unfold mComp
  rw [hi]
  show (noexc (compL g t e (wipeE η own) xs S1 [])).bind (fun ws S2 => R.ok (W.lst ws) S2) = _
  rw [hc]
  rfl
theorem cnt3 (S : Store) : fns T 59 44 [.int 3] S = .ok (.lst L3) S := fr_any rfl (resW_ok c_cnt3)
theorem cnt {m : Nat} (h : m ∈ ([1, 2] : List Nat)) (S : Store) : fns T 59 44 [.int (m : Nat)] S = .ok (.lst (Lc m)) S := fr_any rfl (resW_ok (List.all_eq_true.mp c_cnt m h))
theorem great (S : Store) : fns T 59 47 [] S = .ok (.bl true) S := fr_any rfl (resW_ok c_great)
theorem size3 {s : Nat} (h : s < 28) (S : Store) : fns T 59 26 [.int 3, nW s] S = .ok (L3.getD s .non) S ∧ fns T 59 37 [L3.getD s .non, L3.getD s .non] S = .ok (.bl true) S := by
  obtain ⟨a, b⟩ := Bool.and_eq_true_iff.mp (List.all_eq_true.mp c_size3 s (List.mem_range.mpr h))
  exact ⟨fr_any rfl (resW_ok a), fr_any rfl (resW_ok b)⟩
theorem right {m s : Nat} (h : m ∈ ([1, 2] : List Nat)) (hs : s < (Lc m).length) (S : Store) : fns T 59 46 [.int (m : Nat), nW s, (Lc m).getD s .non] S = .ok (.bl true) S :=
  fr_any rfl (resW_ok (List.all_eq_true.mp (List.all_eq_true.mp c_right m h) s (List.mem_range.mpr hs)))
theorem noN_ok {w : W} (h : w ∈ noN) (S : Store) : (∀ k, k < 3 → fns T 58 48 [nW k, w, .non] S = .ok (numW w) S) ∧ fns T 58 37 [.lst [numW w, numW w, numW w], .lst [numW w, numW w, numW w]] S = .ok (.bl true) S := by
  obtain ⟨a, b⟩ := Bool.and_eq_true_iff.mp (List.all_eq_true.mp c_noN w h)
  exact ⟨fun k hk => fr_any rfl (resW_ok (List.all_eq_true.mp a k (List.mem_range.mpr hk))), fr_any rfl (resW_ok b)⟩
theorem deck_len {n : Nat} (h : n ∈ ([1, 2, 3, 4] : List Nat)) : ∃ xs : List W, (∀ S, fns T 58 40 [.int (n : Nat)] S = .ok (.tup xs) S) ∧ xs.length = 3 ^ n := by
  have z := List.all_eq_true.mp c_deck n h
  split at z
  · rename_i xs e
    exact ⟨xs, fun S => fr_any rfl e, by rwa [beq_iff_eq] at z⟩
  · cases z
theorem noS_ok {n : Nat} (h : n ∈ ([1, 2, 3, 4] : List Nat)) {w : W} (hw : w ∈ noS n) (S : Store) : fns T 58 48 [.int 0, .int (n : Nat), w] S = .ok (sizW w) S ∧ fns T 58 37 [sizW w, sizW w] S = .ok (.bl true) S := by
  obtain ⟨a, b⟩ := Bool.and_eq_true_iff.mp (List.all_eq_true.mp (List.all_eq_true.mp c_noS n h) w hw)
  exact ⟨fr_any rfl (resW_ok a), fr_any rfl (resW_ok b)⟩
theorem many_ok {s : Int} (h : s ∈ ([0, 20, 81] : List Int)) (S : Store) : fns T 58 48 [.int 0, .int 4, .int s] S = .ok manW S := fr_any rfl (resW_ok (List.all_eq_true.mp c_many s h))
theorem many2 (S : Store) : fns T 58 37 [.lst [manW, manW, manW], .lst [manW, manW, manW]] S = .ok (.bl true) S := fr_any rfl (resW_ok c_many2)
abbrev fE (i : Nat) (a b c : Option W) : Env := [some (.ref i), a, b, c, none]
theorem num_body {i : Nat} {b c : Option W} {w : W} {S : Store} (h : w ∈ noN) : p_law_refused_right_1b (fns T 58) (fE i (some w) b c) S = .nx (fE i (some w) b c) S := by
  obtain ⟨h1, h2⟩ := noN_ok h S
  have e1 : (mComp (miRng rng1 (maCons (mC (.int 3)) (maNil))) [4] (gVar 4) (mtYes) (mCall (fns T 58) 48 (maCons (mVar 4) (maCons (mVar 1) (maCons (mC .non) (maNil)))))) (fE i (some w) b c) S = .ok (.lst [numW w, numW w, numW w]) S := by
    have hit : (miRng rng1 (maCons (mC (.int 3)) (maNil))) (fE i (some w) b c) S = .ok ((List.range 3).map nW) S := rfl
    exact comp_gen (u := nW) (v := fun _ => numW w) (l := List.range 3) hit (fun k hk => ⟨[some (.ref i), some w, b, c, some (nW k)], rfl, rfl, mCall_ok (S1 := S) (maCons_ok (mVar_ok rfl) (maCons_ok (mVar_ok rfl) (maCons_ok mC_ok maNil_ok))) (h1 k (List.mem_range.mp hk))⟩) (by show 3 ≤ bigLine; decide)
  have e2 : (mBin opMul (mLst (maCons (mLst (maCons (mC (.str [110, 117, 109, 98, 101, 114])) (maCons (mVar 1) (maNil)))) (maNil))) (mC (.int 3))) (fE i (some w) b c) S = .ok (.lst [numW w, numW w, numW w]) S := rfl
  have e3 := mCall_ok (S1 := S) (maCons_ok e1 (maCons_ok e2 maNil_ok)) h2
  exact sIf_n (mTNot_ok (mTru_ok e3 rfl))
theorem num_loop {i : Nat} {b c : Option W} {S : Store} : ∀ (l : List W) (a : Option W), (∀ w ∈ l, w ∈ noN) → ∃ a', forL (gVar 1) (p_law_refused_right_1b (fns T 58)) l (fE i a b c) S = .nx (fE i a' b c) S
  | [], a, _ => ⟨a, rfl⟩
  | w :: r, a, h => by
    obtain ⟨a', e⟩ := num_loop (i := i) (b := b) (c := c) (S := S) r (some w) fun x hx => h x (List.mem_cons_of_mem _ hx)
    refine ⟨a', ?_⟩
    rw [forL_nx (η1 := fE i (some w) b c) (S1 := S) rfl (num_body (h w (List.mem_cons_self ..)))]
    exact e
theorem siz_body {i n : Nat} {a : Option W} {w : W} {S : Store} (hn : n ∈ ([1, 2, 3, 4] : List Nat)) (h : w ∈ noS n) : p_law_refused_right_3b (fns T 58) (fE i a (some (nW n)) (some w)) S = .nx (fE i a (some (nW n)) (some w)) S := by
  obtain ⟨h1, h2⟩ := noS_ok hn h S
  have e0 : (maCons (mC (.int 0)) (maCons (mVar 2) (maCons (mVar 3) (maNil)))) (fE i a (some (nW n)) (some w)) S = .ok [.int 0, .int (n : Nat), w] S := rfl
  have e1 := mCall_ok e0 h1
  have e2 : (mLst (maCons (mC (.str [115, 105, 122, 101])) (maCons (mVar 3) (maNil)))) (fE i a (some (nW n)) (some w)) S = .ok (sizW w) S := rfl
  have e3 := mCall_ok (S1 := S) (maCons_ok e1 (maCons_ok e2 maNil_ok)) h2
  exact sIf_n (mTNot_ok (mTru_ok e3 rfl))
theorem siz_loop {i n : Nat} {a : Option W} {S : Store} (hn : n ∈ ([1, 2, 3, 4] : List Nat)) : ∀ (l : List W) (c : Option W), (∀ w ∈ l, w ∈ noS n) → ∃ c', forL (gVar 3) (p_law_refused_right_3b (fns T 58)) l (fE i a (some (nW n)) c) S = .nx (fE i a (some (nW n)) c') S
  | [], c, _ => ⟨c, rfl⟩
  | w :: r, c, h => by
    obtain ⟨c', e⟩ := siz_loop (i := i) (a := a) (S := S) hn r (some w) fun x hx => h x (List.mem_cons_of_mem _ hx)
    refine ⟨c', ?_⟩
    rw [forL_nx (η1 := fE i a (some (nW n)) (some w)) (S1 := S) rfl (siz_body hn (h w (List.mem_cons_self ..)))]
    exact e
theorem refused_ok {i : Nat} {S : Store} (hw : Well S i) : ∃ S', fns T 59 49 [.ref i] S = .ok (.bl true) S' := by
  obtain ⟨k, hk, S1, ec1, w1, l1⟩ := pick_l (d := 56) (i := i) (ws := [.lst [], .dct [.bl false] []]) (S := S) hw (by decide) (by decide) rfl
  obtain ⟨x, hx, hxm⟩ : ∃ x, x = ([.lst [], .dct [.bl false] []] : List W)[k] ∧ x ∈ noN := by
    refine ⟨_, rfl, ?_⟩
    match k, hk with
    | 0, _ => exact List.mem_of_getElem? (i := 8) rfl
    | 1, _ => exact List.mem_of_getElem? (i := 9) rfl
  have ec1 : fns T 58 36 [.ref i, .lst [.lst [], .dct [.bl false] []]] S = .ok x S1 := by rw [hx]; exact ec1
  obtain ⟨v, v0, v1, S2, ec2, w2, l2, o2⟩ := take_call (T := T) (d := 57) (k := 35) (S := S1) (i := i) (n := 4) rfl w1 (by decide) (by decide)
  have ec2 : fns T 58 35 [.ref i, .int 4] S1 = .ok (.int v) S2 := ec2
  obtain ⟨n, hn⟩ : ∃ n : Nat, 1 + v = (n : Int) := ⟨(1 + v).toNat, by omega⟩
  have hn4 : n ∈ ([1, 2, 3, 4] : List Nat) := by
    have : n = 1 ∨ n = 2 ∨ n = 3 ∨ n = 4 := by omega
    rcases this with z | z | z | z <;> rw [z] <;> decide
  obtain ⟨xs, hd, hl⟩ := deck_len hn4
  obtain ⟨a1, lp1⟩ := num_loop (i := i) (b := none) (c := none) (S := S1) [.int 0, .int 5, .int (-1), .bl true, .non, .str [50], .tup [.int 2], .int 100000000000000000000, x] none (by
    intro w hw
    rcases List.mem_append.mp (show w ∈ (noN.take 8) ++ [x] from hw) with z | z
    · exact List.mem_of_mem_take z
    · rw [List.mem_singleton.mp z]
      exact hxm)
  obtain ⟨c1, lp3⟩ := siz_loop (i := i) (a := a1) (S := S2) hn4 (noS n) none fun w h => h
  refine ⟨S2.take S.length, ?_⟩
  refine (nf_call (η := fE i none none none) (np := 1) (nv := 5) (keep := false) (b := b_law_refused_right) rfl rfl rfl).trans ?_
  have eb : b_law_refused_right (fns T 58) (fE i none none none) S = .ret (.bl true) S2 := by
    unfold b_law_refused_right
    have g1 : p_law_refused_right_1 (fns T 58) (fE i none none none) S = .nx (fE i a1 none none) S1 := by
      unfold p_law_refused_right_1
      have a2 : (maCons (mVar 0) (maCons (mLst (maCons (mLst (maNil)) (maCons (mDct0) (maNil)))) (maNil))) (fE i none none none) S = .ok [.ref i, .lst [.lst [], .dct [.bl false] []]] S := rfl
      have a3 := mCall_ok a2 ec1
      have a4 := mLst_ok (maCons_ok (f := mC (.int 0)) (η := fE i none none none) (S := S) (S1 := S) rfl (maCons_ok (f := mC (.int 5)) (S1 := S) rfl (maCons_ok (f := mUn opNeg (mC (.int 1))) (S1 := S) rfl (maCons_ok (f := mC (.bl true)) (S1 := S) rfl (maCons_ok (f := mC .non) (S1 := S) rfl (maCons_ok (f := mC (.str [50])) (S1 := S) rfl (maCons_ok (f := mTup (maCons (mC (.int 2)) (maNil))) (S1 := S) rfl (maCons_ok (f := mBin opPow (mC (.int 10)) (mC (.int 20))) (S1 := S) rfl (maCons_ok a3 maNil_ok))))))))) (by show 9 ≤ bigLine; decide)
      have hit : (miSeq (mLst (maCons (mC (.int 0)) (maCons (mC (.int 5)) (maCons (mUn opNeg (mC (.int 1))) (maCons (mC (.bl true)) (maCons (mC .non) (maCons (mC (.str [50])) (maCons (mTup (maCons (mC (.int 2)) (maNil))) (maCons (mBin opPow (mC (.int 10)) (mC (.int 20))) (maCons (mCall (fns T 58) 36 (maCons (mVar 0) (maCons (mLst (maCons (mLst (maNil)) (maCons (mDct0) (maNil)))) (maNil)))) (maNil)))))))))))) (fE i none none none) S = .ok [.int 0, .int 5, .int (-1), .bl true, .non, .str [50], .tup [.int 2], .int 100000000000000000000, x] S1 := by
        unfold miSeq
        rw [a4]
        rfl
      rw [sFor_ok hit]
      exact lp1
    refine (sSeq_nx g1).trans ?_
    have g2 : sSet 2 (mBin opAdd (mC (.int 1)) (mCall (fns T 58) 35 (maCons (mVar 0) (maCons (mC (.int 4)) (maNil))))) (fE i a1 none none) S1 = .nx (fE i a1 (some (nW n)) none) S2 := by
      have a2 : (maCons (mVar 0) (maCons (mC (.int 4)) (maNil))) (fE i a1 none none) S1 = .ok [.ref i, .int 4] S1 := rfl
      exact (sSet_ok (mBin_ok (f := mC (.int 1)) (x := .int 1) (S1 := S1) rfl (mCall_ok a2 ec2) (show opAdd (.int 1) (.int v) S2 = some (nW n) by show some (W.int (1 + v)) = _; rw [hn] <;> rfl))).trans rfl
    refine (sSeq_nx g2).trans ?_
    have g3 : p_law_refused_right_3 (fns T 58) (fE i a1 (some (nW n)) none) S2 = .nx (fE i a1 (some (nW n)) c1) S2 := by
      unfold p_law_refused_right_3
      have a2 : (maCons (mVar 2) (maNil)) (fE i a1 (some (nW n)) none) S2 = .ok [.int (n : Nat)] S2 := rfl
      have a3 := mCall_ok a2 (hd S2)
      have a4 : (mBin opAdd (mBi baLen (maCons (mCall (fns T 58) 40 (maCons (mVar 2) (maNil))) (maNil))) (mC (.int 1))) (fE i a1 (some (nW n)) none) S2 = .ok (.int ((3 ^ n + 1 : Nat) : Int)) S2 := by
        refine mBin_ok (S1 := S2) (x := nW (3 ^ n)) (mBi1_ok a3 ?_) mC_ok rfl
        show some (W.int (xs.length : Int)) = _
        rw [hl] <;> rfl
      have a5 := mLst_ok (maCons_ok a4 (maCons_ok (f := mUn opNeg (mC (.int 1))) (S1 := S2) rfl (maCons_ok (f := mC (.bl true)) (S1 := S2) rfl (maCons_ok (f := mC .non) (S1 := S2) rfl (maCons_ok (f := mC (.str [49])) (S1 := S2) rfl (maCons_ok (f := mTup (maCons (mC (.int 1)) (maNil))) (S1 := S2) rfl (maCons_ok (f := mBin opPow (mC (.int 10)) (mC (.int 20))) (S1 := S2) rfl maNil_ok))))))) (by show 7 ≤ bigLine; decide)
      have hit : (miSeq (mLst (maCons (mBin opAdd (mBi baLen (maCons (mCall (fns T 58) 40 (maCons (mVar 2) (maNil))) (maNil))) (mC (.int 1))) (maCons (mUn opNeg (mC (.int 1))) (maCons (mC (.bl true)) (maCons (mC .non) (maCons (mC (.str [49])) (maCons (mTup (maCons (mC (.int 1)) (maNil))) (maCons (mBin opPow (mC (.int 10)) (mC (.int 20))) (maNil)))))))))) (fE i a1 (some (nW n)) none) S2 = .ok (noS n) S2 := by
        unfold miSeq
        rw [a5]
        rfl
      rw [sFor_ok hit]
      exact lp3
    refine (sSeq_nx g3).trans ?_
    have g4 : (mComp (miSeq (mLst (maCons (mC (.int 0)) (maCons (mC (.int 20)) (maCons (mC (.int 81)) (maNil)))))) [3] (gVar 3) (mtYes) (mCall (fns T 58) 48 (maCons (mC (.int 0)) (maCons (mC (.int 4)) (maCons (mVar 3) (maNil)))))) (fE i a1 (some (nW n)) c1) S2 = .ok (.lst [manW, manW, manW]) S2 :=
      comp_gen (u := W.int) (v := fun _ => manW) (l := [0, 20, 81]) rfl (fun s hs => ⟨[some (.ref i), a1, some (nW n), some (.int s), none], rfl, rfl, mCall_ok (S1 := S2) (maCons_ok mC_ok (maCons_ok mC_ok (maCons_ok (mVar_ok rfl) maNil_ok))) (many_ok hs S2)⟩) (by show 3 ≤ bigLine; decide)
    have g5 : (mBin opMul (mLst (maCons (mLst (maCons (mC (.str [109, 97, 110, 121])) (maCons (mC (.int 4)) (maNil)))) (maNil))) (mC (.int 3))) (fE i a1 (some (nW n)) c1) S2 = .ok (.lst [manW, manW, manW]) S2 := rfl
    exact sRet_ok (mCall_ok (S1 := S2) (maCons_ok g4 (maCons_ok g5 maNil_ok)) (many2 S2))
  rw [eb]
  rfl
abbrev lE (w : W) (a b c d : Option W) : Env := [some w, a, b, c, d, none, none]
theorem many_body {w : W} {a b c : Option W} {m : Nat} {S : Store} (h : m ∈ ([1, 2] : List Nat)) : p_law_5b (fns T 59) (lE w a b c (some (nW m))) S = .nx (lE w a (some (.lst (Lc m))) c (some (nW m))) S := by
  unfold p_law_5b
  have e0 : (maCons (mVar 4) (maNil)) (lE w a b c (some (nW m))) S = .ok [.int (m : Nat)] S := rfl
  refine (sSeq_nx (η1 := lE w a (some (.lst (Lc m))) c (some (nW m))) (S1 := S) ((sSet_ok (mCall_ok e0 (cnt h S))).trans rfl)).trans ?_
  have hlen : (Lc m).length < 1000 := by
    rcases List.mem_cons.mp h with z | z
    · rw [z]; decide
    · rw [List.mem_singleton.mp z]; decide
  have hit : (miRng rng1 (maCons (mBi baLen (maCons (mVar 2) (maNil))) (maNil))) (lE w a (some (.lst (Lc m))) c (some (nW m))) S = .ok ((List.range (Lc m).length).map nW) S := by
    rw [← rangeW_nat]
    exact miRng_ok (ws := [.int ((Lc m).length : Int)]) rfl (rng1_nat (by omega))
  have ec := comp_flt (u := nW) (v := nW) (P := fun _ => false) (own := [5]) (g := gVar 5) (t := mTNot (mTru (mCall (fns T 59) 46 (maCons (mVar 4) (maCons (mVar 5) (maCons (mBin opIx (mVar 2) (mVar 5)) (maNil))))))) (e := mVar 5) hit (fun s hs => by
    have hs := List.mem_range.mp hs
    refine ⟨[some w, a, some (.lst (Lc m)), c, some (nW m), some (nW s), none], rfl, ?_, fun z => by cases z⟩
    have ix : (mBin opIx (mVar 2) (mVar 5)) [some w, a, some (.lst (Lc m)), c, some (nW m), some (nW s), none] S = .ok ((Lc m).getD s .non) S := by
      refine mBin_ok (S1 := S) (x := .lst (Lc m)) (y := .int (s : Int)) (mVar_ok rfl) (mVar_ok rfl) ?_
      show atW (Lc m) (s : Int) = _
      rw [atW_get hs, List.getD_eq_getElem?_getD, List.getElem?_eq_getElem hs] <;> rfl
    exact mTNot_ok (mTru_ok (mCall_ok (S1 := S) (maCons_ok (mVar_ok rfl) (maCons_ok (mVar_ok rfl) (maCons_ok ix maNil_ok))) (right h hs S)) rfl)) (by rw [List.length_range]; unfold bigLine; omega)
  have e1 : ((List.range (Lc m).length).filter fun _ => false).map nW = [] := by
    rw [List.filter_eq_nil_iff.mpr fun _ _ => by decide] <;> rfl
  rw [e1] at ec
  exact sIf_n (mTCmp_ok (S1 := S) ec (mLst_ok (xs := []) maNil_ok (by show 0 ≤ bigLine; decide)) rfl)
theorem law_ok (ns : List Int) (hl : ns.length ≤ 63) : Rt (b_law (fns T 59) (lE (.scr (ns.map .int)) none none none none) []) (.bl true) := by
  unfold b_law
  obtain ⟨p, q, hp, hq, ec⟩ := well_callA (T := T) (d := 58) (k := 34) (t := 0) (S := []) rfl hl (by omega)
  have ec : fns T 59 34 [.scr (ns.map .int), .int 0] [] = .ok (.ref 0) ([] ++ [.lst [.int p, .int q, .int 0]]) := ec
  have hW := Well.new (S := []) (c := 0) hp hq
  obtain ⟨S0, hS0⟩ : ∃ S0, S0 = ([] : Store) ++ [.lst [.int p, .int q, .int 0]] := ⟨_, rfl⟩
  rw [← hS0] at ec hW
  have a0 : (maCons (mVar 0) (maCons (mC (.int 0)) (maNil))) (lE (.scr (ns.map .int)) none none none none) [] = .ok [.scr (ns.map .int), .int 0] [] := rfl
  refine Rt.seq (η1 := lE (.scr (ns.map .int)) (some (.ref 0)) none none none) (S1 := S0) ((sSet_ok (mCall_ok a0 ec)).trans rfl) ?_
  have a1 : (maCons (mC (.int 3)) (maNil)) (lE (.scr (ns.map .int)) (some (.ref 0)) none none none) S0 = .ok [.int 3] S0 := rfl
  refine Rt.seq (η1 := lE (.scr (ns.map .int)) (some (.ref 0)) (some (.lst L3)) none none) (S1 := S0) ((sSet_ok (mCall_ok a1 (cnt3 S0))).trans rfl) ?_
  obtain ⟨v, v0, v1, S1, ec1, w1, l1, o1⟩ := take_call (T := T) (d := 58) (k := 35) (S := S0) (i := 0) (n := 10) rfl hW (by decide) (by decide)
  obtain ⟨u, u0, u1, S2, ec2, w2, l2, o2⟩ := take_call (T := T) (d := 58) (k := 35) (S := S1) (i := 0) (n := 18) rfl w1 (by decide) (by decide)
  obtain ⟨j, hj, S3, ec3, w3, l3⟩ := pick_l (d := 57) (i := 0) (ws := [.int 9, .int 9, .int 8, .int (10 + u)]) (S := S2) w2 (by show 0 < 4; decide) (by show 4 < 1000000; decide) rfl
  obtain ⟨s1, hs1⟩ : ∃ n : Nat, v = (n : Int) := ⟨v.toNat, by omega⟩
  obtain ⟨s2, hs2, h28⟩ : ∃ n : Nat, ([.int 9, .int 9, .int 8, .int (10 + u)] : List W)[j] = nW n ∧ n < 28 := by
    match j, hj with
    | 0, _ => exact ⟨9, rfl, by decide⟩
    | 1, _ => exact ⟨9, rfl, by decide⟩
    | 2, _ => exact ⟨8, rfl, by decide⟩
    | 3, _ => exact ⟨(10 + u).toNat, by show W.int (10 + u) = W.int (((10 + u).toNat : Nat) : Int); rw [show (((10 + u).toNat : Nat) : Int) = 10 + u by omega], by omega⟩
  subst hs1
  have ec1 : fns T 59 35 [.ref 0, .int 10] S0 = .ok (nW s1) S1 := ec1
  have ec2 : fns T 59 35 [.ref 0, .int 18] S1 = .ok (.int u) S2 := ec2
  have ec3 : fns T 59 36 [.ref 0, .lst [.int 9, .int 9, .int 8, .int (10 + u)]] S2 = .ok (nW s2) S3 := by rw [← hs2]; exact ec3
  have g3 : sSet 3 (mLst (maCons (mCall (fns T 59) 35 (maCons (mVar 1) (maCons (mC (.int 10)) (maNil)))) (maCons (mCall (fns T 59) 36 (maCons (mVar 1) (maCons (mLst (maCons (mC (.int 9)) (maCons (mC (.int 9)) (maCons (mC (.int 8)) (maCons (mBin opAdd (mC (.int 10)) (mCall (fns T 59) 35 (maCons (mVar 1) (maCons (mC (.int 18)) (maNil))))) (maNil)))))) (maNil)))) (maNil)))) (lE (.scr (ns.map .int)) (some (.ref 0)) (some (.lst L3)) none none) S0 = .nx (lE (.scr (ns.map .int)) (some (.ref 0)) (some (.lst L3)) (some (.lst ([s1, s2].map nW))) none) S3 := by
    have b1 : (maCons (mVar 1) (maCons (mC (.int 10)) (maNil))) (lE (.scr (ns.map .int)) (some (.ref 0)) (some (.lst L3)) none none) S0 = .ok [.ref 0, .int 10] S0 := rfl
    have b2 : (maCons (mVar 1) (maCons (mC (.int 18)) (maNil))) (lE (.scr (ns.map .int)) (some (.ref 0)) (some (.lst L3)) none none) S1 = .ok [.ref 0, .int 18] S1 := rfl
    have b3 := mBin_ok (o := opAdd) (f := mC (.int 10)) (x := .int 10) (z := .int (10 + u)) (S1 := S1) rfl (mCall_ok b2 ec2) rfl
    have b4 := mLst_ok (maCons_ok (f := mC (.int 9)) (S1 := S1) rfl (maCons_ok (f := mC (.int 9)) (S1 := S1) rfl (maCons_ok (f := mC (.int 8)) (S1 := S1) rfl (maCons_ok b3 maNil_ok)))) (by show 4 ≤ bigLine; decide)
    have b5 := mCall_ok (maCons_ok (f := mVar 1) (x := .ref 0) (S1 := S1) rfl (maCons_ok b4 maNil_ok)) ec3
    exact (sSet_ok (mLst_ok (maCons_ok (mCall_ok b1 ec1) (maCons_ok b5 maNil_ok)) (by show 2 ≤ bigLine; decide))).trans rfl
  refine Rt.seq g3 ?_
  have g4 : (sIf (mTOr (mTNot (mTru (mCall0 (fns T 59) 47))) (mTCmp opNe (mComp (miSeq (mVar 3)) [5] (gVar 5) (mTNot (mTru (mCall (fns T 59) 37 (maCons (mCall (fns T 59) 26 (maCons (mC (.int 3)) (maCons (mVar 5) (maNil)))) (maCons (mBin opIx (mVar 2) (mVar 5)) (maNil)))))) (mVar 5)) (mLst (maNil)))) (sRet (mC (.bl false))) (sNx)) (lE (.scr (ns.map .int)) (some (.ref 0)) (some (.lst L3)) (some (.lst ([s1, s2].map nW))) none) S3 = .nx (lE (.scr (ns.map .int)) (some (.ref 0)) (some (.lst L3)) (some (.lst ([s1, s2].map nW))) none) S3 := by
    have c0 : (mCall0 (fns T 59) 47) (lE (.scr (ns.map .int)) (some (.ref 0)) (some (.lst L3)) (some (.lst ([s1, s2].map nW))) none) S3 = .ok (.bl true) S3 := by
      unfold mCall0
      rw [great S3]
      rfl
    have ec := comp_flt (u := nW) (v := nW) (P := fun _ => false) (l := [s1, s2]) (own := [5]) (g := gVar 5) (it := miSeq (mVar 3)) (η := lE (.scr (ns.map .int)) (some (.ref 0)) (some (.lst L3)) (some (.lst ([s1, s2].map nW))) none) (S := S3) (t := mTNot (mTru (mCall (fns T 59) 37 (maCons (mCall (fns T 59) 26 (maCons (mC (.int 3)) (maCons (mVar 5) (maNil)))) (maCons (mBin opIx (mVar 2) (mVar 5)) (maNil)))))) (e := mVar 5) rfl (fun s hs => by
      have hs : s < 28 := by
        rcases List.mem_cons.mp hs with z | z
        · omega
        · rw [List.mem_singleton.mp z]
          exact h28
      obtain ⟨f1, f2⟩ := size3 hs S3
      refine ⟨[some (.scr (ns.map .int)), some (.ref 0), some (.lst L3), some (.lst ([s1, s2].map nW)), none, some (nW s), none], rfl, ?_, fun z => by cases z⟩
      have hs2 : s < L3.length := hs
      have ix : (mBin opIx (mVar 2) (mVar 5)) [some (.scr (ns.map .int)), some (.ref 0), some (.lst L3), some (.lst ([s1, s2].map nW)), none, some (nW s), none] S3 = .ok (L3.getD s .non) S3 := by
        refine mBin_ok (S1 := S3) (x := .lst L3) (y := .int (s : Int)) (mVar_ok rfl) (mVar_ok rfl) ?_
        show atW L3 (s : Int) = _
        rw [atW_get hs2, List.getD_eq_getElem?_getD, List.getElem?_eq_getElem hs2] <;> rfl
      exact mTNot_ok (mTru_ok (mCall_ok (S1 := S3) (maCons_ok (mCall_ok (S1 := S3) (maCons_ok mC_ok (maCons_ok (mVar_ok rfl) maNil_ok)) f1) (maCons_ok ix maNil_ok)) f2) rfl)) (by show 2 ≤ bigLine; decide)
    have e1 : (([s1, s2] : List Nat).filter fun _ => false).map nW = [] := rfl
    rw [e1] at ec
    exact sIf_n ((mTOr_f (mTNot_ok (mTru_ok c0 rfl))).trans (mTCmp_ok (S1 := S3) ec (mLst_ok (xs := []) maNil_ok (by show 0 ≤ bigLine; decide)) rfl))
  refine Rt.seq g4 ?_
  have g5 : p_law_5 (fns T 59) (lE (.scr (ns.map .int)) (some (.ref 0)) (some (.lst L3)) (some (.lst ([s1, s2].map nW))) none) S3 = .nx (lE (.scr (ns.map .int)) (some (.ref 0)) (some (.lst (Lc 2))) (some (.lst ([s1, s2].map nW))) (some (nW 2))) S3 := by
    unfold p_law_5
    have hit : (miSeq (mLst (maCons (mC (.int 1)) (maCons (mC (.int 2)) (maNil))))) (lE (.scr (ns.map .int)) (some (.ref 0)) (some (.lst L3)) (some (.lst ([s1, s2].map nW))) none) S3 = .ok [nW 1, nW 2] S3 := rfl
    rw [sFor_ok hit, forL_nx (η1 := lE (.scr (ns.map .int)) (some (.ref 0)) (some (.lst L3)) (some (.lst ([s1, s2].map nW))) (some (nW 1))) (S1 := S3) rfl (many_body (by decide)), forL_nx (η1 := lE (.scr (ns.map .int)) (some (.ref 0)) (some (.lst (Lc 1))) (some (.lst ([s1, s2].map nW))) (some (nW 2))) (S1 := S3) rfl (many_body (by decide))]
    rfl
  refine Rt.seq g5 ?_
  obtain ⟨N, hN⟩ : ∃ N : Nat, (if (if (3 : Int) < (ns.map W.int).length then (3 : Int) else (ns.map W.int).length) > 2 then (if (3 : Int) < (ns.map W.int).length then (3 : Int) else (ns.map W.int).length) else 2) = (N : Int) ∧ N ≤ 3 := by
    refine ⟨(if (if (3 : Int) < (ns.map W.int).length then (3 : Int) else (ns.map W.int).length) > 2 then (if (3 : Int) < (ns.map W.int).length then (3 : Int) else (ns.map W.int).length) else 2).toNat, ?_, ?_⟩ <;> (repeat' split) <;> omega
  obtain ⟨hN, hN3⟩ := hN
  have hit : (miRng rng1 (maCons (mBi baMax2 (maCons (mC (.int 2)) (maCons (mBi baMin2 (maCons (mBi baLen (maCons (mVar 0) (maNil))) (maCons (mC (.int 3)) (maNil)))) (maNil)))) (maNil))) (lE (.scr (ns.map .int)) (some (.ref 0)) (some (.lst (Lc 2))) (some (.lst ([s1, s2].map nW))) (some (nW 2))) S3 = .ok ((List.range N).map nW) S3 := by
    rw [← rangeW_nat]
    refine miRng_ok (ws := [.int (N : Int)]) ?_ (rng1_nat (by omega))
    rw [← hN] <;> rfl
  obtain ⟨S4, e4, _⟩ := compL_inv (g := gVar 6) (e := mCall (fns T 59) 49 (maCons (mCall (fns T 59) 34 (maCons (mVar 0) (maCons (mVar 6) (maNil)))) (maNil))) (η := lE (.scr (ns.map .int)) (some (.ref 0)) (some (.lst (Lc 2))) (some (.lst ([s1, s2].map nW))) (some (nW 2))) (u := nW) (w := .bl true) (fun _ => True) (List.range N) [] S3 trivial (fun t ht S _ => by
    have ht := List.mem_range.mp ht
    obtain ⟨p, q, hp, hq, ew⟩ := well_callA (T := T) (d := 58) (k := 34) (t := t) (S := S) rfl hl (by omega)
    obtain ⟨S', er⟩ := refused_ok (Well.new (S := S) (c := 0) hp hq)
    have ew : fns T 59 34 [.scr (ns.map .int), .int (t : Int)] S = .ok (.ref S.length) (S ++ [.lst [.int p, .int q, .int 0]]) := ew
    refine ⟨[some (.scr (ns.map .int)), some (.ref 0), some (.lst (Lc 2)), some (.lst ([s1, s2].map nW)), some (nW 2), none, some (nW t)], S', rfl, ?_, trivial⟩
    have d0 : (maCons (mVar 0) (maCons (mVar 6) (maNil))) [some (.scr (ns.map .int)), some (.ref 0), some (.lst (Lc 2)), some (.lst ([s1, s2].map nW)), some (nW 2), none, some (nW t)] S = .ok [.scr (ns.map .int), .int (t : Int)] S := rfl
    have d1 := maCons_ok (mCall_ok d0 ew) maNil_ok
    exact mCall_ok d1 er) (by rw [List.length_range]; show 0 + N ≤ _; unfold bigLine; omega)
  exact ⟨S4, sRet_ok (mBi1_ok (S1 := S4) (mComp_of hit e4) (all_trues (List.range N)))⟩
theorem main (ns : List Int) (hl : ns.length ≤ 63) : ∃ S, law 60 [.scr (ns.map .int)] [] = .ok (.bl true) S := law_end (d := 59) (nv := 7) (b := b_law) rfl (law_ok ns hl)
end Lw

open PySem PySem.W PySem.Calls PyProof.Rows
theorem PySem.Challenge.cw_threealike_k07_whole_free_hands_counted_holds : PySem.Challenge.rw_threealike_k07_whole_free_hands_counted.Holds := by
  w_on; o_law
  refine HandSHeadRun.head_imp (r := OpenLaw.row PySem.Challenge.rw_threealike_k07_whole_free_hands_counted) (q := view (OpenLaw.row PySem.Challenge.rw_threealike_k07_whole_free_hands_counted).prog [0, 1, 73]) (H := Lw.hk) (ob := Lw.ob) (M := 60000) (loose := Lw.loose) (d := HandSHeadRun.topDef (OpenLaw.row PySem.Challenge.rw_threealike_k07_whole_free_hands_counted).prog 73) (kwd := []) Lw.ob_eq
    Lw.run (by kernel_rfl) (by kernel_rfl) (by kernel_rfl) (by rfl) (by first | assumption | decide +kernel) (by decide +kernel) ⟨rfl, rfl, rfl, rfl, rfl, by decide +kernel⟩ ?hw ?hc
  case hw => exact ⟨[.list []], by decide +kernel, by decide +kernel⟩
  case hc =>
    refine L2.walk_ofE (l := PySem.Challenge.rw_threealike_k07_whole_free_hands_counted) (n := 63) (k := 60 + 2) (x := "script") (CX := L2.CX0) rfl (by decide) (by kernel_rfl) ⟨rfl, by decide, by decide⟩ ?F (fun _ _ _ _ z => z)
    intro w mg fa h Y G hmg0
    obtain ⟨K, KX, c, e⟩ := Y
    have hmg : mg ("law" : PySem.Str) = some (.ref fa) := by
      have e : (HandSHeadRun.topDef (OpenLaw.row PySem.Challenge.rw_threealike_k07_whole_free_hands_counted).prog 73).name = ("law" : PySem.Str) := by kernel_rfl
      rw [← e]
      exact hmg0
    have B := Lw.facts KX G c e
    obtain ⟨fd, F⟩ := c.def_ 50 (d := ⟨(Lw.r_law.x, none), Lw.r_law.x, Lw.r_law.x, L2.defArgs Lw.r_law.st, L2.defBody Lw.r_law.st, L2.defScope Lw.r_law.st, [], []⟩) rfl
    have ea := hmg.symm.trans (He.glo_ok KX G (c.fact 50 (f := .glo "law") rfl))
    cases ea
    have b := L2.FunD.bindsA (ps := ["script"]) F fun _ _ _ _ _ _ us hl => match us, hl with | [_], _ => rfl
    refine ⟨K, fd, fun vs H Q _ => Mp.spF K (Lw.gs K) 1 (Lw.law 60) vs H Q fun _ _ _ => False, KX, fun s v => b s [v] rfl, fun H a ns hl ho hs => Mp.law_sp ho hs (Lw.main ns hl), fun base hb hg => ?_⟩
    obtain ⟨fd', ft⟩ := Lw.all (P := (PySem.Challenge.rw_threealike_k07_whole_free_hands_counted).prog) (w := w) (base := base) B (Lw.base0 KX G c) 60 50 Lw.r_law rfl
    have ok := Mp.noexc_fn ft.ok
    have el := Mp.same_fd F ft.F
    subst el
    exact ok
#print axioms PySem.Challenge.cw_threealike_k07_whole_free_hands_counted_holds
