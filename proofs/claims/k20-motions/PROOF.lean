import PyProof.Rows.All
import Wide.All
import OpenK.AllK
import Wide.FinOn
import HandS.ForMost
import HandS.ForExc
import HandS.Defaults
import HandS.CallSlots
import HandS.Flow
import HandS.Gcd
import HandS.Zip
import HandS.Walk
import HandS.Deep
import HandS.IsInst
import HandS.Wide
import HandS.WideBits
import HandS.TupAny
import HandS.TupMul
import HandS.Head2
import HandS.HeadEnd
import HandS.HeadHook2
import HandS.Codes
import HandS.Head3
import HandS.Replace
import PyProof.Rows.SortShellAny
import HandS.SortInts
import HandS.Style
import PyProof.Draws
import HandS.TupLe
import PyProof.CallType
import PyProof.RangeIter
import HandS.DictComp
import HandS.SetFor
import HandS.Dict
import KE.KTupSum
import HandS.Star
import HandS.Conv
import HandS.Iter
import HandS.Small
import HandS.SetKeys
import HandS.TupSets
import KE.GoesMore
import PyProof.ListStr
import HandS.ExcInit
import HandS.ExcField
import HandS.ExcIs
import KE.KExcIs
import PySem.Challenge.RW_threealike_k20_whole_motions_of_anything
set_option linter.all false
/-! Mp: a small pure reading of the programs: values, stores, what expressions and statements do. -/
namespace Mp
/-- values: lst a list that nobody changes, ref a list (dict, instance) of the store, scr the script -/
inductive W where
  | non | bl (b : Bool) | int (i : Int) | str (s : List Nat) | tup (xs : List W) | lst (xs : List W) | scr (xs : List W)
  | dct (ks vs : List W) | ref (i : Nat) | fn (f : Nat) | cls (c : Nat) | exc (c : Nat) (x : W)
  deriving Inhabited
mutual
def W.pure : W → Bool
  | .ref _ => false
  | .tup xs => pures xs
  | .lst xs => pures xs
  | .scr xs => pures xs
  | .dct ks vs => pures ks && pures vs
  | .exc _ _ => false
  | .non => true
  | .bl _ => true
  | .int _ => true
  | .str _ => true
  | .fn _ => true
  | .cls _ => true
def pures : List W → Bool
  | [] => true
  | x :: xs => x.pure && pures xs
end
/-! data: of depth at most k, of None, truths, ints, texts, tuples, lists -/
mutual
def okD : W → Nat → Bool
  | .non, _ => true
  | .bl _, _ => true
  | .int _, _ => true
  | .str _, _ => true
  | .tup xs, k => decide (0 < k) && okDs xs (k - 1)
  | .lst xs, k => decide (0 < k) && okDs xs (k - 1)
  | _, _ => false
def okDs : List W → Nat → Bool
  | [], _ => true
  | x :: xs, k => okD x k && okDs xs k
end
mutual
def eqW : W → W → Bool
  | .non, .non => true
  | .bl a, .bl b => a == b
  | .bl a, .int j => (if a then 1 else 0) == j
  | .int i, .bl b => i == (if b then 1 else 0)
  | .int i, .int j => i == j
  | .str x, .str y => x == y
  | .lst xs, .lst ys => eqWs xs ys
  | .tup xs, .tup ys => eqWs xs ys
  | _, _ => false
def eqWs : List W → List W → Bool
  | [], [] => true
  | x :: xs, y :: ys => eqW x y && eqWs xs ys
  | _, _ => false
end
inductive Cell where
  | lst (xs : List W) | dct (ks vs : List W) | ins (c : Nat) (fs : List (Nat × W))
  deriving Inhabited
abbrev Store := List Cell
inductive R (α : Type) where
  | ok (a : α) (S : Store)
  | exc (c : Nat) (x : W) (S : Store)
  | stuck
def R.bind {α β : Type} : R α → (α → Store → R β) → R β
  | .ok a S, k => k a S
  | .exc c x S, _ => .exc c x S
  | .stuck, _ => .stuck
abbrev Env := List (Option W)
abbrev ME := Env → Store → R W
abbrev MT := Env → Store → R Bool
abbrev MA := Env → Store → R (List W)
def bigLine : Nat := 16777216
/-! expressions -/
def mVar (i : Nat) : ME := fun η S => match η[i]? with
  | some (some w) => .ok w S
  | _ => .stuck
def mC (w : W) : ME := fun _ S => .ok w S
def mStuck : ME := fun _ _ => .stuck
def rOpt {α : Type} (o : Option α) (S : Store) : R α := match o with
  | some w => .ok w S
  | none => .stuck
abbrev O2 := W → W → Store → Option W
abbrev OA := List W → Store → Option W
def mBin (o : O2) (f g : ME) : ME := fun η S => (f η S).bind fun x S1 => (g η S1).bind fun y S2 => rOpt (o x y S2) S2
def mUn (o : W → Store → Option W) (f : ME) : ME := fun η S => (f η S).bind fun x S1 => rOpt (o x S1) S1
def truthy (S : Store) : W → Option Bool
  | .non => some false
  | .bl b => some b
  | .int i => some (i != 0)
  | .str s => some (!s.isEmpty)
  | .tup xs => some (!xs.isEmpty)
  | .lst xs => some (!xs.isEmpty)
  | .ref i => (match S[i]? with
    | some (.lst xs) => some (!xs.isEmpty)
    | _ => none)
  | _ => none
def rTruth (x : W) (S : Store) : R Bool := rOpt (truthy S x) S
/-- a value as a test -/
def mTru (f : ME) : MT := fun η S => (f η S).bind rTruth
def mTNot (f : MT) : MT := fun η S => (f η S).bind fun b S1 => .ok (!b) S1
def mTAnd (f g : MT) : MT := fun η S => (f η S).bind fun b S1 => if b = true then g η S1 else .ok false S1
def mTOr (f g : MT) : MT := fun η S => (f η S).bind fun b S1 => if b = true then .ok true S1 else g η S1
def mNot (f : ME) : ME := fun η S => (f η S).bind fun x S1 => (rTruth x S1).bind fun b S2 => .ok (.bl (!b)) S2
def mAnd (f g : ME) : ME := fun η S => (f η S).bind fun x S1 => (rTruth x S1).bind fun b S2 => if b = true then g η S2 else .ok x S2
def mOr (f g : ME) : ME := fun η S => (f η S).bind fun x S1 => (rTruth x S1).bind fun b S2 => if b = true then .ok x S2 else g η S2
def mIf (c : MT) (f g : ME) : ME := fun η S => (c η S).bind fun b S1 => if b = true then f η S1 else g η S1
def maNil : MA := fun _ S => .ok [] S
def maCons (f : ME) (g : MA) : MA := fun η S => (f η S).bind fun x S1 => (g η S1).bind fun xs S2 => .ok (x :: xs) S2
def sized (n : Nat) (r : R α) : R α := if n ≤ bigLine then r else .stuck
def mTup (g : MA) : ME := fun η S => (g η S).bind fun xs S1 => sized xs.length (.ok (.tup xs) S1)
def mLst (g : MA) : ME := fun η S => (g η S).bind fun xs S1 => sized xs.length (.ok (.lst xs) S1)
/-- a new list of the store -/
def mLstM (g : MA) : ME := fun η S => (g η S).bind fun xs S1 => sized xs.length (.ok (.ref S1.length) (S1 ++ [.lst xs]))
/-- a call of a built-in -/
def mBi (o : OA) (g : MA) : ME := fun η S => (g η S).bind fun xs S1 => rOpt (o xs S1) S1
/-- a chain a < b < c -/
def mChain (o o' : O2) (f g h : ME) : ME := fun η S => (f η S).bind fun x S1 => (g η S1).bind fun y S2 => match o x y S2 with
  | some (.bl true) => (h η S2).bind fun y' S4 => rOpt (o' y y' S4) S4
  | some (.bl false) => .ok (.bl false) S2
  | _ => .stuck
/-! operators -/
/-- a list, of the store or not -/
def lstOf (S : Store) : W → Option (List W)
  | .lst xs => some xs
  | .ref i => (match S[i]? with
    | some (.lst xs) => some xs
    | _ => none)
  | _ => none
def opAdd : O2 := fun x y S => match x, y with
  | .int i, .int j => some (.int (i + j))
  | .str a, .str b => if a.length + b.length ≤ bigLine then some (.str (a ++ b)) else none
  | .tup a, .tup b => if a.length + b.length ≤ bigLine then some (.tup (a ++ b)) else none
  | x, y => (match lstOf S x, lstOf S y with
    | some a, some b => if a.length + b.length ≤ bigLine then some (.lst (a ++ b)) else none
    | _, _ => none)
def opSub : O2 := fun x y _ => match x, y with
  | .int i, .int j => some (.int (i - j))
  | _, _ => none
def mulOk (i j : Int) : Bool := decide (i.natAbs < 18446744073709551616) || decide (j.natAbs < 18446744073709551616)
def opMul : O2 := fun x y S => match x, y with
  | .int i, .int j => if mulOk i j = true then some (.int (i * j)) else none
  | x, .int k => (match lstOf S x with
    | some xs => if -9223372036854775808 ≤ k ∧ k < 9223372036854775808 ∧ xs.length * k.toNat ≤ bigLine then some (.lst (List.replicate k.toNat xs).flatten) else none
    | none => none)
  | _, _ => none
def opDiv : O2 := fun x y _ => match x, y with
  | .int i, .int j => if 0 < j ∧ j.natAbs.log2 < 9000 then some (.int (i / j)) else none
  | _, _ => none
def opMod : O2 := fun x y _ => match x, y with
  | .int i, .int j => if 0 < j then some (.int (i % j)) else none
  | _, _ => none
def opPow : O2 := fun x y _ => match x, y with
  | .int i, .int j => if 0 ≤ j ∧ j ≤ 1000000 ∧ i.natAbs < 18446744073709551616 then some (.int (i ^ j.toNat)) else none
  | _, _ => none
def opNeg : W → Store → Option W := fun x _ => match x with
  | .int i => some (.int (-i))
  | _ => none
/-- a list of the store as a plain one -/
def plainL (S : Store) (w : W) : W := match lstOf S w with
  | some xs => .lst xs
  | none => w
def opEq : O2 := fun x y S => if okD (plainL S x) 30 = true ∧ okD (plainL S y) 30 = true then some (.bl (eqW (plainL S x) (plainL S y))) else none
def opNe : O2 := fun x y S => if okD (plainL S x) 30 = true ∧ okD (plainL S y) 30 = true then some (.bl (!eqW (plainL S x) (plainL S y))) else none
def opCmp (p : Int → Int → Bool) (q : List Nat → List Nat → Bool) : O2 := fun x y _ => match x, y with
  | .int i, .int j => some (.bl (p i j))
  | .str a, .str b => some (.bl (q a b))
  | _, _ => none
def opLt : O2 := opCmp (fun i j => decide (i < j)) fun a b => decide (a < b)
def opLe : O2 := opCmp (fun i j => decide (i ≤ j)) fun a b => !decide (b < a)
def opGt : O2 := opCmp (fun i j => decide (j < i)) fun a b => decide (b < a)
def opGe : O2 := opCmp (fun i j => decide (j ≤ i)) fun a b => !decide (a < b)
def flat : W → Bool
  | .non => true
  | .bl _ => true
  | .int _ => true
  | .str _ => true
  | _ => false
def inW (x : W) (ys : List W) : Bool := ys.any fun y => eqW y x
def seqOf (S : Store) : W → Option (List W)
  | .tup xs => some xs
  | w => lstOf S w
def opIn : O2 := fun x y S => match x, y with
  | .str [c], .str z => some (.bl (decide (c ∈ z)))
  | x, y => (match seqOf S y with
    | some ys => if flat x = true ∧ ys.all flat = true then some (.bl (inW x ys)) else
        (match lstOf S y with
        | some ys => if okD x 30 = true ∧ okDs ys 29 = true then some (.bl (inW x ys)) else none
        | none => none)
    | none => none)
def opNotIn : O2 := fun x y S => match opIn x y S with
  | some (.bl b) => some (.bl (!b))
  | _ => none
def opIsN : W → Store → Option W := fun x _ => match x with
  | .non => some (.bl true)
  | _ => some (.bl false)
def opNotN : W → Store → Option W := fun x _ => match x with
  | .non => some (.bl false)
  | _ => some (.bl true)
/-- kinds: 0 None, 1 bool, 2 int, 3 str, 4 tuple, 5 list, 6 dict -/
def kindOf (S : Store) : W → Option Nat
  | .non => some 0
  | .bl _ => some 1
  | .int _ => some 2
  | .str _ => some 3
  | .tup _ => some 4
  | .lst _ => some 5
  | .scr _ => some 5
  | .dct _ _ => some 6
  | .ref i => (match S[i]? with
    | some (.lst _) => some 5
    | some (.dct _ _) => some 6
    | _ => none)
  | _ => none
def isKind (k c : Nat) : Bool := k == c || (k == 1 && c == 2)
def opIsi (c : Nat) : W → Store → Option W := fun x S => (kindOf S x).map fun k => .bl (isKind k c)
/-! subscripts -/
def ixW (n : Nat) (i : Int) : Option Nat := if 0 ≤ i then (if i < n then some i.toNat else none) else if -(n : Int) ≤ i then some (i + n).toNat else none
def atW (xs : List W) (i : Int) : Option W := (ixW xs.length i).bind fun j => xs[j]?
def opIx : O2 := fun x y S => match x, y with
  | .str z, .int i => (ixW z.length i).bind fun j => z[j]?.map fun c => .str [c]
  | .tup xs, .int i => atW xs i
  | .scr xs, .int i => atW xs i
  | x, .int i => (lstOf S x).bind fun xs => atW xs i
  | _, _ => none
def sIxW (n d : Nat) : Option Int → Nat
  | none => d
  | some v => if v < 0 then (v + (n : Int)).toNat else min v.toNat n
def cutW {α : Type} (xs : List α) (lo hi : Option Int) : List α := (xs.drop (sIxW xs.length 0 lo)).take (sIxW xs.length xs.length hi - sIxW xs.length 0 lo)
def opSl (x : W) (lo hi : Option Int) (S : Store) : Option W := match x with
  | .str z => some (.str (cutW z lo hi))
  | .tup xs => some (.tup (cutW xs lo hi))
  | .scr xs => some (.lst (cutW xs lo hi))
  | x => (lstOf S x).map fun xs => .lst (cutW xs lo hi)
/-! built-in functions, by their values -/
def intsOf : List W → Option (List Int)
  | [] => some []
  | .int i :: r => (intsOf r).map (i :: ·)
  | _ => none
def bls : List W → Option (List Bool)
  | [] => some []
  | .bl i :: r => (bls r).map (i :: ·)
  | _ => none
def strsOf : List W → Option (List (List Nat))
  | [] => some []
  | .str i :: r => (strsOf r).map (i :: ·)
  | _ => none
def baLen : OA := fun xs S => match xs with
  | [.str z] => some (.int z.length)
  | [.tup xs] => some (.int xs.length)
  | [.scr xs] => some (.int xs.length)
  | [x] => (lstOf S x).map fun xs => .int xs.length
  | _ => none
def baAbs : OA := fun xs _ => match xs with
  | [.int i] => some (.int (if i < 0 then -i else i))
  | _ => none
def baMax2 : OA := fun xs _ => match xs with
  | [.int i, .int j] => some (.int (if j > i then j else i))
  | _ => none
def baMin2 : OA := fun xs _ => match xs with
  | [.int i, .int j] => some (.int (if j < i then j else i))
  | _ => none
def isDig (s : List Nat) : Bool := s.all fun c => decide (48 ≤ c) && decide (c ≤ 57)
def digW (s : List Nat) : Nat := s.foldl (fun acc c => acc * 10 + (c - 48)) 0
def numF : Nat → Nat → List Nat
  | 0, _ => []
  | f + 1, n => if n < 10 then [48 + n] else numF f (n / 10) ++ [48 + n % 10]
def numW (n : Nat) : List Nat := numF (n + 1) n
def baStr : OA := fun xs _ => match xs with
  | [.int i] => if 0 ≤ i ∧ i.natAbs.log2 < 1920 then some (.str (numW i.natAbs)) else none
  | _ => none
def baInt : OA := fun xs _ => match xs with
  | [.int i] => some (.int i)
  | [.bl b] => some (.int (if b then 1 else 0))
  | [.str s] => if isDig s = true ∧ s ≠ [] ∧ s.length ≤ 640 then some (.int (digW s)) else none
  | _ => none
def baDivmod : OA := fun xs _ => match xs with
  | [.int i, .int j] => if 0 < j ∧ j.natAbs.log2 < 9000 then some (.tup [.int (i / j), .int (i % j)]) else none
  | _ => none
def baGcd : OA := fun xs _ => match xs with
  | [.int a, .int b] => some (.int (Nat.gcd a.natAbs b.natAbs))
  | _ => none
def falling (n : Int) (k : Nat) : Int := (List.range k).foldl (fun (p : Int) (i : Nat) => p * (n - (i : Int))) 1
def combW (a b : Int) : Int := if b > a then 0 else falling a (min b (a - b)).toNat / falling (min b (a - b)) (min b (a - b)).toNat
def baComb : OA := fun xs _ => match xs with
  | [.int a, .int b] => if 0 ≤ a ∧ 0 ≤ b ∧ a ≤ 18000 then some (.int (combW a b)) else none
  | _ => none
def baSum : OA := fun xs S => match xs with
  | [.scr xs] => (intsOf xs).map fun ns => .int ns.sum
  | [x] => (lstOf S x).bind fun xs => (intsOf xs).map fun ns => .int ns.sum
  | _ => none
def baAll : OA := fun xs S => match xs with
  | [x] => (lstOf S x).bind fun xs => (bls xs).map fun bs => .bl (bs.all id)
  | _ => none
def baAny : OA := fun xs S => match xs with
  | [x] => (lstOf S x).bind fun xs => (bls xs).map fun bs => .bl (bs.any id)
  | _ => none
def baTuple : OA := fun xs S => match xs with
  | [.tup xs] => some (.tup xs)
  | [x] => (lstOf S x).map fun xs => .tup xs
  | _ => none
def baList : OA := fun xs S => match xs with
  | [.tup xs] => some (.lst xs)
  | [x] => (lstOf S x).map fun xs => .lst xs
  | _ => none
def joinW (sep : List Nat) : List (List Nat) → List Nat
  | [] => []
  | [x] => x
  | x :: r => x ++ sep ++ joinW sep r
def opJoin : O2 := fun x y S => match x with
  | .str a => (seqOf S y).bind fun ys => (strsOf ys).bind fun zs => if (zs.map (·.length)).sum + zs.length * a.length ≤ bigLine then some (.str (joinW a zs)) else none
  | _ => none
abbrev MO := Env → Store → R (Option Int)
def moNone : MO := fun _ S => .ok none S
def moSome (f : ME) : MO := fun η S => (f η S).bind fun x S1 => match x with
  | .int i => .ok (some i) S1
  | _ => .stuck
def mSl (f : ME) (lo hi : MO) : ME := fun η S => (f η S).bind fun x S1 => (lo η S1).bind fun l S2 => (hi η S2).bind fun h S3 => rOpt (opSl x l h S3) S3
/-! statements -/
inductive RS where
  | nx (η : Env) (S : Store)
  | bk (η : Env) (S : Store)
  | ct (η : Env) (S : Store)
  | ret (w : W) (S : Store)
  | exc (c : Nat) (x : W) (η : Env) (S : Store)
  | stuck
abbrev MS := Env → Store → RS
def R.toS {α : Type} (η : Env) (r : R α) (k : α → Store → RS) : RS := match r with
  | .ok a S => k a S
  | .exc c x S => .exc c x η S
  | .stuck => .stuck
def RS.next (r : RS) (k : MS) : RS := match r with
  | .nx η S => k η S
  | r => r
def sSeq (f g : MS) : MS := fun η S => (f η S).next g
def sNx : MS := fun η S => .nx η S
def sSet (i : Nat) (f : ME) : MS := fun η S => (f η S).toS η fun w S1 => .nx (η.set i (some w)) S1
def sRet (f : ME) : MS := fun η S => (f η S).toS η fun w S1 => .ret w S1
def sRetN : MS := fun _ S => .ret .non S
def sDrop (f : ME) : MS := fun η S => (f η S).toS η fun _ S1 => .nx η S1
def sIf (c : MT) (f g : MS) : MS := fun η S => (c η S).toS η fun b S1 => if b = true then f η S1 else g η S1
def sStuck : MS := fun _ _ => .stuck
def sBreak : MS := fun η S => .bk η S
def sCont : MS := fun η S => .ct η S
/-! targets -/
abbrev MG := W → Env → Store → Option (Env × Store)
def gVar (i : Nat) : MG := fun w η S => some (η.set i (some w), S)
/-- o[i] = w for a list of the store -/
def setAt (o i w : W) (S : Store) : Option Store := match o, i with
  | .ref r, .int k => (match S[r]? with
    | some (.lst xs) => if 0 ≤ k ∧ k < xs.length then (if w.pure then some (S.set r (.lst (xs.set k.toNat w))) else none)
        else if k < 0 ∧ -(xs.length : Int) ≤ k then (if w.pure then some (S.set r (.lst (xs.set (k + xs.length).toNat w))) else none) else none
    | _ => none)
  | _, _ => none
abbrev MGs := List W → Env → Store → Option (Env × Store)
def gsNil : MGs := fun ws η S => match ws with
  | [] => some (η, S)
  | _ => none
def gsCons (g : MG) (gs : MGs) : MGs := fun ws η S => match ws with
  | w :: r => (g w η S).bind fun (η1, S1) => gs r η1 S1
  | [] => none
def gTupW (gs : MGs) : MG := fun w η S => match w with
  | .tup xs => gs xs η S
  | _ => none
def gIdx (o i : ME) : MG := fun w η S => match o η S with
  | .ok ow S1 => (match i η S1 with
    | .ok iw S2 => (setAt ow iw w S2).map fun S3 => (η, S3)
    | _ => none)
  | _ => none
def optS (o : Option (Env × Store)) : RS := match o with
  | some (η, S) => .nx η S
  | none => .stuck
def sAsg (f : ME) (g : MG) : MS := fun η S => (f η S).toS η fun w S1 => optS (g w η S1)
/-! loops -/
def forL (g : MG) (b : MS) : List W → Env → Store → RS
  | [], η, S => .nx η S
  | x :: r, η, S => match g x η S with
    | none => .stuck
    | some (η1, S1) => (match b η1 S1 with
      | .nx η2 S2 => forL g b r η2 S2
      | .ct η2 S2 => forL g b r η2 S2
      | .bk η2 S2 => .nx η2 S2
      | r => r)
/-- what is walked: its items -/
abbrev MI := Env → Store → R (List W)
def sFor (it : MI) (g : MG) (b : MS) : MS := fun η S => (it η S).toS η fun xs S1 => forL g b xs η S1
def whileL (c : MT) (b : MS) : Nat → Env → Store → RS
  | 0, _, _ => .stuck
  | n + 1, η, S => (c η S).toS η fun t S1 => if t = true then (match b η S1 with
      | .nx η2 S2 => whileL c b n η2 S2
      | .ct η2 S2 => whileL c b n η2 S2
      | .bk η2 S2 => .nx η2 S2
      | r => r) else .nx η S1
def sWhile (n : Nat) (c : MT) (b : MS) : MS := fun η S => whileL c b n η S
/-! comprehensions: names of their own are wiped ahead -/
def wipeE (η : Env) : List Nat → Env
  | [] => η
  | i :: is => (wipeE η is).set i none
def compL (g : MG) (t : MT) (e : ME) (η : Env) : List W → Store → List W → R (List W)
  | [], S, acc => .ok acc S
  | x :: r, S, acc => match g x η S with
    | none => .stuck
    | some (η1, S1) => (t η1 S1).bind fun b S2 => if b = true then (e η1 S2).bind fun w S3 => sized (acc.length + 1) (compL g t e η r S3 (acc ++ [w])) else compL g t e η r S2 acc
def noexc (r : R α) : R α := match r with
  | .exc _ _ _ => .stuck
  | r => r
def mComp (it : MI) (own : List Nat) (g : MG) (t : MT) (e : ME) : ME := fun η S => (it η S).bind fun xs S1 => (noexc (compL g t e (wipeE η own) xs S1 [])).bind fun ws S2 => .ok (.lst ws) S2
def mtYes : MT := fun _ S => .ok true S
/-! calls of the program's own functions -/
abbrev Fns := Nat → List W → Store → R W
def mCall (φ : Fns) (f : Nat) (g : MA) : ME := fun η S => (g η S).bind fun ws S1 => φ f ws S1
/-- keywords: the arguments in the order of the text, then set in the order of the parameters -/
def mCallP (φ : Fns) (f : Nat) (perm : List Nat) (g : MA) : ME := fun η S => (g η S).bind fun ws S1 => φ f (perm.map fun i => ws.getD i .non) S1
/-- a call's end: keep: a list of the store that is new may be handed on -/
def fin (keep : Bool) (n : Nat) (w : W) (S : Store) : R W := if w.pure = true then .ok w (S.take n) else match w with
  | .ref i => if i < n then .ok w (S.take n) else (match S[i]? with
    | some (.lst xs) => if pures xs = true then (if keep = true then .ok (.ref n) (S.take n ++ [.lst xs]) else .ok (.lst xs) (S.take n)) else .stuck
    | _ => .stuck)
  | _ => .stuck
def finS (keep : Bool) (n : Nat) : RS → R W
  | .ret w S => fin keep n w S
  | .nx _ S => .ok .non (S.take n)
  | .exc c x _ S => if x.pure = true then .exc c x (S.take n) else .stuck
  | _ => .stuck
structure Fun where
  np : Nat
  nv : Nat
  keep : Bool := false
  fr : Bool := false
  body : Fns → MS
/-- a call that neither sees nor changes the store -/
def R.frame (S : Store) : R W → R W
  | .ok w _ => if w.pure = true then .ok w S else .stuck
  | .exc c x _ => if x.pure = true then .exc c x S else .stuck
  | .stuck => .stuck
def runF (F : Fun) (φ : Fns) (ws : List W) (S : Store) : R W := if ws.length = F.np then (if F.fr = true then (if pures ws = true then (finS false 0 (F.body φ (ws.map some ++ List.replicate (F.nv - F.np) none) [])).frame S else .stuck) else finS F.keep S.length (F.body φ (ws.map some ++ List.replicate (F.nv - F.np) none) S)) else .stuck
/-- the functions, to a depth -/
def fns (T : List Fun) : Nat → Fns
  | 0, _, _, _ => .stuck
  | d + 1, f, ws, S => match T[f]? with
    | some F => runF F (fns T d) ws S
    | none => .stuck
end Mp

set_option Elab.async false
set_option linter.all false
set_option maxRecDepth 100000
set_option maxHeartbeats 4000000
/-! Mp: the pure reading stands over the hand layer. -/
namespace Mp
open PySem PySem.Spec PyProof.Rows L2
/-- where the functions, the classes stand; an error's attribute -/
structure Gs where
  fa : Nat → Addr
  ca : Nat → Addr
  nm : Nat → Str
  /-- the exception that is handled: its address, that of its dict, its class -/
  ea : Addr := 0
  ed : Addr := 0
  ec : Nat := 0
/-- the store's addresses; what is being built -/
structure Ga where
  ρ : List Addr
  β : List Addr
def Ga.Off (γ : Ga) (a : Addr) : Prop := a ∉ γ.ρ ∧ a ∉ γ.β
def FrT (K : PySem.W.Frag) (γ : Ga) (H : Hp) (a : Addr) (xs : List V) : Prop :=
  (Rd H a (.tup xs) ∧ γ.Off a) ∨ ∃ (o : Obj) (its : Array Value) (n : Nat), K.lookup a = some o ∧ o.cls = .type "tuple" ∧ o.data = .seq its n ∧ its.size ≤ sizeLine ∧ Vals xs its.toList
theorem FrT.sq {K : PySem.W.Frag} {γ : Ga} {H : Hp} {a : Addr} {xs : List V} (h : FrT K γ H a xs) : SqT K H a xs := h.elim (fun z => .inl z.1) .inr
/-- the script -/
def FrS (K : PySem.W.Frag) (γ : Ga) (H : Hp) (a : Addr) (xs : List V) : Prop :=
  ((∃ o, H a = some (.frz o (.lst xs))) ∧ γ.Off a) ∨ ∃ (o : Obj) (its : Array Value) (n : Nat), K.lookup a = some o ∧ o.cls = .type "list" ∧ o.dict = none ∧ o.data = .seq its n ∧ its.size ≤ sizeLine ∧ Vals xs its.toList
theorem FrS.sq {K : PySem.W.Frag} {γ : Ga} {H : Hp} {a : Addr} {xs : List V} (h : FrS K γ H a xs) : SqL K H a xs := h.elim (fun z => .inl (.inr z.1)) .inr
/-- a key as a value; a dict whose keys are ints and texts (told by false ahead of the keys), or tuples of such (true) -/
def keyW : Key → W
  | .inl i => .int i
  | .inr s => .str s.cps.toList
def DctAt (H : Hp) (a : Addr) (ks : List W) (us : List V) : Prop :=
  (∃ kvs : List (Key × V), H a = some (.dK kvs) ∧ ks = .bl false :: kvs.map (fun p => keyW p.1) ∧ us = kvs.map (·.2)) ∨ ∃ kvs : List (List Key × V), H a = some (.dT kvs) ∧ ks = .bl true :: kvs.map (fun p => W.tup (p.1.map keyW)) ∧ us = kvs.map (·.2)
theorem DctAt.keep {H H' : Hp} {a : Addr} {ks : List W} {us : List V} (d : DctAt H a ks us) (k : ∀ o, H a = some o → H' a = some o) : DctAt H' a ks us := d.elim (fun ⟨kvs, h, e⟩ => .inl ⟨kvs, k _ h, e⟩) fun ⟨kvs, h, e⟩ => .inr ⟨kvs, k _ h, e⟩
theorem DctAt.someN {H : Hp} {a : Addr} {ks : List W} {us : List V} (d : DctAt H a ks us) : ∃ o, H a = some o ∧ ∀ xs, o ≠ .tup xs := d.elim (fun ⟨_, h, _⟩ => ⟨_, h, fun _ z => nomatch z⟩) fun ⟨_, h, _⟩ => ⟨_, h, fun _ z => nomatch z⟩
theorem DctAt.some {H : Hp} {a : Addr} {ks : List W} {us : List V} (d : DctAt H a ks us) : ∃ o, H a = some o := d.elim (fun ⟨_, h, _⟩ => ⟨_, h⟩) fun ⟨_, h, _⟩ => ⟨_, h⟩
mutual
inductive Rep (K : PySem.W.Frag) (G : Gs) (γ : Ga) (H : Hp) : W → V → Prop
  | non : Rep K G γ H .non .non
  | bl (b : Bool) : Rep K G γ H (.bl b) (.bl b)
  | int (i : Int) : Rep K G γ H (.int i) (.int i)
  | str (s : List Nat) : (∀ c ∈ s, c < 0x110000) → s.length ≤ sizeLine → Rep K G γ H (.str s) (.str ⟨s.toArray⟩)
  | tup {a : Addr} {vs : List V} {xs : List W} : FrT K γ H a vs → Reps K G γ H xs vs → Rep K G γ H (.tup xs) (.ref a)
  | lst {a : Addr} {vs : List V} {xs : List W} : H a = some (.lst vs) → γ.Off a → Reps K G γ H xs vs → Rep K G γ H (.lst xs) (.ref a)
  | scr {a : Addr} {vs : List V} {xs : List W} : FrS K γ H a vs → Reps K G γ H xs vs → Rep K G γ H (.scr xs) (.ref a)
  | ref {i : Nat} {a : Addr} : γ.ρ[i]? = some a → Rep K G γ H (.ref i) (.ref a)
  | fn (f : Nat) : Rep K G γ H (.fn f) (.ref (G.fa f))
  | dct {a : Addr} {us : List V} {ks ws : List W} : DctAt H a ks us → γ.Off a → Reps K G γ H ws us → Rep K G γ H (.dct ks ws) (.ref a)
  | exc {x : W} {v : V} : H G.ed = some (.xd [(G.nm G.ec, v)]) → γ.Off G.ed → Rep K G γ H x v → Rep K G γ H (.exc G.ec x) (.ref G.ea)
inductive Reps (K : PySem.W.Frag) (G : Gs) (γ : Ga) (H : Hp) : List W → List V → Prop
  | nil : Reps K G γ H [] []
  | cons {w : W} {v : V} {ws : List W} {vs : List V} : Rep K G γ H w v → Reps K G γ H ws vs → Reps K G γ H (w :: ws) (v :: vs)
end
structure Ext (γ : Ga) (H : Hp) (γ' : Ga) (H' : Hp) : Prop where
  pre : γ.ρ <+: γ'.ρ
  bsub : ∀ a ∈ γ.β, a ∈ γ'.β
  bnew : ∀ a ∈ γ'.β, a ∈ γ.β ∨ H a = none
  keep : ∀ a o, H a = some o → a ∉ γ.ρ → H' a = some o
  new : ∀ a, a ∈ γ'.ρ → a ∉ γ.ρ → H a = none
  dom : ∀ a o, H a = some o → ∃ o', H' a = some o'
theorem Ext.refl {γ : Ga} {H : Hp} : Ext γ H γ H := ⟨List.prefix_refl _, fun _ h => h, fun _ h => .inl h, fun _ _ e _ => e, fun _ h1 h2 => absurd h1 h2, fun _ o e => ⟨o, e⟩⟩
theorem Ext.off {γ γ' : Ga} {H H' : Hp} (e : Ext γ H γ' H') {a : Addr} {o : HO} (h : H a = some o) (f : γ.Off a) : γ'.Off a := by
  refine ⟨fun z => ?_, fun z => ?_⟩
  · have q := e.new a z f.1
    rw [h] at q
    cases q
  · rcases e.bnew a z with q | q
    · exact f.2 q
    · rw [h] at q
      cases q
theorem Ext.trans {γ γ1 γ2 : Ga} {H H1 H2 : Hp} (e : Ext γ H γ1 H1) (e2 : Ext γ1 H1 γ2 H2) : Ext γ H γ2 H2 := by
  have nn : ∀ {a : Addr}, H1 a = none → H a = none := fun {a} q => by
    cases z : H a with
    | none => rfl
    | some o =>
      obtain ⟨o', z'⟩ := e.dom a o z
      rw [q] at z'
      cases z'
  refine ⟨e.pre.trans e2.pre, fun a h => e2.bsub a (e.bsub a h), fun a h => ?_, fun a o h n => ?_, fun a h n => ?_, fun a o h => ?_⟩
  · rcases e2.bnew a h with q | q
    · exact e.bnew a q
    · exact .inr (nn q)
  · have n1 : a ∉ γ1.ρ := fun z => by
      have q := e.new a z n
      rw [h] at q
      cases q
    exact e2.keep a o (e.keep a o h n) n1
  · by_cases h1 : a ∈ γ1.ρ
    · exact e.new a h1 n
    · exact nn (e2.new a h h1)
  · obtain ⟨o1, h1⟩ := e.dom a o h
    exact e2.dom a o1 h1
section
variable {K : PySem.W.Frag} {G : Gs} {γ γ' : Ga} {H H' : Hp}
theorem Ext.rd (e : Ext γ H γ' H') {a : Addr} {u : HO} (h : Rd H a u) (f : γ.Off a) : Rd H' a u ∧ γ'.Off a := by
  rcases h with h | ⟨o, h⟩
  · exact ⟨.inl (e.keep _ _ h f.1), e.off h f⟩
  · exact ⟨.inr ⟨o, e.keep _ _ h f.1⟩, e.off h f⟩
theorem FrT.mono (e : Ext γ H γ' H') {a : Addr} {xs : List V} (h : FrT K γ H a xs) : FrT K γ' H' a xs := by
  rcases h with ⟨h, f⟩ | h
  · exact .inl (e.rd h f)
  · exact .inr h
theorem FrS.mono (e : Ext γ H γ' H') {a : Addr} {xs : List V} (h : FrS K γ H a xs) : FrS K γ' H' a xs := by
  rcases h with ⟨⟨o, h⟩, f⟩ | h
  · exact .inl ⟨⟨o, e.keep _ _ h f.1⟩, e.off h f⟩
  · exact .inr h
mutual
theorem Rep.mono (e : Ext γ H γ' H') : ∀ {w : W} {v : V}, Rep K G γ H w v → Rep K G γ' H' w v
  | _, _, .non => .non
  | _, _, .bl b => .bl b
  | _, _, .int i => .int i
  | _, _, .str s h1 h2 => .str s h1 h2
  | _, _, .tup h r => .tup (h.mono e) (Reps.mono e r)
  | _, _, .lst h f r => .lst (e.keep _ _ h f.1) (e.off h f) (Reps.mono e r)
  | _, _, .scr h r => .scr (h.mono e) (Reps.mono e r)
  | _, _, .ref h => .ref (by
      obtain ⟨t, q⟩ := e.pre
      rw [← q]
      rw [List.getElem?_append_left (List.getElem?_eq_some_iff.mp h).1]
      exact h)
  | _, _, .fn f => .fn f
  | _, _, .dct d f r => .dct (d.keep fun o h => e.keep _ _ h f.1) (e.off d.some.choose_spec f) (Reps.mono e r)
  | _, _, .exc h f r => .exc (e.keep _ _ h f.1) (e.off h f) (Rep.mono e r)
theorem Reps.mono (e : Ext γ H γ' H') : ∀ {ws : List W} {vs : List V}, Reps K G γ H ws vs → Reps K G γ' H' ws vs
  | _, _, .nil => .nil
  | _, _, .cons r t => .cons (Rep.mono e r) (Reps.mono e t)
end
/-! the same, what is being built may change -/
structure ExtW (γ : Ga) (H : Hp) (γ' : Ga) (H' : Hp) : Prop where
  pre : γ.ρ <+: γ'.ρ
  bsub : ∀ a ∈ γ.β, a ∈ γ'.β
  bnew : ∀ a ∈ γ'.β, a ∈ γ.β ∨ H a = none
  keep : ∀ a o, H a = some o → γ.Off a → H' a = some o
  new : ∀ a, a ∈ γ'.ρ → a ∉ γ.ρ → H a = none
  dom : ∀ a o, H a = some o → ∃ o', H' a = some o'
theorem Ext.w (e : Ext γ H γ' H') : ExtW γ H γ' H' := ⟨e.pre, e.bsub, e.bnew, fun a o h f => e.keep a o h f.1, e.new, e.dom⟩
theorem ExtW.off (e : ExtW γ H γ' H') {a : Addr} {o : HO} (h : H a = some o) (f : γ.Off a) : γ'.Off a := by
  refine ⟨fun z => ?_, fun z => ?_⟩
  · have q := e.new a z f.1
    rw [h] at q
    cases q
  · rcases e.bnew a z with q | q
    · exact f.2 q
    · rw [h] at q
      cases q
theorem ExtW.trans {γ1 : Ga} {H1 : Hp} (e : ExtW γ H γ1 H1) (e2 : ExtW γ1 H1 γ' H') : ExtW γ H γ' H' := by
  have nn : ∀ {a : Addr}, H1 a = none → H a = none := fun {a} q => by
    cases z : H a with
    | none => rfl
    | some o =>
      obtain ⟨o', z'⟩ := e.dom a o z
      rw [q] at z'
      cases z'
  refine ⟨e.pre.trans e2.pre, fun a h => e2.bsub a (e.bsub a h), fun a h => ?_, fun a o h n => e2.keep a o (e.keep a o h n) (e.off h n), fun a h n => ?_, fun a o h => ?_⟩
  · rcases e2.bnew a h with q | q
    · exact e.bnew a q
    · exact .inr (nn q)
  · by_cases h1 : a ∈ γ1.ρ
    · exact e.new a h1 n
    · exact nn (e2.new a h h1)
  · obtain ⟨o1, h1⟩ := e.dom a o h
    exact e2.dom a o1 h1
theorem ExtW.rd (e : ExtW γ H γ' H') {a : Addr} {u : HO} (h : Rd H a u) (f : γ.Off a) : Rd H' a u ∧ γ'.Off a := by
  rcases h with h | ⟨o, h⟩
  · exact ⟨.inl (e.keep _ _ h f), e.off h f⟩
  · exact ⟨.inr ⟨o, e.keep _ _ h f⟩, e.off h f⟩
theorem FrT.monoW (e : ExtW γ H γ' H') {a : Addr} {xs : List V} (h : FrT K γ H a xs) : FrT K γ' H' a xs := by
  rcases h with ⟨h, f⟩ | h
  · exact .inl (e.rd h f)
  · exact .inr h
theorem FrS.monoW (e : ExtW γ H γ' H') {a : Addr} {xs : List V} (h : FrS K γ H a xs) : FrS K γ' H' a xs := by
  rcases h with ⟨⟨o, h⟩, f⟩ | h
  · exact .inl ⟨⟨o, e.keep _ _ h f⟩, e.off h f⟩
  · exact .inr h
mutual
theorem Rep.monoW (e : ExtW γ H γ' H') : ∀ {w : W} {v : V}, Rep K G γ H w v → Rep K G γ' H' w v
  | _, _, .non => .non
  | _, _, .bl b => .bl b
  | _, _, .int i => .int i
  | _, _, .str s h1 h2 => .str s h1 h2
  | _, _, .tup h r => .tup (h.monoW e) (Reps.monoW e r)
  | _, _, .lst h f r => .lst (e.keep _ _ h f) (e.off h f) (Reps.monoW e r)
  | _, _, .scr h r => .scr (h.monoW e) (Reps.monoW e r)
  | _, _, .ref h => .ref (by
      obtain ⟨t, q⟩ := e.pre
      rw [← q]
      rw [List.getElem?_append_left (List.getElem?_eq_some_iff.mp h).1]
      exact h)
  | _, _, .fn f => .fn f
  | _, _, .dct d f r => .dct (d.keep fun o h => e.keep _ _ h f) (e.off d.some.choose_spec f) (Reps.monoW e r)
  | _, _, .exc h f r => .exc (e.keep _ _ h f) (e.off h f) (Rep.monoW e r)
theorem Reps.monoW (e : ExtW γ H γ' H') : ∀ {ws : List W} {vs : List V}, Reps K G γ H ws vs → Reps K G γ' H' ws vs
  | _, _, .nil => .nil
  | _, _, .cons r t => .cons (Rep.monoW e r) (Reps.monoW e t)
end
/-! values without a name of the store -/
mutual
theorem Rep.less {γ' : Ga} (f : ∀ a o, H a = some o → γ.Off a → γ'.Off a) : ∀ {w : W} {v : V}, w.pure = true → Rep K G γ H w v → Rep K G γ' H w v
  | _, _, _, .non => .non
  | _, _, _, .bl b => .bl b
  | _, _, _, .int i => .int i
  | _, _, _, .str s h1 h2 => .str s h1 h2
  | _, _, p, .tup h r => .tup (by
      rcases h with ⟨h, q⟩ | h
      · refine .inl ⟨h, ?_⟩
        rcases h with h | ⟨o, h⟩
        · exact f _ _ h q
        · exact f _ _ h q
      · exact .inr h) (Reps.less f (by simpa [W.pure] using p) r)
  | _, _, p, .lst h q r => .lst h (f _ _ h q) (Reps.less f (by simpa [W.pure] using p) r)
  | _, _, p, .scr h r => .scr (by
      rcases h with ⟨⟨o, h⟩, q⟩ | h
      · exact .inl ⟨⟨o, h⟩, f _ _ h q⟩
      · exact .inr h) (Reps.less f (by simpa [W.pure] using p) r)
  | _, _, p, .ref h => by simp [W.pure] at p
  | _, _, _, .fn f => .fn f
  | _, _, p, .dct d q r => .dct d (f _ _ d.some.choose_spec q) (Reps.less f (by
      rw [W.pure, Bool.and_eq_true] at p
      exact p.2) r)
theorem Reps.less {γ' : Ga} (f : ∀ a o, H a = some o → γ.Off a → γ'.Off a) : ∀ {ws : List W} {vs : List V}, pures ws = true → Reps K G γ H ws vs → Reps K G γ' H ws vs
  | _, _, _, .nil => .nil
  | _, _, p, .cons r t => by
    rw [pures, Bool.and_eq_true] at p
    exact .cons (Rep.less f p.1 r) (Reps.less f p.2 t)
end
theorem Reps.length : ∀ {ws : List W} {vs : List V}, Reps K G γ H ws vs → ws.length = vs.length
  | _, _, .nil => rfl
  | _, _, .cons _ t => by rw [List.length_cons, List.length_cons, Reps.length t]
theorem Reps.get : ∀ {ws : List W} {vs : List V}, Reps K G γ H ws vs → ∀ {i : Nat} {w : W}, ws[i]? = some w → ∃ v, vs[i]? = some v ∧ Rep K G γ H w v
  | _, _, .nil, _, _, h => by simp at h
  | _, _, .cons r t, 0, w, h => by
    simp at h
    subst h
    exact ⟨_, rfl, r⟩
  | _, _, .cons r t, i + 1, w, h => by
    obtain ⟨v, e, q⟩ := Reps.get t (i := i) (w := w) (by simpa using h)
    exact ⟨v, by simpa using e, q⟩
theorem Reps.append : ∀ {ws ws' : List W} {vs vs' : List V}, Reps K G γ H ws vs → Reps K G γ H ws' vs' → Reps K G γ H (ws ++ ws') (vs ++ vs')
  | _, _, _, _, .nil, q => q
  | _, _, _, _, .cons r t, q => .cons r (Reps.append t q)
theorem Reps.one {w : W} {v : V} (r : Rep K G γ H w v) : Reps K G γ H [w] [v] := .cons r .nil
theorem Reps.take : ∀ {ws : List W} {vs : List V} (n : Nat), Reps K G γ H ws vs → Reps K G γ H (ws.take n) (vs.take n)
  | _, _, 0, _ => .nil
  | _, _, _ + 1, .nil => .nil
  | _, _, n + 1, .cons r t => .cons r (Reps.take n t)
theorem Reps.drop : ∀ {ws : List W} {vs : List V} (n : Nat), Reps K G γ H ws vs → Reps K G γ H (ws.drop n) (vs.drop n)
  | _, _, 0, r => r
  | _, _, _ + 1, .nil => .nil
  | _, _, n + 1, .cons r t => Reps.drop n t
theorem Reps.set {w : W} {v : V} (r : Rep K G γ H w v) : ∀ {ws : List W} {vs : List V} (i : Nat), Reps K G γ H ws vs → Reps K G γ H (ws.set i w) (vs.set i v)
  | _, _, _, .nil => .nil
  | _, _, 0, .cons _ t => .cons r t
  | _, _, i + 1, .cons q t => .cons q (Reps.set r i t)
theorem Reps.erase : ∀ {ws : List W} {vs : List V} (i : Nat), Reps K G γ H ws vs → Reps K G γ H (ws.eraseIdx i) (vs.eraseIdx i)
  | _, _, _, .nil => .nil
  | _, _, 0, .cons _ t => t
  | _, _, i + 1, .cons r t => .cons r (Reps.erase i t)
theorem Reps.rev : ∀ {ws : List W} {vs : List V}, Reps K G γ H ws vs → Reps K G γ H ws.reverse vs.reverse
  | _, _, .nil => .nil
  | _, _, .cons r t => by
    rw [List.reverse_cons, List.reverse_cons]
    exact Reps.append (Reps.rev t) (.one r)
end
def CellOk (K : PySem.W.Frag) (G : Gs) (γ : Ga) (H : Hp) : Cell → Addr → Prop
  | .lst xs, a => pures xs = true ∧ ∃ vs, H a = some (.lst vs) ∧ Reps K G γ H xs vs
  | .dct ks ws, a => pures ks = true ∧ pures ws = true ∧ ∃ us, DctAt H a ks us ∧ Reps K G γ H ws us
  | .ins _ _, _ => False
theorem CellOk.to {K : PySem.W.Frag} {G : Gs} {γ γ' : Ga} {H H' : Hp} {c : Cell} {a : Addr} (q : CellOk K G γ H c a) (k : ∀ o, H a = some o → H' a = some o) (m : ∀ {ws : List W} {vs : List V}, pures ws = true → Reps K G γ H ws vs → Reps K G γ' H' ws vs) : CellOk K G γ' H' c a := by
  cases c with
  | lst xs =>
    obtain ⟨p, vs, hv, r⟩ := q
    exact ⟨p, vs, k _ hv, m p r⟩
  | dct ks ws =>
    obtain ⟨p0, p, us, d, r⟩ := q
    exact ⟨p0, p, us, d.keep k, m p r⟩
  | ins _ _ => exact q.elim
structure StoreOk (K : PySem.W.Frag) (G : Gs) (γ : Ga) (H : Hp) (S : Store) : Prop where
  len : γ.ρ.length = S.length
  nd : γ.ρ.Nodup
  cell : ∀ (i : Nat) (c : Cell) (a : Addr), S[i]? = some c → γ.ρ[i]? = some a → CellOk K G γ H c a
  bt : ∀ a ∈ γ.β, a ∉ γ.ρ ∧ ∃ o, H a = some o ∧ ∀ xs, o ≠ .tup xs
def EnvOk (K : PySem.W.Frag) (G : Gs) (γ : Ga) (H : Hp) (η : Env) (σ : L2.St) : Prop := η.length = σ.length ∧ ∀ (i : Nat) (w : W), η[i]? = some (some w) → ∃ v, σ[i]? = some (some v) ∧ Rep K G γ H w v
section
variable {K : PySem.W.Frag} {G : Gs} {γ γ' : Ga} {H H' : Hp} {S : Store} {η : Env} {σ : L2.St}
theorem EnvOk.mono (e : Ext γ H γ' H') (h : EnvOk K G γ H η σ) : EnvOk K G γ' H' η σ := ⟨h.1, fun i w q => by
  obtain ⟨v, e1, r⟩ := h.2 i w q
  exact ⟨v, e1, r.mono e⟩⟩
theorem StoreOk.tracked0 (s : StoreOk K G γ H S) {a : Addr} (h : a ∈ γ.ρ) : ∃ o, H a = some o ∧ ∀ xs, o ≠ .tup xs := by
  obtain ⟨i, hi, e⟩ := List.mem_iff_getElem.mp h
  have hs : i < S.length := by rw [← s.len]; exact hi
  have q := s.cell i S[i] a (List.getElem?_eq_getElem hs) (by rw [← e]; exact List.getElem?_eq_getElem hi)
  cases hc : S[i] with
  | lst xs => rw [hc] at q; obtain ⟨_, vs, hv, _⟩ := q; exact ⟨_, hv, fun _ z => nomatch z⟩
  | dct _ _ => rw [hc] at q; obtain ⟨_, _, us, d, _⟩ := q; exact d.someN
  | ins _ _ => rw [hc] at q; exact q.elim
theorem StoreOk.tracked (s : StoreOk K G γ H S) {a : Addr} (h : a ∈ γ.ρ) : ∃ o, H a = some o := let ⟨o, e, _⟩ := s.tracked0 h; ⟨o, e⟩
theorem StoreOk.fresh (s : StoreOk K G γ H S) {p : Addr} (h : H p = none) : γ.Off p := by
  refine ⟨fun z => ?_, fun z => ?_⟩
  · obtain ⟨o, e⟩ := s.tracked z
    rw [h] at e
    cases e
  · obtain ⟨_, o, e, _⟩ := s.bt p z
    rw [h] at e
    cases e
/-- a new object beside -/
theorem Ext.upd (s : StoreOk K G γ H S) {p : Addr} {o : HO} (h : H p = none) : Ext γ H γ (L2.upd H p o) :=
  ⟨List.prefix_refl _, fun _ h => h, fun _ h => .inl h, fun a u e _ => by rw [upd_ne (ne_of_none e h)]; exact e, fun _ h1 h2 => absurd h1 h2, fun a u e => ⟨u, by rw [upd_ne (ne_of_none e h)]; exact e⟩⟩
theorem StoreOk.upd (s : StoreOk K G γ H S) {p : Addr} {o : HO} (h : H p = none) : StoreOk K G γ (L2.upd H p o) S := by
  have e := Ext.upd (K := K) (G := G) s (o := o) h
  refine ⟨s.len, s.nd, fun i c a hc ha => ?_, fun a ha => ⟨(s.bt a ha).1, ?_⟩⟩
  · have q := s.cell i c a hc ha
    have mem : a ∈ γ.ρ := List.mem_of_getElem? ha
    cases c with
    | lst xs =>
      obtain ⟨p1, vs, hv, r⟩ := q
      exact ⟨p1, vs, by rw [upd_ne (ne_of_none hv h)]; exact hv, r.mono e⟩
    | dct _ _ => exact q.to (fun o e' => by rw [upd_ne (ne_of_none e' h)]; exact e') fun _ r => r.mono e
    | ins _ _ => exact q.elim
  · obtain ⟨o', q, nt⟩ := (s.bt a ha).2
    exact ⟨o', by rw [upd_ne (ne_of_none q h)]; exact q, nt⟩
/-- a new list of the store -/
def Ga.push (γ : Ga) (p : Addr) : Ga := ⟨γ.ρ ++ [p], γ.β⟩
theorem Ext.push (s : StoreOk K G γ H S) {p : Addr} {o : HO} (h : H p = none) : Ext γ H (γ.push p) (L2.upd H p o) :=
  ⟨List.prefix_append _ _, fun _ h => h, fun _ h => .inl h, fun a u e _ => by rw [upd_ne (ne_of_none e h)]; exact e, fun a h1 h2 => by
    rcases List.mem_append.mp h1 with z | z
    · exact absurd z h2
    · have z' : a = p := by simpa using z
      rw [z']; exact h, fun a u e => ⟨u, by rw [upd_ne (ne_of_none e h)]; exact e⟩⟩
theorem StoreOk.push (s : StoreOk K G γ H S) {p : Addr} {xs : List W} {vs : List V} (h : H p = none) (hp : pures xs = true) (r : Reps K G γ H xs vs) : StoreOk K G (γ.push p) (L2.upd H p (.lst vs)) (S ++ [.lst xs]) := by
  have e := Ext.push (K := K) (G := G) s (o := .lst vs) h
  have off := s.fresh h
  refine ⟨by simp [Ga.push, s.len], ?_, fun i c a hc ha => ?_, fun a ha => ?_⟩
  · show (γ.ρ ++ [p]).Nodup
    rw [List.nodup_append]
    exact ⟨s.nd, by simp, fun a ha b hb => by
      have z : b = p := by simpa using hb
      rw [z]
      rintro rfl
      exact off.1 ha⟩
  · by_cases hi : i < S.length
    · rw [List.getElem?_append_left hi] at hc
      have hi' : i < γ.ρ.length := by rw [s.len]; exact hi
      have ha' : γ.ρ[i]? = some a := by
        have z : (γ.ρ ++ [p])[i]? = some a := ha
        rwa [List.getElem?_append_left hi'] at z
      have q := s.cell i c a hc ha'
      cases c with
      | lst ys =>
        obtain ⟨p1, us, hv, r'⟩ := q
        exact ⟨p1, us, by rw [upd_ne (ne_of_none hv h)]; exact hv, r'.mono e⟩
      | dct _ _ => exact q.to (fun o e' => by rw [upd_ne (ne_of_none e' h)]; exact e') fun _ r => r.mono e
      | ins _ _ => exact q.elim
    · have hlt := (List.getElem?_eq_some_iff.mp hc).1
      rw [List.length_append, List.length_singleton] at hlt
      have ei : i = S.length := by omega
      subst ei
      rw [List.getElem?_append_right (Nat.le_refl _), Nat.sub_self] at hc
      have hc' : Cell.lst xs = c := by simpa using hc
      subst hc'
      have ha' : p = a := by
        have z : (γ.ρ ++ [p])[S.length]? = some a := ha
        rw [← s.len, List.getElem?_append_right (Nat.le_refl _), Nat.sub_self] at z
        simpa using z
      subst ha'
      exact ⟨hp, vs, upd_same, r.mono e⟩
  · obtain ⟨n, o, q, nt⟩ := s.bt a ha
    refine ⟨fun z => ?_, o, by rw [upd_ne (ne_of_none q h)]; exact q, nt⟩
    rcases List.mem_append.mp z with z | z
    · exact n z
    · have z' : a = p := by simpa using z
      rw [z', h] at q
      cases q
/-- a list of the store is changed -/
theorem StoreOk.write (s : StoreOk K G γ H S) {i : Nat} {a : Addr} {xs ys : List W} {us : List V} (hc : S[i]? = some (.lst xs)) (ha : γ.ρ[i]? = some a) (hp : pures ys = true) (r : Reps K G γ H ys us) :
    Ext γ H γ (L2.upd H a (.lst us)) ∧ StoreOk K G γ (L2.upd H a (.lst us)) (S.set i (.lst ys)) := by
  have mem : a ∈ γ.ρ := List.mem_of_getElem? ha
  have e : Ext γ H γ (L2.upd H a (.lst us)) := ⟨List.prefix_refl _, fun _ h => h, fun _ h => .inl h, fun b u q n => by
    have z : b ≠ a := fun z => n (by rw [z]; exact mem)
    rw [upd_ne z]; exact q, fun _ h1 h2 => absurd h1 h2, fun b u q => by
    by_cases z : b = a
    · exact ⟨_, by rw [z]; exact upd_same⟩
    · exact ⟨u, by rw [upd_ne z]; exact q⟩⟩
  refine ⟨e, by rw [List.length_set]; exact s.len, s.nd, fun j c b hc' hb => ?_, fun b hb => ?_⟩
  · by_cases hj : i = j
    · subst hj
      rw [List.getElem?_set_self (List.getElem?_eq_some_iff.mp hc).1] at hc'
      have z : Cell.lst ys = c := Option.some.inj hc'
      subst z
      rw [ha] at hb
      cases hb
      exact ⟨hp, us, upd_same, r.mono e⟩
    · rw [List.getElem?_set_ne hj] at hc'
      have q := s.cell j c b hc' hb
      have hne : b ≠ a := fun z => by
        rw [z] at hb
        obtain ⟨h1, e1⟩ := List.getElem?_eq_some_iff.mp ha
        obtain ⟨h2, e2⟩ := List.getElem?_eq_some_iff.mp hb
        exact hj ((List.getElem_inj s.nd).mp (e1.trans e2.symm))
      cases c with
      | lst zs =>
        obtain ⟨p1, vs, hv, r'⟩ := q
        exact ⟨p1, vs, by rw [upd_ne hne]; exact hv, r'.mono e⟩
      | dct _ _ => exact q.to (fun o e' => by rw [upd_ne hne]; exact e') fun _ r => r.mono e
      | ins _ _ => exact q.elim
  · obtain ⟨n, o, q, nt⟩ := s.bt b hb
    exact ⟨n, o, by rw [upd_ne (fun z => n (by rw [z]; exact mem))]; exact q, nt⟩
end
/-! ### ends -/
/-- what an exception is wished to be -/
abbrev Wx := Value → Option Addr → Hp → Prop
abbrev Rel (α β : Type) := Ga → Hp → α → β → Prop
def Post {α β : Type} (K : PySem.W.Frag) (G : Gs) (rel : Rel α β) (wx : Wx) (γ : Ga) (H : Hp) (r : R α) (Q : β → Hp → Prop) : Prop := match r with
  | .ok w S' => ∀ v γ' H', Ext γ H γ' H' → rel γ' H' w v → StoreOk K G γ' H' S' → Q v H'
  | .exc c x S' => ∀ v d γ' H', Ext γ H γ' H' → Rep K G γ' H' x v → StoreOk K G γ' H' S' → H' d = some (.xd [(G.nm c, v)]) → γ'.Off d → wx (.ref (G.ca c)) (some d) H'
  | .stuck => False
section
variable {K : PySem.W.Frag} {G : Gs} {γ γ1 : Ga} {H H1 : Hp} {wx : Wx} {α β α' β' : Type} {rel : Rel α β} {rel' : Rel α' β'}
theorem Post.base {r : R α} {Q : β → Hp → Prop} (e : Ext γ H γ1 H1) (h : Post K G rel wx γ H r Q) : Post K G rel wx γ1 H1 r Q := by
  cases r with
  | ok w S' => exact fun v γ' H' e' q s => h v γ' H' (e.trans e') q s
  | exc c x S' => exact fun v d γ' H' e' q s hd ho => h v d γ' H' (e.trans e') q s hd ho
  | stuck => exact h
theorem Post.seq {r : R α} {k : α → Store → R α'} {Q : β' → Hp → Prop} (h : Post K G rel' wx γ H (r.bind k) Q) :
    Post K G rel wx γ H r fun v H1 => ∃ w S1 γ1, Ext γ H γ1 H1 ∧ rel γ1 H1 w v ∧ StoreOk K G γ1 H1 S1 ∧ Post K G rel' wx γ1 H1 (k w S1) Q := by
  cases r with
  | ok w S' => exact fun v γ' H' e q s => ⟨w, S', γ', e, q, s, Post.base e h⟩
  | exc c x S' => exact h
  | stuck => exact h
theorem Post.imp {r : R α} {Q Q' : β → Hp → Prop} (h : Post K G rel wx γ H r Q) (i : ∀ v H', Q v H' → Q' v H') : Post K G rel wx γ H r Q' := by
  cases r with
  | ok w S' => exact fun v γ' H' e q s => i _ _ (h v γ' H' e q s)
  | exc c x S' => exact h
  | stuck => exact h
end
abbrev relB : Rel Bool Bool := fun _ _ b c => b = c
/-! ### the judgements -/
def tOf (K : PySem.W.Frag) (G : Gs) (Wi : WX) (f : ME) : TE := fun σ H Q => ∃ η S γ, EnvOk K G γ H η σ ∧ StoreOk K G γ H S ∧ Post K G (Rep K G) (fun c d H' => Wi c d σ H') γ H (f η S) Q
def ttOf (K : PySem.W.Frag) (G : Gs) (Wi : WX) (f : MT) : TT := fun σ H Q => ∃ η S γ, EnvOk K G γ H η σ ∧ StoreOk K G γ H S ∧ Post K G relB (fun c d H' => Wi c d σ H') γ H (f η S) Q
def taOf (K : PySem.W.Frag) (G : Gs) (Wi : WX) (f : MA) : TA := fun σ H Q => ∃ η S γ, EnvOk K G γ H η σ ∧ StoreOk K G γ H S ∧ Post K G (Reps K G) (fun c d H' => Wi c d σ H') γ H (f η S) Q
structure SE (X : Cx) (G : Gs) (e : Expr) (f : ME) : Prop where
  run : ∀ Wi, Takes X Wi → PE X e (tOf X.K G Wi f)
structure ST (X : Cx) (G : Gs) (e : Expr) (f : MT) : Prop where
  run : ∀ Wi, Takes X Wi → PT X e (ttOf X.K G Wi f)
structure SW (X : Cx) (G : Gs) (e : Expr) (f : MT) : Prop where
  run : ∀ Wi, Takes X Wi → PW X e (ttOf X.K G Wi f)
structure SA (X : Cx) (G : Gs) (es : List Expr) (f : MA) : Prop where
  run : ∀ Wi, Takes X Wi → PA X es (taOf X.K G Wi f)
theorem _root_.L2.PE.imp {X : Cx} {e : Expr} {t t' : TE} (h : PE X e t) (i : ∀ σ H Q, t' σ H Q → t σ H Q) : PE X e t' := ⟨fun pins s σ H Q I q => h.run pins s σ H Q I (i _ _ _ q)⟩
theorem _root_.L2.PT.imp {X : Cx} {e : Expr} {t t' : TT} (h : PT X e t) (i : ∀ σ H Q, t' σ H Q → t σ H Q) : PT X e t' := ⟨fun pins s σ H Q I q => h.run pins s σ H Q I (i _ _ _ q)⟩
theorem _root_.L2.PW.imp {X : Cx} {e : Expr} {t t' : TT} (h : PW X e t) (i : ∀ σ H Q, t' σ H Q → t σ H Q) : PW X e t' := ⟨fun wh pins s σ H Q I q => h.run wh pins s σ H Q I (i _ _ _ q)⟩
theorem _root_.L2.PA.imp {X : Cx} {e : List Expr} {t t' : TA} (h : PA X e t) (i : ∀ σ H Q, t' σ H Q → t σ H Q) : PA X e t' := ⟨fun pos pins s σ H Q I q => h.run pos pins s σ H Q I (i _ _ _ q)⟩
theorem _root_.L2.PS.imp {X : Cx} {e : Stmt} {t t' : TS} (h : PS X e t) (i : ∀ D σ H, t' D σ H → t D σ H) : PS X e t' := ⟨fun pins s σ H D I q => h.run pins s σ H D I (i _ _ _ q)⟩
theorem _root_.L2.PSs.imp {X : Cx} {e : List Stmt} {t t' : TS} (h : PSs X e t) (i : ∀ D σ H, t' D σ H → t D σ H) : PSs X e t' := ⟨fun pins s σ H D I q => h.run pins s σ H D I (i _ _ _ q)⟩
theorem _root_.L2.OpR.imp {X : Cx} {f : Value → Value → Sem Value} {r r' : R2} (h : OpR X f r) (i : ∀ x y H Q, r' x y H Q → r x y H Q) : OpR X f r' := fun pins s σ H x y v u Q I rx ry q => h pins s σ H x y v u Q I rx ry (i _ _ _ _ q)
end Mp

set_option Elab.async false
set_option linter.all false
set_option maxRecDepth 100000
set_option maxHeartbeats 4000000
/-! Mp: operators. -/
namespace Mp
open PySem PySem.Spec PyProof.Rows L2
theorem bigLine_eq : bigLine = sizeLine := by rw [sizeLine_eq]; rfl
section
variable {K : PySem.W.Frag} {G : Gs} {γ γ' : Ga} {H H' : Hp} {S : Store}
theorem lstOf_rep {w : W} {v : V} {xs : List W} (s : StoreOk K G γ H S) (h : lstOf S w = some xs) (r : Rep K G γ H w v) : ∃ a vs, v = .ref a ∧ H a = some (.lst vs) ∧ Reps K G γ H xs vs := by
  cases r with
  | lst h1 f q =>
    have e : _ = xs := Option.some.inj h
    subst e
    exact ⟨_, _, rfl, h1, q⟩
  | @ref i a h1 =>
    have h' : (match S[i]? with
      | some (.lst xs) => some xs
      | _ => none) = some xs := h
    split at h'
    · rename_i ys hc
      have e : ys = xs := Option.some.inj h'
      subst e
      obtain ⟨_, vs, hv, q⟩ := s.cell i _ a hc h1
      exact ⟨a, vs, rfl, hv, q⟩
    · cases h'
  | _ => cases h
theorem plainL_rep {w : W} {v : V} (s : StoreOk K G γ H S) (r : Rep K G γ H w v) : (∃ xs a vs, plainL S w = .lst xs ∧ v = .ref a ∧ H a = some (.lst vs) ∧ Reps K G γ H xs vs) ∨ plainL S w = w := by
  unfold plainL
  cases h : lstOf S w with
  | none => exact .inr rfl
  | some xs =>
    obtain ⟨a, vs, e, hv, q⟩ := lstOf_rep s h r
    exact .inl ⟨xs, a, vs, rfl, e, hv, q⟩
mutual
def toD : W → PyData
  | .bl b => .bool b
  | .int i => .int i
  | .str s => .str ⟨s.toArray⟩
  | .tup xs => .tuple (toDs xs)
  | .lst xs => .list (toDs xs)
  | .non => .none
  | .scr _ => .none
  | .dct _ _ => .none
  | .ref _ => .none
  | .fn _ => .none
  | .cls _ => .none
  | .exc _ _ => .none
def toDs : List W → List PyData
  | [] => []
  | x :: xs => toD x :: toDs xs
end
mutual
theorem dp_of : ∀ (w : W) (v : V) (k : Nat), okD w k = true → Rep K G γ H w v → Dp K H v (toD w)
  | .non, _, _, _, .non => .non
  | .bl b, _, _, _, .bl _ => .bl b
  | .int i, _, _, _, .int _ => .int i
  | .str s, _, _, _, .str _ _ _ => .str _
  | .tup xs, _, k, o, .tup h q => by
    unfold okD at o
    exact .tup h.sq (dps_of xs _ _ (Bool.and_eq_true_iff.mp o).2 q)
  | .lst xs, _, k, o, .lst h f q => by
    unfold okD at o
    exact .lst (SqL.of h) (dps_of xs _ _ (Bool.and_eq_true_iff.mp o).2 q)
theorem dps_of : ∀ (ws : List W) (vs : List V) (k : Nat), okDs ws k = true → Reps K G γ H ws vs → DpAll K H vs (toDs ws)
  | [], _, _, _, .nil => .nil
  | w :: ws, _, k, o, .cons r t => by
    unfold okDs at o
    obtain ⟨o1, o2⟩ := Bool.and_eq_true_iff.mp o
    exact .cons (dp_of w _ k o1 r) (dps_of ws _ k o2 t)
end
theorem strOk_of {s : List Nat} (h : ∀ c ∈ s, c < 0x110000) : PySem.PyData.canLay0 (.str ⟨s.toArray⟩) = true := by
  unfold PySem.PyData.canLay0 PySem.PyData.strOk
  simp
  exact h
mutual
theorem lay_of : ∀ (w : W) (v : V) (k : Nat), okD w k = true → Rep K G γ H w v → (toD w).canLay0 = true ∧ (toD w).depth ≤ k
  | .non, _, _, _, .non => ⟨by simp [toD, PyData.canLay0], by simp [toD, PyData.depth]⟩
  | .bl b, _, _, _, .bl _ => ⟨by simp [toD, PyData.canLay0], by simp [toD, PyData.depth]⟩
  | .int i, _, _, _, .int _ => ⟨by simp [toD, PyData.canLay0], by simp [toD, PyData.depth]⟩
  | .str s, _, _, _, .str _ h _ => ⟨by unfold toD; exact strOk_of h, by simp [toD, PyData.depth]⟩
  | .tup xs, _, k, o, .tup h q => by
    unfold okD at o
    obtain ⟨o1, o2⟩ := Bool.and_eq_true_iff.mp o
    have o1 : 0 < k := of_decide_eq_true o1
    obtain ⟨h1, h2⟩ := lays_of xs _ _ o2 q
    exact ⟨by simp only [toD, PyData.canLay0]; exact h1, by simp only [toD, PyData.depth]; omega⟩
  | .lst xs, _, k, o, .lst h f q => by
    unfold okD at o
    obtain ⟨o1, o2⟩ := Bool.and_eq_true_iff.mp o
    have o1 : 0 < k := of_decide_eq_true o1
    obtain ⟨h1, h2⟩ := lays_of xs _ _ o2 q
    exact ⟨by simp only [toD, PyData.canLay0]; exact h1, by simp only [toD, PyData.depth]; omega⟩
theorem lays_of : ∀ (ws : List W) (vs : List V) (k : Nat), okDs ws k = true → Reps K G γ H ws vs → PyData.canLayAll0 (toDs ws) = true ∧ PyData.depthAll (toDs ws) ≤ k
  | [], _, _, _, .nil => ⟨by simp [toDs, PyData.canLayAll0], by simp [toDs, PyData.depthAll]⟩
  | w :: ws, _, k, o, .cons r t => by
    unfold okDs at o
    obtain ⟨o1, o2⟩ := Bool.and_eq_true_iff.mp o
    obtain ⟨a1, a2⟩ := lay_of w _ k o1 r
    obtain ⟨b1, b2⟩ := lays_of ws _ k o2 t
    exact ⟨by simp only [toDs, PyData.canLayAll0, a1, b1, Bool.and_self], by simp only [toDs, PyData.depthAll]; omega⟩
end
theorem str_beqW (x y : List Nat) : ((⟨x.toArray⟩ : Str) == ⟨y.toArray⟩) = (x == y) := by
  rw [← SeqAt.str_beq]
mutual
theorem eqv_of : ∀ (a b : W) (k j : Nat), okD a k = true → okD b j = true → PyData.eqv (toD a) (toD b) = eqW a b
  | .non, b, _, _, _, h => by cases b <;> simp [toD, PyData.eqv, eqW, okD] at h ⊢
  | .bl _, b, _, _, _, h => by cases b <;> simp [toD, PyData.eqv, eqW, okD] at h ⊢
  | .int _, b, _, _, _, h => by cases b <;> simp [toD, PyData.eqv, eqW, okD] at h ⊢
  | .str _, b, _, _, _, h => by
    cases b <;> simp only [toD, PyData.eqv, eqW, okD] at h ⊢ <;> first | exact str_beqW _ _ | cases h
  | .tup xs, b, k, j, g, h => by
    cases b <;> simp only [toD, PyData.eqv, eqW, okD] at h ⊢ <;> first | exact eqvs_of xs _ _ _ (Bool.and_eq_true_iff.mp (by unfold okD at g; exact g)).2 (Bool.and_eq_true_iff.mp h).2 | cases h
  | .lst xs, b, k, j, g, h => by
    cases b <;> simp only [toD, PyData.eqv, eqW, okD] at h ⊢ <;> first | exact eqvs_of xs _ _ _ (Bool.and_eq_true_iff.mp (by unfold okD at g; exact g)).2 (Bool.and_eq_true_iff.mp h).2 | cases h
  | .scr _, _, _, _, g, _ => by simp [okD] at g
  | .dct _ _, _, _, _, g, _ => by simp [okD] at g
  | .ref _, _, _, _, g, _ => by simp [okD] at g
  | .fn _, _, _, _, g, _ => by simp [okD] at g
  | .cls _, _, _, _, g, _ => by simp [okD] at g
  | .exc _ _, _, _, _, g, _ => by simp [okD] at g
theorem eqvs_of : ∀ (a b : List W) (k j : Nat), okDs a k = true → okDs b j = true → PyData.eqvAll (toDs a) (toDs b) = eqWs a b
  | [], [], _, _, _, _ => by simp [toDs, PyData.eqvAll, eqWs]
  | [], _ :: _, _, _, _, _ => by simp [toDs, PyData.eqvAll, eqWs]
  | _ :: _, [], _, _, _, _ => by simp [toDs, PyData.eqvAll, eqWs]
  | x :: xs, y :: ys, k, j, g, h => by
    unfold okDs at g h
    obtain ⟨g1, g2⟩ := Bool.and_eq_true_iff.mp g
    obtain ⟨h1, h2⟩ := Bool.and_eq_true_iff.mp h
    simp only [toDs, PyData.eqvAll, eqWs]
    rw [eqv_of x y k j g1 h1, eqvs_of xs ys k j g2 h2]
end
theorem dp_plain {w : W} {v : V} (s : StoreOk K G γ H S) (r : Rep K G γ H w v) (o : okD (plainL S w) 30 = true) : Dp K H v (toD (plainL S w)) ∧ SeqAt.shaped (toD (plainL S w)) = true := by
  have fin : ∀ {k : Nat} {d : PyData}, d.canLay0 = true → d.depth ≤ 30 → SeqAt.shaped d = true := fun h1 h2 => by
    unfold SeqAt.shaped
    rw [h1, decide_eq_true (show _ ≤ 64 by omega)]
    rfl
  rcases plainL_rep s r with ⟨xs, a, vs, e, rfl, hv, q⟩ | e
  · rw [e] at o ⊢
    have o2 := o
    unfold okD at o2
    obtain ⟨o3, o4⟩ := Bool.and_eq_true_iff.mp o2
    obtain ⟨l1, l2⟩ := lays_of xs _ _ o4 q
    refine ⟨by unfold toD; exact .lst (SqL.of hv) (dps_of xs _ _ o4 q), fin (k := 0) (by simp only [toD, PyData.canLay0]; exact l1) (by simp only [toD, PyData.depth]; omega)⟩
  · rw [e] at o ⊢
    obtain ⟨l1, l2⟩ := lay_of w v 30 o r
    exact ⟨dp_of w v 30 o r, fin (k := 0) l1 l2⟩
end
/-! operators by their values -/
def rOf (K : PySem.W.Frag) (G : Gs) (o : O2) : R2 := fun x y H Q => ∃ wx wy S γ w, Rep K G γ H wx x ∧ Rep K G γ H wy y ∧ StoreOk K G γ H S ∧ o wx wy S = some w ∧
  ∀ v γ' H', Ext γ H γ' H' → Rep K G γ' H' w v → StoreOk K G γ' H' S → Q v H'
section
variable {X : Cx} {G : Gs}
theorem o2_add : OpR X (binaryOp .Add) (rOf X.K G opAdd) := by
  refine (OpR.or op_add (OpR.or op_add_str (OpR.or op_cat op_catA))).imp ?_
  rintro x y H Q ⟨wx, wy, S, γ, w, rx, ry, s, h, k⟩
  unfold opAdd at h
  split at h
  · cases rx; cases ry; cases h
    exact .inl ⟨_, _, rfl, rfl, k _ γ H Ext.refl (.int _) s⟩
  · rename_i a b
    cases rx with
    | str _ a1 a2 =>
      cases ry with
      | str _ b1 b2 =>
        split at h
        · rename_i hl
          cases h
          rw [bigLine_eq] at hl
          refine .inr (.inl ⟨_, _, rfl, rfl, ?_, ?_⟩)
          · simpa [Str.length] using hl
          · have e : ((⟨a.toArray⟩ : Str) ++ ⟨b.toArray⟩) = ⟨(a ++ b).toArray⟩ := by
              show Str.mk _ = _
              simp
            rw [e]
            refine k _ γ H Ext.refl (.str _ (fun c hc => ?_) (by simpa using hl)) s
            rcases List.mem_append.mp hc with z | z
            · exact a1 c z
            · exact b1 c z
        · cases h
  · cases rx with
    | @tup a1 v1 x1 f1 q1 =>
      cases ry with
      | @tup a2 v2 x2 f2 q2 =>
        split at h
        · rename_i hl
          cases h
          rw [bigLine_eq] at hl
          have e1 := q1.length
          have e2 := q2.length
          refine .inr (.inr (.inr ⟨a1, a2, v1, v2, rfl, rfl, f1.sq, f2.sq, by omega, fun e => ?_, fun _ e => ?_, fun _ _ p hp => ?_⟩))
          · subst e
            cases q1
            exact k _ γ H Ext.refl (.tup f2 q2) s
          · subst e
            cases q2
            rw [List.append_nil] at k
            exact k _ γ H Ext.refl (.tup f1 q1) s
          · have ex := Ext.upd (K := X.K) (G := G) s (o := .tup (v1 ++ v2)) hp
            exact k _ γ _ ex (.tup (.inl ⟨.inl upd_same, s.fresh hp⟩) ((q1.mono ex).append (q2.mono ex))) (s.upd hp)
        · cases h
  · split at h
    · rename_i xs ys hx hy
      split at h
      · rename_i hl
        cases h
        rw [bigLine_eq] at hl
        obtain ⟨a1, v1, rfl, h1, q1⟩ := lstOf_rep s hx rx
        obtain ⟨a2, v2, rfl, h2, q2⟩ := lstOf_rep s hy ry
        have e1 := q1.length
        have e2 := q2.length
        refine .inr (.inr (.inl ⟨a1, a2, v1, v2, rfl, rfl, h1, h2, by omega, fun p hp => ?_⟩))
        have ex := Ext.upd (K := X.K) (G := G) s (o := .lst (v1 ++ v2)) hp
        exact k _ γ _ ex (.lst upd_same (s.fresh hp) ((q1.mono ex).append (q2.mono ex))) (s.upd hp)
      · cases h
    · cases h
theorem o2_sub : OpR X (binaryOp .Sub) (rOf X.K G opSub) := by
  refine op_sub.imp ?_
  rintro x y H Q ⟨wx, wy, S, γ, w, rx, ry, s, h, k⟩
  unfold opSub at h
  split at h
  · cases rx; cases ry; cases h
    exact ⟨_, _, rfl, rfl, k _ γ H Ext.refl (.int _) s⟩
  · cases h
theorem reps_flat {K : PySem.W.Frag} {γ : Ga} {H : Hp} {xs : List W} {vs : List V} (q : Reps K G γ H xs vs) : ∀ n, Reps K G γ H (List.replicate n xs).flatten (List.replicate n vs).flatten
  | 0 => .nil
  | n + 1 => by
    rw [List.replicate_succ, List.replicate_succ, List.flatten_cons, List.flatten_cons]
    exact q.append (reps_flat q n)
theorem o2_mul : OpR X (binaryOp .Mult) (rOf X.K G opMul) := by
  refine (OpR.or op_mul op_rep).imp ?_
  rintro x y H Q ⟨wx, wy, S, γ, w, rx, ry, s, h, k⟩
  unfold opMul at h
  split at h
  · cases rx; cases ry
    split at h
    · rename_i i j hm
      cases h
      refine .inl ⟨_, _, rfl, rfl, ?_, k _ γ H Ext.refl (.int _) s⟩
      unfold mulOk at hm
      rw [Bool.or_eq_true, decide_eq_true_eq, decide_eq_true_eq] at hm
      unfold CMul
      omega
    · cases h
  · rename_i n _
    split at h
    · rename_i xs hx
      split at h
      · rename_i hl
        cases h
        cases ry
        obtain ⟨a1, v1, rfl, h1, q1⟩ := lstOf_rep s hx rx
        have e1 := q1.length
        obtain ⟨l1, l2, l3⟩ := hl
        rw [bigLine_eq] at l3
        refine .inr ⟨a1, _, v1, rfl, rfl, h1, by omega, by omega, by rw [← e1]; exact l3, fun p hp => ?_⟩
        have ex := Ext.upd (K := X.K) (G := G) s (o := .lst (List.replicate n.toNat v1).flatten) hp
        exact k _ γ _ ex (.lst upd_same (s.fresh hp) (reps_flat (q1.mono ex) _)) (s.upd hp)
      · cases h
    · cases h
  · cases h
theorem o2_div : OpR X (binaryOp .FloorDiv) (rOf X.K G opDiv) := by
  refine op_fdivW.imp ?_
  rintro x y H Q ⟨wx, wy, S, γ, w, rx, ry, s, h, k⟩
  unfold opDiv at h
  split at h
  · cases rx; cases ry
    split at h
    · rename_i hm
      cases h
      exact ⟨_, _, rfl, rfl, hm, k _ γ H Ext.refl (.int _) s⟩
    · cases h
  · cases h
theorem o2_mod : OpR X (binaryOp .Mod) (rOf X.K G opMod) := by
  refine op_mod.imp ?_
  rintro x y H Q ⟨wx, wy, S, γ, w, rx, ry, s, h, k⟩
  unfold opMod at h
  split at h
  · cases rx; cases ry
    split at h
    · rename_i hm
      cases h
      exact ⟨_, _, rfl, rfl, hm, k _ γ H Ext.refl (.int _) s⟩
    · cases h
  · cases h
theorem o2_pow : OpR X (binaryOp .Pow) (rOf X.K G opPow) := by
  refine op_pow.imp ?_
  rintro x y H Q ⟨wx, wy, S, γ, w, rx, ry, s, h, k⟩
  unfold opPow at h
  split at h
  · cases rx; cases ry
    split at h
    · rename_i hm
      cases h
      exact ⟨_, _, rfl, rfl, ⟨hm.1, hm.2.1, by have := hm.2.2; omega⟩, k _ γ H Ext.refl (.int _) s⟩
    · cases h
  · cases h
theorem o2_eq (hu : X.A.units + 64 < cLine) : OpR X (compareOp .Eq) (rOf X.K G opEq) := by
  refine (op_eqD hu).imp ?_
  rintro x y H Q ⟨wx, wy, S, γ, w, rx, ry, s, h, k⟩
  unfold opEq at h
  split at h
  · rename_i hm
    cases h
    obtain ⟨d1, s1⟩ := dp_plain s rx hm.1
    obtain ⟨d2, s2⟩ := dp_plain s ry hm.2
    exact ⟨_, _, d1, d2, s1, s2, by rw [eqv_of _ _ _ _ hm.1 hm.2]; exact k _ γ H Ext.refl (.bl _) s⟩
  · cases h
theorem o2_ne (hu : X.A.units + 64 < cLine) : OpR X (compareOp .NotEq) (rOf X.K G opNe) := by
  refine (op_neD hu).imp ?_
  rintro x y H Q ⟨wx, wy, S, γ, w, rx, ry, s, h, k⟩
  unfold opNe at h
  split at h
  · rename_i hm
    cases h
    obtain ⟨d1, s1⟩ := dp_plain s rx hm.1
    obtain ⟨d2, s2⟩ := dp_plain s ry hm.2
    exact ⟨_, _, d1, d2, s1, s2, by rw [eqv_of _ _ _ _ hm.1 hm.2]; exact k _ γ H Ext.refl (.bl _) s⟩
  · cases h
theorem o2_cmp {op : CmpOp} {p : Int → Int → Bool} {q : List Nat → List Nat → Bool} (h1 : OpR X (compareOp op) (rI0 fun i j => .bl (p i j)))
    (h2 : OpR X (compareOp op) (fun x y H Q => ∃ i j, x = .str i ∧ y = .str j ∧ Q (.bl (q i.cps.toList j.cps.toList)) H)) : OpR X (compareOp op) (rOf X.K G (opCmp p q)) := by
  refine (OpR.or h1 h2).imp ?_
  rintro x y H Q ⟨wx, wy, S, γ, w, rx, ry, s, h, k⟩
  unfold opCmp at h
  split at h
  · cases rx; cases ry; cases h
    exact .inl ⟨_, _, rfl, rfl, k _ γ H Ext.refl (.bl _) s⟩
  · cases rx; cases ry; cases h
    exact .inr ⟨_, _, rfl, rfl, k _ γ H Ext.refl (.bl _) s⟩
  · cases h
theorem o2_lt : OpR X (compareOp .Lt) (rOf X.K G opLt) := o2_cmp op_lt op_lt_str
theorem o2_le : OpR X (compareOp .LtE) (rOf X.K G opLe) := o2_cmp op_le (q := fun a b => !decide (b < a)) op_le_str
theorem o2_gt : OpR X (compareOp .Gt) (rOf X.K G opGt) := o2_cmp op_gt (q := fun a b => decide (b < a)) op_gt_str
theorem o2_ge : OpR X (compareOp .GtE) (rOf X.K G opGe) := o2_cmp op_ge (q := fun a b => !decide (a < b)) op_ge_str
end
end Mp

set_option Elab.async false
set_option linter.all false
set_option maxRecDepth 100000
set_option maxHeartbeats 4000000
/-! Mp: expressions. -/
namespace Mp
open PySem PySem.Spec PyProof.Rows L2
section
variable {K : PySem.W.Frag} {G : Gs} {γ : Ga} {H : Hp} {S : Store} {wx : Wx} {α : Type}
theorem rOf_of {o : O2} {x y : W} {v u : V} {Q : VK} (rx : Rep K G γ H x v) (ry : Rep K G γ H y u) (s : StoreOk K G γ H S) (h : Post K G (Rep K G) wx γ H (rOpt (o x y S) S) Q) : rOf K G o v u H Q := by
  cases e : o x y S with
  | none =>
    rw [e] at h
    exact h.elim
  | some w =>
    rw [e] at h
    exact ⟨x, y, S, γ, w, rx, ry, s, e, fun v γ' H' ex r s' => h v γ' H' ex r s'⟩
/-- an operator of one value -/
def ruOf (K : PySem.W.Frag) (G : Gs) (o : W → Store → Option W) : V → Hp → VK → Prop := fun x H Q => ∃ wx S γ w, Rep K G γ H wx x ∧ StoreOk K G γ H S ∧ o wx S = some w ∧
  ∀ v γ' H', Ext γ H γ' H' → Rep K G γ' H' w v → StoreOk K G γ' H' S → Q v H'
theorem ruOf_of {o : W → Store → Option W} {x : W} {v : V} {Q : VK} (rx : Rep K G γ H x v) (s : StoreOk K G γ H S) (h : Post K G (Rep K G) wx γ H (rOpt (o x S) S) Q) : ruOf K G o v H Q := by
  cases e : o x S with
  | none =>
    rw [e] at h
    exact h.elim
  | some w =>
    rw [e] at h
    exact ⟨x, S, γ, w, rx, s, e, fun v γ' H' ex r s' => h v γ' H' ex r s'⟩
/-- a built-in's call -/
def raOf (K : PySem.W.Frag) (G : Gs) (o : OA) : List V → Hp → VK → Prop := fun xs H Q => ∃ ws S γ w, Reps K G γ H ws xs ∧ StoreOk K G γ H S ∧ o ws S = some w ∧
  ∀ v γ' H', Ext γ H γ' H' → Rep K G γ' H' w v → StoreOk K G γ' H' S → Q v H'
theorem raOf_of {o : OA} {ws : List W} {vs : List V} {Q : VK} (rx : Reps K G γ H ws vs) (s : StoreOk K G γ H S) (h : Post K G (Rep K G) wx γ H (rOpt (o ws S) S) Q) : raOf K G o vs H Q := by
  cases e : o ws S with
  | none =>
    rw [e] at h
    exact h.elim
  | some w =>
    rw [e] at h
    exact ⟨ws, S, γ, w, rx, s, e, fun v γ' H' ex r s' => h v γ' H' ex r s'⟩
theorem truthy_rep {w : W} {v : V} {b : Bool} (s : StoreOk K G γ H S) (r : Rep K G γ H w v) (h : truthy S w = some b) : TruV K v H b := by
  have emp : ∀ {xs : List W} {vs : List V}, Reps K G γ H xs vs → xs.isEmpty = vs.isEmpty := fun q => by cases q <;> rfl
  cases r with
  | non => cases h; rfl
  | bl c => cases h; rfl
  | int i => cases h; rfl
  | str l h1 h2 =>
    cases h
    refine ⟨by simpa [Str.length] using h2, ?_⟩
    cases l with
    | nil => rfl
    | cons c l =>
      show true = _
      simp [Str.length]
      omega
  | tup f q =>
    cases h
    exact .inr (.inl ⟨_, f.sq, by rw [emp q]⟩)
  | lst h1 f q =>
    cases h
    exact .inl ⟨_, SqL.of h1, by rw [emp q]⟩
  | @ref i a h1 =>
    have h' : (match S[i]? with
      | some (.lst xs) => some (!xs.isEmpty)
      | _ => none) = some b := h
    split at h'
    · rename_i ys hc
      obtain ⟨_, vs, hv, q⟩ := s.cell i _ a hc h1
      cases h'
      exact .inl ⟨_, SqL.of hv, by rw [emp q]⟩
    · cases h'
  | scr f q => cases h
  | fn f => cases h
  | dct d f r => cases h
  | exc h1 f r => cases h
theorem tru_of {w : W} {v : V} {Q : Bool → Hp → Prop} (r : Rep K G γ H w v) (s : StoreOk K G γ H S) (h : Post K G relB wx γ H (rTruth w S) Q) : ∃ k, TruV K v H k ∧ Q k H := by
  unfold rTruth at h
  cases e : truthy S w with
  | none =>
    rw [e] at h
    exact h.elim
  | some b =>
    rw [e] at h
    exact ⟨b, truthy_rep s r e, h b γ H Ext.refl rfl s⟩
end
section
variable {X : Cx} {G : Gs} {x : Str} {pos p : Pos} {a b c : Expr} {es rest : List Expr} {f g h : ME} {ga : MA} {t u : MT} {o o' : O2}
theorem se_var (i : Nat) (hN : X.N[i]? = some x := by rfl) (hv : Vis X.env.scope x := by first | exact Or.inl rfl | exact Or.inr (Or.inl rfl) | exact Or.inr (Or.inr rfl)) (hd : (x == ("__debug__" : Str)) = false := by decide)
    (hcd : (x == ("__classdict__" : Str)) = false := by decide) : SE X G (.Name x pos) (mVar i) := by
  refine ⟨fun Wi tk => (pe_var hN hv hd hcd).imp ?_⟩
  rintro σ H Q ⟨η, S, γ, he, hs, q⟩
  unfold mVar at q
  split at q
  · rename_i w e
    obtain ⟨v, e1, r⟩ := he.2 i w e
    exact ⟨v, e1, q v γ H Ext.refl r hs⟩
  · exact q.elim
theorem se_c {e : Expr} {v : V} {w : W} (h : PE X e (tC v)) (r : ∀ γ H, Rep X.K G γ H w v) : SE X G e (mC w) := by
  refine ⟨fun Wi tk => h.imp ?_⟩
  rintro σ H Q ⟨η, S, γ, he, hs, q⟩
  exact q v γ H Ext.refl (r γ H) hs
theorem se_int {i : Int} {j : Nat} : SE X G (.Constant (.int i) j pos) (mC (.int i)) := se_c pe_int fun _ _ => .int i
theorem se_bl {i : Bool} {j : Nat} : SE X G (.Constant (.bool i) j pos) (mC (.bl i)) := se_c pe_bl fun _ _ => .bl i
theorem se_non {j : Nat} : SE X G (.Constant .none j pos) (mC .non) := se_c pe_non fun _ _ => .non
theorem rep_str {K : PySem.W.Frag} {γ : Ga} {H : Hp} {z : Str} {l : List Nat} (e : z = ⟨l.toArray⟩) (hl : (l.all (· < 0x110000) && decide (l.length ≤ 16777216)) = true) : Rep K G γ H (.str l) (.str z) := by
  subst e
  rw [Bool.and_eq_true, decide_eq_true_eq] at hl
  refine .str l (fun c hc => ?_) (by rw [sizeLine_eq]; exact hl.2)
  have := List.all_eq_true.mp hl.1 c hc
  simpa using this
theorem se_str {z : Str} {j : Nat} (l : List Nat) (e : z = ⟨l.toArray⟩ := by decide +kernel) (hl : (l.all (· < 0x110000) && decide (l.length ≤ 16777216)) = true := by decide +kernel) : SE X G (.Constant (.str z) j pos) (mC (.str l)) := se_c pe_str fun _ _ => rep_str e hl
/-- a constant of the module -/
theorem se_gstr {z : Str} (l : List Nat) (hm : ∃ t, X.mg x = some (.str z t)) (hg : Gl X x := by rfl) (e : z = ⟨l.toArray⟩ := by decide +kernel) (hl : (l.all (· < 0x110000) && decide (l.length ≤ 16777216)) = true := by decide +kernel) (hd : (x == ("__debug__" : Str)) = false := by decide) : SE X G (.Name x pos) (mC (.str l)) := by
  obtain ⟨t, hm⟩ := hm
  exact se_c (pe_glob (v := .str z) hg hm ⟨t, rfl⟩ hd) fun _ _ => rep_str e hl
theorem se_gint {i : Int} (hm : ∃ t, X.mg x = some (.int i t)) (hg : Gl X x := by rfl) (hd : (x == ("__debug__" : Str)) = false := by decide) : SE X G (.Name x pos) (mC (.int i)) := by
  obtain ⟨t, hm⟩ := hm
  exact se_c (pe_glob (v := .int i) hg hm ⟨t, rfl⟩ hd) fun _ _ => .int i
theorem se_fn (n : Nat) (hm : X.mg x = some (.ref (G.fa n))) (hg : Gl X x := by rfl) (hd : (x == ("__debug__" : Str)) = false := by decide) : SE X G (.Name x pos) (mC (.fn n)) :=
  se_c (pe_glob (v := .ref (G.fa n)) hg hm rfl hd) fun _ _ => .fn n
/-- code that the proof never comes to -/
theorem se_never {e : Expr} : SE X G e mStuck := ⟨fun Wi tk => ⟨fun pins s σ H Q I h => by
  obtain ⟨η, S, γ, he, hs, q⟩ := h
  exact q.elim⟩⟩
theorem se_bin {op : Operator} (ho : OpR X (binaryOp op) (rOf X.K G o)) (ha : SE X G a f) (hb : SE X G b g) : SE X G (.BinOp a op b pos) (mBin o f g) := by
  refine ⟨fun Wi tk => (pe_op ho (ha.run Wi tk) (hb.run Wi tk)).imp ?_⟩
  rintro σ H Q ⟨η, S, γ, he, hs, q⟩
  exact ⟨η, S, γ, he, hs, (Post.seq q).imp fun x H1 ⟨wx, S1, γ1, e1, r1, s1, q1⟩ => ⟨η, S1, γ1, he.mono e1, s1, (Post.seq q1).imp fun y H2 ⟨wy, S2, γ2, e2, r2, s2, q2⟩ => rOf_of (r1.mono e2) r2 s2 q2⟩⟩
theorem se_un {op : UnaryOp} {o : W → Store → Option W} (ho : UnR X (unaryOp op) (ruOf X.K G o)) (ha : SE X G a f) : SE X G (.UnaryOp op a pos) (mUn o f) := by
  refine ⟨fun Wi tk => (pe_un ho (ha.run Wi tk)).imp ?_⟩
  rintro σ H Q ⟨η, S, γ, he, hs, q⟩
  exact ⟨η, S, γ, he, hs, (Post.seq q).imp fun x H1 ⟨wx, S1, γ1, e1, r1, s1, q1⟩ => ruOf_of r1 s1 q1⟩
theorem un_negW : UnR X (unaryOp .USub) (ruOf X.K G opNeg) := fun pins s σ H x v Q I rx q => by
  refine un_neg pins s σ H x v Q I rx ?_
  obtain ⟨wx, S, γ, w, r, ss, h, k⟩ := q
  unfold opNeg at h
  split at h
  · cases r; cases h
    exact ⟨_, rfl, k _ γ H Ext.refl (.int _) ss⟩
  · cases h
theorem se_cmp {op : CmpOp} (ho : OpR X (compareOp op) (rOf X.K G o)) (ha : SE X G a f) (hb : SE X G b g) (hm : behindInMarks op b = false := by first | exact nobehind _ (by decide) (by decide) | rfl) : SE X G (.Compare a [op] [b] pos) (mBin o f g) := by
  refine ⟨fun Wi tk => (pe_cmpR ho (ha.run Wi tk) (hb.run Wi tk) hm).imp ?_⟩
  rintro σ H Q ⟨η, S, γ, he, hs, q⟩
  exact ⟨η, S, γ, he, hs, (Post.seq q).imp fun x H1 ⟨wx, S1, γ1, e1, r1, s1, q1⟩ => ⟨η, S1, γ1, he.mono e1, s1, (Post.seq q1).imp fun y H2 ⟨wy, S2, γ2, e2, r2, s2, q2⟩ => rOf_of (r1.mono e2) r2 s2 q2⟩⟩
theorem isN_sound {neg : Bool} : True := trivial
theorem se_isN {j : Nat} {p' : Pos} (ha : SE X G a f) : SE X G (.Compare a [.Is] [.Constant .none j p'] pos) (mUn opIsN f) := by
  refine ⟨fun Wi tk => (pe_cmpR op_isN (ha.run Wi tk) pe_non (nomark _)).imp ?_⟩
  rintro σ H Q ⟨η, S, γ, he, hs, q⟩
  refine ⟨η, S, γ, he, hs, (Post.seq q).imp fun x H1 ⟨wx, S1, γ1, e1, r1, s1, q1⟩ => ⟨rfl, ?_⟩⟩
  cases r1 <;> exact q1 _ γ1 H1 Ext.refl (.bl _) s1
theorem se_notN {j : Nat} {p' : Pos} (ha : SE X G a f) : SE X G (.Compare a [.IsNot] [.Constant .none j p'] pos) (mUn opNotN f) := by
  refine ⟨fun Wi tk => (pe_cmpR op_notN (ha.run Wi tk) pe_non (nomark _)).imp ?_⟩
  rintro σ H Q ⟨η, S, γ, he, hs, q⟩
  refine ⟨η, S, γ, he, hs, (Post.seq q).imp fun x H1 ⟨wx, S1, γ1, e1, r1, s1, q1⟩ => ⟨rfl, ?_⟩⟩
  cases r1 <;> exact q1 _ γ1 H1 Ext.refl (.bl _) s1
theorem se_chain {op op' : CmpOp} (ho : OpR X (compareOp op) (rOf X.K G o)) (ho' : OpR X (compareOp op') (rOf X.K G o')) (ha : SE X G a f) (hb : SE X G b g) (hc : SE X G c h) (hm : lastMarks [op, op'] [b, c] = false := by with_unfolding_all rfl) :
    SE X G (.Compare a [op, op'] [b, c] pos) (mChain o o' f g h) := by
  refine ⟨fun Wi tk => (pe_chain ho ho' (ha.run Wi tk) (hb.run Wi tk) (hc.run Wi tk) hm).imp ?_⟩
  rintro σ H Q ⟨η, S, γ, he, hs, q⟩
  refine ⟨η, S, γ, he, hs, (Post.seq q).imp fun x H1 ⟨wx, S1, γ1, e1, r1, s1, q1⟩ => ⟨η, S1, γ1, he.mono e1, s1, (Post.seq q1).imp fun y H2 ⟨wy, S2, γ2, e2, r2, s2, q2⟩ => ?_⟩⟩
  split at q2
  · rename_i e
    refine ⟨wx, wy, S2, γ2, _, r1.mono e2, r2, s2, e, fun v γ3 H3 e3 r3 s3 => ?_⟩
    cases r3
    refine ⟨true, rfl, ?_⟩
    rw [if_pos rfl]
    exact ⟨η, S2, γ3, ((he.mono e1).mono e2).mono e3, s3, (Post.seq (Post.base e3 q2)).imp fun z H4 ⟨wz, S4, γ4, e4, r4, s4, q4⟩ => rOf_of (r2.mono (e3.trans e4)) r4 s4 q4⟩
  · rename_i e
    refine ⟨wx, wy, S2, γ2, _, r1.mono e2, r2, s2, e, fun v γ3 H3 e3 r3 s3 => ?_⟩
    cases r3
    refine ⟨false, rfl, ?_⟩
    rw [if_neg Bool.false_ne_true]
    exact q2 _ γ3 H3 e3 (.bl _) s3
  · exact q2.elim
theorem se_one {op : BoolOp} (ha : SE X G a f) : SE X G (.BoolOp op [a] pos) f := ⟨fun Wi tk => pe_one (ha.run Wi tk)⟩
theorem se_and (ha : SE X G a f) (hb : SE X G (.BoolOp .And (b :: rest) pos) g) : SE X G (.BoolOp .And (a :: b :: rest) pos) (mAnd f g) := by
  refine ⟨fun Wi tk => (pe_andT (ha.run Wi tk) (hb.run Wi tk)).imp ?_⟩
  rintro σ H Q ⟨η, S, γ, he, hs, q⟩
  refine ⟨η, S, γ, he, hs, (Post.seq q).imp fun x H1 ⟨wx, S1, γ1, e1, r1, s1, q1⟩ => ?_⟩
  unfold rTruth at q1
  cases e : truthy S1 wx with
  | none =>
    rw [e] at q1
    exact q1.elim
  | some k =>
    rw [e] at q1
    refine ⟨k, truthy_rep s1 r1 e, ?_⟩
    cases k with
    | true => exact ⟨η, S1, γ1, he.mono e1, s1, q1⟩
    | false => exact q1 x γ1 H1 Ext.refl r1 s1
theorem se_or (ha : SE X G a f) (hb : SE X G (.BoolOp .Or (b :: rest) pos) g) : SE X G (.BoolOp .Or (a :: b :: rest) pos) (mOr f g) := by
  refine ⟨fun Wi tk => (pe_orT (ha.run Wi tk) (hb.run Wi tk)).imp ?_⟩
  rintro σ H Q ⟨η, S, γ, he, hs, q⟩
  refine ⟨η, S, γ, he, hs, (Post.seq q).imp fun x H1 ⟨wx, S1, γ1, e1, r1, s1, q1⟩ => ?_⟩
  unfold rTruth at q1
  cases e : truthy S1 wx with
  | none =>
    rw [e] at q1
    exact q1.elim
  | some k =>
    rw [e] at q1
    refine ⟨k, truthy_rep s1 r1 e, ?_⟩
    cases k with
    | false => exact ⟨η, S1, γ1, he.mono e1, s1, q1⟩
    | true => exact q1 x γ1 H1 Ext.refl r1 s1
theorem se_not (ha : SE X G a f) : SE X G (.UnaryOp .Not a pos) (mNot f) := by
  refine ⟨fun Wi tk => (pe_notT (ha.run Wi tk)).imp ?_⟩
  rintro σ H Q ⟨η, S, γ, he, hs, q⟩
  refine ⟨η, S, γ, he, hs, (Post.seq q).imp fun x H1 ⟨wx, S1, γ1, e1, r1, s1, q1⟩ => ?_⟩
  unfold rTruth at q1
  cases e : truthy S1 wx with
  | none =>
    rw [e] at q1
    exact q1.elim
  | some k =>
    rw [e] at q1
    exact ⟨k, truthy_rep s1 r1 e, q1 _ γ1 H1 Ext.refl (.bl _) s1⟩
/-! tests -/
theorem st_tru (ha : SE X G a f) (he : ∀ whole, isTrue a X.env whole = (do let v ← whole; standAt a.pos; holding [v] (PySem.truthy v)) := by intro _; rfl) : ST X G a (mTru f) := by
  refine ⟨fun Wi tk => (pt_truth (ha.run Wi tk) he).imp ?_⟩
  rintro σ H Q ⟨η, S, γ, he, hs, q⟩
  exact ⟨η, S, γ, he, hs, (Post.seq q).imp fun x H1 ⟨wx, S1, γ1, e1, r1, s1, q1⟩ => tru_of r1 s1 q1⟩
/-- a comparison as a test -/
def mTCmp (o : O2) (f g : ME) : MT := fun η S => (f η S).bind fun x S1 => (g η S1).bind fun y S2 => match o x y S2 with
  | some (.bl b) => .ok b S2
  | _ => .stuck
theorem st_cmp {op : CmpOp} (ho : OpR X (compareOp op) (rOf X.K G o)) (ha : SE X G a f) (hb : SE X G b g) (hm : behindInMarks op b = false := by first | exact nobehind _ (by decide) (by decide) | rfl) : ST X G (.Compare a [op] [b] pos) (mTCmp o f g) := by
  refine ⟨fun Wi tk => (pt_cmpR ho (ha.run Wi tk) (hb.run Wi tk) hm).imp ?_⟩
  rintro σ H Q ⟨η, S, γ, he, hs, q⟩
  refine ⟨η, S, γ, he, hs, (Post.seq q).imp fun x H1 ⟨wx, S1, γ1, e1, r1, s1, q1⟩ => ⟨η, S1, γ1, he.mono e1, s1, (Post.seq q1).imp fun y H2 ⟨wy, S2, γ2, e2, r2, s2, q2⟩ => ?_⟩⟩
  split at q2
  · rename_i k e
    refine ⟨wx, wy, S2, γ2, _, r1.mono e2, r2, s2, e, fun v γ3 H3 e3 r3 s3 => ?_⟩
    cases r3
    exact ⟨_, rfl, q2 _ γ3 H3 e3 rfl s3⟩
  · exact q2.elim
def mTUn (o : W → Store → Option W) (f : ME) : MT := fun η S => (f η S).bind fun x S1 => match o x S1 with
  | some (.bl b) => .ok b S1
  | _ => .stuck
theorem st_isN {j : Nat} {p' : Pos} (ha : SE X G a f) : ST X G (.Compare a [.Is] [.Constant .none j p'] pos) (mTUn opIsN f) := by
  refine ⟨fun Wi tk => (pt_cmpR op_isN (ha.run Wi tk) pe_non (nomark _)).imp ?_⟩
  rintro σ H Q ⟨η, S, γ, he, hs, q⟩
  refine ⟨η, S, γ, he, hs, (Post.seq q).imp fun x H1 ⟨wx, S1, γ1, e1, r1, s1, q1⟩ => ⟨rfl, _, rfl, ?_⟩⟩
  cases r1 <;> exact q1 _ γ1 H1 Ext.refl rfl s1
theorem st_notN {j : Nat} {p' : Pos} (ha : SE X G a f) : ST X G (.Compare a [.IsNot] [.Constant .none j p'] pos) (mTUn opNotN f) := by
  refine ⟨fun Wi tk => (pt_cmpR op_notN (ha.run Wi tk) pe_non (nomark _)).imp ?_⟩
  rintro σ H Q ⟨η, S, γ, he, hs, q⟩
  refine ⟨η, S, γ, he, hs, (Post.seq q).imp fun x H1 ⟨wx, S1, γ1, e1, r1, s1, q1⟩ => ⟨rfl, _, rfl, ?_⟩⟩
  cases r1 <;> exact q1 _ γ1 H1 Ext.refl rfl s1
def mTChain (o o' : O2) (f g h : ME) : MT := fun η S => (f η S).bind fun x S1 => (g η S1).bind fun y S2 => match o x y S2 with
  | some (.bl true) => (h η S2).bind fun y' S4 => (match o' y y' S4 with
    | some (.bl b) => .ok b S4
    | _ => .stuck)
  | some (.bl false) => .ok false S2
  | _ => .stuck
theorem st_chain {op op' : CmpOp} (ho : OpR X (compareOp op) (rOf X.K G o)) (ho' : OpR X (compareOp op') (rOf X.K G o')) (ha : SE X G a f) (hb : SE X G b g) (hc : SE X G c h) (hm : lastMarks [op, op'] [b, c] = false := by with_unfolding_all rfl) :
    ST X G (.Compare a [op, op'] [b, c] pos) (mTChain o o' f g h) := by
  refine ⟨fun Wi tk => (pt_chain ho ho' (ha.run Wi tk) (hb.run Wi tk) (hc.run Wi tk) hm).imp ?_⟩
  rintro σ H Q ⟨η, S, γ, he, hs, q⟩
  refine ⟨η, S, γ, he, hs, (Post.seq q).imp fun x H1 ⟨wx, S1, γ1, e1, r1, s1, q1⟩ => ⟨η, S1, γ1, he.mono e1, s1, (Post.seq q1).imp fun y H2 ⟨wy, S2, γ2, e2, r2, s2, q2⟩ => ?_⟩⟩
  split at q2
  · rename_i e
    refine ⟨wx, wy, S2, γ2, _, r1.mono e2, r2, s2, e, fun v γ3 H3 e3 r3 s3 => ?_⟩
    cases r3
    refine ⟨true, rfl, ?_⟩
    rw [if_pos rfl]
    refine ⟨η, S2, γ3, ((he.mono e1).mono e2).mono e3, s3, (Post.seq (Post.base e3 q2)).imp fun z H4 ⟨wz, S4, γ4, e4, r4, s4, q4⟩ => ?_⟩
    split at q4
    · rename_i k ek
      refine ⟨wy, wz, S4, γ4, _, r2.mono (e3.trans e4), r4, s4, ek, fun v γ5 H5 e5 r5 s5 => ?_⟩
      cases r5
      exact ⟨_, rfl, q4 _ γ5 H5 e5 rfl s5⟩
    · exact q4.elim
  · rename_i e
    refine ⟨wx, wy, S2, γ2, _, r1.mono e2, r2, s2, e, fun v γ3 H3 e3 r3 s3 => ?_⟩
    cases r3
    refine ⟨false, rfl, ?_⟩
    rw [if_neg Bool.false_ne_true]
    exact ⟨_, rfl, q2 _ γ3 H3 e3 rfl s3⟩
  · exact q2.elim
theorem st_not (ha : ST X G a t) : ST X G (.UnaryOp .Not a pos) (mTNot t) := by
  refine ⟨fun Wi tk => (pt_not (ha.run Wi tk)).imp ?_⟩
  rintro σ H Q ⟨η, S, γ, he, hs, q⟩
  refine ⟨η, S, γ, he, hs, (Post.seq (rel := relB) q).imp fun x H1 ⟨wx, S1, γ1, e1, r1, s1, q1⟩ => ?_⟩
  cases r1
  exact q1 _ γ1 H1 Ext.refl rfl s1
theorem sw_and1 (ha : ST X G a t) : SW X G (.BoolOp .And [a] pos) t := ⟨fun Wi tk => pw_and1 (ha.run Wi tk)⟩
theorem sw_or1 (ha : ST X G a t) : SW X G (.BoolOp .Or [a] pos) t := ⟨fun Wi tk => pw_or1 (ha.run Wi tk)⟩
theorem sw_and (ha : ST X G a t) (hb : SW X G (.BoolOp .And (b :: rest) pos) u) : SW X G (.BoolOp .And (a :: b :: rest) pos) (mTAnd t u) := by
  refine ⟨fun Wi tk => (pw_and (ha.run Wi tk) (hb.run Wi tk)).imp ?_⟩
  rintro σ H Q ⟨η, S, γ, he, hs, q⟩
  refine ⟨η, S, γ, he, hs, (Post.seq (rel := relB) q).imp fun x H1 ⟨wx, S1, γ1, e1, r1, s1, q1⟩ => ?_⟩
  cases r1
  cases x with
  | true => exact ⟨η, S1, γ1, he.mono e1, s1, q1⟩
  | false => exact q1 _ γ1 H1 Ext.refl rfl s1
theorem sw_or (ha : ST X G a t) (hb : SW X G (.BoolOp .Or (b :: rest) pos) u) : SW X G (.BoolOp .Or (a :: b :: rest) pos) (mTOr t u) := by
  refine ⟨fun Wi tk => (pw_or (ha.run Wi tk) (hb.run Wi tk)).imp ?_⟩
  rintro σ H Q ⟨η, S, γ, he, hs, q⟩
  refine ⟨η, S, γ, he, hs, (Post.seq (rel := relB) q).imp fun x H1 ⟨wx, S1, γ1, e1, r1, s1, q1⟩ => ?_⟩
  cases r1
  cases x with
  | false => exact ⟨η, S1, γ1, he.mono e1, s1, q1⟩
  | true => exact q1 _ γ1 H1 Ext.refl rfl s1
theorem st_w (h : SW X G a t) : ST X G a t := ⟨fun Wi tk => (h.run Wi tk).pt⟩
theorem se_if (hc : ST X G c t) (ha : SE X G a f) (hb : SE X G b g) : SE X G (.IfExp c a b pos) (mIf t f g) := by
  refine ⟨fun Wi tk => (pe_ifExp (hc.run Wi tk) (ha.run Wi tk) (hb.run Wi tk)).imp ?_⟩
  rintro σ H Q ⟨η, S, γ, he, hs, q⟩
  refine ⟨η, S, γ, he, hs, (Post.seq (rel := relB) q).imp fun x H1 ⟨wx, S1, γ1, e1, r1, s1, q1⟩ => ?_⟩
  cases r1
  cases x with
  | true => exact ⟨η, S1, γ1, he.mono e1, s1, q1⟩
  | false => exact ⟨η, S1, γ1, he.mono e1, s1, q1⟩
/-! lists of expressions -/
theorem sa_nil : SA X G [] maNil := by
  refine ⟨fun Wi tk => pa_nil.imp ?_⟩
  rintro σ H Q ⟨η, S, γ, he, hs, q⟩
  exact q _ γ H Ext.refl .nil hs
theorem sa_cons (ha : SE X G a f) (hr : SA X G es ga) (hs : starEach (a :: es) X.env = (false, eval a X.env) :: starEach es X.env := by rfl) : SA X G (a :: es) (maCons f ga) := by
  refine ⟨fun Wi tk => (pa_cons (ha.run Wi tk) (hr.run Wi tk) hs).imp ?_⟩
  rintro σ H Q ⟨η, S, γ, he, hs, q⟩
  exact ⟨η, S, γ, he, hs, (Post.seq q).imp fun x H1 ⟨wx, S1, γ1, e1, r1, s1, q1⟩ => ⟨η, S1, γ1, he.mono e1, s1, (Post.seq q1).imp fun y H2 ⟨wy, S2, γ2, e2, r2, s2, q2⟩ => q2 _ γ2 H2 Ext.refl (.cons (r1.mono e2) r2) s2⟩⟩
theorem sized_post {K : PySem.W.Frag} {γ : Ga} {H : Hp} {α β : Type} {rel : Rel α β} {wx : Wx} {n : Nat} {r : R α} {Q : β → Hp → Prop} (h : Post K G rel wx γ H (sized n r) Q) : n ≤ sizeLine ∧ Post K G rel wx γ H r Q := by
  unfold sized at h
  split at h
  · rename_i hl
    exact ⟨by rw [← bigLine_eq]; exact hl, h⟩
  · exact h.elim
theorem se_tup {x1 : Nat} (h : SA X G es ga) : SE X G (.Tuple es x1 pos) (mTup ga) := by
  refine ⟨fun Wi tk => (pe_tup (h.run Wi tk)).imp ?_⟩
  rintro σ H Q ⟨η, S, γ, he, hs, q⟩
  refine ⟨η, S, γ, he, hs, (Post.seq q).imp fun x H1 ⟨wx, S1, γ1, e1, r1, s1, q1⟩ => ?_⟩
  obtain ⟨hl, q1⟩ := sized_post q1
  refine ⟨by rw [← r1.length]; exact hl, fun p hp => ?_⟩
  have ex := Ext.upd (K := X.K) (G := G) s1 (o := .tup x) hp
  exact q1 _ γ1 _ ex (.tup (.inl ⟨.inl upd_same, s1.fresh hp⟩) (r1.mono ex)) (s1.upd hp)
theorem se_lst (h : SA X G es ga) : SE X G (.List es pos) (mLst ga) := by
  refine ⟨fun Wi tk => (pe_lst (h.run Wi tk)).imp ?_⟩
  rintro σ H Q ⟨η, S, γ, he, hs, q⟩
  refine ⟨η, S, γ, he, hs, (Post.seq q).imp fun x H1 ⟨wx, S1, γ1, e1, r1, s1, q1⟩ => ?_⟩
  obtain ⟨hl, q1⟩ := sized_post q1
  refine ⟨by rw [← r1.length]; exact hl, fun p hp => ?_⟩
  have ex := Ext.upd (K := X.K) (G := G) s1 (o := .lst x) hp
  exact q1 _ γ1 _ ex (.lst upd_same (s1.fresh hp) (r1.mono ex)) (s1.upd hp)
end
end Mp

set_option Elab.async false
set_option linter.all false
set_option maxRecDepth 100000
set_option maxHeartbeats 4000000
/-! Mp: statements, targets, loops. -/
namespace Mp
open PySem PySem.Spec PyProof.Rows L2
def PostS (K : PySem.W.Frag) (G : Gs) (Wi : WX) (γ : Ga) (H : Hp) (r : RS) (D : Ends) : Prop := match r with
  | .nx η' S' => ∀ σ' γ' H', Ext γ H γ' H' → EnvOk K G γ' H' η' σ' → StoreOk K G γ' H' S' → D.nx σ' H'
  | .bk η' S' => ∀ σ' γ' H', Ext γ H γ' H' → EnvOk K G γ' H' η' σ' → StoreOk K G γ' H' S' → D.bk σ' H'
  | .ct η' S' => ∀ σ' γ' H', Ext γ H γ' H' → EnvOk K G γ' H' η' σ' → StoreOk K G γ' H' S' → D.ct σ' H'
  | .ret w S' => ∀ v γ' H', Ext γ H γ' H' → Rep K G γ' H' w v → StoreOk K G γ' H' S' → D.rt v H'
  | .exc c x η' S' => ∀ v d σ' γ' H', Ext γ H γ' H' → EnvOk K G γ' H' η' σ' → Rep K G γ' H' x v → StoreOk K G γ' H' S' → H' d = some (.xd [(G.nm c, v)]) → γ'.Off d → Wi (.ref (G.ca c)) (some d) σ' H'
  | .stuck => False
section
variable {K : PySem.W.Frag} {G : Gs} {Wi : WX} {γ γ1 : Ga} {H H1 : Hp} {D : Ends}
theorem PostS.base {r : RS} (e : Ext γ H γ1 H1) (h : PostS K G Wi γ H r D) : PostS K G Wi γ1 H1 r D := by
  cases r with
  | nx η' S' => exact fun σ' γ' H' e' q s => h σ' γ' H' (e.trans e') q s
  | bk η' S' => exact fun σ' γ' H' e' q s => h σ' γ' H' (e.trans e') q s
  | ct η' S' => exact fun σ' γ' H' e' q s => h σ' γ' H' (e.trans e') q s
  | ret w S' => exact fun v γ' H' e' q s => h v γ' H' (e.trans e') q s
  | exc c x η' S' => exact fun v d σ' γ' H' e' q r s hd ho => h v d σ' γ' H' (e.trans e') q r s hd ho
  | stuck => exact h
/-- an expression ahead of a statement's end -/
theorem PostS.expr {α β : Type} {rel : Rel α β} {η : Env} {σ : L2.St} {r : R α} {k : α → Store → RS} (he : EnvOk K G γ H η σ) (h : PostS K G Wi γ H (r.toS η k) D) :
    Post K G rel (fun c d H' => Wi c d σ H') γ H r fun v H1 => ∃ w S1 γ1, Ext γ H γ1 H1 ∧ rel γ1 H1 w v ∧ StoreOk K G γ1 H1 S1 ∧ PostS K G Wi γ1 H1 (k w S1) D := by
  cases r with
  | ok w S' => exact fun v γ' H' e q s => ⟨w, S', γ', e, q, s, PostS.base e h⟩
  | exc c x S' => exact fun v d γ' H' e q s hd ho => h v d σ γ' H' e (he.mono e) q s hd ho
  | stuck => exact h
theorem PostS.next {r : RS} {k : MS} (h : PostS K G Wi γ H (r.next k) D) : PostS K G Wi γ H r { D with nx := fun σ' H' => ∃ η S γ1, EnvOk K G γ1 H' η σ' ∧ StoreOk K G γ1 H' S ∧ PostS K G Wi γ1 H' (k η S) D } := by
  cases r with
  | nx η' S' => exact fun σ' γ' H' e q s => ⟨η', S', γ', q, s, PostS.base e h⟩
  | bk η' S' => exact h
  | ct η' S' => exact h
  | ret w S' => exact h
  | exc c x η' S' => exact h
  | stuck => exact h
end
def tsOf (K : PySem.W.Frag) (G : Gs) (Wi : WX) (f : MS) : TS := fun D σ H => ∃ η S γ, EnvOk K G γ H η σ ∧ StoreOk K G γ H S ∧ PostS K G Wi γ H (f η S) D
structure SS (X : Cx) (G : Gs) (e : Stmt) (f : MS) : Prop where
  run : ∀ Wi, Takes X Wi → PS X e (tsOf X.K G Wi f)
structure SSs (X : Cx) (G : Gs) (e : List Stmt) (f : MS) : Prop where
  run : ∀ Wi, Takes X Wi → PSs X e (tsOf X.K G Wi f)
/-- targets: is: the slots that may change -/
def tgOf (K : PySem.W.Frag) (G : Gs) (is : List Nat) (g : MG) : TG := fun v σ H Q => ∃ η S γ w η' S', EnvOk K G γ H η σ ∧ StoreOk K G γ H S ∧ Rep K G γ H w v ∧ g w η S = some (η', S') ∧
  ∀ σ' γ' H', Ext γ H γ' H' → EnvOk K G γ' H' η' σ' → StoreOk K G γ' H' S' → σ'.length = σ.length → (∀ i, i ∉ is → σ'[i]? = σ[i]?) → Q σ' H'
def tgsOf (K : PySem.W.Frag) (G : Gs) (is : List Nat) (g : MGs) : TGs := fun vs σ H Q => ∃ η S γ ws η' S', EnvOk K G γ H η σ ∧ StoreOk K G γ H S ∧ Reps K G γ H ws vs ∧ g ws η S = some (η', S') ∧
  ∀ σ' γ' H', Ext γ H γ' H' → EnvOk K G γ' H' η' σ' → StoreOk K G γ' H' S' → σ'.length = σ.length → (∀ i, i ∉ is → σ'[i]? = σ[i]?) → Q σ' H'
structure SG (X : Cx) (G : Gs) (e : Expr) (is : List Nat) (g : MG) : Prop where
  run : PG X e (tgOf X.K G is g)
structure SGs (X : Cx) (G : Gs) (e : List Expr) (is : List Nat) (g : MGs) : Prop where
  run : PGs X e (tgsOf X.K G is g)
theorem _root_.L2.PG.imp {X : Cx} {e : Expr} {t t' : TG} (h : PG X e t) (i : ∀ v σ H Q, t' v σ H Q → t v σ H Q) : PG X e t' := ⟨fun pins s σ H v u Q I r q => h.run pins s σ H v u Q I r (i _ _ _ _ q)⟩
theorem _root_.L2.PGs.imp {X : Cx} {e : List Expr} {t t' : TGs} (h : PGs X e t) (i : ∀ v σ H Q, t' v σ H Q → t v σ H Q) : PGs X e t' := ⟨fun pins s σ H v u Q I r q => h.run pins s σ H v u Q I r (i _ _ _ _ q)⟩
/-- what holds of the place where code stands -/
structure Cfg (X : Cx) : Prop where
  calm : X.calm = true
  nd : X.N.Nodup
  own : PassesOwn (model X.prog X.w) X.A X.env X.xe
  un : X.A.units + 100 < cLine
theorem EnvOk.set {K : PySem.W.Frag} {G : Gs} {γ : Ga} {H : Hp} {η : Env} {σ : L2.St} {w : W} {v : V} (he : EnvOk K G γ H η σ) (r : Rep K G γ H w v) (i : Nat) : EnvOk K G γ H (η.set i (some w)) (σ.set i (some v)) := by
  refine ⟨by rw [List.length_set, List.length_set]; exact he.1, fun j u hj => ?_⟩
  by_cases hij : i = j
  · subst hij
    have hlt : i < η.length := by
      have := (List.getElem?_eq_some_iff.mp hj).1
      rwa [List.length_set] at this
    rw [List.getElem?_set_self hlt] at hj
    cases hj
    exact ⟨v, by rw [List.getElem?_set_self (by rw [← he.1]; exact hlt)], r⟩
  · rw [List.getElem?_set_ne hij] at hj
    rw [List.getElem?_set_ne hij]
    exact he.2 j u hj
section
variable {X : Cx} {G : Gs} {x : Str} {pos p : Pos} {a b c e : Expr} {es rest : List Expr} {f h : ME} {g : MG} {gs : MGs} {ga : MA} {t : MT} {st : Stmt} {sts : List Stmt} {m n : MS} {is js : List Nat}
theorem sss_nil : SSs X G [] sNx := by
  refine ⟨fun Wi tk => pss_nil.imp ?_⟩
  rintro D σ H ⟨η, S, γ, he, hs, q⟩
  exact q σ γ H Ext.refl he hs
theorem sss_cons (h1 : SS X G st m) (h2 : SSs X G sts n) : SSs X G (st :: sts) (sSeq m n) := by
  refine ⟨fun Wi tk => (pss_cons (h1.run Wi tk) (h2.run Wi tk)).imp ?_⟩
  rintro D σ H ⟨η, S, γ, he, hs, q⟩
  exact ⟨η, S, γ, he, hs, PostS.next q⟩
theorem sss_one (h1 : SS X G st m) : SSs X G [st] m := ⟨fun Wi tk => pss_one (h1.run Wi tk)⟩
theorem sss_never : SSs X G sts sStuck := ⟨fun Wi tk => ⟨fun pins s σ H D I q => by
  obtain ⟨η, S, γ, he, hs, q⟩ := q
  exact q.elim⟩⟩
theorem ss_pass : SS X G (.Pass pos) sNx := by
  refine ⟨fun Wi tk => ps_pass.imp ?_⟩
  rintro D σ H ⟨η, S, γ, he, hs, q⟩
  exact q σ γ H Ext.refl he hs
theorem ss_break : SS X G (.Break pos) sBreak := by
  refine ⟨fun Wi tk => ps_break.imp ?_⟩
  rintro D σ H ⟨η, S, γ, he, hs, q⟩
  exact q σ γ H Ext.refl he hs
theorem ss_continue : SS X G (.Continue pos) sCont := by
  refine ⟨fun Wi tk => ps_continue.imp ?_⟩
  rintro D σ H ⟨η, S, γ, he, hs, q⟩
  exact q σ γ H Ext.refl he hs
theorem ss_expr (ha : SE X G a f) (hsw : swapsWith a none pos.line X.env = pure false := by rfl) : SS X G (.Expr a pos) (sDrop f) := by
  refine ⟨fun Wi tk => (ps_expr (ha.run Wi tk) hsw).imp ?_⟩
  rintro D σ H ⟨η, S, γ, he, hs, q⟩
  exact ⟨η, S, γ, he, hs, (PostS.expr he q).imp fun v H1 ⟨w, S1, γ1, e1, r1, s1, q1⟩ => q1 σ γ1 H1 Ext.refl (he.mono e1) s1⟩
theorem ss_ret (ha : SE X G a f) : SS X G (.Return (some a) pos) (sRet f) := by
  refine ⟨fun Wi tk => (ps_ret (ha.run Wi tk)).imp ?_⟩
  rintro D σ H ⟨η, S, γ, he, hs, q⟩
  exact ⟨η, S, γ, he, hs, (PostS.expr he q).imp fun v H1 ⟨w, S1, γ1, e1, r1, s1, q1⟩ => q1 v γ1 H1 Ext.refl r1 s1⟩
theorem ss_retN : SS X G (.Return none pos) sRetN := by
  refine ⟨fun Wi tk => ps_retN.imp ?_⟩
  rintro D σ H ⟨η, S, γ, he, hs, q⟩
  exact q _ γ H Ext.refl .non hs
theorem ss_set (i : Nat) (cf : Cfg X) (ha : SE X G a f) (hi : X.N[i]? = some x := by rfl) (hx : Loc X.env.scope x := by first | exact Or.inl rfl | exact Or.inr rfl) (hsw : swapsWith a (some (.Name x p)) pos.line X.env = pure false := by rfl)
    (hf : X.fn x = true ∨ X.env.scope.names.lookup x = some .local := by first | exact .inl rfl | exact .inr rfl) : SS X G (.Assign [.Name x p] a pos) (sSet i f) := by
  refine ⟨fun Wi tk => (ps_set cf.nd hi hx (ha.run Wi tk) hsw hf).imp ?_⟩
  rintro D σ H ⟨η, S, γ, he, hs, q⟩
  exact ⟨η, S, γ, he, hs, (PostS.expr he q).imp fun v H1 ⟨w, S1, γ1, e1, r1, s1, q1⟩ => q1 _ γ1 H1 Ext.refl ((he.mono e1).set r1 i) s1⟩
theorem ss_if (hc : ST X G c t) (h1 : SSs X G sts m) {sts' : List Stmt} (h2 : SSs X G sts' n) : SS X G (.If c sts sts' pos) (sIf t m n) := by
  refine ⟨fun Wi tk => (ps_if (hc.run Wi tk) (h1.run Wi tk) (h2.run Wi tk)).imp ?_⟩
  rintro D σ H ⟨η, S, γ, he, hs, q⟩
  refine ⟨η, S, γ, he, hs, (PostS.expr (rel := relB) he q).imp fun v H1 ⟨w, S1, γ1, e1, r1, s1, q1⟩ => ?_⟩
  cases r1
  cases v with
  | true => exact ⟨η, S1, γ1, he.mono e1, s1, q1⟩
  | false => exact ⟨η, S1, γ1, he.mono e1, s1, q1⟩
/-! targets -/
theorem sg_name (i : Nat) (cf : Cfg X) (hi : X.N[i]? = some x := by rfl) (hx : Loc X.env.scope x := by first | exact Or.inl rfl | exact Or.inr rfl)
    (hf : X.fn x = true ∨ X.env.scope.names.lookup x = some .local := by first | exact .inl rfl | exact .inr rfl) : SG X G (.Name x pos) [i] (gVar i) := by
  refine ⟨(pg_name cf.nd hi hx hf).imp ?_⟩
  rintro v σ H Q ⟨η, S, γ, w, η', S', he, hs, r, e, q⟩
  cases e
  exact q _ γ H Ext.refl (he.set r i) hs (by rw [List.length_set]) fun j hj => List.getElem?_set_ne (fun z => hj (by simp [z]))
theorem sgs_nil : SGs X G [] [] gsNil := by
  refine ⟨pgs_nil.imp ?_⟩
  rintro vs σ H Q ⟨η, S, γ, ws, η', S', he, hs, r, e, q⟩
  cases r with
  | nil =>
    cases e
    exact ⟨rfl, q _ γ H Ext.refl he hs rfl fun _ _ => rfl⟩
  | cons r t => cases e
theorem sgs_cons (h1 : SG X G a is g) (h2 : SGs X G es js gs) (hs : (assignEach (a :: es) X.env).map (·.2) = assign a X.env :: (assignEach es X.env).map (·.2) := by rfl) : SGs X G (a :: es) (is ++ js) (gsCons g gs) := by
  refine ⟨(pgs_cons h1.run h2.run hs).imp ?_⟩
  rintro vs σ H Q ⟨η, S, γ, ws, η', S', he, hst, r, e, q⟩
  cases r with
  | nil => cases e
  | @cons w v ws vs r t =>
    unfold gsCons at e
    simp only [Option.bind_eq_bind] at e
    cases eg : g w η S with
    | none =>
      rw [eg] at e
      cases e
    | some p =>
      obtain ⟨η1, S1⟩ := p
      rw [eg] at e
      have e : gs ws η1 S1 = some (η', S') := e
      refine ⟨v, vs, rfl, η, S, γ, w, η1, S1, he, hst, r, eg, fun σ1 γ1 H1 e1 he1 hs1 hl1 hn1 => ?_⟩
      refine ⟨η1, S1, γ1, ws, η', S', he1, hs1, t.mono e1, e, fun σ2 γ2 H2 e2 he2 hs2 hl2 hn2 => ?_⟩
      exact q σ2 γ2 H2 (e1.trans e2) he2 hs2 (hl2.trans hl1) fun i hi => by
        rw [List.mem_append, not_or] at hi
        exact (hn2 i hi.2).trans (hn1 i hi.1)
theorem gs_len {X : Cx} {G : Gs} : True := trivial
theorem sg_tup {k : Nat} (nn : Nat) (cf : Cfg X) (h : SGs X G es is gs) (hn : (assignEach es X.env).length = nn := by rfl) (hst : (assignEach es X.env).findIdx? (·.1) = none := by rfl) (hl : ∀ ws η S r, gs ws η S = some r → ws.length = nn := by intro ws η S r z; first | (match ws, z with | [_, _], _ => rfl) | (match ws, z with | [_, _, _], _ => rfl)) : SG X G (.Tuple es k pos) is (gTupW gs) := by
  refine ⟨(pg_tup cf.calm h.run hn hst).imp ?_⟩
  rintro v σ H Q ⟨η, S, γ, w, η', S', he, hs, r, e, q⟩
  cases r with
  | tup f t =>
    have e : gs _ η S = some (η', S') := e
    refine ⟨_, _, rfl, f.sq, ?_, η, S, γ, _, η', S', he, hs, t, e, q⟩
    rw [← t.length]
    exact hl _ _ _ _ e
  | _ => cases e
theorem setAt_sound {K : PySem.W.Frag} {γ : Ga} {H : Hp} {S S' : Store} {o i w : W} {ov iv v : V} {Q : Hp → Prop} (s : StoreOk K G γ H S) (ro : Rep K G γ H o ov) (ri : Rep K G γ H i iv) (r : Rep K G γ H w v) (e : setAt o i w S = some S')
    (q : ∀ H', Ext γ H γ H' → StoreOk K G γ H' S' → Q H') : rSetL ov iv v H Q := by
  unfold setAt at e
  split at e
  · rename_i rr k
    cases ri
    cases ro with
    | @ref _ a ha =>
    split at e
    · rename_i xs hc
      obtain ⟨px, vs, hv, qv⟩ := s.cell _ _ a hc ha
      have hl := qv.length
      have pset : ∀ (xs : List W) (j : Nat), pures xs = true → w.pure = true → pures (xs.set j w) = true := by
        intro xs
        induction xs with
        | nil => intro j h1 h2; rfl
        | cons y ys ih =>
          intro j h1 h2
          rw [pures, Bool.and_eq_true] at h1
          cases j with
          | zero => rw [List.set_cons_zero, pures, h2, h1.2]; rfl
          | succ j => rw [List.set_cons_succ, pures, h1.1, ih j h1.2 h2]; rfl
      split at e
      · rename_i hk
        split at e
        · rename_i pw
          cases e
          obtain ⟨x1, x2⟩ := s.write hc ha (pset xs k.toNat px pw) (Reps.set r k.toNat qv)
          refine ⟨a, vs, k, k.toNat, rfl, rfl, hv, ?_, q _ x1 x2⟩
          unfold ixN
          rw [if_pos hk.1, if_pos (by rw [← hl]; exact hk.2)]
        · cases e
      · split at e
        · rename_i hk
          split at e
          · rename_i pw
            cases e
            obtain ⟨x1, x2⟩ := s.write hc ha (pset xs (k + xs.length).toNat px pw) (Reps.set r (k + xs.length).toNat qv)
            refine ⟨a, vs, k, (k + xs.length).toNat, rfl, rfl, hv, ?_, q _ x1 x2⟩
            unfold ixN
            rw [if_neg (by omega), if_pos (by rw [← hl]; exact hk.2), hl]
          · cases e
        · cases e
    · cases e
  · cases e
theorem sg_idx {fo fi : ME} (ho : SE X G a fo) (hi : SE X G b fi) (ha : ∀ v, assign (.Subscript a b pos) X.env v = (do
      let ov ← holding [v] (eval a X.env)
      let iv ← holding [v, ov] (eval b X.env)
      standAt pos
      holding [v, ov, iv] (setItem ov iv v)
      release [v, ov, iv] []) := by intro _; rfl) : SG X G (.Subscript a b pos) [] (gIdx fo fi) := by
  refine ⟨(pg_sub (ho.run (fun _ _ _ _ => False) takes0) (hi.run (fun _ _ _ _ => False) takes0) set_list ha).imp ?_⟩
  rintro v σ H Q ⟨η, S, γ, w, η', S', he, hs, r, e, q⟩
  unfold gIdx at e
  cases e1 : fo η S with
  | ok ow S1 =>
    rw [e1] at e
    refine ⟨η, S, γ, he, hs, ?_⟩
    rw [e1]
    intro ov γ1 H1 x1 ro s1
    cases e2 : fi η S1 with
    | ok iw S2 =>
      simp only [e2] at e
      refine ⟨η, S1, γ1, he.mono x1, s1, ?_⟩
      rw [e2]
      intro iv γ2 H2 x2 ri s2
      cases e3 : setAt ow iw w S2 with
      | none =>
        rw [e3] at e
        cases e
      | some S3 =>
        rw [e3] at e
        cases e
        exact setAt_sound s2 (ro.mono x2) ri ((r.mono x1).mono x2) e3 fun H3 x3 s3 => q σ γ2 H3 ((x1.trans x2).trans x3) (((he.mono x1).mono x2).mono x3) s3 rfl fun _ _ => rfl
    | exc c x S2 => simp only [e2] at e; cases e
    | stuck => simp only [e2] at e; cases e
  | exc c x S2 => rw [e1] at e; cases e
  | stuck => rw [e1] at e; cases e
/-- target = e -/
theorem ss_asg (ha : SE X G a f) (hg : SG X G b is g) (hs : swapsWithSole [b] a pos.line X.env = pure false := by rfl) (hw : swappedStores [b] a X.env = pure none := by rfl)
    (h1 : (assignEach [b] X.env).map (·.2) = [assign b X.env] := by rfl) : SS X G (.Assign [b] a pos) (sAsg f g) := by
  refine ⟨fun Wi tk => (ps_asg (ha.run Wi tk) hg.run hs hw h1).imp ?_⟩
  rintro D σ H ⟨η, S, γ, he, hs, q⟩
  refine ⟨η, S, γ, he, hs, (PostS.expr he q).imp fun v H1 ⟨w, S1, γ1, e1, r1, s1, q1⟩ => ?_⟩
  unfold optS at q1
  cases eg : g w η S1 with
  | none =>
    rw [eg] at q1
    exact q1.elim
  | some z =>
    obtain ⟨η', S'⟩ := z
    rw [eg] at q1
    exact ⟨η, S1, γ1, w, η', S', he.mono e1, s1, r1, eg, fun σ' γ' H' x he' s' _ _ => q1 σ' γ' H' x he' s'⟩
/-- a, b = x, y: plain names -/
def sPar (i j : Nat) (g : MA) : MS := fun η S => (g η S).toS η fun ws S1 => match ws with
  | [w, u] => .nx ((η.set i (some w)).set j (some u)) S1
  | _ => .stuck
theorem ss_par {x y : Str} {px py pt : Pos} {kt k2 pt2} (i j : Nat) (cf : Cfg X) (ha : SA X G [a, b] ga) (hi : X.N[i]? = some x := by rfl) (hj : X.N[j]? = some y := by rfl) (hij : i ≠ j := by decide)
    (hx : X.env.scope.names.lookup x = some .local := by rfl) (hy : X.env.scope.names.lookup y = some .local := by rfl) 
    (hw : swappedStores [.Tuple [.Name x px, .Name y py] kt pt] (.Tuple [a, b] k2 pt2) X.env = pure (some [x, y]) := by rfl)
    (hs : swapsWithSole [.Tuple [.Name x px, .Name y py] kt pt] (.Tuple [a, b] k2 pt2) pos.line X.env = pure false := by rfl) : SS X G (.Assign [.Tuple [.Name x px, .Name y py] kt pt] (.Tuple [a, b] k2 pt2) pos) (sPar i j ga) := by
  refine ⟨fun Wi tk => (ps_par cf.calm cf.nd hi hj hij hx hy (ha.run Wi tk) hw hs).imp ?_⟩
  rintro D σ H ⟨η, S, γ, he, hs, q⟩
  refine ⟨η, S, γ, he, hs, (PostS.expr he q).imp fun v H1 ⟨w, S1, γ1, e1, r1, s1, q1⟩ => ?_⟩
  split at q1
  · cases r1 with
    | cons r r1 =>
      cases r1 with
      | cons r' r1 =>
        cases r1
        exact ⟨_, _, rfl, q1 _ γ1 H1 Ext.refl (((he.mono e1).set r i).set r' j) s1⟩
  · exact q1.elim
def sPar3 (i j l : Nat) (g : MA) : MS := fun η S => (g η S).toS η fun ws S1 => match ws with
  | [w, u, z] => .nx (((η.set i (some w)).set j (some u)).set l (some z)) S1
  | _ => .stuck
end
end Mp

set_option Elab.async false
set_option linter.all false
set_option maxRecDepth 100000
set_option maxHeartbeats 4000000
/-! Mp: what is walked; for, while, comprehensions. -/
namespace Mp
open PySem PySem.Spec PyProof.Rows L2
/-- an iterator that gives the items xs, from γ0, H0 on -/
structure ItOk (K : PySem.W.Frag) (G : Gs) (J : It) (xs : List W) (γ0 : Ga) (H0 : Hp) : Prop where
  go : ∀ (i : Nat) γ H S, i < xs.length → ExtW γ0 H0 γ H → StoreOk K G γ H S → J.go i H
  stop : ∀ γ H S, ExtW γ0 H0 γ H → StoreOk K G γ H S → J.stop xs.length H
  yld : ∀ (i : Nat) (w : W) γ H S x H', xs[i]? = some w → ExtW γ0 H0 γ H → StoreOk K G γ H S → J.yld i H x H' → Ext γ H γ H' ∧ StoreOk K G γ H' S ∧ Rep K G γ H' w x
def PostI (K : PySem.W.Frag) (G : Gs) (wx : Wx) (γ : Ga) (H : Hp) (r : R (List W)) (Q : It → Hp → Prop) : Prop := match r with
  | .ok xs S' => ∀ J γ' H', Ext γ H γ' H' → StoreOk K G γ' H' S' → ItOk K G J xs γ' H' → Q J H'
  | .exc c x S' => ∀ v d γ' H', Ext γ H γ' H' → Rep K G γ' H' x v → StoreOk K G γ' H' S' → H' d = some (.xd [(G.nm c, v)]) → γ'.Off d → wx (.ref (G.ca c)) (some d) H'
  | .stuck => False
def tiOf (K : PySem.W.Frag) (G : Gs) (Wi : WX) (f : MI) : TI := fun σ H R => ∃ η S γ, EnvOk K G γ H η σ ∧ StoreOk K G γ H S ∧ PostI K G (fun c d H' => Wi c d σ H') γ H (f η S) R
structure SI (X : Cx) (G : Gs) (tg it : Expr) (f : MI) : Prop where
  run : ∀ Wi, Takes X Wi → PI X tg it (tiOf X.K G Wi f)
theorem _root_.L2.PI.imp {X : Cx} {tg e : Expr} {t t' : TI} (h : PI X tg e t) (i : ∀ σ H R, t' σ H R → t σ H R) : PI X tg e t' := ⟨fun pins s σ H R I q => h.run pins s σ H R I (i _ _ _ q)⟩
theorem _root_.L2.PI.or {X : Cx} {tg e : Expr} {t t' : TI} (h : PI X tg e t) (h' : PI X tg e t') : PI X tg e (fun σ H R => t σ H R ∨ t' σ H R) := ⟨fun pins s σ H R I q => q.elim (h.run pins s σ H R I) (h'.run pins s σ H R I)⟩
theorem PostI.base {K : PySem.W.Frag} {G : Gs} {wx : Wx} {γ γ1 : Ga} {H H1 : Hp} {r : R (List W)} {Q : It → Hp → Prop} (e : Ext γ H γ1 H1) (h : PostI K G wx γ H r Q) : PostI K G wx γ1 H1 r Q := by
  cases r with
  | ok w S' => exact fun J γ' H' e' s i => h J γ' H' (e.trans e') s i
  | exc c x S' => exact fun v d γ' H' e' q s hd ho => h v d γ' H' (e.trans e') q s hd ho
  | stuck => exact h
theorem PostI.seq {K : PySem.W.Frag} {G : Gs} {wx : Wx} {γ : Ga} {H : Hp} {α β : Type} {rel : Rel α β} {r : R α} {k : α → Store → R (List W)} {Q : It → Hp → Prop} (h : PostI K G wx γ H (r.bind k) Q) :
    Post K G rel wx γ H r fun v H1 => ∃ w S1 γ1, Ext γ H γ1 H1 ∧ rel γ1 H1 w v ∧ StoreOk K G γ1 H1 S1 ∧ PostI K G wx γ1 H1 (k w S1) Q := by
  cases r with
  | ok w S' => exact fun v γ' H' e q s => ⟨w, S', γ', e, q, s, PostI.base e h⟩
  | exc c x S' => exact h
  | stuck => exact h
/-- the items of a list, a tuple, a text -/
def seqI : W → Option (List W)
  | .lst xs => some xs
  | .scr xs => some xs
  | .tup xs => some xs
  | .str s => some (s.map fun c => .str [c])
  | _ => none
def miSeq (f : ME) : MI := fun η S => (f η S).bind fun w S1 => rOpt (seqI w) S1
section
variable {K : PySem.W.Frag} {G : Gs} {γ : Ga} {H : Hp} {S : Store}
theorem itOk_list {a : Addr} {xs : List W} {vs : List V} (st : ∀ {γ' H'}, ExtW γ H γ' H' → SqL K H' a vs) (q : Reps K G γ H xs vs) : ItOk K G (Itl K a) xs γ H := by
  refine ⟨fun i γ' H' S hi e _ => ?_, fun γ' H' S e _ => ⟨vs, st e, Nat.le_of_eq q.length.symm⟩, fun i w γ' H' S x H'' hw e s y => ?_⟩
  · have hl : i < vs.length := by rw [← q.length]; exact hi
    exact ⟨vs, vs[i], st e, List.getElem?_eq_getElem hl⟩
  · obtain ⟨e1, y⟩ := y
    subst e1
    obtain ⟨v, hv, r⟩ := q.get hw
    have z := y vs (st e)
    rw [hv] at z
    cases z
    exact ⟨Ext.refl, s, r.monoW e⟩
theorem itOk_tup {a : Addr} {xs : List W} {vs : List V} (h : FrT K γ H a vs) (q : Reps K G γ H xs vs) : ItOk K G (Itt K a) xs γ H := by
  have st : ∀ {γ' H'}, ExtW γ H γ' H' → SqT K H' a vs := fun e => (h.monoW e).sq
  refine ⟨fun i γ' H' S hi e _ => ?_, fun γ' H' S e _ => ⟨vs, st e, Nat.le_of_eq q.length.symm⟩, fun i w γ' H' S x H'' hw e s y => ?_⟩
  · have hl : i < vs.length := by rw [← q.length]; exact hi
    exact ⟨vs, vs[i], st e, List.getElem?_eq_getElem hl⟩
  · obtain ⟨e1, y⟩ := y
    subst e1
    obtain ⟨v, hv, r⟩ := q.get hw
    have z := y vs (st e)
    rw [hv] at z
    cases z
    exact ⟨Ext.refl, s, r.monoW e⟩
theorem itOk_str {l : List Nat} (h1 : ∀ c ∈ l, c < 0x110000) : ItOk K G (Its ⟨l.toArray⟩) (l.map fun c => .str [c]) γ H := by
  refine ⟨fun i γ' H' S hi e _ => ?_, fun γ' H' S e _ => ?_, fun i w γ' H' S x H'' hw e s y => ?_⟩
  · rw [List.length_map] at hi
    show i < l.toArray.size
    simpa using hi
  · rw [List.length_map]
    show l.toArray.size ≤ l.length
    simp
  · obtain ⟨e1, c, hc, rfl⟩ := y
    subst e1
    have hc' : l[i]? = some c := by simpa using hc
    rw [List.getElem?_map, hc'] at hw
    cases hw
    refine ⟨Ext.refl, s, .str [c] (fun d hd => ?_) (by rw [sizeLine_eq]; show 1 ≤ 16777216; decide)⟩
    have : d = c := by simpa using hd
    rw [this]
    exact h1 c (List.mem_of_getElem? hc')
theorem itOk_range {lo : Int} {n : Nat} : ItOk K G (Itr lo n) ((List.range n).map fun (i : Nat) => W.int (lo + i)) γ H := by
  refine ⟨fun i γ' H' S hi e _ => ?_, fun γ' H' S e _ => ?_, fun i w γ' H' S x H'' hw e s y => ?_⟩
  · rw [List.length_map, List.length_range] at hi
    exact hi
  · rw [List.length_map, List.length_range]
    exact Nat.le_refl n
  · obtain ⟨e1, rfl⟩ := y
    subst e1
    rw [List.getElem?_map] at hw
    by_cases hi : i < n
    · rw [List.getElem?_range hi] at hw
      cases hw
      exact ⟨Ext.refl, s, .int _⟩
    · rw [List.getElem?_eq_none (by rw [List.length_range]; omega)] at hw
      cases hw
end
section
variable {X : Cx} {G : Gs} {tg a b e : Expr} {pos p : Pos} {f h : ME} {g : MG} {ga : MA} {t : MT} {m : MS} {it : MI} {is own : List Nat}
theorem si_seq (ha : SE X G a f) : SI X G tg a (miSeq f) := by
  refine ⟨fun Wi tk => (PI.or (pi_list (ha.run Wi tk)) (PI.or (pi_tup (ha.run Wi tk)) (pi_str (ha.run Wi tk)))).imp ?_⟩
  rintro σ H R ⟨η, S, γ, he, hs, q⟩
  have key : Post X.K G (Rep X.K G) (fun c d H' => Wi c d σ H') γ H (f η S) (fun v H1 => ∃ w S1 γ1, Ext γ H γ1 H1 ∧ Rep X.K G γ1 H1 w v ∧ StoreOk X.K G γ1 H1 S1 ∧ PostI X.K G (fun c d H' => Wi c d σ H') γ1 H1 (rOpt (seqI w) S1) R) := PostI.seq q
  cases ef : f η S with
  | ok w S1 =>
    rw [ef] at key
    cases w with
    | lst xs =>
      refine .inl ⟨η, S, γ, he, hs, ?_⟩
      rw [ef]
      intro v γ1 H1 e1 r1 s1
      have q' : PostI X.K G (fun c d H' => Wi c d σ H') γ H ((f η S).bind fun w S1 => rOpt (seqI w) S1) R := q
      rw [ef] at q'
      cases r1 with
      | lst h1 o1 q1 => exact ⟨_, rfl, ⟨_, SqL.of h1⟩, q' _ γ1 H1 e1 s1 (itOk_list (fun e => .inl (e.rd (.inl h1) o1).1) q1)⟩
    | scr xs =>
      refine .inl ⟨η, S, γ, he, hs, ?_⟩
      rw [ef]
      intro v γ1 H1 e1 r1 s1
      have q' : PostI X.K G (fun c d H' => Wi c d σ H') γ H ((f η S).bind fun w S1 => rOpt (seqI w) S1) R := q
      rw [ef] at q'
      cases r1 with
      | scr h1 q1 => exact ⟨_, rfl, ⟨_, h1.sq⟩, q' _ γ1 H1 e1 s1 (itOk_list (fun e => (h1.monoW e).sq) q1)⟩
    | tup xs =>
      refine .inr (.inl ⟨η, S, γ, he, hs, ?_⟩)
      rw [ef]
      intro v γ1 H1 e1 r1 s1
      have q' : PostI X.K G (fun c d H' => Wi c d σ H') γ H ((f η S).bind fun w S1 => rOpt (seqI w) S1) R := q
      rw [ef] at q'
      cases r1 with
      | tup h1 q1 => exact ⟨_, rfl, ⟨_, h1.sq⟩, q' _ γ1 H1 e1 s1 (itOk_tup h1 q1)⟩
    | str l =>
      refine .inr (.inr ⟨η, S, γ, he, hs, ?_⟩)
      rw [ef]
      intro v γ1 H1 e1 r1 s1
      have q' : PostI X.K G (fun c d H' => Wi c d σ H') γ H ((f η S).bind fun w S1 => rOpt (seqI w) S1) R := q
      rw [ef] at q'
      cases r1 with
      | str _ h1 h2 => exact ⟨_, rfl, q' _ γ1 H1 e1 s1 (itOk_str h1)⟩
    | _ =>
      exfalso
      have q' : PostI X.K G (fun c d H' => Wi c d σ H') γ H ((f η S).bind fun w S1 => rOpt (seqI w) S1) R := q
      rw [ef] at q'
      exact q'
  | exc c x S1 =>
    refine .inl ⟨η, S, γ, he, hs, ?_⟩
    have q' : PostI X.K G (fun c d H' => Wi c d σ H') γ H ((f η S).bind fun w S1 => rOpt (seqI w) S1) R := q
    rw [ef] at q' ⊢
    exact q'
  | stuck =>
    exfalso
    have q' : PostI X.K G (fun c d H' => Wi c d σ H') γ H ((f η S).bind fun w S1 => rOpt (seqI w) S1) R := q
    rw [ef] at q'
    exact q'
def rangeW (lo : Int) (n : Nat) : List W := (List.range n).map fun (i : Nat) => W.int (lo + i)
def rng1 : List W → Option (List W)
  | [.int j] => if -4611686018427387904 ≤ j ∧ j < 4611686018427387904 then some (rangeW 0 j.toNat) else none
  | _ => none
def rng2 : List W → Option (List W)
  | [.int i, .int j] => if -4611686018427387904 ≤ i ∧ i < 4611686018427387904 ∧ -4611686018427387904 ≤ j ∧ j < 4611686018427387904 then some (rangeW i (j - i).toNat) else none
  | _ => none
def miRng (o : List W → Option (List W)) (ga : MA) : MI := fun η S => (ga η S).bind fun ws S1 => rOpt (o ws) S1
theorem si_range1 (hm : X.mg "range" = none) (ha : SA X G [a] ga) (hg : Gl X "range" := by rfl) (hs : starEach [a] X.env = [(false, eval a X.env)] := by rfl) : SI X G tg (.Call (.Name "range" p) [a] [] pos) (miRng rng1 ga) := by
  refine ⟨fun Wi tk => (pi_range1 hg hm (ha.run Wi tk) hs).imp ?_⟩
  rintro σ H R ⟨η, S, γ, he, hs, q⟩
  refine ⟨η, S, γ, he, hs, (PostI.seq q).imp fun x H1 ⟨wx, S1, γ1, e1, r1, s1, q1⟩ => ?_⟩
  unfold rng1 at q1
  split at q1
  · split at q1
    · rename_i hj
      cases r1 with
      | cons r r1 =>
        cases r1
        cases r
        exact ⟨_, rfl, by omega, by omega, q1 _ γ1 H1 Ext.refl s1 itOk_range⟩
    · exact q1.elim
  · exact q1.elim
theorem si_range2 (hm : X.mg "range" = none) (ha : SA X G [a, b] ga) (hg : Gl X "range" := by rfl) (hs : starEach [a, b] X.env = [(false, eval a X.env), (false, eval b X.env)] := by rfl) (hs2 : starEach [b] X.env = [(false, eval b X.env)] := by rfl) :
    SI X G tg (.Call (.Name "range" p) [a, b] [] pos) (miRng rng2 ga) := by
  refine ⟨fun Wi tk => (pi_range2 hg hm (ha.run Wi tk) hs hs2).imp ?_⟩
  rintro σ H R ⟨η, S, γ, he, hs, q⟩
  refine ⟨η, S, γ, he, hs, (PostI.seq q).imp fun x H1 ⟨wx, S1, γ1, e1, r1, s1, q1⟩ => ?_⟩
  unfold rng2 at q1
  split at q1
  · split at q1
    · rename_i hj
      cases r1 with
      | cons r r1 =>
        cases r1 with
        | cons r' r1 =>
          cases r1
          cases r
          cases r'
          exact ⟨_, _, rfl, ⟨by omega, by omega, by omega, by omega⟩, q1 _ γ1 H1 Ext.refl s1 itOk_range⟩
    · exact q1.elim
  · exact q1.elim
/-! loops -/
theorem postS_turn {K : PySem.W.Frag} {Wi : WX} {γ : Ga} {H : Hp} {D : Ends} {r : RS} {k : MS} {N : L2.St → Hp → Prop}
    (hN : ∀ η2 S2 γ2 σ2 H2, EnvOk K G γ2 H2 η2 σ2 → StoreOk K G γ2 H2 S2 → Ext γ H γ2 H2 → PostS K G Wi γ2 H2 (k η2 S2) D → N σ2 H2)
    (h : PostS K G Wi γ H (match r with
      | .nx η2 S2 => k η2 S2
      | .ct η2 S2 => k η2 S2
      | .bk η2 S2 => .nx η2 S2
      | r => r) D) : PostS K G Wi γ H r { D with nx := N, ct := N, bk := D.nx } := by
  cases r with
  | nx η' S' => exact fun σ' γ' H' e q s => hN η' S' γ' σ' H' q s e (PostS.base e h)
  | bk η' S' => exact h
  | ct η' S' => exact fun σ' γ' H' e q s => hN η' S' γ' σ' H' q s e (PostS.base e h)
  | ret w S' => exact h
  | exc c x η' S' => exact h
  | stuck => exact h
theorem for_turns {K : PySem.W.Frag} {Wi : WX} {γ0 : Ga} {H0 : Hp} {J : It} {xs : List W} {D : Ends} {η0 : Env} {S0 : Store} {σ0 : L2.St} (ok : ItOk K G J xs γ0 H0) (he : EnvOk K G γ0 H0 η0 σ0) (hs : StoreOk K G γ0 H0 S0)
    (h : PostS K G Wi γ0 H0 (forL g m xs η0 S0) D) : ∃ Wv : Nat → Nat → L2.St → Hp → Prop, (∃ k, Wv 0 k σ0 H0) ∧ ∀ i k σ H, Wv i k σ H →
      (J.stop i H ∧ D.nx σ H) ∨ (J.go i H ∧ ∃ N : L2.St → Hp → Prop, (∀ σ' H', N σ' H' → ∃ k', k' < k ∧ Wv (i + 1) k' σ' H') ∧ ∀ x H', J.yld i H x H' → tgOf K G is g x σ H' fun σ2 H2 => tsOf K G Wi m { D with nx := N, ct := N, bk := D.nx } σ2 H2) := by
  refine ⟨fun i k σ H => k = xs.length - i ∧ i ≤ xs.length ∧ ∃ η S γ, EnvOk K G γ H η σ ∧ StoreOk K G γ H S ∧ Ext γ0 H0 γ H ∧ PostS K G Wi γ H (forL g m (xs.drop i) η S) D, ⟨xs.length, rfl, Nat.zero_le _, η0, S0, γ0, he, hs, Ext.refl, h⟩, ?_⟩
  rintro i k σ H ⟨rfl, hi, η, S, γ, he, hs, ex, q⟩
  by_cases hlt : i < xs.length
  · refine .inr ⟨ok.go i γ H S hlt ex.w hs, _, fun σ' H' z => ⟨xs.length - (i + 1), by omega, z⟩, fun x H' y => ?_⟩
    obtain ⟨e1, s1, r1⟩ := ok.yld i xs[i] γ H S x H' (List.getElem?_eq_getElem hlt) ex.w hs y
    rw [List.drop_eq_getElem_cons hlt] at q
    unfold forL at q
    cases eg : g xs[i] η S with
    | none =>
      rw [eg] at q
      exact q.elim
    | some z =>
      obtain ⟨η1, S1⟩ := z
      rw [eg] at q
      refine ⟨η, S, γ, xs[i], η1, S1, he.mono e1, s1, r1, eg, fun σ2 γ2 H2 e2 he2 s2 _ _ => ⟨η1, S1, γ2, he2, s2, ?_⟩⟩
      refine postS_turn (k := forL g m (xs.drop (i + 1))) (fun η3 S3 γ3 σ3 H3 he3 s3 e3 q3 => ⟨rfl, hlt, η3, S3, γ3, he3, s3, ((ex.trans e1).trans e2).trans e3, q3⟩) (PostS.base (e1.trans e2) q)
  · have e : i = xs.length := by omega
    subst e
    rw [List.drop_length] at q
    exact .inl ⟨ok.stop γ H S ex.w hs, q σ γ H Ext.refl he hs⟩
theorem ss_for {sts : List Stmt} (cf : Cfg X) (hi : SI X G tg a it) (hg : SG X G tg is g) (hb : SSs X G sts m) (hs : ∀ x, foldedSetIterable a X.env x = pure x := by intro _; rfl) : SS X G (.For tg a sts [] pos) (sFor it g m) := by
  refine ⟨fun Wi tk => (ps_for cf.own cf.calm (hi.run Wi tk) hg.run (hb.run Wi tk) hs).imp ?_⟩
  rintro D σ H ⟨η, S, γ, he, hs, q⟩
  refine ⟨η, S, γ, he, hs, ?_⟩
  have q : PostS X.K G Wi γ H ((it η S).toS η fun xs S1 => forL g m xs η S1) D := q
  cases ei : it η S with
  | ok xs S1 =>
    rw [ei] at q
    intro J γ1 H1 e1 s1 ok
    exact for_turns ok (he.mono e1) s1 (PostS.base e1 q)
  | exc c x S1 =>
    rw [ei] at q
    exact fun v d γ' H' e r s hd => q v d σ γ' H' e (he.mono e) r s hd
  | stuck =>
    rw [ei] at q
    exact q.elim
theorem ss_while {sts : List Stmt} (n : Nat) (cf : Cfg X) (hc : ST X G a t) (hb : SSs X G sts m) : SS X G (.While a sts [] pos) (sWhile n t m) := by
  refine ⟨fun Wi tk => (ps_while cf.own (hc.run Wi tk) (hb.run Wi tk)).imp ?_⟩
  rintro D σ H ⟨η, S, γ, he, hs, q⟩
  refine ⟨fun k σ H => ∃ η S γ, EnvOk X.K G γ H η σ ∧ StoreOk X.K G γ H S ∧ PostS X.K G Wi γ H (whileL t m k η S) D, ⟨n, η, S, γ, he, hs, q⟩, ?_⟩
  rintro k σ H ⟨η, S, γ, he, hs, q⟩
  cases k with
  | zero => exact q.elim
  | succ k =>
    unfold whileL at q
    refine ⟨η, S, γ, he, hs, (PostS.expr (rel := relB) he q).imp fun v H1 ⟨w, S1, γ1, e1, r1, s1, q1⟩ => ?_⟩
    cases r1
    cases v with
    | true => exact ⟨_, fun σ' H' z => ⟨k, Nat.lt_succ_self k, z⟩, η, S1, γ1, he.mono e1, s1, postS_turn (k := whileL t m k) (fun η3 S3 γ3 σ3 H3 he3 s3 e3 q3 => ⟨η3, S3, γ3, he3, s3, q3⟩) q1⟩
    | false => exact q1 σ γ1 H1 Ext.refl (he.mono e1) s1
end
/-! comprehensions -/
section
variable {K : PySem.W.Frag} {G : Gs} {γ : Ga} {H : Hp} {S : Store} {D : Addr} {o : HO}
theorem Ga.Off.ne {a : Addr} (z : γ.Off a) (h : D ∈ γ.β) : a ≠ D := fun e => z.2 (by rw [e]; exact h)
mutual
theorem Rep.busy (h : D ∈ γ.β) (n : D ∉ γ.ρ) : ∀ {w : W} {v : V}, Rep K G γ H w v → Rep K G γ (upd H D o) w v
  | _, _, .non => .non
  | _, _, .bl b => .bl b
  | _, _, .int i => .int i
  | _, _, .str s h1 h2 => .str s h1 h2
  | _, _, .tup f r => .tup (by
      rcases f with ⟨f, z⟩ | f
      · have ne : ∀ {a : Addr}, γ.Off a → a ≠ D := fun z e => z.2 (e ▸ h)
        refine .inl ⟨?_, z⟩
        rcases f with f | ⟨ob, f⟩
        · exact .inl (by rw [upd_ne (z.ne h)]; exact f)
        · exact .inr ⟨ob, by rw [upd_ne (z.ne h)]; exact f⟩
      · exact .inr f) (Reps.busy h n r)
  | _, _, .lst f z r => .lst (by rw [upd_ne (z.ne h)]; exact f) z (Reps.busy h n r)
  | _, _, .scr f r => .scr (by
      rcases f with ⟨⟨ob, f⟩, z⟩ | f
      · exact .inl ⟨⟨ob, by rw [upd_ne (z.ne h)]; exact f⟩, z⟩
      · exact .inr f) (Reps.busy h n r)
  | _, _, .ref f => .ref f
  | _, _, .fn f => .fn f
  | _, _, .dct d z r => .dct (d.keep fun ob f => by rw [upd_ne (z.ne h)]; exact f) z (Reps.busy h n r)
  | _, _, .exc f z r => .exc (by rw [upd_ne (z.ne h)]; exact f) z (Rep.busy h n r)
theorem Reps.busy (h : D ∈ γ.β) (n : D ∉ γ.ρ) : ∀ {w : List W} {v : List V}, Reps K G γ H w v → Reps K G γ (upd H D o) w v
  | _, _, .nil => .nil
  | _, _, .cons r t => .cons (Rep.busy h n r) (Reps.busy h n t)
end
mutual
theorem Rep.shrink {γ' : Ga} (hρ : γ'.ρ = γ.ρ) (f : ∀ a o, H a = some o → γ.Off a → γ'.Off a) : ∀ {w : W} {v : V}, Rep K G γ H w v → Rep K G γ' H w v
  | _, _, .non => .non
  | _, _, .bl b => .bl b
  | _, _, .int i => .int i
  | _, _, .str s h1 h2 => .str s h1 h2
  | _, _, .tup h r => .tup (by
      rcases h with ⟨h, q⟩ | h
      · refine .inl ⟨h, ?_⟩
        rcases h with h | ⟨o, h⟩
        · exact f _ _ h q
        · exact f _ _ h q
      · exact .inr h) (Reps.shrink hρ f r)
  | _, _, .lst h q r => .lst h (f _ _ h q) (Reps.shrink hρ f r)
  | _, _, .scr h r => .scr (by
      rcases h with ⟨⟨o, h⟩, q⟩ | h
      · exact .inl ⟨⟨o, h⟩, f _ _ h q⟩
      · exact .inr h) (Reps.shrink hρ f r)
  | _, _, .ref h => .ref (by rw [hρ]; exact h)
  | _, _, .fn f => .fn f
  | _, _, .dct d q r => .dct d (f _ _ d.some.choose_spec q) (Reps.shrink hρ f r)
  | _, _, .exc h q r => .exc h (f _ _ h q) (Rep.shrink hρ f r)
theorem Reps.shrink {γ' : Ga} (hρ : γ'.ρ = γ.ρ) (f : ∀ a o, H a = some o → γ.Off a → γ'.Off a) : ∀ {ws : List W} {vs : List V}, Reps K G γ H ws vs → Reps K G γ' H ws vs
  | _, _, .nil => .nil
  | _, _, .cons r t => .cons (Rep.shrink hρ f r) (Reps.shrink hρ f t)
end
theorem StoreOk.busy {o : HO} (s : StoreOk K G γ H S) (h : D ∈ γ.β) (nt : ∀ xs, o ≠ .tup xs := by intro _ z; cases z) : StoreOk K G γ (L2.upd H D o) S := by
  have n := (s.bt D h).1
  refine ⟨s.len, s.nd, fun i c a hc ha => ?_, fun a ha => ⟨(s.bt a ha).1, ?_⟩⟩
  · have q := s.cell i c a hc ha
    have ne : a ≠ D := fun e => n (e ▸ List.mem_of_getElem? ha)
    cases c with
    | lst ys =>
      obtain ⟨p1, us, hv, r'⟩ := q
      exact ⟨p1, us, by rw [upd_ne ne]; exact hv, Reps.busy h n r'⟩
    | dct _ _ => exact q.to (fun ob f => by rw [upd_ne ne]; exact f) fun _ r => Reps.busy h n r
    | ins _ _ => exact q.elim
  · by_cases z : a = D
    · exact ⟨o, by rw [z]; exact upd_same, nt⟩
    · obtain ⟨u, q, n2⟩ := (s.bt a ha).2
      exact ⟨u, by rw [upd_ne z]; exact q, n2⟩
theorem wipe_same {σ σ' : L2.St} : ∀ {own is : List Nat}, (∀ i ∈ is, i ∈ own) → σ'.length = σ.length → (∀ i, i ∉ is → σ'[i]? = σ[i]?) → wipe σ' own = wipe σ own := by
  have at_ : ∀ (τ : L2.St) (own : List Nat) (i : Nat), (wipe τ own)[i]? = if i ∈ own ∧ i < τ.length then some none else τ[i]? := by
    intro τ own
    induction own with
    | nil => intro i; simp [wipe]
    | cons j own ih =>
      intro i
      show ((wipe τ own).set j none)[i]? = _
      by_cases hj : j = i
      · subst hj
        by_cases hl : j < τ.length
        · rw [List.getElem?_set_self (by rw [wipe_length]; exact hl), if_pos ⟨List.mem_cons_self .., hl⟩]
        · rw [if_neg (fun z => hl z.2), List.getElem?_eq_none (by rw [List.length_set, wipe_length]; omega), List.getElem?_eq_none (by omega)]
      · rw [List.getElem?_set_ne hj, ih i]
        by_cases hm : i ∈ own
        · by_cases hl : i < τ.length
          · rw [if_pos ⟨hm, hl⟩, if_pos ⟨List.mem_cons_of_mem _ hm, hl⟩]
          · rw [if_neg (fun z => hl z.2), if_neg (fun z => hl z.2)]
        · rw [if_neg (fun z => hm z.1), if_neg (fun z => (List.mem_cons.mp z.1).elim (fun q => hj q.symm) hm)]
  intro own is h1 h2 h3
  refine List.ext_getElem? fun i => ?_
  rw [at_, at_, h2]
  by_cases hm : i ∈ own ∧ i < σ.length
  · rw [if_pos hm, if_pos hm]
  · rw [if_neg hm, if_neg hm]
    by_cases hi : i ∈ is
    · have hl : ¬ i < σ.length := fun z => hm ⟨h1 i hi, z⟩
      rw [List.getElem?_eq_none (by omega), List.getElem?_eq_none (by omega)]
    · exact h3 i hi
theorem wipe_wipe {σ : L2.St} {own : List Nat} : wipe (wipe σ own) own = wipe σ own := by
  refine List.ext_getElem? fun i => ?_
  have at_ : ∀ (τ : L2.St) (own : List Nat) (i : Nat), (wipe τ own)[i]? = if i ∈ own ∧ i < τ.length then some none else τ[i]? := by
    intro τ own
    induction own with
    | nil => intro i; simp [wipe]
    | cons j own ih =>
      intro i
      show ((wipe τ own).set j none)[i]? = _
      by_cases hj : j = i
      · subst hj
        by_cases hl : j < τ.length
        · rw [List.getElem?_set_self (by rw [wipe_length]; exact hl), if_pos ⟨List.mem_cons_self .., hl⟩]
        · rw [if_neg (fun z => hl z.2), List.getElem?_eq_none (by rw [List.length_set, wipe_length]; omega), List.getElem?_eq_none (by omega)]
      · rw [List.getElem?_set_ne hj, ih i]
        by_cases hm : i ∈ own
        · by_cases hl : i < τ.length
          · rw [if_pos ⟨hm, hl⟩, if_pos ⟨List.mem_cons_of_mem _ hm, hl⟩]
          · rw [if_neg (fun z => hl z.2), if_neg (fun z => hl z.2)]
        · rw [if_neg (fun z => hm z.1), if_neg (fun z => (List.mem_cons.mp z.1).elim (fun q => hj q.symm) hm)]
  rw [at_, at_, wipe_length]
  by_cases hm : i ∈ own ∧ i < σ.length
  · rw [if_pos hm, if_pos hm]
  · rw [if_neg hm, if_neg hm]
theorem EnvOk.wipe {η : Env} {σ : L2.St} (he : EnvOk K G γ H η σ) : ∀ own : List Nat, EnvOk K G γ H (wipeE η own) (L2.wipe σ own)
  | [] => he
  | i :: own => by
    have ih := EnvOk.wipe he own
    refine ⟨by unfold wipeE L2.wipe; rw [List.length_set, List.length_set]; exact ih.1, fun j w hj => ?_⟩
    unfold wipeE at hj
    unfold L2.wipe
    by_cases hij : i = j
    · subst hij
      have hl := (List.getElem?_eq_some_iff.mp hj).1
      rw [List.length_set] at hl
      rw [List.getElem?_set_self hl] at hj
      cases hj
    · rw [List.getElem?_set_ne hij] at hj ⊢
      exact ih.2 j w hj
end
/-- the tests of a comprehension -/
structure STs (X : Cx) (G : Gs) (es : List Expr) (f : MT) : Prop where
  run : ∀ Wi, Takes X Wi → PTs X es (ttOf X.K G Wi f)
theorem sts_nil {X : Cx} {G : Gs} : STs X G [] mtYes := ⟨fun Wi tk => ⟨fun pins s σ H Q I q => by
  obtain ⟨η, S, γ, he, hs, q⟩ := q
  exact pts_nil.run pins s σ H Q I (q true γ H Ext.refl rfl hs)⟩⟩
theorem sts_one {X : Cx} {G : Gs} {a : Expr} {t : MT} (h : ST X G a t) : STs X G [a] t := ⟨fun Wi tk => pts_one (h.run Wi tk)⟩
theorem Cfg.blk {X : Cx} (cf : Cfg X) (s : Shared) (H : Hp) (scope : Scope) (env : PySem.Env) (fp : List Addr) : Cfg (X.blk s H scope env fp) := ⟨cf.calm, cf.nd, PassesOwn.never, cf.un⟩

section
variable {X : Cx} {G : Gs} {tg iter elt : Expr} {ifs : List Expr} {scope : Scope} {f : ME} {g : MG} {t : MT} {it : MI} {is : List Nat} {own : List (Str × Nat)} {pos : Pos}
/-- a turn after another -/
theorem lc_turns {K : PySem.W.Frag} {γ0 : Ga} {H0 : Hp} {J : It} {xs : List W} {η : Env} {S0 : Store} {σ : L2.St} {wsF : List W} {SF : Store} {Wx' : Wx} {Q : VK} {vs : List Nat} (ok : ItOk K G J xs γ0 H0) (he : EnvOk K G γ0 H0 η σ) (hs : StoreOk K G γ0 H0 S0)
    (his : ∀ i ∈ is, i ∈ vs) (h : compL g t f (wipeE η vs) xs S0 [] = .ok wsF SF) (hQ : ∀ v γ' H', Ext γ0 H0 γ' H' → Rep K G γ' H' (.lst wsF) v → StoreOk K G γ' H' SF → Q v H') :
    ∀ D, H0 D = none → ∃ Wv : Nat → Nat → Hp → Prop, (∃ m, Wv 0 m (L2.upd H0 D (.lst []))) ∧ ∀ i m H, Wv i m H →
      (J.stop i H ∧ Q (.ref D) H) ∨ (J.go i H ∧ ∃ Nx : Hp → Prop, (∀ H', Nx H' → ∃ m', m' < m ∧ Wv (i + 1) m' H') ∧ ∀ x H', J.yld i H x H' → tgOf K G is g x (wipe σ vs) H' fun σ2 H2 => wipe σ2 vs = wipe σ vs ∧ ttOf K G (fun _ _ _ _ => False) t σ2 H2 fun b H3 =>
        if b = true then tOf K G (fun _ _ _ _ => False) f σ2 H3 fun y H4 => ∃ acc, H4 D = some (.lst acc) ∧ acc.length < sizeLine ∧ Nx (L2.upd H4 D (.lst (acc ++ [y]))) else Nx H3) := by
  intro D hD
  refine ⟨fun i m H => m = xs.length - i ∧ i ≤ xs.length ∧ ∃ S γ acc us, StoreOk K G γ H S ∧ Ext γ0 H0 γ H ∧ D ∈ γ.β ∧ H D = some (.lst us) ∧ Reps K G γ H acc us ∧ compL g t f (wipeE η vs) (xs.drop i) S acc = .ok wsF SF, ⟨xs.length, rfl, Nat.zero_le _, ?_⟩, ?_⟩
  · have off := hs.fresh hD
    refine ⟨S0, ⟨γ0.ρ, D :: γ0.β⟩, [], [], ?_, ?_, List.mem_cons_self .., upd_same, .nil, h⟩
    · have s1 := hs.upd (o := .lst []) hD
      refine ⟨s1.len, s1.nd, fun i c a hc ha => ?_, fun a ha => ?_⟩
      · have q := s1.cell i c a hc ha
        cases c with
        | lst ys =>
          obtain ⟨p1, us, hv, r'⟩ := hs.cell i _ a hc ha
          refine ⟨p1, us, by rw [upd_ne (ne_of_none hv hD)]; exact hv, r'.mono ?_⟩
          exact ⟨List.prefix_refl _, fun b hb => List.mem_cons_of_mem _ hb, fun b hb => (List.mem_cons.mp hb).elim (fun z => .inr (by rw [z]; exact hD)) .inl, fun b u e _ => by rw [upd_ne (ne_of_none e hD)]; exact e, fun _ h1 h2 => absurd h1 h2, fun b u e => ⟨u, by rw [upd_ne (ne_of_none e hD)]; exact e⟩⟩
        | dct _ _ => exact (hs.cell i _ a hc ha).to (fun o f => by rw [upd_ne (ne_of_none f hD)]; exact f) fun _ r => by refine r.mono ?_; exact ⟨List.prefix_refl _, fun b hb => List.mem_cons_of_mem _ hb, fun b hb => (List.mem_cons.mp hb).elim (fun z => .inr (by rw [z]; exact hD)) .inl, fun b u e _ => by rw [upd_ne (ne_of_none e hD)]; exact e, fun _ h1 h2 => absurd h1 h2, fun b u e => ⟨u, by rw [upd_ne (ne_of_none e hD)]; exact e⟩⟩
        | ins _ _ => exact q.elim
      · rcases List.mem_cons.mp ha with z | z
        · rw [z]
          exact ⟨off.1, _, upd_same, fun _ z => nomatch z⟩
        · obtain ⟨n, o, q, nt⟩ := hs.bt a z
          exact ⟨n, o, by rw [upd_ne (ne_of_none q hD)]; exact q, nt⟩
    · exact ⟨List.prefix_refl _, fun b hb => List.mem_cons_of_mem _ hb, fun b hb => (List.mem_cons.mp hb).elim (fun z => .inr (by rw [z]; exact hD)) .inl, fun b u e _ => by rw [upd_ne (ne_of_none e hD)]; exact e, fun _ h1 h2 => absurd h1 h2, fun b u e => ⟨u, by rw [upd_ne (ne_of_none e hD)]; exact e⟩⟩
  · rintro i m H ⟨rfl, hi, S, γ, acc, us, s, ex, dβ, hus, racc, hc⟩
    by_cases hlt : i < xs.length
    · refine .inr ⟨ok.go i γ H S hlt ex.w s, _, fun H' z => ⟨xs.length - (i + 1), by omega, z⟩, fun x H' y => ?_⟩
      obtain ⟨e1, s1, r1⟩ := ok.yld i xs[i] γ H S x H' (List.getElem?_eq_getElem hlt) ex.w s y
      rw [List.drop_eq_getElem_cons hlt] at hc
      unfold compL at hc
      cases eg : g xs[i] (wipeE η vs) S with
      | none =>
        rw [eg] at hc
        cases hc
      | some z =>
        obtain ⟨η1, S1⟩ := z
        rw [eg] at hc
        refine ⟨wipeE η vs, S, γ, xs[i], η1, S1, ((he.mono ex).mono e1).wipe vs, s1, r1, eg, fun σ2 γ2 H2 e2 he2 s2 hl2 hn2 => ⟨?_, ?_⟩⟩
        · rw [wipe_same (σ := wipe σ vs) his hl2 hn2, wipe_wipe]
        · refine ⟨η1, S1, γ2, he2, s2, ?_⟩
          cases et : t η1 S1 with
          | stuck =>
            simp only [et] at hc
            cases hc
          | exc c x S2 =>
            simp only [et] at hc
            cases hc
          | ok b S2 =>
            simp only [et, R.bind] at hc
            intro b' γ3 H3 e3 rb s3
            cases rb
            have ext3 : Ext γ0 H0 γ3 H3 := ((ex.trans e1).trans e2).trans e3
            have d3 : D ∈ γ3.β := e3.bsub _ (e2.bsub _ (e1.bsub _ dβ))
            have hus3 : H3 D = some (.lst us) := by
              have k1 := e1.keep D _ hus (s.bt D dβ).1
              have k2 := e2.keep D _ k1 (s1.bt D (e1.bsub _ dβ)).1
              exact e3.keep D _ k2 (s2.bt D (e2.bsub _ (e1.bsub _ dβ))).1
            have racc3 := ((racc.mono e1).mono e2).mono e3
            cases b with
            | false =>
              rw [if_neg Bool.false_ne_true] at hc ⊢
              exact ⟨rfl, hlt, S2, γ3, acc, us, s3, ext3, d3, hus3, racc3, hc⟩
            | true =>
              rw [if_pos rfl] at hc ⊢
              refine ⟨η1, S2, γ3, he2.mono e3, s3, ?_⟩
              cases ee : f η1 S2 with
              | stuck =>
                simp only [ee] at hc
                cases hc
              | exc c x S3 =>
                simp only [ee] at hc
                cases hc
              | ok w S3 =>
                simp only [ee] at hc
                intro v γ4 H4 e4 r4 s4
                have d4 : D ∈ γ4.β := e4.bsub _ d3
                have hus4 : H4 D = some (.lst us) := e4.keep D _ hus3 (s3.bt D d3).1
                unfold sized at hc
                split at hc
                · rename_i hsz
                  rw [bigLine_eq] at hsz
                  have ll := racc3.length
                  refine ⟨us, hus4, by omega, rfl, hlt, S3, γ4, acc ++ [w], us ++ [v], s4.busy d4, ?_, d4, upd_same, ?_, hc⟩
                  · have x4 := ext3.trans e4
                    have na : ∀ {a : Addr} {o : HO}, H0 a = some o → a ≠ D := fun q => ne_of_none q hD
                    exact ⟨x4.pre, x4.bsub, x4.bnew, fun a o q n => by rw [upd_ne (na q)]; exact x4.keep a o q n, x4.new, fun a o q => by
                      obtain ⟨o', q'⟩ := x4.dom a o q
                      exact ⟨o', by rw [upd_ne (na q)]; exact q'⟩⟩
                  · have n4 := (s4.bt D d4).1
                    exact (Reps.busy d4 n4 (racc3.mono e4)).append (.one (Rep.busy d4 n4 r4))
                · cases hc
    · have e : i = xs.length := by omega
      subst e
      rw [List.drop_length] at hc
      cases hc
      refine .inl ⟨ok.stop γ H _ ex.w s, ?_⟩
      have nD := (s.bt D dβ).1
      have fr : Ext γ0 H0 ⟨γ.ρ, γ.β.filter (fun a => decide (a ≠ D))⟩ H := by
        refine ⟨ex.pre, fun a ha => ?_, fun a ha => ex.bnew a (List.mem_filter.mp ha).1, ex.keep, ex.new, ex.dom⟩
        refine List.mem_filter.mpr ⟨ex.bsub a ha, ?_⟩
        obtain ⟨_, o, q, _⟩ := hs.bt a ha
        exact decide_eq_true (ne_of_none q hD)
      have up : Ext γ H ⟨γ.ρ, γ.β.filter (fun a => decide (a ≠ D))⟩ H → True := fun _ => trivial
      have lessO : ∀ (a : Addr) (o : HO), H a = some o → γ.Off a → Ga.Off ⟨γ.ρ, γ.β.filter (fun a => decide (a ≠ D))⟩ a := fun a o _ z => ⟨z.1, fun q => z.2 (List.mem_filter.mp q).1⟩
      have shr : ∀ {w : W} {v : V}, Rep K G γ H w v → Rep K G ⟨γ.ρ, γ.β.filter (fun a => decide (a ≠ D))⟩ H w v := fun r => Rep.shrink (γ := γ) (γ' := ⟨γ.ρ, γ.β.filter (fun a => decide (a ≠ D))⟩) rfl lessO r
      have shrs : ∀ {w : List W} {v : List V}, Reps K G γ H w v → Reps K G ⟨γ.ρ, γ.β.filter (fun a => decide (a ≠ D))⟩ H w v := fun r => Reps.shrink (γ := γ) (γ' := ⟨γ.ρ, γ.β.filter (fun a => decide (a ≠ D))⟩) rfl lessO r
      refine hQ (.ref D) _ H fr (.lst hus ⟨nD, fun q => ?_⟩ (shrs racc)) ⟨s.len, s.nd, fun i c a hc ha => ?_, fun a ha => s.bt a (List.mem_filter.mp ha).1⟩
      · have := (List.mem_filter.mp q).2
        simp at this
      · have q := s.cell i c a hc ha
        cases c with
        | lst ys =>
          obtain ⟨p1, us', hv, r'⟩ := q
          exact ⟨p1, us', hv, shrs r'⟩
        | dct _ _ => exact q.to (fun _ f => f) fun _ r => shrs r
        | ins _ _ => exact q.elim
theorem comp_read {Wi : WX} {Q : VK} {σ : L2.St} {H : Hp} (his : ∀ i ∈ is, i ∈ own.map (·.2)) (q : tOf X.K G Wi (mComp it (own.map (·.2)) g t f) σ H Q) :
    tLc (tiOf X.K G Wi it) (tgOf X.K G is g) (ttOf X.K G (fun _ _ _ _ => False) t) (tOf X.K G (fun _ _ _ _ => False) f) (own.map (·.2)) σ H Q := by
  obtain ⟨η, S, γ, he, hs, q⟩ := q
  refine ⟨η, S, γ, he, hs, ?_⟩
  have q : Post X.K G (Rep X.K G) (fun c d H' => Wi c d σ H') γ H ((it η S).bind fun xs S1 => (noexc (compL g t f (wipeE η (own.map (·.2))) xs S1 [])).bind fun ws S2 => .ok (.lst ws) S2) Q := q
  cases ei : it η S with
  | stuck =>
    rw [ei] at q
    exact q.elim
  | exc c x S1 =>
    rw [ei] at q
    exact q
  | ok xs S1 =>
    rw [ei] at q
    intro J γ1 H1 e1 s1 ok
    have q : Post X.K G (Rep X.K G) (fun c d H' => Wi c d σ H') γ H ((noexc (compL g t f (wipeE η (own.map (·.2))) xs S1 [])).bind fun ws S2 => .ok (.lst ws) S2) Q := q
    cases ec : compL g t f (wipeE η (own.map (·.2))) xs S1 [] with
    | stuck =>
      rw [ec] at q
      exact q.elim
    | exc c x S2 =>
      rw [ec] at q
      exact q.elim
    | ok ws S2 =>
      rw [ec] at q
      exact lc_turns (Wx' := fun _ _ _ => False) ok (he.mono e1) s1 his ec fun v γ' H' e r s => q v γ' H' (e1.trans e) r s
theorem se_comp (own : List (Str × Nat)) (cf : Cfg X) (hi : SI X G tg iter it) (ok : BlkOk X.N X.env.scope scope own)
    (hg : ∀ (s : Shared) (H : Hp) (C : Addr) (cl : List (Str × Addr)) (fp : List Addr), Cfg (X.blk s H scope (compEnvC scope cl C X.env) fp) → SG (X.blk s H scope (compEnvC scope cl C X.env) fp) G tg is g)
    (ht : ∀ (s : Shared) (H : Hp) (C : Addr) (cl : List (Str × Addr)) (fp : List Addr), Cfg (X.blk s H scope (compEnvC scope cl C X.env) fp) → STs (X.blk s H scope (compEnvC scope cl C X.env) fp) G ifs t)
    (he : ∀ (s : Shared) (H : Hp) (C : Addr) (cl : List (Str × Addr)) (fp : List Addr), Cfg (X.blk s H scope (compEnvC scope cl C X.env) fp) → SE (X.blk s H scope (compEnvC scope cl C X.env) fp) G elt f)
    (his : ∀ i ∈ is, i ∈ own.map (·.2) := by decide) (hs : ∀ x, foldedSetIterable iter X.env x = pure x := by intro _; rfl) :
    SE X G (.ListComp elt [⟨tg, iter, ifs, 0⟩] scope pos) (mComp it (own.map (·.2)) g t f) := by
  refine ⟨fun Wi tk => (pe_lc (g := tgOf X.K G is g) (tt := ttOf X.K G (fun _ _ _ _ => False) t) (te := tOf X.K G (fun _ _ _ _ => False) f) cf.calm cf.nd (hi.run Wi tk) ok (fun s H C cl fp => (hg s H C cl fp (cf.blk ..)).run) (fun s H C cl fp => (ht s H C cl fp (cf.blk ..)).run _ takes0) (fun s H C cl fp => (he s H C cl fp (cf.blk ..)).run _ takes0) hs).imp ?_⟩
  intro σ H Q q
  exact comp_read his q
theorem ss_setLc {y : Str} {py : Pos} {spos : Pos} (i : Nat) (own : List (Str × Nat)) (cf : Cfg X) (hi : SI X G tg iter it) (ok : BlkOk X.N X.env.scope scope own)
    (hg : ∀ (s : Shared) (H : Hp) (C : Addr) (cl : List (Str × Addr)) (fp : List Addr), Cfg (X.blk s H scope (compEnvC scope cl C X.env) fp) → SG (X.blk s H scope (compEnvC scope cl C X.env) fp) G tg is g)
    (ht : ∀ (s : Shared) (H : Hp) (C : Addr) (cl : List (Str × Addr)) (fp : List Addr), Cfg (X.blk s H scope (compEnvC scope cl C X.env) fp) → STs (X.blk s H scope (compEnvC scope cl C X.env) fp) G ifs t)
    (he : ∀ (s : Shared) (H : Hp) (C : Addr) (cl : List (Str × Addr)) (fp : List Addr), Cfg (X.blk s H scope (compEnvC scope cl C X.env) fp) → SE (X.blk s H scope (compEnvC scope cl C X.env) fp) G elt f)
    (hy : X.N[i]? = some y := by rfl) (hyl : X.env.scope.names.lookup y = some .local := by rfl)
    (hsw : swapsWith (.ListComp elt [⟨tg, iter, ifs, 0⟩] scope pos) (some (.Name y py)) spos.line X.env = pure true := by exact sw_true rfl rfl rfl (by decide +kernel))
    (his : ∀ i ∈ is, i ∈ own.map (·.2) := by decide) (hs : ∀ x, foldedSetIterable iter X.env x = pure x := by intro _; rfl) :
    SS X G (.Assign [.Name y py] (.ListComp elt [⟨tg, iter, ifs, 0⟩] scope pos) spos) (sSet i (mComp it (own.map (·.2)) g t f)) := by
  refine ⟨fun Wi tk => (ps_setLc (i := i) (g := tgOf X.K G is g) (tt := ttOf X.K G (fun _ _ _ _ => False) t) (te := tOf X.K G (fun _ _ _ _ => False) f) cf.calm cf.nd hy hyl hsw (hi.run Wi tk) ok (fun s H C cl fp => (hg s H C cl fp (cf.blk ..)).run) (fun s H C cl fp => (ht s H C cl fp (cf.blk ..)).run _ takes0) (fun s H C cl fp => (he s H C cl fp (cf.blk ..)).run _ takes0) hs).imp ?_⟩
  rintro D σ H ⟨η, S, γ, he, hs, q⟩
  refine comp_read his ⟨η, S, γ, he, hs, (PostS.expr he q).imp fun v H1 ⟨w, S1, γ1, e1, r1, s1, q1⟩ => q1 _ γ1 H1 Ext.refl ((he.mono e1).set r1 i) s1⟩
end
end Mp

set_option Elab.async false
set_option linter.all false
set_option maxRecDepth 100000
set_option maxHeartbeats 4000000
/-! Mp: functions, calls. -/
namespace Mp
open PySem PySem.Spec PyProof.Rows L2
/-- a function's promise: what φ gives -/
def spF (K : PySem.W.Frag) (G : Gs) (np : Nat) (φ : List W → Store → R W) : Sp := fun vs H Q E => vs.length = np ∧ ∃ ws S γ, Reps K G γ H ws vs ∧ StoreOk K G γ H S ∧ Post K G (Rep K G) E γ H (φ ws S) Q
section
variable {K : PySem.W.Frag} {G : Gs} {γ γ' : Ga} {H H' : Hp} {S S' : Store} {D : Ends} {Q : VK} {E : XK}
theorem pre_take {l m : List Addr} (h : l <+: m) {n : Nat} (e : l.length = n) : m.take n = l := by
  obtain ⟨t, rfl⟩ := h
  subst e
  simp
/-- what a call leaves: the store's old part -/
theorem cut_ok (s : StoreOk K G γ H S) (e : Ext γ H γ' H') (s' : StoreOk K G γ' H' S') : Ext γ H ⟨γ.ρ, γ'.β⟩ H' ∧ StoreOk K G ⟨γ.ρ, γ'.β⟩ H' (S'.take S.length) ∧ ∀ a o, H' a = some o → γ'.Off a → Ga.Off ⟨γ.ρ, γ'.β⟩ a := by
  have sub : ∀ a ∈ γ.ρ, a ∈ γ'.ρ := fun a h => e.pre.subset h
  have less : ∀ a o, H' a = some o → γ'.Off a → Ga.Off ⟨γ.ρ, γ'.β⟩ a := fun a o _ z => ⟨fun q => z.1 (sub a q), z.2⟩
  refine ⟨⟨List.prefix_refl _, e.bsub, e.bnew, e.keep, fun _ h1 h2 => absurd h1 h2, e.dom⟩, ⟨?_, s.nd, fun i c a hc ha => ?_, fun a ha => ⟨fun q => (s'.bt a ha).1 (sub a q), (s'.bt a ha).2⟩⟩, less⟩
  · have l1 := e.pre.length_le
    rw [s.len, s'.len] at l1
    rw [List.length_take]
    show γ.ρ.length = _
    rw [s.len]
    omega
  · have hi : i < S.length := by
      have := (List.getElem?_eq_some_iff.mp hc).1
      rw [List.length_take] at this
      omega
    rw [List.getElem?_take_of_lt hi] at hc
    have ha' : γ'.ρ[i]? = some a := by
      obtain ⟨t, q⟩ := e.pre
      rw [← q, List.getElem?_append_left (List.getElem?_eq_some_iff.mp ha).1]
      exact ha
    have q := s'.cell i c a hc ha'
    cases c with
    | lst xs =>
      obtain ⟨p, vs, hv, r⟩ := q
      exact ⟨p, vs, hv, Reps.less less p r⟩
    | dct _ _ => exact q.to (fun _ f => f) fun p r => Reps.less less p r
    | ins _ _ => exact q.elim
theorem fin_ok {Wi : WX} {keep : Bool} {r : RS} (hW : ∀ c d σ H', E c d H' → Wi c d σ H') (s : StoreOk K G γ H S) (h : Post K G (Rep K G) E γ H (finS keep S.length r) Q) : PostS K G Wi γ H r { nx := fun _ H' => Q .non H', rt := Q } := by
  cases r with
  | nx η' S' =>
    intro σ' γ' H' e _ s'
    obtain ⟨a, b, _⟩ := cut_ok s e s'
    exact h _ _ H' a .non b
  | bk η' S' => exact h.elim
  | ct η' S' => exact h.elim
  | stuck => exact h.elim
  | exc c x η' S' =>
    have h : Post K G (Rep K G) E γ H (if x.pure = true then .exc c x (S'.take S.length) else .stuck) Q := h
    split at h
    · rename_i px
      intro v d σ' γ' H' e _ r s' hd ho
      obtain ⟨a, b, less⟩ := cut_ok s e s'
      exact hW _ _ _ _ (h v d _ H' a (Rep.less less px r) b hd (less _ _ hd ho))
    · exact h.elim
  | ret w S' =>
    replace h : Post K G (Rep K G) E γ H (fin keep S.length w S') Q := h
    intro v γ' H' e r s'
    obtain ⟨a, bS, less⟩ := cut_ok s e s'
    unfold fin at h
    split at h
    · rename_i pw
      exact h v _ H' a (Rep.less less pw r) bS
    · rename_i hnp
      split at h
      · rename_i w i
        cases r with
        | @ref _ ad hr =>
        split at h
        · rename_i hi
          refine h _ _ H' a (.ref ?_) bS
          show γ.ρ[i]? = some ad
          obtain ⟨t, q⟩ := e.pre
          rw [← q, List.getElem?_append_left (by rw [s.len]; exact hi)] at hr
          exact hr
        · rename_i hi
          split at h
          · rename_i xs hc
            obtain ⟨_, vs, hv, rv⟩ := s'.cell i _ ad hc hr
            have hnot : ad ∉ γ.ρ := fun z => by
              obtain ⟨j, hj, ej⟩ := List.mem_iff_getElem.mp z
              have hj' : j < S.length := by rw [← s.len]; exact hj
              obtain ⟨t, q⟩ := e.pre
              have e1 : γ'.ρ[j]? = some ad := by rw [← q, List.getElem?_append_left hj, List.getElem?_eq_getElem hj, ej]
              obtain ⟨x1, x2⟩ := List.getElem?_eq_some_iff.mp e1
              obtain ⟨y1, y2⟩ := List.getElem?_eq_some_iff.mp hr
              have := (List.getElem_inj s'.nd).mp (x2.trans y2.symm)
              omega
            have hoff : ad ∉ γ'.β := fun z => (s'.bt ad z).1 (List.mem_of_getElem? hr)
            by_cases pxs : pures xs = true
            · rw [if_pos pxs] at h
              have rv' : Reps K G ⟨γ.ρ, γ'.β⟩ H' xs vs := Reps.less less pxs rv
              by_cases hkp : keep = true
              · rw [if_pos hkp] at h
                refine h (.ref ad) ⟨γ.ρ ++ [ad], γ'.β⟩ H' ⟨List.prefix_append _ _, a.bsub, a.bnew, a.keep, fun b hb hn => ?_, a.dom⟩ (.ref ?_) ⟨?_, ?_, fun j c b' hc' hb' => ?_, fun b hb => ⟨fun z => ?_, (bS.bt b hb).2⟩⟩
                · rcases List.mem_append.mp hb with z | z
                  · exact absurd z hn
                  · have z' : b = ad := by simpa using z
                    rw [z'] at hn ⊢
                    exact e.new ad (List.mem_of_getElem? hr) hn
                · show (γ.ρ ++ [ad])[S.length]? = some ad
                  rw [← s.len, List.getElem?_append_right (Nat.le_refl _), Nat.sub_self]
                  rfl
                · show (γ.ρ ++ [ad]).length = (S'.take S.length ++ [Cell.lst xs]).length
                  rw [List.length_append, List.length_append, ← bS.len]
                  rfl
                · show (γ.ρ ++ [ad]).Nodup
                  rw [List.nodup_append]
                  exact ⟨s.nd, by simp, fun b hb c hc => by
                    have z : c = ad := by simpa using hc
                    rw [z]
                    rintro rfl
                    exact hnot hb⟩
                · have lessK : ∀ b o, H' b = some o → Ga.Off ⟨γ.ρ, γ'.β⟩ b → b ≠ ad → Ga.Off ⟨γ.ρ ++ [ad], γ'.β⟩ b := fun b o _ z ne => ⟨fun q => (List.mem_append.mp q).elim z.1 fun q => ne (by simpa using q), z.2⟩
                  have lessT : ∀ b o, H' b = some o → γ'.Off b → Ga.Off ⟨γ.ρ ++ [ad], γ'.β⟩ b := fun b o hb z => lessK b o hb (less b o hb z) fun q => z.1 (by rw [q]; exact List.mem_of_getElem? hr)
                  have ll : (S'.take S.length).length = S.length := by rw [← bS.len]; exact s.len
                  by_cases hj : j < S.length
                  · rw [List.getElem?_append_left (by rw [ll]; exact hj)] at hc'
                    have hb2 : γ.ρ[j]? = some b' := by
                      have z : (γ.ρ ++ [ad])[j]? = some b' := hb'
                      rwa [List.getElem?_append_left (by rw [s.len]; exact hj)] at z
                    rw [List.getElem?_take_of_lt hj] at hc'
                    have hb3 : γ'.ρ[j]? = some b' := by
                      obtain ⟨t, q⟩ := e.pre
                      rw [← q, List.getElem?_append_left (List.getElem?_eq_some_iff.mp hb2).1]
                      exact hb2
                    have q := s'.cell j c b' hc' hb3
                    cases c with
                    | lst ys =>
                      obtain ⟨p, us, hu, ru⟩ := q
                      exact ⟨p, us, hu, Reps.less lessT p ru⟩
                    | dct _ _ => exact q.to (fun _ f => f) fun p r => Reps.less lessT p r
                    | ins _ _ => exact q.elim
                  · have hlt := (List.getElem?_eq_some_iff.mp hc').1
                    rw [List.length_append, List.length_singleton, ll] at hlt
                    have ej : j = S.length := by omega
                    subst ej
                    have z1 : Cell.lst xs = c := by
                      rw [List.getElem?_append_right (by rw [ll]; exact Nat.le_refl _), ll, Nat.sub_self] at hc'
                      simpa using hc'
                    subst z1
                    have z2 : ad = b' := by
                      have z : (γ.ρ ++ [ad])[S.length]? = some b' := hb'
                      rw [← s.len, List.getElem?_append_right (Nat.le_refl _), Nat.sub_self] at z
                      simpa using z
                    subst z2
                    exact ⟨pxs, vs, hv, Reps.less lessT pxs rv⟩
                · rcases List.mem_append.mp z with z | z
                  · exact (bS.bt b hb).1 z
                  · have z' : b = ad := by simpa using z
                    exact hoff (by rw [← z']; exact hb)
              · rw [if_neg hkp] at h
                exact h (.ref ad) _ H' a (.lst hv ⟨hnot, hoff⟩ rv') bS
            · rw [if_neg pxs] at h
              exact h.elim
          · exact h.elim
      · exact h.elim
end
section
variable {K : PySem.W.Frag} {G : Gs} {γ γ' : Ga} {H H' : Hp} {S S' : Store} {Q : VK} {E : XK}
def Ga.hid (γ : Ga) : Ga := ⟨[], γ.β ++ γ.ρ⟩
theorem off_hid {a : Addr} (h : γ.Off a) : γ.hid.Off a := ⟨by show a ∉ []; simp, fun z => (List.mem_append.mp z).elim h.2 h.1⟩
theorem store_hid (s : StoreOk K G γ H S) : StoreOk K G γ.hid H [] := ⟨rfl, List.nodup_nil, fun i c a hc _ => by simp at hc, fun a ha => ⟨by show a ∉ []; simp, by
  rcases List.mem_append.mp ha with z | z
  · exact (s.bt a z).2
  · exact s.tracked0 z⟩⟩
theorem reps_hid {ws : List W} {vs : List V} (p : pures ws = true) (r : Reps K G γ H ws vs) : Reps K G γ.hid H ws vs := Reps.less (fun _ _ _ h => off_hid h) p r
theorem back_hid (s : StoreOk K G γ H S) (e : Ext γ.hid H γ' H') (s' : StoreOk K G γ' H' S') :
    Ext γ H ⟨γ.ρ, γ'.β.filter fun a => !decide (a ∈ γ.ρ)⟩ H' ∧ StoreOk K G ⟨γ.ρ, γ'.β.filter fun a => !decide (a ∈ γ.ρ)⟩ H' S ∧ ∀ a o, H' a = some o → γ'.Off a → Ga.Off ⟨γ.ρ, γ'.β.filter fun a => !decide (a ∈ γ.ρ)⟩ a := by
  have mf : ∀ {a : Addr}, a ∈ (γ'.β.filter fun a => !decide (a ∈ γ.ρ)) ↔ a ∈ γ'.β ∧ a ∉ γ.ρ := fun {a} => by
    rw [List.mem_filter, Bool.not_eq_true', decide_eq_false_iff_not]
  have ke : ∀ a o, H a = some o → H' a = some o := fun a o h => e.keep a o h (by show a ∉ []; simp)
  have ex : Ext γ H ⟨γ.ρ, γ'.β.filter fun a => !decide (a ∈ γ.ρ)⟩ H' := ⟨List.prefix_refl _, fun a h => mf.mpr ⟨e.bsub a (List.mem_append_left _ h), (s.bt a h).1⟩, fun a h => by
    obtain ⟨h1, h2⟩ := mf.mp h
    rcases e.bnew a h1 with z | z
    · rcases List.mem_append.mp z with z | z
      · exact .inl z
      · exact absurd z h2
    · exact .inr z, fun a o h _ => ke a o h, fun _ h1 h2 => absurd h1 h2, e.dom⟩
  refine ⟨ex, ⟨s.len, s.nd, fun i c a hc ha => ?_, fun a ha => ⟨(mf.mp ha).2, (s'.bt a (mf.mp ha).1).2⟩⟩, fun a o _ h => ⟨fun z => h.2 (e.bsub a (List.mem_append_right _ z)), fun z => h.2 (mf.mp z).1⟩⟩
  have q := s.cell i c a hc ha
  cases c with
  | lst xs =>
    obtain ⟨p, vs, hv, r⟩ := q
    exact ⟨p, vs, ke _ _ hv, r.mono ex⟩
  | dct _ _ => exact q.to (fun o f => ke _ _ f) fun _ r => r.mono ex
  | ins _ _ => exact q.elim
theorem frame_post {r : R W} (s : StoreOk K G γ H S) (h : Post K G (Rep K G) E γ H (r.frame S) Q) : Post K G (Rep K G) E γ.hid H r Q := by
  cases r with
  | stuck => exact h.elim
  | ok w S' =>
    have h : Post K G (Rep K G) E γ H (if w.pure = true then R.ok w S else .stuck) Q := h
    split at h
    · rename_i pw
      intro v γ' H' e r s'
      obtain ⟨a, b, c⟩ := back_hid s e s'
      exact h v _ H' a (Rep.less c pw r) b
    · exact h.elim
  | exc c x S' =>
    have h : Post K G (Rep K G) E γ H (if x.pure = true then R.exc c x S else .stuck) Q := h
    split at h
    · rename_i px
      intro v d γ' H' e r s' hd ho
      obtain ⟨a, b, cc⟩ := back_hid s e s'
      exact h v d _ H' a (Rep.less cc px r) b hd (cc _ _ hd ho)
    · exact h.elim
end
theorem Post.not_stuck {K : PySem.W.Frag} {G : Gs} {α β : Type} {rel : Rel α β} {wx : Wx} {γ : Ga} {H : Hp} {r : R α} {Q : β → Hp → Prop} (h : Post K G rel wx γ H r Q) : r ≠ .stuck := fun z => by
  rw [z] at h
  exact h
/-! a function of the text -/
structure FnR where
  x : Str
  ps : List Str
  st : Stmt
structure FT (P : Program) (w : World) (K : PySem.W.Frag) (mg : Str → Option Value) (base : Heap) (G : Gs) (d : Nat) (φ : List W → Store → R W) (f : Nat) (r : FnR) (fd : FuncData) : Prop where
  ok : FnOk P w K mg base (L2.CX P w) (d + 2) (G.fa f) fd r.ps (spF K G r.ps.length φ)
  gl : mg r.x = some (.ref (G.fa f))
  F : FunD K r.x r.x (defArgs r.st) (defBody r.st) (defScope r.st) [] [] (G.fa f) fd
  b : Binds K fd r.ps []
  len : ∀ ws S, φ ws S ≠ .stuck → ws.length = r.ps.length
abbrev AllF (P : Program) (w : World) (K : PySem.W.Frag) (mg : Str → Option Value) (base : Heap) (G : Gs) (T : List Mp.Fun) (D : List FnR) (d : Nat) : Prop := ∀ f r, D[f]? = some r → ∃ fd, FT P w K mg base G d (fns T d f) f r fd
section
variable {X : Cx} {G : Gs} {d f : Nat} {r : FnR} {φ : Fns} {x : Str} {p pos : Pos} {e : Expr} {es : List Expr} {ga : MA}
theorem se_call (f : Nat) (h : ∃ fd, FT X.prog X.w X.K X.mg X.base G d (φ f) f r fd) (hr : Room (d + 2) X.A) (ha : SA X G (e :: es) ga) (hx : r.x = x := by rfl) (hg : Gl X x := by rfl) (hdb : (x == ("__debug__" : Str)) = false := by decide)
    (he : starEach (e :: es) X.env = (false, eval e X.env) :: starEach es X.env := by rfl) (hpl : (backTo pos (starEach es X.env)).any (·.1) = false := by rfl) : SE X G (.Call (.Name x p) (e :: es) [] pos) (mCall φ f ga) := by
  obtain ⟨fd, h⟩ := h
  subst hx
  refine ⟨fun Wi tk => (pe_callS h.ok hr hg h.gl h.F.kp h.b (fun σ => passAt tk σ) (ha.run Wi tk) hdb he hpl).imp ?_⟩
  rintro σ H Q ⟨η, S, γ, he, hs, q⟩
  refine ⟨η, S, γ, he, hs, ?_⟩
  have q : Post X.K G (Rep X.K G) (fun c d H' => Wi c d σ H') γ H ((ga η S).bind fun ws S1 => φ f ws S1) Q := q
  cases eg : ga η S with
  | stuck =>
    rw [eg] at q
    exact q.elim
  | exc c x S1 =>
    rw [eg] at q
    exact q
  | ok ws S1 =>
    rw [eg] at q
    intro vs γ1 H1 e1 r1 s1
    exact ⟨by rw [← r1.length]; exact h.len ws S1 (Post.not_stuck q), ws, S1, γ1, r1, s1, Post.base e1 q⟩
end
/-! calls without places, with keywords -/
section
variable {X : Cx} {k : Nat} {f : Addr} {fd : FuncData} {ps ks : List Str} {sp : Sp} {E : L2.St → XK} {x : Str} {p pos : Pos} {kws : List Keyword} {e : Expr} {es : List Expr} {t tk : TA}
/-- how a call by keywords alone, or behind n places, binds -/
def KwB (K : PySem.W.Frag) (fd : FuncData) (ps ks : List Str) (n : Nat) (perm : List Nat) : Prop := ∀ (s : Shared) (us : List Value), us.length = n + ks.length → BindsTo s fd ⟨us.take n, ks.zip (us.drop n)⟩ (ps.zip (perm.map fun i => us.getD i .none))
def tCallP (sp : Sp) (perm : List Nat) (E : L2.St → XK) (t tk : TA) : TE := fun σ H Q => t σ H fun vs H1 => tk σ H1 fun zs H2 => sp (perm.map fun i => (vs ++ zs).getD i .non) H2 Q (E σ)
theorem vals_perm {vs : List V} {us : List Value} (r : Vals vs us) (perm : List Nat) (h : ∀ i ∈ perm, i < vs.length) : Vals (perm.map fun i => vs.getD i .non) (perm.map fun i => us.getD i .none) := by
  induction perm with
  | nil => exact .nil
  | cons i perm ih =>
    refine .cons ?_ (ih fun j hj => h j (List.mem_cons_of_mem _ hj))
    have hi := h i (List.mem_cons_self ..)
    obtain ⟨u, hu, ru⟩ := r.get (List.getElem?_eq_getElem hi)
    show L2.RelV (vs.getD i .non) (us.getD i .none)
    rw [List.getD_eq_getElem?_getD, List.getD_eq_getElem?_getD, List.getElem?_eq_getElem hi, hu]
    exact ru
theorem run_fnP {pins : List (Addr × Obj)} {σ : L2.St} {H : Hp} {s : Shared} {Q : VK} {us ws : List Value} {vs zs : List V} {n : Nat} {perm : List Nat} (F : FnOk X.prog X.w X.K X.mg X.base (L2.CX X.prog X.w) k f fd ps sp) (hr : Room k X.A) (hb : KwB X.K fd ps ks n perm) (hx : PassesAt (L2.CX X.prog X.w) X σ (E σ))
    (hn : us.length = n) (hk : ws.length = ks.length) (hp : ∀ i ∈ perm, i < n + ks.length) (I : Inv X pins σ H s) (r : Vals vs us) (rz : Vals zs ws) (h : sp (perm.map fun i => (vs ++ zs).getD i .non) H Q (E σ)) : wpAny (model X.prog X.w) X.A (call (.ref f) us (ks.zip ws)) (EP X pins σ Q) X.xe s := by
  have r1 : Vals (vs ++ zs) (us ++ ws) := r.append rz
  have lv : (vs ++ zs).length = n + ks.length := by rw [r1.length, List.length_append, hn, hk]
  have r2 := vals_perm r1 perm fun i hi => by rw [lv]; exact hp i hi
  have hb2 := hb s (us ++ ws) (by rw [List.length_append, hn, hk])
  rw [← hn, List.take_left' rfl, List.drop_left' rfl] at hb2
  refine wpAny_call (codeAny_mono (F.run X.A X.stack s H ⟨us, ks.zip ws⟩ _ _ Q (E σ) hr I.env0 hb2 r2 h) fun r s' hq => ?_)
  cases r with
  | error e => exact hx pins H s e s' I hq
  | ok fl =>
    cases fl with
    | ret u => exact I.after hq
    | next => exact False.elim hq
    | brk => exact False.elim hq
    | cont => exact False.elim hq
end
section
variable {X : Cx} {G : Gs} {d f : Nat} {r : FnR} {φ : Fns} {x : Str} {p pos : Pos} {e : Expr} {es : List Expr} {ga gk : MA} {kws : List Keyword} {f' : ME}
/-- the values of keywords -/
structure SK (X : Cx) (G : Gs) (kws : List Keyword) (f : MA) : Prop where
  run : ∀ Wi, Takes X Wi → PK X kws (taOf X.K G Wi f)
theorem _root_.L2.PK.imp {X : Cx} {e : List Keyword} {t t' : TA} (h : PK X e t) (i : ∀ σ H Q, t' σ H Q → t σ H Q) : PK X e t' := ⟨fun pos pins s σ H Q I q => h.run pos pins s σ H Q I (i _ _ _ q)⟩
theorem sk_nil : SK X G [] maNil := by
  refine ⟨fun Wi tk => pk_nil.imp ?_⟩
  rintro σ H Q ⟨η, S, γ, he, hs, q⟩
  exact q _ γ H Ext.refl .nil hs
theorem sk_cons {nm : Option Str} {kpos : Pos} (ha : SE X G e f') (hr : SK X G kws gk) : SK X G (⟨nm, e, kpos⟩ :: kws) (maCons f' gk) := by
  refine ⟨fun Wi tk => (pk_cons (ha.run Wi tk) (hr.run Wi tk)).imp ?_⟩
  rintro σ H Q ⟨η, S, γ, he, hs, q⟩
  exact ⟨η, S, γ, he, hs, (Post.seq q).imp fun x H1 ⟨wx, S1, γ1, e1, r1, s1, q1⟩ => ⟨η, S1, γ1, he.mono e1, s1, (Post.seq q1).imp fun y H2 ⟨wy, S2, γ2, e2, r2, s2, q2⟩ => q2 _ γ2 H2 Ext.refl (.cons (r1.mono e2) r2) s2⟩⟩
/-- f(k = v, ..) -/
def mCallK (φ : Fns) (f : Nat) (perm : List Nat) (gk : MA) : ME := fun η S => (gk η S).bind fun ws S1 => if perm.all (fun i => decide (i < ws.length)) = true then φ f (perm.map fun i => ws.getD i .non) S1 else .stuck
theorem reps_perm {K : PySem.W.Frag} {γ : Ga} {H : Hp} {ws : List W} {vs : List V} (r : Reps K G γ H ws vs) (perm : List Nat) (h : perm.all (fun i => decide (i < ws.length)) = true) : Reps K G γ H (perm.map fun i => ws.getD i .non) (perm.map fun i => vs.getD i .non) := by
  induction perm with
  | nil => exact .nil
  | cons i perm ih =>
    rw [List.all_cons, Bool.and_eq_true] at h
    refine .cons ?_ (ih h.2)
    have hi : i < ws.length := of_decide_eq_true h.1
    obtain ⟨v, hv, rv⟩ := r.get (List.getElem?_eq_getElem hi)
    show Rep K G γ H (ws.getD i .non) (vs.getD i .non)
    rw [List.getD_eq_getElem?_getD, List.getD_eq_getElem?_getD, List.getElem?_eq_getElem hi, hv]
    exact rv
theorem se_callK0 (f : Nat) (ks : List Str) (perm : List Nat) (h : ∃ fd, FT X.prog X.w X.K X.mg X.base G d (φ f) f r fd ∧ KwB X.K fd r.ps ks 0 perm) (hr : Room (d + 2) X.A) (hk : SK X G kws gk) (hx : r.x = x := by rfl) (hg : Gl X x := by rfl) (hdb : (x == ("__debug__" : Str)) = false := by decide)
    (hall : (backToKw pos (keywordEach kws X.env)).all (·.1.isSome) = true := by rfl) (hks : (backToKw pos (keywordEach kws X.env)).filterMap (·.1) = ks := by rfl)
    (hpl : ((backTo pos (starEach [] X.env)).any (·.1) || (backToKw pos (keywordEach kws X.env)).any (·.1.isNone)) = false := by rfl) (hp : perm.all (fun i => decide (i < ks.length)) = true := by rfl) (hlen : kws.length = ks.length := by rfl)
    (hkl : ∀ η S ws S', gk η S = .ok ws S' → ws.length = ks.length) : SE X G (.Call (.Name x p) [] kws pos) (mCallK φ f perm gk) := by
  obtain ⟨fd, h, hb⟩ := h
  subst hx
  refine ⟨fun Wi tk => ⟨fun pins s σ H Q I q => ?_⟩⟩
  obtain ⟨η, S, γ, he, hs, q⟩ := q
  refine wpAny_Call_Name_kw (ld_glob I hg h.gl ?_ hdb)
  refine PySem.W.callWith_KW0 (h₀ := X.base) I.ok.mod.kin h.F.kp hall ?_ hpl
  have q : Post X.K G (Rep X.K G) (fun c d H' => Wi c d σ H') γ H ((gk η S).bind fun ws S1 => if perm.all (fun i => decide (i < ws.length)) = true then φ f (perm.map fun i => ws.getD i .non) S1 else .stuck) Q := q
  refine thn ((hk.run Wi tk).run pos pins s σ H (fun zs H2 => ∃ ws S1 γ1, gk η S = .ok ws S1 ∧ Ext γ H γ1 H2 ∧ Reps X.K G γ1 H2 ws zs ∧ StoreOk X.K G γ1 H2 S1) I ⟨η, S, γ, he, hs, ?_⟩) fun us s1 ⟨zs, H2, I2, rz, ws, S1, γ1, eg, e1, r1, s1'⟩ => ⟨I2.kIn, ?_⟩
  · cases eg : gk η S with
    | stuck =>
      rw [eg] at q
      exact q.elim
    | exc c x S1 =>
      rw [eg] at q
      exact q
    | ok ws S1 => exact fun vs γ1 H1 e1 r1 s1 => ⟨ws, S1, γ1, rfl, e1, r1, s1⟩
  · rw [eg] at q
    have q : Post X.K G (Rep X.K G) (fun c d H' => Wi c d σ H') γ H (if perm.all (fun i => decide (i < ws.length)) = true then φ f (perm.map fun i => ws.getD i .non) S1 else .stuck) Q := q
    have lw := hkl _ _ _ _ eg
    rw [hks]
    split at q
    · rename_i hpw
      refine run_fnP (n := 0) (perm := perm) (us := []) (vs := []) (E := fun σ c d H' => Wi c d σ H') h.ok hr hb (passAt tk σ) rfl ?_ ?_ I2 .nil rz ?_
      · rw [← rz.length, ← r1.length, lw]
      · intro i hi
        have := List.all_eq_true.mp hp i hi
        have := of_decide_eq_true this
        omega
      · have q2 := Post.base e1 q
        exact ⟨by rw [List.length_map]; have := h.len _ _ (Post.not_stuck q); rw [List.length_map] at this; exact this, _, S1, γ1, by rw [List.nil_append]; exact reps_perm r1 perm hpw, s1', q2⟩
    · exact q.elim
end
end Mp

set_option Elab.async false
set_option linter.all false
set_option maxRecDepth 100000
set_option maxHeartbeats 4000000
/-! Mp: subscripts, slices, built-in functions. -/
namespace Mp
open PySem PySem.Spec PyProof.Rows L2
theorem _root_.L2.IxR.imp {X : Cx} {r r' : R2} (h : IxR X r) (i : ∀ x y H Q, r' x y H Q → r x y H Q) : IxR X r' := fun a b pins s σ H x y v u Q I rx ry q e => h a b pins s σ H x y v u Q I rx ry (i _ _ _ _ q) e
theorem _root_.L2.SlR.imp {X : Cx} {r r' : V → Option Int → Option Int → Hp → VK → Prop} (h : SlR X r) (i : ∀ x l u H Q, r' x l u H Q → r x l u H Q) : SlR X r' := fun pins s σ H x v vl vu lo hi sl Q I rx hs pl pu q => h pins s σ H x v vl vu lo hi sl Q I rx hs pl pu (i _ _ _ _ _ q)
theorem _root_.L2.CallR.imp {X : Cx} {f : Value} {r r' : List V → Hp → VK → Prop} (h : CallR X f r) (i : ∀ x H Q, r' x H Q → r x H Q) : CallR X f r' := fun pins s σ H xs us Q I r q => h pins s σ H xs us Q I r (i _ _ _ q)
section
variable {K : PySem.W.Frag} {G : Gs} {γ γ' : Ga} {H H' : Hp} {S : Store}
theorem atW_rep {xs : List W} {vs : List V} {i : Int} {w : W} (q : Reps K G γ H xs vs) (h : atW xs i = some w) : ∃ v, atI vs i = some v ∧ Rep K G γ H w v := by
  unfold atW at h
  cases e : ixW xs.length i with
  | none => rw [e] at h; cases h
  | some j =>
    rw [e] at h
    obtain ⟨v, hv, r⟩ := q.get h
    refine ⟨v, ?_, r⟩
    unfold atI
    have e2 : ixN vs.length i = some j := by rw [← q.length]; exact e
    rw [e2]
    exact hv
/-- what a list, a tuple is, in the heap -/
theorem lst_or {w : W} {v : V} {xs : List W} (s : StoreOk K G γ H S) (h : lstOf S w = some xs) (r : Rep K G γ H w v) : ∃ a vs, v = .ref a ∧ SqL K H a vs ∧ Reps K G γ H xs vs := by
  obtain ⟨a, vs, e, hv, q⟩ := lstOf_rep s h r
  exact ⟨a, vs, e, SqL.of hv, q⟩
end
section
variable {X : Cx} {G : Gs}
theorem ix_W : IxR X (rOf X.K G opIx) := by
  refine (ix_seq).imp ?_
  rintro x y H Q ⟨wx, wy, S, γ, w, rx, ry, s, h, k⟩
  unfold opIx at h
  split at h
  · rename_i z i
    cases rx with
    | str _ h1 h2 =>
    cases ry
    cases e : ixW z.length i with
    | none => rw [e] at h; cases h
    | some j =>
      rw [e] at h
      cases e2 : z[j]? with
      | none =>
        have h : z[j]?.map (fun c => W.str [c]) = some w := h
        rw [e2] at h
        cases h
      | some c =>
        have h : z[j]?.map (fun c => W.str [c]) = some w := h
        rw [e2] at h
        cases h
        refine .inr (.inr ⟨_, _, c, rfl, rfl, by simpa [Str.length] using h2, ?_, k _ γ H Ext.refl (.str [c] (fun d hd => ?_) (by rw [sizeLine_eq]; show 1 ≤ 16777216; decide)) s⟩)
        · unfold atI
          show (ixN z.length i).bind _ = _
          have e3 : ixN z.length i = some j := e
          rw [e3]
          exact e2
        · have : d = c := by simpa using hd
          rw [this]
          exact h1 c (List.mem_of_getElem? e2)
  · cases rx with
    | tup f q =>
    cases ry
    obtain ⟨v, hv, r⟩ := atW_rep q h
    exact .inr (.inl ⟨_, _, _, v, rfl, rfl, f.sq, hv, k v γ H Ext.refl r s⟩)
  · cases rx with
    | scr f q =>
    cases ry
    obtain ⟨v, hv, r⟩ := atW_rep q h
    exact .inl ⟨_, _, _, v, rfl, rfl, f.sq, hv, k v γ H Ext.refl r s⟩
  · cases e : lstOf S wx with
    | none => rw [e] at h; cases h
    | some xs =>
      rw [e] at h
      obtain ⟨a, vs, rfl, hs, q⟩ := lst_or s e rx
      cases ry
      obtain ⟨v, hv, r⟩ := atW_rep q h
      exact .inl ⟨_, _, _, v, rfl, rfl, hs, hv, k v γ H Ext.refl r s⟩
  · cases h
def rSlW (K : PySem.W.Frag) (G : Gs) : V → Option Int → Option Int → Hp → VK → Prop := fun x lo hi H Q => ∃ wx S γ w, Rep K G γ H wx x ∧ StoreOk K G γ H S ∧ opSl wx lo hi S = some w ∧
  ∀ v γ' H', Ext γ H γ' H' → Rep K G γ' H' w v → StoreOk K G γ' H' S → Q v H'
theorem cut_reps {K : PySem.W.Frag} {γ : Ga} {H : Hp} {xs : List W} {vs : List V} (q : Reps K G γ H xs vs) (lo hi : Option Int) : Reps K G γ H (cutW xs lo hi) (cutV vs lo hi) := by
  have e : cutV vs lo hi = (vs.drop (sIxW xs.length 0 lo)).take (sIxW xs.length xs.length hi - sIxW xs.length 0 lo) := by
    unfold cutV
    rw [← q.length]
    cases lo <;> cases hi <;> rfl
  rw [e]
  exact (q.drop _).take _
theorem sl_W : SlR X (rSlW X.K G) := by
  refine (SlR.or sl_str (SlR.or sl_tupA sl_list)).imp ?_
  rintro x lo hi H Q ⟨wx, S, γ, w, rx, s, h, k⟩
  unfold opSl at h
  split at h
  · rename_i z
    cases rx with
    | str _ h1 h2 =>
    cases h
    refine .inl ⟨_, rfl, by simpa [Str.length] using h2, ?_⟩
    have e : cutS ⟨z.toArray⟩ lo hi = ⟨(cutW z lo hi).toArray⟩ := by
      unfold cutS cutW
      simp only [Str.length, List.size_toArray]
      cases lo <;> cases hi <;> rfl
    rw [e]
    refine k _ γ H Ext.refl (.str _ (fun c hc => ?_) ?_) s
    · exact h1 c (List.mem_of_mem_drop (List.mem_of_mem_take hc))
    · unfold cutW
      rw [List.length_take, List.length_drop]
      omega
  · rename_i xs
    cases rx with
    | @tup a vs _ f q =>
    cases h
    refine .inr (.inl ⟨a, vs, rfl, f.sq, fun hw => ?_, fun _ p hp => ?_⟩)
    · have e : cutW xs lo hi = xs := by
        have z1 : sIxW xs.length 0 lo = 0 := by
          have := hw.1
          rw [← q.length] at this
          cases lo <;> exact this
        have z2 : sIxW xs.length xs.length hi = xs.length := by
          have := hw.2
          rw [← q.length] at this
          cases hi <;> exact this
        unfold cutW
        rw [z1, z2]
        simp
      rw [e] at k
      exact k _ γ H Ext.refl (.tup f q) s
    · have ex := Ext.upd (K := X.K) (G := G) s (o := .tup (cutV vs lo hi)) hp
      exact k _ γ _ ex (.tup (.inl ⟨.inl upd_same, s.fresh hp⟩) (cut_reps (q.mono ex) lo hi)) (s.upd hp)
  · cases rx with
    | @scr a vs xs f q =>
    cases h
    refine .inr (.inr ⟨a, vs, rfl, f.sq, fun p hp => ?_⟩)
    have ex := Ext.upd (K := X.K) (G := G) s (o := .lst (cutV vs lo hi)) hp
    exact k _ γ _ ex (.lst upd_same (s.fresh hp) (cut_reps (q.mono ex) lo hi)) (s.upd hp)
  · cases e : lstOf S wx with
    | none => rw [e] at h; cases h
    | some xs =>
      rw [e] at h
      cases h
      obtain ⟨a, vs, rfl, hs, q⟩ := lst_or s e rx
      refine .inr (.inr ⟨a, vs, rfl, hs, fun p hp => ?_⟩)
      have ex := Ext.upd (K := X.K) (G := G) s (o := .lst (cutV vs lo hi)) hp
      exact k _ γ _ ex (.lst upd_same (s.fresh hp) (cut_reps (q.mono ex) lo hi)) (s.upd hp)
variable {a b e : Expr} {es : List Expr} {f g : ME} {ga : MA} {pos p p2 p3 : Pos} {x : Str} {lo hi : Option Expr} {ml mh : MO} {o : OA}
theorem se_ix (ha : SE X G a f) (hb : SE X G b g) (hs : PlainIx b := by exact fun _ _ => rfl) : SE X G (.Subscript a b pos) (mBin opIx f g) := by
  refine ⟨fun Wi tk => (pe_ix (ix_W (G := G)) (ha.run Wi tk) (hb.run Wi tk) hs).imp ?_⟩
  rintro σ H Q ⟨η, S, γ, he, hs, q⟩
  exact ⟨η, S, γ, he, hs, (Post.seq q).imp fun x H1 ⟨wx, S1, γ1, e1, r1, s1, q1⟩ => ⟨η, S1, γ1, he.mono e1, s1, (Post.seq q1).imp fun y H2 ⟨wy, S2, γ2, e2, r2, s2, q2⟩ => rOf_of (r1.mono e2) r2 s2 q2⟩⟩
def toOf (K : PySem.W.Frag) (G : Gs) (Wi : WX) (f : MO) : TO := fun σ H Q => ∃ η S γ, EnvOk K G γ H η σ ∧ StoreOk K G γ H S ∧ Post K G (fun _ _ a b => a = b) (fun c d H' => Wi c d σ H') γ H (f η S) Q
structure SO (X : Cx) (G : Gs) (e : Option Expr) (f : MO) : Prop where
  run : ∀ Wi, Takes X Wi → PO X e (toOf X.K G Wi f)
theorem _root_.L2.PO.imp {X : Cx} {e : Option Expr} {t t' : TO} (h : PO X e t) (i : ∀ σ H Q, t' σ H Q → t σ H Q) : PO X e t' := ⟨fun pins s σ H Q I q => h.run pins s σ H Q I (i _ _ _ q)⟩
theorem so_none : SO X G none moNone := by
  refine ⟨fun Wi tk => po_none.imp ?_⟩
  rintro σ H Q ⟨η, S, γ, he, hs, q⟩
  exact q _ γ H Ext.refl rfl hs
theorem so_some (ha : SE X G a f) : SO X G (some a) (moSome f) := by
  refine ⟨fun Wi tk => (po_some (ha.run Wi tk)).imp ?_⟩
  rintro σ H Q ⟨η, S, γ, he, hs, q⟩
  refine ⟨η, S, γ, he, hs, (Post.seq q).imp fun x H1 ⟨wx, S1, γ1, e1, r1, s1, q1⟩ => ?_⟩
  split at q1
  · cases r1
    exact ⟨_, rfl, q1 _ γ1 H1 Ext.refl rfl s1⟩
  · exact q1.elim
theorem se_sl (ha : SE X G a f) (hl : SO X G lo ml) (hh : SO X G hi mh) : SE X G (.Subscript a (.Slice lo hi none p2) pos) (mSl f ml mh) := by
  refine ⟨fun Wi tk => (pe_slice (sl_W (G := G)) (ha.run Wi tk) (hl.run Wi tk) (hh.run Wi tk)).imp ?_⟩
  rintro σ H Q ⟨η, S, γ, he, hs, q⟩
  refine ⟨η, S, γ, he, hs, (Post.seq q).imp fun x H1 ⟨wx, S1, γ1, e1, r1, s1, q1⟩ => ⟨η, S1, γ1, he.mono e1, s1, (Post.seq (rel := fun _ _ a b => a = b) q1).imp fun l H2 ⟨wl, S2, γ2, e2, r2, s2, q2⟩ => ⟨η, S2, γ2, (he.mono e1).mono e2, s2, (Post.seq (rel := fun _ _ a b => a = b) q2).imp fun u H3 ⟨wu, S3, γ3, e3, r3, s3, q3⟩ => ?_⟩⟩⟩
  cases r2
  cases r3
  cases e : opSl wx l u S3 with
  | none =>
    rw [e] at q3
    exact q3.elim
  | some w =>
    rw [e] at q3
    exact ⟨wx, S3, γ3, w, (r1.mono e2).mono e3, s3, e, fun v γ' H' ex r s' => q3 v γ' H' ex r s'⟩
/-! built-in functions -/
theorem se_bi {id : String} (hc : CallR X (.builtin id) (raOf X.K G o)) (hm : X.mg x = none) (ha : SA X G (e :: es) ga) (hv : bootBuiltins x = some (.builtin id) := by decide +kernel) (hg : Gl X x := by rfl) (hn : x ≠ "__name__" := by decide) (hdb : (x == ("__debug__" : Str)) = false := by decide)
    (he : starEach (e :: es) X.env = (false, eval e X.env) :: starEach es X.env := by rfl) (hpl : (backTo pos (starEach es X.env)).any (·.1) = false := by rfl) : SE X G (.Call (.Name x p) (e :: es) [] pos) (mBi o ga) := by
  refine ⟨fun Wi tk => (pe_callB hc hg hm hv (ha.run Wi tk) hn hdb he hpl).imp ?_⟩
  rintro σ H Q ⟨η, S, γ, he, hs, q⟩
  exact ⟨η, S, γ, he, hs, (Post.seq q).imp fun x H1 ⟨wx, S1, γ1, e1, r1, s1, q1⟩ => raOf_of r1 s1 q1⟩
theorem se_ty {T : String} (hc : CallR X (.type T) (raOf X.K G o)) (hm : X.mg x = none) (ha : SA X G (e :: es) ga) (hv : bootBuiltins x = some (.type T) := by decide +kernel) (hg : Gl X x := by rfl) (hn : x ≠ "__name__" := by decide) (hdb : (x == ("__debug__" : Str)) = false := by decide)
    (he : starEach (e :: es) X.env = (false, eval e X.env) :: starEach es X.env := by rfl) (hpl : (backTo pos (starEach es X.env)).any (·.1) = false := by rfl) : SE X G (.Call (.Name x p) (e :: es) [] pos) (mBi o ga) := by
  refine ⟨fun Wi tk => (pe_callTy hc hg hm hv (ha.run Wi tk) hn hdb he hpl).imp ?_⟩
  rintro σ H Q ⟨η, S, γ, he, hs, q⟩
  exact ⟨η, S, γ, he, hs, (Post.seq q).imp fun x H1 ⟨wx, S1, γ1, e1, r1, s1, q1⟩ => raOf_of r1 s1 q1⟩
/-- a module's name for a built-in function -/
theorem se_bf {id : String} (hc : CallR X (.builtin id) (raOf X.K G o)) (hm : X.mg x = some (.builtin id)) (ha : SA X G (e :: es) ga) (hg : Gl X x := by rfl) (hdb : (x == ("__debug__" : Str)) = false := by decide)
    (he : starEach (e :: es) X.env = (false, eval e X.env) :: starEach es X.env := by rfl) (hpl : (backTo pos (starEach es X.env)).any (·.1) = false := by rfl) : SE X G (.Call (.Name x p) (e :: es) [] pos) (mBi o ga) := by
  refine ⟨fun Wi tk => (pe_callBfun hc hg hm (ha.run Wi tk) hdb he hpl).imp ?_⟩
  rintro σ H Q ⟨η, S, γ, he, hs, q⟩
  exact ⟨η, S, γ, he, hs, (Post.seq q).imp fun x H1 ⟨wx, S1, γ1, e1, r1, s1, q1⟩ => raOf_of r1 s1 q1⟩
theorem cr_len : CallR X (.builtin "len") (raOf X.K G baLen) := by
  refine call_len.imp ?_
  rintro xs H Q ⟨ws, S, γ, w, rs, s, h, k⟩
  unfold baLen at h
  split at h
  · rename_i z
    cases rs with
    | cons r t =>
    cases t
    cases r with
    | str _ h1 h2 =>
    cases h
    refine ⟨_, z.length, rfl, ⟨by simpa [Str.length] using h2, by simp [Str.length]⟩, k _ γ H Ext.refl (.int _) s⟩
  · cases rs with
    | cons r t =>
    cases t
    cases r with
    | tup f q =>
    cases h
    exact ⟨_, _, rfl, .inr ⟨_, f.sq, q.length⟩, k _ γ H Ext.refl (.int _) s⟩
  · cases rs with
    | cons r t =>
    cases t
    cases r with
    | scr f q =>
    cases h
    exact ⟨_, _, rfl, .inl ⟨_, f.sq, q.length⟩, k _ γ H Ext.refl (.int _) s⟩
  · rename_i x _ _ _
    cases rs with
    | cons r t =>
    cases t
    cases e : lstOf S x with
    | none => rw [e] at h; cases h
    | some ys =>
      rw [e] at h
      cases h
      obtain ⟨a, vs, rfl, hs, q⟩ := lst_or s e r
      exact ⟨_, _, rfl, .inl ⟨_, hs, q.length⟩, k _ γ H Ext.refl (.int _) s⟩
  · cases h
theorem cr_abs : CallR X (.builtin "abs") (raOf X.K G baAbs) := by
  refine call_abs.imp ?_
  rintro xs H Q ⟨ws, S, γ, w, rs, s, h, k⟩
  unfold baAbs at h
  split at h
  · cases rs with
    | cons r t =>
    cases t
    cases r
    cases h
    exact ⟨_, rfl, k _ γ H Ext.refl (.int _) s⟩
  · cases h
theorem cr_max2 (hc : X.calm = true) : CallR X (.builtin "max") (raOf X.K G baMax2) := by
  refine (call_max2 hc).imp ?_
  rintro xs H Q ⟨ws, S, γ, w, rs, s, h, k⟩
  unfold baMax2 at h
  split at h
  · cases rs with
    | cons r t =>
    cases t with
    | cons r' t =>
    cases t
    cases r
    cases r'
    cases h
    exact ⟨_, _, rfl, k _ γ H Ext.refl (.int _) s⟩
  · cases h
theorem cr_min2 (hc : X.calm = true) : CallR X (.builtin "min") (raOf X.K G baMin2) := by
  refine (call_min2 hc).imp ?_
  rintro xs H Q ⟨ws, S, γ, w, rs, s, h, k⟩
  unfold baMin2 at h
  split at h
  · cases rs with
    | cons r t =>
    cases t with
    | cons r' t =>
    cases t
    cases r
    cases r'
    cases h
    exact ⟨_, _, rfl, k _ γ H Ext.refl (.int _) s⟩
  · cases h
theorem cr_int : CallR X (.type "int") (raOf X.K G baInt) := by
  intro pins s σ H xs us Q I r0 q
  obtain ⟨ws, S, γ, w, rs, ss, h, k⟩ := q
  unfold baInt at h
  split at h
  · cases rs with
    | cons r t =>
    cases t
    cases r
    cases h
    exact call_int1 pins s σ H _ us Q I r0 (.inl ⟨_, rfl, k _ γ H Ext.refl (.int _) ss⟩)
  · cases rs with
    | cons r t =>
    cases t
    cases r
    cases h
    exact call_int1 pins s σ H _ us Q I r0 (.inr ⟨_, rfl, k _ γ H Ext.refl (.int _) ss⟩)
  · rename_i z
    cases rs with
    | cons r t =>
    cases t
    cases r
    split at h
    · rename_i hd
      cases h
      exact call_int_str pins s σ H _ us Q I r0 ⟨_, _, rfl, SX.int_S hd.1 hd.2.1 (by omega), (by show z.toArray.size ≤ 640; rw [List.size_toArray]; exact hd.2.2), k _ γ H Ext.refl (.int _) ss⟩
    · cases h
  · cases h
theorem numF_eq : ∀ f n : Nat, n < f → numF f n = TL.numL n
  | 0, n, h => absurd h (Nat.not_lt_zero n)
  | f + 1, n, h => by
    unfold numF
    by_cases e : n < 10
    · rw [if_pos e, TL.numL_lt e]
    · rw [if_neg e, numF_eq f (n / 10) (by omega), ← TL.numL_step (by omega)]
theorem numW_eq (n : Nat) : numW n = TL.numL n := numF_eq (n + 1) n (Nat.lt_succ_self n)
theorem numW_len {n : Nat} (h : n.log2 < 1920) : (numW n).length ≤ 640 := by
  rw [numW_eq]
  refine TL.numL_len (by decide) (Nat.lt_of_lt_of_le (Nat.lt_of_lt_of_le (Nat.lt_log2_self (n := n)) (Nat.pow_le_pow_right (by decide) (show n.log2 + 1 ≤ 1920 by omega))) (by decide +kernel))
theorem cr_strW : CallR X (.type "str") (raOf X.K G baStr) := by
  intro pins s σ H xs us Q I r0 q
  obtain ⟨ws, S, γ, w, rs, ss, h, k⟩ := q
  unfold baStr at h
  split at h
  · rename_i i
    cases rs with
    | cons r t =>
    cases t
    cases r
    split at h
    · rename_i hd
      cases h
      refine call_str_int pins s σ H _ us Q I r0 ⟨_, rfl, hd.2, ?_⟩
      have e : i = ((i.natAbs : Nat) : Int) := by omega
      have e2 : PySem.Str.ofString (toString i) = ⟨(numW i.natAbs).toArray⟩ := by
        rw [numW_eq]
        conv => lhs; rw [e]
        exact SX.num_S _
      have r : Rep X.K G γ H (.str (numW i.natAbs)) (.str (PySem.Str.ofString (toString i))) := by
        rw [e2]
        refine Rep.str _ ?_ ?_
        · intro c hc
          rw [numW_eq] at hc
          have := TL.numL_digits _ c hc
          omega
        · exact Nat.le_trans (numW_len hd.2) (by decide)
      exact k _ γ H Ext.refl r ss
    · cases h
  · cases h
theorem divmodW {X : Cx} : CallR X (.builtin "divmod") (fun xs H Q => ∃ i j : Int, xs = [.int i, .int j] ∧ (0 < j ∧ j.natAbs.log2 < 9000) ∧ ∀ p, H p = none → Q (.ref p) (upd H p (.tup [.int (i / j), .int (i % j)]))) := by
  intro pins s σ H xs us Q I r h
  obtain ⟨i, j, rfl, ⟨h1, h2⟩, q⟩ := h
  obtain ⟨u, w', rfl, ⟨t, rfl⟩, ⟨t', rfl⟩⟩ := vals2 r
  refine divmod_int (by omega) ?_ (.inl (PyProof.noPylong_of_log2 h2))
  rw [Int.fdiv_eq_ediv_of_nonneg i (by omega), Int.fmod_eq_emod_of_nonneg i (by omega)]
  have ok : ObjOk X.prog X.w (upd H s.heap.objs.size (.tup [.int (i / j), .int (i % j)])) (s.heap.push { cls := .type "tuple", data := .seq #[.int (i / j) s.toks, .int (i % j) (s.toks + 1)] }) s.heap.objs.size (.tup [.int (i / j), .int (i % j)]) :=
    ⟨by show 2 ≤ sizeLine; rw [sizeLine_eq]; decide, [.int (i / j) s.toks, .int (i % j) (s.toks + 1)], .cons ⟨_, rfl⟩ (.cons ⟨_, rfl⟩ .nil), _, Heap.get?_push_size s.heap rfl, rfl, 0, rfl⟩
  exact ⟨.ref s.heap.objs.size, _, I.laid (fun b o e => Heap.get?_push_of_some _ e) (Nat.le_refl _) ok, rfl, q _ (I.hok.fresh (Nat.le_refl _))⟩
theorem cr_divmod : CallR X (.builtin "divmod") (raOf X.K G baDivmod) := by
  refine divmodW.imp ?_
  rintro xs H Q ⟨ws, S, γ, w, rs, s, h, k⟩
  unfold baDivmod at h
  split at h
  · cases rs with
    | cons r t =>
    cases t with
    | cons r' t =>
    cases t
    cases r
    cases r'
    split at h
    · rename_i i j hd
      cases h
      refine ⟨_, _, rfl, hd, fun p hp => ?_⟩
      have ex := Ext.upd (K := X.K) (G := G) s (o := .tup [.int (i / j), .int (i % j)]) hp
      exact k _ γ _ ex (.tup (.inl ⟨.inl upd_same, s.fresh hp⟩) (.cons (.int _) (.cons (.int _) .nil))) (s.upd hp)
    · cases h
  · cases h
theorem cr_gcdW : CallR X (.builtin "math.gcd") (raOf X.K G baGcd) := by
  refine cr_gcd.imp ?_
  rintro xs H Q ⟨ws, S, γ, w, rs, s, h, k⟩
  unfold baGcd at h
  split at h
  · cases rs with
    | cons r t =>
    cases t with
    | cons r' t =>
    cases t
    cases r
    cases r'
    cases h
    exact ⟨_, _, rfl, k _ γ H Ext.refl (.int _) s⟩
  · cases h
theorem cr_combW : CallR X (.builtin "math.comb") (raOf X.K G baComb) := by
  intro pins s σ H xs us Q I r0 q
  obtain ⟨ws, S, γ, w, rs, ss, h, k⟩ := q
  unfold baComb at h
  split at h
  · rename_i a b
    cases rs with
    | cons r t =>
    cases t with
    | cons r' t =>
    cases t
    cases r
    cases r'
    split at h
    · rename_i hd
      cases h
      obtain ⟨t, u, rfl⟩ := Vals.int2 r0
      refine PySem.W.mc_comb hd.1 hd.2.1 (by omega) (.inr hd.2.2) fun _ => ⟨.int _, H, I.tok _, ⟨_, rfl⟩, ?_⟩
      exact k _ γ H Ext.refl (.int _) ss
    · cases h
  · cases h
theorem intsOf_reps {K : PySem.W.Frag} {γ : Ga} {H : Hp} : ∀ {xs : List W} {vs : List V} {ns : List Int}, Reps K G γ H xs vs → intsOf xs = some ns → vs = ns.map V.int
  | [], _, ns, .nil, h => by cases h; rfl
  | x :: xs, _, ns, .cons r t, h => by
    cases r with
    | int i =>
      have h : (intsOf xs).map (i :: ·) = some ns := h
      cases e : intsOf xs with
      | none => rw [e] at h; cases h
      | some ms =>
        rw [e] at h
        have h : some (i :: ms) = some ns := h
        cases h
        rw [intsOf_reps t e]
        rfl
    | _ => simp [intsOf] at h
theorem bls_reps {K : PySem.W.Frag} {γ : Ga} {H : Hp} : ∀ {xs : List W} {vs : List V} {ns : List Bool}, Reps K G γ H xs vs → bls xs = some ns → vs = ns.map V.bl
  | [], _, ns, .nil, h => by cases h; rfl
  | x :: xs, _, ns, .cons r t, h => by
    cases r with
    | bl i =>
      have h : (bls xs).map (i :: ·) = some ns := h
      cases e : bls xs with
      | none => rw [e] at h; cases h
      | some ms =>
        rw [e] at h
        have h : some (i :: ms) = some ns := h
        cases h
        rw [bls_reps t e]
        rfl
    | _ => simp [bls] at h
theorem strsOf_reps {K : PySem.W.Frag} {γ : Ga} {H : Hp} : ∀ {xs : List W} {vs : List V} {ns : List (List Nat)}, Reps K G γ H xs vs → strsOf xs = some ns → vs = (ns.map fun l => (⟨l.toArray⟩ : Str)).map V.str ∧ ∀ l ∈ ns, ∀ c ∈ l, c < 0x110000
  | [], _, ns, .nil, h => by cases h; exact ⟨rfl, fun l hl => by cases hl⟩
  | x :: xs, _, ns, .cons r t, h => by
    cases r with
    | str i h1 h2 =>
      have h : (strsOf xs).map (i :: ·) = some ns := h
      cases e : strsOf xs with
      | none => rw [e] at h; cases h
      | some ms =>
        rw [e] at h
        have h : some (i :: ms) = some ns := h
        cases h
        obtain ⟨e1, e2⟩ := strsOf_reps t e
        rw [e1]
        refine ⟨rfl, fun l hl => ?_⟩
        rcases List.mem_cons.mp hl with z | z
        · rw [z]; exact h1
        · exact e2 l z
    | _ => simp [strsOf] at h
theorem cr_sumW (hc : X.calm = true) : CallR X (.builtin "sum") (raOf X.K G baSum) := by
  refine (cr_sum hc).imp ?_
  rintro xs H Q ⟨ws, S, γ, w, rs, s, h, k⟩
  unfold baSum at h
  split at h
  · rename_i ys
    cases rs with
    | cons r t =>
    cases t
    cases e : intsOf ys with
    | none => rw [e] at h; cases h
    | some ns =>
      rw [e] at h
      cases h
      cases r with
      | @scr a vs _ f q =>
      have ev := intsOf_reps q e
      subst ev
      exact ⟨a, ns, rfl, f.sq, k _ γ H Ext.refl (.int _) s⟩
  · rename_i x _
    cases rs with
    | cons r t =>
    cases t
    cases e : lstOf S x with
    | none => rw [e] at h; cases h
    | some ys =>
      rw [e] at h
      cases e2 : intsOf ys with
      | none =>
        have h : (intsOf ys).map (fun ns => W.int ns.sum) = some w := h
        rw [e2] at h; cases h
      | some ns =>
        have h : (intsOf ys).map (fun ns => W.int ns.sum) = some w := h
        rw [e2] at h
        cases h
        obtain ⟨a, vs, rfl, hs, q⟩ := lst_or s e r
        have ev := intsOf_reps q e2
        subst ev
        exact ⟨a, ns, rfl, hs, k _ γ H Ext.refl (.int _) s⟩
  · cases h
theorem cr_allW (hc : X.calm = true) : CallR X (.builtin "all") (raOf X.K G baAll) := by
  refine (cr_all hc).imp ?_
  rintro xs H Q ⟨ws, S, γ, w, rs, s, h, k⟩
  unfold baAll at h
  split at h
  · rename_i x
    cases rs with
    | cons r t =>
    cases t
    cases e : lstOf S x with
    | none => rw [e] at h; cases h
    | some ys =>
      rw [e] at h
      cases e2 : bls ys with
      | none =>
        have h : (bls ys).map (fun bs => W.bl (bs.all id)) = some w := h
        rw [e2] at h; cases h
      | some ns =>
        have h : (bls ys).map (fun bs => W.bl (bs.all id)) = some w := h
        rw [e2] at h
        cases h
        obtain ⟨a, vs, rfl, hs, q⟩ := lst_or s e r
        have ev := bls_reps q e2
        subst ev
        exact ⟨a, ns, rfl, hs, k _ γ H Ext.refl (.bl _) s⟩
  · cases h
theorem cr_anyW (hc : X.calm = true) : CallR X (.builtin "any") (raOf X.K G baAny) := by
  refine (cr_any hc).imp ?_
  rintro xs H Q ⟨ws, S, γ, w, rs, s, h, k⟩
  unfold baAny at h
  split at h
  · rename_i x
    cases rs with
    | cons r t =>
    cases t
    cases e : lstOf S x with
    | none => rw [e] at h; cases h
    | some ys =>
      rw [e] at h
      cases e2 : bls ys with
      | none =>
        have h : (bls ys).map (fun bs => W.bl (bs.any id)) = some w := h
        rw [e2] at h; cases h
      | some ns =>
        have h : (bls ys).map (fun bs => W.bl (bs.any id)) = some w := h
        rw [e2] at h
        cases h
        obtain ⟨a, vs, rfl, hs, q⟩ := lst_or s e r
        have ev := bls_reps q e2
        subst ev
        exact ⟨a, ns, rfl, hs, k _ γ H Ext.refl (.bl _) s⟩
  · cases h
theorem cr_tupleW : CallR X (.type "tuple") (raOf X.K G baTuple) := by
  refine call_tuple_of.imp ?_
  rintro xs H Q ⟨ws, S, γ, w, rs, s, h, k⟩
  unfold baTuple at h
  split at h
  · cases rs with
    | cons r t =>
    cases t
    cases r with
    | tup f q =>
    cases h
    exact ⟨_, _, rfl, .inr ⟨f.sq, k _ γ H Ext.refl (.tup f q) s⟩⟩
  · rename_i x _
    cases rs with
    | cons r t =>
    cases t
    cases e : lstOf S x with
    | none => rw [e] at h; cases h
    | some ys =>
      rw [e] at h
      cases h
      obtain ⟨a, vs, rfl, hs, q⟩ := lst_or s e r
      refine ⟨a, vs, rfl, .inl ⟨hs, fun p hp => ?_⟩⟩
      have ex := Ext.upd (K := X.K) (G := G) s (o := .tup vs) hp
      exact k _ γ _ ex (.tup (.inl ⟨.inl upd_same, s.fresh hp⟩) (q.mono ex)) (s.upd hp)
  · cases h
theorem cr_listW : CallR X (.type "list") (raOf X.K G baList) := by
  refine call_list_of.imp ?_
  rintro xs H Q ⟨ws, S, γ, w, rs, s, h, k⟩
  unfold baList at h
  split at h
  · cases rs with
    | cons r t =>
    cases t
    cases r with
    | @tup a vs _ f q =>
    cases h
    refine ⟨_, _, rfl, .inr f.sq, fun p hp => ?_⟩
    have ex := Ext.upd (K := X.K) (G := G) s (o := .lst vs) hp
    exact k _ γ _ ex (.lst upd_same (s.fresh hp) (q.mono ex)) (s.upd hp)
  · rename_i x _
    cases rs with
    | cons r t =>
    cases t
    cases e : lstOf S x with
    | none => rw [e] at h; cases h
    | some ys =>
      rw [e] at h
      cases h
      obtain ⟨a, vs, rfl, hs, q⟩ := lst_or s e r
      refine ⟨a, vs, rfl, .inl hs, fun p hp => ?_⟩
      have ex := Ext.upd (K := X.K) (G := G) s (o := .lst vs) hp
      exact k _ γ _ ex (.lst upd_same (s.fresh hp) (q.mono ex)) (s.upd hp)
  · cases h
/-! isinstance of a built-in type -/
def tyNm : Nat → String
  | 0 => "NoneType" | 1 => "bool" | 2 => "int" | 3 => "str" | 4 => "tuple" | 5 => "list" | _ => "dict"
theorem kind_kit {k c : Nat} (hk : k < 7) (hc : 1 ≤ c ∧ c < 7) : kitB (tyNm k) (tyNm c) = some (isKind k c) := by
  have all : ∀ k, k < 7 → ∀ c, c < 7 → 1 ≤ c → kitB (tyNm k) (tyNm c) = some (isKind k c) := by decide +kernel
  exact all k hk c hc.2 hc.1
theorem kind_ty {K : PySem.W.Frag} {γ : Ga} {H : Hp} {S : Store} {w : W} {v : V} {k : Nat} (s : StoreOk K G γ H S) (r : Rep K G γ H w v) (h : kindOf S w = some k) : k < 7 ∧ TyX K H v (.type (tyNm k)) := by
  cases r with
  | non => cases h; exact ⟨by decide, .base .non⟩
  | bl b => cases h; exact ⟨by decide, .base (.bl b)⟩
  | int i => cases h; exact ⟨by decide, .base (.int i)⟩
  | str l _ _ => cases h; exact ⟨by decide, .base (.str _)⟩
  | tup f q =>
    cases h
    refine ⟨by decide, ?_⟩
    rcases f with ⟨f | ⟨o, f⟩, _⟩ | ⟨o, its, n, hl, hc, _⟩
    · exact .base (.tup f)
    · exact .fTuple f
    · exact .kTuple hl hc
  | lst f _ q => cases h; exact ⟨by decide, .base (.lst f)⟩
  | scr f q =>
    cases h
    rcases f with ⟨⟨o, f⟩, _⟩ | ⟨o, its, n, hl, hc, _⟩
    · exact ⟨by decide, .base (.frz f)⟩
    · exact ⟨by decide, .kList hl hc⟩
  | @ref i a ha =>
    have h' : (match S[i]? with
      | some (.lst _) => some 5
      | some (.dct _ _) => some 6
      | _ => none) = some k := h
    split at h'
    · rename_i xs hc
      cases h'
      obtain ⟨_, vs, hv, _⟩ := s.cell i _ a hc ha
      exact ⟨by decide, .base (.lst hv)⟩
    · rename_i ks vs hc
      obtain ⟨_, _, us, d, _⟩ := s.cell i _ a hc ha
      cases h'
      rcases d with ⟨_, d, _⟩ | ⟨_, d, _⟩
      · exact ⟨by decide, .base (.dK d)⟩
      · exact ⟨by decide, .base (.dT d)⟩
    · cases h'
  | exc h1 f r => cases h
  | fn f => cases h
  | dct d f q =>
    cases h
    rcases d with ⟨_, d, _⟩ | ⟨_, d, _⟩
    · exact ⟨by decide, .base (.dK d)⟩
    · exact ⟨by decide, .base (.dT d)⟩
theorem se_isi (c : Nat) (hm : X.mg "isinstance" = none) (hmt : X.mg x = none) (ha : SE X G a f) (hv : bootBuiltins x = some (.type (tyNm c)) := by decide +kernel) (hc : 1 ≤ c ∧ c < 7 := by decide)
    (hg : Gl X "isinstance" := by rfl) (hgt : Gl X x := by rfl) (hn : x ≠ "__name__" := by decide) (hdb : (x == ("__debug__" : Str)) = false := by decide)
    (h1 : starEach (a :: [.Name x p2]) X.env = (false, eval a X.env) :: starEach [.Name x p2] X.env := by rfl) (h2 : starEach [.Name x p2] X.env = (false, eval (.Name x p2) X.env) :: starEach [] X.env := by rfl)
    (hpl : (backTo pos (starEach [.Name x p2] X.env)).any (·.1) = false := by rfl) : SE X G (.Call (.Name "isinstance" p) [a, .Name x p2] [] pos) (mUn (opIsi c) f) := by
  refine ⟨fun Wi tk => (pe_callB call_isi hg hm (by decide +kernel) (pa_cons (ha.run Wi tk) (pa_cons (pe_bltn (v := .ty (tyNm c)) hgt hmt hv rfl hn hdb) pa_nil h2) h1) (by decide) (by decide) h1 hpl).imp ?_⟩
  rintro σ H Q ⟨η, S, γ, he, hs, q⟩
  refine ⟨η, S, γ, he, hs, (Post.seq q).imp fun x H1 ⟨wx, S1, γ1, e1, r1, s1, q1⟩ => ?_⟩
  unfold opIsi at q1
  cases e : kindOf S1 wx with
  | none =>
    rw [e] at q1
    exact q1.elim
  | some k =>
    rw [e] at q1
    obtain ⟨k7, ty⟩ := kind_ty s1 r1 e
    exact ⟨x, .ty (tyNm c), _, _, _, rfl, .ty _, ty, kit_ty (kind_kit k7 hc), q1 _ γ1 H1 Ext.refl (.bl _) s1⟩
/-! texts joined -/
theorem join_W {a : List Nat} : ∀ {zs : List (List Nat)}, Txt.join ⟨a.toArray⟩ (zs.map fun l => (⟨l.toArray⟩ : Str)) = ⟨(joinW a zs).toArray⟩ := by
  intro zs
  rw [TL.join_eq]
  induction zs with
  | nil => rfl
  | cons z zs ih =>
    cases zs with
    | nil => rfl
    | cons y zs =>
      show (⟨z.toArray⟩ : Str) ++ ⟨a.toArray⟩ ++ Str.join ⟨a.toArray⟩ (List.map (fun l => (⟨l.toArray⟩ : Str)) (y :: zs)) = _
      rw [ih]
      show Str.mk ((z.toArray ++ a.toArray) ++ (joinW a (y :: zs)).toArray) = _
      simp [joinW]
theorem joinW_mem {a : List Nat} {c : Nat} : ∀ {zs : List (List Nat)}, c ∈ joinW a zs → c ∈ a ∨ ∃ z ∈ zs, c ∈ z
  | [], h => by cases h
  | [z], h => .inr ⟨z, List.mem_singleton.mpr rfl, h⟩
  | z :: y :: zs, h => by
    unfold joinW at h
    rcases List.mem_append.mp h with h | h
    · rcases List.mem_append.mp h with h | h
      · exact .inr ⟨z, List.mem_cons_self .., h⟩
      · exact .inl h
    · rcases joinW_mem h with h | ⟨u, hu, h⟩
      · exact .inl h
      · exact .inr ⟨u, List.mem_cons_of_mem _ hu, h⟩
theorem joinW_len {a : List Nat} : ∀ {zs : List (List Nat)}, (joinW a zs).length ≤ (zs.map (·.length)).sum + zs.length * a.length
  | [] => Nat.zero_le _
  | [z] => by simp [joinW]
  | z :: y :: zs => by
    have ih := joinW_len (a := a) (zs := y :: zs)
    unfold joinW
    simp only [List.length_append, List.map_cons, List.sum_cons, List.length_cons] at ih ⊢
    rw [Nat.add_mul] at ih ⊢
    rw [Nat.add_mul]
    omega
def mJoin (f g : ME) : ME := fun η S => (f η S).bind fun x S1 => match x with
  | .str a => (g η S1).bind fun y S2 => rOpt (opJoin (.str a) y S2) S2
  | _ => .stuck
theorem se_join (ha : SE X G a f) (hb : SE X G b g) (hs1 : starEach [b] X.env = [(false, eval b X.env)] := by rfl) (hbase : attributeBase a "join" X.env (eval a X.env) = eval a X.env := by rfl) (hline : (p.endLine == pos.line) = true := by rfl) :
    SE X G (.Call (.Attribute a "join" p) [b] [] pos) (mJoin f g) := by
  refine ⟨fun Wi tk => (pe_join (ha.run Wi tk) (hb.run Wi tk) hs1 hbase hline).imp ?_⟩
  rintro σ H Q ⟨η, S, γ, he, hs, q⟩
  refine ⟨η, S, γ, he, hs, (Post.seq q).imp fun x H1 ⟨wx, S1, γ1, e1, r1, s1, q1⟩ => ?_⟩
  split at q1
  · rename_i l
    cases r1 with
    | str _ a1 a2 =>
    refine ⟨⟨_, rfl⟩, η, S1, γ1, he.mono e1, s1, (Post.seq q1).imp fun y H2 ⟨wy, S2, γ2, e2, r2, s2, q2⟩ => ?_⟩
    unfold opJoin at q2
    cases es : seqOf S2 wy with
    | none =>
      simp only [es] at q2
      exact q2.elim
    | some ys =>
      simp only [es] at q2
      replace q2 : Post X.K G (Rep X.K G) (fun c d H' => Wi c d σ H') γ2 H2 (rOpt ((strsOf ys).bind fun zs => if (zs.map (·.length)).sum + zs.length * l.length ≤ bigLine then some (.str (joinW l zs)) else none) S2) Q := q2
      cases ez : strsOf ys with
      | none =>
        rw [ez] at q2
        exact q2.elim
      | some zs =>
        rw [ez] at q2
        replace q2 : Post X.K G (Rep X.K G) (fun c d H' => Wi c d σ H') γ2 H2 (rOpt (if (zs.map (·.length)).sum + zs.length * l.length ≤ bigLine then some (.str (joinW l zs)) else none) S2) Q := q2
        by_cases hl : (zs.map (·.length)).sum + zs.length * l.length ≤ bigLine
        · rw [if_pos hl] at q2
          have key : ∃ p vs, y = .ref p ∧ (SqL X.K H2 p vs ∨ SqT X.K H2 p vs) ∧ Reps X.K G γ2 H2 ys vs := by
            cases r2 with
            | tup fr q =>
              cases es
              exact ⟨_, _, rfl, .inr fr.sq, q⟩
            | lst h1 o1 q =>
              have es : lstOf S2 (W.lst _) = some ys := es
              obtain ⟨p, vs, e, hv, q⟩ := lst_or s2 es (.lst h1 o1 q)
              exact ⟨p, vs, e, .inl hv, q⟩
            | @ref i ad h1 =>
              have es : lstOf S2 (W.ref i) = some ys := es
              obtain ⟨p, vs, e, hv, q⟩ := lst_or s2 es (.ref h1)
              exact ⟨p, vs, e, .inl hv, q⟩
            | _ => cases es
          obtain ⟨p, vs, rfl, hsq, qr⟩ := key
          obtain ⟨ev, hc⟩ := strsOf_reps qr ez
          subst ev
          refine ⟨⟨l.toArray⟩, p, zs.map fun l => (⟨l.toArray⟩ : Str), rfl, rfl, hsq, ?_, ?_⟩
          · have e1 : ((zs.map fun l => (⟨l.toArray⟩ : Str)).map (·.length)) = zs.map (·.length) := by
              rw [List.map_map]
              exact List.map_congr_left fun l _ => by simp [Str.length]
            rw [e1, List.length_map]
            have e2 : (⟨l.toArray⟩ : Str).length = l.length := by simp [Str.length]
            rw [e2]
            exact hl
          · rw [join_W]
            refine q2 _ γ2 H2 Ext.refl (.str _ (fun c hc' => ?_) ?_) s2
            · rcases joinW_mem hc' with z | ⟨u, hu, z⟩
              · exact a1 c z
              · exact hc u hu c z
            · have := joinW_len (a := l) (zs := zs)
              rw [← bigLine_eq]
              omega
        · rw [if_neg hl] at q2
          exact q2.elim
  · exact q1.elim
/-! in, not in -/
theorem flat_rep {K : PySem.W.Frag} {γ : Ga} {H : Hp} {w : W} {v : V} (r : Rep K G γ H w v) (f : flat w = true) : flatV v = true := by
  cases r <;> first | rfl | cases f
theorem flats_rep {K : PySem.W.Frag} {γ : Ga} {H : Hp} : ∀ {ws : List W} {vs : List V}, Reps K G γ H ws vs → ws.all flat = true → vs.all flatV = true
  | _, _, .nil, _ => rfl
  | _, _, .cons r t, h => by
    rw [List.all_cons, Bool.and_eq_true] at h ⊢
    exact ⟨flat_rep r h.1, flats_rep t h.2⟩
theorem eqV_rep {K : PySem.W.Frag} {γ : Ga} {H : Hp} {w u : W} {v x : V} (r : Rep K G γ H w v) (q : Rep K G γ H u x) (f : flat w = true) (g : flat u = true) : eqV v x = eqW w u := by
  cases r with
  | str _ _ _ =>
    cases q with
    | str _ _ _ => unfold eqV eqW; exact str_beqW _ _
    | _ => first | (simp [eqV, eqW]; done) | cases g
  | non => cases q <;> first | (simp [eqV, eqW]; done) | cases g
  | bl _ => cases q <;> first | (simp [eqV, eqW]; done) | cases g
  | int _ => cases q <;> first | (simp [eqV, eqW]; done) | cases g
  | _ => cases f
theorem inV_rep {K : PySem.W.Frag} {γ : Ga} {H : Hp} {u : W} {x : V} (q : Rep K G γ H u x) (g : flat u = true) : ∀ {ws : List W} {vs : List V}, Reps K G γ H ws vs → ws.all flat = true → inV x vs = inW u ws
  | _, _, .nil, _ => rfl
  | _, _, .cons r t, h => by
    rw [List.all_cons, Bool.and_eq_true] at h
    have ih := inV_rep q g t h.2
    unfold inV inW at ih ⊢
    rw [List.any_cons, List.any_cons, ih, eqV_rep r q h.1 g]
theorem toDs_map : ∀ xs : List W, toDs xs = xs.map toD
  | [] => rfl
  | x :: xs => by unfold toDs; rw [toDs_map xs]; rfl
theorem shaped_of {d : PyData} {n : Nat} (h1 : d.canLay0 = true) (h2 : d.depth ≤ n) (h3 : n ≤ 64) : SeqAt.shaped d = true := by
  unfold SeqAt.shaped
  rw [h1, decide_eq_true (show d.depth ≤ 64 by omega)]
  rfl
theorem in_core {neg : Bool} {f : Value → Value → Sem Value} (h1 : OpR X f (fun x y H Q => ∃ (c : Nat) (z : Str), x = .str ⟨#[c]⟩ ∧ y = .str z ∧ Q (.bl (if neg then !decide (c ∈ z.cps.toList) else decide (c ∈ z.cps.toList))) H))
    (h2 : OpR X f (rIn X.K neg)) (h3 : OpR X f (fun x y H Q => ∃ d ds, Dp X.K H x d ∧ Dp X.K H y (.list ds) ∧ SeqAt.shaped d = true ∧ SeqAt.shaped (.list ds) = true ∧ Q (.bl (if neg then !ds.any fun z => PyData.eqv z d else ds.any fun z => PyData.eqv z d)) H)) :
    OpR X f (fun x y H Q => ∃ wx wy S γ b, Rep X.K G γ H wx x ∧ Rep X.K G γ H wy y ∧ StoreOk X.K G γ H S ∧ opIn wx wy S = some (.bl b) ∧ Q (.bl (if neg then !b else b)) H) := by
  refine (OpR.or h1 (OpR.or h2 h3)).imp ?_
  rintro x y H Q ⟨wx, wy, S, γ, b, rx, ry, s, h, k⟩
  unfold opIn at h
  split at h
  · rename_i c z
    cases rx
    cases ry
    cases h
    exact .inl ⟨c, _, rfl, rfl, k⟩
  · cases es : seqOf S wy with
    | none => simp only [es] at h; cases h
    | some ys =>
      simp only [es] at h
      have key : ∃ p vs, y = .ref p ∧ (SqL X.K H p vs ∨ SqT X.K H p vs) ∧ Reps X.K G γ H ys vs := by
        cases ry with
        | tup fr q =>
          cases es
          exact ⟨_, _, rfl, .inr fr.sq, q⟩
        | lst h1 o1 q =>
          have es : lstOf S (W.lst _) = some ys := es
          obtain ⟨p, vs, e, hv, q⟩ := lst_or s es (.lst h1 o1 q)
          exact ⟨p, vs, e, .inl hv, q⟩
        | @ref i ad h1 =>
          have es : lstOf S (W.ref i) = some ys := es
          obtain ⟨p, vs, e, hv, q⟩ := lst_or s es (.ref h1)
          exact ⟨p, vs, e, .inl hv, q⟩
        | _ => cases es
      split at h
      · rename_i hf
        cases h
        obtain ⟨p, vs, rfl, hsq, qr⟩ := key
        refine .inr (.inl ⟨p, vs, rfl, hsq, flat_rep rx hf.1, flats_rep qr hf.2, ?_⟩)
        rw [inV_rep rx hf.1 qr hf.2]
        exact k
      · cases el : lstOf S wy with
        | none => simp only [el] at h; cases h
        | some zs =>
          simp only [el] at h
          split at h
          · rename_i hd
            cases h
            obtain ⟨a, vs, rfl, hv, q⟩ := lstOf_rep s el ry
            obtain ⟨l1, l2⟩ := lay_of wx x 30 hd.1 rx
            obtain ⟨m1, m2⟩ := lays_of zs vs 29 hd.2 q
            refine .inr (.inr ⟨toD wx, toDs zs, dp_of wx x 30 hd.1 rx, .lst (SqL.of hv) (dps_of zs _ 29 hd.2 q), shaped_of l1 l2 (by decide), shaped_of (n := 30) (by simp only [PyData.canLay0]; exact m1) (by simp only [PyData.depth]; omega) (by decide), ?_⟩)
            have e : ((toDs zs).any fun z => PyData.eqv z (toD wx)) = inW wx zs := by
              unfold inW
              rw [toDs_map, List.any_map]
              have hz : ∀ z ∈ zs, okD z 29 = true := by
                have : ∀ (l : List W), okDs l 29 = true → ∀ z ∈ l, okD z 29 = true := by
                  intro l
                  induction l with
                  | nil => intro _ z hz; cases hz
                  | cons y l ih =>
                    intro h z hz
                    unfold okDs at h
                    obtain ⟨a1, a2⟩ := Bool.and_eq_true_iff.mp h
                    rcases List.mem_cons.mp hz with e | e
                    · rw [e]; exact a1
                    · exact ih a2 z e
                exact this zs hd.2
              clear m1 m2 q hv
              have : ∀ (l : List W), (∀ z ∈ l, okD z 29 = true) → l.any ((fun z => PyData.eqv z (toD wx)) ∘ toD) = l.any fun y => eqW y wx := by
                intro l
                induction l with
                | nil => intro _; rfl
                | cons y l ih =>
                  intro h
                  rw [List.any_cons, List.any_cons, ih fun z hz => h z (List.mem_cons_of_mem _ hz)]
                  show (PyData.eqv (toD y) (toD wx) || _) = _
                  rw [eqv_of y wx _ _ (h y (List.mem_cons_self ..)) hd.1]
              exact this zs hz
            rw [e]
            exact k
          · cases h
theorem opIn_bl {x y w : W} {S : Store} (h : opIn x y S = some w) : ∃ b, w = .bl b := by
  unfold opIn at h
  repeat' split at h
  all_goals first | (cases h; exact ⟨_, rfl⟩) | cases h
theorem o2_in (hu : X.A.units + 65 < cLine) : OpR X (compareOp .In) (rOf X.K G opIn) := by
  refine (in_core (G := G) (neg := false) op_in_sign op_in_seq (op_inD hu)).imp ?_
  rintro x y H Q ⟨wx, wy, S, γ, w, rx, ry, s, h, k⟩
  obtain ⟨b, rfl⟩ := opIn_bl h
  exact ⟨wx, wy, S, γ, b, rx, ry, s, h, k _ γ H Ext.refl (.bl _) s⟩
theorem o2_notIn (hu : X.A.units + 65 < cLine) : OpR X (compareOp .NotIn) (rOf X.K G opNotIn) := by
  refine (in_core (G := G) (neg := true) op_notIn_sign op_notIn_seq (op_notInD hu)).imp ?_
  rintro x y H Q ⟨wx, wy, S, γ, w, rx, ry, s, h, k⟩
  unfold opNotIn at h
  cases e : opIn wx wy S with
  | none => rw [e] at h; cases h
  | some z =>
    rw [e] at h
    obtain ⟨b, rfl⟩ := opIn_bl e
    cases h
    exact ⟨wx, wy, S, γ, b, rx, ry, s, e, k _ γ H Ext.refl (.bl _) s⟩
/-- a new list of the store -/
def mLstS (g : MA) : ME := fun η S => (g η S).bind fun xs S1 => if pures xs = true then sized xs.length (.ok (.ref S1.length) (S1 ++ [.lst xs])) else .stuck
theorem se_lstS (h : SA X G es ga) : SE X G (.List es pos) (mLstS ga) := by
  refine ⟨fun Wi tk => (pe_lst (h.run Wi tk)).imp ?_⟩
  rintro σ H Q ⟨η, S, γ, he, hs, q⟩
  refine ⟨η, S, γ, he, hs, (Post.seq q).imp fun x H1 ⟨wx, S1, γ1, e1, r1, s1, q1⟩ => ?_⟩
  split at q1
  · rename_i pw
    obtain ⟨hl, q1⟩ := sized_post q1
    refine ⟨by rw [← r1.length]; exact hl, fun p hp => ?_⟩
    have ex := Ext.push (K := X.K) (G := G) s1 (o := .lst x) hp
    refine q1 _ (γ1.push p) _ ex (.ref ?_) (s1.push hp pw r1)
    show (γ1.ρ ++ [p])[S1.length]? = some p
    rw [← s1.len, List.getElem?_append_right (Nat.le_refl _), Nat.sub_self]
    rfl
  · exact q1.elim
/-- how many values a row of targets takes -/
def GLen (gs : MGs) (n : Nat) : Prop := ∀ ws η S r, gs ws η S = some r → ws.length = n
theorem glen_nil : GLen gsNil 0 := fun ws η S r h => by
  cases ws with
  | nil => rfl
  | cons _ _ => cases h
theorem glen_cons {g : MG} {gs : MGs} {n : Nat} (h : GLen gs n) : GLen (gsCons g gs) (n + 1) := fun ws η S r e => by
  cases ws with
  | nil => cases e
  | cons w ws =>
    have e : (g w η S).bind (fun (η1, S1) => gs ws η1 S1) = some r := e
    cases eg : g w η S with
    | none => rw [eg] at e; cases e
    | some p =>
      rw [eg] at e
      rw [List.length_cons, h _ _ _ _ e]
end
end Mp

set_option Elab.async false
set_option linter.all false
set_option maxRecDepth 100000
set_option maxHeartbeats 4000000
/-! Mp: the program's functions, to a depth; the law's end. -/
namespace Mp
open PySem PySem.Spec PyProof.Rows L2
section
variable {P : Program} {w : World} {K : PySem.W.Frag} {mg : Str → Option Value} {base : Heap} {G : Gs} {T : List Mp.Fun} {D : List FnR} {d f : Nat} {r : FnR} {fd : FuncData}
theorem ft_zero (hgl : mg r.x = some (.ref (G.fa f))) (F : FunD K r.x r.x (defArgs r.st) (defBody r.st) (defScope r.st) [] [] (G.fa f) fd) (b : Binds K fd r.ps []) : FT P w K mg base G 0 (fns T 0 f) f r fd where
  ok := ⟨fun vs H Q E h => h.1, fun A outer s H args us vs Q E hr he hb hv h => by
    obtain ⟨_, ws, S, γ, _, _, q⟩ := h
    exact q.elim⟩
  gl := hgl
  F := F
  b := b
  len := fun ws S h => absurd rfl h
theorem getElem?_start {N : List Str} {vs : List V} {i : Nat} {v : V} (h : vs[i]? = some v) : (L2.start N vs)[i]? = some (some v) := by
  unfold L2.start
  have hi : i < vs.length := (List.getElem?_eq_some_iff.mp h).1
  rw [List.getElem?_append_left (by rw [List.length_map]; exact hi), List.getElem?_map, h]
  rfl
theorem env_start {N : List Str} {γ : Ga} {H : Hp} {ws : List W} {vs : List V} {np nv : Nat} (q : Reps K G γ H ws vs) (h1 : ws.length = np) (h2 : nv = N.length) : EnvOk K G γ H (ws.map some ++ List.replicate (nv - np) none) (L2.start N vs) := by
  have hl := q.length
  refine ⟨by unfold L2.start; rw [List.length_append, List.length_append, List.length_map, List.length_map, List.length_replicate, List.length_replicate, ← hl, h1, h2], fun i w hi => ?_⟩
  by_cases lt : i < ws.length
  · rw [List.getElem?_append_left (by rw [List.length_map]; exact lt), List.getElem?_map] at hi
    cases e : ws[i]? with
    | none => rw [e] at hi; cases hi
    | some u =>
      rw [e] at hi
      cases hi
      obtain ⟨v, hv, r⟩ := q.get e
      exact ⟨v, getElem?_start hv, r⟩
  · rw [List.getElem?_append_right (by rw [List.length_map]; omega)] at hi
    have := (List.getElem?_eq_some_iff.mp hi).2
    rw [List.getElem_replicate] at this
    cases this
theorem cfg_of {N ps : List Str} {scope : Scope} {qual : Str} {cdv : Value} {A : Around} {outer : List PySem.Env} {s : Shared} {H : Hp} {E : XK} {fa : Addr} (S : FnScope N ps scope) (hr : Room d (A.deeper (envOfC qual scope s.heap.objs.size fa cdv))) : Cfg (cxOf (L2.CX P w) P w K mg base N qual scope fa cdv A outer s H E) :=
  ⟨rfl, S.nd, passes_of (K := fun e s'' => L2.CX P w outer H s E e s'') rfl, by
    have := hr.un
    show (A.deeper _).units + 100 < cLine
    omega⟩
theorem fn_step {F : Mp.Fun} {N : List Str} (h : FT P w K mg base G d (fns T d f) f r fd) (hT : T[f]? = some F) (hnp : F.np = r.ps.length) (hnv : F.nv = N.length) (S : FnScope N r.ps (defScope r.st))
    (hbody : ∀ (cdv : Value) (A : Around) (outer : List PySem.Env) (s : Shared) (H : Hp) (E : XK), Cfg (cxOf (L2.CX P w) P w K mg base N r.x (defScope r.st) (G.fa f) cdv A outer s H E) → Room (d + 2) (A.deeper (envOfC r.x (defScope r.st) s.heap.objs.size (G.fa f) cdv)) →
      SSs (cxOf (L2.CX P w) P w K mg base N r.x (defScope r.st) (G.fa f) cdv A outer s H E) G (defBody r.st) (F.body (fns T d))) : FT P w K mg base G (d + 1) (fns T (d + 1) f) f r fd where
  ok := by
    refine h.F.ok S (fun vs H Q E q => q.1) fun cdv A outer s H vs Q E hr q => ?_
    obtain ⟨hl, ws, S0, γ, rs, ss, q⟩ := q
    refine ⟨tsOf K G (fun c dd _ H' => E c dd H') (F.body (fns T d)), (hbody cdv A outer s H E (cfg_of S hr) hr).run _ (takes_of rfl rfl rfl rfl), ?_⟩
    have q : Post K G (Rep K G) E γ H (match T[f]? with
      | some F => runF F (fns T d) ws S0
      | none => .stuck) Q := q
    rw [hT] at q
    have q : Post K G (Rep K G) E γ H (if ws.length = F.np then (if F.fr = true then (if pures ws = true then (finS false 0 (F.body (fns T d) (ws.map some ++ List.replicate (F.nv - F.np) none) [])).frame S0 else .stuck) else finS F.keep S0.length (F.body (fns T d) (ws.map some ++ List.replicate (F.nv - F.np) none) S0)) else .stuck) Q := q
    split at q
    · rename_i hw
      split at q
      · split at q
        · rename_i pw
          exact ⟨_, [], γ.hid, env_start (reps_hid pw rs) hw hnv, store_hid ss, fin_ok (keep := false) (fun _ _ _ _ z => z) (store_hid ss) (frame_post ss q)⟩
        · exact q.elim
      · exact ⟨_, S0, γ, env_start rs hw hnv, ss, fin_ok (fun _ _ _ _ z => z) ss q⟩
    · exact q.elim
  gl := h.gl
  F := h.F
  b := h.b
  len := fun ws S0 q => by
    have q : (match T[f]? with
      | some F => runF F (fns T d) ws S0
      | none => .stuck) ≠ R.stuck := q
    rw [hT] at q
    have q : (if ws.length = F.np then (if F.fr = true then (if pures ws = true then (finS false 0 (F.body (fns T d) (ws.map some ++ List.replicate (F.nv - F.np) none) [])).frame S0 else .stuck) else finS F.keep S0.length (F.body (fns T d) (ws.map some ++ List.replicate (F.nv - F.np) none) S0)) else .stuck) ≠ R.stuck := q
    split at q
    · rename_i hw
      rw [hw, hnp]
    · exact absurd rfl q
theorem kwb_of {ks ps : List Str} {n : Nat} {perm : List Nat} {x : Str} {params : Arguments} {body : List Stmt} {scope : Scope} {fa : Addr} (F : FunD K x x params body scope [] [] fa fd)
    (h : ∀ (kV doc pm : Value) (an : Option Addr) (cdv ct : Value) (us : List Value), us.length = n + ks.length → bindArgs (PySem.W.fnOf x x params body scope .none kV doc pm an cdv ct) ⟨us.take n, ks.zip (us.drop n)⟩ = pure (ps.zip (perm.map fun i => us.getD i .none))) : KwB K fd ps ks n perm := by
  obtain ⟨oc, od, dV, kV, doc, pm, an, cdv, ct, osl, rfl, lk, hcd, hD, hK⟩ := F.ex
  rcases hD with ⟨_, rfl⟩ | ⟨e, _⟩
  · exact fun s us hl => .of_eq (h kV doc pm an cdv ct us hl)
  · exact absurd rfl e
/-- what a called def lets out where nothing is wished -/
theorem noexc_fn {k : Nat} {fa : Addr} {ps : List Str} {sp : Sp} (F : FnOk P w K mg base (L2.CX P w) k fa fd ps sp) : FnOk P w K mg base CX0 k fa fd ps (fun vs H Q _ => sp vs H Q fun _ _ _ => False) :=
  ⟨fun vs H Q E h => F.len vs H Q _ h, fun A outer s H args us vs Q E hr he hb hv h => codeAny_mono (F.run A outer s H args us vs Q _ hr he hb hv h) fun r s' z => by
    cases r with
    | ok fl => cases fl <;> exact z
    | error e =>
      obtain ⟨_, _, _, _, _, _, _, _, _, _, _, _, z⟩ := z
      exact z.elim⟩
theorem reps_ints {γ : Ga} {H : Hp} : ∀ ns : List Int, Reps K G γ H (ns.map W.int) (ns.map V.int)
  | [] => .nil
  | n :: ns => .cons (.int n) (reps_ints ns)
/-- the law's promise at the script -/
theorem law_sp {a : Addr} {ns : List Int} {H : Hp} {φ : List W → Store → R W} (ho : Only H) (hs : SqL K H a (ns.map V.int)) (h : ∃ S, φ [.scr (ns.map .int)] [] = .ok (.bl true) S) : spF K G 1 φ [.ref a] H (fun v _ => v = .bl true) fun _ _ _ => False := by
  obtain ⟨S, h⟩ := h
  refine ⟨rfl, [.scr (ns.map .int)], [], ⟨[], []⟩, .one (.scr ?_ (reps_ints ns)), ⟨rfl, List.nodup_nil, fun i c a hc _ => (by simp at hc), fun a ha => (by simp at ha)⟩, ?_⟩
  · rcases hs with (hs | ⟨o, hs⟩) | hs
    · rcases ho a with z | ⟨o, xs, z⟩
      · rw [z] at hs; cases hs
      · rw [z] at hs; cases hs
    · exact .inl ⟨⟨o, hs⟩, by simp, by simp⟩
    · exact .inr hs
  · rw [h]
    intro v γ' H' _ r _
    cases r
    rfl
end
/-! the head's facts -/
def hookM (n : Nat) (fa : List He.Fa) (fn : List He.DefD) (ex : PySem.W.Frag → Bool) : PySem.W.Hook where
  α := He.AlD × Bool
  obs := fun s => (He.obsDG n fa fn s.heap.get?, ex (He.frG s.heap.get? (He.asD s.heap.get? n)))
  val := fun _ => (He.valD fn, true)
  says := fun _ h => ∃ K : PySem.W.Frag, K.In h ∧ He.SaysD fa fn K ∧ ex K = true
  of := fun _ _ e => ⟨_, He.frG_in, congrArg Prod.fst e, congrArg Prod.snd e⟩
  keeps := fun _ _ _ ⟨K, hK, c⟩ k => ⟨K, PySem.W.Frag.In.keeps hK k, c⟩
def obM (n : Nat) (fa : List He.Fa) (fn : List He.DefD) (ex : PySem.W.Frag → Bool) (g : Addr → Option Obj) : He.AlD × Bool := (He.obsDG n fa fn g, ex (He.frG g (He.asD g n)))
theorem obM_eq {n : Nat} {fa : List He.Fa} {fn : List He.DefD} {ex : PySem.W.Frag → Bool} {g : Addr → Option Obj} {s : Shared} (h : ∀ a, g a = s.heap.get? a) : obM n fa fn ex g = (hookM n fa fn ex).obs s := by
  have e : g = s.heap.get? := funext h
  rw [e] <;> rfl
/-- a name that the module binds to a built-in -/
def bltB (K : PySem.W.Frag) (x : Str) (id : String) : Bool := He.eqO (PySem.W.nsIn K mainGlobals x) (some (some (.builtin id)))
theorem bltB_ok {K : PySem.W.Frag} {h : Heap} {mg : Str → Option Value} {x : Str} {id : String} (X : K.In h) (G : h.Ns mainGlobals mg) (c : bltB K x id = true) : mg x = some (.builtin id) := PySem.W.mg_of X G (He.eqO_ok c)
end Mp
namespace Mp
open PySem PySem.Spec PyProof.Rows L2
section
variable {P : Program} {w : World} {K : PySem.W.Frag} {mg : Str → Option Value} {base : Heap} {G : Gs} {φ : List W → Store → R W} {d f : Nat} {r : FnR}
theorem with_kw {ks : List Str} {n : Nat} {perm : List Nat} (h : ∃ fd, FT P w K mg base G d φ f r fd) (k : ∀ fd, FT P w K mg base G d φ f r fd → KwB K fd r.ps ks n perm) : ∃ fd, FT P w K mg base G d φ f r fd ∧ KwB K fd r.ps ks n perm :=
  let ⟨fd, h⟩ := h
  ⟨fd, h, k fd h⟩
end
def MaLen (g : MA) (n : Nat) : Prop := ∀ η S ws S', g η S = .ok ws S' → ws.length = n
theorem ml_nil : MaLen maNil 0 := fun η S ws S' h => by cases h; rfl
theorem ml_cons {f : ME} {g : MA} {n : Nat} (h : MaLen g n) : MaLen (maCons f g) (n + 1) := fun η S ws S' e => by
  have e : ((f η S).bind fun x S1 => (g η S1).bind fun xs S2 => R.ok (x :: xs) S2) = .ok ws S' := e
  cases ef : f η S with
  | stuck => rw [ef] at e; cases e
  | exc c x S1 => rw [ef] at e; cases e
  | ok x S1 =>
    rw [ef] at e
    have e : ((g η S1).bind fun xs S2 => R.ok (x :: xs) S2) = .ok ws S' := e
    cases eg : g η S1 with
    | stuck => rw [eg] at e; cases e
    | exc c x S1 => rw [eg] at e; cases e
    | ok xs S2 =>
      rw [eg] at e
      cases e
      rw [List.length_cons, h _ _ _ _ eg]
end Mp
namespace Mp
open PySem PySem.Spec PyProof.Rows L2
theorem same_fd {K : PySem.W.Frag} {x q x' q' : Str} {pa pa' : Arguments} {bo bo' : List Stmt} {sc sc' : Scope} {dv dv' : List V} {kw kw' : List (Str × V)} {f : Addr} {fd fd' : FuncData} (F : FunD K x q pa bo sc dv kw f fd) (F' : FunD K x' q' pa' bo' sc' dv' kw' f fd') : fd' = fd := by
  obtain ⟨oc, od, dV, kV, doc, pm, an, cdv, ct, osl, e1, lk, _⟩ := F.ex
  obtain ⟨oc', od', dV', kV', doc', pm', an', cdv', ct', osl', e1', lk', _⟩ := F'.ex
  rw [lk] at lk'
  cases lk'
  rfl
end Mp

set_option Elab.async false
set_option linter.all false
set_option maxRecDepth 100000
set_option maxHeartbeats 4000000
/-! Mp: pure laws: runs of the law's draws. -/
namespace Mp
def wellB (φ : Fns) : MS := sSeq (sSet 2 (mIf (mTCmp opLt (mVar 1) (mBi baLen (maCons (mVar 0) (maNil)))) (mBi baInt (maCons (mBin opIx (mVar 0) (mVar 1)) (maNil))) (mBin opAdd (mBin opAdd (mBin opMul (mC (.int 7919)) (mVar 1)) (mBin opMod (mBi baInt (maCons (mBi baSum (maCons (mSl (mVar 0) (moNone) (moSome (mC (.int 3)))) (maNil))) (maNil))) (mC (.int 1000003)))) (mC (.int 29))))) (sSeq (sSet 3 (mBin opAdd (mC (.int 40127)) (mBin opMul (mC (.int 977)) (mVar 1)))) (sSeq (sFor (miSeq (mBin opAdd (mSl (mVar 0) (moNone) (moSome (mC (.int 6)))) (mLst (maCons (mVar 2) (maNil))))) (gVar 4) (sSet 3 (mBin opMod (mBi baInt (maCons (mBin opAdd (mBin opAdd (mBin opMul (mVar 3) (mC (.int 48271))) (mBin opMod (mBi baInt (maCons (mVar 4) (maNil))) (mC (.int 2147483399)))) (mC (.int 53))) (maNil))) (mC (.int 2147483563))))) (sRet (mLstS (maCons (mIf (mTOr (mTCmp opLt (mVar 2) (mC (.int 0))) (mTCmp opGe (mVar 2) (mBin opPow (mC (.int 10)) (mC (.int 17))))) (mBi baAbs (maCons (mVar 2) (maNil))) (mC (.int 0))) (maCons (mVar 3) (maCons (mC (.int 0)) (maNil))))))))
def takeB (φ : Fns) : MS := sSeq (sIf (mTCmp opGt (mBin opIx (mVar 0) (mC (.int 0))) (mC (.int 0))) (sSeq (sAsg (mBi baDivmod (maCons (mBin opIx (mVar 0) (mC (.int 0))) (maCons (mVar 1) (maNil)))) (gTupW (gsCons (gIdx (mVar 0) (mC (.int 0))) (gsCons (gVar 2) (gsNil))))) (sRet (mVar 2))) (sNx)) (sSeq (sAsg (mBin opAdd (mBin opIx (mVar 0) (mC (.int 2))) (mC (.int 1))) (gIdx (mVar 0) (mC (.int 2)))) (sSeq (sSet 3 (mBin opAdd (mBin opMod (mBi baInt (maCons (mBin opIx (mVar 0) (mC (.int 1))) (maNil))) (mC (.int 28657))) (mC (.int 40009)))) (sSeq (sAsg (mBin opMod (mBi baInt (maCons (mBin opAdd (mBin opAdd (mBin opMul (mBin opIx (mVar 0) (mC (.int 1))) (mVar 3)) (mBin opMul (mC (.int 50023)) (mBin opIx (mVar 0) (mC (.int 2))))) (mC (.int 17))) (maNil))) (mC (.int 2147483563))) (gIdx (mVar 0) (mC (.int 1)))) (sRet (mBin opMod (mBi baInt (maCons (mBin opDiv (mBin opIx (mVar 0) (mC (.int 1))) (mC (.int 83))) (maNil))) (mVar 1))))))
theorem sSeq_nx {f g : MS} {η η1 : Env} {S S1 : Store} (h : f η S = .nx η1 S1) : sSeq f g η S = g η1 S1 := by
  unfold sSeq
  rw [h] <;> rfl
theorem sSeq_ret {f g : MS} {η : Env} {w : W} {S S1 : Store} (h : f η S = .ret w S1) : sSeq f g η S = .ret w S1 := by
  unfold sSeq
  rw [h] <;> rfl
theorem sSet_ok {f : ME} {η : Env} {S S1 : Store} {i : Nat} {w : W} (h : f η S = .ok w S1) : sSet i f η S = .nx (η.set i (some w)) S1 := by
  unfold sSet
  rw [h] <;> rfl
theorem sFor_ok {it : MI} {g : MG} {b : MS} {η : Env} {S S1 : Store} {xs : List W} (h : it η S = .ok xs S1) : sFor it g b η S = forL g b xs η S1 := by
  unfold sFor
  rw [h] <;> rfl
/-- runs to its end -/
def Nx (r : RS) (P : Env → Store → Prop) : Prop := ∃ η S, r = .nx η S ∧ P η S
theorem Nx.of {η : Env} {S : Store} {P : Env → Store → Prop} (h : P η S) : Nx (.nx η S) P := ⟨η, S, rfl, h⟩
theorem Nx.seq {f g : MS} {η η1 : Env} {S S1 : Store} {P : Env → Store → Prop} (h : f η S = .nx η1 S1) (k : Nx (g η1 S1) P) : Nx (sSeq f g η S) P := by
  rw [sSeq_nx h]
  exact k
theorem Nx.seqN {f g : MS} {η : Env} {S : Store} {I P : Env → Store → Prop} (h : Nx (f η S) I) (k : ∀ η S, I η S → Nx (g η S) P) : Nx (sSeq f g η S) P := by
  obtain ⟨η1, S1, e, i⟩ := h
  rw [sSeq_nx e]
  exact k _ _ i
theorem Nx.imp {r : RS} {P P' : Env → Store → Prop} (h : Nx r P) (k : ∀ η S, P η S → P' η S) : Nx r P' := by
  obtain ⟨η1, S1, e, i⟩ := h
  exact ⟨_, _, e, k _ _ i⟩
theorem Nx.eq {f : MS} {η η1 : Env} {S S1 : Store} {P : Env → Store → Prop} (h : f η S = .nx η1 S1) (k : P η1 S1) : Nx (f η S) P := ⟨_, _, h, k⟩
/-- a loop that keeps an invariant -/
theorem Nx.loop {g : MG} {b : MS} (I : Env → Store → Prop) : ∀ (xs : List W), (∀ x, x ∈ xs → ∀ η S, I η S → ∃ η1 S1, g x η S = some (η1, S1) ∧ Nx (b η1 S1) I) → ∀ {η S}, I η S → Nx (forL g b xs η S) I
  | [], _, η, S, hi => ⟨η, S, rfl, hi⟩
  | x :: r, h, η, S, hi => by
    obtain ⟨η1, S1, e1, η2, S2, e2, i2⟩ := h x (List.mem_cons_self ..) η S hi
    have : forL g b (x :: r) η S = forL g b r η2 S2 := by
      conv => lhs; unfold forL
      simp only [e1, e2]
    rw [this]
    exact Nx.loop I r (fun y hy => h y (List.mem_cons_of_mem _ hy)) i2
theorem Nx.sfor {it : MI} {g : MG} {b : MS} {η : Env} {S S1 : Store} {xs : List W} (I : Env → Store → Prop) (hit : it η S = .ok xs S1) (h : ∀ x, x ∈ xs → ∀ η S, I η S → ∃ η1 S1, g x η S = some (η1, S1) ∧ Nx (b η1 S1) I) (hi : I η S1) : Nx (sFor it g b η S) I := by
  rw [sFor_ok hit]
  exact Nx.loop I xs h hi
/-- gives a value -/
def Rt (r : RS) (w : W) : Prop := ∃ S, r = .ret w S
theorem Rt.seqN {f g : MS} {η : Env} {S : Store} {I : Env → Store → Prop} {w : W} (h : Nx (f η S) I) (k : ∀ η S, I η S → Rt (g η S) w) : Rt (sSeq f g η S) w := by
  obtain ⟨η1, S1, e, i⟩ := h
  rw [sSeq_nx e]
  exact k _ _ i
theorem Rt.seq {f g : MS} {η η1 : Env} {S S1 : Store} {w : W} (h : f η S = .nx η1 S1) (k : Rt (g η1 S1) w) : Rt (sSeq f g η S) w := by
  rw [sSeq_nx h]
  exact k
theorem forL_nil {g : MG} {b : MS} {η : Env} {S : Store} : forL g b [] η S = .nx η S := rfl
theorem forL_nx {g : MG} {b : MS} {η η1 η2 : Env} {S S1 S2 : Store} {x : W} {r : List W} (hg : g x η S = some (η1, S1)) (hb : b η1 S1 = .nx η2 S2) : forL g b (x :: r) η S = forL g b r η2 S2 := by
  conv => lhs; unfold forL
  simp only [hg, hb]
/-- a loop that keeps an invariant -/
theorem forL_inv {g : MG} {b : MS} (I : Env → Store → Prop) : ∀ (xs : List W), (∀ x, x ∈ xs → ∀ η S, I η S → ∃ η1 S1 η2 S2, g x η S = some (η1, S1) ∧ b η1 S1 = .nx η2 S2 ∧ I η2 S2) → ∀ η S, I η S → ∃ η' S', forL g b xs η S = .nx η' S' ∧ I η' S'
  | [], _, η, S, hi => ⟨η, S, rfl, hi⟩
  | x :: r, h, η, S, hi => by
    obtain ⟨η1, S1, η2, S2, e1, e2, i2⟩ := h x (List.mem_cons_self ..) η S hi
    rw [forL_nx e1 e2]
    exact forL_inv I r (fun y hy => h y (List.mem_cons_of_mem _ hy)) η2 S2 i2
theorem intsOf_map : ∀ ns : List Int, intsOf (ns.map W.int) = some ns
  | [] => rfl
  | n :: r => by
    show (intsOf (r.map W.int)).map (n :: ·) = _
    rw [intsOf_map r] <;> rfl
theorem cutW_map {α β : Type} (f : α → β) (xs : List α) (lo hi : Option Int) : cutW (xs.map f) lo hi = (cutW xs lo hi).map f := by
  unfold cutW
  rw [List.length_map, List.map_take, List.map_drop]
theorem cutW_le {α : Type} (xs : List α) (lo hi : Option Int) : (cutW xs lo hi).length ≤ xs.length := by
  unfold cutW
  rw [List.length_take, List.length_drop]
  omega
theorem mulOk_r {i j : Int} (h : j.natAbs < 18446744073709551616) : mulOk i j = true := by
  unfold mulOk
  rw [decide_eq_true h, Bool.or_true]
theorem mulOk_l {i j : Int} (h : i.natAbs < 18446744073709551616) : mulOk i j = true := by
  unfold mulOk
  rw [decide_eq_true h, Bool.true_or]
theorem opMul_l {i j : Int} {S : Store} (h : i.natAbs < 18446744073709551616) : opMul (.int i) (.int j) S = some (.int (i * j)) := if_pos (mulOk_l h)
theorem opMul_r {i j : Int} {S : Store} (h : j.natAbs < 18446744073709551616) : opMul (.int i) (.int j) S = some (.int (i * j)) := if_pos (mulOk_r h)
theorem opMod_ok {i j : Int} {S : Store} (h : 0 < j) : opMod (.int i) (.int j) S = some (.int (i % j)) := if_pos h
theorem opDiv_ok {i j : Int} {S : Store} (h : 0 < j ∧ j.natAbs.log2 < 9000) : opDiv (.int i) (.int j) S = some (.int (i / j)) := if_pos h
theorem mBin_ok {o : O2} {f g : ME} {η : Env} {S S1 S2 : Store} {x y z : W} (hf : f η S = .ok x S1) (hg : g η S1 = .ok y S2) (h : o x y S2 = some z) : mBin o f g η S = .ok z S2 := by
  unfold mBin
  rw [hf]
  show (g η S1).bind _ = _
  rw [hg]
  show rOpt (o x y S2) S2 = _
  rw [h] <;> rfl
theorem mBi1_ok {o : OA} {f : ME} {η : Env} {S S1 : Store} {x z : W} (hf : f η S = .ok x S1) (h : o [x] S1 = some z) : mBi o (maCons f maNil) η S = .ok z S1 := by
  unfold mBi maCons
  rw [hf]
  show rOpt (o [x] S1) S1 = _
  rw [h] <;> rfl
theorem mVar_ok {i : Nat} {η : Env} {S : Store} {w : W} (h : η[i]? = some (some w)) : mVar i η S = .ok w S := by
  unfold mVar
  rw [h]
theorem mC_ok {w : W} {η : Env} {S : Store} : mC w η S = .ok w S := rfl
theorem mIf_t {c : MT} {f g : ME} {η : Env} {S S1 : Store} (h : c η S = .ok true S1) : mIf c f g η S = f η S1 := by
  unfold mIf
  rw [h] <;> rfl
theorem mIf_f {c : MT} {f g : ME} {η : Env} {S S1 : Store} (h : c η S = .ok false S1) : mIf c f g η S = g η S1 := by
  unfold mIf
  rw [h] <;> rfl
theorem maNil_ok {η : Env} {S : Store} : maNil η S = .ok [] S := rfl
theorem maCons_ok {f : ME} {g : MA} {η : Env} {S S1 S2 : Store} {x : W} {xs : List W} (hf : f η S = .ok x S1) (hg : g η S1 = .ok xs S2) : maCons f g η S = .ok (x :: xs) S2 := by
  unfold maCons
  rw [hf]
  show (g η S1).bind _ = _
  rw [hg] <;> rfl
theorem mBi_ok {o : OA} {g : MA} {η : Env} {S S1 : Store} {xs : List W} {z : W} (hf : g η S = .ok xs S1) (h : o xs S1 = some z) : mBi o g η S = .ok z S1 := by
  unfold mBi
  rw [hf]
  show rOpt (o xs S1) S1 = _
  rw [h] <;> rfl
theorem mUn_ok {o : W → Store → Option W} {f : ME} {η : Env} {S S1 : Store} {x z : W} (hf : f η S = .ok x S1) (h : o x S1 = some z) : mUn o f η S = .ok z S1 := by
  unfold mUn
  rw [hf]
  show rOpt (o x S1) S1 = _
  rw [h] <;> rfl
theorem mTup_ok {g : MA} {η : Env} {S S1 : Store} {xs : List W} (hf : g η S = .ok xs S1) (h : xs.length ≤ bigLine) : mTup g η S = .ok (.tup xs) S1 := by
  unfold mTup
  rw [hf]
  exact if_pos h
theorem mLst_ok {g : MA} {η : Env} {S S1 : Store} {xs : List W} (hf : g η S = .ok xs S1) (h : xs.length ≤ bigLine) : mLst g η S = .ok (.lst xs) S1 := by
  unfold mLst
  rw [hf]
  exact if_pos h
theorem mLstS_ok {g : MA} {η : Env} {S S1 : Store} {xs : List W} (hf : g η S = .ok xs S1) (hp : pures xs = true) (h : xs.length ≤ bigLine) : mLstS g η S = .ok (.ref S1.length) (S1 ++ [.lst xs]) := by
  unfold mLstS
  rw [hf]
  show (if pures xs = true then _ else _) = _
  rw [if_pos hp]
  exact if_pos h
theorem mCall_ok {φ : Fns} {f : Nat} {g : MA} {η : Env} {S S1 S2 : Store} {xs : List W} {z : W} (hf : g η S = .ok xs S1) (h : φ f xs S1 = .ok z S2) : mCall φ f g η S = .ok z S2 := by
  unfold mCall
  rw [hf]
  exact h
theorem mTru_ok {f : ME} {η : Env} {S S1 : Store} {x : W} {b : Bool} (hf : f η S = .ok x S1) (h : truthy S1 x = some b) : mTru f η S = .ok b S1 := by
  unfold mTru
  rw [hf]
  show rOpt (truthy S1 x) S1 = _
  rw [h] <;> rfl
theorem mTNot_ok {f : MT} {η : Env} {S S1 : Store} {b : Bool} (hf : f η S = .ok b S1) : mTNot f η S = .ok (!b) S1 := by
  unfold mTNot
  rw [hf] <;> rfl
theorem mTAnd_t {f g : MT} {η : Env} {S S1 : Store} (hf : f η S = .ok true S1) : mTAnd f g η S = g η S1 := by
  unfold mTAnd
  rw [hf] <;> rfl
theorem mTAnd_f {f g : MT} {η : Env} {S S1 : Store} (hf : f η S = .ok false S1) : mTAnd f g η S = .ok false S1 := by
  unfold mTAnd
  rw [hf] <;> rfl
theorem mTOr_t {f g : MT} {η : Env} {S S1 : Store} (hf : f η S = .ok true S1) : mTOr f g η S = .ok true S1 := by
  unfold mTOr
  rw [hf] <;> rfl
theorem mTOr_f {f g : MT} {η : Env} {S S1 : Store} (hf : f η S = .ok false S1) : mTOr f g η S = g η S1 := by
  unfold mTOr
  rw [hf] <;> rfl
theorem mTCmp_ok {o : O2} {f g : ME} {η : Env} {S S1 S2 : Store} {x y : W} {b : Bool} (hf : f η S = .ok x S1) (hg : g η S1 = .ok y S2) (h : o x y S2 = some (.bl b)) : mTCmp o f g η S = .ok b S2 := by
  unfold mTCmp
  rw [hf]
  show (g η S1).bind _ = _
  rw [hg]
  show (match o x y S2 with | some (.bl b) => R.ok b S2 | _ => .stuck) = _
  rw [h]
theorem sIf_t {c : MT} {f g : MS} {η : Env} {S S1 : Store} (h : c η S = .ok true S1) : sIf c f g η S = f η S1 := by
  unfold sIf
  rw [h] <;> rfl
theorem sIf_f {c : MT} {f g : MS} {η : Env} {S S1 : Store} (h : c η S = .ok false S1) : sIf c f g η S = g η S1 := by
  unfold sIf
  rw [h] <;> rfl
theorem sIf_n {c : MT} {f : MS} {η : Env} {S S1 : Store} (h : c η S = .ok false S1) : sIf c f sNx η S = .nx η S1 := sIf_f h
theorem sRet_ok {f : ME} {η : Env} {S S1 : Store} {w : W} (h : f η S = .ok w S1) : sRet f η S = .ret w S1 := by
  unfold sRet
  rw [h] <;> rfl
theorem sAsg_ok {f : ME} {g : MG} {η η2 : Env} {S S1 S2 : Store} {w : W} (h : f η S = .ok w S1) (hg : g w η S1 = some (η2, S2)) : sAsg f g η S = .nx η2 S2 := by
  unfold sAsg
  rw [h]
  show optS (g w η S1) = _
  rw [hg] <;> rfl
theorem gIdx_ok {o i : ME} {w ow iw : W} {η : Env} {S S1 S2 S3 : Store} (ho : o η S = .ok ow S1) (hi : i η S1 = .ok iw S2) (h : setAt ow iw w S2 = some S3) : gIdx o i w η S = some (η, S3) := by
  unfold gIdx
  rw [ho]
  show (match i η S1 with | .ok iw S2 => (setAt ow iw w S2).map fun S3 => (η, S3) | _ => none) = _
  rw [hi]
  show (setAt ow iw w S2).map _ = _
  rw [h] <;> rfl
theorem gsCons_ok {g : MG} {gs : MGs} {w : W} {r : List W} {η η1 : Env} {S S1 : Store} {z : Option (Env × Store)} (h : g w η S = some (η1, S1)) (h2 : gs r η1 S1 = z) : gsCons g gs (w :: r) η S = z := by
  unfold gsCons
  show (g w η S).bind _ = _
  rw [h]
  exact h2
theorem opIx_ref {S : Store} {i : Nat} {k : Int} {xs : List W} {w : W} (hs : S[i]? = some (.lst xs)) (h : atW xs k = some w) : opIx (.ref i) (.int k) S = some w := by
  show (lstOf S (.ref i)).bind _ = _
  rw [show lstOf S (.ref i) = some xs from by show (match S[i]? with | some (.lst xs) => some xs | _ => none) = _; rw [hs]]
  exact h
theorem setAt_ref {S : Store} {i : Nat} {k : Int} {xs : List W} {w : W} (hs : S[i]? = some (.lst xs)) (h : 0 ≤ k ∧ k < xs.length) (hp : w.pure = true) : setAt (.ref i) (.int k) w S = some (S.set i (.lst (xs.set k.toNat w))) := by
  show (match S[i]? with
    | some (.lst xs) => if 0 ≤ k ∧ k < xs.length then (if w.pure then some (S.set i (.lst (xs.set k.toNat w))) else none)
        else if k < 0 ∧ -(xs.length : Int) ≤ k then (if w.pure then some (S.set i (.lst (xs.set (k + xs.length).toNat w))) else none) else none
    | _ => none) = _
  rw [hs]
  show (if _ then _ else _) = _
  rw [if_pos h, if_pos hp]
/-- the well of a turn -/
theorem well_ok {φ : Fns} {ns : List Int} {t : Nat} {S : Store} (hl : ns.length ≤ 63) (ht : t ≤ 1000) :
    ∃ a b : Int, 0 ≤ a ∧ 0 ≤ b ∧ wellB φ [some (.scr (ns.map .int)), some (.int t), none, none, none] S = .ret (.ref S.length) (S ++ [.lst [.int a, .int b, .int 0]]) := by
  unfold wellB
  have h1 : ∃ o : Int, (mIf (mTCmp opLt (mVar 1) (mBi baLen (maCons (mVar 0) (maNil)))) (mBi baInt (maCons (mBin opIx (mVar 0) (mVar 1)) (maNil))) (mBin opAdd (mBin opAdd (mBin opMul (mC (.int 7919)) (mVar 1)) (mBin opMod (mBi baInt (maCons (mBi baSum (maCons (mSl (mVar 0) (moNone) (moSome (mC (.int 3)))) (maNil))) (maNil))) (mC (.int 1000003)))) (mC (.int 29)))) [some (.scr (ns.map .int)), some (.int t), none, none, none] S = .ok (.int o) S := by
    have hc : (mTCmp opLt (mVar 1) (mBi baLen (maCons (mVar 0) (maNil)))) [some (.scr (ns.map .int)), some (.int t), none, none, none] S = .ok (decide ((t : Int) < ((ns.map W.int).length : Int))) S := rfl
    unfold mIf
    rw [hc]
    by_cases lt : (t : Int) < ((ns.map W.int).length : Int)
    · have l2 : t < ns.length := by rw [List.length_map] at lt; omega
      refine ⟨ns[t], ?_⟩
      show (if decide ((t : Int) < ((ns.map W.int).length : Int)) = true then _ else _) = _
      rw [if_pos (decide_eq_true lt)]
      refine mBi1_ok (x := .int ns[t]) (S1 := S) (mBin_ok (S1 := S) (x := .scr (ns.map .int)) (y := .int t) rfl rfl ?_) rfl
      show atW (ns.map W.int) t = _
      unfold atW ixW
      rw [if_pos (by omega), if_pos lt]
      show (ns.map W.int)[((t : Int)).toNat]? = _
      rw [Int.toNat_natCast, List.getElem?_map, List.getElem?_eq_getElem l2] <;> rfl
    · refine ⟨7919 * t + (cutW ns none (some 3)).sum % 1000003 + 29, ?_⟩
      show (if decide ((t : Int) < ((ns.map W.int).length : Int)) = true then _ else _) = _
      rw [if_neg (by rw [decide_eq_true_eq]; exact lt)]
      refine mBin_ok (S1 := S) (mBin_ok (S1 := S) (mBin_ok (S1 := S) rfl rfl (opMul_l (by decide))) (mBin_ok (S1 := S) (mBi1_ok (S1 := S) (mBi1_ok (S1 := S) (x := .lst ((cutW ns none (some 3)).map .int)) (z := .int (cutW ns none (some 3)).sum) ?_ ?_) rfl) rfl (opMod_ok (by decide))) rfl) rfl rfl
      · show R.ok (W.lst (cutW (ns.map W.int) none (some 3))) S = _
        rw [cutW_map]
      · show (intsOf ((cutW ns none (some 3)).map W.int)).map (fun ns => W.int ns.sum) = _
        rw [intsOf_map] <;> rfl
  obtain ⟨o, h1⟩ := h1
  rw [sSeq_nx (sSet_ok h1)]
  have h2 : (sSet 3 (mBin opAdd (mC (.int 40127)) (mBin opMul (mC (.int 977)) (mVar 1)))) ([some (.scr (ns.map .int)), some (.int t), none, none, none].set 2 (some (.int o))) S = .nx [some (.scr (ns.map .int)), some (.int t), some (.int o), some (.int (40127 + 977 * t)), none] S :=
    sSet_ok (mBin_ok (S1 := S) rfl (mBin_ok (S1 := S) rfl rfl (opMul_l (by decide))) rfl)
  rw [sSeq_nx h2]
  have h3 : ∀ η S, η = [some (.scr (ns.map .int)), some (.int t), some (.int o), some (.int (40127 + 977 * t)), none] → (miSeq (mBin opAdd (mSl (mVar 0) (moNone) (moSome (mC (.int 6)))) (mLst (maCons (mVar 2) (maNil))))) η S = .ok ((cutW ns none (some 6) ++ [o]).map .int) S := by
    rintro η S rfl
    unfold miSeq
    rw [mBin_ok (S1 := S) (S2 := S) (x := .lst ((cutW ns none (some 6)).map .int)) (y := .lst [.int o]) (z := .lst ((cutW ns none (some 6)).map .int ++ [.int o]))]
    · rw [List.map_append] <;> rfl
    · show R.ok (W.lst (cutW (ns.map W.int) none (some 6))) S = _
      rw [cutW_map]
    · rfl
    · show (if ((cutW ns none (some 6)).map W.int).length + 1 ≤ bigLine then _ else _) = _
      have := cutW_le ns none (some 6)
      rw [if_pos (by rw [List.length_map]; unfold bigLine; omega)]
  have h4 := forL_inv (g := gVar 4) (b := sSet 3 (mBin opMod (mBi baInt (maCons (mBin opAdd (mBin opAdd (mBin opMul (mVar 3) (mC (.int 48271))) (mBin opMod (mBi baInt (maCons (mVar 4) (maNil))) (mC (.int 2147483399)))) (mC (.int 53))) (maNil))) (mC (.int 2147483563))))
    (fun η S' => S' = S ∧ ∃ b : Int, 0 ≤ b ∧ ∃ w, η = [some (.scr (ns.map .int)), some (.int t), some (.int o), some (.int b), w]) ((cutW ns none (some 6) ++ [o]).map .int) (by
      intro x hx η S' hi
      obtain ⟨rfl, b, hb, w, rfl⟩ := hi
      obtain ⟨i, _, rfl⟩ := List.mem_map.mp hx
      exact ⟨_, _, _, _, rfl, sSet_ok (mBin_ok (S1 := S') (mBi1_ok (S1 := S') (mBin_ok (S1 := S') (mBin_ok (S1 := S') (mBin_ok (S1 := S') rfl rfl (opMul_r (by decide))) (mBin_ok (S1 := S') (mBi1_ok (S1 := S') rfl rfl) rfl (opMod_ok (by decide))) rfl) rfl rfl) rfl) rfl (opMod_ok (by decide))), rfl, _, Int.emod_nonneg _ (by decide), _, rfl⟩)
    [some (.scr (ns.map .int)), some (.int t), some (.int o), some (.int (40127 + 977 * t)), none] S ⟨rfl, _, by omega, _, rfl⟩
  obtain ⟨η', S', h4, rfl, b, hb, w, rfl⟩ := h4
  rw [sSeq_nx ((sFor_ok (h3 _ S' rfl)).trans h4)]
  refine ⟨if o < 0 ∨ 100000000000000000 ≤ o then (if o < 0 then -o else o) else 0, b, ?_, hb, ?_⟩
  · split
    · split <;> omega
    · omega
  · have h5 : (mIf (mTOr (mTCmp opLt (mVar 2) (mC (.int 0))) (mTCmp opGe (mVar 2) (mBin opPow (mC (.int 10)) (mC (.int 17))))) (mBi baAbs (maCons (mVar 2) (maNil))) (mC (.int 0))) [some (.scr (ns.map .int)), some (.int t), some (.int o), some (.int b), w] S' = .ok (.int (if o < 0 ∨ 100000000000000000 ≤ o then (if o < 0 then -o else o) else 0)) S' := by
      by_cases c1 : o < 0
      · rw [if_pos (.inl c1)]
        unfold mIf
        rw [show (mTOr (mTCmp opLt (mVar 2) (mC (.int 0))) (mTCmp opGe (mVar 2) (mBin opPow (mC (.int 10)) (mC (.int 17))))) [some (.scr (ns.map .int)), some (.int t), some (.int o), some (.int b), w] S' = .ok true S' from by
          show (if decide (o < 0) = true then R.ok true S' else _) = _
          rw [if_pos (decide_eq_true c1)]]
        rfl
      · have e : (mTOr (mTCmp opLt (mVar 2) (mC (.int 0))) (mTCmp opGe (mVar 2) (mBin opPow (mC (.int 10)) (mC (.int 17))))) [some (.scr (ns.map .int)), some (.int t), some (.int o), some (.int b), w] S' = .ok (decide (100000000000000000 ≤ o)) S' := by
          show (if decide (o < 0) = true then R.ok true S' else R.ok (decide ((10 : Int) ^ (17 : Nat) ≤ o)) S') = _
          rw [if_neg (by rw [decide_eq_true_eq]; exact c1)] <;> rfl
        unfold mIf
        rw [e]
        by_cases c2 : 100000000000000000 ≤ o
        · rw [if_pos (.inr c2)]
          show (if decide (100000000000000000 ≤ o) = true then _ else _) = _
          rw [if_pos (decide_eq_true c2)] <;> rfl
        · rw [if_neg (by rintro (z | z) <;> contradiction)]
          show (if decide (100000000000000000 ≤ o) = true then _ else _) = _
          rw [if_neg (by rw [decide_eq_true_eq]; exact c2)] <;> rfl
    exact sRet_ok (mLstS_ok (S1 := S') (maCons_ok h5 (maCons_ok (S1 := S') (x := .int b) rfl (maCons_ok (S1 := S') rfl rfl))) rfl (by show 3 ≤ bigLine; decide))
/-- a well -/
def Well (S : Store) (i : Nat) : Prop := ∃ a b c : Int, 0 ≤ a ∧ 0 ≤ b ∧ S[i]? = some (.lst [.int a, .int b, .int c])
theorem take_ok {φ : Fns} {S : Store} {i : Nat} {n : Int} (hw : Well S i) (h0 : 0 < n) (h1 : n.natAbs.log2 < 9000) :
    ∃ v : Int, 0 ≤ v ∧ v < n ∧ ∃ S', takeB φ [some (.ref i), some (.int n), none, none] S = .ret (.int v) S' ∧ Well S' i ∧ S'.length = S.length ∧ ∀ j, j ≠ i → S'[j]? = S[j]? := by
  obtain ⟨a, b, c, ha, hb, hs⟩ := hw
  have hi : i < S.length := (List.getElem?_eq_some_iff.mp hs).1
  have ix : ∀ {η : Env} {S : Store} {a b c : Int} (_ : S[i]? = some (.lst [.int a, .int b, .int c])) (k : Int) (w : W), η[0]? = some (some (.ref i)) → atW [.int a, .int b, .int c] k = some w → mBin opIx (mVar 0) (mC (.int k)) η S = .ok w S := fun hs k w h0 h => mBin_ok (mVar_ok h0) rfl (opIx_ref hs h)
  have tst : ∀ η : Env, η[0]? = some (some (.ref i)) → (mTCmp opGt (mBin opIx (mVar 0) (mC (.int 0))) (mC (.int 0))) η S = .ok (decide (0 < a)) S := fun η e => mTCmp_ok (ix hs 0 _ e rfl) rfl rfl
  unfold takeB
  by_cases c0 : 0 < a
  · refine ⟨a % n, Int.emod_nonneg _ (by omega), Int.emod_lt_of_pos _ h0, S.set i (.lst [.int (a / n), .int b, .int c]), ?_, ⟨_, _, _, Int.ediv_nonneg ha (by omega), hb, List.getElem?_set_self hi⟩, List.length_set, fun j hj => List.getElem?_set_ne (Ne.symm hj)⟩
    refine sSeq_ret ?_
    rw [sIf_t ((tst _ rfl).trans (by rw [decide_eq_true c0]))]
    refine (sSeq_nx (η1 := [some (.ref i), some (.int n), some (.int (a % n)), none]) (S1 := S.set i (.lst [.int (a / n), .int b, .int c])) (sAsg_ok (S1 := S) (w := .tup [.int (a / n), .int (a % n)]) (mBi_ok (maCons_ok (ix hs 0 _ rfl rfl) (maCons_ok (mVar_ok rfl) rfl)) (if_pos ⟨h0, h1⟩)) (gsCons_ok (gIdx_ok rfl rfl (setAt_ref hs ⟨by decide, by show (_ : Int) < 3; decide⟩ rfl)) (gsCons_ok rfl rfl)))).trans ?_
    rfl
  · have S1 : ∃ S1, S1 = S.set i (.lst [.int a, .int b, .int (c + 1)]) := ⟨_, rfl⟩
    obtain ⟨S1, e1⟩ := S1
    have hs1 : S1[i]? = some (.lst [.int a, .int b, .int (c + 1)]) := by rw [e1, List.getElem?_set_self hi]
    have hd : ∃ d : Int, d = (b * (b % 28657 + 40009) + 50023 * (c + 1) + 17) % 2147483563 := ⟨_, rfl⟩
    obtain ⟨d, ed⟩ := hd
    have d0 : 0 ≤ d := by rw [ed]; exact Int.emod_nonneg _ (by decide)
    have S2 : ∃ S2, S2 = S1.set i (.lst [.int a, .int d, .int (c + 1)]) := ⟨_, rfl⟩
    obtain ⟨S2, e2⟩ := S2
    have hi1 : i < S1.length := (List.getElem?_eq_some_iff.mp hs1).1
    have hs2 : S2[i]? = some (.lst [.int a, .int d, .int (c + 1)]) := by rw [e2, List.getElem?_set_self hi1]
    refine ⟨(d / 83) % n, Int.emod_nonneg _ (by omega), Int.emod_lt_of_pos _ h0, S2, ?_, ⟨_, _, _, ha, d0, hs2⟩, by rw [e2, e1, List.length_set, List.length_set], fun j hj => by rw [e2, e1, List.getElem?_set_ne (Ne.symm hj), List.getElem?_set_ne (Ne.symm hj)]⟩
    refine (sSeq_nx (η1 := [some (.ref i), some (.int n), none, none]) (S1 := S) (sIf_n ((tst [some (.ref i), some (.int n), none, none] rfl).trans (by rw [decide_eq_false c0])))).trans ?_
    refine (sSeq_nx (η1 := [some (.ref i), some (.int n), none, none]) (S1 := S1) (sAsg_ok (S1 := S) (w := .int (c + 1)) (mBin_ok (ix hs 2 _ rfl rfl) rfl rfl) (gIdx_ok rfl rfl (by rw [e1]; exact setAt_ref hs ⟨by decide, by show (_ : Int) < 3; decide⟩ rfl)))).trans ?_
    refine (sSeq_nx (sSet_ok (η := [some (.ref i), some (.int n), none, none]) (mBin_ok (mBin_ok (mBi1_ok (ix hs1 1 _ rfl rfl) rfl) rfl (opMod_ok (by decide))) rfl rfl))).trans ?_
    refine (sSeq_nx (η1 := [some (.ref i), some (.int n), none, some (.int (b % 28657 + 40009))]) (S1 := S2) (sAsg_ok (S1 := S1) (w := .int d) (mBin_ok (mBi1_ok (mBin_ok (mBin_ok (mBin_ok (ix hs1 1 _ rfl rfl) rfl (opMul_r (by
        have := Int.emod_nonneg b (show (28657 : Int) ≠ 0 by decide)
        have := Int.emod_lt_of_pos b (show (0 : Int) < 28657 by decide)
        omega))) (mBin_ok rfl (ix hs1 2 _ rfl rfl) (opMul_l (by decide))) rfl) rfl rfl) rfl) rfl (by rw [ed]; exact opMod_ok (by decide))) (gIdx_ok rfl rfl (by rw [e2]; exact setAt_ref hs1 ⟨by decide, by show (_ : Int) < 3; decide⟩ rfl)))).trans ?_
    exact sRet_ok (mBin_ok (mBi1_ok (mBin_ok (ix hs2 1 _ rfl rfl) rfl (opDiv_ok (by decide))) rfl) rfl (opMod_ok h0))
theorem fns_eq {T : List Fun} {d k : Nat} {F : Fun} {ws : List W} {S : Store} (h : T[k]? = some F) (hl : ws.length = F.np) (hf : F.fr = false := by rfl) : fns T (d + 1) k ws S = finS F.keep S.length (F.body (fns T d) (ws.map some ++ List.replicate (F.nv - F.np) none) S) := by
  show (match T[k]? with
    | some F => runF F (fns T d) ws S
    | none => .stuck) = _
  rw [h]
  refine (if_pos hl).trans (if_neg ?_)
  rw [hf]
  decide
theorem fns_fr {T : List Fun} {d k : Nat} {F : Fun} {ws : List W} {S : Store} (h : T[k]? = some F) (hl : ws.length = F.np) (hp : pures ws = true) (hf : F.fr = true := by rfl) : fns T (d + 1) k ws S = (finS false 0 (F.body (fns T d) (ws.map some ++ List.replicate (F.nv - F.np) none) [])).frame S := by
  show (match T[k]? with
    | some F => runF F (fns T d) ws S
    | none => .stuck) = _
  rw [h]
  exact (if_pos hl).trans ((if_pos hf).trans (if_pos hp))
/-- what a framed function gives at one store it gives at any -/
theorem fr_any {T : List Fun} {d k : Nat} {F : Fun} {ws : List W} {S0 S1 S : Store} {w : W} (h : T[k]? = some F) (e : fns T d k ws S0 = .ok w S1) (hf : F.fr = true := by rfl) : fns T d k ws S = .ok w S := by
  cases d with
  | zero => cases e
  | succ d =>
    have e : (match T[k]? with
      | some F => runF F (fns T d) ws S0
      | none => .stuck) = .ok w S1 := e
    show (match T[k]? with
      | some F => runF F (fns T d) ws S
      | none => .stuck) = _
    rw [h] at e ⊢
    have e : runF F (fns T d) ws S0 = .ok w S1 := e
    show runF F (fns T d) ws S = _
    unfold runF at e ⊢
    split at e
    · rename_i hl
      rw [if_pos hl, if_pos hf]
      split at e
      · rename_i hp
        rw [if_pos hp]
        cases eb : finS false 0 (F.body (fns T d) (ws.map some ++ List.replicate (F.nv - F.np) none) []) with
        | stuck => rw [eb] at e; cases e
        | exc c x S2 =>
          rw [eb] at e
          have e : (if x.pure = true then R.exc c x S0 else .stuck) = .ok w S1 := e
          split at e <;> cases e
        | ok v S2 =>
          rw [eb] at e
          have e : (if v.pure = true then R.ok v S0 else .stuck) = .ok w S1 := e
          split at e
          · rename_i pv
            cases e
            exact if_pos pv
          · cases e
      · cases e
    · cases e
theorem well_call {T : List Fun} {d k : Nat} {ns : List Int} {t : Nat} {S : Store} (h : T[k]? = some ⟨2, 5, true, false, wellB⟩) (hl : ns.length ≤ 63) (ht : t ≤ 1000) :
    ∃ a b : Int, 0 ≤ a ∧ 0 ≤ b ∧ fns T (d + 1) k [.scr (ns.map .int), .int t] S = .ok (.ref S.length) (S ++ [.lst [.int a, .int b, .int 0]]) := by
  obtain ⟨a, b, ha, hb, e⟩ := well_ok (φ := fns T d) (S := S) hl ht
  refine ⟨a, b, ha, hb, ?_⟩
  rw [fns_eq h rfl]
  refine (congrArg (finS true S.length) e).trans ?_
  unfold finS fin
  show (if S.length < S.length then _ else (match (S ++ [Cell.lst [.int a, .int b, .int 0]])[S.length]? with
      | some (Cell.lst xs) => if pures xs = true then (if true = true then R.ok (W.ref S.length) ((S ++ [Cell.lst [.int a, .int b, .int 0]]).take S.length ++ [Cell.lst xs]) else .ok (W.lst xs) ((S ++ [Cell.lst [.int a, .int b, .int 0]]).take S.length)) else .stuck
      | _ => .stuck)) = _
  rw [if_neg (Nat.lt_irrefl _), List.getElem?_append_right (Nat.le_refl _), Nat.sub_self]
  show R.ok _ _ = _
  rw [List.take_left']
  rfl
theorem take_callW {T : List Fun} {d k : Nat} {S : Store} {i : Nat} {n : Int} (h : T[k]? = some ⟨2, 4, false, false, takeB⟩) (hw : Well S i) (h0 : 0 < n) (h1 : n.natAbs.log2 < 9000) :
    ∃ v : Int, 0 ≤ v ∧ v < n ∧ ∃ S', fns T (d + 1) k [.ref i, .int n] S = .ok (.int v) S' ∧ Well S' i ∧ S'.length = S.length ∧ ∀ j, j ≠ i → S'[j]? = S[j]? := by
  obtain ⟨v, v0, v1, S', e, w, l, o⟩ := take_ok (φ := fns T d) hw h0 h1
  refine ⟨v, v0, v1, S', ?_, w, l, o⟩
  rw [fns_eq h rfl]
  refine (congrArg (finS false S.length) e).trans ?_
  show R.ok _ (S'.take S.length) = _
  rw [List.take_of_length_le (by omega)]
theorem log_small {n : Int} (h0 : 0 < n) (h1 : n < 1073741824) : n.natAbs.log2 < 9000 := by
  have : n.natAbs.log2 < 30 := (Nat.log2_lt (by omega)).mpr (by omega)
  omega
theorem take_call {T : List Fun} {d k : Nat} {S : Store} {i : Nat} {n : Int} (h : T[k]? = some ⟨2, 4, false, false, takeB⟩) (hw : Well S i) (h0 : 0 < n) (h1 : n < 1073741824) :
    ∃ v : Int, 0 ≤ v ∧ v < n ∧ ∃ S', fns T (d + 1) k [.ref i, .int n] S = .ok (.int v) S' ∧ Well S' i ∧ S'.length = S.length ∧ ∀ j, j ≠ i → S'[j]? = S[j]? := take_callW h hw h0 (log_small h0 h1)
theorem Well.new {S : Store} {a b c : Int} (ha : 0 ≤ a) (hb : 0 ≤ b) : Well (S ++ [.lst [.int a, .int b, .int c]]) S.length := ⟨a, b, c, ha, hb, by rw [List.getElem?_append_right (Nat.le_refl _), Nat.sub_self] <;> rfl⟩
theorem mem_range {x : W} {a : Int} {n : Nat} (h : x ∈ rangeW a n) : ∃ t : Nat, t < n ∧ x = .int (a + t) := by
  obtain ⟨t, ht, rfl⟩ := List.mem_map.mp h
  exact ⟨t, List.mem_range.mp ht, rfl⟩
theorem pures_ints : ∀ ns : List Int, pures (ns.map W.int) = true
  | [] => rfl
  | n :: r => by
    show (true && pures (r.map W.int)) = true
    rw [pures_ints r] <;> rfl
theorem law_end {T : List Fun} {d k nv : Nat} {b : Fns → MS} {ns : List Int} (h : T[k]? = some ⟨1, nv, false, true, b⟩) (e : Rt (b (fns T d) (some (.scr (ns.map .int)) :: List.replicate (nv - 1) none) []) (.bl true)) : ∃ S, fns T (d + 1) k [.scr (ns.map .int)] [] = .ok (.bl true) S := by
  obtain ⟨S, e⟩ := e
  refine ⟨[], ?_⟩
  rw [fns_fr h rfl (by show (pures (ns.map W.int) && true) = true; rw [pures_ints]; rfl)]
  exact (congrArg (fun z => R.frame [] (finS false 0 z)) e).trans rfl
end Mp

set_option Elab.async false
set_option linter.all false
set_option maxRecDepth 100000
set_option maxHeartbeats 4000000
/-! Mp: zip, enumerate. -/
namespace Mp
open PySem PySem.Spec PyProof.Rows L2 RZ
/-- pairs of items that stand beside each other -/
def pairsW (xs ys : List W) : List W := (xs.zip ys).map fun p => W.tup [p.1, p.2]
def zipW : List W → Option (List W)
  | [.lst xs, .lst ys] => some (pairsW xs ys)
  | [.tup xs, .tup ys] => some (pairsW xs ys)
  | _ => none
def enumL : Int → List W → List W
  | _, [] => []
  | i, x :: r => .tup [.int i, x] :: enumL (i + 1) r
def enumW : List W → Option (List W)
  | [.lst xs] => some (enumL 0 xs)
  | _ => none
section
variable {K : PySem.W.Frag} {G : Gs} {γ : Ga} {H : Hp} {S : Store}
theorem pair_new {T : Addr} {x y : V} {wx wy : W} (hT : H T = none) (s : StoreOk K G γ H S) (rx : Rep K G γ H wx x) (ry : Rep K G γ H wy y) :
    Ext γ H γ (upd H T (.tup [x, y])) ∧ StoreOk K G γ (upd H T (.tup [x, y])) S ∧ Rep K G γ (upd H T (.tup [x, y])) (.tup [wx, wy]) (.ref T) :=
  ⟨Ext.upd s hT, s.upd hT, .tup (.inl ⟨.inl upd_same, s.fresh hT⟩) (.cons (rx.mono (Ext.upd s hT)) (.cons (ry.mono (Ext.upd s hT)) .nil))⟩
theorem pairsW_get {xs ys : List W} {i : Nat} {w : W} (h : (pairsW xs ys)[i]? = some w) : ∃ a b, xs[i]? = some a ∧ ys[i]? = some b ∧ w = .tup [a, b] := by
  unfold pairsW at h
  rw [List.getElem?_map] at h
  cases e : (xs.zip ys)[i]? with
  | none => rw [e] at h; cases h
  | some p =>
    rw [e] at h
    cases h
    rw [List.getElem?_zip_eq_some] at e
    exact ⟨_, _, e.1, e.2, rfl⟩
theorem pairsW_len {xs ys : List W} : (pairsW xs ys).length = min xs.length ys.length := by
  unfold pairsW
  rw [List.length_map, List.length_zip]
theorem itOk_zip {a b : Addr} {xs ys : List W} {vs us : List V} (sa : ∀ {γ' H'}, ExtW γ H γ' H' → SqL K H' a vs) (sb : ∀ {γ' H'}, ExtW γ H γ' H' → SqL K H' b us) (q : Reps K G γ H xs vs) (q' : Reps K G γ H ys us) : ItOk K G (Itz K a b) (pairsW xs ys) γ H := by
  refine ⟨fun i γ' H' S hi e _ => ?_, fun γ' H' S e _ => ⟨vs, us, sa e, sb e, ?_⟩, fun i w γ' H' S x H'' hw e s y => ?_⟩
  · rw [pairsW_len, q.length, q'.length] at hi
    have h1 : i < vs.length := by omega
    have h2 : i < us.length := by omega
    exact ⟨vs, us, vs[i], us[i], sa e, sb e, List.getElem?_eq_getElem h1, List.getElem?_eq_getElem h2⟩
  · rw [pairsW_len, q.length, q'.length]
    omega
  · obtain ⟨T, v, u, rfl, hT, rfl, h1, h2⟩ := y
    obtain ⟨p, r, hp, hr, rfl⟩ := pairsW_get hw
    obtain ⟨v', hv', rv⟩ := q.get hp
    obtain ⟨u', hu', ru⟩ := q'.get hr
    have z1 := h1 vs (sa e)
    have z2 := h2 us (sb e)
    rw [hv'] at z1
    rw [hu'] at z2
    cases z1
    cases z2
    exact pair_new hT s (rv.monoW e) (ru.monoW e)
theorem itOk_zipT {a b : Addr} {xs ys : List W} {vs us : List V} (sa : ∀ {γ' H'}, ExtW γ H γ' H' → SqT K H' a vs) (sb : ∀ {γ' H'}, ExtW γ H γ' H' → SqT K H' b us) (q : Reps K G γ H xs vs) (q' : Reps K G γ H ys us) : ItOk K G (ItzT K a b) (pairsW xs ys) γ H := by
  refine ⟨fun i γ' H' S hi e _ => ?_, fun γ' H' S e _ => ⟨vs, us, sa e, sb e, ?_⟩, fun i w γ' H' S x H'' hw e s y => ?_⟩
  · rw [pairsW_len, q.length, q'.length] at hi
    have h1 : i < vs.length := by omega
    have h2 : i < us.length := by omega
    exact ⟨vs, us, vs[i], us[i], sa e, sb e, List.getElem?_eq_getElem h1, List.getElem?_eq_getElem h2⟩
  · rw [pairsW_len, q.length, q'.length]
    omega
  · obtain ⟨T, v, u, rfl, hT, rfl, h1, h2⟩ := y
    obtain ⟨p, r, hp, hr, rfl⟩ := pairsW_get hw
    obtain ⟨v', hv', rv⟩ := q.get hp
    obtain ⟨u', hu', ru⟩ := q'.get hr
    have z1 := h1 vs (sa e)
    have z2 := h2 us (sb e)
    rw [hv'] at z1
    rw [hu'] at z2
    cases z1
    cases z2
    exact pair_new hT s (rv.monoW e) (ru.monoW e)
theorem enumL_get : ∀ {xs : List W} {k : Int} {i : Nat} {w : W}, (enumL k xs)[i]? = some w → ∃ a, xs[i]? = some a ∧ w = .tup [.int (k + i), a]
  | [], k, i, w, h => by simp [enumL] at h
  | x :: r, k, 0, w, h => by
    have e : w = .tup [.int k, x] := by simpa [enumL] using h.symm
    exact ⟨x, rfl, by rw [e]; simp⟩
  | x :: r, k, i + 1, w, h => by
    have h : (enumL (k + 1) r)[i]? = some w := by simpa [enumL] using h
    obtain ⟨a, ha, e⟩ := enumL_get h
    exact ⟨a, by simpa using ha, by rw [e]; congr 3; omega⟩
theorem enumL_len : ∀ {xs : List W} {k : Int}, (enumL k xs).length = xs.length
  | [], _ => rfl
  | x :: r, k => by rw [enumL, List.length_cons, List.length_cons, enumL_len]
theorem itOk_enum {a : Addr} {xs : List W} {vs : List V} (sa : ∀ {γ' H'}, ExtW γ H γ' H' → SqL K H' a vs) (q : Reps K G γ H xs vs) : ItOk K G (Ite K a) (enumL 0 xs) γ H := by
  refine ⟨fun i γ' H' S hi e _ => ?_, fun γ' H' S e _ => ⟨vs, sa e, ?_⟩, fun i w γ' H' S x H'' hw e s y => ?_⟩
  · rw [enumL_len, q.length] at hi
    exact ⟨vs, vs[i], sa e, List.getElem?_eq_getElem hi⟩
  · rw [enumL_len, q.length]
    exact Nat.le_refl _
  · obtain ⟨T, v, rfl, hT, rfl, h1⟩ := y
    obtain ⟨p, hp, rfl⟩ := enumL_get hw
    obtain ⟨v', hv', rv⟩ := q.get hp
    have z1 := h1 vs (sa e)
    rw [hv'] at z1
    cases z1
    rw [Int.zero_add]
    exact pair_new hT s (.int _) (rv.monoW e)
end
section
variable {X : Cx} {G : Gs} {a b e : Expr} {pos p tpos : Pos} {ga : MA} {elts : List Expr} {kk : Nat}
def miAll (o : List W → Option (List W)) (ga : MA) : MI := fun η S => (ga η S).bind fun ws S1 => rOpt (o ws) S1
theorem si_zip (hm : X.mg "zip" = none) (ha : SA X G [a, b] ga) (hg : Gl X "zip" := by rfl) (hs : starEach [a, b] X.env = (false, eval a X.env) :: starEach [b] X.env := by rfl) (hpl : (backTo pos (starEach [b] X.env)).any (·.1) = false := by rfl) :
    SI X G (.Tuple elts kk tpos) (.Call (.Name "zip" p) [a, b] [] pos) (miAll zipW ga) := by
  refine ⟨fun Wi tk => (pi_zipA hg hm (ha.run Wi tk) hs hpl).imp ?_⟩
  rintro σ H R ⟨η, S, γ, he, hs, q⟩
  refine ⟨η, S, γ, he, hs, (PostI.seq q).imp fun x H1 ⟨wx, S1, γ1, e1, r1, s1, q1⟩ => ?_⟩
  unfold zipW at q1
  split at q1
  · cases r1 with
    | cons r r1 =>
      cases r1 with
      | cons r' r1 =>
        cases r1
        cases r with
        | lst h1 o1 z1 =>
        cases r' with
        | lst h2 o2 z2 =>
        exact ⟨_, _, _, _, rfl, .inl ⟨SqL.of h1, SqL.of h2, q1 _ γ1 H1 Ext.refl s1 (itOk_zip (fun e => .inl (e.rd (.inl h1) o1).1) (fun e => .inl (e.rd (.inl h2) o2).1) z1 z2)⟩⟩
  · cases r1 with
    | cons r r1 =>
      cases r1 with
      | cons r' r1 =>
        cases r1
        cases r with
        | tup h1 z1 =>
        cases r' with
        | tup h2 z2 =>
        exact ⟨_, _, _, _, rfl, .inr ⟨h1.sq, h2.sq, q1 _ γ1 H1 Ext.refl s1 (itOk_zipT (fun e => (h1.monoW e).sq) (fun e => (h2.monoW e).sq) z1 z2)⟩⟩
  · exact q1.elim
theorem si_enum (hm : X.mg "enumerate" = none) (ha : SA X G [a] ga) (hg : Gl X "enumerate" := by rfl) (hs : starEach [a] X.env = [(false, eval a X.env)] := by rfl) :
    SI X G (.Tuple elts kk tpos) (.Call (.Name "enumerate" p) [a] [] pos) (miAll enumW ga) := by
  refine ⟨fun Wi tk => (pi_enum hg hm (ha.run Wi tk) hs).imp ?_⟩
  rintro σ H R ⟨η, S, γ, he, hs, q⟩
  refine ⟨η, S, γ, he, hs, (PostI.seq q).imp fun x H1 ⟨wx, S1, γ1, e1, r1, s1, q1⟩ => ?_⟩
  unfold enumW at q1
  split at q1
  · cases r1 with
    | cons r r1 =>
      cases r1
      cases r with
      | lst h1 o1 z1 =>
      exact ⟨_, _, rfl, SqL.of h1, q1 _ γ1 H1 Ext.refl s1 (itOk_enum (fun e => .inl (e.rd (.inl h1) o1).1) z1)⟩
  · exact q1.elim
end
end Mp

set_option Elab.async false
set_option linter.all false
set_option maxRecDepth 100000
set_option maxHeartbeats 4000000
/-! Mp: comprehensions of two fors. -/
namespace Mp
open PySem PySem.Spec PyProof.Rows L2
def compL2 (g : MG) (t : MT) (it1 : MI) (g1 : MG) (t1 : MT) (e : ME) (vs1 : List Nat) (η : Env) : List W → Store → List W → R (List W)
  | [], S, acc => .ok acc S
  | x :: r, S, acc => match g x η S with
    | none => .stuck
    | some (η1, S1) => (t η1 S1).bind fun b S2 => if b = true then (it1 η1 S2).bind fun ys S3 => (compL g1 t1 e (wipeE η1 vs1) ys S3 acc).bind fun acc' S4 => compL2 g t it1 g1 t1 e vs1 η r S4 acc' else compL2 g t it1 g1 t1 e vs1 η r S2 acc
def mComp2 (it : MI) (own : List Nat) (g : MG) (t : MT) (it1 : MI) (vs1 : List Nat) (g1 : MG) (t1 : MT) (e : ME) : ME := fun η S => (it η S).bind fun xs S1 => (noexc (compL2 g t it1 g1 t1 e vs1 (wipeE η own) xs S1 [])).bind fun ws S2 => .ok (.lst ws) S2
section
variable {X : Cx} {G : Gs} {tg iter elt : Expr} {ifs : List Expr} {scope : Scope} {f : ME} {g g1 : MG} {t t1 : MT} {it it1 : MI} {is is1 : List Nat} {own : List (Str × Nat)} {pos : Pos}
/-- what holds between turns: D holds what was gathered -/
structure Gat (K : PySem.W.Frag) (G : Gs) (γ0 : Ga) (H0 : Hp) (D : Addr) (γ : Ga) (H : Hp) (S : Store) (acc : List W) : Prop where
  s : StoreOk K G γ H S
  ex : Ext γ0 H0 γ H
  dβ : D ∈ γ.β
  us : ∃ us, H D = some (.lst us) ∧ Reps K G γ H acc us
theorem Gat.step {K : PySem.W.Frag} {γ0 γ γ' : Ga} {H0 H H' : Hp} {D : Addr} {S S' : Store} {acc : List W} (h : Gat K G γ0 H0 D γ H S acc) (e : Ext γ H γ' H') (s : StoreOk K G γ' H' S') : Gat K G γ0 H0 D γ' H' S' acc := by
  obtain ⟨us, h1, h2⟩ := h.us
  exact ⟨s, h.ex.trans e, e.bsub _ h.dβ, us, e.keep D _ h1 (h.s.bt D h.dβ).1, h2.mono e⟩
theorem Gat.put {K : PySem.W.Frag} {γ0 γ : Ga} {H0 H : Hp} {D : Addr} {S : Store} {acc : List W} {w : W} {v : V} (h : Gat K G γ0 H0 D γ H S acc) (hD : H0 D = none) (r : Rep K G γ H w v) (hsz : acc.length + 1 ≤ bigLine) :
    ∃ us, H D = some (.lst us) ∧ us.length < sizeLine ∧ Gat K G γ0 H0 D γ (L2.upd H D (.lst (us ++ [v]))) S (acc ++ [w]) := by
  obtain ⟨us, h1, h2⟩ := h.us
  rw [bigLine_eq] at hsz
  have ll := h2.length
  have n4 := (h.s.bt D h.dβ).1
  refine ⟨us, h1, by omega, h.s.busy h.dβ, ?_, h.dβ, us ++ [v], upd_same, (Reps.busy h.dβ n4 h2).append (.one (Rep.busy h.dβ n4 r))⟩
  have na : ∀ {a : Addr} {o : HO}, H0 a = some o → a ≠ D := fun q => ne_of_none q hD
  exact ⟨h.ex.pre, h.ex.bsub, h.ex.bnew, fun a o q n => by rw [upd_ne (na q)]; exact h.ex.keep a o q n, h.ex.new, fun a o q => by
    obtain ⟨o', q'⟩ := h.ex.dom a o q
    exact ⟨o', by rw [upd_ne (na q)]; exact q'⟩⟩
theorem ExtW.busy {γ γ' : Ga} {H H' : Hp} {D : Addr} {o : HO} (e : ExtW γ H γ' H') (h : D ∈ γ.β) : ExtW γ H γ' (L2.upd H' D o) :=
  ⟨e.pre, e.bsub, e.bnew, fun a u q n => by rw [upd_ne (n.ne h)]; exact e.keep a u q n, e.new, fun a u q => by
    by_cases z : a = D
    · exact ⟨_, by rw [z]; exact upd_same⟩
    · obtain ⟨u', q'⟩ := e.dom a u q
      exact ⟨u', by rw [upd_ne z]; exact q'⟩⟩
/-- the inner loop's turns -/
theorem lc_in {K : PySem.W.Frag} {γ0 γ1 : Ga} {H0 H1 : Hp} {D : Addr} {J : It} {ys : List W} {η : Env} {S1 SF : Store} {σ : L2.St} {acc0 accF : List W} {vs : List Nat} {Nx : Hp → Prop} (hD : H0 D = none) (ok : ItOk K G J ys γ1 H1) (he : EnvOk K G γ1 H1 η σ)
    (gt : Gat K G γ0 H0 D γ1 H1 S1 acc0) (his : ∀ i ∈ is, i ∈ vs) (h : compL g t f (wipeE η vs) ys S1 acc0 = .ok accF SF) (hN : ∀ γ H, Gat K G γ0 H0 D γ H SF accF → Nx H) :
    ∃ Wv : Nat → Nat → Hp → Prop, (∃ k, Wv 0 k H1) ∧ ∀ j k H, Wv j k H →
      (J.stop j H ∧ Nx H) ∨ (J.go j H ∧ ∃ Nx1 : Hp → Prop, (∀ H', Nx1 H' → ∃ k', k' < k ∧ Wv (j + 1) k' H') ∧ ∀ x H', J.yld j H x H' → tgOf K G is g x (wipe σ vs) H' fun σ3 H5 => wipe σ3 vs = wipe σ vs ∧ ttOf K G (fun _ _ _ _ => False) t σ3 H5 fun b H6 =>
        if b = true then tOf K G (fun _ _ _ _ => False) f σ3 H6 fun y H7 => ∃ acc, H7 D = some (.lst acc) ∧ acc.length < sizeLine ∧ Nx1 (L2.upd H7 D (.lst (acc ++ [y]))) else Nx1 H6) := by
  refine ⟨fun j k H => k = ys.length - j ∧ j ≤ ys.length ∧ ∃ S γ acc, Gat K G γ0 H0 D γ H S acc ∧ ExtW γ1 H1 γ H ∧ compL g t f (wipeE η vs) (ys.drop j) S acc = .ok accF SF, ⟨ys.length, rfl, Nat.zero_le _, S1, γ1, acc0, gt, Ext.refl.w, h⟩, ?_⟩
  rintro i m H ⟨rfl, hi, S, γ, acc, gt', ex, hc⟩
  have s := gt'.s
  by_cases hlt : i < ys.length
  · refine .inr ⟨ok.go i γ H S hlt ex s, _, fun H' z => ⟨ys.length - (i + 1), by omega, z⟩, fun x H' y => ?_⟩
    obtain ⟨e1, s1, r1⟩ := ok.yld i ys[i] γ H S x H' (List.getElem?_eq_getElem hlt) ex s y
    have gt1 := gt'.step e1 s1
    have ex1 := ex.trans e1.w
    rw [List.drop_eq_getElem_cons hlt] at hc
    unfold compL at hc
    cases eg : g ys[i] (wipeE η vs) S with
    | none =>
      rw [eg] at hc
      cases hc
    | some z =>
      obtain ⟨η1, S2⟩ := z
      rw [eg] at hc
      have heW : EnvOk K G γ H' η σ := ⟨he.1, fun j w q => by
        obtain ⟨v, h1, h2⟩ := he.2 j w q
        exact ⟨v, h1, (h2.monoW ex).mono e1⟩⟩
      refine ⟨wipeE η vs, S, γ, ys[i], η1, S2, heW.wipe vs, s1, r1, eg, fun σ2 γ2 H2 e2 he2 s2 hl2 hn2 => ⟨?_, ?_⟩⟩
      · rw [wipe_same (σ := wipe σ vs) his hl2 hn2, wipe_wipe]
      · refine ⟨η1, S2, γ2, he2, s2, ?_⟩
        cases et : t η1 S2 with
        | stuck =>
          simp only [et] at hc
          cases hc
        | exc c x S2 =>
          simp only [et] at hc
          cases hc
        | ok b S3 =>
          simp only [et, R.bind] at hc
          intro b' γ3 H3 e3 rb s3
          cases rb
          have gt3 := (gt1.step e2 s2).step e3 s3
          have ex3 := (ex1.trans e2.w).trans e3.w
          cases b with
          | false =>
            rw [if_neg Bool.false_ne_true] at hc ⊢
            exact ⟨rfl, hlt, S3, γ3, acc, gt3, ex3, hc⟩
          | true =>
            rw [if_pos rfl] at hc ⊢
            refine ⟨η1, S3, γ3, he2.mono e3, s3, ?_⟩
            cases ee : f η1 S3 with
            | stuck =>
              simp only [ee] at hc
              cases hc
            | exc c x S3 =>
              simp only [ee] at hc
              cases hc
            | ok w S4 =>
              simp only [ee] at hc
              intro v γ4 H4 e4 r4 s4
              unfold sized at hc
              split at hc
              · rename_i hsz
                have gt4 := gt3.step e4 s4
                obtain ⟨us, h1, h2, h3⟩ := gt4.put hD r4 hsz
                exact ⟨us, h1, h2, rfl, hlt, S4, γ4, acc ++ [w], h3, (ex3.trans e4.w).busy gt.dβ, hc⟩
              · cases hc
  · have e : i = ys.length := by omega
    subst e
    rw [List.drop_length] at hc
    cases hc
    exact .inl ⟨ok.stop γ H _ ex s, hN γ H gt'⟩
theorem Gat.start {K : PySem.W.Frag} {γ0 : Ga} {H0 : Hp} {S0 : Store} {D : Addr} (hs : StoreOk K G γ0 H0 S0) (hD : H0 D = none) : Gat K G γ0 H0 D ⟨γ0.ρ, D :: γ0.β⟩ (L2.upd H0 D (.lst [])) S0 [] := by
  have off := hs.fresh hD
  refine ⟨?_, ?_, List.mem_cons_self .., [], upd_same, .nil⟩
  · have s1 := hs.upd (o := .lst []) hD
    refine ⟨s1.len, s1.nd, fun i c a hc ha => ?_, fun a ha => ?_⟩
    · have q := s1.cell i c a hc ha
      cases c with
      | lst ys =>
        obtain ⟨p1, us, hv, r'⟩ := hs.cell i _ a hc ha
        refine ⟨p1, us, by rw [upd_ne (ne_of_none hv hD)]; exact hv, r'.mono ?_⟩
        exact ⟨List.prefix_refl _, fun b hb => List.mem_cons_of_mem _ hb, fun b hb => (List.mem_cons.mp hb).elim (fun z => .inr (by rw [z]; exact hD)) .inl, fun b u e _ => by rw [upd_ne (ne_of_none e hD)]; exact e, fun _ h1 h2 => absurd h1 h2, fun b u e => ⟨u, by rw [upd_ne (ne_of_none e hD)]; exact e⟩⟩
      | dct _ _ => exact (hs.cell i _ a hc ha).to (fun o f => by rw [upd_ne (ne_of_none f hD)]; exact f) fun _ r => by refine r.mono ?_; exact ⟨List.prefix_refl _, fun b hb => List.mem_cons_of_mem _ hb, fun b hb => (List.mem_cons.mp hb).elim (fun z => .inr (by rw [z]; exact hD)) .inl, fun b u e _ => by rw [upd_ne (ne_of_none e hD)]; exact e, fun _ h1 h2 => absurd h1 h2, fun b u e => ⟨u, by rw [upd_ne (ne_of_none e hD)]; exact e⟩⟩
      | ins _ _ => exact q.elim
    · rcases List.mem_cons.mp ha with z | z
      · rw [z]
        exact ⟨off.1, _, upd_same, fun _ z => nomatch z⟩
      · obtain ⟨n, o, q, nt⟩ := hs.bt a z
        exact ⟨n, o, by rw [upd_ne (ne_of_none q hD)]; exact q, nt⟩
  · exact ⟨List.prefix_refl _, fun b hb => List.mem_cons_of_mem _ hb, fun b hb => (List.mem_cons.mp hb).elim (fun z => .inr (by rw [z]; exact hD)) .inl, fun b u e _ => by rw [upd_ne (ne_of_none e hD)]; exact e, fun _ h1 h2 => absurd h1 h2, fun b u e => ⟨u, by rw [upd_ne (ne_of_none e hD)]; exact e⟩⟩
theorem Gat.done {K : PySem.W.Frag} {γ0 γ : Ga} {H0 H : Hp} {S0 S : Store} {D : Addr} {acc : List W} (hs : StoreOk K G γ0 H0 S0) (hD : H0 D = none) (h : Gat K G γ0 H0 D γ H S acc) :
    ∃ γ', Ext γ0 H0 γ' H ∧ Rep K G γ' H (.lst acc) (.ref D) ∧ StoreOk K G γ' H S := by
  obtain ⟨us, hus, racc⟩ := h.us
  have s := h.s
  have ex := h.ex
  have nD := (s.bt D h.dβ).1
  have fr : Ext γ0 H0 ⟨γ.ρ, γ.β.filter (fun a => decide (a ≠ D))⟩ H := by
    refine ⟨ex.pre, fun a ha => ?_, fun a ha => ex.bnew a (List.mem_filter.mp ha).1, ex.keep, ex.new, ex.dom⟩
    refine List.mem_filter.mpr ⟨ex.bsub a ha, ?_⟩
    obtain ⟨_, o, q, _⟩ := hs.bt a ha
    exact decide_eq_true (ne_of_none q hD)
  have lessO : ∀ (a : Addr) (o : HO), H a = some o → γ.Off a → Ga.Off ⟨γ.ρ, γ.β.filter (fun a => decide (a ≠ D))⟩ a := fun a o _ z => ⟨z.1, fun q => z.2 (List.mem_filter.mp q).1⟩
  have shrs : ∀ {w : List W} {v : List V}, Reps K G γ H w v → Reps K G ⟨γ.ρ, γ.β.filter (fun a => decide (a ≠ D))⟩ H w v := fun r => Reps.shrink (γ := γ) (γ' := ⟨γ.ρ, γ.β.filter (fun a => decide (a ≠ D))⟩) rfl lessO r
  refine ⟨_, fr, .lst hus ⟨nD, fun q => ?_⟩ (shrs racc), s.len, s.nd, fun i c a hc ha => ?_, fun a ha => s.bt a (List.mem_filter.mp ha).1⟩
  · have := (List.mem_filter.mp q).2
    simp at this
  · have q := s.cell i c a hc ha
    cases c with
    | lst ys =>
      obtain ⟨p1, us', hv, r'⟩ := q
      exact ⟨p1, us', hv, shrs r'⟩
    | dct _ _ => exact q.to (fun _ f => f) fun _ r => shrs r
    | ins _ _ => exact q.elim
theorem lc2_turns {K : PySem.W.Frag} {γ0 : Ga} {H0 : Hp} {J : It} {xs : List W} {η : Env} {S0 : Store} {σ : L2.St} {wsF : List W} {SF : Store} {Q : VK} {vs vs1 : List Nat} (ok : ItOk K G J xs γ0 H0) (he : EnvOk K G γ0 H0 η σ) (hs : StoreOk K G γ0 H0 S0)
    (his : ∀ i ∈ is, i ∈ vs) (his1 : ∀ i ∈ is1, i ∈ vs1) (h : compL2 g t it1 g1 t1 f vs1 (wipeE η vs) xs S0 [] = .ok wsF SF) (hQ : ∀ v γ' H', Ext γ0 H0 γ' H' → Rep K G γ' H' (.lst wsF) v → StoreOk K G γ' H' SF → Q v H') :
    ∀ D, H0 D = none → ∃ Wv : Nat → Nat → Hp → Prop, (∃ m, Wv 0 m (L2.upd H0 D (.lst []))) ∧ ∀ i m H, Wv i m H →
      (J.stop i H ∧ Q (.ref D) H) ∨ (J.go i H ∧ ∃ Nx : Hp → Prop, (∀ H', Nx H' → ∃ m', m' < m ∧ Wv (i + 1) m' H') ∧ ∀ x H', J.yld i H x H' → tgOf K G is g x (wipe σ vs) H' fun σ2 H2 => wipe σ2 vs = wipe σ vs ∧ ttOf K G (fun _ _ _ _ => False) t σ2 H2 fun b H3 =>
        if b = true then tiOf K G (fun _ _ _ _ => False) it1 σ2 H3 fun J1 H4 => ∃ W1 : Nat → Nat → Hp → Prop, (∃ k, W1 0 k H4) ∧ ∀ j k H, W1 j k H →
          (J1.stop j H ∧ Nx H) ∨ (J1.go j H ∧ ∃ Nx1 : Hp → Prop, (∀ H', Nx1 H' → ∃ k', k' < k ∧ W1 (j + 1) k' H') ∧ ∀ x H', J1.yld j H x H' → tgOf K G is1 g1 x (wipe σ2 vs1) H' fun σ3 H5 => wipe σ3 vs1 = wipe σ2 vs1 ∧ ttOf K G (fun _ _ _ _ => False) t1 σ3 H5 fun b H6 =>
            if b = true then tOf K G (fun _ _ _ _ => False) f σ3 H6 fun y H7 => ∃ acc, H7 D = some (.lst acc) ∧ acc.length < sizeLine ∧ Nx1 (L2.upd H7 D (.lst (acc ++ [y]))) else Nx1 H6)
        else Nx H3) := by
  intro D hD
  refine ⟨fun i m H => m = xs.length - i ∧ i ≤ xs.length ∧ ∃ S γ acc, Gat K G γ0 H0 D γ H S acc ∧ compL2 g t it1 g1 t1 f vs1 (wipeE η vs) (xs.drop i) S acc = .ok wsF SF, ⟨xs.length, rfl, Nat.zero_le _, S0, _, [], Gat.start hs hD, h⟩, ?_⟩
  rintro i m H ⟨rfl, hi, S, γ, acc, gt, hc⟩
  have s := gt.s
  have ex := gt.ex
  by_cases hlt : i < xs.length
  · refine .inr ⟨ok.go i γ H S hlt ex.w s, _, fun H' z => ⟨xs.length - (i + 1), by omega, z⟩, fun x H' y => ?_⟩
    obtain ⟨e1, s1, r1⟩ := ok.yld i xs[i] γ H S x H' (List.getElem?_eq_getElem hlt) ex.w s y
    have gt1 := gt.step e1 s1
    rw [List.drop_eq_getElem_cons hlt] at hc
    unfold compL2 at hc
    cases eg : g xs[i] (wipeE η vs) S with
    | none =>
      rw [eg] at hc
      cases hc
    | some z =>
      obtain ⟨η1, S1⟩ := z
      rw [eg] at hc
      refine ⟨wipeE η vs, S, γ, xs[i], η1, S1, ((he.mono ex).mono e1).wipe vs, s1, r1, eg, fun σ2 γ2 H2 e2 he2 s2 hl2 hn2 => ⟨?_, ?_⟩⟩
      · rw [wipe_same (σ := wipe σ vs) his hl2 hn2, wipe_wipe]
      · refine ⟨η1, S1, γ2, he2, s2, ?_⟩
        cases et : t η1 S1 with
        | stuck =>
          simp only [et] at hc
          cases hc
        | exc c x S2 =>
          simp only [et] at hc
          cases hc
        | ok b S2 =>
          simp only [et, R.bind] at hc
          intro b' γ3 H3 e3 rb s3
          cases rb
          have gt3 := (gt1.step e2 s2).step e3 s3
          cases b with
          | false =>
            rw [if_neg Bool.false_ne_true] at hc ⊢
            exact ⟨rfl, hlt, S2, γ3, acc, gt3, hc⟩
          | true =>
            rw [if_pos rfl] at hc ⊢
            refine ⟨η1, S2, γ3, he2.mono e3, s3, ?_⟩
            cases ei : it1 η1 S2 with
            | stuck =>
              simp only [ei] at hc
              cases hc
            | exc c x S3 =>
              simp only [ei] at hc
              cases hc
            | ok ys S3 =>
              simp only [ei] at hc
              intro J1 γ4 H4 e4 s4 ok4
              have gt4 := gt3.step e4 s4
              cases ec : compL g1 t1 f (wipeE η1 vs1) ys S3 acc with
              | stuck =>
                simp only [ec] at hc
                cases hc
              | exc c x S3 =>
                simp only [ec] at hc
                cases hc
              | ok acc' S4 =>
                simp only [ec] at hc
                exact lc_in hD ok4 ((he2.mono e3).mono e4) gt4 his1 ec fun γ5 H5 gt5 => ⟨rfl, hlt, S4, γ5, acc', gt5, hc⟩
  · have e : i = xs.length := by omega
    subst e
    rw [List.drop_length] at hc
    cases hc
    obtain ⟨γ', e1, e2, e3⟩ := gt.done hs hD
    exact .inl ⟨ok.stop γ H _ ex.w s, hQ _ γ' H e1 e2 e3⟩
theorem comp2_read {Wi : WX} {Q : VK} {σ : L2.St} {H : Hp} {vs1 : List Nat} (his : ∀ i ∈ is, i ∈ own.map (·.2)) (his1 : ∀ i ∈ is1, i ∈ vs1) (q : tOf X.K G Wi (mComp2 it (own.map (·.2)) g t it1 vs1 g1 t1 f) σ H Q) :
    tLc2 (tiOf X.K G Wi it) (tgOf X.K G is g) (ttOf X.K G (fun _ _ _ _ => False) t) (tiOf X.K G (fun _ _ _ _ => False) it1) (tgOf X.K G is1 g1) (ttOf X.K G (fun _ _ _ _ => False) t1) (tOf X.K G (fun _ _ _ _ => False) f) (own.map (·.2)) vs1 σ H Q := by
  obtain ⟨η, S, γ, he, hs, q⟩ := q
  refine ⟨η, S, γ, he, hs, ?_⟩
  have q : Post X.K G (Rep X.K G) (fun c d H' => Wi c d σ H') γ H ((it η S).bind fun xs S1 => (noexc (compL2 g t it1 g1 t1 f vs1 (wipeE η (own.map (·.2))) xs S1 [])).bind fun ws S2 => .ok (.lst ws) S2) Q := q
  cases ei : it η S with
  | stuck =>
    rw [ei] at q
    exact q.elim
  | exc c x S1 =>
    rw [ei] at q
    exact q
  | ok xs S1 =>
    rw [ei] at q
    intro J γ1 H1 e1 s1 ok
    have q : Post X.K G (Rep X.K G) (fun c d H' => Wi c d σ H') γ H ((noexc (compL2 g t it1 g1 t1 f vs1 (wipeE η (own.map (·.2))) xs S1 [])).bind fun ws S2 => .ok (.lst ws) S2) Q := q
    cases ec : compL2 g t it1 g1 t1 f vs1 (wipeE η (own.map (·.2))) xs S1 [] with
    | stuck =>
      rw [ec] at q
      exact q.elim
    | exc c x S2 =>
      rw [ec] at q
      exact q.elim
    | ok ws S2 =>
      rw [ec] at q
      exact lc2_turns ok (he.mono e1) s1 his his1 ec fun v γ' H' e r s => q v γ' H' (e1.trans e) r s
variable {tg1 iter1 : Expr} {ifs1 : List Expr}
theorem se_comp2 (own : List (Str × Nat)) (vs1 : List Nat) (cf : Cfg X) (hi : SI X G tg iter it) (ok : BlkOk X.N X.env.scope scope own)
    (hg : ∀ (s : Shared) (H : Hp) (C : Addr) (cl : List (Str × Addr)) (fp : List Addr), Cfg (X.blk s H scope (compEnvC scope cl C X.env) fp) → SG (X.blk s H scope (compEnvC scope cl C X.env) fp) G tg is g)
    (ht : ∀ (s : Shared) (H : Hp) (C : Addr) (cl : List (Str × Addr)) (fp : List Addr), Cfg (X.blk s H scope (compEnvC scope cl C X.env) fp) → STs (X.blk s H scope (compEnvC scope cl C X.env) fp) G ifs t)
    (hi1 : ∀ (s : Shared) (H : Hp) (C : Addr) (cl : List (Str × Addr)) (fp : List Addr), Cfg (X.blk s H scope (compEnvC scope cl C X.env) fp) → SI (X.blk s H scope (compEnvC scope cl C X.env) fp) G tg1 iter1 it1)
    (hg1 : ∀ (s : Shared) (H : Hp) (C : Addr) (cl : List (Str × Addr)) (fp : List Addr), Cfg (X.blk s H scope (compEnvC scope cl C X.env) fp) → SG (X.blk s H scope (compEnvC scope cl C X.env) fp) G tg1 is1 g1)
    (ht1 : ∀ (s : Shared) (H : Hp) (C : Addr) (cl : List (Str × Addr)) (fp : List Addr), Cfg (X.blk s H scope (compEnvC scope cl C X.env) fp) → STs (X.blk s H scope (compEnvC scope cl C X.env) fp) G ifs1 t1)
    (he : ∀ (s : Shared) (H : Hp) (C : Addr) (cl : List (Str × Addr)) (fp : List Addr), Cfg (X.blk s H scope (compEnvC scope cl C X.env) fp) → SE (X.blk s H scope (compEnvC scope cl C X.env) fp) G elt f)
    (his : ∀ i ∈ is, i ∈ own.map (·.2) := by decide) (his1 : ∀ i ∈ is1, i ∈ vs1 := by decide) (hv : ∀ i ∈ vs1, i ∈ own.map (·.2) := by decide) (hs : ∀ x, foldedSetIterable iter X.env x = pure x := by intro _; rfl) (hs1 : ∀ env x, foldedSetIterable iter1 env x = pure x := by intro _ _; rfl) :
    SE X G (.ListComp elt [⟨tg, iter, ifs, 0⟩, ⟨tg1, iter1, ifs1, 0⟩] scope pos) (mComp2 it (own.map (·.2)) g t it1 vs1 g1 t1 f) := by
  refine ⟨fun Wi tk => (pe_lc2 (g := tgOf X.K G is g) (tt := ttOf X.K G (fun _ _ _ _ => False) t) (te := tOf X.K G (fun _ _ _ _ => False) f) (wi1 := tiOf X.K G (fun _ _ _ _ => False) it1) (g1 := tgOf X.K G is1 g1) (tt1 := ttOf X.K G (fun _ _ _ _ => False) t1) cf.calm cf.nd (hi.run Wi tk) ok hv (fun s H C cl fp => (hg s H C cl fp (cf.blk ..)).run) (fun s H C cl fp => (ht s H C cl fp (cf.blk ..)).run _ takes0)
    (fun s H C cl fp => (hi1 s H C cl fp (cf.blk ..)).run _ takes0) (fun s H C cl fp => (hg1 s H C cl fp (cf.blk ..)).run) (fun s H C cl fp => (ht1 s H C cl fp (cf.blk ..)).run _ takes0) (fun s H C cl fp => (he s H C cl fp (cf.blk ..)).run _ takes0) hs hs1).imp ?_⟩
  intro σ H Q q
  exact comp2_read his his1 q
theorem ss_setLc2 {y : Str} {py : Pos} {spos : Pos} (i : Nat) (own : List (Str × Nat)) (vs1 : List Nat) (cf : Cfg X) (hi : SI X G tg iter it) (ok : BlkOk X.N X.env.scope scope own)
    (hg : ∀ (s : Shared) (H : Hp) (C : Addr) (cl : List (Str × Addr)) (fp : List Addr), Cfg (X.blk s H scope (compEnvC scope cl C X.env) fp) → SG (X.blk s H scope (compEnvC scope cl C X.env) fp) G tg is g)
    (ht : ∀ (s : Shared) (H : Hp) (C : Addr) (cl : List (Str × Addr)) (fp : List Addr), Cfg (X.blk s H scope (compEnvC scope cl C X.env) fp) → STs (X.blk s H scope (compEnvC scope cl C X.env) fp) G ifs t)
    (hi1 : ∀ (s : Shared) (H : Hp) (C : Addr) (cl : List (Str × Addr)) (fp : List Addr), Cfg (X.blk s H scope (compEnvC scope cl C X.env) fp) → SI (X.blk s H scope (compEnvC scope cl C X.env) fp) G tg1 iter1 it1)
    (hg1 : ∀ (s : Shared) (H : Hp) (C : Addr) (cl : List (Str × Addr)) (fp : List Addr), Cfg (X.blk s H scope (compEnvC scope cl C X.env) fp) → SG (X.blk s H scope (compEnvC scope cl C X.env) fp) G tg1 is1 g1)
    (ht1 : ∀ (s : Shared) (H : Hp) (C : Addr) (cl : List (Str × Addr)) (fp : List Addr), Cfg (X.blk s H scope (compEnvC scope cl C X.env) fp) → STs (X.blk s H scope (compEnvC scope cl C X.env) fp) G ifs1 t1)
    (he : ∀ (s : Shared) (H : Hp) (C : Addr) (cl : List (Str × Addr)) (fp : List Addr), Cfg (X.blk s H scope (compEnvC scope cl C X.env) fp) → SE (X.blk s H scope (compEnvC scope cl C X.env) fp) G elt f)
    (hy : X.N[i]? = some y := by rfl) (hyl : X.env.scope.names.lookup y = some .local := by rfl)
    (hsw : swapsWith (.ListComp elt [⟨tg, iter, ifs, 0⟩, ⟨tg1, iter1, ifs1, 0⟩] scope pos) (some (.Name y py)) spos.line X.env = pure true := by exact sw_true rfl rfl rfl (by decide +kernel))
    (his : ∀ i ∈ is, i ∈ own.map (·.2) := by decide) (his1 : ∀ i ∈ is1, i ∈ vs1 := by decide) (hv : ∀ i ∈ vs1, i ∈ own.map (·.2) := by decide) (hs : ∀ x, foldedSetIterable iter X.env x = pure x := by intro _; rfl) (hs1 : ∀ env x, foldedSetIterable iter1 env x = pure x := by intro _ _; rfl) :
    SS X G (.Assign [.Name y py] (.ListComp elt [⟨tg, iter, ifs, 0⟩, ⟨tg1, iter1, ifs1, 0⟩] scope pos) spos) (sSet i (mComp2 it (own.map (·.2)) g t it1 vs1 g1 t1 f)) := by
  refine ⟨fun Wi tk => (ps_setLc2 (i := i) (g := tgOf X.K G is g) (tt := ttOf X.K G (fun _ _ _ _ => False) t) (te := tOf X.K G (fun _ _ _ _ => False) f) (wi1 := tiOf X.K G (fun _ _ _ _ => False) it1) (g1 := tgOf X.K G is1 g1) (tt1 := ttOf X.K G (fun _ _ _ _ => False) t1) cf.calm cf.nd hy hyl hsw (hi.run Wi tk) ok hv (fun s H C cl fp => (hg s H C cl fp (cf.blk ..)).run) (fun s H C cl fp => (ht s H C cl fp (cf.blk ..)).run _ takes0)
    (fun s H C cl fp => (hi1 s H C cl fp (cf.blk ..)).run _ takes0) (fun s H C cl fp => (hg1 s H C cl fp (cf.blk ..)).run) (fun s H C cl fp => (ht1 s H C cl fp (cf.blk ..)).run _ takes0) (fun s H C cl fp => (he s H C cl fp (cf.blk ..)).run _ takes0) hs hs1).imp ?_⟩
  rintro D σ H ⟨η, S, γ, he, hs, q⟩
  refine comp2_read his his1 ⟨η, S, γ, he, hs, (PostS.expr he q).imp fun v H1 ⟨w, S1, γ1, e1, r1, s1, q1⟩ => q1 _ γ1 H1 Ext.refl ((he.mono e1).set r1 i) s1⟩
end
end Mp

set_option Elab.async false
set_option linter.all false
set_option maxRecDepth 100000
set_option maxHeartbeats 4000000
/-! Mp: methods. -/
namespace Mp
open PySem PySem.Spec PyProof.Rows L2
/-- what a method does, by the receiver, the arguments, the store -/
abbrev OM := W → List W → Store → Option (W × Store)
/-- the receiver's kind: 3 a text, 4 a tuple, 5 a list -/
def recOk (c : Nat) (S : Store) (x : W) : Bool := match c, x with
  | 3, .str _ => true
  | 5, .lst _ => true
  | 5, .ref i => (match S[i]? with
    | some (.lst _) => true
    | _ => false)
  | 6, .dct _ _ => true
  | 6, .ref i => (match S[i]? with
    | some (.dct _ _) => true
    | _ => false)
  | _, _ => false
def rOM (o : Option (W × Store)) : R W := match o with
  | some (w, S) => .ok w S
  | none => .stuck
def mMeth (c : Nat) (o : OM) (f : ME) (ga : MA) : ME := fun η S => (f η S).bind fun x S1 => if recOk c S1 x = true then (ga η S1).bind fun ws S2 => rOM (o x ws S2) else .stuck
def omAppend : OM := fun x ws S => match x, ws with
  | .ref i, [w] => (match S[i]? with
    | some (.lst xs) => if w.pure = true ∧ xs.length + 1 ≤ bigLine then some (.non, S.set i (.lst (xs ++ [w]))) else none
    | _ => none)
  | _, _ => none
def omExtend : OM := fun x ws S => match x, ws with
  | .ref i, [w] => (match S[i]?, lstOf S w with
    | some (.lst xs), some ys => if pures ys = true ∧ xs.length + ys.length ≤ bigLine then some (.non, S.set i (.lst (xs ++ ys))) else none
    | _, _ => none)
  | _, _ => none
def omPopAt : OM := fun x ws S => match x, ws with
  | .ref i, [.int k] => (match S[i]? with
    | some (.lst xs) => if 0 ≤ k ∧ k < xs.length ∧ k < 9223372036854775808 then (xs[k.toNat]?).map fun w => (w, S.set i (.lst (xs.eraseIdx k.toNat))) else none
    | _ => none)
  | _, _ => none
def omPop : OM := fun x ws S => match x, ws with
  | .ref i, [] => (match S[i]? with
    | some (.lst xs) => (xs[xs.length - 1]?).map fun w => (w, S.set i (.lst xs.dropLast))
    | _ => none)
  | _, _ => none
/-- the place of a sign in '012' -/
def omIndex012 : OM := fun x ws S => match x, ws with
  | .str z, [.str [c]] => if z = [48, 49, 50] then (if c = 48 then some (.int 0, S) else if c = 49 then some (.int 1, S) else if c = 50 then some (.int 2, S) else none) else none
  | _, _ => none
def rmOf (K : PySem.W.Frag) (G : Gs) (o : OM) : V → List V → Hp → VK → Prop := fun x vs H Q => ∃ wx ws S γ w S3, Rep K G γ H wx x ∧ Reps K G γ H ws vs ∧ StoreOk K G γ H S ∧ o wx ws S = some (w, S3) ∧ ∀ v γ' H', Ext γ H γ' H' → Rep K G γ' H' w v → StoreOk K G γ' H' S3 → Q v H'
theorem pures_append : ∀ {xs ys : List W}, pures xs = true → pures ys = true → pures (xs ++ ys) = true
  | [], _, _, h => h
  | x :: r, ys, h, k => by
    rw [pures, Bool.and_eq_true] at h
    show (x.pure && pures (r ++ ys)) = true
    rw [h.1, pures_append h.2 k] <;> rfl
theorem pures_get : ∀ {xs : List W} {i : Nat} {w : W}, pures xs = true → xs[i]? = some w → w.pure = true
  | [], i, w, _, h => by simp at h
  | x :: r, 0, w, h, e => by
    rw [pures, Bool.and_eq_true] at h
    have : x = w := by simpa using e
    rw [← this]
    exact h.1
  | x :: r, i + 1, w, h, e => by
    rw [pures, Bool.and_eq_true] at h
    exact pures_get h.2 (i := i) (by simpa using e)
theorem pures_erase : ∀ {xs : List W} (i : Nat), pures xs = true → pures (xs.eraseIdx i) = true
  | [], i, h => by simpa using h
  | x :: r, 0, h => by
    rw [pures, Bool.and_eq_true] at h
    exact h.2
  | x :: r, i + 1, h => by
    rw [pures, Bool.and_eq_true] at h
    show (x.pure && pures (r.eraseIdx i)) = true
    rw [h.1, pures_erase i h.2] <;> rfl
theorem pures_take : ∀ {xs : List W} (i : Nat), pures xs = true → pures (xs.take i) = true
  | [], i, h => by simpa using h
  | x :: r, 0, h => rfl
  | x :: r, i + 1, h => by
    rw [pures, Bool.and_eq_true] at h
    show (x.pure && pures (r.take i)) = true
    rw [h.1, pures_take i h.2] <;> rfl
section
variable {X : Cx} {G : Gs} {a e : Expr} {es : List Expr} {apos cpos : Pos} {f : ME} {ga : MA} {T id : String} {name : Str} {o : OM} {c : Nat}
def tyOfC : Nat → String
  | 3 => "str"
  | 6 => "dict"
  | _ => "list"
theorem rec_ty {K : PySem.W.Frag} {γ : Ga} {H : Hp} {S : Store} {w : W} {v : V} (r : Rep K G γ H w v) (s : StoreOk K G γ H S) (h : recOk c S w = true) : tyV K (tyOfC c) v H := by
  unfold recOk at h
  split at h
  · cases r
    rfl
  · cases r with
    | lst h1 o1 q1 => exact .inl ⟨rfl, _, SqL.of h1⟩
  · rename_i i
    cases r with
    | ref hr =>
      split at h
      · rename_i xs hc
        obtain ⟨_, vs, hv, _⟩ := s.cell i _ _ hc hr
        exact .inl ⟨rfl, _, SqL.of hv⟩
      · cases h
  · cases r with
    | dct d f q =>
      refine .inr (.inr (.inl ⟨rfl, ?_⟩))
      rcases d with ⟨_, d, _⟩ | ⟨_, d, _⟩
      · exact .inl ⟨_, d⟩
      · exact .inr ⟨_, d⟩
  · rename_i i
    cases r with
    | ref hr =>
      split at h
      · rename_i xs hc
        obtain ⟨_, _, us, d, _⟩ := s.cell i _ _ hc hr
        refine .inr (.inr (.inl ⟨rfl, ?_⟩))
        rcases d with ⟨_, d, _⟩ | ⟨_, d, _⟩
        · exact .inl ⟨_, d⟩
        · exact .inr ⟨_, d⟩
      · cases h
  · cases h
theorem se_meth (c : Nat) (o : OM) (pa : PlainAttrs (tyOfC c)) (slot : Slot (tyOfC c) name id) (hty : typeOf (.builtin id) = pure (.type "method_descriptor")) (hm : MtR X id (rmOf X.K G o)) (ha : SE X G a f) (hb : SA X G (e :: es) ga)
    (hbase : attributeBase a name X.env (eval a X.env) = eval a X.env := by rfl)
    (hfew : ((backTo cpos (starEach (e :: es) X.env)).all (fun x => !x.1) && (backToKw cpos (keywordEach [] X.env)).all (fun x => x.1.isSome)
      && decide ((e :: es).length + ([] : List Keyword).length + (if ([] : List Keyword).isEmpty then 0 else 1) < 30)) = true := by rfl)
    (hline : (apos.endLine == cpos.line) = true := by rfl) (hs : starEach (e :: es) X.env = (false, eval e X.env) :: starEach es X.env := by rfl) (hplain : (backTo cpos (starEach es X.env)).any (·.1) = false := by rfl) :
    SE X G (.Call (.Attribute a name apos) (e :: es) [] cpos) (mMeth c o f ga) := by
  refine ⟨fun Wi tk => (pe_bm pa slot hty hm (ha.run Wi tk) (hb.run Wi tk) hbase hfew hline hs hplain).imp ?_⟩
  rintro σ H Q ⟨η, S, γ, he, hs, q⟩
  refine ⟨η, S, γ, he, hs, (Post.seq q).imp fun x H1 ⟨wx, S1, γ1, e1, r1, s1, q1⟩ => ?_⟩
  split at q1
  · rename_i hr
    refine ⟨rec_ty r1 s1 hr, η, S1, γ1, he.mono e1, s1, (Post.seq q1).imp fun xs H2 ⟨ws, S2, γ2, e2, r2, s2, q2⟩ => ?_⟩
    cases eo : o wx ws S2 with
    | none =>
      rw [eo] at q2
      exact q2.elim
    | some p =>
      obtain ⟨w, S3⟩ := p
      rw [eo] at q2
      exact ⟨wx, ws, S2, γ2, w, S3, r1.mono e2, r2, s2, eo, q2⟩
  · exact q1.elim
theorem se_meth0 (c : Nat) (o : OM) (pa : PlainAttrs (tyOfC c)) (slot : Slot (tyOfC c) name id) (hty : typeOf (.builtin id) = pure (.type "method_descriptor")) (hm : MtR X id (rmOf X.K G o)) (ha : SE X G a f)
    (hbase : attributeBase a name X.env (eval a X.env) = eval a X.env := by rfl) (hline : (apos.endLine == cpos.line) = true := by rfl) :
    SE X G (.Call (.Attribute a name apos) [] [] cpos) (mMeth c o f maNil) := by
  refine ⟨fun Wi tk => (pe_bm0 pa slot hty hm (ha.run Wi tk) hbase hline).imp ?_⟩
  rintro σ H Q ⟨η, S, γ, he, hs, q⟩
  refine ⟨η, S, γ, he, hs, (Post.seq q).imp fun x H1 ⟨wx, S1, γ1, e1, r1, s1, q1⟩ => ?_⟩
  split at q1
  · rename_i hr
    refine ⟨rec_ty r1 s1 hr, ?_⟩
    replace q1 : Post X.K G (Rep X.K G) (fun c d H' => Wi c d σ H') γ1 H1 (rOM (o wx [] S1)) Q := q1
    cases eo : o wx [] S1 with
    | none =>
      rw [eo] at q1
      exact q1.elim
    | some p =>
      obtain ⟨w, S3⟩ := p
      rw [eo] at q1
      exact ⟨wx, [], S1, γ1, w, S3, r1, .nil, s1, eo, q1⟩
  · exact q1.elim
theorem mt_imp {r r' : V → List V → Hp → VK → Prop} (h : MtR X id r) (i : ∀ x xs H Q, r' x xs H Q → r x xs H Q) : MtR X id r' := fun pins s σ H x xs v us Q I r1 r2 q => h pins s σ H x xs v us Q I r1 r2 (i _ _ _ _ q)
theorem om_append : MtR X "list.append" (rmOf X.K G omAppend) := by
  refine mt_imp mt_append ?_
  rintro x xs H Q ⟨wx, ws, S, γ, w, S3, r, rs, s, h, k⟩
  unfold omAppend at h
  split at h
  · rename_i i w1
    cases r with
    | ref hr =>
    cases rs with
    | cons r1 t =>
    cases t
    split at h
    · rename_i ys hc
      split at h
      · rename_i hp
        cases h
        obtain ⟨py, vs, hv, q⟩ := s.cell i _ _ hc hr
        have hl := q.length
        obtain ⟨ex, s'⟩ := s.write (ys := ys ++ [w1]) (us := vs ++ [_]) hc hr (pures_append py (by show (w1.pure && true) = true; rw [hp.1]; rfl)) (q.append (.one r1))
        have := hp.2
        rw [bigLine_eq] at this
        exact ⟨_, _, _, rfl, rfl, hv, by omega, k _ γ _ ex .non s'⟩
      · cases h
    · cases h
  · cases h
theorem om_extend : MtR X "list.extend" (rmOf X.K G omExtend) := by
  refine mt_imp mt_extend ?_
  rintro x xs H Q ⟨wx, ws, S, γ, w, S3, r, rs, s, h, k⟩
  unfold omExtend at h
  split at h
  · rename_i i w1
    cases r with
    | ref hr =>
    cases rs with
    | cons r1 t =>
    cases t
    split at h
    · rename_i ys zs hc hz
      split at h
      · rename_i hp
        cases h
        obtain ⟨py, vs, hv, q⟩ := s.cell i _ _ hc hr
        obtain ⟨b, us, e, hb, q'⟩ := lstOf_rep s hz r1
        subst e
        have hl := q.length
        have hl' := q'.length
        obtain ⟨ex, s'⟩ := s.write (ys := ys ++ zs) (us := vs ++ us) hc hr (pures_append py hp.1) (q.append q')
        have := hp.2
        rw [bigLine_eq] at this
        exact ⟨_, _, _, _, rfl, rfl, hv, hb, by omega, k _ γ _ ex .non s'⟩
      · cases h
    · cases h
  · cases h
theorem om_popAt : MtR X "list.pop" (rmOf X.K G omPopAt) := by
  refine mt_imp mt_popAt ?_
  rintro x xs H Q ⟨wx, ws, S, γ, w, S3, r, rs, s, h, k⟩
  unfold omPopAt at h
  split at h
  · rename_i i j
    cases r with
    | ref hr =>
    cases rs with
    | cons r1 t =>
    cases t
    cases r1
    split at h
    · rename_i ys hc
      split at h
      · rename_i hj
        obtain ⟨py, vs, hv, q⟩ := s.cell i _ _ hc hr
        cases ew : ys[j.toNat]? with
        | none => rw [ew] at h; cases h
        | some w1 =>
          rw [ew] at h
          cases h
          obtain ⟨v, hw, rv⟩ := q.get ew
          obtain ⟨ex, s'⟩ := s.write (ys := ys.eraseIdx j.toNat) (us := vs.eraseIdx j.toNat) hc hr (pures_erase _ py) (q.erase _)
          have hl := q.length
          refine ⟨_, _, _, j.toNat, v, rfl, rfl, hv, by omega, by omega, ?_, hw, k _ γ _ ex (rv.mono ex) s'⟩
          simp only [seqIndex?]
          rw [if_neg (show ¬ j < 0 by omega)]
          have e1 : (decide (0 ≤ j) && decide (j < (vs.length : Int))) = true := by
            rw [Bool.and_eq_true, decide_eq_true_eq, decide_eq_true_eq]
            omega
          rw [if_pos e1]
      · cases h
    · cases h
  · cases h
theorem om_pop : MtR X "list.pop" (rmOf X.K G omPop) := by
  refine mt_imp mt_pop ?_
  rintro x xs H Q ⟨wx, ws, S, γ, w, S3, r, rs, s, h, k⟩
  unfold omPop at h
  split at h
  · rename_i i
    cases r with
    | ref hr =>
    cases rs
    split at h
    · rename_i ys hc
      obtain ⟨py, vs, hv, q⟩ := s.cell i _ _ hc hr
      cases ew : ys[ys.length - 1]? with
      | none => rw [ew] at h; cases h
      | some w1 =>
        rw [ew] at h
        cases h
        obtain ⟨v, hw, rv⟩ := q.get ew
        have hl := q.length
        have e1 : ys.dropLast = ys.take (ys.length - 1) := List.dropLast_eq_take
        have e2 : vs.dropLast = vs.take (ys.length - 1) := by rw [List.dropLast_eq_take, hl]
        have pd : pures ys.dropLast = true := by
          rw [e1]
          exact pures_take _ py
        obtain ⟨ex, s'⟩ := s.write (ys := ys.dropLast) (us := vs.dropLast) hc hr pd (by rw [e1, e2]; exact q.take _)
        exact ⟨_, _, v, rfl, rfl, hv, by rw [← hl]; exact hw, k _ γ _ ex (rv.mono ex) s'⟩
    · cases h
  · cases h
theorem om_index012 : MtR X "str.index" (rmOf X.K G omIndex012) := by
  refine mt_imp mt_sindex ?_
  rintro x xs H Q ⟨wx, ws, S, γ, w, S3, r, rs, s, h, k⟩
  unfold omIndex012 at h
  split at h
  · rename_i z c
    cases r
    cases rs with
    | cons r1 t =>
    cases t
    cases r1
    split at h
    · rename_i hz
      subst hz
      split at h
      · rename_i hc
        subst hc
        cases h
        exact ⟨_, _, 0, [], rfl, rfl, by decide +kernel, k _ γ H Ext.refl (.int _) s⟩
      · split at h
        · rename_i hc
          subst hc
          cases h
          exact ⟨_, _, 1, [], rfl, rfl, by decide +kernel, k _ γ H Ext.refl (.int _) s⟩
        · split at h
          · rename_i hc
            subst hc
            cases h
            exact ⟨_, _, 2, [], rfl, rfl, by decide +kernel, k _ γ H Ext.refl (.int _) s⟩
          · cases h
    · cases h
  · cases h
end
end Mp

set_option Elab.async false
set_option linter.all false
set_option maxRecDepth 100000
set_option maxHeartbeats 4000000
/-! Mp: sorted, of texts, of ints. -/
namespace Mp
open PySem PySem.Spec PyProof.Rows L2
def ltN : List Nat → List Nat → Bool
  | [], [] => false
  | [], _ :: _ => true
  | _ :: _, [] => false
  | a :: r, b :: t => decide (a < b) || (a == b && ltN r t)
theorem ltN_eq : ∀ a b : List Nat, ltCps a b = ltN a b
  | [], [] => rfl
  | [], _ :: _ => rfl
  | _ :: _, [] => rfl
  | a :: r, b :: t => by
    unfold ltCps ltN
    rw [ltN_eq r t]
def insN (x : List Nat) : List (List Nat) → List (List Nat)
  | [] => [x]
  | y :: r => if ltN y x = true then y :: insN x r else x :: y :: r
def sortN : List (List Nat) → List (List Nat)
  | [] => []
  | x :: r => insN x (sortN r)
theorem ltN_asym : ∀ {a b : List Nat}, ltN a b = true → ltN b a = false
  | [], [], h => rfl
  | [], _ :: _, h => rfl
  | _ :: _, [], h => by cases h
  | a :: r, b :: t, h => by
    unfold ltN at h ⊢
    rw [Bool.or_eq_true, decide_eq_true_eq, Bool.and_eq_true, beq_iff_eq] at h
    rw [Bool.or_eq_false_iff, decide_eq_false_iff_not, Bool.and_eq_false_iff]
    rcases h with h | ⟨h1, h2⟩
    · exact ⟨by omega, .inl (by rw [beq_eq_false_iff_ne]; omega)⟩
    · exact ⟨by omega, .inr (ltN_asym h2)⟩
theorem ltN_ntrans : ∀ {a b c : List Nat}, ltN b a = false → ltN c b = false → ltN c a = false
  | [], [], [], _, _ => rfl
  | [], [], _ :: _, _, h => by cases h; rfl
  | [], _ :: _, [], h, _ => rfl
  | [], b :: t, c :: u, h, k => by cases h; rfl
  | _ :: _, [], _, h, _ => by cases h
  | a :: r, b :: t, [], h, k => by cases k
  | a :: r, b :: t, c :: u, h, k => by
    unfold ltN at h k ⊢
    rw [Bool.or_eq_false_iff, decide_eq_false_iff_not, Bool.and_eq_false_iff, beq_eq_false_iff_ne] at h k ⊢
    refine ⟨by omega, ?_⟩
    by_cases e : c = a
    · subst e
      have e2 : b = c := by omega
      subst e2
      rcases h.2 with z | z
      · exact absurd rfl z
      · rcases k.2 with y | y
        · exact absurd rfl y
        · exact .inr (ltN_ntrans z y)
    · exact .inl e
theorem ltN_tot : ∀ {a b : List Nat}, ltN a b = false → ltN b a = false → a = b
  | [], [], _, _ => rfl
  | [], _ :: _, h, _ => by cases h
  | _ :: _, [], _, h => by cases h
  | a :: r, b :: t, h, k => by
    unfold ltN at h k
    rw [Bool.or_eq_false_iff, decide_eq_false_iff_not, Bool.and_eq_false_iff, beq_eq_false_iff_ne] at h k
    have e : a = b := by omega
    subst e
    rcases h.2 with z | z
    · exact absurd rfl z
    · rcases k.2 with y | y
      · exact absurd rfl y
      · rw [ltN_tot z y]
theorem insN_perm (x : List Nat) : ∀ l, (insN x l).Perm (x :: l)
  | [] => .refl _
  | y :: r => by
    unfold insN
    split
    · exact ((insN_perm x r).cons y).trans (.swap x y r)
    · exact .refl _
theorem sortN_perm : ∀ l, (sortN l).Perm l
  | [] => .refl _
  | x :: r => (insN_perm x _).trans ((sortN_perm r).cons x)
abbrev AscN (l : List (List Nat)) : Prop := l.Pairwise fun a b => ltN b a = false
theorem insN_asc (x : List Nat) : ∀ {l}, AscN l → AscN (insN x l)
  | [], _ => List.pairwise_singleton _ _
  | y :: r, h => by
    have hr := List.pairwise_cons.mp h
    unfold insN
    split
    · rename_i hy
      refine List.pairwise_cons.mpr ⟨fun z hz => ?_, insN_asc x hr.2⟩
      rcases List.mem_cons.mp ((insN_perm x r).mem_iff.mp hz) with e | e
      · rw [e]; exact ltN_asym hy
      · exact hr.1 z e
    · rename_i hy
      have hy : ltN y x = false := by simpa using hy
      refine List.pairwise_cons.mpr ⟨fun z hz => ?_, h⟩
      rcases List.mem_cons.mp hz with e | e
      · rw [e]; exact hy
      · exact ltN_ntrans hy (hr.1 z e)
theorem sortN_asc : ∀ l, AscN (sortN l)
  | [] => List.Pairwise.nil
  | x :: r => insN_asc x (sortN_asc r)
theorem asc_of_sortedS : ∀ {l : List Str}, sortedS l = true → AscN (l.map fun s => s.cps.toList)
  | [], _ => List.Pairwise.nil
  | [x], _ => List.pairwise_singleton _ _
  | x :: y :: r, h => by
    have h : (!ltCps y.cps.toList x.cps.toList && sortedS (y :: r)) = true := h
    rw [Bool.and_eq_true, Bool.not_eq_true', ltN_eq] at h
    have ih := asc_of_sortedS h.2
    have ih' := List.pairwise_cons.mp ih
    refine List.pairwise_cons.mpr ⟨fun z hz => ?_, ih⟩
    rcases List.mem_cons.mp hz with e | e
    · rw [e]; exact h.1
    · exact ltN_ntrans h.1 (ih'.1 z e)
theorem sort_unique {l : List (List Nat)} {ys : List Str} (p : (ys.map fun s => s.cps.toList).Perm l) (h : sortedS ys = true) : ys.map (fun s => s.cps.toList) = sortN l :=
  List.Perm.eq_of_pairwise (le := fun a b => ltN b a = false) (fun a b _ _ h k => ltN_tot k h) (asc_of_sortedS h) (sortN_asc l) (p.trans (sortN_perm l).symm)
def insZ (x : Int) : List Int → List Int
  | [] => [x]
  | y :: r => if y < x then y :: insZ x r else x :: y :: r
def sortZ : List Int → List Int
  | [] => []
  | x :: r => insZ x (sortZ r)
theorem insZ_perm (x : Int) : ∀ l, (insZ x l).Perm (x :: l)
  | [] => .refl _
  | y :: r => by
    unfold insZ
    split
    · exact ((insZ_perm x r).cons y).trans (.swap x y r)
    · exact .refl _
theorem sortZ_perm : ∀ l, (sortZ l).Perm l
  | [] => .refl _
  | x :: r => (insZ_perm x _).trans ((sortZ_perm r).cons x)
theorem insZ_asc (x : Int) : ∀ {l : List Int}, l.Pairwise (· ≤ ·) → (insZ x l).Pairwise (· ≤ ·)
  | [], _ => List.pairwise_singleton _ _
  | y :: r, h => by
    have hr := List.pairwise_cons.mp h
    unfold insZ
    split
    · rename_i hy
      refine List.pairwise_cons.mpr ⟨fun z hz => ?_, insZ_asc x hr.2⟩
      rcases List.mem_cons.mp ((insZ_perm x r).mem_iff.mp hz) with e | e
      · omega
      · exact hr.1 z e
    · rename_i hy
      refine List.pairwise_cons.mpr ⟨fun z hz => ?_, h⟩
      rcases List.mem_cons.mp hz with e | e
      · omega
      · have := hr.1 z e
        omega
theorem sortZ_asc : ∀ l, (sortZ l).Pairwise (· ≤ ·)
  | [] => List.Pairwise.nil
  | x :: r => insZ_asc x (sortZ_asc r)
theorem sortZ_unique {l ys : List Int} (p : ys.Perm l) (h : ys.Pairwise (· ≤ ·)) : ys = sortZ l :=
  List.Perm.eq_of_pairwise (le := (· ≤ ·)) (fun a b _ _ h k => Int.le_antisymm h k) h (sortZ_asc l) (p.trans (sortZ_perm l).symm)
section
variable {prog : Program} {w : World} {A : Around} {E : Value → Shared → Prop} {s : Shared}
/-- the items of a tuple, gathered into a list -/
theorem gather_tup {l : Addr} {vs : List Value} {o : Obj} {n : Nat} {Q : List Value → Shared → Prop} (ho : s.heap.get? l = some o) (hc : o.cls = .type "tuple") (hd : o.data = .seq vs.toArray n) (hsz : vs.length ≤ sizeLine)
    (h : Q vs { s with heap := (s.heap.push (seqObj "list" #[] 0)).update s.heap.objs.size (Obj.mapSeq (· ++ vs.toArray)) }) : wpAny (model prog w) A (collect (.ref l)) Q E s := by
  unfold collect; refine wpAny_bind (wpAny_runValue (codeAny_builtin PyProof.Rows.entry_proto_collect' ?_))
  show wpAny _ _ (do again (.builtin "list.__iadd__" ⟨[← newList [], .ref l], []⟩)) _ _ s; refine wpAny_bind (wpAny_newList (wpAny_pure ⟨Code.quiet_builtin _ (by decide +kernel), codeAny_builtin PyProof.Rows.entry_list_iadd' ?_⟩))
  show wpAny _ _ (Builtin.List.listExtendWith (.ref s.heap.objs.size) (.ref l) (.ref s.heap.objs.size)) _ _ { s with heap := s.heap.push (seqObj "list" #[] 0) }; unfold Builtin.List.listExtendWith
  have ho' : (s.heap.push (seqObj "list" #[] 0)).get? l = some o := Heap.get?_push_of_some _ ho
  refine wpAny_bind (wpAny_typeOf (T := "tuple") ⟨o, ho', hc⟩ ?_)
  have ht : (Value.type "tuple" == Value.type "tuple") = true := by rfl
  rw [if_pos (by rw [ht]; simp)]; refine wpAny_bind (listItems_at ho' hd ?_); refine wpAny_bind (listItems_at (xs := #[]) (n := 0) (Heap.get?_push_size _ rfl) rfl ?_)
  rw [if_neg (by simp)]; refine wpAny_bind (listUpdate_at (xs := #[]) (n := 0) (Heap.get?_push_size _ rfl) rfl ?_ (Nat.zero_le _) (by show (#[] ++ vs.toArray).size ≤ sizeLine + 1; simp only [Array.size_append, List.size_toArray, List.length_nil]; omega))
  refine wpAny_pure ?_
  show wpAny (model prog w) A (do let o ← load s.heap.objs.size; match o.data with | .seq xs _ => pure xs.toList | _ => unsupported "internal:collect") Q E { s with heap := (s.heap.push (seqObj "list" #[] 0)).update s.heap.objs.size (Obj.mapSeq (· ++ vs.toArray)) }
  refine wpAny_bind (wpAny_load (get?_update_seq (Heap.get?_push_size _ rfl) _) ?_)
  show wpAny _ _ (pure ((#[] : Array Value) ++ vs.toArray).toList) Q E _
  rw [show ((#[] : Array Value) ++ vs.toArray).toList = vs by simp]; exact wpAny_pure h
theorem sort_tup {l : Addr} {vs : List Value} {o : Obj} {n : Nat} {κ : KeyKind} (hO : κ.OneLt) {Q : Value → Shared → Prop} (ho : s.heap.get? l = some o) (hc : o.cls = .type "tuple") (hd : o.data = .seq vs.toArray n) (h0 : KeysOf κ (pairsOf vs))
    (hkk : ∀ v₁ v₂ rest, vs = v₁ :: v₂ :: rest → keyKind' (v₁ :: v₂ :: rest).toArray = pure oneType') (hL : vs.length ≤ sizeLine)
    (h : ∀ st' : SortSt, (arrOf st').Perm (pairsOf vs) → SortedToK κ (arrOf st') (pairsOf vs).size → Q (.ref (s.heap.objs.size + 1)) { s with heap := sortedAll s.heap vs ((arrOf st').map (·.2)) }) : wpAny (model prog w) A (call (.builtin "sorted") [.ref l]) Q E s := by
  refine Calls.call_function_entry kind_sorted plain_sorted entry_sorted (args_sorted1 _) ?_; unfold Builtin.«sorted»
  refine wpAny_bind (m := checkCount "sorted" 1 1 _) (wpAny_pure ?_); refine wpAny_bind (gather_tup ho hc hd hL ?_); refine wpAny_bind (wpAny_newList ?_)
  have hsz : ((s.heap.push (seqObj "list" #[] 0)).update s.heap.objs.size (Obj.mapSeq (· ++ vs.toArray))).objs.size = s.heap.objs.size + 1 := by rw [Heap.size_update, size_push']
  have hoL : (((s.heap.push (seqObj "list" #[] 0)).update s.heap.objs.size (Obj.mapSeq (· ++ vs.toArray))).push (seqObj "list" vs.toArray 0)).get? (s.heap.objs.size + 1) = some (seqObj "list" vs.toArray 0) := by rw [← hsz]; exact Heap.get?_push_size _ rfl
  show wpAny _ _ _ _ _ { s with heap := ((s.heap.push (seqObj "list" #[] 0)).update s.heap.objs.size (Obj.mapSeq (· ++ vs.toArray))).push (seqObj "list" vs.toArray 0) }; rw [hsz]
  refine wpAny_bind (wpAny_holding (wpAny_call_entry slot_list_sort ⟨_, hoL, rfl⟩ entry_list_sort (list_sort_treeKAny hO hoL h0 hkk hL fun st' a1 a2 => ⟨_, rfl, ?_⟩) (args_list_sort _)))
  exact wpAny_pure ⟨_, rfl, h st' a1 a2⟩
end
def isTup : W → Bool
  | .tup _ => true
  | _ => false
def sortedRes (t : Bool) (ys : List W) : Option W := match strsOf ys with
  | some zs => some (.lst ((sortN zs).map .str))
  | none => if t = true then none else (intsOf ys).map fun ns => .lst ((sortZ ns).map .int)
def baSorted : OA := fun xs S => match xs with
  | [x] => (seqOf S x).bind (sortedRes (isTup x))
  | _ => none
section
variable {X : Cx} {G : Gs}
theorem reps_of_strs {K : PySem.W.Frag} {γ : Ga} {H : Hp} : ∀ {zs : List (List Nat)}, (∀ z ∈ zs, (∀ c ∈ z, c < 0x110000) ∧ z.length ≤ sizeLine) → Reps K G γ H (zs.map W.str) ((zs.map fun l => (⟨l.toArray⟩ : Str)).map V.str)
  | [], _ => .nil
  | z :: r, h => .cons (.str z (h z (List.mem_cons_self ..)).1 (h z (List.mem_cons_self ..)).2) (reps_of_strs fun y hy => h y (List.mem_cons_of_mem _ hy))
theorem reps_of_ints {K : PySem.W.Frag} {γ : Ga} {H : Hp} : ∀ {zs : List Int}, Reps K G γ H (zs.map W.int) (zs.map V.int)
  | [] => .nil
  | z :: r => .cons (.int z) reps_of_ints
theorem strs_size {K : PySem.W.Frag} {γ : Ga} {H : Hp} : ∀ {xs : List W} {vs : List V} {ns : List (List Nat)}, Reps K G γ H xs vs → strsOf xs = some ns → ∀ l ∈ ns, (∀ c ∈ l, c < 0x110000) ∧ l.length ≤ sizeLine
  | [], _, _, _, h => by cases h; simp
  | x :: r, _, ns, .cons q t, h => by
    cases q with
    | str s h1 h2 =>
      have h : (strsOf r).map (s :: ·) = some ns := h
      cases e : strsOf r with
      | none => rw [e] at h; cases h
      | some ms =>
        rw [e] at h
        cases h
        intro l hl
        rcases List.mem_cons.mp hl with z | z
        · rw [z]; exact ⟨h1, h2⟩
        · exact strs_size t e l z
    | _ => simp [strsOf] at h
theorem intsOf_reps' {K : PySem.W.Frag} {γ : Ga} {H : Hp} : ∀ {xs : List W} {vs : List V} {ns : List Int}, Reps K G γ H xs vs → intsOf xs = some ns → vs = ns.map V.int
  | [], _, _, .nil, h => by cases h; rfl
  | x :: r, _, ns, .cons q t, h => by
    cases q with
    | int i =>
      have h : (intsOf r).map (i :: ·) = some ns := h
      cases e : intsOf r with
      | none => rw [e] at h; cases h
      | some ms =>
        rw [e] at h
        cases h
        rw [intsOf_reps' t e] <;> rfl
    | _ => simp [intsOf] at h
theorem strs_ext (ys : List Str) : ys = (ys.map fun s => s.cps.toList).map fun l => (⟨l.toArray⟩ : Str) := by
  rw [List.map_map]
  conv => lhs; rw [← List.map_id ys]
  exact List.map_congr_left fun s _ => rfl
theorem sorted_post {s : Shared} {pins : List (Addr × Obj)} {σ : L2.St} {H : Hp} {Q : VK} {S : Store} {γ : Ga} {its : List Value} {zs : List (List Nat)} (I : Inv X pins σ H s) (ss : StoreOk X.K G γ H S) (hz : ∀ l ∈ zs, (∀ c ∈ l, c < 0x110000) ∧ l.length ≤ sizeLine) (hsz : zs.length ≤ sizeLine)
    (k : ∀ (v : V) (γ' : Ga) (H' : Hp), Ext γ H γ' H' → Rep X.K G γ' H' (.lst ((sortN zs).map .str)) v → StoreOk X.K G γ' H' S → Q v H') (out : Array Value) (ss' : List Str) (h1 : StrsAre out.toList ss') (h2 : ss'.Perm (zs.map fun l => (⟨l.toArray⟩ : Str))) (h3 : sortedS ss' = true) :
    EP X pins σ Q (.ref (s.heap.objs.size + 1)) { s with heap := sortedAll s.heap its out } := by
  obtain ⟨ep, he'⟩ := PyProof.Rows.sortedAll_at s.heap its out
  have hp : (ss'.map fun s => s.cps.toList).Perm zs := by
    have q := h2.map fun s => s.cps.toList
    rw [List.map_map] at q
    have e : zs.map ((fun s : Str => s.cps.toList) ∘ fun l => (⟨l.toArray⟩ : Str)) = zs := by
      conv => rhs; rw [← List.map_id zs]
      exact List.map_congr_left fun l _ => by simp
    rw [e] at q
    exact q
  have e := sort_unique hp h3
  have e2 : ss' = (sortN zs).map fun l => (⟨l.toArray⟩ : Str) := by rw [← e]; exact strs_ext ss'
  have hf : H (s.heap.objs.size + 1) = none := I.hok.fresh (Nat.le_succ _)
  have hlen : (ss'.map V.str).length ≤ sizeLine := by
    rw [List.length_map, h2.length_eq, List.length_map]
    exact hsz
  have hr : ∀ {γ' : Ga} {H' : Hp}, Reps X.K G γ' H' ((sortN zs).map W.str) (ss'.map V.str) := fun {γ' H'} => by
    rw [e2]
    exact reps_of_strs fun z hz' => hz z ((sortN_perm zs).mem_iff.mp hz')
  exact ⟨.ref _, upd H (s.heap.objs.size + 1) (.lst (ss'.map V.str)), I.laid (t' := s.toks) (fun _ _ => PyProof.Rows.sortedAll_old) (Nat.le_succ _) ⟨hlen, out.toList, ep, vals_of_strs h1, he'⟩, rfl, k _ γ _ (Ext.upd ss hf) (.lst upd_same (ss.fresh hf) hr) (ss.upd hf)⟩
theorem cr_sortedW : CallR X (.builtin "sorted") (raOf X.K G baSorted) := by
  intro pins s σ H xs us Q I r0 q
  obtain ⟨ws, S, γ, w, rs, ss, h, k⟩ := q
  unfold baSorted at h
  split at h
  · rename_i x
    cases rs with
    | cons r t =>
    cases t
    cases es : seqOf S x with
    | none => rw [es] at h; cases h
    | some ys =>
      rw [es] at h
      replace h : sortedRes (isTup x) ys = some w := h
      have lcase : ∀ {a : Addr} {vs : List V}, SqL X.K H a vs → Reps X.K G γ H ys vs → Vals [V.ref a] us → isTup x = false → wpAny (model X.prog X.w) X.A (call (.builtin "sorted") us) (EP X pins σ Q) X.xe s := by
        intro a vs hq rr r0 hx
        rw [hx] at h
        obtain ⟨its, rv, hl, hlz⟩ := I.list hq
        rw [Vals.ref1 r0]
        have hl0 := rv.length
        unfold sortedRes at h
        split at h
        · rename_i zs ez
          cases h
          obtain ⟨ev, _⟩ := strsOf_reps rr ez
          subst ev
          have lz : zs.length ≤ sizeLine := by rw [List.length_map, List.length_map] at hlz; exact hlz
          exact PyProof.Rows.sorted_strsAny hl.isList rv.strs (by rw [← hl0]; exact hlz) fun out ss' h1 h2 h3 => sorted_post I ss (strs_size rr ez) lz k out ss' h1 h2 h3
        · rw [if_neg (by decide)] at h
          cases ei : intsOf ys with
          | none => rw [ei] at h; cases h
          | some ns =>
            rw [ei] at h
            cases h
            have ev := intsOf_reps' rr ei
            subst ev
            have hi := rv.ints
            refine cr_sortedI pins s σ H [V.ref a] [.ref a] Q I (by have := r0; rw [Vals.ref1 r0] at this; exact this) ⟨a, ns, rfl, hq, fun ns' p hp ha hn => ?_⟩
            rw [sortZ_unique hp ha]
            exact k _ γ _ (Ext.upd ss hn) (.lst upd_same (ss.fresh hn) reps_of_ints) (ss.upd hn)
      cases r with
      | tup fr rr =>
        cases es
        have hx : isTup (W.tup ys) = true := rfl
        unfold sortedRes at h
        split at h
        · rename_i zs ez
          cases h
          obtain ⟨its, rv, pl, hlz⟩ := I.tuple fr.sq
          rw [Vals.ref1 r0]
          obtain ⟨ev, _⟩ := strsOf_reps rr ez
          subst ev
          have hl0 := rv.length
          have lz : zs.length ≤ sizeLine := by rw [List.length_map, List.length_map] at hlz; exact hlz
          obtain ⟨o, ho, hc, n, hd⟩ := pl
          refine sort_tup strKind_oneLt ho hc hd rv.strs.keysOf (fun v₁ v₂ rest e => keyKind_strs (by rw [← e]; exact rv.strs)) (by rw [← hl0]; exact hlz) fun st' hp hs => ?_
          obtain ⟨ss', h1, h2, h3⟩ := sorted_out_str rv.strs hp hs
          exact sorted_post I ss (strs_size rr ez) lz k _ ss' h1 h2 h3
        · rw [if_pos hx] at h
          cases h
      | lst h1 o1 rr =>
        have e : seqOf S (W.lst _) = some _ := es
        obtain ⟨a, vs, ev, hv, q⟩ := lst_or ss (show lstOf S (W.lst _) = some ys from es) (.lst h1 o1 rr)
        cases ev
        exact lcase hv q r0 rfl
      | ref hr =>
        obtain ⟨a, vs, ev, hv, q⟩ := lst_or ss (show lstOf S (W.ref _) = some ys from es) (.ref hr)
        cases ev
        exact lcase hv q r0 rfl
      | _ => cases es
  · cases h
end
end Mp

set_option Elab.async false
set_option linter.all false
set_option maxRecDepth 100000
set_option maxHeartbeats 4000000
/-! Mp: three at once; comprehensions whose list changes later. -/
namespace Mp
open PySem PySem.Spec PyProof.Rows L2
section
variable {X : Cx} {G : Gs} {a b c : Expr} {ga : MA} {pos : Pos}
theorem ss_par3 {x y z : Str} {px py pz pt : Pos} {kt k2 pt2} (i j l : Nat) (cf : Cfg X) (ha : SA X G [a, b, c] ga) (hi : X.N[i]? = some x := by rfl) (hj : X.N[j]? = some y := by rfl) (hl : X.N[l]? = some z := by rfl) (hij : i ≠ j := by decide) (hil : i ≠ l := by decide) (hjl : j ≠ l := by decide)
    (hx : X.env.scope.names.lookup x = some .local := by rfl) (hy : X.env.scope.names.lookup y = some .local := by rfl) (hz : X.env.scope.names.lookup z = some .local := by rfl)
    (hw : swappedStores [.Tuple [.Name x px, .Name y py, .Name z pz] kt pt] (.Tuple [a, b, c] k2 pt2) X.env = pure (some [x, y, z]) := by rfl)
    (hs : swapsWithSole [.Tuple [.Name x px, .Name y py, .Name z pz] kt pt] (.Tuple [a, b, c] k2 pt2) pos.line X.env = pure false := by rfl) : SS X G (.Assign [.Tuple [.Name x px, .Name y py, .Name z pz] kt pt] (.Tuple [a, b, c] k2 pt2) pos) (sPar3 i j l ga) := by
  refine ⟨fun Wi tk => (ps_par3 cf.calm cf.nd hi hj hl hij hil hjl hx hy hz (ha.run Wi tk) hw hs).imp ?_⟩
  rintro D σ H ⟨η, S, γ, he, hs, q⟩
  refine ⟨η, S, γ, he, hs, (PostS.expr he q).imp fun v H1 ⟨w, S1, γ1, e1, r1, s1, q1⟩ => ?_⟩
  split at q1
  · cases r1 with
    | cons r r1 =>
      cases r1 with
      | cons r' r1 =>
        cases r1 with
        | cons r'' r1 =>
        cases r1
        exact ⟨_, _, _, rfl, q1 _ γ1 H1 Ext.refl ((((he.mono e1).set r i).set r' j).set r'' l) s1⟩
  · exact q1.elim
end
theorem ItOk.mono {K : PySem.W.Frag} {G : Gs} {J : It} {xs : List W} {γ0 γ1 : Ga} {H0 H1 : Hp} (h : ItOk K G J xs γ0 H0) (e : ExtW γ0 H0 γ1 H1) : ItOk K G J xs γ1 H1 :=
  ⟨fun i γ H S hi x s => h.go i γ H S hi (e.trans x) s, fun γ H S x s => h.stop γ H S (e.trans x) s, fun i w γ H S x H' hw ex s y => h.yld i w γ H S x H' hw (e.trans ex) s y⟩
def mCompS (it : MI) (own : List Nat) (g : MG) (t : MT) (e : ME) : ME := fun η S => (it η S).bind fun xs S1 => (noexc (compL g t e (wipeE η own) xs S1 [])).bind fun ws S2 => if pures ws = true then .ok (.ref S2.length) (S2 ++ [.lst ws]) else .stuck
section
variable {X : Cx} {G : Gs} {tg iter elt : Expr} {ifs : List Expr} {scope : Scope} {f : ME} {g : MG} {t : MT} {it : MI} {is : List Nat} {own : List (Str × Nat)} {pos : Pos}
theorem Gat.doneS {K : PySem.W.Frag} {γ0 γ : Ga} {H0 H : Hp} {S0 S : Store} {D : Addr} {acc : List W} (hs : StoreOk K G γ0 H0 S0) (hD : H0 D = none) (h : Gat K G γ0 H0 D γ H S acc) (hp : pures acc = true) :
    ∃ γ', Ext γ0 H0 γ' H ∧ Rep K G γ' H (.ref S.length) (.ref D) ∧ StoreOk K G γ' H (S ++ [.lst acc]) := by
  obtain ⟨us, hus, racc⟩ := h.us
  have s := h.s
  have ex := h.ex
  have nD := (s.bt D h.dβ).1
  have ol : S.length = γ.ρ.length := s.len.symm
  have lessO : ∀ (a : Addr) (o : HO), H a = some o → γ.Off a → Ga.Off ⟨γ.ρ ++ [D], γ.β.filter (fun a => decide (a ≠ D))⟩ a := fun a o _ z => ⟨fun q => (List.mem_append.mp q).elim z.1 fun q => z.2 ((show a = D by simpa using q) ▸ h.dβ), fun q => z.2 (List.mem_filter.mp q).1⟩
  refine ⟨⟨γ.ρ ++ [D], γ.β.filter (fun a => decide (a ≠ D))⟩, ⟨ex.pre.trans (List.prefix_append _ _), fun a ha => ?_, fun a ha => ex.bnew a (List.mem_filter.mp ha).1, ex.keep, fun a h1 h2 => ?_, ex.dom⟩, .ref ?_, ?_, ?_, fun i c a hc ha => ?_, fun a ha => ⟨fun z => ?_, (s.bt a (List.mem_filter.mp ha).1).2⟩⟩
  · refine List.mem_filter.mpr ⟨ex.bsub a ha, ?_⟩
    obtain ⟨_, o, q, _⟩ := hs.bt a ha
    exact decide_eq_true (ne_of_none q hD)
  · rcases List.mem_append.mp h1 with z | z
    · exact ex.new a z h2
    · have e : a = D := by simpa using z
      rw [e]; exact hD
  · show (γ.ρ ++ [D])[S.length]? = some D
    rw [ol, List.getElem?_append_right (Nat.le_refl _), Nat.sub_self] <;> rfl
  · show (γ.ρ ++ [D]).length = (S ++ [Cell.lst acc]).length
    rw [List.length_append, List.length_append, s.len] <;> rfl
  · show (γ.ρ ++ [D]).Nodup
    rw [List.nodup_append]
    exact ⟨s.nd, by simp, fun b hb c hc => by
      have z : c = D := by simpa using hc
      rw [z]
      rintro rfl
      exact nD hb⟩
  · by_cases hi : i < S.length
    · rw [List.getElem?_append_left hi] at hc
      have ha2 : γ.ρ[i]? = some a := by
        have z : (γ.ρ ++ [D])[i]? = some a := ha
        rwa [List.getElem?_append_left (by rw [← ol]; exact hi)] at z
      have q := s.cell i c a hc ha2
      cases c with
      | lst ys =>
        obtain ⟨p1, us', hv, r'⟩ := q
        exact ⟨p1, us', hv, Reps.less lessO p1 r'⟩
      | dct _ _ => exact q.to (fun _ f => f) fun p r => Reps.less lessO p r
      | ins _ _ => exact q.elim
    · have hlt := (List.getElem?_eq_some_iff.mp hc).1
      rw [List.length_append, List.length_singleton] at hlt
      have ei : i = S.length := by omega
      subst ei
      rw [List.getElem?_append_right (Nat.le_refl _), Nat.sub_self] at hc
      have z1 : Cell.lst acc = c := by simpa using hc
      subst z1
      have z2 : D = a := by
        have z : (γ.ρ ++ [D])[S.length]? = some a := ha
        rw [ol, List.getElem?_append_right (Nat.le_refl _), Nat.sub_self] at z
        simpa using z
      subst z2
      exact ⟨hp, us, hus, Reps.less lessO hp racc⟩
  · rcases List.mem_append.mp z with z | z
    · exact (s.bt a (List.mem_filter.mp ha).1).1 z
    · have e : a = D := by simpa using z
      have := (List.mem_filter.mp ha).2
      rw [e] at this
      simp at this
theorem compS_read {Wi : WX} {Q : VK} {σ : L2.St} {H : Hp} (his : ∀ i ∈ is, i ∈ own.map (·.2)) (q : tOf X.K G Wi (mCompS it (own.map (·.2)) g t f) σ H Q) :
    tLc (tiOf X.K G Wi it) (tgOf X.K G is g) (ttOf X.K G (fun _ _ _ _ => False) t) (tOf X.K G (fun _ _ _ _ => False) f) (own.map (·.2)) σ H Q := by
  obtain ⟨η, S, γ, he, hs, q⟩ := q
  refine ⟨η, S, γ, he, hs, ?_⟩
  have q : Post X.K G (Rep X.K G) (fun c d H' => Wi c d σ H') γ H ((it η S).bind fun xs S1 => (noexc (compL g t f (wipeE η (own.map (·.2))) xs S1 [])).bind fun ws S2 => if pures ws = true then .ok (.ref S2.length) (S2 ++ [.lst ws]) else .stuck) Q := q
  cases ei : it η S with
  | stuck =>
    rw [ei] at q
    exact q.elim
  | exc c x S1 =>
    rw [ei] at q
    exact q
  | ok xs S1 =>
    rw [ei] at q
    intro J γ1 H1 e1 s1 ok D hD
    have q : Post X.K G (Rep X.K G) (fun c d H' => Wi c d σ H') γ H ((noexc (compL g t f (wipeE η (own.map (·.2))) xs S1 [])).bind fun ws S2 => if pures ws = true then .ok (.ref S2.length) (S2 ++ [.lst ws]) else .stuck) Q := q
    cases ec : compL g t f (wipeE η (own.map (·.2))) xs S1 [] with
    | stuck =>
      rw [ec] at q
      exact q.elim
    | exc c x S2 =>
      rw [ec] at q
      exact q.elim
    | ok ws S2 =>
      rw [ec] at q
      have q : Post X.K G (Rep X.K G) (fun c d H' => Wi c d σ H') γ H (if pures ws = true then .ok (.ref S2.length) (S2 ++ [.lst ws]) else .stuck) Q := q
      by_cases hp : pures ws = true
      · rw [if_pos hp] at q
        have gt := Gat.start (G := G) s1 hD
        exact lc_in (Nx := fun H' => Q (.ref D) H') hD (ok.mono gt.ex.w) ((he.mono e1).mono gt.ex) gt his ec fun γ2 H2 g2 => by
          obtain ⟨γ', x1, x2, x3⟩ := g2.doneS s1 hD hp
          exact q _ γ' H2 (e1.trans x1) x2 x3
      · rw [if_neg hp] at q
        exact q.elim
theorem se_compS (own : List (Str × Nat)) (cf : Cfg X) (hi : SI X G tg iter it) (ok : BlkOk X.N X.env.scope scope own)
    (hg : ∀ (s : Shared) (H : Hp) (C : Addr) (cl : List (Str × Addr)) (fp : List Addr), Cfg (X.blk s H scope (compEnvC scope cl C X.env) fp) → SG (X.blk s H scope (compEnvC scope cl C X.env) fp) G tg is g)
    (ht : ∀ (s : Shared) (H : Hp) (C : Addr) (cl : List (Str × Addr)) (fp : List Addr), Cfg (X.blk s H scope (compEnvC scope cl C X.env) fp) → STs (X.blk s H scope (compEnvC scope cl C X.env) fp) G ifs t)
    (he : ∀ (s : Shared) (H : Hp) (C : Addr) (cl : List (Str × Addr)) (fp : List Addr), Cfg (X.blk s H scope (compEnvC scope cl C X.env) fp) → SE (X.blk s H scope (compEnvC scope cl C X.env) fp) G elt f)
    (his : ∀ i ∈ is, i ∈ own.map (·.2) := by decide) (hs : ∀ x, foldedSetIterable iter X.env x = pure x := by intro _; rfl) :
    SE X G (.ListComp elt [⟨tg, iter, ifs, 0⟩] scope pos) (mCompS it (own.map (·.2)) g t f) := by
  refine ⟨fun Wi tk => (pe_lc (g := tgOf X.K G is g) (tt := ttOf X.K G (fun _ _ _ _ => False) t) (te := tOf X.K G (fun _ _ _ _ => False) f) cf.calm cf.nd (hi.run Wi tk) ok (fun s H C cl fp => (hg s H C cl fp (cf.blk ..)).run) (fun s H C cl fp => (ht s H C cl fp (cf.blk ..)).run _ takes0) (fun s H C cl fp => (he s H C cl fp (cf.blk ..)).run _ takes0) hs).imp ?_⟩
  intro σ H Q q
  exact compS_read his q
theorem ss_setLcS {y : Str} {py : Pos} {spos : Pos} (i : Nat) (own : List (Str × Nat)) (cf : Cfg X) (hi : SI X G tg iter it) (ok : BlkOk X.N X.env.scope scope own)
    (hg : ∀ (s : Shared) (H : Hp) (C : Addr) (cl : List (Str × Addr)) (fp : List Addr), Cfg (X.blk s H scope (compEnvC scope cl C X.env) fp) → SG (X.blk s H scope (compEnvC scope cl C X.env) fp) G tg is g)
    (ht : ∀ (s : Shared) (H : Hp) (C : Addr) (cl : List (Str × Addr)) (fp : List Addr), Cfg (X.blk s H scope (compEnvC scope cl C X.env) fp) → STs (X.blk s H scope (compEnvC scope cl C X.env) fp) G ifs t)
    (he : ∀ (s : Shared) (H : Hp) (C : Addr) (cl : List (Str × Addr)) (fp : List Addr), Cfg (X.blk s H scope (compEnvC scope cl C X.env) fp) → SE (X.blk s H scope (compEnvC scope cl C X.env) fp) G elt f)
    (hy : X.N[i]? = some y := by rfl) (hyl : X.env.scope.names.lookup y = some .local := by rfl)
    (hsw : swapsWith (.ListComp elt [⟨tg, iter, ifs, 0⟩] scope pos) (some (.Name y py)) spos.line X.env = pure true := by exact sw_true rfl rfl rfl (by decide +kernel))
    (his : ∀ i ∈ is, i ∈ own.map (·.2) := by decide) (hs : ∀ x, foldedSetIterable iter X.env x = pure x := by intro _; rfl) :
    SS X G (.Assign [.Name y py] (.ListComp elt [⟨tg, iter, ifs, 0⟩] scope pos) spos) (sSet i (mCompS it (own.map (·.2)) g t f)) := by
  refine ⟨fun Wi tk => (ps_setLc (i := i) (g := tgOf X.K G is g) (tt := ttOf X.K G (fun _ _ _ _ => False) t) (te := tOf X.K G (fun _ _ _ _ => False) f) cf.calm cf.nd hy hyl hsw (hi.run Wi tk) ok (fun s H C cl fp => (hg s H C cl fp (cf.blk ..)).run) (fun s H C cl fp => (ht s H C cl fp (cf.blk ..)).run _ takes0) (fun s H C cl fp => (he s H C cl fp (cf.blk ..)).run _ takes0) hs).imp ?_⟩
  rintro D σ H ⟨η, S, γ, he, hs, q⟩
  refine compS_read his ⟨η, S, γ, he, hs, (PostS.expr he q).imp fun v H1 ⟨w, S1, γ1, e1, r1, s1, q1⟩ => q1 _ γ1 H1 Ext.refl ((he.mono e1).set r1 i) s1⟩
end
end Mp

set_option Elab.async false
set_option linter.all false
set_option maxRecDepth 100000
set_option maxHeartbeats 4000000
/-! Mp: a list of the store is walked: each turn reads it anew. -/
namespace Mp
open PySem PySem.Spec PyProof.Rows L2
def itemR (r i : Nat) (S : Store) : Option (Option W) := match S[r]? with
  | some (.lst xs) => some xs[i]?
  | _ => none
def forR (g : MG) (b : MS) (r : Nat) : Nat → Nat → Env → Store → RS
  | 0, _, _, _ => .stuck
  | n + 1, i, η, S => match itemR r i S with
    | none => .stuck
    | some none => .nx η S
    | some (some x) => (match g x η S with
      | none => .stuck
      | some (η1, S1) => (match b η1 S1 with
        | .nx η2 S2 => forR g b r n (i + 1) η2 S2
        | .ct η2 S2 => forR g b r n (i + 1) η2 S2
        | .bk η2 S2 => .nx η2 S2
        | r => r))
def refI : W → Option Nat
  | .ref r => some r
  | _ => none
def forD (g : MG) (b : MS) (η : Env) (w : W) (S : Store) : RS := match refI w with
  | some r => forR g b r 1000000 0 η S
  | none => (match seqI w with
    | some xs => forL g b xs η S
    | none => .stuck)
def sForD (f : ME) (g : MG) (b : MS) : MS := fun η S => (f η S).toS η (forD g b η)
def compR (g : MG) (t : MT) (e : ME) (η : Env) (r : Nat) : Nat → Nat → Store → List W → R (List W)
  | 0, _, _, _ => .stuck
  | n + 1, i, S, acc => match itemR r i S with
    | none => .stuck
    | some none => .ok acc S
    | some (some x) => (match g x η S with
      | none => .stuck
      | some (η1, S1) => (t η1 S1).bind fun b S2 => if b = true then (e η1 S2).bind fun w S3 => sized (acc.length + 1) (compR g t e η r n (i + 1) S3 (acc ++ [w])) else compR g t e η r n (i + 1) S2 acc)
def compD (g : MG) (t : MT) (e : ME) (η : Env) (w : W) (S : Store) : R (List W) := match refI w with
  | some r => compR g t e η r 1000000 0 S []
  | none => (match seqI w with
    | some xs => compL g t e η xs S []
    | none => .stuck)
/-- a comprehension over a list, a tuple, a text; keep: the list changes later -/
def mCompD (keep : Bool) (f : ME) (own : List Nat) (g : MG) (t : MT) (e : ME) : ME := fun η S => (f η S).bind fun w S1 => (noexc (compD g t e (wipeE η own) w S1)).bind fun ws S2 => if keep = true then (if pures ws = true then .ok (.ref S2.length) (S2 ++ [.lst ws]) else .stuck) else .ok (.lst ws) S2
theorem itemR_dct {r i : Nat} {S : Store} {ks ws : List W} (h : S[r]? = some (.dct ks ws)) : itemR r i S = none := by
  unfold itemR
  rw [h]
theorem forR_dct {g : MG} {b : MS} {r n i : Nat} {η : Env} {S : Store} {ks ws : List W} (h : S[r]? = some (.dct ks ws)) : forR g b r (n + 1) i η S = .stuck := by
  unfold forR
  rw [itemR_dct h]
theorem compR_dct {g : MG} {t : MT} {e : ME} {r n i : Nat} {η : Env} {S : Store} {acc : List W} {ks ws : List W} (h : S[r]? = some (.dct ks ws)) : compR g t e η r (n + 1) i S acc = .stuck := by
  unfold compR
  rw [itemR_dct h]
section
variable {K : PySem.W.Frag} {G : Gs} {γ : Ga} {H : Hp} {S : Store}
theorem itemR_ok {r i : Nat} {a : Addr} {o : Option W} (s : StoreOk K G γ H S) (ha : γ.ρ[r]? = some a) (h : itemR r i S = some o) : ∃ xs vs, S[r]? = some (.lst xs) ∧ SqL K H a vs ∧ Reps K G γ H xs vs ∧ o = xs[i]? := by
  unfold itemR at h
  split at h
  · rename_i xs hc
    cases h
    obtain ⟨_, vs, hv, q⟩ := s.cell r _ _ hc ha
    exact ⟨xs, vs, hc, SqL.of hv, q, rfl⟩
  · cases h
theorem item_go {xs : List W} {vs : List V} {i : Nat} {w : W} {a : Addr} (hq : SqL K H a vs) (q : Reps K G γ H xs vs) (h : xs[i]? = some w) : (Itl K a).go i H ∧ ∀ x H', (Itl K a).yld i H x H' → H' = H ∧ Rep K G γ H w x := by
  obtain ⟨v, hv, r⟩ := q.get h
  refine ⟨⟨vs, v, hq, hv⟩, fun x H' y => ?_⟩
  obtain ⟨e, y⟩ := y
  refine ⟨e, ?_⟩
  have z := y vs hq
  rw [hv] at z
  cases z
  exact r
theorem item_stop {xs : List W} {vs : List V} {i : Nat} {a : Addr} (hq : SqL K H a vs) (q : Reps K G γ H xs vs) (h : xs[i]? = none) : (Itl K a).stop i H := by
  refine ⟨vs, hq, ?_⟩
  rw [← q.length]
  exact List.getElem?_eq_none_iff.mp h
theorem forR_turns {Wi : WX} {γ0 : Ga} {H0 : Hp} {D : Ends} {η0 : Env} {S0 : Store} {σ0 : L2.St} {g : MG} {m : MS} {is : List Nat} {r : Nat} {a : Addr} (ha : γ0.ρ[r]? = some a) (n : Nat) (he : EnvOk K G γ0 H0 η0 σ0) (hs : StoreOk K G γ0 H0 S0)
    (h : PostS K G Wi γ0 H0 (forR g m r n 0 η0 S0) D) : ∃ Wv : Nat → Nat → L2.St → Hp → Prop, (∃ k, Wv 0 k σ0 H0) ∧ ∀ i k σ H, Wv i k σ H →
      ((Itl K a).stop i H ∧ D.nx σ H) ∨ ((Itl K a).go i H ∧ ∃ N : L2.St → Hp → Prop, (∀ σ' H', N σ' H' → ∃ k', k' < k ∧ Wv (i + 1) k' σ' H') ∧ ∀ x H', (Itl K a).yld i H x H' → tgOf K G is g x σ H' fun σ2 H2 => tsOf K G Wi m { D with nx := N, ct := N, bk := D.nx } σ2 H2) := by
  refine ⟨fun i k σ H => ∃ η S γ, γ.ρ[r]? = some a ∧ EnvOk K G γ H η σ ∧ StoreOk K G γ H S ∧ PostS K G Wi γ H (forR g m r k i η S) D, ⟨n, η0, S0, γ0, ha, he, hs, h⟩, ?_⟩
  rintro i k σ H ⟨η, S, γ, ha, he, hs, q⟩
  cases k with
  | zero => exact q.elim
  | succ k =>
    unfold forR at q
    cases ei : itemR r i S with
    | none =>
      rw [ei] at q
      exact q.elim
    | some o =>
      obtain ⟨xs, vs, hc, hq, qr, eo⟩ := itemR_ok hs ha ei
      cases o with
      | none =>
        rw [ei] at q
        exact .inl ⟨item_stop hq qr eo.symm, q σ γ H Ext.refl he hs⟩
      | some w =>
        rw [ei] at q
        obtain ⟨hgo, hy⟩ := item_go hq qr eo.symm
        refine .inr ⟨hgo, _, fun σ' H' z => ⟨k, Nat.lt_succ_self k, z⟩, fun x H' y => ?_⟩
        obtain ⟨e1, r1⟩ := hy x H' y
        subst e1
        replace q : PostS K G Wi γ H' (match g w η S with
          | none => .stuck
          | some (η1, S1) => (match m η1 S1 with
            | .nx η2 S2 => forR g m r k (i + 1) η2 S2
            | .ct η2 S2 => forR g m r k (i + 1) η2 S2
            | .bk η2 S2 => .nx η2 S2
            | r => r)) D := q
        cases eg : g w η S with
        | none =>
          rw [eg] at q
          exact q.elim
        | some z =>
          obtain ⟨η1, S1⟩ := z
          rw [eg] at q
          refine ⟨η, S, γ, w, η1, S1, he, hs, r1, eg, fun σ2 γ2 H2 e2 he2 s2 _ _ => ⟨η1, S1, γ2, he2, s2, ?_⟩⟩
          refine postS_turn (k := forR g m r k (i + 1)) (fun η3 S3 γ3 σ3 H3 he3 s3 e3 q3 => ⟨η3, S3, γ3, ?_, he3, s3, q3⟩) (PostS.base e2 q)
          obtain ⟨t, q⟩ := (e2.trans e3).pre
          rw [← q, List.getElem?_append_left (List.getElem?_eq_some_iff.mp ha).1]
          exact ha
end
section
variable {X : Cx} {G : Gs} {tg a : Expr} {pos : Pos} {f : ME} {g : MG} {m : MS} {is : List Nat}
theorem ss_forD {sts : List Stmt} (cf : Cfg X) (ha : SE X G a f) (hg : SG X G tg is g) (hb : SSs X G sts m) (hs : ∀ x, foldedSetIterable a X.env x = pure x := by intro _; rfl) : SS X G (.For tg a sts [] pos) (sForD f g m) := by
  refine ⟨fun Wi tk => (ps_for cf.own cf.calm (PI.or ((si_seq (tg := tg) ha).run Wi tk) (pi_list (ha.run Wi tk))) hg.run (hb.run Wi tk) hs).imp ?_⟩
  rintro D σ H ⟨η, S, γ, he, hs, q⟩
  have q : PostS X.K G Wi γ H ((f η S).toS η (forD g m η)) D := q
  cases ei : f η S with
  | ok w S1 =>
    rw [ei] at q
    replace q : PostS X.K G Wi γ H (forD g m η w S1) D := q
    unfold forD at q
    cases ew : refI w with
    | some r =>
      cases w with
      | ref r' =>
        cases ew
        refine .inr ⟨η, S, γ, he, hs, ?_⟩
        rw [ei]
        intro v γ1 H1 e1 r1 s1
        cases r1 with
        | @ref _ ad hr =>
          have hi : r < S1.length := by rw [← s1.len]; exact (List.getElem?_eq_some_iff.mp hr).1
          have q0 := q
          have hcell : ∃ vs, SqL X.K H1 ad vs := by
            have q := s1.cell r S1[r] ad (List.getElem?_eq_getElem hi) hr
            cases hc : S1[r] with
            | lst xs => rw [hc] at q; obtain ⟨_, vs, hv, _⟩ := q; exact ⟨vs, SqL.of hv⟩
            | dct _ _ => 
              have z : PostS X.K G Wi γ H (forR g m r 1000000 0 η S1) D := q0
              rw [forR_dct (n := 999999) ((List.getElem?_eq_getElem hi).trans (congrArg some hc))] at z
              exact z.elim
            | ins _ _ => rw [hc] at q; exact q.elim
          exact ⟨ad, rfl, hcell, forR_turns hr 1000000 (he.mono e1) s1 (PostS.base e1 q)⟩
      | _ => cases ew
    | none =>
      rw [ew] at q
      refine .inl ⟨η, S, γ, he, hs, ?_⟩
      unfold miSeq
      rw [ei]
      show PostI X.K G _ γ H (rOpt (seqI w) S1) _
      cases es : seqI w with
      | none =>
        simp only [es] at q
        exact q.elim
      | some xs =>
        simp only [es] at q
        intro J γ1 H1 e1 s1 ok
        exact for_turns ok (he.mono e1) s1 (PostS.base e1 q)
  | exc c x S1 =>
    rw [ei] at q
    refine .inl ⟨η, S, γ, he, hs, ?_⟩
    unfold miSeq
    rw [ei]
    exact fun v d γ' H' e r s hd => q v d σ γ' H' e (he.mono e) r s hd
  | stuck =>
    rw [ei] at q
    exact q.elim
end
section
variable {X : Cx} {G : Gs} {tg iter elt : Expr} {ifs : List Expr} {scope : Scope} {f e : ME} {g : MG} {t : MT} {is : List Nat} {own : List (Str × Nat)} {pos : Pos}
theorem lc_inR {K : PySem.W.Frag} {γ0 γ1 : Ga} {H0 H1 : Hp} {D : Addr} {r : Nat} {a : Addr} {η : Env} {S1 SF : Store} {σ : L2.St} {acc0 accF : List W} {vs : List Nat} {Nx : Hp → Prop} (n : Nat) (hD : H0 D = none) (ha : γ1.ρ[r]? = some a) (he : EnvOk K G γ1 H1 η σ)
    (gt : Gat K G γ0 H0 D γ1 H1 S1 acc0) (his : ∀ i ∈ is, i ∈ vs) (h : compR g t f (wipeE η vs) r n 0 S1 acc0 = .ok accF SF) (hN : ∀ γ H, Gat K G γ0 H0 D γ H SF accF → Nx H) :
    ∃ Wv : Nat → Nat → Hp → Prop, (∃ k, Wv 0 k H1) ∧ ∀ j k H, Wv j k H →
      ((Itl K a).stop j H ∧ Nx H) ∨ ((Itl K a).go j H ∧ ∃ Nx1 : Hp → Prop, (∀ H', Nx1 H' → ∃ k', k' < k ∧ Wv (j + 1) k' H') ∧ ∀ x H', (Itl K a).yld j H x H' → tgOf K G is g x (wipe σ vs) H' fun σ3 H5 => wipe σ3 vs = wipe σ vs ∧ ttOf K G (fun _ _ _ _ => False) t σ3 H5 fun b H6 =>
        if b = true then tOf K G (fun _ _ _ _ => False) f σ3 H6 fun y H7 => ∃ acc, H7 D = some (.lst acc) ∧ acc.length < sizeLine ∧ Nx1 (L2.upd H7 D (.lst (acc ++ [y]))) else Nx1 H6) := by
  refine ⟨fun j k H => ∃ S γ acc, Gat K G γ0 H0 D γ H S acc ∧ ExtW γ1 H1 γ H ∧ compR g t f (wipeE η vs) r k j S acc = .ok accF SF, ⟨n, S1, γ1, acc0, gt, Ext.refl.w, h⟩, ?_⟩
  rintro i k H ⟨S, γ, acc, gt', ex, hc⟩
  have s := gt'.s
  cases k with
  | zero => cases hc
  | succ k =>
  unfold compR at hc
  have ha' : γ.ρ[r]? = some a := by
    obtain ⟨t, q⟩ := ex.pre
    rw [← q, List.getElem?_append_left (List.getElem?_eq_some_iff.mp ha).1]
    exact ha
  cases ei : itemR r i S with
  | none =>
    rw [ei] at hc
    cases hc
  | some o =>
    obtain ⟨xs, us, hcell, hq, qr, eo⟩ := itemR_ok s ha' ei
    cases o with
    | none =>
      rw [ei] at hc
      cases hc
      exact .inl ⟨item_stop hq qr eo.symm, hN γ H gt'⟩
    | some w0 =>
      rw [ei] at hc
      obtain ⟨hgo, hy⟩ := item_go hq qr eo.symm
      refine .inr ⟨hgo, _, fun H' z => ⟨k, Nat.lt_succ_self k, z⟩, fun x H' y => ?_⟩
      obtain ⟨e1, r1⟩ := hy x H' y
      subst e1
      cases eg : g w0 (wipeE η vs) S with
      | none =>
        simp only [eg] at hc
        cases hc
      | some z =>
        obtain ⟨η1, S2⟩ := z
        simp only [eg] at hc
        have heW : EnvOk K G γ H' η σ := ⟨he.1, fun j w q => by
          obtain ⟨v, h1, h2⟩ := he.2 j w q
          exact ⟨v, h1, h2.monoW ex⟩⟩
        refine ⟨wipeE η vs, S, γ, w0, η1, S2, heW.wipe vs, s, r1, eg, fun σ2 γ2 H2 e2 he2 s2 hl2 hn2 => ⟨?_, ?_⟩⟩
        · rw [wipe_same (σ := wipe σ vs) his hl2 hn2, wipe_wipe]
        · refine ⟨η1, S2, γ2, he2, s2, ?_⟩
          cases et : t η1 S2 with
          | stuck =>
            simp only [et] at hc
            cases hc
          | exc c x S2 =>
            simp only [et] at hc
            cases hc
          | ok b S3 =>
            simp only [et, R.bind] at hc
            intro b' γ3 H3 e3 rb s3
            cases rb
            have gt3 := (gt'.step e2 s2).step e3 s3
            have ex3 := (ex.trans e2.w).trans e3.w
            cases b with
            | false =>
              rw [if_neg Bool.false_ne_true] at hc ⊢
              exact ⟨S3, γ3, acc, gt3, ex3, hc⟩
            | true =>
              rw [if_pos rfl] at hc ⊢
              refine ⟨η1, S3, γ3, he2.mono e3, s3, ?_⟩
              cases ee : f η1 S3 with
              | stuck =>
                simp only [ee] at hc
                cases hc
              | exc c x S3 =>
                simp only [ee] at hc
                cases hc
              | ok w S4 =>
                simp only [ee] at hc
                intro v γ4 H4 e4 r4 s4
                unfold sized at hc
                split at hc
                · rename_i hsz
                  have gt4 := gt3.step e4 s4
                  obtain ⟨us, h1, h2, h3⟩ := gt4.put hD r4 hsz
                  exact ⟨us, h1, h2, S4, γ4, acc ++ [w], h3, (ex3.trans e4.w).busy gt.dβ, hc⟩
                · cases hc
/-- the end of a comprehension -/
theorem compD_end {K : PySem.W.Frag} {γ0 γ1 : Ga} {H0 H1 : Hp} {S1 : Store} {D : Addr} {Q : VK} {wx : Wx} {keep : Bool} {ws : List W} {SF : Store} (e1 : Ext γ0 H0 γ1 H1) (s1 : StoreOk K G γ1 H1 S1) (hD : H1 D = none)
    (q : Post K G (Rep K G) wx γ0 H0 (if keep = true then (if pures ws = true then R.ok (.ref SF.length) (SF ++ [.lst ws]) else .stuck) else .ok (.lst ws) SF) Q) : ∀ γ H, Gat K G γ1 H1 D γ H SF ws → Q (.ref D) H := by
  intro γ2 H2 g2
  cases keep with
  | true =>
    rw [if_pos rfl] at q
    split at q
    · rename_i hp
      obtain ⟨γ', x1, x2, x3⟩ := g2.doneS s1 hD hp
      exact q _ γ' H2 (e1.trans x1) x2 x3
    · exact q.elim
  | false =>
    rw [if_neg (by decide)] at q
    obtain ⟨γ', x1, x2, x3⟩ := g2.done s1 hD
    exact q _ γ' H2 (e1.trans x1) x2 x3
theorem compD_read {Wi : WX} {Q : VK} {σ : L2.St} {H : Hp} (keep : Bool) (his : ∀ i ∈ is, i ∈ own.map (·.2)) (q : tOf X.K G Wi (mCompD keep e (own.map (·.2)) g t f) σ H Q) :
    tLc (fun σ H R => tiOf X.K G Wi (miSeq e) σ H R ∨ iList X.K (tOf X.K G Wi e) σ H R) (tgOf X.K G is g) (ttOf X.K G (fun _ _ _ _ => False) t) (tOf X.K G (fun _ _ _ _ => False) f) (own.map (·.2)) σ H Q := by
  obtain ⟨η, S, γ, he, hs, q⟩ := q
  have q : Post X.K G (Rep X.K G) (fun c d H' => Wi c d σ H') γ H ((e η S).bind fun w S1 => (noexc (compD g t f (wipeE η (own.map (·.2))) w S1)).bind fun ws S2 => if keep = true then (if pures ws = true then .ok (.ref S2.length) (S2 ++ [.lst ws]) else .stuck) else .ok (.lst ws) S2) Q := q
  cases ei : e η S with
  | stuck =>
    rw [ei] at q
    exact q.elim
  | exc c x S1 =>
    rw [ei] at q
    refine .inl ⟨η, S, γ, he, hs, ?_⟩
    unfold miSeq
    rw [ei]
    exact q
  | ok w S1 =>
    rw [ei] at q
    replace q : Post X.K G (Rep X.K G) (fun c d H' => Wi c d σ H') γ H ((noexc (compD g t f (wipeE η (own.map (·.2))) w S1)).bind fun ws S2 => if keep = true then (if pures ws = true then .ok (.ref S2.length) (S2 ++ [.lst ws]) else .stuck) else .ok (.lst ws) S2) Q := q
    cases ec : compD g t f (wipeE η (own.map (·.2))) w S1 with
    | stuck =>
      rw [ec] at q
      exact q.elim
    | exc c x S2 =>
      rw [ec] at q
      exact q.elim
    | ok ws SF =>
      rw [ec] at q
      replace q : Post X.K G (Rep X.K G) (fun c d H' => Wi c d σ H') γ H (if keep = true then (if pures ws = true then .ok (.ref SF.length) (SF ++ [.lst ws]) else .stuck) else .ok (.lst ws) SF) Q := q
      unfold compD at ec
      cases ew : refI w with
      | some r =>
        rw [ew] at ec
        cases w with
        | ref r' =>
          cases ew
          refine .inr ⟨η, S, γ, he, hs, ?_⟩
          rw [ei]
          intro v γ1 H1 e1 r1 s1
          cases r1 with
          | @ref _ ad hr =>
            have hi : r < S1.length := by rw [← s1.len]; exact (List.getElem?_eq_some_iff.mp hr).1
            have hcell : ∃ vs, SqL X.K H1 ad vs := by
              have q := s1.cell r S1[r] ad (List.getElem?_eq_getElem hi) hr
              cases hc : S1[r] with
              | lst xs => rw [hc] at q; obtain ⟨_, vs, hv, _⟩ := q; exact ⟨vs, SqL.of hv⟩
              | dct _ _ => 
                have z : compR g t f (wipeE η (own.map fun x => x.snd)) r 1000000 0 S1 [] = .ok ws SF := ec
                rw [compR_dct (n := 999999) ((List.getElem?_eq_getElem hi).trans (congrArg some hc))] at z
                cases z
              | ins _ _ => rw [hc] at q; exact q.elim
            refine ⟨ad, rfl, hcell, fun D hD => ?_⟩
            have gt := Gat.start (G := G) s1 hD
            exact lc_inR (γ1 := ⟨γ1.ρ, D :: γ1.β⟩) (Nx := fun H' => Q (.ref D) H') 1000000 hD hr ((he.mono e1).mono gt.ex) gt his ec (compD_end e1 s1 hD q)
        | _ => cases ew
      | none =>
        simp only [ew] at ec
        refine .inl ⟨η, S, γ, he, hs, ?_⟩
        unfold miSeq
        rw [ei]
        show PostI X.K G _ γ H (rOpt (seqI w) S1) _
        cases es : seqI w with
        | none =>
          simp only [es] at ec
          cases ec
        | some xs =>
          simp only [es] at ec
          intro J γ1 H1 e1 s1 ok D hD
          have gt := Gat.start (G := G) s1 hD
          exact lc_in (Nx := fun H' => Q (.ref D) H') hD (ok.mono gt.ex.w) ((he.mono e1).mono gt.ex) gt his ec (compD_end e1 s1 hD q)
theorem se_compD (keep : Bool) (own : List (Str × Nat)) (cf : Cfg X) (hi : SE X G iter e) (ok : BlkOk X.N X.env.scope scope own)
    (hg : ∀ (s : Shared) (H : Hp) (C : Addr) (cl : List (Str × Addr)) (fp : List Addr), Cfg (X.blk s H scope (compEnvC scope cl C X.env) fp) → SG (X.blk s H scope (compEnvC scope cl C X.env) fp) G tg is g)
    (ht : ∀ (s : Shared) (H : Hp) (C : Addr) (cl : List (Str × Addr)) (fp : List Addr), Cfg (X.blk s H scope (compEnvC scope cl C X.env) fp) → STs (X.blk s H scope (compEnvC scope cl C X.env) fp) G ifs t)
    (he : ∀ (s : Shared) (H : Hp) (C : Addr) (cl : List (Str × Addr)) (fp : List Addr), Cfg (X.blk s H scope (compEnvC scope cl C X.env) fp) → SE (X.blk s H scope (compEnvC scope cl C X.env) fp) G elt f)
    (his : ∀ i ∈ is, i ∈ own.map (·.2) := by decide) (hs : ∀ x, foldedSetIterable iter X.env x = pure x := by intro _; rfl) :
    SE X G (.ListComp elt [⟨tg, iter, ifs, 0⟩] scope pos) (mCompD keep e (own.map (·.2)) g t f) := by
  refine ⟨fun Wi tk => (pe_lc (g := tgOf X.K G is g) (tt := ttOf X.K G (fun _ _ _ _ => False) t) (te := tOf X.K G (fun _ _ _ _ => False) f) cf.calm cf.nd (PI.or ((si_seq (tg := tg) hi).run Wi tk) (pi_list (hi.run Wi tk))) ok (fun s H C cl fp => (hg s H C cl fp (cf.blk ..)).run) (fun s H C cl fp => (ht s H C cl fp (cf.blk ..)).run _ takes0) (fun s H C cl fp => (he s H C cl fp (cf.blk ..)).run _ takes0) hs).imp ?_⟩
  intro σ H Q q
  exact compD_read keep his q
theorem ss_setLcD {y : Str} {py : Pos} {spos : Pos} (i : Nat) (keep : Bool) (own : List (Str × Nat)) (cf : Cfg X) (hi : SE X G iter e) (ok : BlkOk X.N X.env.scope scope own)
    (hg : ∀ (s : Shared) (H : Hp) (C : Addr) (cl : List (Str × Addr)) (fp : List Addr), Cfg (X.blk s H scope (compEnvC scope cl C X.env) fp) → SG (X.blk s H scope (compEnvC scope cl C X.env) fp) G tg is g)
    (ht : ∀ (s : Shared) (H : Hp) (C : Addr) (cl : List (Str × Addr)) (fp : List Addr), Cfg (X.blk s H scope (compEnvC scope cl C X.env) fp) → STs (X.blk s H scope (compEnvC scope cl C X.env) fp) G ifs t)
    (he : ∀ (s : Shared) (H : Hp) (C : Addr) (cl : List (Str × Addr)) (fp : List Addr), Cfg (X.blk s H scope (compEnvC scope cl C X.env) fp) → SE (X.blk s H scope (compEnvC scope cl C X.env) fp) G elt f)
    (hy : X.N[i]? = some y := by rfl) (hyl : X.env.scope.names.lookup y = some .local := by rfl)
    (hsw : swapsWith (.ListComp elt [⟨tg, iter, ifs, 0⟩] scope pos) (some (.Name y py)) spos.line X.env = pure true := by exact sw_true rfl rfl rfl (by decide +kernel))
    (his : ∀ i ∈ is, i ∈ own.map (·.2) := by decide) (hs : ∀ x, foldedSetIterable iter X.env x = pure x := by intro _; rfl) :
    SS X G (.Assign [.Name y py] (.ListComp elt [⟨tg, iter, ifs, 0⟩] scope pos) spos) (sSet i (mCompD keep e (own.map (·.2)) g t f)) := by
  refine ⟨fun Wi tk => (ps_setLc (i := i) (g := tgOf X.K G is g) (tt := ttOf X.K G (fun _ _ _ _ => False) t) (te := tOf X.K G (fun _ _ _ _ => False) f) cf.calm cf.nd hy hyl hsw (PI.or ((si_seq (tg := tg) hi).run Wi tk) (pi_list (hi.run Wi tk))) ok (fun s H C cl fp => (hg s H C cl fp (cf.blk ..)).run) (fun s H C cl fp => (ht s H C cl fp (cf.blk ..)).run _ takes0) (fun s H C cl fp => (he s H C cl fp (cf.blk ..)).run _ takes0) hs).imp ?_⟩
  rintro D σ H ⟨η, S, γ, he, hs, q⟩
  refine compD_read keep his ⟨η, S, γ, he, hs, (PostS.expr he q).imp fun v H1 ⟨w, S1, γ1, e1, r1, s1, q1⟩ => q1 _ γ1 H1 Ext.refl ((he.mono e1).set r1 i) s1⟩
end
end Mp

set_option Elab.async false
set_option linter.all false
set_option maxRecDepth 100000
set_option maxHeartbeats 4000000
/-! Mp: a sum of lists that changes later. -/
namespace Mp
open PySem PySem.Spec PyProof.Rows L2
def mAddS (f g : ME) : ME := fun η S => (f η S).bind fun x S1 => (g η S1).bind fun y S2 => match lstOf S2 x, lstOf S2 y with
  | some a, some b => if a.length + b.length ≤ bigLine ∧ pures (a ++ b) = true then .ok (.ref S2.length) (S2 ++ [.lst (a ++ b)]) else .stuck
  | _, _ => .stuck
section
variable {X : Cx} {G : Gs} {a b : Expr} {pos : Pos} {f g : ME}
theorem se_addS (ha : SE X G a f) (hb : SE X G b g) : SE X G (.BinOp a .Add b pos) (mAddS f g) := by
  refine ⟨fun Wi tk => (pe_op op_cat (ha.run Wi tk) (hb.run Wi tk)).imp ?_⟩
  rintro σ H Q ⟨η, S, γ, he, hs, q⟩
  refine ⟨η, S, γ, he, hs, (Post.seq q).imp fun x H1 ⟨wx, S1, γ1, e1, r1, s1, q1⟩ => ⟨η, S1, γ1, he.mono e1, s1, (Post.seq q1).imp fun y H2 ⟨wy, S2, γ2, e2, r2, s2, q2⟩ => ?_⟩⟩
  have r1' := r1.mono e2
  cases hx : lstOf S2 wx with
  | none =>
    simp only [hx] at q2
    exact q2.elim
  | some xs =>
    cases hy : lstOf S2 wy with
    | none =>
      simp only [hx, hy] at q2
      exact q2.elim
    | some ys =>
      simp only [hx, hy] at q2
      by_cases hl : xs.length + ys.length ≤ bigLine ∧ pures (xs ++ ys) = true
      · rw [if_pos hl] at q2
        have hl1 := hl.1
        rw [bigLine_eq] at hl1
        obtain ⟨a1, v1, rfl, h1, q1⟩ := lstOf_rep s2 hx r1'
        obtain ⟨a2, v2, rfl, h2, q2'⟩ := lstOf_rep s2 hy r2
        have e1 := q1.length
        have e2 := q2'.length
        refine ⟨a1, a2, v1, v2, rfl, rfl, h1, h2, by omega, fun p hp => ?_⟩
        have ex := Ext.push (K := X.K) (G := G) s2 (o := .lst (v1 ++ v2)) hp
        refine q2 _ _ _ ex (.ref ?_) (s2.push hp hl.2 (q1.append q2'))
        show (γ2.ρ ++ [p])[S2.length]? = some p
        rw [← s2.len, List.getElem?_append_right (Nat.le_refl _), Nat.sub_self] <;> rfl
      · rw [if_neg hl] at q2
        exact q2.elim
end
end Mp

set_option Elab.async false
set_option linter.all false
set_option maxRecDepth 100000
set_option maxHeartbeats 4000000
/-! Mp: enumerate of tuples. -/
namespace Mp
open PySem PySem.Spec PyProof.Rows L2
theorem tupIt_at {h h' : Heap} {it l : Addr} {i : Nat} (x : h.IsTupleIter it l i) (k : ∀ o, h.get? it = some o → h'.get? it = some o) : h'.IsTupleIter it l i := let ⟨o, ho, r⟩ := x; ⟨o, k o ho, r⟩
theorem tup_at {h h' : Heap} {l : Addr} {xs : Array Value} (x : h.IsTuple l xs) (k : ∀ o, h.get? l = some o → h'.get? l = some o) : h'.IsTuple l xs := let ⟨o, ho, r⟩ := x; ⟨o, k o ho, r⟩
theorem drawsT {prog : Program} {w : World} {A : Around} (hh : A.handled = none) (it l : Addr) (hne : l ≠ it) (items : Array Value) : Draws prog w A it [it, l] items.size (fun i v => items[i]? = some v) (fun i h => h.IsTupleIter it l i ∧ h.IsTuple l items) := by
  refine ⟨fun _ _ st => ?_, fun _ _ _ st hk => ⟨tupIt_at st.1 fun o e => hk it (by simp) o e, tup_at st.2 fun o e => hk l (by simp) o e⟩, fun i s Q E hi st hQ => ?_, fun s Q E st hE => RZ.nextOf_tuple_end hh st.1 st.2 (by simp) hE⟩
  · obtain ⟨⟨o, ho, _⟩, _⟩ := st
    exact ⟨o, ho⟩
  · exact RZ.nextOf_tuple_item st.1 st.2 (x := items[i]) (by simp [hi]) fun h' hit' hs' => hQ _ h' s.toks (by simp [hi]) ⟨hit', st.2.extBut hs'.extBut hne⟩ hs'
theorem meetsET (l : Addr) (items : Array Value) (n : Nat) (dct : Option Addr) (sl : Array (Option Value)) : Meets (Builtin.«enumerate.__new__» ⟨[.type "enumerate", .ref l], []⟩) (fun _ R s => s.heap.get? l = some { cls := .type "tuple", dict := dct, data := .seq items n, slots := sl } ∧
    R (.ok (.ret (.ref (s.heap.push { cls := .type "tuple_iterator", data := .fields #[.ref l, .int 0 0] }).objs.size))) { s with heap := (s.heap.push { cls := .type "tuple_iterator", data := .fields #[.ref l, .int 0 0] }).push { cls := .type "enumerate", data := .fields #[.none, .bool false, .ref s.heap.objs.size, rawInt 0, .none, .none] } }) :=
  .of_wp fun prog w A R s h => by
    obtain ⟨hp, g, d, tk, os⟩ := s; obtain ⟨hl, h⟩ := h
    have hsub := sub_enumerate
    have hL : Heap.IsTuple (Shared.heap ⟨hp, g, d, tk, os⟩) l items := ⟨_, hl, rfl, n, rfl⟩
    wp_walk using AutoSeq1.wpAny_loadPart' hl
    refine wpAny_stack_any fun st => wpAny_pure ?_
    split
    · rename_i c _ _ _ _ _
      cases (c == Value.type "enumerate")
      · wp_walk using AutoSeq1.wpAny_loadPart' hl, wpAny_pyIter_tuple hL
        exact ⟨_, rfl, h⟩
      · wp_walk using AutoSeq1.wpAny_loadPart' hl, wpAny_pyIter_tuple hL
        exact ⟨_, rfl, h⟩
    · wp_walk using AutoSeq1.wpAny_loadPart' hl, wpAny_pyIter_tuple hL
      exact ⟨_, rfl, h⟩
theorem call_enumT {prog : Program} {w : World} {A : Around} {E : Value → Shared → Prop} {s : Shared} {l : Addr} {items : Array Value} {Q : Value → Shared → Prop} (hL : s.heap.IsTuple l items)
    (h : ∀ h', IsEnum h' (s.heap.objs.size + 1) s.heap.objs.size 0 .none → h'.IsTupleIter s.heap.objs.size l 0 → (∀ b o, s.heap.get? b = some o → h'.get? b = some o) → Q (.ref (s.heap.objs.size + 1)) { s with heap := h' }) : wpAny (model prog w) A (call (.type "enumerate") [.ref l]) Q E s := by
  obtain ⟨⟨c, dct, dt, sl⟩, hl, hc, n, hd⟩ := hL
  replace hc : c = .type "tuple" := hc
  replace hd : dt = .seq items n := hd
  subst hc hd
  refine callType_new F.called_enumerate (by decide) (F.typeCall_enumerate_1 _) (F.newCall_enumerate_1 _) (fun obj => F.args_object_init_2 obj _) F.entry_enumerate_new (meetsET l items n dct sl) ⟨hl, ?_⟩
  have hz : (s.heap.push { cls := .type "tuple_iterator", data := .fields #[.ref l, .int 0 0] }).objs.size = s.heap.objs.size + 1 := Heap.size_push ..
  show _ ∧ _
  rw [hz]
  have he : IsEnum ((s.heap.push { cls := .type "tuple_iterator", data := .fields #[.ref l, .int 0 0] }).push { cls := .type "enumerate", data := .fields #[.none, .bool false, .ref s.heap.objs.size, rawInt 0, .none, .none] }) (s.heap.objs.size + 1) s.heap.objs.size 0 .none := by
    have := Heap.get?_push_size (s.heap.push { cls := .type "tuple_iterator", data := .fields #[.ref l, .int 0 0] }) (o := { cls := .type "enumerate", data := .fields #[.none, .bool false, .ref s.heap.objs.size, rawInt 0, .none, .none] }) rfl
    rw [hz] at this
    exact this
  exact ⟨⟨_, he, rfl⟩, h _ he ⟨_, Heap.get?_push_of_some _ (Heap.get?_push_size _ rfl), rfl, rfl⟩ fun b o x => Heap.get?_push_of_some _ (Heap.get?_push_of_some _ x)⟩
def IteT (K : PySem.W.Frag) (a : Addr) : It :=
  ⟨fun i H => ∃ (xs : List V) (x : V), SqT K H a xs ∧ xs[i]? = some x, fun i H v H' => ∃ T x, v = .ref T ∧ H T = none ∧ H' = upd H T (.tup [.int (i : Nat), x]) ∧ ∀ xs, SqT K H a xs → xs[i]? = some x, fun i H => ∃ xs : List V, SqT K H a xs ∧ xs.length = i⟩
theorem turn_enumT {P : Program} {w : World} {K : PySem.W.Frag} {elts : List Expr} {kk : Nat} {tpos : Pos} (a e it : Addr) (h1 : e ≠ it) (h2 : e ≠ a) (h3 : a ≠ it) :
    Turn P w K (.Tuple elts kk tpos) (IteT K a) [e, it] e (fun i h => (∃ old, IsEnum h e it ((i : Nat) : Int) old) ∧ h.IsTupleIter it a i) where
  mem := by simp
  obj := fun i h st b hb => by
    obtain ⟨⟨old, he⟩, ⟨o, ho, hc, hd⟩⟩ := st
    have e' : b = e ∨ b = it := by simpa using hb
    rcases e' with z | z
    · rw [z]
      exact ⟨_, he, fun v q => nomatch q⟩
    · rw [z]
      exact ⟨o, ho, fun v q => by rw [hd] at q; cases q⟩
  keep := fun i h h' st k => ⟨st.1.elim fun old he => ⟨old, k e (by simp) _ he⟩, tupIt_at st.2 fun o q => k it (by simp) o q⟩
  item := by
    intro X hP hw hK hc i pins s σ H E I hf st hg
    subst hP hw hK
    obtain ⟨⟨old, he⟩, hit⟩ := st
    obtain ⟨xs, x, hq, hx⟩ := hg
    obtain ⟨its, rv, p, hz⟩ := I.tuple hq
    have hl := rv.length
    have hlt : i < its.toArray.size := by
      have := (List.getElem?_eq_some_iff.mp hx).1
      simp
      omega
    have hel : e < s.heap.objs.size := Heap.lt_size he
    refine wpAny_pyNext_enum_itemD (drawsT (A := X.A.in1) (show X.A.in1.handled = none from I.ok.hd hc) it a h3 its.toArray) he ⟨hit, p⟩ hlt h1 (by simp [h1, h2]) fun u h' tk hu ho hst hT hsz hk => ?_
    obtain ⟨u', hu', ru⟩ := rv.get hx
    have eu : u' = u := by
      have z : its[i]? = some u := by simpa using hu
      rw [hu'] at z
      exact Option.some.inj z
    subst eu
    refine ⟨_, rfl, wpAny_letOwnedTupleGo_enum (s := { s with heap := h', toks := tk + 1 }) ho fun h'' he' sb => ?_⟩
    have hT2 : h''.get? s.heap.objs.size = some { cls := .type "tuple", data := .seq #[.int i tk, u'] } := (sb.2 _ (Nat.ne_of_gt hel)).trans hT
    have new : ObjOk X.prog X.w (upd H s.heap.objs.size (.tup [.int (i : Nat), x])) h'' s.heap.objs.size (.tup [.int (i : Nat), x]) := ⟨by show 2 ≤ sizeLine; decide, [.int i tk, u'], .cons ⟨_, rfl⟩ (.cons ru .nil), ⟨_, hT2, rfl, _, rfl⟩⟩
    have I1 : Inv X pins σ (upd H s.heap.objs.size (.tup [.int (i : Nat), x])) { s with heap := h'', toks := tk + 1 } := I.turnedNew (ch := [e, it]) (fun b ob hb q => (sb.2 b (fun z => hb (by simp [z]))).trans (hk b ob (fun z => hb (by simp [z])) (fun z => hb (by simp [z])) q)) hf (Nat.le_refl _) new
    refine ⟨.ref s.heap.objs.size, _, I1, rfl, ⟨_, x, rfl, I.hok.fresh (Nat.le_refl _), rfl, fun ys hy => by rw [I.tuple_inj hy hq]; exact hx⟩, ⟨⟨u', ?_⟩, tupIt_at hst.1 fun o q => (sb.2 it (Ne.symm h1)).trans q⟩, fun b hb => ?_⟩
    · have e1 : ((i + 1 : Nat) : Int) = (i : Int) + 1 := by omega
      rw [e1]
      exact he'
    · have hb' : b < s.heap.objs.size := by
        have e' : b = e ∨ b = it := by simpa using hb
        rcases e' with z | z
        · rw [z]
          exact hel
        · rw [z]
          obtain ⟨_, q, _⟩ := hit
          exact Heap.lt_size q
      rw [upd_ne (Nat.ne_of_lt hb')]
      exact (hf b hb).1
  done := by
    intro X hP hw hK hc i pins s σ H E I hf st hg
    subst hP hw hK
    obtain ⟨⟨old, he⟩, hit⟩ := st
    obtain ⟨xs, hq, hx⟩ := hg
    obtain ⟨its, rv, p, hz⟩ := I.tuple hq
    obtain ⟨f0, f1, f2, f3, f4, f5⟩ := hf it (by simp)
    have hl := rv.length
    have ei : i = its.toArray.size := by simp; omega
    subst ei
    exact wpAny_pyNext_enum_endD (drawsT (A := X.A.in1) (show X.A.in1.handled = none from I.ok.hd hc) it a h3 its.toArray) he ⟨hit, p⟩ fun h' eb => ⟨rfl, I.turned (t' := s.toks) (fun b o hb q => eb b o hb q) f0 f1 f3 f4 f5⟩
  self := fun A i s Q E st h => st.1.elim fun old he => wpAny_pyIter_enum he h
def iEnumT (K : PySem.W.Frag) (ta : TA) : TI := fun σ H R => ta σ H fun vs H1 => ∃ a xs, vs = [.ref a] ∧ SqT K H1 a xs ∧ R (IteT K a) H1
theorem pi_enumT {X : Cx} {e : Expr} {ta : TA} {p pos tpos : Pos} {elts : List Expr} {kk : Nat} (hg : Gl X "enumerate") (hm : X.mg "enumerate" = none) (ha : PA X [e] ta) (hs : starEach [e] X.env = [(false, eval e X.env)] := by rfl) : PI X (.Tuple elts kk tpos) (.Call (.Name "enumerate" p) [e] [] pos) (iEnumT X.K ta) := by
  refine ⟨fun pins s σ H R I h => ?_⟩
  refine Call_ (ld_blt I hg hm boot_enumerate (PyProof.Rows.callWith_type1 (thn (ha.run pos pins s σ H _ I h) fun us s1 ⟨vs, H1, I1, r1, q1⟩ => ?_) hs rfl))
  obtain ⟨a, xs, ex, hq, q⟩ := q1
  subst ex
  cases r1 with
  | cons r rr =>
    cases rr
    cases r
    obtain ⟨its, rv, p', hz⟩ := I1.tuple hq
    have hal : a < s1.heap.objs.size := by obtain ⟨_, q, _⟩ := p'; exact Heap.lt_size q
    refine call_enumT p' fun h' he hit hk => wpAny_pyIter_enum he ?_
    have I2 : Inv X pins σ H1 { s1 with heap := h' } := I1.kept (t' := s1.toks) hk
    refine ⟨s1.heap.objs.size + 1, [s1.heap.objs.size + 1, s1.heap.objs.size], _, _, H1, rfl, I2, turn_enumT a (s1.heap.objs.size + 1) s1.heap.objs.size (Nat.succ_ne_self _) (Nat.ne_of_gt (Nat.lt_succ_of_lt hal)) (Nat.ne_of_lt hal), ⟨⟨.none, he⟩, hit⟩, fun b hb => ?_, q⟩
    have e' : b = s1.heap.objs.size + 1 ∨ b = s1.heap.objs.size := by simpa using hb
    have hle : s1.heap.objs.size ≤ b := by
      rcases e' with z | z
      · rw [z]
        exact Nat.le_add_right _ _
      · rw [z]
        exact Nat.le_refl _
    exact I1.fpOk hle (I1.hok.fresh hle)
def enumW2 : List W → Option (List W)
  | [.lst xs] => some (enumL 0 xs)
  | [.tup xs] => some (enumL 0 xs)
  | _ => none
theorem itOk_enumT {K : PySem.W.Frag} {G : Gs} {γ : Ga} {H : Hp} {a : Addr} {xs : List W} {vs : List V} (sa : ∀ {γ' H'}, ExtW γ H γ' H' → SqT K H' a vs) (q : Reps K G γ H xs vs) : ItOk K G (IteT K a) (enumL 0 xs) γ H := by
  refine ⟨fun i γ' H' S hi e _ => ?_, fun γ' H' S e _ => ⟨vs, sa e, ?_⟩, fun i w γ' H' S x H'' hw e s y => ?_⟩
  · rw [enumL_len, q.length] at hi
    exact ⟨vs, vs[i], sa e, List.getElem?_eq_getElem hi⟩
  · rw [enumL_len, q.length]
  · obtain ⟨T, v, rfl, hT, rfl, h1⟩ := y
    obtain ⟨p, hp, rfl⟩ := enumL_get hw
    obtain ⟨v', hv', rv⟩ := q.get hp
    have z1 := h1 vs (sa e)
    rw [hv'] at z1
    cases z1
    rw [Int.zero_add]
    exact pair_new hT s (.int _) (rv.monoW e)
section
variable {X : Cx} {G : Gs} {a : Expr} {pos p tpos : Pos} {ga : MA} {elts : List Expr} {kk : Nat}
theorem si_enum2 (hm : X.mg "enumerate" = none) (ha : SA X G [a] ga) (hg : Gl X "enumerate" := by rfl) (hs : starEach [a] X.env = [(false, eval a X.env)] := by rfl) : SI X G (.Tuple elts kk tpos) (.Call (.Name "enumerate" p) [a] [] pos) (miAll enumW2 ga) := by
  refine ⟨fun Wi tk => (PI.or (pi_enum hg hm (ha.run Wi tk) hs) (pi_enumT hg hm (ha.run Wi tk) hs)).imp ?_⟩
  rintro σ H R ⟨η, S, γ, he, hs, q⟩
  have q : PostI X.K G (fun c d H' => Wi c d σ H') γ H ((ga η S).bind fun ws S1 => rOpt (enumW2 ws) S1) R := q
  cases eg : ga η S with
  | stuck =>
    rw [eg] at q
    exact q.elim
  | exc c x S1 =>
    rw [eg] at q
    refine .inl ⟨η, S, γ, he, hs, ?_⟩
    rw [eg]
    exact q
  | ok ws S1 =>
    rw [eg] at q
    replace q : PostI X.K G (fun c d H' => Wi c d σ H') γ H (rOpt (enumW2 ws) S1) R := q
    unfold enumW2 at q
    split at q
    · refine .inl ⟨η, S, γ, he, hs, ?_⟩
      rw [eg]
      intro vs γ1 H1 e1 r1 s1
      cases r1 with
      | cons r r1 =>
        cases r1
        cases r with
        | lst h1 o1 z1 => exact ⟨_, _, rfl, SqL.of h1, q _ γ1 H1 e1 s1 (itOk_enum (fun e => .inl (e.rd (.inl h1) o1).1) z1)⟩
    · refine .inr ⟨η, S, γ, he, hs, ?_⟩
      rw [eg]
      intro vs γ1 H1 e1 r1 s1
      cases r1 with
      | cons r r1 =>
        cases r1
        cases r with
        | tup h1 z1 => exact ⟨_, _, rfl, h1.sq, q _ γ1 H1 e1 s1 (itOk_enumT (fun e => (h1.monoW e).sq) z1)⟩
    · exact q.elim
end
end Mp

set_option Elab.async false
set_option linter.all false
set_option maxRecDepth 100000
set_option maxHeartbeats 4000000
/-! Mp: tuples compared. -/
namespace Mp
open PySem PySem.Spec PyProof.Rows L2
def lexG {α : Type} [DecidableEq α] (q : α → α → Bool) (z : Nat → Nat → Bool) : List α → List α → Bool
  | x :: xs, y :: ys => if x = y then lexG q z xs ys else q x y
  | [], ys => z 0 ys.length
  | xs, [] => z xs.length 0
def tupsCmp (p : Int → Int → Bool) (q : List Nat → List Nat → Bool) (z : Nat → Nat → Bool) (xs ys : List W) : Option W := match strsOf xs, strsOf ys with
  | some a, some b => some (.bl (lexG q z a b))
  | _, _ => (match intsOf xs, intsOf ys with
    | some a, some b => some (.bl (lexG p z a b))
    | _, _ => none)
def opCmp2 (p : Int → Int → Bool) (q : List Nat → List Nat → Bool) (z : Nat → Nat → Bool) : O2 := fun x y S => match x, y with
  | .tup xs, .tup ys => tupsCmp p q z xs ys
  | x, y => opCmp p q x y S
theorem lexAt_shift {e r : Nat → Bool} {z : Bool} : ∀ (k i : Nat), Ob.lexAt e r z (i + 1) k = Ob.lexAt (fun j => e (j + 1)) (fun j => r (j + 1)) z i k
  | 0, i => rfl
  | k + 1, i => by
    rw [Ob.lexAt_succ, Ob.lexAt_succ, lexAt_shift k (i + 1)]
theorem lexAt_lexG {α : Type} [DecidableEq α] (d : α) (q : α → α → Bool) (z : Nat → Nat → Bool) (hz : ∀ m n, z (m + 1) (n + 1) = z m n) : ∀ xs ys : List α, Ob.lexAt (fun j => decide (xs.getD j d = ys.getD j d)) (fun j => q (xs.getD j d) (ys.getD j d)) (z xs.length ys.length) 0 (min xs.length ys.length) = lexG q z xs ys
  | [], ys => by
    rw [show min ([] : List α).length ys.length = 0 by simp, Ob.lexAt_zero, lexG] <;> rfl
  | x :: xs, [] => by
    rw [show min (x :: xs).length ([] : List α).length = 0 by simp, Ob.lexAt_zero, lexG] <;> first | rfl | simp
  | x :: xs, y :: ys => by
    rw [show min (x :: xs).length (y :: ys).length = min xs.length ys.length + 1 by simp [Nat.succ_min_succ], Ob.lexAt_succ, lexAt_shift, List.length_cons, List.length_cons, hz, lexG]
    have ih := lexAt_lexG d q z hz xs ys
    by_cases e : x = y
    · rw [if_pos (by show decide (x = y) = true; exact decide_eq_true e), if_pos e]
      exact ih
    · rw [if_neg (by show ¬ decide (x = y) = true; rw [decide_eq_true_eq]; exact e), if_neg e]
      rfl
section
variable {X : Cx} {G : Gs}
theorem str_at {its : List Value} {zs : List (List Nat)} (h : StrsAre its (zs.map fun l => (⟨l.toArray⟩ : Str))) {j : Nat} (hj : j < its.toArray.size) : ∃ t, its.toArray[j] = .str ⟨(zs.getD j []).toArray⟩ t := by
  have e : ∀ {its : List Value} {ss : List Str}, StrsAre its ss → ∀ j (hj : j < its.length), ∃ t, its[j] = .str (ss.getD j Str.empty) t := by
    intro its ss h
    induction h with
    | nil => intro j hj; cases hj
    | cons x t r ih =>
      intro j hj
      cases j with
      | zero => exact ⟨t, rfl⟩
      | succ j => exact ih j (by simpa using hj)
  have hj' : j < its.length := by simpa using hj
  obtain ⟨t, q⟩ := e h j hj'
  refine ⟨t, ?_⟩
  have hl : j < zs.length := by
    have := h.length
    rw [List.length_map] at this
    omega
  rw [List.getElem_toArray, q, List.getD_eq_getElem?_getD, List.getElem?_map, List.getElem?_eq_getElem hl, List.getD_eq_getElem?_getD, List.getElem?_eq_getElem hl] <;> rfl
theorem o2_cmpT {op : CmpOp} {p : Int → Int → Bool} {q : List Nat → List Nat → Bool} {zz : Nat → Nat → Bool} (hu : X.A.units + 100 < cLine) (hz : ∀ m n, zz (m + 1) (n + 1) = zz m n) (h0 : OpR X (compareOp op) (rOf X.K G (opCmp p q)))
    (hs : ∀ (A : Around) (s : Shared) (x : Str) (t : Tok) (y : Str) (u : Tok), Ob.RcOp op A s (.str x t) (.str y u) (q x.cps.toList y.cps.toList)) (hi : ∀ (A : Around) (s : Shared) (x : Int) (t : Tok) (y : Int) (u : Tok), Ob.RcOp op A s (.int x t) (.int y u) (p x y))
    (ht : ∀ {A : Around} {s : Shared} {l b : Addr} {items items2 : Array Value} {e r : Nat → Bool} (_ : s.heap.IsTuple l items) (_ : s.heap.IsTuple b items2) (_ : A.units < cLine) (_ : ∀ j (h1 : j < items.size) (h2 : j < items2.size), PySem.SeqAt.EqAt A.in1 s items[j] items2[j] (e j))
      (_ : ∀ j (h1 : j < items.size) (h2 : j < items2.size), e j = false → Ob.RcOp op A.in1 s items[j] items2[j] (r j)), Ob.RcOp op A s (.ref l) (.ref b) (Ob.lexAt e r (zz items.size items2.size) 0 (min items.size items2.size)))
    (hc : ∀ (v u : Value), compareOp op v u = richCompare op v u) : OpR X (compareOp op) (rOf X.K G (opCmp2 p q zz)) := by
  intro pins s σ H x y v u Q I rx ry h
  obtain ⟨wx, wy, S, γ, w, r1, r2, ss, e, k⟩ := h
  unfold opCmp2 at e
  split at e
  · rename_i xs ys
    cases r1 with
    | tup f1 q1 =>
    cases r2 with
    | tup f2 q2 =>
    cases rx
    cases ry
    obtain ⟨its, rv1, p1, _⟩ := I.tuple f1.sq
    obtain ⟨its2, rv2, p2, _⟩ := I.tuple f2.sq
    unfold tupsCmp at e
    split at e
    · rename_i a b ea eb
      cases e
      obtain ⟨ev, _⟩ := strsOf_reps q1 ea
      subst ev
      obtain ⟨ev, _⟩ := strsOf_reps q2 eb
      subst ev
      have l1 : its.toArray.size = a.length := by have := rv1.length; simp at this ⊢; omega
      have l2 : its2.toArray.size = b.length := by have := rv2.length; simp at this ⊢; omega
      have R := ht (A := X.A) (s := s) (e := fun j => decide (a.getD j [] = b.getD j [])) (r := fun j => q (a.getD j []) (b.getD j [])) p1 p2 (by omega) (fun j h1 h2 => by
        obtain ⟨t, et⟩ := str_at rv1.strs h1
        obtain ⟨t', et'⟩ := str_at rv2.strs h2
        rw [et, et']
        have z : ((⟨(a.getD j []).toArray⟩ : Str) == ⟨(b.getD j []).toArray⟩) = decide (a.getD j [] = b.getD j []) := by
          by_cases q : a.getD j [] = b.getD j []
          · rw [decide_eq_true q, q]
            exact beq_self_eq_true _
          · rw [decide_eq_false q]
            refine beq_eq_false_iff_ne.mpr fun z => q ?_
            have z2 := congrArg (fun s : Str => s.cps.toList) z
            simpa using z2
        rw [← z]
        exact PySem.SeqAt.EqAt.str_str _ _ _ _) (fun j h1 h2 _ => by
        obtain ⟨t, et⟩ := str_at rv1.strs h1
        obtain ⟨t', et'⟩ := str_at rv2.strs h2
        rw [et, et']
        have z := hs X.A.in1 s ⟨(a.getD j []).toArray⟩ t ⟨(b.getD j []).toArray⟩ t'
        simpa using z)
      rw [l1, l2, lexAt_lexG [] q zz hz] at R
      rw [hc]
      exact R X.prog X.w X.xe (EP X pins σ Q) ⟨.bl _, H, I, rfl, k _ γ H Ext.refl (.bl _) ss⟩
    · split at e
      · rename_i a b ea eb
        cases e
        have ev := intsOf_reps' q1 ea
        subst ev
        have ev := intsOf_reps' q2 eb
        subst ev
        have i1 : IntsAre its a := Vals.ints rv1
        have i2 : IntsAre its2 b := Vals.ints rv2
        have l1 : its.toArray.size = a.length := by rw [List.size_toArray]; exact i1.length
        have l2 : its2.toArray.size = b.length := by rw [List.size_toArray]; exact i2.length
        have at1 : ∀ j (h1 : j < its.toArray.size), ∃ t, its.toArray[j] = .int (a.getD j 0) t := fun j h1 => PyProof.Rows.IntsAre.int_at i1 _ _ (by simp at h1; simp [h1])
        have at2 : ∀ j (h1 : j < its2.toArray.size), ∃ t, its2.toArray[j] = .int (b.getD j 0) t := fun j h1 => PyProof.Rows.IntsAre.int_at i2 _ _ (by simp at h1; simp [h1])
        have R := ht (A := X.A) (s := s) (e := fun j => decide (a.getD j 0 = b.getD j 0)) (r := fun j => p (a.getD j 0) (b.getD j 0)) p1 p2 (by omega) (fun j h1 h2 => by
          obtain ⟨t, et⟩ := at1 j h1
          obtain ⟨t', et'⟩ := at2 j h2
          rw [et, et']
          have z : (a.getD j 0 == b.getD j 0) = decide (a.getD j 0 = b.getD j 0) := by
            by_cases q : a.getD j 0 = b.getD j 0
            · rw [decide_eq_true q]
              exact beq_iff_eq.mpr q
            · rw [decide_eq_false q]
              exact beq_eq_false_iff_ne.mpr q
          rw [← z]
          exact PySem.SeqAt.EqAt.int_int _ _ _ _) (fun j h1 h2 _ => by
          obtain ⟨t, et⟩ := at1 j h1
          obtain ⟨t', et'⟩ := at2 j h2
          rw [et, et']
          exact hi X.A.in1 s _ _ _ _)
        rw [l1, l2, lexAt_lexG 0 p zz hz] at R
        rw [hc]
        exact R X.prog X.w X.xe (EP X pins σ Q) ⟨.bl _, H, I, rfl, k _ γ H Ext.refl (.bl _) ss⟩
      · cases e
  · exact h0 pins s σ H x y v u Q I rx ry ⟨_, _, S, γ, w, r1, r2, ss, e, k⟩
def opLt2 : O2 := opCmp2 (fun i j => decide (i < j)) (fun a b => decide (a < b)) fun m n => decide (m < n)
def opLe2 : O2 := opCmp2 (fun i j => decide (i ≤ j)) (fun a b => !decide (b < a)) fun m n => decide (m ≤ n)
def opGt2 : O2 := opCmp2 (fun i j => decide (j < i)) (fun a b => decide (b < a)) fun m n => decide (m > n)
def opGe2 : O2 := opCmp2 (fun i j => decide (j ≤ i)) (fun a b => !decide (a < b)) fun m n => decide (m ≥ n)
theorem o2_lt2 (hu : X.A.units + 100 < cLine) : OpR X (compareOp .Lt) (rOf X.K G opLt2) := o2_cmpT hu (fun m n => by simp) o2_lt (fun A s x t y u => fun _ _ _ _ h => PyProof.Rows.lt_str h) (fun A s x t y u => Ob.RcOp.lt_int _ _ _ _) Ob.RcOp.tuples_lt fun _ _ => rfl
theorem o2_le2 (hu : X.A.units + 100 < cLine) : OpR X (compareOp .LtE) (rOf X.K G opLe2) := o2_cmpT hu (fun m n => by simp) o2_le (fun A s x t y u => fun _ _ _ _ h => PySem.P.le_str h) (fun A s x t y u => Ob.RcOp.le_int _ _ _ _) Ob.RcOp.tuples_le fun _ _ => rfl
theorem o2_gt2 (hu : X.A.units + 100 < cLine) : OpR X (compareOp .Gt) (rOf X.K G opGt2) := o2_cmpT hu (fun m n => by simp) o2_gt (fun A s x t y u => fun _ _ _ _ h => PySem.P.gt_str h) (fun A s x t y u => Ob.RcOp.gt_int _ _ _ _) Ob.RcOp.tuples_gt fun _ _ => rfl
theorem o2_ge2 (hu : X.A.units + 100 < cLine) : OpR X (compareOp .GtE) (rOf X.K G opGe2) := o2_cmpT hu (fun m n => by simp) o2_ge (fun A s x t y u => fun _ _ _ _ h => PySem.P.ge_str h) (fun A s x t y u => Ob.RcOp.ge_int _ _ _ _) Ob.RcOp.tuples_ge fun _ _ => rfl
end
end Mp

set_option Elab.async false
set_option linter.all false
set_option maxRecDepth 100000
set_option maxHeartbeats 4000000
/-! Mp: itertools.combinations. -/
namespace MpC
open PySem PySem.Spec
open Sem (wp)
theorem mro_c : mroOf (.type "itertools.combinations") = pure [.type "itertools.combinations", .type "object"] := by rw [mroOf_type]; kernel_rfl
theorem lookup_c_new : typeLookup (.type "itertools.combinations") "__new__" = pure (some (.builtin "itertools.combinations.__new__")) := by rw [typeLookup_type, builtinLookup_eq_fast]; kernel_rfl
theorem sub_c : isSubtype (.type "itertools.combinations") (.type "itertools.combinations") = pure true := by rw [isSubtype_type]; kernel_rfl
theorem slot_c_init : Slot "itertools.combinations" "__init__" "object.__init__" := .of (owner := "object") (n := "__init__") (by rw [typeLookup_type, builtinLookup_eq_fast]; kernel_rfl) (by decide +kernel) (by decide +kernel) (by decide +kernel) (by first | exact .inl (by decide +kernel) | exact .inr (by decide +kernel)) (by rw [isSubtype_type]; kernel_rfl)
theorem called_c : TypeCalled "itertools.combinations" "itertools.combinations.__new__" "object.__init__" := ⟨by decide +kernel, by decide +kernel, ⟨_, _, mro_c⟩, madeBy_type mro_c lookup_c_new (by decide +kernel), by decide +kernel, sub_c, slot_c_init⟩
theorem typeCall_c (a b : Value) : checkTypeCall "itertools.combinations" ⟨[a, b], []⟩ = pure () := by kernel_rfl
theorem newCall_c (a b : Value) : checkBuiltinCall "itertools.combinations.__new__" ⟨[.type "itertools.combinations", a, b], []⟩ = pure () := by kernel_rfl
theorem entry_c_new : entryFor table "itertools.combinations.__new__" = some Builtin.«itertools.combinations.__new__» := entryFor_of_tree (by kernel_rfl)
theorem entry_c_next : entryFor table "itertools.combinations.__next__" = some Builtin.«itertools.combinations.__next__» := entryFor_of_tree (by kernel_rfl)
theorem slot_c_iter : Slot "itertools.combinations" "__iter__" "itertools.combinations.__iter__" := .of (owner := "itertools.combinations") (n := "__iter__") (by rw [typeLookup_type, builtinLookup_eq_fast]; kernel_rfl) (by decide +kernel) (by decide +kernel) (by decide +kernel) (by first | exact .inl (by decide +kernel) | exact .inr (by decide +kernel)) sub_c
theorem slot_c_next : Slot "itertools.combinations" "__next__" "itertools.combinations.__next__" := .of (owner := "itertools.combinations") (n := "__next__") (by rw [typeLookup_type, builtinLookup_eq_fast]; kernel_rfl) (by decide +kernel) (by decide +kernel) (by decide +kernel) (by first | exact .inl (by decide +kernel) | exact .inr (by decide +kernel)) sub_c
theorem entry_c_iter : entryFor table "itertools.combinations.__iter__" = some Builtin.«dict_keyiterator.__iter__» := entryFor_alias (id' := "dict_keyiterator.__iter__") (by kernel_rfl) (by first | rfl | decide +kernel | (unfold String.splitOn; simp +decide [String.splitOnAux])) (by decide +kernel) (by kernel_rfl)
theorem owner_c : Manifest.owners.lookup (String.ofList ['s', 'n', 'o', 'i', 't', 'a', 'n', 'i', 'b', 'm', 'o', 'c', '.', 's', 'l', 'o', 'o', 't', 'r', 'e', 't', 'i'].reverse) = some Manifest.sig_itertools_combinations := by kernel_rfl
theorem args_c_iter (a : Value) : argsOk "itertools.combinations.__iter__" ⟨[a], []⟩ := by unfold argsOk; rw [signature?_of (id := "itertools.combinations.__iter__") (n := ['_', '_', 'r', 'e', 't', 'i', '_', '_']) (o := ['s', 'n', 'o', 'i', 't', 'a', 'n', 'i', 'b', 'm', 'o', 'c', '.', 's', 'l', 'o', 'o', 't', 'r', 'e', 't', 'i']) (by kernel_rfl) owner_c]; kernel_rfl
theorem args_c_next (a : Value) : argsOk "itertools.combinations.__next__" ⟨[a], []⟩ := by unfold argsOk; rw [signature?_of (id := "itertools.combinations.__next__") (n := ['_', '_', 't', 'x', 'e', 'n', '_', '_']) (o := ['s', 'n', 'o', 'i', 't', 'a', 'n', 'i', 'b', 'm', 'o', 'c', '.', 's', 'l', 'o', 'o', 't', 'r', 'e', 't', 'i']) (by kernel_rfl) owner_c]; kernel_rfl
theorem noDict_c : typeHasDict (.type "itertools.combinations") = false := by decide +kernel
/-- the iterator: the pool, the state, what it gave last, where it stands -/
abbrev IsComb (h : Heap) (it pool : Addr) (st : Int) (last : Value) (idx : List Nat) : Prop := h.get? it = some { cls := .type "itertools.combinations", dict := none, data := .fields (#[.ref pool, rawInt st, last] ++ (idx.map fun (n : Nat) => rawInt n).toArray), slots := #[] }
def nextC (n : Nat) (idx : List Nat) : Option (List Nat) := match (List.range idx.length).reverse.find? fun i => idx.getD i 0 != i + n - idx.length with
  | none => none
  | some i => some (idx.take i ++ (List.range (idx.length - i)).map (idx.getD i 0 + 1 + ·))
section
variable {prog : Program} {w : World} {A : Around} {E : Value → Shared → Prop} {s : Shared}
theorem iter_c {it pool : Addr} {st : Int} {last : Value} {idx : List Nat} {Q : Value → Shared → Prop} (hit : IsComb s.heap it pool st last idx) (h : Q (.ref it) s) : wpAny (model prog w) A (pyIter (.ref it)) Q E s := by
  have hT : s.TypeIs (.ref it) "itertools.combinations" := ⟨_, hit, rfl⟩
  refine wpAny_pyIter_slot hT slot_c_iter (wpAny_call_entry slot_c_iter hT entry_c_iter ?_ (args_c_iter _))
  show wpAny _ _ (ret (.ref it)) _ _ s; exact wpAny_pure ⟨_, rfl, "itertools.combinations", _, hT, slot_c_next.lookup, h⟩
theorem numbers_back (idx : List Nat) (a b c : Value) (f : Value → Nat) (hf : ∀ k : Nat, f (rawInt k) = k) : List.map f (List.drop 3 (#[a, b, c] ++ (idx.map fun (n : Nat) => rawInt n).toArray : Array Value).toList) = idx := by
  have e : List.drop 3 (#[a, b, c] ++ (idx.map fun (n : Nat) => rawInt n).toArray : Array Value).toList = idx.map fun (n : Nat) => rawInt n := by simp
  rw [e, List.map_map]
  conv => rhs; rw [← List.map_id idx]
  exact List.map_congr_left fun k _ => hf k
end
end MpC

set_option Elab.async false
set_option linter.all false
set_option maxRecDepth 100000
set_option maxHeartbeats 4000000
/-! Mp: itertools.combinations, a step. -/
namespace MpC
open PySem PySem.Spec
open Sem (wp)
section
variable {prog : Program} {w : World} {A : Around} {E : Value → Shared → Prop} {s : Shared}
theorem f0 (a b c : Value) (xs : Array Value) : (#[a, b, c] ++ xs)[0]? = some a := by rw [Array.getElem?_append_left (show 0 < (#[a, b, c] : Array Value).size from by show 0 < 3; decide)] <;> rfl
theorem f1 (a b c : Value) (xs : Array Value) : (#[a, b, c] ++ xs)[1]? = some b := by rw [Array.getElem?_append_left (show 1 < (#[a, b, c] : Array Value).size from by show 1 < 3; decide)] <;> rfl
theorem f2 (a b c : Value) (xs : Array Value) : (#[a, b, c] ++ xs)[2]? = some c := by rw [Array.getElem?_append_left (show 2 < (#[a, b, c] : Array Value).size from by show 2 < 3; decide)] <;> rfl
theorem set1 (a b c v : Value) (xs : List Value) : (#[a, b, c] ++ xs.toArray).setIfInBounds 1 v = #[a, v, c] ++ xs.toArray := Array.toList_inj.mp (by simp)
theorem set2 (a b c v : Value) (xs : List Value) : (#[a, b, c] ++ xs.toArray).setIfInBounds 2 v = #[a, b, v] ++ xs.toArray := Array.toList_inj.mp (by simp)
theorem hand_out {it pool : Addr} {st : Int} {last : Value} {idx : List Nat} {its : List Value} {n : Nat} {Q : Value → Shared → Prop} (hit : IsComb s.heap it pool st last idx) (hp : s.heap.get? pool = some { cls := .type "tuple", data := .seq its.toArray n }) (hl : idx.length ≤ sizeLine)
    (hQ : ∀ h', IsComb h' it pool st (.ref s.heap.objs.size) idx → h'.get? s.heap.objs.size = some { cls := .type "tuple", data := .seq (idx.map fun i => its.getD i .none).toArray } → (∀ b o, b ≠ it → s.heap.get? b = some o → h'.get? b = some o) → Q (.ref s.heap.objs.size) { s with heap := h' }) :
    wpAny (model prog w) A (do
      let result ← (do let items ← Builtin.Itertools.itPoolItems (.ref pool); newTuple (idx.map fun i => items.getD i .none))
      let before ← field (.ref it) 2
      setField (.ref it) 2 result
      letGo [before] [result]
      ret result) (fun fin s' => ∃ v, fin = .done (.ret v) ∧ Q v s') E s := by
  refine wpAny_bind (wpAny_bind ?_)
  unfold Builtin.Itertools.itPoolItems
  refine wpAny_bind (wpAny_seqItems hp rfl ?_)
  refine wpAny_pure ?_
  show wpAny _ _ (newTuple (idx.map fun i => its.toArray.getD i .none)) _ _ _
  have e : (idx.map fun i => its.toArray.getD i .none) = idx.map fun i => its.getD i .none := List.map_congr_left fun i _ => by simp
  rw [e]
  have hlt : it < s.heap.objs.size := Heap.lt_size hit
  refine wpAny_newTuple ?_ (by rw [List.length_map]; exact hl)
  have hit1 : IsComb (s.heap.push { cls := .type "tuple", data := .seq (idx.map fun i => its.getD i .none).toArray }) it pool st last idx := Heap.get?_push_of_some _ hit
  refine wpAny_bind (wpAny_field hit1 rfl (f2 _ _ _ _) ?_)
  refine wpAny_bind (wpAny_setField hit1 rfl (by simp) ?_)
  refine wpAny_bind (wpAny_letGo ?_)
  refine wpAny_pure ⟨_, rfl, hQ _ ?_ ?_ fun b o hb q => ?_⟩
  · have z := Heap.get?_update_self (Obj.mapFields fun x => x.setIfInBounds 2 (.ref s.heap.objs.size)) hit1 rfl
    exact z.trans (congrArg (fun d => some ({ cls := .type "itertools.combinations", dict := none, data := .fields d, slots := #[] } : Obj)) (set2 _ _ _ _ _))
  · rw [Heap.get?_update_ne _ _ _ _ (Nat.ne_of_gt hlt)]
    exact Heap.get?_push_size _ rfl
  · rw [Heap.get?_update_ne _ _ _ _ hb]
    exact Heap.get?_push_of_some _ q
theorem next_first {it pool : Addr} {last : Value} {idx : List Nat} {its : List Value} {n : Nat} {Q : Option Value → Shared → Prop} (hit : IsComb s.heap it pool 0 last idx) (hp : s.heap.get? pool = some { cls := .type "tuple", data := .seq its.toArray n }) (hne : pool ≠ it) (hl : idx.length ≤ sizeLine)
    (hQ : ∀ h', IsComb h' it pool 1 (.ref s.heap.objs.size) idx → h'.get? s.heap.objs.size = some { cls := .type "tuple", data := .seq (idx.map fun i => its.getD i .none).toArray } → (∀ b o, b ≠ it → s.heap.get? b = some o → h'.get? b = some o) → Q (some (.ref s.heap.objs.size)) { s with heap := h' }) :
    wpAny (model prog w) A (pyNext (.ref it)) Q E s := by
  have hT : s.TypeIs (.ref it) "itertools.combinations" := ⟨_, hit, rfl⟩
  unfold pyNext
  refine wpAny_bind (wpAny_attempt (wpAny_callSpecial?_slot (name := Str.ofString "__next__") hT slot_c_next (wpAny_call_entry slot_c_next hT entry_c_next ?_ (args_c_next _))))
  show wpAny _ _ (field (.ref it) 0 >>= _) _ _ _
  refine wpAny_bind (wpAny_field hit rfl (f0 _ _ _ _) ?_)
  show wpAny _ _ (Builtin.Itertools.itNumbersFrom (.ref it) 3 >>= _) _ _ _
  unfold Builtin.Itertools.itNumbersFrom
  refine wpAny_bind (wpAny_bind (wpAny_load hit (wpAny_pure ?_)))
  rw [numbers_back idx _ _ _ _ (fun k => Int.toNat_natCast k)]
  show wpAny _ _ (Builtin.Itertools.itIntField (.ref it) 1 >>= _) _ _ _
  unfold Builtin.Itertools.itIntField
  refine wpAny_bind (wpAny_bind (wpAny_field hit rfl (f1 _ _ _ _) (wpAny_pure ?_)))
  show wpAny _ _ (setField (.ref it) 1 (rawInt 1) >>= _) _ _ _
  refine wpAny_bind (wpAny_setField hit rfl (by simp) ?_)
  have hit1 : IsComb (s.heap.update it (Obj.mapFields fun x => x.setIfInBounds 1 (rawInt 1))) it pool 1 last idx := by
    have z := Heap.get?_update_self (Obj.mapFields fun x => x.setIfInBounds 1 (rawInt 1)) hit rfl
    exact z.trans (congrArg (fun d => some ({ cls := .type "itertools.combinations", dict := none, data := .fields d, slots := #[] } : Obj)) (set1 _ _ _ _ _))
  have hsz : (s.heap.update it (Obj.mapFields fun x => x.setIfInBounds 1 (rawInt 1))).objs.size = s.heap.objs.size := Heap.size_update ..
  have hp1 : (s.heap.update it (Obj.mapFields fun x => x.setIfInBounds 1 (rawInt 1))).get? pool = some { cls := .type "tuple", data := .seq its.toArray n } := by rw [Heap.get?_update_ne _ _ _ _ hne]; exact hp
  refine hand_out (s := { s with heap := s.heap.update it (Obj.mapFields fun x => x.setIfInBounds 1 (rawInt 1)) }) hit1 hp1 hl fun h' x1 x2 x3 => wpAny_pure ?_
  have x1 : IsComb h' it pool 1 (.ref (s.heap.update it (Obj.mapFields fun x => x.setIfInBounds 1 (rawInt 1))).objs.size) idx := x1
  show Q (some (.ref (s.heap.update it (Obj.mapFields fun x => x.setIfInBounds 1 (rawInt 1))).objs.size)) _
  have x2 : h'.get? (s.heap.update it (Obj.mapFields fun x => x.setIfInBounds 1 (rawInt 1))).objs.size = some { cls := .type "tuple", data := .seq (idx.map fun i => its.getD i .none).toArray } := x2
  rw [hsz] at x1 x2 ⊢
  exact hQ h' x1 x2 fun b o hb q => x3 b o hb (by show (s.heap.update it _).get? b = some o; rw [Heap.get?_update_ne _ _ _ _ hb]; exact q)
theorem next_more {it pool : Addr} {last : Value} {idx jdx : List Nat} {its : List Value} {n : Nat} {Q : Option Value → Shared → Prop} (hit : IsComb s.heap it pool 1 last idx) (hp : s.heap.get? pool = some { cls := .type "tuple", data := .seq its.toArray n }) (hne : pool ≠ it) (hl : jdx.length ≤ sizeLine) (hj : nextC its.length idx = some jdx)
    (hQ : ∀ h', IsComb h' it pool 1 (.ref s.heap.objs.size) jdx → h'.get? s.heap.objs.size = some { cls := .type "tuple", data := .seq (jdx.map fun i => its.getD i .none).toArray } → (∀ b o, b ≠ it → s.heap.get? b = some o → h'.get? b = some o) → Q (some (.ref s.heap.objs.size)) { s with heap := h' }) :
    wpAny (model prog w) A (pyNext (.ref it)) Q E s := by
  have hT : s.TypeIs (.ref it) "itertools.combinations" := ⟨_, hit, rfl⟩
  unfold pyNext
  refine wpAny_bind (wpAny_attempt (wpAny_callSpecial?_slot (name := Str.ofString "__next__") hT slot_c_next (wpAny_call_entry slot_c_next hT entry_c_next ?_ (args_c_next _))))
  show wpAny _ _ (field (.ref it) 0 >>= _) _ _ _
  refine wpAny_bind (wpAny_field hit rfl (f0 _ _ _ _) ?_)
  show wpAny _ _ (Builtin.Itertools.itNumbersFrom (.ref it) 3 >>= _) _ _ _
  unfold Builtin.Itertools.itNumbersFrom
  refine wpAny_bind (wpAny_bind (wpAny_load hit (wpAny_pure ?_)))
  rw [numbers_back idx _ _ _ _ (fun k => Int.toNat_natCast k)]
  show wpAny _ _ (Builtin.Itertools.itIntField (.ref it) 1 >>= _) _ _ _
  unfold Builtin.Itertools.itIntField
  refine wpAny_bind (wpAny_bind (wpAny_field hit rfl (f1 _ _ _ _) (wpAny_pure ?_)))
  show wpAny _ _ (Builtin.Itertools.itPoolItems (.ref pool) >>= _) _ _ _
  unfold Builtin.Itertools.itPoolItems
  refine wpAny_bind (wpAny_bind (wpAny_seqItems hp rfl (wpAny_pure ?_)))
  show wpAny _ _ (match nextC its.toArray.size idx with
    | some next => (Builtin.Itertools.itSetNumbersFrom (.ref it) 3 next >>= fun _ => (do
        let result ← (do let items ← Builtin.Itertools.itPoolItems (.ref pool); newTuple (next.map fun i => items.getD i .none))
        let before ← field (.ref it) 2
        setField (.ref it) 2 result
        letGo [before] [result]
        ret result))
    | none => (do setField (.ref it) 1 (rawInt 2); Builtin.Itertools.itStop)) _ _ _
  rw [show its.toArray.size = its.length from List.size_toArray, hj]
  have ext3 : ∀ (a b c : Value) (xs ys : List Value), ((#[a, b, c] ++ xs.toArray : Array Value).extract 0 3 ++ ys.toArray) = #[a, b, c] ++ ys.toArray := fun a b c xs ys => Array.toList_inj.mp (by simp)
  have hsz : (s.heap.update it (Obj.mapFields fun fs => fs.extract 0 3 ++ (jdx.map fun (n : Nat) => rawInt n).toArray)).objs.size = s.heap.objs.size := Heap.size_update ..
  have hit1 : IsComb (s.heap.update it (Obj.mapFields fun fs => fs.extract 0 3 ++ (jdx.map fun (n : Nat) => rawInt n).toArray)) it pool 1 last jdx := by
    have z := Heap.get?_update_self (Obj.mapFields fun fs => fs.extract 0 3 ++ (jdx.map fun (n : Nat) => rawInt n).toArray) hit rfl
    exact z.trans (congrArg (fun d => some ({ cls := .type "itertools.combinations", dict := none, data := .fields d, slots := #[] } : Obj)) (ext3 _ _ _ _ _))
  have hp1 : (s.heap.update it (Obj.mapFields fun fs => fs.extract 0 3 ++ (jdx.map fun (n : Nat) => rawInt n).toArray)).get? pool = some { cls := .type "tuple", data := .seq its.toArray n } := by rw [Heap.get?_update_ne _ _ _ _ hne]; exact hp
  refine wpAny_bind ?_
  unfold Builtin.Itertools.itSetNumbersFrom
  refine wpAny_updateFields hit rfl ?_ ?_
  · refine hand_out (s := { s with heap := s.heap.update it (Obj.mapFields fun fs => fs.extract 0 3 ++ (jdx.map fun (n : Nat) => rawInt n).toArray) }) hit1 hp1 hl fun h' x1 x2 x3 => wpAny_pure ?_
    have x1 : IsComb h' it pool 1 (.ref (s.heap.update it (Obj.mapFields fun fs => fs.extract 0 3 ++ (jdx.map fun (n : Nat) => rawInt n).toArray)).objs.size) jdx := x1
    show Q (some (.ref (s.heap.update it (Obj.mapFields fun fs => fs.extract 0 3 ++ (jdx.map fun (n : Nat) => rawInt n).toArray)).objs.size)) _
    have x2 : h'.get? (s.heap.update it (Obj.mapFields fun fs => fs.extract 0 3 ++ (jdx.map fun (n : Nat) => rawInt n).toArray)).objs.size = some { cls := .type "tuple", data := .seq (jdx.map fun i => its.getD i .none).toArray } := x2
    rw [hsz] at x1 x2 ⊢
    exact hQ h' x1 x2 fun b o hb q => x3 b o hb (by show (s.heap.update it _).get? b = some o; rw [Heap.get?_update_ne _ _ _ _ hb]; exact q)
  · rw [ext3]
    simp
    omega
theorem stop_at {α : Type} {P : α → Shared → Prop} {E' : Value → Shared → Prop} (hh : A.handled = none) (hE : ∀ h' e, (∀ b o, s.heap.get? b = some o → h'.get? b = some o) → (∃ o, h'.get? e = some o ∧ o.cls = .type "StopIteration") → E' (.ref e) { s with heap := h' }) : wpAny (model prog w) A (Builtin.Itertools.itStop (α := α)) P E' s := by
  unfold Builtin.Itertools.itStop
  refine wpAny_bind ?_; simp only [newExc, newTuple]; refine wpAny_bind (wpAny_newObj_type ?_ (by size_fits))
  refine wpAny_bind (m := firstArgMember _ _) (wpAny_of_eq (a := Value.none) (by first | rfl | (simp only [firstArgMember]; rfl)) ?_); refine wpAny_newObj_type ?_ (by size_fits); simp only [raiseNew]; refine wpAny_bind (wpAny_handled ?_)
  rw [hh]; refine wpAny_bind (wpAny_pure (wpAny_throw ?_))
  exact hE _ _ (fun b o q => Heap.get?_push_of_some _ (Heap.get?_push_of_some _ q)) ⟨_, Heap.get?_push_size _ rfl, rfl⟩
theorem next_stop {it pool : Addr} {st : Int} {last : Value} {idx : List Nat} {its : List Value} {n : Nat} {Q : Option Value → Shared → Prop} (hh : A.handled = none) (hit : IsComb s.heap it pool st last idx) (hp : s.heap.get? pool = some { cls := .type "tuple", data := .seq its.toArray n })
    (hj : st = 2 ∨ (st = 1 ∧ nextC its.length idx = none)) (hQ : ∀ h', (∀ b o, b ≠ it → s.heap.get? b = some o → h'.get? b = some o) → Q none { s with heap := h' }) : wpAny (model prog w) A (pyNext (.ref it)) Q E s := by
  have hT : s.TypeIs (.ref it) "itertools.combinations" := ⟨_, hit, rfl⟩
  have fin : ∀ (h0 : Heap), (∀ b o, b ≠ it → s.heap.get? b = some o → h0.get? b = some o) → ∀ (P : PySem.Fin → Shared → Prop), wpAny (model prog w) A.in1 (Builtin.Itertools.itStop (α := PySem.Fin)) P (fun e s' => wpAny (model prog w) A (do let b ← isInstance e (.type "StopIteration"); if b = true then pure none else throw e) Q E s') { s with heap := h0 } := by
    intro h0 k P
    refine stop_at (s := { s with heap := h0 }) (show A.in1.handled = none from hh) fun h' e k2 x => ?_
    obtain ⟨o, ho, hc⟩ := x
    exact wpAny_bind (wpAny_isInstance (T := "StopIteration") (b := true) ⟨o, ho, hc⟩ isSubtype_stop (wpAny_pure (hQ h' fun b o hb q => k2 b o (k b o hb q))))
  unfold pyNext
  refine wpAny_bind (wpAny_attempt (wpAny_callSpecial?_slot (name := Str.ofString "__next__") hT slot_c_next (wpAny_call_entry slot_c_next hT entry_c_next ?_ (args_c_next _))))
  show wpAny _ _ (field (.ref it) 0 >>= _) _ _ _
  refine wpAny_bind (wpAny_field hit rfl (f0 _ _ _ _) ?_)
  show wpAny _ _ (Builtin.Itertools.itNumbersFrom (.ref it) 3 >>= _) _ _ _
  unfold Builtin.Itertools.itNumbersFrom
  refine wpAny_bind (wpAny_bind (wpAny_load hit (wpAny_pure ?_)))
  rw [numbers_back idx _ _ _ _ (fun k => Int.toNat_natCast k)]
  show wpAny _ _ (Builtin.Itertools.itIntField (.ref it) 1 >>= _) _ _ _
  unfold Builtin.Itertools.itIntField
  refine wpAny_bind (wpAny_bind (wpAny_field hit rfl (f1 _ _ _ _) (wpAny_pure ?_)))
  rcases hj with e | ⟨e, hj⟩
  · subst e
    show wpAny _ _ (rule _ >>= fun _ => Builtin.Itertools.itStop) _ _ _
    refine wpAny_bind (wpAny_rule ?_)
    exact fin s.heap (fun _ _ _ q => q) _
  · subst e
    show wpAny _ _ (Builtin.Itertools.itPoolItems (.ref pool) >>= _) _ _ _
    unfold Builtin.Itertools.itPoolItems
    refine wpAny_bind (wpAny_bind (wpAny_seqItems hp rfl (wpAny_pure ?_)))
    show wpAny _ _ (match nextC its.toArray.size idx with
      | some next => (Builtin.Itertools.itSetNumbersFrom (.ref it) 3 next >>= fun _ => (do
          let result ← (do let items ← Builtin.Itertools.itPoolItems (.ref pool); newTuple (next.map fun i => items.getD i .none))
          let before ← field (.ref it) 2
          setField (.ref it) 2 result
          letGo [before] [result]
          ret result))
      | none => (do setField (.ref it) 1 (rawInt 2); Builtin.Itertools.itStop)) _ _ _
    rw [show its.toArray.size = its.length from List.size_toArray, hj]
    refine wpAny_bind (wpAny_setField hit rfl (by simp) ?_)
    exact fin _ (fun b o hb q => by rw [Heap.get?_update_ne _ _ _ _ hb]; exact q) _
end
end MpC

set_option Elab.async false
set_option linter.all false
set_option maxRecDepth 100000
set_option maxHeartbeats 4000000
/-! Mp: itertools.combinations, made and walked. -/
namespace MpC
open PySem PySem.Spec PyProof.Rows
open Sem (wp)
theorem meets_c (l : Addr) (items : List Value) (n : Nat) (dct : Option Addr) (sl : Array (Option Value)) (r : Nat) (t : Tok) (hr : r ≤ 1048576) (hz : items.length ≤ sizeLine) : Meets (Builtin.«itertools.combinations.__new__» ⟨[.type "itertools.combinations", .ref l, .int r t], []⟩) (fun _ R s => s.heap.get? l = some { cls := .type "list", dict := dct, data := .seq items.toArray n, slots := sl } ∧
    R (.ok (.ret (.ref (s.heap.objs.size + 2)))) { s with heap := ((((s.heap.push (seqObj "list" #[] 0)).update s.heap.objs.size (Obj.mapSeq (· ++ items.toArray))).push { cls := .type "tuple", data := .seq items.toArray }).push { cls := .type "itertools.combinations", data := .fields (#[.ref (s.heap.objs.size + 1), rawInt (if r > items.length then 2 else 0), .none] ++ ((List.range r).map fun (n : Nat) => rawInt n).toArray) }) }) :=
  .of_wp fun prog w A R s h => by
    obtain ⟨hp, g, d, tk, os⟩ := s
    obtain ⟨hl, h⟩ := h
    have hsub := sub_c
    have hsub2 : isSubtype (.type "itertools.combinations") (.type ("itertools." ++ "combinations")) = pure true := by
      rw [show ("itertools." ++ "combinations" : String) = "itertools.combinations" from by decide +kernel]
      exact sub_c
    have hd := noDict_c
    have hn : ¬ (((decide ((r : Int) < -(2 ^ 63 : Int)) || decide ((r : Int) ≥ (2 ^ 63 : Int)))) = true) := by
      have a : decide ((r : Int) < -(2 ^ 63 : Int)) = false := decide_eq_false (by omega)
      have b : decide ((r : Int) ≥ (2 ^ 63 : Int)) = false := decide_eq_false (by omega)
      rw [a, b]
      decide
    unfold Builtin.«itertools.combinations.__new__»
    have hL : Heap.IsList (Shared.heap ⟨hp, g, d, tk, os⟩) l items.toArray := ⟨_, hl, rfl, n, rfl⟩
    have n0 : ¬ ((r : Int) < 0) := by omega
    have n1 : ¬ (Builtin.Itertools.itTooMany (r : Int) = true) := by unfold Builtin.Itertools.itTooMany; rw [decide_eq_true_eq]; omega
    repeat (first
      | (with_reducible show wpAny _ _ (collect _) _ _ _; refine collect_list hL ?_ hz)
      | (refine wpAny_ite_false (decide_eq_false n0) ?_)
      | wp_step
      | simp only [List.head?_cons, Option.some_or, List.getElem?_cons_succ, List.getElem?_cons_zero, List.length_cons, List.length_nil, List.forIn_nil]
      | (refine wpAny_ite_false (decide_eq_false hn) ?_))
    have z1 : ((hp.push (seqObj "list" #[] 0)).update hp.objs.size (Obj.mapSeq fun x => x ++ items.toArray)).objs.size = hp.objs.size + 1 := by rw [Heap.size_update, size_push']
    rw [if_neg (by rw [List.size_toArray, List.length_append, List.length_map, List.length_range, Int.toNat_natCast, sizeLine_eq]; show ¬ 3 + r > _; omega)]
    simp only [newObjAsIs]
    refine wpAny_bind (wpAny_alloc (wpAny_pure (wpAny_pure ⟨_, rfl, ?_⟩)))
    have h : R (.ok (.ret (.ref (hp.objs.size + 2)))) ⟨((((hp.push (seqObj "list" #[] 0)).update hp.objs.size (Obj.mapSeq (· ++ items.toArray))).push { cls := .type "tuple", data := .seq items.toArray }).push { cls := .type "itertools.combinations", data := .fields (#[.ref (hp.objs.size + 1), rawInt (if r > items.length then 2 else 0), .none] ++ ((List.range r).map fun (n : Nat) => rawInt n).toArray) }), g, d, tk, os⟩ := h
    have z2 : (((hp.push (seqObj "list" #[] 0)).update hp.objs.size (Obj.mapSeq fun x => x ++ items.toArray)).push { cls := .type "tuple", data := .seq items.toArray }).objs.size = hp.objs.size + 2 := by rw [size_push', z1]
    have e3 : ∀ (a b c : Value) (L : List Value), ([a, b, c] ++ L).toArray = #[a, b, c] ++ L.toArray := fun a b c L => Array.toList_inj.mp (by simp)
    show R (.ok (.ret (.ref (((hp.push (seqObj "list" #[] 0)).update hp.objs.size (Obj.mapSeq fun x => x ++ items.toArray)).push { cls := .type "tuple", data := .seq items.toArray }).objs.size))) ⟨((((hp.push (seqObj "list" #[] 0)).update hp.objs.size (Obj.mapSeq fun x => x ++ items.toArray)).push { cls := .type "tuple", data := .seq items.toArray }).push { cls := .type "itertools.combinations", data := .fields ([Value.ref ((hp.push (seqObj "list" #[] 0)).update hp.objs.size (Obj.mapSeq fun x => x ++ items.toArray)).objs.size, rawInt (if (r : Int).toNat > items.length then 2 else 0), Value.none] ++ List.map (fun i => rawInt (i : Nat)) (List.range (r : Int).toNat)).toArray }), g, d, tk, os⟩
    rw [z1, z2, e3, Int.toNat_natCast]
    exact h
theorem meets_cT (l : Addr) (items : List Value) (n : Nat) (dct : Option Addr) (sl : Array (Option Value)) (r : Nat) (t : Tok) (hr : r ≤ 1048576) (hz : items.length ≤ sizeLine) : Meets (Builtin.«itertools.combinations.__new__» ⟨[.type "itertools.combinations", .ref l, .int r t], []⟩) (fun _ R s => s.heap.get? l = some { cls := .type "tuple", dict := dct, data := .seq items.toArray n, slots := sl } ∧
    R (.ok (.ret (.ref (s.heap.objs.size + 2)))) { s with heap := ((((s.heap.push (seqObj "list" #[] 0)).update s.heap.objs.size (Obj.mapSeq (· ++ items.toArray))).push { cls := .type "tuple", data := .seq items.toArray }).push { cls := .type "itertools.combinations", data := .fields (#[.ref (s.heap.objs.size + 1), rawInt (if r > items.length then 2 else 0), .none] ++ ((List.range r).map fun (n : Nat) => rawInt n).toArray) }) }) :=
  .of_wp fun prog w A R s h => by
    obtain ⟨hp, g, d, tk, os⟩ := s
    obtain ⟨hl, h⟩ := h
    have hsub := sub_c
    have hsub2 : isSubtype (.type "itertools.combinations") (.type ("itertools." ++ "combinations")) = pure true := by
      rw [show ("itertools." ++ "combinations" : String) = "itertools.combinations" from by decide +kernel]
      exact sub_c
    have hd := noDict_c
    have hn : ¬ (((decide ((r : Int) < -(2 ^ 63 : Int)) || decide ((r : Int) ≥ (2 ^ 63 : Int)))) = true) := by
      have a : decide ((r : Int) < -(2 ^ 63 : Int)) = false := decide_eq_false (by omega)
      have b : decide ((r : Int) ≥ (2 ^ 63 : Int)) = false := decide_eq_false (by omega)
      rw [a, b]
      decide
    unfold Builtin.«itertools.combinations.__new__»
    have hL := hl
    have n0 : ¬ ((r : Int) < 0) := by omega
    have n1 : ¬ (Builtin.Itertools.itTooMany (r : Int) = true) := by unfold Builtin.Itertools.itTooMany; rw [decide_eq_true_eq]; omega
    repeat (first
      | (with_reducible show wpAny _ _ (collect _) _ _ _; refine Mp.gather_tup hL rfl rfl hz ?_)
      | (refine wpAny_ite_false (decide_eq_false n0) ?_)
      | wp_step
      | simp only [List.head?_cons, Option.some_or, List.getElem?_cons_succ, List.getElem?_cons_zero, List.length_cons, List.length_nil, List.forIn_nil]
      | (refine wpAny_ite_false (decide_eq_false hn) ?_))
    have z1 : ((hp.push (seqObj "list" #[] 0)).update hp.objs.size (Obj.mapSeq fun x => x ++ items.toArray)).objs.size = hp.objs.size + 1 := by rw [Heap.size_update, size_push']
    rw [if_neg (by rw [List.size_toArray, List.length_append, List.length_map, List.length_range, Int.toNat_natCast, sizeLine_eq]; show ¬ 3 + r > _; omega)]
    simp only [newObjAsIs]
    refine wpAny_bind (wpAny_alloc (wpAny_pure (wpAny_pure ⟨_, rfl, ?_⟩)))
    have h : R (.ok (.ret (.ref (hp.objs.size + 2)))) ⟨((((hp.push (seqObj "list" #[] 0)).update hp.objs.size (Obj.mapSeq (· ++ items.toArray))).push { cls := .type "tuple", data := .seq items.toArray }).push { cls := .type "itertools.combinations", data := .fields (#[.ref (hp.objs.size + 1), rawInt (if r > items.length then 2 else 0), .none] ++ ((List.range r).map fun (n : Nat) => rawInt n).toArray) }), g, d, tk, os⟩ := h
    have z2 : (((hp.push (seqObj "list" #[] 0)).update hp.objs.size (Obj.mapSeq fun x => x ++ items.toArray)).push { cls := .type "tuple", data := .seq items.toArray }).objs.size = hp.objs.size + 2 := by rw [size_push', z1]
    have e3 : ∀ (a b c : Value) (L : List Value), ([a, b, c] ++ L).toArray = #[a, b, c] ++ L.toArray := fun a b c L => Array.toList_inj.mp (by simp)
    show R (.ok (.ret (.ref (((hp.push (seqObj "list" #[] 0)).update hp.objs.size (Obj.mapSeq fun x => x ++ items.toArray)).push { cls := .type "tuple", data := .seq items.toArray }).objs.size))) ⟨((((hp.push (seqObj "list" #[] 0)).update hp.objs.size (Obj.mapSeq fun x => x ++ items.toArray)).push { cls := .type "tuple", data := .seq items.toArray }).push { cls := .type "itertools.combinations", data := .fields ([Value.ref ((hp.push (seqObj "list" #[] 0)).update hp.objs.size (Obj.mapSeq fun x => x ++ items.toArray)).objs.size, rawInt (if (r : Int).toNat > items.length then 2 else 0), Value.none] ++ List.map (fun i => rawInt (i : Nat)) (List.range (r : Int).toNat)).toArray }), g, d, tk, os⟩
    rw [z1, z2, e3, Int.toNat_natCast]
    exact h
section
variable {prog : Program} {w : World} {A : Around} {E : Value → Shared → Prop} {s : Shared}
theorem made {l : Addr} {items : List Value} {r : Nat} {t : Tok} {Q : Value → Shared → Prop} (hl : s.heap.IsList l items.toArray ∨ s.heap.IsTuple l items.toArray) (hr : r ≤ 1048576) (hz : items.length ≤ sizeLine)
    (h : ∀ h', IsComb h' (s.heap.objs.size + 2) (s.heap.objs.size + 1) (if r > items.length then 2 else 0) .none (List.range r) → h'.get? (s.heap.objs.size + 1) = some { cls := .type "tuple", data := .seq items.toArray } → (∀ b o, s.heap.get? b = some o → h'.get? b = some o) → Q (.ref (s.heap.objs.size + 2)) { s with heap := h' }) :
    wpAny (model prog w) A (call (.type "itertools.combinations") [.ref l, .int r t]) Q E s := by
  have z1 : ((s.heap.push (seqObj "list" #[] 0)).update s.heap.objs.size (Obj.mapSeq (· ++ items.toArray))).objs.size = s.heap.objs.size + 1 := by rw [Heap.size_update, size_push']
  have z2 : (((s.heap.push (seqObj "list" #[] 0)).update s.heap.objs.size (Obj.mapSeq (· ++ items.toArray))).push { cls := .type "tuple", data := .seq items.toArray }).objs.size = s.heap.objs.size + 2 := by rw [size_push', z1]
  have old : ∀ b o, s.heap.get? b = some o → ((s.heap.push (seqObj "list" #[] 0)).update s.heap.objs.size (Obj.mapSeq (· ++ items.toArray))).get? b = some o := fun b o q => by
    rw [Heap.get?_update_ne _ _ _ _ (Nat.ne_of_lt (Heap.lt_size q))]
    exact Heap.get?_push_of_some _ q
  have g1 := Heap.get?_push_size ((s.heap.push (seqObj "list" #[] 0)).update s.heap.objs.size (Obj.mapSeq (· ++ items.toArray))) (o := { cls := .type "tuple", data := .seq items.toArray }) rfl
  rw [z1] at g1
  have g2 := Heap.get?_push_size (((s.heap.push (seqObj "list" #[] 0)).update s.heap.objs.size (Obj.mapSeq (· ++ items.toArray))).push { cls := .type "tuple", data := .seq items.toArray }) (o := { cls := .type "itertools.combinations", data := .fields (#[.ref (s.heap.objs.size + 1), rawInt (if r > items.length then 2 else 0), .none] ++ ((List.range r).map fun (n : Nat) => rawInt n).toArray) }) rfl
  rw [z2] at g2
  have fin := h _ g2 (Heap.get?_push_of_some _ g1) fun b o q => Heap.get?_push_of_some _ (Heap.get?_push_of_some _ (old b o q))
  rcases hl with hl | hl
  · obtain ⟨⟨c, dct, dt, sl⟩, ho, hc, n, hd⟩ := hl
    replace hc : c = .type "list" := hc
    replace hd : dt = .seq items.toArray n := hd
    subst hc hd
    exact callType_new called_c (by decide +kernel) (typeCall_c _ _) (newCall_c _ _) (fun obj => F.args_object_init_3 obj _ _) entry_c_new (meets_c l items n dct sl r t hr hz) ⟨ho, ⟨_, g2, rfl⟩, fin⟩
  · obtain ⟨⟨c, dct, dt, sl⟩, ho, hc, n, hd⟩ := hl
    replace hc : c = .type "tuple" := hc
    replace hd : dt = .seq items.toArray n := hd
    subst hc hd
    exact callType_new called_c (by decide +kernel) (typeCall_c _ _) (newCall_c _ _) (fun obj => F.args_object_init_3 obj _ _) entry_c_new (meets_cT l items n dct sl r t hr hz) ⟨ho, ⟨_, g2, rfl⟩, fin⟩
end
end MpC

set_option Elab.async false
set_option linter.all false
set_option maxRecDepth 100000
set_option maxHeartbeats 4000000
/-! Mp: itertools.combinations walked. -/
namespace Mp
open PySem PySem.Spec PyProof.Rows L2
def combIdx (n : Nat) : Nat → List Nat → Option (List (List Nat))
  | 0, _ => none
  | f + 1, idx => match MpC.nextC n idx with
    | none => some [idx]
    | some j => (combIdx n f j).map (idx :: ·)
def combAll (n r : Nat) : Option (List (List Nat)) := if r > n then some [] else combIdx n 1000000 (List.range r)
def combsW : List W → Option (List W)
  | [x, .int r] => if 0 ≤ r ∧ r ≤ 1048576 then (match x with
    | .lst xs => (combAll xs.length r.toNat).map fun l => l.map fun idx => W.tup (idx.map fun i => xs.getD i .non)
    | .tup xs => (combAll xs.length r.toNat).map fun l => l.map fun idx => W.tup (idx.map fun i => xs.getD i .non)
    | _ => none) else none
  | _ => none
/-- the rows of places, one behind another -/
structure Chain (n r : Nat) (L : List (List Nat)) : Prop where
  first : L ≠ [] → L[0]? = some (List.range r) ∧ r ≤ n
  none : L = [] → r > n
  next : ∀ k a, L[k]? = some a → MpC.nextC n a = L[k + 1]? ∧ a.length = r
theorem nextC_len {n : Nat} {a b : List Nat} (h : MpC.nextC n a = some b) : b.length = a.length := by
  unfold MpC.nextC at h
  split at h
  · cases h
  · rename_i i hi
    cases h
    have hm := List.mem_of_find?_eq_some hi
    rw [List.mem_reverse, List.mem_range] at hm
    rw [List.length_append, List.length_take, List.length_map, List.length_range]
    omega
theorem combIdx_chain {n : Nat} : ∀ (f : Nat) (idx : List Nat) (L : List (List Nat)), combIdx n f idx = some L → L[0]? = some idx ∧ ∀ k a, L[k]? = some a → MpC.nextC n a = L[k + 1]? ∧ a.length = idx.length
  | 0, idx, L, h => by cases h
  | f + 1, idx, L, h => by
    unfold combIdx at h
    split at h
    · rename_i e
      cases h
      refine ⟨rfl, fun k a hk => ?_⟩
      cases k with
      | zero =>
        have : idx = a := by simpa using hk
        subst this
        exact ⟨e, rfl⟩
      | succ k => simp at hk
    · rename_i j e
      cases eq : combIdx n f j with
      | none => rw [eq] at h; cases h
      | some M =>
        rw [eq] at h
        cases h
        obtain ⟨h0, h1⟩ := combIdx_chain f j M eq
        refine ⟨rfl, fun k a hk => ?_⟩
        cases k with
        | zero =>
          have : idx = a := by simpa using hk
          subst this
          exact ⟨by rw [e]; exact h0.symm, rfl⟩
        | succ k =>
          obtain ⟨x1, x2⟩ := h1 k a (by simpa using hk)
          exact ⟨x1, by rw [x2, nextC_len e]⟩
theorem chain_of {n r : Nat} {L : List (List Nat)} (h : combAll n r = some L) : Chain n r L := by
  unfold combAll at h
  split at h
  · rename_i hr
    cases h
    exact ⟨fun z => absurd rfl z, fun _ => hr, fun k a hk => by simp at hk⟩
  · rename_i hr
    obtain ⟨h0, h1⟩ := combIdx_chain _ _ _ h
    refine ⟨fun _ => ⟨h0, by omega⟩, fun z => by rw [z] at h0; simp at h0, fun k a hk => ?_⟩
    obtain ⟨x1, x2⟩ := h1 k a hk
    exact ⟨x1, by rw [x2, List.length_range]⟩
def ItC (vs : List V) (L : List (List Nat)) : It :=
  ⟨fun i _ => i < L.length, fun i H v H' => ∃ T idx, v = .ref T ∧ H T = none ∧ L[i]? = some idx ∧ H' = upd H T (.tup (idx.map fun j => vs.getD j .non)), fun i _ => i = L.length⟩
theorem vals_pick {vs : List V} {us : List Value} (r : Vals vs us) (idx : List Nat) : Vals (idx.map fun j => vs.getD j .non) (idx.map fun j => us.getD j .none) := by
  induction idx with
  | nil => exact .nil
  | cons j idx ih =>
    refine .cons ?_ ih
    show L2.RelV (vs.getD j .non) (us.getD j .none)
    rw [List.getD_eq_getElem?_getD, List.getD_eq_getElem?_getD]
    cases e : vs[j]? with
    | none =>
      have : us[j]? = none := by
        rw [List.getElem?_eq_none_iff] at e ⊢
        rw [← r.length]
        exact e
      rw [this]
      rfl
    | some v =>
      obtain ⟨u, hu, ru⟩ := r.get e
      rw [hu]
      exact ru
theorem turn_c {P : Program} {w : World} {K : PySem.W.Frag} {tg : Expr} {vs : List V} {its : List Value} {r : Nat} {L : List (List Nat)} (it pool : Addr) (hne : pool ≠ it) (hv : Vals vs its) (hr : r ≤ 1048576) (C : Chain its.length r L) :
    Turn P w K tg (ItC vs L) [it, pool] it (fun i h => h.get? pool = some { cls := .type "tuple", data := .seq its.toArray } ∧ ∃ st last idx, MpC.IsComb h it pool st last idx ∧ ((L = [] ∧ st = 2) ∨ (i = 0 ∧ st = 0 ∧ L[0]? = some idx) ∨ ∃ k, i = k + 1 ∧ st = 1 ∧ L[k]? = some idx)) where
  mem := by simp
  obj := fun i h st b hb => by
    obtain ⟨hp, st', last, idx, hit, _⟩ := st
    have e' : b = it ∨ b = pool := by simpa using hb
    rcases e' with z | z
    · rw [z]
      exact ⟨_, hit, fun v q => nomatch q⟩
    · rw [z]
      exact ⟨_, hp, fun v q => nomatch q⟩
  keep := fun i h h' st k => by
    obtain ⟨hp, st', last, idx, hit, x⟩ := st
    exact ⟨k pool (by simp) _ hp, st', last, idx, k it (by simp) _ hit, x⟩
  item := by
    intro X hP hw hK hc i pins s σ H E I hf st hg
    subst hP hw hK
    obtain ⟨hp, st', last, idx, hit, x⟩ := st
    have hg : i < L.length := hg
    have hLne : L ≠ [] := fun z => by rw [z] at hg; simp at hg
    have hlt : it < s.heap.objs.size := Heap.lt_size hit
    have hlp : pool < s.heap.objs.size := Heap.lt_size hp
    have sl : ∀ a : List Nat, a.length = r → a.length ≤ sizeLine := fun a e => by rw [e, sizeLine_eq]; omega
    have fin : ∀ (jdx : List Nat) (h' : Heap), L[i]? = some jdx → MpC.IsComb h' it pool 1 (.ref s.heap.objs.size) jdx → h'.get? s.heap.objs.size = some { cls := .type "tuple", data := .seq (jdx.map fun i => its.getD i .none).toArray } → (∀ b o, b ≠ it → s.heap.get? b = some o → h'.get? b = some o) →
        ∃ u, some (Value.ref s.heap.objs.size) = some u ∧ wpAny (model X.prog X.w) X.A (letOwnedTupleGo tg (.ref it) u) (fun _ s2 => ∃ x H', Inv X pins σ H' s2 ∧ RelV x u ∧ (ItC vs L).yld i H x H' ∧ (s2.heap.get? pool = some { cls := .type "tuple", data := .seq its.toArray } ∧ ∃ st last idx, MpC.IsComb s2.heap it pool st last idx ∧ ((L = [] ∧ st = 2) ∨ (i + 1 = 0 ∧ st = 0 ∧ L[0]? = some idx) ∨ ∃ k, i + 1 = k + 1 ∧ st = 1 ∧ L[k]? = some idx)) ∧ ∀ b ∈ [it, pool], H' b = none) E { s with heap := h' } := by
      intro jdx h' hj x1 x2 x3
      have hl := sl jdx (C.next i jdx hj).2
      refine ⟨_, rfl, go_of (s := { s with heap := h' }) x1 rfl rfl (by decide) ?_⟩
      have new : ObjOk X.prog X.w (upd H s.heap.objs.size (.tup (jdx.map fun j => vs.getD j .non))) h' s.heap.objs.size (.tup (jdx.map fun j => vs.getD j .non)) :=
        ⟨by rw [List.length_map]; exact hl, _, vals_pick hv jdx, ⟨_, x2, rfl, _, rfl⟩⟩
      have I1 : Inv X pins σ (upd H s.heap.objs.size (.tup (jdx.map fun j => vs.getD j .non))) { s with heap := h' } := I.turnedNew (t' := s.toks) (ch := [it, pool]) (fun b o hb q => x3 b o (fun z => hb (by simp [z])) q) hf (Nat.le_refl _) new
      refine ⟨.ref s.heap.objs.size, _, I1, rfl, ⟨_, jdx, rfl, I.hok.fresh (Nat.le_refl _), hj, rfl⟩, ⟨x3 pool _ hne hp, 1, _, jdx, x1, .inr (.inr ⟨i, rfl, rfl, hj⟩)⟩, fun b hb => ?_⟩
      have hb' : b < s.heap.objs.size := by
        have e' : b = it ∨ b = pool := by simpa using hb
        rcases e' with z | z
        · rw [z]; exact hlt
        · rw [z]; exact hlp
      rw [upd_ne (Nat.ne_of_lt hb')]
      exact (hf b hb).1
    rcases x with ⟨z, _⟩ | ⟨z, e, h0⟩ | ⟨k, z, e, hk⟩
    · exact absurd z hLne
    · subst z e
      exact MpC.next_first hit hp hne (sl idx (C.next 0 idx h0).2) fun h' x1 x2 x3 => fin idx h' h0 x1 x2 x3
    · subst z e
      obtain ⟨jdx, hj⟩ : ∃ jdx, L[k + 1]? = some jdx := ⟨_, List.getElem?_eq_getElem hg⟩
      exact MpC.next_more hit hp hne (sl jdx (C.next (k + 1) jdx hj).2) ((C.next k idx hk).1.trans hj) fun h' x1 x2 x3 => fin jdx h' hj x1 x2 x3
  done := by
    intro X hP hw hK hc i pins s σ H E I hf st hg
    subst hP hw hK
    obtain ⟨hp, st', last, idx, hit, x⟩ := st
    have hg : i = L.length := hg
    obtain ⟨f0, f1, f2, f3, f4, f5⟩ := hf it (by simp)
    refine MpC.next_stop (its := its) (I.ok.hd hc) hit hp ?_ fun h' eb => ⟨rfl, I.turned (t' := s.toks) (fun b o hb q => eb b o hb q) f0 f1 f3 f4 f5⟩
    rcases x with ⟨_, e⟩ | ⟨z, _, h0⟩ | ⟨k, z, e, hk⟩
    · exact .inl e
    · have := (List.getElem?_eq_some_iff.mp h0).1
      omega
    · refine .inr ⟨e, ?_⟩
      rw [(C.next k idx hk).1, List.getElem?_eq_none (by omega)]
  self := fun A i s Q E st h => by
    obtain ⟨hp, st', last, idx, hit, x⟩ := st
    exact MpC.iter_c hit h
def iComb (K : PySem.W.Frag) (ta : TA) : TI := fun σ H R => ta σ H fun ws H1 => ∃ a vs r L, ws = [.ref a, .int (r : Nat)] ∧ (SqL K H1 a vs ∨ SqT K H1 a vs) ∧ r ≤ 1048576 ∧ combAll vs.length r = some L ∧ R (ItC vs L) H1
theorem pi_comb {X : Cx} {tg a b : Expr} {ta : TA} {p pos : Pos} {x : Str} (hg : Gl X x) (hm : X.mg x = some (.type "itertools.combinations")) (ha : PA X [a, b] ta) (hdb : (x == ("__debug__" : Str)) = false := by decide)
    (hs : starEach [a, b] X.env = (false, eval a X.env) :: starEach [b] X.env := by rfl) (hpl : (backTo pos (starEach [b] X.env)).any (·.1) = false := by rfl) : PI X tg (.Call (.Name x p) [a, b] [] pos) (iComb X.K ta) := by
  refine ⟨fun pins s σ H R I h => ?_⟩
  refine Call_ (ld_glob I hg hm (PyProof.Rows.callWith_type1 (thn (ha.run pos pins s σ H _ I h) fun us s1 ⟨ws, H1, I1, r1, q1⟩ => ?_) hs hpl) hdb)
  obtain ⟨l, vs, r, L, ex, hq, hr, hL, q⟩ := q1
  subst ex
  obtain ⟨u1, u2, rfl, h1, ⟨t, rfl⟩⟩ := vals2 r1
  cases h1
  have key : ∃ its, Vals vs its ∧ (s1.heap.IsList l its.toArray ∨ s1.heap.IsTuple l its.toArray) ∧ vs.length ≤ sizeLine := by
    rcases hq with hq | hq
    · obtain ⟨its, rv, pl, hz⟩ := I1.list hq
      exact ⟨its, rv, .inl pl.isList, hz⟩
    · obtain ⟨its, rv, pl, hz⟩ := I1.tuple hq
      exact ⟨its, rv, .inr pl, hz⟩
  obtain ⟨its, rv, hob, hz⟩ := key
  have hl := rv.length
  rw [hl] at hL hz
  have C := chain_of hL
  refine MpC.made hob hr hz fun h' hit hpool hk => MpC.iter_c hit ?_
  have I2 : Inv X pins σ H1 { s1 with heap := h' } := I1.kept (t' := s1.toks) hk
  refine ⟨s1.heap.objs.size + 2, [s1.heap.objs.size + 2, s1.heap.objs.size + 1], _, _, H1, rfl, I2, turn_c (s1.heap.objs.size + 2) (s1.heap.objs.size + 1) (Nat.ne_of_lt (Nat.lt_succ_self _)) rv hr C, ⟨hpool, _, _, _, hit, ?_⟩, fun b hb => ?_, q⟩
  · by_cases z : L = []
    · exact .inl ⟨z, if_pos (C.none z)⟩
    · obtain ⟨h0, h1⟩ := C.first z
      exact .inr (.inl ⟨rfl, if_neg (by omega), h0⟩)
  · have e' : b = s1.heap.objs.size + 2 ∨ b = s1.heap.objs.size + 1 := by simpa using hb
    have hle : s1.heap.objs.size ≤ b := by
      rcases e' with z | z
      · rw [z]
        exact Nat.le_add_right _ _
      · rw [z]
        exact Nat.le_add_right _ _
    exact I1.fpOk hle (I1.hok.fresh hle)
theorem reps_pick {K : PySem.W.Frag} {G : Gs} {γ : Ga} {H : Hp} {xs : List W} {vs : List V} (r : Reps K G γ H xs vs) (idx : List Nat) : Reps K G γ H (idx.map fun j => xs.getD j .non) (idx.map fun j => vs.getD j .non) := by
  induction idx with
  | nil => exact .nil
  | cons j idx ih =>
    refine .cons ?_ ih
    show Rep K G γ H (xs.getD j .non) (vs.getD j .non)
    rw [List.getD_eq_getElem?_getD, List.getD_eq_getElem?_getD]
    cases e : xs[j]? with
    | none =>
      have : vs[j]? = none := by
        rw [List.getElem?_eq_none_iff] at e ⊢
        rw [← r.length]
        exact e
      rw [this]
      exact .non
    | some w =>
      obtain ⟨v, hv, rv⟩ := r.get e
      rw [hv]
      exact rv
theorem itOk_comb {K : PySem.W.Frag} {G : Gs} {γ : Ga} {H : Hp} {xs : List W} {vs : List V} {L : List (List Nat)} (q : Reps K G γ H xs vs) : ItOk K G (ItC vs L) (L.map fun idx => W.tup (idx.map fun i => xs.getD i .non)) γ H := by
  refine ⟨fun i γ' H' S hi e _ => ?_, fun γ' H' S e _ => ?_, fun i w γ' H' S x H'' hw e s y => ?_⟩
  · rw [List.length_map] at hi
    exact hi
  · show (L.map _).length = L.length
    rw [List.length_map]
  · obtain ⟨T, idx, rfl, hT, hL, rfl⟩ := y
    rw [List.getElem?_map, hL] at hw
    cases hw
    have ex := Ext.upd (K := K) (G := G) s (o := .tup (idx.map fun j => vs.getD j .non)) hT
    exact ⟨ex, s.upd hT, .tup (.inl ⟨.inl upd_same, s.fresh hT⟩) (((reps_pick q idx).monoW e).mono ex)⟩
section
variable {X : Cx} {G : Gs} {tg a b : Expr} {pos p : Pos} {ga : MA} {x : Str}
theorem si_comb (hm : X.mg x = some (.type "itertools.combinations")) (ha : SA X G [a, b] ga) (hg : Gl X x := by rfl) (hdb : (x == ("__debug__" : Str)) = false := by decide) (hs : starEach [a, b] X.env = (false, eval a X.env) :: starEach [b] X.env := by rfl) (hpl : (backTo pos (starEach [b] X.env)).any (·.1) = false := by rfl) :
    SI X G tg (.Call (.Name x p) [a, b] [] pos) (miAll combsW ga) := by
  refine ⟨fun Wi tk => (pi_comb hg hm (ha.run Wi tk) hdb hs hpl).imp ?_⟩
  rintro σ H R ⟨η, S, γ, he, hs, q⟩
  refine ⟨η, S, γ, he, hs, (PostI.seq q).imp fun v H1 ⟨wx, S1, γ1, e1, r1, s1, q1⟩ => ?_⟩
  unfold combsW at q1
  split at q1
  · rename_i y r
    split at q1
    · rename_i hr
      cases r1 with
      | cons ra r1 =>
      cases r1 with
      | cons rb r1 =>
      cases r1
      cases rb
      have er : ((r.toNat : Nat) : Int) = r := by omega
      split at q1
      · rename_i xs
        cases eL : combAll xs.length r.toNat with
        | none => rw [eL] at q1; exact q1.elim
        | some L =>
          rw [eL] at q1
          cases ra with
          | lst h1 o1 z1 => exact ⟨_, _, r.toNat, L, by rw [er], .inl (SqL.of h1), by omega, by rw [← z1.length]; exact eL, q1 _ γ1 H1 Ext.refl s1 (itOk_comb z1)⟩
      · rename_i xs
        cases eL : combAll xs.length r.toNat with
        | none => rw [eL] at q1; exact q1.elim
        | some L =>
          rw [eL] at q1
          cases ra with
          | tup h1 z1 => exact ⟨_, _, r.toNat, L, by rw [er], .inr h1.sq, by omega, by rw [← z1.length]; exact eL, q1 _ γ1 H1 Ext.refl s1 (itOk_comb z1)⟩
      · exact q1.elim
    · exact q1.elim
  · exact q1.elim
end
/-- a name that the module binds to a built-in type -/
def bltTB (K : PySem.W.Frag) (x : Str) (id : String) : Bool := He.eqO (PySem.W.nsIn K mainGlobals x) (some (some (.type id)))
theorem bltTB_ok {K : PySem.W.Frag} {h : Heap} {mg : Str → Option Value} {x : Str} {id : String} (X : K.In h) (G : h.Ns mainGlobals mg) (c : bltTB K x id = true) : mg x = some (.type id) := PySem.W.mg_of X G (He.eqO_ok c)
end Mp

set_option Elab.async false
set_option linter.all false
set_option maxRecDepth 100000
set_option maxHeartbeats 4000000
/-! Mp: is True, is False. -/
namespace Mp
open PySem PySem.Spec PyProof.Rows L2
def opIsB : O2 := fun x y _ => match x, y with
  | .bl a, .bl b => some (.bl (decide (a = b)))
  | .non, .bl _ => some (.bl false)
  | .int _, .bl _ => some (.bl false)
  | .str _, .bl _ => some (.bl false)
  | .tup _, .bl _ => some (.bl false)
  | .lst _, .bl _ => some (.bl false)
  | .ref _, .bl _ => some (.bl false)
  | _, _ => none
def opNotIsB : O2 := fun x y S => match opIsB x y S with
  | some (.bl b) => some (.bl (!b))
  | _ => none
section
variable {X : Cx} {G : Gs}
theorem isB_val {K : PySem.W.Frag} {γ : Ga} {H : Hp} {S : Store} {wx wy : W} {x y : V} {v u : Value} {b : Bool} (h : opIsB wx wy S = some (.bl b)) (r1 : Rep K G γ H wx x) (r2 : Rep K G γ H wy y) (rx : L2.RelV x v) (ry : L2.RelV y u) : PySem.plainIs v u = true ∧ (v == u) = b := by
  unfold opIsB at h
  split at h
  · rename_i a c
    cases h
    cases r1
    cases r2
    cases (show v = Value.bool a from rx)
    cases (show u = Value.bool c from ry)
    refine ⟨by cases a <;> cases c <;> rfl, ?_⟩
    cases a <;> cases c <;> rfl
  all_goals first
    | (cases h
       cases r2
       cases (show u = Value.bool _ from ry)
       cases r1 <;> first
         | (cases rx; exact ⟨by rfl, by rfl⟩)
         | (obtain ⟨t, rfl⟩ := rx; exact ⟨by rfl, by rfl⟩))
    | cases h
theorem o2_isB : OpR X (compareOp .Is) (rOf X.K G opIsB) := by
  intro pins s σ H x y v u Q I rx ry h
  obtain ⟨wx, wy, S, γ, w, r1, r2, ss, e, k⟩ := h
  have hw : ∃ b, w = .bl b := by
    unfold opIsB at e
    split at e <;> cases e <;> exact ⟨_, rfl⟩
  obtain ⟨b, rfl⟩ := hw
  obtain ⟨hp, he⟩ := isB_val e r1 r2 rx ry
  refine wpAny_is_plain hp ?_
  rw [he]
  exact ⟨.bl b, H, I, rfl, k _ γ H Ext.refl (.bl _) ss⟩
theorem o2_notIsB : OpR X (compareOp .IsNot) (rOf X.K G opNotIsB) := by
  intro pins s σ H x y v u Q I rx ry h
  obtain ⟨wx, wy, S, γ, w, r1, r2, ss, e, k⟩ := h
  unfold opNotIsB at e
  split at e
  · rename_i b eb
    cases e
    obtain ⟨hp, he⟩ := isB_val eb r1 r2 rx ry
    refine wpAny_isNot_plain hp ?_
    rw [he]
    exact ⟨.bl (!b), H, I, rfl, k _ γ H Ext.refl (.bl _) ss⟩
  · cases e
end
/-! bits of naturals -/
def opXor : O2 := fun x y _ => match x, y with
  | .int i, .int j => if 0 ≤ i ∧ 0 ≤ j then some (.int ((i.toNat ^^^ j.toNat : Nat) : Int)) else none
  | _, _ => none
def opAnd : O2 := fun x y _ => match x, y with
  | .int i, .int j => if 0 ≤ i ∧ 0 ≤ j then some (.int ((i.toNat &&& j.toNat : Nat) : Int)) else none
  | _, _ => none
def opShl : O2 := fun x y _ => match x, y with
  | .int i, .int j => if 0 ≤ j ∧ j ≤ 1000000 ∧ i.natAbs < 18446744073709551616 then some (.int (i * 2 ^ j.toNat)) else none
  | _, _ => none
def opShr : O2 := fun x y _ => match x, y with
  | .int i, .int j => if 0 ≤ j ∧ j ≤ 100000 then some (.int (i / 2 ^ j.toNat)) else none
  | _, _ => none
section
variable {X : Cx} {G : Gs}
theorem o2_xor : OpR X (binaryOp .BitXor) (rOf X.K G opXor) := by
  refine op_xor.imp ?_
  rintro x y H Q ⟨wx, wy, S, γ, w, rx, ry, s, h, k⟩
  unfold opXor at h
  split at h
  · cases rx; cases ry
    split at h
    · rename_i hm
      cases h
      exact ⟨_, _, rfl, rfl, by show Q (.int (Builtin.bitXor _ _)) H; rw [Bits.bitXor_pp hm.1 hm.2]; exact k _ γ H Ext.refl (.int _) s⟩
    · cases h
  · cases h
theorem o2_and : OpR X (binaryOp .BitAnd) (rOf X.K G opAnd) := by
  refine op_and.imp ?_
  rintro x y H Q ⟨wx, wy, S, γ, w, rx, ry, s, h, k⟩
  unfold opAnd at h
  split at h
  · cases rx; cases ry
    split at h
    · rename_i hm
      cases h
      exact ⟨_, _, rfl, rfl, by show Q (.int (Builtin.bitAnd _ _)) H; rw [PyProof.Rows.bitAnd_pp hm.1 hm.2]; exact k _ γ H Ext.refl (.int _) s⟩
    · cases h
  · cases h
theorem o2_shl : OpR X (binaryOp .LShift) (rOf X.K G opShl) := by
  refine op_shl.imp ?_
  rintro x y H Q ⟨wx, wy, S, γ, w, rx, ry, s, h, k⟩
  unfold opShl at h
  split at h
  · cases rx; cases ry
    split at h
    · rename_i hm
      cases h
      exact ⟨_, _, rfl, rfl, ⟨hm.1, hm.2.1, hm.2.2⟩, k _ γ H Ext.refl (.int _) s⟩
    · cases h
  · cases h
theorem o2_shr : OpR X (binaryOp .RShift) (rOf X.K G opShr) := by
  refine op_shr.imp ?_
  rintro x y H Q ⟨wx, wy, S, γ, w, rx, ry, s, h, k⟩
  unfold opShr at h
  split at h
  · cases rx; cases ry
    split at h
    · rename_i hm
      cases h
      exact ⟨_, _, rfl, rfl, hm.1, k _ γ H Ext.refl (.int _) s⟩
    · cases h
  · cases h
end
/-! tuples of the module -/
mutual
def cW (K : PySem.W.Frag) : W → Value → Bool
  | .non, .none => true
  | .bl b, .bool c => b == c
  | .int i, .int j _ => decide (i = j)
  | .str s, .str x _ => decide (x = ⟨s.toArray⟩) && (s.all (fun c => decide (c < 0x110000)) && decide (s.length ≤ 16777216))
  | .tup xs, .ref a => (match K.lookup a with
    | some ⟨.type c, _, .seq its _, _⟩ => decide (c = "tuple") && (decide (its.size ≤ 16777216) && cWs K xs its.toList)
    | _ => false)
  | _, _ => false
def cWs (K : PySem.W.Frag) : List W → List Value → Bool
  | [], [] => true
  | w :: ws, v :: vs => cW K w v && cWs K ws vs
  | _, _ => false
end
mutual
theorem cW_ok {K : PySem.W.Frag} {G : Gs} : ∀ {w : W} {u : Value}, cW K w u = true → ∃ v, L2.RelV v u ∧ ∀ γ H, Rep K G γ H w v
  | .non, .none, _ => ⟨.non, rfl, fun _ _ => .non⟩
  | .bl b, .bool c, h => by
    have e : b = c := by simpa [cW] using h
    subst e
    exact ⟨.bl b, rfl, fun _ _ => .bl b⟩
  | .int i, .int j t, h => by
    have e : i = j := by simpa [cW] using h
    subst e
    exact ⟨.int i, ⟨t, rfl⟩, fun _ _ => .int i⟩
  | .str s, .str x t, h => by
    have h : (decide (x = ⟨s.toArray⟩) && (s.all (fun c => decide (c < 0x110000)) && decide (s.length ≤ 16777216))) = true := h
    rw [Bool.and_eq_true, Bool.and_eq_true, decide_eq_true_eq, decide_eq_true_eq] at h
    refine ⟨.str ⟨s.toArray⟩, ⟨t, by rw [h.1]⟩, fun _ _ => .str s (fun c hc => of_decide_eq_true (List.all_eq_true.mp h.2.1 c hc)) (by rw [sizeLine_eq]; exact h.2.2)⟩
  | .tup xs, .ref a, h => by
    have h : (match K.lookup a with
      | some ⟨.type c, _, .seq its _, _⟩ => decide (c = "tuple") && (decide (its.size ≤ 16777216) && cWs K xs its.toList)
      | _ => false) = true := h
    split at h
    · rename_i c dd its n sl e
      rw [Bool.and_eq_true, Bool.and_eq_true, decide_eq_true_eq, decide_eq_true_eq] at h
      obtain ⟨vs, r1, r2⟩ := cWs_ok (G := G) h.2.2
      exact ⟨.ref a, rfl, fun γ H => .tup (.inr ⟨_, its, n, e, congrArg Value.type h.1, rfl, by rw [sizeLine_eq]; exact h.2.1, r1⟩) (r2 γ H)⟩
    · cases h
theorem cWs_ok {K : PySem.W.Frag} {G : Gs} : ∀ {ws : List W} {us : List Value}, cWs K ws us = true → ∃ vs, L2.Vals vs us ∧ ∀ γ H, Reps K G γ H ws vs
  | [], [], _ => ⟨[], .nil, fun _ _ => .nil⟩
  | w :: ws, u :: us, h => by
    have h : (cW K w u && cWs K ws us) = true := h
    rw [Bool.and_eq_true] at h
    obtain ⟨v, a1, a2⟩ := cW_ok (G := G) h.1
    obtain ⟨vs, b1, b2⟩ := cWs_ok (G := G) h.2
    exact ⟨v :: vs, .cons a1 b1, fun γ H => .cons (a2 γ H) (b2 γ H)⟩
end
def conB (K : PySem.W.Frag) (x : Str) (w : W) : Bool := match PySem.W.nsIn K mainGlobals x with
  | some (some u) => cW K w u
  | _ => false
theorem conB_ok {K : PySem.W.Frag} {h : Heap} {mg : Str → Option Value} {x : Str} {w : W} (X : K.In h) (G : h.Ns mainGlobals mg) (c : conB K x w = true) : ∃ u, mg x = some u ∧ cW K w u = true := by
  unfold conB at c
  split at c
  · rename_i u e
    exact ⟨u, PySem.W.mg_of X G e, c⟩
  · cases c
section
variable {X : Cx} {G : Gs} {x : Str} {pos : Pos}
theorem se_gcon (w : W) (hm : ∃ u, X.mg x = some u ∧ cW X.K w u = true) (hg : Gl X x := by rfl) (hd : (x == ("__debug__" : Str)) = false := by decide) : SE X G (.Name x pos) (mC w) := by
  obtain ⟨u, hm, hc⟩ := hm
  obtain ⟨v, rv, rep⟩ := cW_ok (G := G) hc
  exact se_c (pe_glob (v := v) hg hm rv hd) fun γ H => rep γ H
end
end Mp

set_option Elab.async false
set_option linter.all false
set_option maxRecDepth 100000
set_option maxHeartbeats 4000000
/-! Mp: list(..) that changes later. -/
namespace Mp
open PySem PySem.Spec PyProof.Rows L2
def mListSt (ga : MA) : ME := fun η S => (ga η S).bind fun ws S1 => match ws with
  | [x] => (match seqOf S1 x with
    | some xs => if pures xs = true then .ok (.ref S1.length) (S1 ++ [.lst xs]) else .stuck
    | none => .stuck)
  | _ => .stuck
theorem seq_or {K : PySem.W.Frag} {G : Gs} {γ : Ga} {H : Hp} {S : Store} {w : W} {v : V} {xs : List W} (s : StoreOk K G γ H S) (h : seqOf S w = some xs) (r : Rep K G γ H w v) : ∃ a vs, v = .ref a ∧ (SqL K H a vs ∨ SqT K H a vs) ∧ Reps K G γ H xs vs := by
  cases r with
  | tup f q =>
    cases h
    exact ⟨_, _, rfl, .inr f.sq, q⟩
  | lst h1 o1 q =>
    obtain ⟨a, vs, ev, hv, q⟩ := lst_or s (show lstOf S (W.lst _) = some xs from h) (.lst h1 o1 q)
    exact ⟨a, vs, ev, .inl hv, q⟩
  | ref hr =>
    obtain ⟨a, vs, ev, hv, q⟩ := lst_or s (show lstOf S (W.ref _) = some xs from h) (.ref hr)
    exact ⟨a, vs, ev, .inl hv, q⟩
  | _ => cases h
section
variable {X : Cx} {G : Gs} {e : Expr} {es : List Expr} {ga : MA} {p pos : Pos}
theorem se_listSt (hm : X.mg "list" = none) (ha : SA X G (e :: es) ga) (hg : Gl X "list" := by rfl) (he : starEach (e :: es) X.env = (false, eval e X.env) :: starEach es X.env := by rfl) (hpl : (backTo pos (starEach es X.env)).any (·.1) = false := by rfl) : SE X G (.Call (.Name "list" p) (e :: es) [] pos) (mListSt ga) := by
  refine ⟨fun Wi tk => (pe_callTy call_list_of hg hm (by decide +kernel) (ha.run Wi tk) (by decide) (by decide) he hpl).imp ?_⟩
  rintro σ H Q ⟨η, S, γ, he, hs, q⟩
  refine ⟨η, S, γ, he, hs, (Post.seq q).imp fun x H1 ⟨ws, S1, γ1, e1, r1, s1, q1⟩ => ?_⟩
  split at q1
  · rename_i y
    cases r1 with
    | cons r t =>
    cases t
    cases es : seqOf S1 y with
    | none =>
      simp only [es] at q1
      exact q1.elim
    | some xs =>
      simp only [es] at q1
      by_cases hp : pures xs = true
      · rw [if_pos hp] at q1
        obtain ⟨a, vs, ev, hq, q⟩ := seq_or s1 es r
        refine ⟨a, vs, by rw [ev], hq, fun p hp' => ?_⟩
        have ex := Ext.push (K := X.K) (G := G) s1 (o := .lst vs) hp'
        refine q1 _ _ _ ex (.ref ?_) (s1.push hp' hp q)
        show (γ1.ρ ++ [p])[S1.length]? = some p
        rw [← s1.len, List.getElem?_append_right (Nat.le_refl _), Nat.sub_self] <;> rfl
      · rw [if_neg hp] at q1
        exact q1.elim
  · exact q1.elim
end
end Mp

set_option Elab.async false
set_option linter.all false
set_option maxRecDepth 100000
set_option maxHeartbeats 4000000
/-! Mp: dicts whose keys are ints and texts. -/
namespace Mp
open PySem PySem.Spec PyProof.Rows L2
def isKey : W → Bool
  | .int _ => true
  | .str _ => true
  | _ => false
def keqW : W → W → Bool
  | .int i, .int j => decide (i = j)
  | .str a, .str b => decide (a = b)
  | _, _ => false
def hasKey (k : W) : List W → Bool
  | [] => false
  | x :: r => keqW x k || hasKey k r
def lookKey (k : W) : List W → List W → Option W
  | x :: xs, v :: vs => if keqW x k = true then some v else lookKey k xs vs
  | _, _ => none
def setKey (k v : W) : List W → List W → List W
  | x :: xs, u :: us => (if keqW x k = true then v else u) :: setKey k v xs us
  | _, _ => []
def putKs (k : W) (ks : List W) : List W := if hasKey k ks = true then ks else ks ++ [k]
def putVs (k v : W) (ks vs : List W) : List W := if hasKey k ks = true then setKey k v ks vs else vs ++ [v]
def dctOf (S : Store) : W → Option (List W × List W)
  | .dct ks vs => some (ks, vs)
  | .ref i => (match S[i]? with
    | some (.dct ks vs) => some (ks, vs)
    | _ => none)
  | _ => none
section
variable {K : PySem.W.Frag} {G : Gs} {γ : Ga} {H : Hp} {S : Store}
theorem key_rep {k : W} {v : V} (r : Rep K G γ H k v) (h : isKey k = true) : ∃ key : Key, v = kV key ∧ k = keyW key := by
  cases r with
  | int i => exact ⟨.inl i, rfl, rfl⟩
  | str s _ _ => exact ⟨.inr ⟨s.toArray⟩, rfl, rfl⟩
  | _ => cases h
theorem keq_keyW (a b : Key) : keqW (keyW a) (keyW b) = decide (a = b) := by
  cases a with
  | inl i =>
    cases b with
    | inl j =>
      show decide (i = j) = _
      by_cases e : i = j
      · rw [e, decide_eq_true rfl, decide_eq_true rfl]
      · rw [decide_eq_false e, decide_eq_false fun z => e (Sum.inl.inj z)]
    | inr t => exact (decide_eq_false fun z => nomatch z).symm
  | inr s =>
    cases b with
    | inl j => exact (decide_eq_false fun z => nomatch z).symm
    | inr t =>
      show decide (s.cps.toList = t.cps.toList) = _
      by_cases e : s = t
      · rw [e, decide_eq_true rfl, decide_eq_true rfl]
      · rw [decide_eq_false fun z => e ?_, decide_eq_false fun z => e (Sum.inr.inj z)]
        cases s
        cases t
        exact congrArg PySem.Str.mk (Array.toList_inj.mp z)
theorem has_kv (k : Key) : ∀ kvs : List (Key × V), hasKey (keyW k) (kvs.map fun p => keyW p.1) = kvs.any fun kv => decide (kv.1 = k)
  | [] => rfl
  | p :: r => by
    show (keqW (keyW p.1) (keyW k) || hasKey (keyW k) (r.map fun p => keyW p.1)) = _
    rw [keq_keyW, has_kv k r, List.any_cons]
theorem look_kv (k : Key) : ∀ (kvs : List (Key × V)) {ws : List W}, Reps K G γ H ws (kvs.map (·.2)) → (∃ w v, lookKey (keyW k) (kvs.map fun p => keyW p.1) ws = some w ∧ valV kvs k = some v ∧ Rep K G γ H w v) ∨ (lookKey (keyW k) (kvs.map fun p => keyW p.1) ws = none ∧ valV kvs k = none)
  | [], ws, r => by
    refine .inr ⟨?_, rfl⟩
    cases ws <;> rfl
  | p :: t, _, .cons (w := w) (ws := ws) rw' rr => by
    show (∃ w' v, (if keqW (keyW p.1) (keyW k) = true then some w else lookKey (keyW k) (t.map fun p => keyW p.1) ws) = some w' ∧ _) ∨ _
    by_cases e : p.1 = k
    · refine .inl ⟨w, p.2, ?_, valV_pos e, rw'⟩
      rw [if_pos (by rw [keq_keyW]; exact decide_eq_true e)]
    · have ne : ¬ keqW (keyW p.1) (keyW k) = true := by
        rw [keq_keyW, decide_eq_false e]
        exact Bool.false_ne_true
      rcases look_kv k t rr with ⟨w', v, h1, h2, h3⟩ | ⟨h1, h2⟩
      · exact .inl ⟨w', v, by rw [if_neg ne]; exact h1, by rw [valV_neg e]; exact h2, h3⟩
      · refine .inr ⟨?_, by rw [valV_neg e]; exact h2⟩
        show (if keqW (keyW p.1) (keyW k) = true then some w else lookKey (keyW k) (t.map fun p => keyW p.1) ws) = none
        rw [if_neg ne]
        exact h1
theorem put_ks (k : Key) (v : V) (kvs : List (Key × V)) : (putK kvs k v).map (fun p => keyW p.1) = putKs (keyW k) (kvs.map fun p => keyW p.1) := by
  unfold putK putKs
  rw [has_kv]
  split
  · rw [List.map_map]
    refine List.map_congr_left fun p _ => ?_
    simp only [Function.comp_apply]
    split <;> rfl
  · rw [List.map_append] <;> rfl
theorem set_vs (k : Key) {w : W} {v : V} (r : Rep K G γ H w v) : ∀ (kvs : List (Key × V)) {ws : List W}, Reps K G γ H ws (kvs.map (·.2)) → Reps K G γ H (setKey (keyW k) w (kvs.map fun p => keyW p.1) ws) ((kvs.map fun kv => if kv.1 = k then (kv.1, v) else kv).map (·.2))
  | [], ws, t => by
    cases t
    exact .nil
  | p :: t, _, .cons (w := w') (ws := ws) r' t' => by
    have ih := set_vs k r t t'
    show Reps K G γ H ((if keqW (keyW p.1) (keyW k) = true then w else w') :: setKey (keyW k) w (t.map fun p => keyW p.1) ws) ((if p.1 = k then (p.1, v) else p).2 :: (t.map fun kv => if kv.1 = k then (kv.1, v) else kv).map (·.2))
    refine .cons ?_ ih
    rw [keq_keyW]
    by_cases e : p.1 = k
    · rw [if_pos (decide_eq_true e), if_pos e]
      exact r
    · rw [if_neg (by rw [decide_eq_false e]; exact Bool.false_ne_true), if_neg e]
      exact r'
theorem put_vs (k : Key) {w : W} {v : V} (r : Rep K G γ H w v) (kvs : List (Key × V)) {ws : List W} (t : Reps K G γ H ws (kvs.map (·.2))) : Reps K G γ H (putVs (keyW k) w (kvs.map fun p => keyW p.1) ws) ((putK kvs k v).map (·.2)) := by
  unfold putK putVs
  rw [has_kv]
  split
  · exact set_vs k r kvs t
  · rw [List.map_append]
    exact t.append (.one r)
theorem dctOf_rep (s : StoreOk K G γ H S) {w : W} {v : V} {ks ws : List W} (r : Rep K G γ H w v) (h : dctOf S w = some (ks, ws)) : ∃ a us, v = .ref a ∧ DctAt H a ks us ∧ Reps K G γ H ws us := by
  cases r with
  | dct d f q =>
    cases h
    exact ⟨_, _, rfl, d, q⟩
  | @ref i a ha =>
    have h : (match S[i]? with
      | some (.dct ks vs) => some (ks, vs)
      | _ => none) = some (ks, ws) := h
    split at h
    · rename_i hc
      cases h
      obtain ⟨_, _, us, d, q⟩ := s.cell i _ a hc ha
      exact ⟨a, us, rfl, d, q⟩
    · cases h
  | _ => cases h
theorem dct_k {a : Addr} {ks : List W} {us : List V} (d : DctAt H a (.bl false :: ks) us) : ∃ kvs : List (Key × V), H a = some (.dK kvs) ∧ ks = kvs.map (fun p => keyW p.1) ∧ us = kvs.map (·.2) := by
  rcases d with ⟨kvs, h, e, e2⟩ | ⟨kvs, h, e, _⟩
  · exact ⟨kvs, h, by cases e; rfl, e2⟩
  · cases e
end
def opInD : O2 := fun x y S => match dctOf S y with
  | some (.bl false :: ks, _) => if isKey x = true then some (.bl (hasKey x ks)) else none
  | some _ => none
  | none => opIn x y S
def opNotInD : O2 := fun x y S => match dctOf S y with
  | some (.bl false :: ks, _) => if isKey x = true then some (.bl (!hasKey x ks)) else none
  | some _ => none
  | none => opNotIn x y S
section
variable {X : Cx} {G : Gs}
theorem o2_inD (hu : X.A.units + 65 < cLine) : OpR X (compareOp .In) (rOf X.K G opInD) := by
  intro pins s σ H x y v u Q I rx ry h
  obtain ⟨wx, wy, S, γ, w, r1, r2, ss, e, k⟩ := h
  unfold opInD at e
  split at e
  · rename_i ks ws hd
    split at e
    · rename_i hk
      cases e
      obtain ⟨key, rfl, rfl⟩ := key_rep r1 hk
      obtain ⟨a, us, rfl, d, q⟩ := dctOf_rep ss r2 hd
      obtain ⟨kvs, hH, rfl, rfl⟩ := dct_k d
      obtain rfl : u = Value.ref a := ry
      refine d_in (by omega) I (DGet.k (k := key) hH) rx fun s' I' => ⟨.bl (hasKey (keyW key) (kvs.map fun p => keyW p.1)), H, I', ?_, k _ γ H Ext.refl (.bl _) ss⟩
      rw [has_kv, valV_any]
      rfl
    · cases e
  · cases e
  · exact o2_in hu pins s σ H x y v u Q I rx ry ⟨wx, wy, S, γ, w, r1, r2, ss, e, k⟩
theorem o2_notInD (hu : X.A.units + 65 < cLine) : OpR X (compareOp .NotIn) (rOf X.K G opNotInD) := by
  intro pins s σ H x y v u Q I rx ry h
  obtain ⟨wx, wy, S, γ, w, r1, r2, ss, e, k⟩ := h
  unfold opNotInD at e
  split at e
  · rename_i ks ws hd
    split at e
    · rename_i hk
      cases e
      obtain ⟨key, rfl, rfl⟩ := key_rep r1 hk
      obtain ⟨a, us, rfl, d, q⟩ := dctOf_rep ss r2 hd
      obtain ⟨kvs, hH, rfl, rfl⟩ := dct_k d
      obtain rfl : u = Value.ref a := ry
      refine d_notIn (by omega) I (DGet.k (k := key) hH) rx fun s' I' => ⟨.bl (!hasKey (keyW key) (kvs.map fun p => keyW p.1)), H, I', ?_, k _ γ H Ext.refl (.bl _) ss⟩
      rw [has_kv, valV_any]
      rfl
    · cases e
  · cases e
  · exact o2_notIn hu pins s σ H x y v u Q I rx ry ⟨wx, wy, S, γ, w, r1, r2, ss, e, k⟩
end
end Mp

set_option Elab.async false
set_option linter.all false
set_option maxRecDepth 100000
set_option maxHeartbeats 4000000
/-! Mp: dict comprehensions. -/
namespace Mp
open PySem PySem.Spec PyProof.Rows L2
def dcompL (g : MG) (t : MT) (ek ev : ME) (η : Env) : List W → Store → List W → List W → R (List W × List W)
  | [], S, ks, vs => .ok (ks, vs) S
  | x :: r, S, ks, vs => match g x η S with
    | none => .stuck
    | some (η1, S1) => (t η1 S1).bind fun b S2 => if b = true then (ek η1 S2).bind fun k S3 => (ev η1 S3).bind fun w S4 => if isKey k = true then sized (ks.length + 1) (dcompL g t ek ev η r S4 (putKs k ks) (putVs k w ks vs)) else .stuck else dcompL g t ek ev η r S2 ks vs
def mDComp (it : MI) (own : List Nat) (g : MG) (t : MT) (ek ev : ME) : ME := fun η S => (it η S).bind fun xs S1 => (noexc (dcompL g t ek ev (wipeE η own) xs S1 [] [])).bind fun p S2 => .ok (.dct (.bl false :: p.1) p.2) S2
section
variable {X : Cx} {G : Gs} {tg iter kx vx : Expr} {ifs : List Expr} {scope : Scope} {f fk : ME} {g : MG} {t : MT} {it : MI} {is : List Nat} {own : List (Str × Nat)} {pos : Pos}
/-- a turn after another -/
theorem dc_turns {K : PySem.W.Frag} {γ0 : Ga} {H0 : Hp} {J : It} {xs : List W} {η : Env} {S0 : Store} {σ : L2.St} {ksF wsF : List W} {SF : Store} {Wx' : Wx} {Q : VK} {vs : List Nat} (ok : ItOk K G J xs γ0 H0) (he : EnvOk K G γ0 H0 η σ) (hs : StoreOk K G γ0 H0 S0)
    (his : ∀ i ∈ is, i ∈ vs) (h : dcompL g t fk f (wipeE η vs) xs S0 [] [] = .ok (ksF, wsF) SF) (hQ : ∀ v γ' H', Ext γ0 H0 γ' H' → Rep K G γ' H' (.dct (.bl false :: ksF) wsF) v → StoreOk K G γ' H' SF → Q v H') :
    ∀ D, H0 D = none → ∃ Wv : Nat → Nat → Hp → Prop, (∃ m, Wv 0 m (L2.upd H0 D (.dK []))) ∧ ∀ i m H, Wv i m H →
      (J.stop i H ∧ Q (.ref D) H) ∨ (J.go i H ∧ ∃ Nx : Hp → Prop, (∀ H', Nx H' → ∃ m', m' < m ∧ Wv (i + 1) m' H') ∧ ∀ x H', J.yld i H x H' → tgOf K G is g x (wipe σ vs) H' fun σ2 H2 => wipe σ2 vs = wipe σ vs ∧ ttOf K G (fun _ _ _ _ => False) t σ2 H2 fun b H3 =>
        if b = true then tOf K G (fun _ _ _ _ => False) fk σ2 H3 fun y H4 => tOf K G (fun _ _ _ _ => False) f σ2 H4 fun z H5 => ∃ kvs k, y = kV k ∧ H5 D = some (.dK kvs) ∧ kvs.length < sizeLine ∧ Nx (L2.upd H5 D (.dK (putK kvs k z))) else Nx H3) := by
  intro D hD
  refine ⟨fun i m H => m = xs.length - i ∧ i ≤ xs.length ∧ ∃ S γ acc us, StoreOk K G γ H S ∧ Ext γ0 H0 γ H ∧ D ∈ γ.β ∧ H D = some (.dK us) ∧ Reps K G γ H acc (us.map (·.2)) ∧ dcompL g t fk f (wipeE η vs) (xs.drop i) S (us.map fun p => keyW p.1) acc = .ok (ksF, wsF) SF, ⟨xs.length, rfl, Nat.zero_le _, ?_⟩, ?_⟩
  · have off := hs.fresh hD
    refine ⟨S0, ⟨γ0.ρ, D :: γ0.β⟩, [], [], ?_, ?_, List.mem_cons_self .., upd_same, .nil, h⟩
    · have s1 := hs.upd (o := .dK []) hD
      refine ⟨s1.len, s1.nd, fun i c a hc ha => ?_, fun a ha => ?_⟩
      · have q := s1.cell i c a hc ha
        cases c with
        | lst ys =>
          obtain ⟨p1, us, hv, r'⟩ := hs.cell i _ a hc ha
          refine ⟨p1, us, by rw [upd_ne (ne_of_none hv hD)]; exact hv, r'.mono ?_⟩
          exact ⟨List.prefix_refl _, fun b hb => List.mem_cons_of_mem _ hb, fun b hb => (List.mem_cons.mp hb).elim (fun z => .inr (by rw [z]; exact hD)) .inl, fun b u e _ => by rw [upd_ne (ne_of_none e hD)]; exact e, fun _ h1 h2 => absurd h1 h2, fun b u e => ⟨u, by rw [upd_ne (ne_of_none e hD)]; exact e⟩⟩
        | dct _ _ => exact (hs.cell i _ a hc ha).to (fun o f => by rw [upd_ne (ne_of_none f hD)]; exact f) fun _ r => by refine r.mono ?_; exact ⟨List.prefix_refl _, fun b hb => List.mem_cons_of_mem _ hb, fun b hb => (List.mem_cons.mp hb).elim (fun z => .inr (by rw [z]; exact hD)) .inl, fun b u e _ => by rw [upd_ne (ne_of_none e hD)]; exact e, fun _ h1 h2 => absurd h1 h2, fun b u e => ⟨u, by rw [upd_ne (ne_of_none e hD)]; exact e⟩⟩
        | ins _ _ => exact q.elim
      · rcases List.mem_cons.mp ha with z | z
        · rw [z]
          exact ⟨off.1, _, upd_same, fun _ z => nomatch z⟩
        · obtain ⟨n, o, q, nt⟩ := hs.bt a z
          exact ⟨n, o, by rw [upd_ne (ne_of_none q hD)]; exact q, nt⟩
    · exact ⟨List.prefix_refl _, fun b hb => List.mem_cons_of_mem _ hb, fun b hb => (List.mem_cons.mp hb).elim (fun z => .inr (by rw [z]; exact hD)) .inl, fun b u e _ => by rw [upd_ne (ne_of_none e hD)]; exact e, fun _ h1 h2 => absurd h1 h2, fun b u e => ⟨u, by rw [upd_ne (ne_of_none e hD)]; exact e⟩⟩
  · rintro i m H ⟨rfl, hi, S, γ, acc, us, s, ex, dβ, hus, racc, hc⟩
    by_cases hlt : i < xs.length
    · refine .inr ⟨ok.go i γ H S hlt ex.w s, _, fun H' z => ⟨xs.length - (i + 1), by omega, z⟩, fun x H' y => ?_⟩
      obtain ⟨e1, s1, r1⟩ := ok.yld i xs[i] γ H S x H' (List.getElem?_eq_getElem hlt) ex.w s y
      rw [List.drop_eq_getElem_cons hlt] at hc
      unfold dcompL at hc
      cases eg : g xs[i] (wipeE η vs) S with
      | none =>
        rw [eg] at hc
        cases hc
      | some z =>
        obtain ⟨η1, S1⟩ := z
        rw [eg] at hc
        refine ⟨wipeE η vs, S, γ, xs[i], η1, S1, ((he.mono ex).mono e1).wipe vs, s1, r1, eg, fun σ2 γ2 H2 e2 he2 s2 hl2 hn2 => ⟨?_, ?_⟩⟩
        · rw [wipe_same (σ := wipe σ vs) his hl2 hn2, wipe_wipe]
        · refine ⟨η1, S1, γ2, he2, s2, ?_⟩
          cases et : t η1 S1 with
          | stuck =>
            simp only [et] at hc
            cases hc
          | exc c x S2 =>
            simp only [et] at hc
            cases hc
          | ok b S2 =>
            simp only [et, R.bind] at hc
            intro b' γ3 H3 e3 rb s3
            cases rb
            have ext3 : Ext γ0 H0 γ3 H3 := ((ex.trans e1).trans e2).trans e3
            have d3 : D ∈ γ3.β := e3.bsub _ (e2.bsub _ (e1.bsub _ dβ))
            have hus3 : H3 D = some (.dK us) := by
              have k1 := e1.keep D _ hus (s.bt D dβ).1
              have k2 := e2.keep D _ k1 (s1.bt D (e1.bsub _ dβ)).1
              exact e3.keep D _ k2 (s2.bt D (e2.bsub _ (e1.bsub _ dβ))).1
            have racc3 := ((racc.mono e1).mono e2).mono e3
            cases b with
            | false =>
              rw [if_neg Bool.false_ne_true] at hc ⊢
              exact ⟨rfl, hlt, S2, γ3, acc, us, s3, ext3, d3, hus3, racc3, hc⟩
            | true =>
              rw [if_pos rfl] at hc ⊢
              refine ⟨η1, S2, γ3, he2.mono e3, s3, ?_⟩
              cases ek : fk η1 S2 with
              | stuck =>
                simp only [ek] at hc
                cases hc
              | exc c x S3 =>
                simp only [ek] at hc
                cases hc
              | ok wk S3 =>
                simp only [ek] at hc
                intro vk γ4 H4 e4 r4 s4
                have d4 : D ∈ γ4.β := e4.bsub _ d3
                have hus4 : H4 D = some (.dK us) := e4.keep D _ hus3 (s3.bt D d3).1
                refine ⟨η1, S3, γ4, (he2.mono e3).mono e4, s4, ?_⟩
                cases ee : f η1 S3 with
                | stuck =>
                  simp only [ee] at hc
                  cases hc
                | exc c x S4 =>
                  simp only [ee] at hc
                  cases hc
                | ok w S4 =>
                  simp only [ee] at hc
                  intro v γ5 H5 e5 r5 s5
                  have d5 : D ∈ γ5.β := e5.bsub _ d4
                  have hus5 : H5 D = some (.dK us) := e5.keep D _ hus4 (s4.bt D d4).1
                  split at hc
                  · rename_i hkey
                    obtain ⟨key, rfl, rfl⟩ := key_rep r4 hkey
                    unfold sized at hc
                    split at hc
                    · rename_i hsz
                      rw [bigLine_eq, List.length_map] at hsz
                      refine ⟨us, key, rfl, hus5, by omega, rfl, hlt, S4, γ5, putVs (keyW key) w (us.map fun p => keyW p.1) acc, putK us key v, s5.busy d5, ?_, d5, upd_same, ?_, ?_⟩
                      · have x5 := (ext3.trans e4).trans e5
                        have na : ∀ {a : Addr} {o : HO}, H0 a = some o → a ≠ D := fun q => ne_of_none q hD
                        exact ⟨x5.pre, x5.bsub, x5.bnew, fun a o q n => by rw [upd_ne (na q)]; exact x5.keep a o q n, x5.new, fun a o q => by
                          obtain ⟨o', q'⟩ := x5.dom a o q
                          exact ⟨o', by rw [upd_ne (na q)]; exact q'⟩⟩
                      · have n5 := (s5.bt D d5).1
                        exact Reps.busy d5 n5 (put_vs key r5 us ((racc3.mono e4).mono e5))
                      · rw [put_ks]
                        exact hc
                    · cases hc
                  · cases hc
    · have e : i = xs.length := by omega
      subst e
      rw [List.drop_length] at hc
      cases hc
      refine .inl ⟨ok.stop γ H _ ex.w s, ?_⟩
      have nD := (s.bt D dβ).1
      have fr : Ext γ0 H0 ⟨γ.ρ, γ.β.filter (fun a => decide (a ≠ D))⟩ H := by
        refine ⟨ex.pre, fun a ha => ?_, fun a ha => ex.bnew a (List.mem_filter.mp ha).1, ex.keep, ex.new, ex.dom⟩
        refine List.mem_filter.mpr ⟨ex.bsub a ha, ?_⟩
        obtain ⟨_, o, q, _⟩ := hs.bt a ha
        exact decide_eq_true (ne_of_none q hD)
      have up : Ext γ H ⟨γ.ρ, γ.β.filter (fun a => decide (a ≠ D))⟩ H → True := fun _ => trivial
      have lessO : ∀ (a : Addr) (o : HO), H a = some o → γ.Off a → Ga.Off ⟨γ.ρ, γ.β.filter (fun a => decide (a ≠ D))⟩ a := fun a o _ z => ⟨z.1, fun q => z.2 (List.mem_filter.mp q).1⟩
      have shr : ∀ {w : W} {v : V}, Rep K G γ H w v → Rep K G ⟨γ.ρ, γ.β.filter (fun a => decide (a ≠ D))⟩ H w v := fun r => Rep.shrink (γ := γ) (γ' := ⟨γ.ρ, γ.β.filter (fun a => decide (a ≠ D))⟩) rfl lessO r
      have shrs : ∀ {w : List W} {v : List V}, Reps K G γ H w v → Reps K G ⟨γ.ρ, γ.β.filter (fun a => decide (a ≠ D))⟩ H w v := fun r => Reps.shrink (γ := γ) (γ' := ⟨γ.ρ, γ.β.filter (fun a => decide (a ≠ D))⟩) rfl lessO r
      refine hQ (.ref D) _ H fr (.dct (.inl ⟨us, hus, rfl, rfl⟩) ⟨nD, fun q => ?_⟩ (shrs racc)) ⟨s.len, s.nd, fun i c a hc ha => ?_, fun a ha => s.bt a (List.mem_filter.mp ha).1⟩
      · have := (List.mem_filter.mp q).2
        simp at this
      · have q := s.cell i c a hc ha
        cases c with
        | lst ys =>
          obtain ⟨p1, us', hv, r'⟩ := q
          exact ⟨p1, us', hv, shrs r'⟩
        | dct _ _ => exact q.to (fun _ f => f) fun _ r => shrs r
        | ins _ _ => exact q.elim
theorem dcomp_read {Wi : WX} {Q : VK} {σ : L2.St} {H : Hp} (his : ∀ i ∈ is, i ∈ own.map (·.2)) (q : tOf X.K G Wi (mDComp it (own.map (·.2)) g t fk f) σ H Q) :
    tDc (tiOf X.K G Wi it) (tgOf X.K G is g) (ttOf X.K G (fun _ _ _ _ => False) t) (tOf X.K G (fun _ _ _ _ => False) fk) (tOf X.K G (fun _ _ _ _ => False) f) (own.map (·.2)) σ H Q := by
  obtain ⟨η, S, γ, he, hs, q⟩ := q
  refine ⟨η, S, γ, he, hs, ?_⟩
  have q : Post X.K G (Rep X.K G) (fun c d H' => Wi c d σ H') γ H ((it η S).bind fun xs S1 => (noexc (dcompL g t fk f (wipeE η (own.map (·.2))) xs S1 [] [])).bind fun p S2 => .ok (.dct (.bl false :: p.1) p.2) S2) Q := q
  cases ei : it η S with
  | stuck =>
    rw [ei] at q
    exact q.elim
  | exc c x S1 =>
    rw [ei] at q
    exact q
  | ok xs S1 =>
    rw [ei] at q
    intro J γ1 H1 e1 s1 ok
    have q : Post X.K G (Rep X.K G) (fun c d H' => Wi c d σ H') γ H ((noexc (dcompL g t fk f (wipeE η (own.map (·.2))) xs S1 [] [])).bind fun p S2 => .ok (.dct (.bl false :: p.1) p.2) S2) Q := q
    cases ec : dcompL g t fk f (wipeE η (own.map (·.2))) xs S1 [] [] with
    | stuck =>
      rw [ec] at q
      exact q.elim
    | exc c x S2 =>
      rw [ec] at q
      exact q.elim
    | ok ws S2 =>
      rw [ec] at q
      exact dc_turns (Wx' := fun _ _ _ => False) ok (he.mono e1) s1 his ec fun v γ' H' e r s => q v γ' H' (e1.trans e) r s
theorem se_dcomp (own : List (Str × Nat)) (cf : Cfg X) (hi : SI X G tg iter it) (ok : BlkOk X.N X.env.scope scope own)
    (hg : ∀ (s : Shared) (H : Hp) (C : Addr) (cl : List (Str × Addr)) (fp : List Addr), Cfg (X.blk s H scope (compEnvC scope cl C X.env) fp) → SG (X.blk s H scope (compEnvC scope cl C X.env) fp) G tg is g)
    (ht : ∀ (s : Shared) (H : Hp) (C : Addr) (cl : List (Str × Addr)) (fp : List Addr), Cfg (X.blk s H scope (compEnvC scope cl C X.env) fp) → STs (X.blk s H scope (compEnvC scope cl C X.env) fp) G ifs t)
    (hk : ∀ (s : Shared) (H : Hp) (C : Addr) (cl : List (Str × Addr)) (fp : List Addr), Cfg (X.blk s H scope (compEnvC scope cl C X.env) fp) → SE (X.blk s H scope (compEnvC scope cl C X.env) fp) G kx fk)
    (he : ∀ (s : Shared) (H : Hp) (C : Addr) (cl : List (Str × Addr)) (fp : List Addr), Cfg (X.blk s H scope (compEnvC scope cl C X.env) fp) → SE (X.blk s H scope (compEnvC scope cl C X.env) fp) G vx f)
    (his : ∀ i ∈ is, i ∈ own.map (·.2) := by decide) (hs : ∀ x, foldedSetIterable iter X.env x = pure x := by intro _; rfl) :
    SE X G (.DictComp kx vx [⟨tg, iter, ifs, 0⟩] scope pos) (mDComp it (own.map (·.2)) g t fk f) := by
  refine ⟨fun Wi tk => (pe_dc (g := tgOf X.K G is g) (tt := ttOf X.K G (fun _ _ _ _ => False) t) (tk := tOf X.K G (fun _ _ _ _ => False) fk) (tv := tOf X.K G (fun _ _ _ _ => False) f) cf.calm cf.nd (hi.run Wi tk) ok (fun s H C cl fp => (hg s H C cl fp (cf.blk ..)).run) (fun s H C cl fp => (ht s H C cl fp (cf.blk ..)).run _ takes0) (fun s H C cl fp => (hk s H C cl fp (cf.blk ..)).run _ takes0) (fun s H C cl fp => (he s H C cl fp (cf.blk ..)).run _ takes0) hs).imp ?_⟩
  intro σ H Q q
  exact dcomp_read his q
theorem sw_trueD {gs : List Comprehension} {scope : Scope} {pos py : Pos} {y : Str} {l : Nat} {env : PySem.Env} (hk : env.scope.kind = .function) (hy : env.scope.names.lookup y = some .local) (hl : (py.line == pos.line) = true)
    (ha : (scope.names.any fun (n, k) => n == y && (k == .local || k == .cell)) = false) : swapsWith (.DictComp kx vx gs scope pos) (some (.Name y py)) l env = pure true := by
  have ky : env.kindOf y = some .local := hy
  have hb : env.blockKind = .function := by unfold PySem.Env.blockKind; rw [hk]; rfl
  unfold swapsWith
  simp only [hb, ky, ha, Expr.pos, hl]
  rfl
theorem ps_setDc {i : Nat} {y : Str} {py : Pos} {spos : Pos} {wi : TI} {g : TG} {tt : TT} {tk tv : TE} (hc : X.calm = true) (hN : X.N.Nodup) (hy : X.N[i]? = some y) (hyl : X.env.scope.names.lookup y = some .local)
    (hsw : swapsWith (.DictComp kx vx [⟨tg, iter, ifs, 0⟩] scope pos) (some (.Name y py)) spos.line X.env = pure true) (hi : PI X tg iter wi) (ok : BlkOk X.N X.env.scope scope own)
    (hg : ∀ (s : Shared) (H : Hp) (C : Addr) (cl : List (Str × Addr)) (fp : List Addr), PG (X.blk s H scope (compEnvC scope cl C X.env) fp) tg g) (ht : ∀ (s : Shared) (H : Hp) (C : Addr) (cl : List (Str × Addr)) (fp : List Addr), PTs (X.blk s H scope (compEnvC scope cl C X.env) fp) ifs tt)
    (hk : ∀ (s : Shared) (H : Hp) (C : Addr) (cl : List (Str × Addr)) (fp : List Addr), PE (X.blk s H scope (compEnvC scope cl C X.env) fp) kx tk)
    (he : ∀ (s : Shared) (H : Hp) (C : Addr) (cl : List (Str × Addr)) (fp : List Addr), PE (X.blk s H scope (compEnvC scope cl C X.env) fp) vx tv) (hs : ∀ x, foldedSetIterable iter X.env x = pure x := by intro _; rfl) :
    PS X (.Assign [.Name y py] (.DictComp kx vx [⟨tg, iter, ifs, 0⟩] scope pos) spos) (tAsg (tDc wi g tt tk tv (own.map (·.2))) (gName i)) := by
  refine ⟨fun pins s σ H D I h => ?_⟩
  rw [exec_Assign_Name_used _ _ _ _ hsw]
  refine wpAny_bind (wpAny_standAt (wpAny_bind ?_))
  show wpAny _ X.A (do let _ ← comprehension (.DictComp kx vx [⟨tg, iter, ifs, 0⟩] scope pos) scope X.env (firstIterPos [⟨tg, iter, ifs, 0⟩] pos) newDict false (eval iter X.env) (some (assign (.Name y py) X.env))) _ _ s
  have h : tDc wi g tt tk tv (own.map (·.2)) σ H (fun x H1 => gName i x σ H1 D.nx) := h
  refine wpAny_bind (thn (dc_core (Qf := fun _ s' => SP X pins D .next s') hc hN I hi ok hg ht hk he hs h fun L C s' m H' I' q hn f => ?_) fun _ s' hq => wpAny_pure (wpAny_pure hq))
  show wpAny _ _ (assign (.Name y py) X.env (.ref L)) _ _ _
  refine wpAny_assign_Name (store_ok2 (v := V.ref L) I' hN hy (.inl hyl) rfl (fun s2 I2 ⟨a, sb, ha⟩ => ?_) (.inr hyl))
  obtain ⟨f0, f1, f2, f3, f4, f5⟩ := f
  have haC : C ≠ a := by
    rcases ha with z | z
    · rw [z]; exact f1
    · exact fun e => f4 y a z e.symm
  refine ⟨m, hn.sameBut sb haC, fun h3 sb3 => ?_⟩
  exact ⟨_, H', I2.turned (t' := s2.toks) (fun b o hb e => (sb3.2 b hb).trans e) f0 f1 f3 f4 f5, q⟩
theorem ss_setDc {y : Str} {py : Pos} {spos : Pos} (i : Nat) (own : List (Str × Nat)) (cf : Cfg X) (hi : SI X G tg iter it) (ok : BlkOk X.N X.env.scope scope own)
    (hg : ∀ (s : Shared) (H : Hp) (C : Addr) (cl : List (Str × Addr)) (fp : List Addr), Cfg (X.blk s H scope (compEnvC scope cl C X.env) fp) → SG (X.blk s H scope (compEnvC scope cl C X.env) fp) G tg is g)
    (ht : ∀ (s : Shared) (H : Hp) (C : Addr) (cl : List (Str × Addr)) (fp : List Addr), Cfg (X.blk s H scope (compEnvC scope cl C X.env) fp) → STs (X.blk s H scope (compEnvC scope cl C X.env) fp) G ifs t)
    (hk : ∀ (s : Shared) (H : Hp) (C : Addr) (cl : List (Str × Addr)) (fp : List Addr), Cfg (X.blk s H scope (compEnvC scope cl C X.env) fp) → SE (X.blk s H scope (compEnvC scope cl C X.env) fp) G kx fk)
    (he : ∀ (s : Shared) (H : Hp) (C : Addr) (cl : List (Str × Addr)) (fp : List Addr), Cfg (X.blk s H scope (compEnvC scope cl C X.env) fp) → SE (X.blk s H scope (compEnvC scope cl C X.env) fp) G vx f)
    (hy : X.N[i]? = some y := by rfl) (hyl : X.env.scope.names.lookup y = some .local := by rfl)
    (hsw : swapsWith (.DictComp kx vx [⟨tg, iter, ifs, 0⟩] scope pos) (some (.Name y py)) spos.line X.env = pure true := by exact sw_trueD rfl rfl rfl (by decide +kernel))
    (his : ∀ i ∈ is, i ∈ own.map (·.2) := by decide) (hs : ∀ x, foldedSetIterable iter X.env x = pure x := by intro _; rfl) :
    SS X G (.Assign [.Name y py] (.DictComp kx vx [⟨tg, iter, ifs, 0⟩] scope pos) spos) (sSet i (mDComp it (own.map (·.2)) g t fk f)) := by
  refine ⟨fun Wi tk => (ps_setDc (i := i) (g := tgOf X.K G is g) (tt := ttOf X.K G (fun _ _ _ _ => False) t) (tk := tOf X.K G (fun _ _ _ _ => False) fk) (tv := tOf X.K G (fun _ _ _ _ => False) f) cf.calm cf.nd hy hyl hsw (hi.run Wi tk) ok (fun s H C cl fp => (hg s H C cl fp (cf.blk ..)).run) (fun s H C cl fp => (ht s H C cl fp (cf.blk ..)).run _ takes0) (fun s H C cl fp => (hk s H C cl fp (cf.blk ..)).run _ takes0) (fun s H C cl fp => (he s H C cl fp (cf.blk ..)).run _ takes0) hs).imp ?_⟩
  rintro D σ H ⟨η, S, γ, he, hs, q⟩
  refine dcomp_read his ⟨η, S, γ, he, hs, (PostS.expr he q).imp fun v H1 ⟨w, S1, γ1, e1, r1, s1, q1⟩ => q1 _ γ1 H1 Ext.refl ((he.mono e1).set r1 i) s1⟩
end
end Mp

set_option Elab.async false
set_option linter.all false
set_option maxRecDepth 100000
set_option maxHeartbeats 4000000
/-! Mp: count, lists by a number into the store. -/
namespace Mp
open PySem PySem.Spec PyProof.Rows L2
def omCountI : OM := fun x ws S => match lstOf S x, ws with
  | some xs, [.int k] => (intsOf xs).map fun ns => (.int (ns.count k : Nat), S)
  | _, _ => none
def mMulS (f g : ME) : ME := fun η S => (f η S).bind fun x S1 => (g η S1).bind fun y S2 => match lstOf S2 x, y with
  | some xs, .int k => if -9223372036854775808 ≤ k ∧ k < 9223372036854775808 ∧ xs.length * k.toNat ≤ bigLine ∧ pures (List.replicate k.toNat xs).flatten = true then .ok (.ref S2.length) (S2 ++ [.lst (List.replicate k.toNat xs).flatten]) else .stuck
  | _, _ => .stuck
section
variable {X : Cx} {G : Gs} {a b : Expr} {pos : Pos} {f g : ME}
theorem om_countI : MtR X "list.count" (rmOf X.K G omCountI) := by
  refine mt_imp mt_lcount ?_
  rintro x xs H Q ⟨wx, ws, S, γ, w, S3, r, rs, s, e, k⟩
  unfold omCountI at e
  split at e
  · rename_i ys i hl
    cases hn : intsOf ys with
    | none =>
      rw [hn] at e
      cases e
    | some ns =>
      rw [hn] at e
      cases e
      obtain ⟨p, vs, rfl, hs, q⟩ := lst_or s hl r
      cases rs with
      | cons r1 t =>
        cases t
        cases r1
        have ev := intsOf_reps' q hn
        subst ev
        exact ⟨p, ns, i, rfl, rfl, hs, k _ γ H Ext.refl (.int _) s⟩
  · cases e
theorem se_mulS (ha : SE X G a f) (hb : SE X G b g) : SE X G (.BinOp a .Mult b pos) (mMulS f g) := by
  refine ⟨fun Wi tk => (pe_op op_rep (ha.run Wi tk) (hb.run Wi tk)).imp ?_⟩
  rintro σ H Q ⟨η, S, γ, he, hs, q⟩
  refine ⟨η, S, γ, he, hs, (Post.seq q).imp fun x H1 ⟨wx, S1, γ1, e1, r1, s1, q1⟩ => ⟨η, S1, γ1, he.mono e1, s1, (Post.seq q1).imp fun y H2 ⟨wy, S2, γ2, e2, r2, s2, q2⟩ => ?_⟩⟩
  have r1' := r1.mono e2
  split at q2
  · rename_i xs n hx
    split at q2
    · rename_i hl
      obtain ⟨l1, l2, l3, hp'⟩ := hl
      rw [bigLine_eq] at l3
      cases r2
      obtain ⟨a1, v1, rfl, h1, q1⟩ := lstOf_rep s2 hx r1'
      have e1 := q1.length
      refine ⟨a1, _, v1, rfl, rfl, h1, by omega, by omega, by rw [← e1]; exact l3, fun p hp => ?_⟩
      have ex := Ext.push (K := X.K) (G := G) s2 (o := .lst (List.replicate n.toNat v1).flatten) hp
      refine q2 _ _ _ ex (.ref ?_) (s2.push hp hp' (reps_flat q1 _))
      show (γ2.ρ ++ [p])[S2.length]? = some p
      rw [← s2.len, List.getElem?_append_right (Nat.le_refl _), Nat.sub_self] <;> rfl
    · exact q2.elim
  · exact q2.elim
end
def opMulT : O2 := fun x y S => match x, y with
  | .tup xs, .int k => if xs ≠ [] ∧ 2 ≤ k ∧ k ≤ 1000 ∧ xs.length ≤ 1000 then some (.tup (List.replicate k.toNat xs).flatten) else none
  | x, y => opMul x y S
theorem o2_mulT {X : Cx} {G : Gs} : OpR X (binaryOp .Mult) (rOf X.K G opMulT) := by
  refine (OpR.or op_repT (o2_mul (G := G))).imp ?_
  rintro x y H Q ⟨wx, wy, S, γ, w, rx, ry, s, h, k⟩
  unfold opMulT at h
  split at h
  · rename_i xs n
    split at h
    · rename_i hl
      cases h
      cases rx with
      | @tup _ vs _ f q =>
      cases ry
      have e1 := q.length
      obtain ⟨l0, l1, l2, l3⟩ := hl
      refine .inl ⟨_, _, _, rfl, rfl, f.sq, ?_, l1, l2, by omega, fun p hp => ?_⟩
      · intro z
        rw [z] at e1
        exact l0 (List.length_eq_zero_iff.mp e1)
      · have ex := Ext.upd (K := X.K) (G := G) s (o := .tup (List.replicate n.toNat vs).flatten) hp
        exact k _ γ _ ex (.tup (.inl ⟨.inl upd_same, s.fresh hp⟩) (reps_flat (q.mono ex) _)) (s.upd hp)
    · cases h
  · exact .inr ⟨_, _, S, γ, w, rx, ry, s, h, k⟩
def baSumT : OA := fun xs S => match xs with
  | [.tup ys] => (intsOf ys).map fun ns => .int ns.sum
  | xs => baSum xs S
theorem cr_sumT {X : Cx} {G : Gs} (hc : X.calm = true) : CallR X (.builtin "sum") (raOf X.K G baSumT) := by
  intro pins s σ H vs us Q I r h
  obtain ⟨ws, S, γ, w, rs, ss, e, k⟩ := h
  unfold baSumT at e
  split at e
  · rename_i ys
    cases rs with
    | cons r1 t1 =>
    cases t1
    cases en : intsOf ys with
    | none =>
      rw [en] at e
      cases e
    | some ns =>
      rw [en] at e
      cases e
      cases r1 with
      | @tup a vs' _ f q =>
      have ev := intsOf_reps' q en
      subst ev
      obtain ⟨its, rv, ht, _⟩ := I.tuple f.sq
      rw [Vals.ref1 r]
      have hi : IntsAre its ns := Vals.ints rv
      obtain ⟨xs, ex⟩ := hi.allInts.items
      have hn : numsOf (intItems xs).toList = ns := by rw [← ex]; exact hi.numsOf
      rw [nums_intItems] at hn
      rw [ex] at ht
      refine PySem.W.ktm_sumG (I.ok.hd hc) ht fun h' tk t' hk => ⟨.int ns.sum, H, I.kept hk, ⟨t', ?_⟩, k _ γ H Ext.refl (.int _) ss⟩
      rw [preSum_eq, List.take_of_length_le (by simp), hn]
  · exact cr_sumW hc pins s σ H vs us Q I r ⟨ws, S, γ, w, rs, ss, e, k⟩
end Mp

set_option Elab.async false
set_option linter.all false
set_option maxRecDepth 100000
set_option maxHeartbeats 4000000
/-! Mp: stars in displays, ranges downwards, ranges as lists and tuples, lists backwards, min and max of lists of ints. -/
namespace Mp
open PySem PySem.Spec PyProof.Rows L2
def maStar (f : ME) (g : MA) : MA := fun η S => (f η S).bind fun x S1 => match seqOf S1 x with
  | some xs => (g η S1).bind fun ys S2 => .ok (xs ++ ys) S2
  | none => .stuck
def rangeD (hi : Int) (n : Nat) : List W := (List.range n).map fun (i : Nat) => W.int (hi + i * (-1))
def rng3 : List W → Option (List W)
  | [.int i, .int j, .int k] => if k = -1 ∧ -4611686018427387904 ≤ i ∧ i < 4611686018427387904 ∧ -4611686018427387904 ≤ j ∧ j < 4611686018427387904 then some (rangeD i (i - j).toNat) else none
  | _ => none
def mRevL (f : ME) : ME := fun η S => (f η S).bind fun x S1 => match lstOf S1 x with
  | some xs => .ok (.lst xs.reverse) S1
  | none => .stuck
/-- a range as a list (0), a list of the store (1), a tuple (2) -/
def rgOut (m : Nat) (a b : Int) (S : Store) : R W := if 0 ≤ a ∧ a ≤ 1000000 ∧ 0 ≤ b ∧ b ≤ 1000000 then (match m with
  | 0 => .ok (.lst (rangeW a (b - a).toNat)) S
  | 1 => .ok (.ref S.length) (S ++ [.lst (rangeW a (b - a).toNat)])
  | _ => .ok (.tup (rangeW a (b - a).toNat)) S) else .stuck
def mRg1 (m : Nat) (f : ME) : ME := fun η S => (f η S).bind fun x S1 => match x with
  | .int n => rgOut m 0 n S1
  | _ => .stuck
def mRg2 (m : Nat) (f g : ME) : ME := fun η S => (f η S).bind fun x S1 => (g η S1).bind fun y S2 => match x, y with
  | .int i, .int j => rgOut m i j S2
  | _, _ => .stuck
def minZ : Int → List Int → Int
  | m, [] => m
  | m, x :: r => minZ (if x < m then x else m) r
def maxZ : Int → List Int → Int
  | m, [] => m
  | m, x :: r => maxZ (if m < x then x else m) r
theorem minZ_le : ∀ (l : List Int) (m : Int), (minZ m l = m ∨ minZ m l ∈ l) ∧ minZ m l ≤ m ∧ ∀ x ∈ l, minZ m l ≤ x
  | [], m => ⟨.inl rfl, Int.le_refl _, fun x h => by cases h⟩
  | x :: r, m => by
    obtain ⟨h1, h2, h3⟩ := minZ_le r (if x < m then x else m)
    have e : minZ m (x :: r) = minZ (if x < m then x else m) r := rfl
    rw [e]
    refine ⟨?_, ?_, fun y hy => ?_⟩
    · rcases h1 with h | h
      · rw [h]
        split
        · exact .inr (List.mem_cons_self ..)
        · exact .inl rfl
      · exact .inr (List.mem_cons_of_mem _ h)
    · refine Int.le_trans h2 ?_
      split <;> omega
    · rcases List.mem_cons.mp hy with z | z
      · subst z
        refine Int.le_trans h2 ?_
        split <;> omega
      · exact h3 y z
theorem maxZ_le : ∀ (l : List Int) (m : Int), (maxZ m l = m ∨ maxZ m l ∈ l) ∧ m ≤ maxZ m l ∧ ∀ x ∈ l, x ≤ maxZ m l
  | [], m => ⟨.inl rfl, Int.le_refl _, fun x h => by cases h⟩
  | x :: r, m => by
    obtain ⟨h1, h2, h3⟩ := maxZ_le r (if m < x then x else m)
    have e : maxZ m (x :: r) = maxZ (if m < x then x else m) r := rfl
    rw [e]
    refine ⟨?_, ?_, fun y hy => ?_⟩
    · rcases h1 with h | h
      · rw [h]
        split
        · exact .inr (List.mem_cons_self ..)
        · exact .inl rfl
      · exact .inr (List.mem_cons_of_mem _ h)
    · refine Int.le_trans ?_ h2
      split <;> omega
    · rcases List.mem_cons.mp hy with z | z
      · subst z
        refine Int.le_trans ?_ h2
        split <;> omega
      · exact h3 y z
def baMinL : OA := fun xs S => match xs with
  | [x] => (lstOf S x).bind fun ys => (intsOf ys).bind fun ns => match ns with
    | [] => none
    | n :: r => some (.int (minZ n r))
  | xs => baMin2 xs S
def baMaxL : OA := fun xs S => match xs with
  | [x] => (lstOf S x).bind fun ys => (intsOf ys).bind fun ns => match ns with
    | [] => none
    | n :: r => some (.int (maxZ n r))
  | xs => baMax2 xs S
section
variable {K : PySem.W.Frag} {G : Gs} {γ : Ga} {H : Hp} {S : Store}
theorem itOk_down {hi : Int} {n : Nat} : ItOk K G (Itc hi (-1) n) (rangeD hi n) γ H := by
  refine ⟨fun i γ' H' S h e _ => ?_, fun γ' H' S e _ => ?_, fun i w γ' H' S x H'' hw e s y => ?_⟩
  · show i < n
    unfold rangeD at h
    simpa using h
  · show n ≤ _
    unfold rangeD
    simp
  · obtain ⟨e1, y⟩ := y
    subst e1 y
    unfold rangeD at hw
    rw [List.getElem?_map] at hw
    cases hr : (List.range n)[i]? with
    | none => rw [hr] at hw; cases hw
    | some k =>
      rw [hr] at hw
      cases hw
      obtain ⟨h1, h2⟩ := List.getElem?_eq_some_iff.mp hr
      rw [List.getElem_range] at h2
      subst h2
      exact ⟨Ext.refl, s, .int _⟩
theorem rgV_reps (a b : Int) : Reps K G γ H (rangeW a (b - a).toNat) (rgV a b) := by
  unfold rangeW rgV
  induction (List.range (b - a).toNat) with
  | nil => exact .nil
  | cons x r ih => exact .cons (.int _) ih
theorem pures_rangeW (a : Int) (n : Nat) : pures (rangeW a n) = true := by
  unfold rangeW
  induction (List.range n) with
  | nil => rfl
  | cons x r ih =>
    show (true && pures (r.map fun (i : Nat) => W.int (a + i))) = true
    rw [ih] <;> rfl
end
section
variable {X : Cx} {G : Gs} {a b c e : Expr} {es : List Expr} {pos p p1 p2 p3 : Pos} {f g h : ME} {ga : MA} {tg : Expr}
theorem sa_star (ha : SE X G e f) (hr : SA X G es ga) (hs : starEach (.Starred e p :: es) X.env = (true, eval e X.env) :: starEach es X.env := by rfl) : SA X G (.Starred e p :: es) (maStar f ga) := by
  refine ⟨fun Wi tk => (StX.pa_star (ha.run Wi tk) (hr.run Wi tk) hs).imp ?_⟩
  rintro σ H Q ⟨η, S, γ, he, hs, q⟩
  refine ⟨η, S, γ, he, hs, (Post.seq q).imp fun x H1 ⟨wx, S1, γ1, e1, r1, s1, q1⟩ => ?_⟩
  cases es : seqOf S1 wx with
  | none =>
    simp only [es] at q1
    exact q1.elim
  | some xs =>
    simp only [es] at q1
    obtain ⟨a, vs, ev, hq, qr⟩ := seq_or s1 es r1
    subst ev
    exact ⟨a, vs, rfl, hq.elim .inr .inl, η, S1, γ1, he.mono e1, s1, (Post.seq q1).imp fun y H2 ⟨wy, S2, γ2, e2, r2, s2, q2⟩ => q2 _ γ2 H2 Ext.refl ((qr.mono e2).append r2) s2⟩
theorem si_range3 (hm : X.mg "range" = none) (ha : SA X G [a, b, c] ga) (hg : Gl X "range" := by rfl) (hs : starEach [a, b, c] X.env = (false, eval a X.env) :: starEach [b, c] X.env := by rfl) (hpl : (backTo pos (starEach [b, c] X.env)).any (·.1) = false := by rfl) :
    SI X G tg (.Call (.Name "range" p) [a, b, c] [] pos) (miRng rng3 ga) := by
  refine ⟨fun Wi tk => (pi_range3 hg hm (ha.run Wi tk) hs hpl).imp ?_⟩
  rintro σ H R ⟨η, S, γ, he, hs, q⟩
  refine ⟨η, S, γ, he, hs, (PostI.seq q).imp fun x H1 ⟨wx, S1, γ1, e1, r1, s1, q1⟩ => ?_⟩
  unfold rng3 at q1
  split at q1
  · rename_i i j k
    split at q1
    · rename_i hj
      obtain ⟨hk, h1, h2, h3, h4⟩ := hj
      subst hk
      cases r1 with
      | cons r r1 =>
        cases r1 with
        | cons r' r1 =>
          cases r1 with
          | cons r'' r1 =>
            cases r1
            cases r
            cases r'
            cases r''
            exact ⟨_, _, _, _, rfl, RgC.neg (by omega) (by omega) (by omega) (by omega), q1 _ γ1 H1 Ext.refl s1 itOk_down⟩
    · exact q1.elim
  · exact q1.elim
theorem se_revL {k : Nat} (ha : SE X G e f) : SE X G (.Subscript e (.Slice none none (some (.UnaryOp .USub (.Constant (.int 1) k p1) p2)) p3) pos) (mRevL f) := by
  refine ⟨fun Wi tk => (pe_revL (ha.run Wi tk)).imp ?_⟩
  rintro σ H Q ⟨η, S, γ, he, hs, q⟩
  refine ⟨η, S, γ, he, hs, (Post.seq q).imp fun x H1 ⟨wx, S1, γ1, e1, r1, s1, q1⟩ => ?_⟩
  cases el : lstOf S1 wx with
  | none =>
    simp only [el] at q1
    exact q1.elim
  | some xs =>
    simp only [el] at q1
    obtain ⟨a, vs, ev, hq, qr⟩ := lst_or s1 el r1
    refine ⟨a, vs, ev, hq, fun p hp => ?_⟩
    have ex := Ext.upd (K := X.K) (G := G) s1 (o := .lst vs.reverse) hp
    exact q1 _ γ1 _ ex (.lst upd_same (s1.fresh hp) (Reps.rev (qr.mono ex))) (s1.upd hp)
theorem rg_ok {a b : Int} (h : 0 ≤ a ∧ a ≤ 1000000 ∧ 0 ≤ b ∧ b ≤ 1000000) : RgOk a b := RgOk.of_le h.1 (by omega) (by omega) h.2.2.1
theorem rg_post {wx : Wx} {γ : Ga} {H : Hp} {S : Store} {m : Nat} {i j : Int} {Q : VK} (s : StoreOk X.K G γ H S) (hm : m < 2) (q : Post X.K G (Rep X.K G) wx γ H (rgOut m i j S) Q) : RgOk i j ∧ ∀ p, H p = none → Q (.ref p) (upd H p (.lst (rgV i j))) := by
  unfold rgOut at q
  split at q
  · rename_i hr
    refine ⟨rg_ok hr, fun p hp => ?_⟩
    match m, hm with
    | 0, _ =>
      have ex := Ext.upd (K := X.K) (G := G) s (o := .lst (rgV i j)) hp
      exact q _ γ _ ex (.lst upd_same (s.fresh hp) (rgV_reps i j)) (s.upd hp)
    | 1, _ =>
      have ex := Ext.push (K := X.K) (G := G) s (o := .lst (rgV i j)) hp
      refine q _ _ _ ex (.ref ?_) (s.push hp (pures_rangeW _ _) (rgV_reps i j))
      show (γ.ρ ++ [p])[S.length]? = some p
      rw [← s.len, List.getElem?_append_right (Nat.le_refl _), Nat.sub_self] <;> rfl
  · exact q.elim
theorem rg_postT {wx : Wx} {γ : Ga} {H : Hp} {S : Store} {i j : Int} {Q : VK} (s : StoreOk X.K G γ H S) (q : Post X.K G (Rep X.K G) wx γ H (rgOut 2 i j S) Q) : RgOk i j ∧ ∀ p, H p = none → Q (.ref p) (upd H p (.tup (rgV i j))) := by
  unfold rgOut at q
  split at q
  · rename_i hr
    refine ⟨rg_ok hr, fun p hp => ?_⟩
    have ex := Ext.upd (K := X.K) (G := G) s (o := .tup (rgV i j)) hp
    exact q _ γ _ ex (.tup (.inl ⟨.inl upd_same, s.fresh hp⟩) (rgV_reps i j)) (s.upd hp)
  · exact q.elim
theorem se_listRg1 (m : Nat) (cf : Cfg X) (hm : X.mg "list" = none) (hmr : X.mg "range" = none) (ha : SE X G a f) (hk : m < 2 := by decide) (hg : Gl X "list" := by rfl) (hgr : Gl X "range" := by rfl)
    (na : starEach [a] X.env = (false, eval a X.env) :: starEach [] X.env := by rfl) (nb : starEach [.Call (.Name "range" p1) [a] [] p2] X.env = (false, eval (.Call (.Name "range" p1) [a] [] p2) X.env) :: starEach [] X.env := by rfl) :
    SE X G (.Call (.Name "list" p) [.Call (.Name "range" p1) [a] [] p2] [] pos) (mRg1 m f) := by
  refine ⟨fun Wi tk => (pe_listRg cf.calm hg hm (prg_1 hgr hmr (ha.run Wi tk) na) nb).imp ?_⟩
  rintro σ H Q ⟨η, S, γ, he, hs, q⟩
  refine ⟨η, S, γ, he, hs, (Post.seq q).imp fun x H1 ⟨wx, S1, γ1, e1, r1, s1, q1⟩ => ?_⟩
  split at q1
  · cases r1
    exact ⟨_, rfl, rg_post s1 hk q1⟩
  · exact q1.elim
theorem se_listRg2 (m : Nat) (cf : Cfg X) (hm : X.mg "list" = none) (hmr : X.mg "range" = none) (ha : SE X G a f) (hb : SE X G b g) (hk : m < 2 := by decide) (hg : Gl X "list" := by rfl) (hgr : Gl X "range" := by rfl)
    (na : starEach [a, b] X.env = (false, eval a X.env) :: starEach [b] X.env := by rfl) (nb : starEach [b] X.env = (false, eval b X.env) :: starEach [] X.env := by rfl) (hp : (backTo p2 (starEach [b] X.env)).any (·.1) = false := by rfl)
    (nc : starEach [.Call (.Name "range" p1) [a, b] [] p2] X.env = (false, eval (.Call (.Name "range" p1) [a, b] [] p2) X.env) :: starEach [] X.env := by rfl) :
    SE X G (.Call (.Name "list" p) [.Call (.Name "range" p1) [a, b] [] p2] [] pos) (mRg2 m f g) := by
  refine ⟨fun Wi tk => (pe_listRg cf.calm hg hm (prg_2 hgr hmr (ha.run Wi tk) (hb.run Wi tk) na nb hp) nc).imp ?_⟩
  rintro σ H Q ⟨η, S, γ, he, hs, q⟩
  refine ⟨η, S, γ, he, hs, (Post.seq q).imp fun x H1 ⟨wx, S1, γ1, e1, r1, s1, q1⟩ => ⟨η, S1, γ1, he.mono e1, s1, (Post.seq q1).imp fun y H2 ⟨wy, S2, γ2, e2, r2, s2, q2⟩ => ?_⟩⟩
  split at q2
  · cases r1
    cases r2
    exact ⟨_, _, rfl, rfl, rg_post s2 hk q2⟩
  · exact q2.elim
theorem se_tupRg1 (cf : Cfg X) (hm : X.mg "tuple" = none) (hmr : X.mg "range" = none) (ha : SE X G a f) (hg : Gl X "tuple" := by rfl) (hgr : Gl X "range" := by rfl)
    (na : starEach [a] X.env = (false, eval a X.env) :: starEach [] X.env := by rfl) (nb : starEach [.Call (.Name "range" p1) [a] [] p2] X.env = (false, eval (.Call (.Name "range" p1) [a] [] p2) X.env) :: starEach [] X.env := by rfl) :
    SE X G (.Call (.Name "tuple" p) [.Call (.Name "range" p1) [a] [] p2] [] pos) (mRg1 2 f) := by
  refine ⟨fun Wi tk => (pe_tupRg cf.calm hg hm (prg_1 hgr hmr (ha.run Wi tk) na) nb).imp ?_⟩
  rintro σ H Q ⟨η, S, γ, he, hs, q⟩
  refine ⟨η, S, γ, he, hs, (Post.seq q).imp fun x H1 ⟨wx, S1, γ1, e1, r1, s1, q1⟩ => ?_⟩
  split at q1
  · cases r1
    exact ⟨_, rfl, rg_postT s1 q1⟩
  · exact q1.elim
theorem cr_minL (hc : X.calm = true) : CallR X (.builtin "min") (raOf X.K G baMinL) := by
  refine (CallR.or (cr_min hc) (cr_min2 (G := G) hc)).imp ?_
  rintro xs H Q ⟨ws, S, γ, w, rs, s, h, k⟩
  unfold baMinL at h
  split at h
  · rename_i y
    cases rs with
    | cons r t =>
    cases t
    cases el : lstOf S y with
    | none => rw [el] at h; cases h
    | some ys =>
      rw [el] at h
      cases en : intsOf ys with
      | none =>
        have h : (intsOf ys).bind _ = some w := h
        rw [en] at h; cases h
      | some ns =>
        have h : (intsOf ys).bind _ = some w := h
        rw [en] at h
        cases ns with
        | nil => cases h
        | cons n rr =>
          cases h
          obtain ⟨a, vs, rfl, hs, q⟩ := lst_or s el r
          have ev := intsOf_reps' q en
          subst ev
          refine .inl ⟨a, n :: rr, rfl, hs, by rw [List.length_cons]; omega, fun m hm hle => ?_⟩
          obtain ⟨h1, h2, h3⟩ := minZ_le rr n
          have e : m = minZ n rr := by
            have a1 : minZ n rr ≤ m := by
              rcases List.mem_cons.mp hm with z | z
              · rw [z]; exact h2
              · exact h3 m z
            have a2 : m ≤ minZ n rr := by
              rcases h1 with z | z
              · rw [z]; exact hle _ (List.mem_cons_self ..)
              · exact hle _ (List.mem_cons_of_mem _ z)
            omega
          rw [e]
          exact k _ γ H Ext.refl (.int _) s
  · exact .inr ⟨ws, S, γ, w, rs, s, h, k⟩
theorem cr_maxL (hc : X.calm = true) : CallR X (.builtin "max") (raOf X.K G baMaxL) := by
  refine (CallR.or (cr_max hc) (cr_max2 (G := G) hc)).imp ?_
  rintro xs H Q ⟨ws, S, γ, w, rs, s, h, k⟩
  unfold baMaxL at h
  split at h
  · rename_i y
    cases rs with
    | cons r t =>
    cases t
    cases el : lstOf S y with
    | none => rw [el] at h; cases h
    | some ys =>
      rw [el] at h
      cases en : intsOf ys with
      | none =>
        have h : (intsOf ys).bind _ = some w := h
        rw [en] at h; cases h
      | some ns =>
        have h : (intsOf ys).bind _ = some w := h
        rw [en] at h
        cases ns with
        | nil => cases h
        | cons n rr =>
          cases h
          obtain ⟨a, vs, rfl, hs, q⟩ := lst_or s el r
          have ev := intsOf_reps' q en
          subst ev
          refine .inl ⟨a, n :: rr, rfl, hs, by rw [List.length_cons]; omega, fun m hm hle => ?_⟩
          obtain ⟨h1, h2, h3⟩ := maxZ_le rr n
          have e : m = maxZ n rr := by
            have a1 : m ≤ maxZ n rr := by
              rcases List.mem_cons.mp hm with z | z
              · rw [z]; exact h2
              · exact h3 m z
            have a2 : maxZ n rr ≤ m := by
              rcases h1 with z | z
              · rw [z]; exact hle _ (List.mem_cons_self ..)
              · exact hle _ (List.mem_cons_of_mem _ z)
            omega
          rw [e]
          exact k _ γ H Ext.refl (.int _) s
  · exact .inr ⟨ws, S, γ, w, rs, s, h, k⟩
end
end Mp

set_option Elab.async false
set_option linter.all false
set_option maxRecDepth 100000
set_option maxHeartbeats 4000000
/-! Mp: dicts of the store. -/
namespace Mp
open PySem PySem.Spec PyProof.Rows L2
section
variable {K : PySem.W.Frag} {G : Gs} {γ γ' : Ga} {H H' : Hp} {S : Store}
theorem StoreOk.writeC (s : StoreOk K G γ H S) {i : Nat} {a : Addr} {c c' : Cell} {o : HO} (hc : S[i]? = some c) (ha : γ.ρ[i]? = some a) (hn : Ext γ H γ (L2.upd H a o) → CellOk K G γ (L2.upd H a o) c' a) :
    Ext γ H γ (L2.upd H a o) ∧ StoreOk K G γ (L2.upd H a o) (S.set i c') := by
  have mem : a ∈ γ.ρ := List.mem_of_getElem? ha
  have e : Ext γ H γ (L2.upd H a o) := ⟨List.prefix_refl _, fun _ h => h, fun _ h => .inl h, fun b u q n => by
    have z : b ≠ a := fun z => n (by rw [z]; exact mem)
    rw [upd_ne z]; exact q, fun _ h1 h2 => absurd h1 h2, fun b u q => by
    by_cases z : b = a
    · exact ⟨_, by rw [z]; exact upd_same⟩
    · exact ⟨u, by rw [upd_ne z]; exact q⟩⟩
  refine ⟨e, by rw [List.length_set]; exact s.len, s.nd, fun j c2 b hc' hb => ?_, fun b hb => ?_⟩
  · by_cases hj : i = j
    · subst hj
      rw [List.getElem?_set_self (List.getElem?_eq_some_iff.mp hc).1] at hc'
      have z : c' = c2 := Option.some.inj hc'
      subst z
      rw [ha] at hb
      cases hb
      exact hn e
    · rw [List.getElem?_set_ne hj] at hc'
      have hne : b ≠ a := fun z => by
        rw [z] at hb
        obtain ⟨h1, e1⟩ := List.getElem?_eq_some_iff.mp ha
        obtain ⟨h2, e2⟩ := List.getElem?_eq_some_iff.mp hb
        exact hj ((List.getElem_inj s.nd).mp (e1.trans e2.symm))
      exact (s.cell j c2 b hc' hb).to (fun o' e' => by rw [upd_ne hne]; exact e') fun _ r => r.mono e
  · obtain ⟨n, o', q, nt⟩ := s.bt b hb
    exact ⟨n, o', by rw [upd_ne (fun z => n (by rw [z]; exact mem))]; exact q, nt⟩
theorem StoreOk.pushC (s : StoreOk K G γ H S) {p : Addr} {c : Cell} {o : HO} (h : H p = none) (hn : Ext γ H (γ.push p) (L2.upd H p o) → CellOk K G (γ.push p) (L2.upd H p o) c p) : StoreOk K G (γ.push p) (L2.upd H p o) (S ++ [c]) := by
  have e := Ext.push (K := K) (G := G) s (o := o) h
  have off := s.fresh h
  refine ⟨by simp [Ga.push, s.len], ?_, fun i c2 a hc ha => ?_, fun a ha => ?_⟩
  · show (γ.ρ ++ [p]).Nodup
    rw [List.nodup_append]
    exact ⟨s.nd, by simp, fun a ha b hb => by
      have z : b = p := by simpa using hb
      rw [z]
      rintro rfl
      exact off.1 ha⟩
  · by_cases hi : i < S.length
    · rw [List.getElem?_append_left hi] at hc
      have hi' : i < γ.ρ.length := by rw [s.len]; exact hi
      have ha' : γ.ρ[i]? = some a := by
        have z : (γ.ρ ++ [p])[i]? = some a := ha
        rwa [List.getElem?_append_left hi'] at z
      exact (s.cell i c2 a hc ha').to (fun o' e' => by rw [upd_ne (ne_of_none e' h)]; exact e') fun _ r => r.mono e
    · have hlt := (List.getElem?_eq_some_iff.mp hc).1
      rw [List.length_append, List.length_singleton] at hlt
      have ei : i = S.length := by omega
      subst ei
      rw [List.getElem?_append_right (Nat.le_refl _), Nat.sub_self] at hc
      have hc' : c = c2 := by simpa using hc
      subst hc'
      have ha' : p = a := by
        have z : (γ.ρ ++ [p])[S.length]? = some a := ha
        rw [← s.len, List.getElem?_append_right (Nat.le_refl _), Nat.sub_self] at z
        simpa using z
      subst ha'
      exact hn e
  · obtain ⟨n, o', q, nt⟩ := s.bt a ha
    refine ⟨fun z => ?_, o', by rw [upd_ne (ne_of_none q h)]; exact q, nt⟩
    rcases List.mem_append.mp z with z | z
    · exact n z
    · have z' : a = p := by simpa using z
      rw [z', h] at q
      cases q
theorem pures_keys : ∀ kvs : List (Key × V), pures (kvs.map fun p => keyW p.1) = true
  | [] => rfl
  | p :: r => by
    show ((keyW p.1).pure && pures (r.map fun p => keyW p.1)) = true
    rw [pures_keys r, Bool.and_true]
    cases p.1 <;> rfl
theorem pures_put {k w : W} (hw : w.pure = true) : ∀ {ks vs : List W}, pures vs = true → pures (putVs k w ks vs) = true := by
  intro ks vs hv
  unfold putVs
  split
  · have z : ∀ (ks vs : List W), pures vs = true → pures (setKey k w ks vs) = true := by
      intro ks
      induction ks with
      | nil => intro vs _; cases vs <;> rfl
      | cons x r ih =>
        intro vs hv
        cases vs with
        | nil => rfl
        | cons u us =>
          rw [pures, Bool.and_eq_true] at hv
          show ((if keqW x k = true then w else u).pure && pures (setKey k w r us)) = true
          rw [ih us hv.2, Bool.and_true]
          split
          · exact hw
          · exact hv.1
    exact z ks vs hv
  · rw [pures_append hv (by show (w.pure && true) = true; rw [hw]; rfl)]
def setAtD (o i w : W) (S : Store) : Option Store := match dctOf S o, o with
  | some (.bl false :: ks, vs), .ref r => if isKey i = true ∧ w.pure = true ∧ ks.length + 1 ≤ bigLine then some (S.set r (.dct (.bl false :: putKs i ks) (putVs i w ks vs))) else none
  | some _, _ => none
  | none, _ => setAt o i w S
def gIdxD (o i : ME) : MG := fun w η S => match o η S with
  | .ok ow S1 => (match i η S1 with
    | .ok iw S2 => (setAtD ow iw w S2).map fun S3 => (η, S3)
    | _ => none)
  | _ => none
theorem setAtD_sound {S' : Store} {o i w : W} {ov iv v : V} {Q : Hp → Prop} (s : StoreOk K G γ H S) (ro : Rep K G γ H o ov) (ri : Rep K G γ H i iv) (r : Rep K G γ H w v) (e : setAtD o i w S = some S')
    (q : ∀ H', Ext γ H γ H' → StoreOk K G γ H' S' → Q H') : rSetL ov iv v H Q ∨ rSetD ov iv v H Q := by
  unfold setAtD at e
  split at e
  · rename_i ks vs rr hd
    split at e
    · rename_i hk
      obtain ⟨hk1, hk2, hk3⟩ := hk
      cases e
      obtain ⟨key, rfl, rfl⟩ := key_rep ri hk1
      cases ro with
      | @ref _ a ha =>
      have hd : (match S[rr]? with
        | some (.dct ks vs) => some (ks, vs)
        | _ => none) = some (.bl false :: ks, vs) := hd
      split at hd
      · rename_i hc
        cases hd
        obtain ⟨_, pv, us, d, qv⟩ := s.cell rr _ a hc ha
        obtain ⟨kvs, hH, rfl, rfl⟩ := dct_k d
        rw [List.length_map, bigLine_eq] at hk3
        obtain ⟨x1, x2⟩ := s.writeC (o := .dK (putK kvs key v)) (c' := .dct (.bl false :: putKs (keyW key) (kvs.map fun p => keyW p.1)) (putVs (keyW key) w (kvs.map fun p => keyW p.1) vs)) hc ha fun ex => by
          refine ⟨?_, pures_put hk2 pv, _, .inl ⟨putK kvs key v, upd_same, by rw [put_ks], rfl⟩, (put_vs key r kvs qv).mono ex⟩
          rw [← put_ks key v]
          show (true && pures _) = true
          rw [pures_keys] <;> rfl
        exact .inr ⟨a, _, rfl, DPut.k hH (by omega), q _ x1 x2⟩
      · cases hd
    · cases e
  · cases e
  · exact .inl (setAt_sound s ro ri r e q)
end
theorem set_or {X : Cx} (hu : X.A.units + 1 < cLine) : PSet X fun o i v H Q => rSetL o i v H Q ∨ rSetD o i v H Q := by
  intro pins s σ H o i v ov iv u Q I ro ri rv h
  rcases h with h | h
  · exact set_list pins s σ H o i v ov iv u Q I ro ri rv h
  · exact set_dict hu pins s σ H o i v ov iv u Q I ro ri rv h
/-- {} into the store -/
def mDctS : ME := fun _ S => .ok (.ref S.length) (S ++ [.dct [.bl false] []])
/-- {} that nobody changes -/
def mDct0 : ME := fun _ S => .ok (.dct [.bl false] []) S
def omGet2 : OM := fun x ws S => match dctOf S x, ws with
  | some (.bl false :: ks, vs), [k, d] => if isKey k = true then some ((lookKey k ks vs).getD d, S) else none
  | _, _ => none
def omGet1 : OM := fun x ws S => match dctOf S x, ws with
  | some (.bl false :: ks, vs), [k] => if isKey k = true then some ((lookKey k ks vs).getD .non, S) else none
  | _, _ => none
/-- d[k] of a dict -/
def opIxD : O2 := fun x y S => match dctOf S x with
  | some (.bl false :: ks, vs) => if isKey y = true then lookKey y ks vs else none
  | _ => none
section
variable {X : Cx} {G : Gs} {a b : Expr} {pos : Pos} {f g fo fi : ME}
theorem sg_idxD (cf : Cfg X) (ho : SE X G a fo) (hi : SE X G b fi) (ha : ∀ v, assign (.Subscript a b pos) X.env v = (do
      let ov ← holding [v] (eval a X.env)
      let iv ← holding [v, ov] (eval b X.env)
      standAt pos
      holding [v, ov, iv] (setItem ov iv v)
      release [v, ov, iv] []) := by intro _; rfl) : SG X G (.Subscript a b pos) [] (gIdxD fo fi) := by
  refine ⟨(pg_sub (ho.run (fun _ _ _ _ => False) takes0) (hi.run (fun _ _ _ _ => False) takes0) (set_or (by have := cf.un; omega)) ha).imp ?_⟩
  rintro v σ H Q ⟨η, S, γ, w, η', S', he, hs, r, e, q⟩
  unfold gIdxD at e
  cases e1 : fo η S with
  | ok ow S1 =>
    rw [e1] at e
    refine ⟨η, S, γ, he, hs, ?_⟩
    rw [e1]
    intro ov γ1 H1 x1 ro s1
    cases e2 : fi η S1 with
    | ok iw S2 =>
      simp only [e2] at e
      refine ⟨η, S1, γ1, he.mono x1, s1, ?_⟩
      rw [e2]
      intro iv γ2 H2 x2 ri s2
      cases e3 : setAtD ow iw w S2 with
      | none =>
        rw [e3] at e
        cases e
      | some S3 =>
        rw [e3] at e
        cases e
        exact setAtD_sound s2 (ro.mono x2) ri ((r.mono x1).mono x2) e3 fun H3 x3 s3 => q σ γ2 H3 ((x1.trans x2).trans x3) (((he.mono x1).mono x2).mono x3) s3 rfl fun _ _ => rfl
    | exc c x S2 => simp only [e2] at e; cases e
    | stuck => simp only [e2] at e; cases e
  | exc c x S2 => rw [e1] at e; cases e
  | stuck => rw [e1] at e; cases e
theorem se_dctS : SE X G (.Dict [] [] pos) mDctS := by
  refine ⟨fun Wi tk => pe_dnewK.imp ?_⟩
  rintro σ H Q ⟨η, S, γ, he, hs, q⟩
  intro p hp
  have ex := Ext.push (K := X.K) (G := G) hs (o := .dK []) hp
  refine q _ _ _ ex (.ref ?_) (hs.pushC hp fun _ => ⟨rfl, rfl, [], .inl ⟨[], upd_same, rfl, rfl⟩, .nil⟩)
  show (γ.ρ ++ [p])[S.length]? = some p
  rw [← hs.len, List.getElem?_append_right (Nat.le_refl _), Nat.sub_self] <;> rfl
theorem se_dct0 : SE X G (.Dict [] [] pos) mDct0 := by
  refine ⟨fun Wi tk => pe_dnewK.imp ?_⟩
  rintro σ H Q ⟨η, S, γ, he, hs, q⟩
  intro p hp
  have ex := Ext.upd (K := X.K) (G := G) hs (o := .dK []) hp
  exact q _ γ _ ex (.dct (.inl ⟨[], upd_same, rfl, rfl⟩) (hs.fresh hp) .nil) (hs.upd hp)
theorem look_get {K : PySem.W.Frag} {γ : Ga} {H : Hp} {ws : List W} {kvs : List (Key × V)} {k : Key} {d : W} {dv : V} (q : Reps K G γ H ws (kvs.map (·.2))) (rd : Rep K G γ H d dv) : Rep K G γ H ((lookKey (keyW k) (kvs.map fun p => keyW p.1) ws).getD d) ((valV kvs k).getD dv) := by
  rcases look_kv k kvs q with ⟨w, v, h1, h2, h3⟩ | ⟨h1, h2⟩
  · rw [h1, h2]
    exact h3
  · rw [h1, h2]
    exact rd
theorem om_get2 (cf : Cfg X) : MtR X "dict.get" (rmOf X.K G omGet2) := by
  intro pins s σ H x xs v us Q I rx rxs h
  obtain ⟨wx, ws, S, γ, w, S3, r, rs, ss, e, k⟩ := h
  unfold omGet2 at e
  split at e
  · rename_i ks vs kk d hd
    split at e
    · rename_i hk
      cases e
      obtain ⟨a, us', rfl, dd, q⟩ := dctOf_rep ss r hd
      obtain ⟨kvs, hH, rfl, rfl⟩ := dct_k dd
      cases rs with
      | cons rk t =>
      cases t with
      | @cons _ dv _ _ rdv t =>
      cases t
      obtain ⟨key, rfl, rfl⟩ := key_rep rk hk
      cases rxs with
      | cons ra t1 =>
      cases t1 with
      | cons rb t2 =>
      cases t2
      obtain rfl : v = Value.ref a := rx
      exact d_get2 (by have := cf.un; omega) I (DGet.k (k := key) hH) ra rb fun w' s' I' rw' => ⟨_, H, I', rw', k _ γ H Ext.refl (look_get q rdv) ss⟩
    · cases e
  · cases e
theorem om_get1 (cf : Cfg X) : MtR X "dict.get" (rmOf X.K G omGet1) := by
  intro pins s σ H x xs v us Q I rx rxs h
  obtain ⟨wx, ws, S, γ, w, S3, r, rs, ss, e, k⟩ := h
  unfold omGet1 at e
  split at e
  · rename_i ks vs kk hd
    split at e
    · rename_i hk
      cases e
      obtain ⟨a, us', rfl, dd, q⟩ := dctOf_rep ss r hd
      obtain ⟨kvs, hH, rfl, rfl⟩ := dct_k dd
      cases rs with
      | cons rk t =>
      cases t
      obtain ⟨key, rfl, rfl⟩ := key_rep rk hk
      cases rxs with
      | cons ra t1 =>
      cases t1
      obtain rfl : v = Value.ref a := rx
      exact d_get1 (by have := cf.un; omega) I (DGet.k (k := key) hH) ra fun w' s' I' rw' => ⟨_, H, I', rw', k _ γ H Ext.refl (look_get q .non) ss⟩
    · cases e
  · cases e
theorem se_dix (cf : Cfg X) (ha : SE X G a f) (hb : SE X G b g) (hs : NoSl b := by intro _ _; rfl) : SE X G (.Subscript a b pos) (mBin opIxD f g) := by
  refine ⟨fun Wi tk => (pe_dget (by have := cf.un; omega) (ha.run Wi tk) (hb.run Wi tk) hs).imp ?_⟩
  rintro σ H Q ⟨η, S, γ, he, hst, q⟩
  refine ⟨η, S, γ, he, hst, (Post.seq q).imp fun x H1 ⟨wx, S1, γ1, e1, r1, s1, q1⟩ => ⟨η, S1, γ1, he.mono e1, s1, (Post.seq q1).imp fun y H2 ⟨wy, S2, γ2, e2, r2, s2, q2⟩ => ?_⟩⟩
  have r1' := r1.mono e2
  unfold opIxD at q2
  split at q2
  · rename_i ks vs hd
    split at q2
    · rename_i hk
      obtain ⟨a, us', rfl, dd, q⟩ := dctOf_rep s2 r1' hd
      obtain ⟨kvs, hH, rfl, rfl⟩ := dct_k dd
      obtain ⟨key, rfl, rfl⟩ := key_rep r2 hk
      rcases look_kv key kvs q with ⟨w, v, h1, h2, h3⟩ | ⟨h1, h2⟩
      · rw [h1] at q2
        refine ⟨a, v, rfl, ?_, q2 _ γ2 H2 Ext.refl h3 s2⟩
        have g := DGet.k (k := key) hH
        rw [h2] at g
        exact g
      · rw [h1] at q2
        exact q2.elim
    · exact q2.elim
  · exact q2.elim
end
end Mp

set_option Elab.async false
set_option linter.all false
set_option maxRecDepth 100000
set_option maxHeartbeats 4000000
/-! Mp: itertools.combinations of a range. -/
namespace MpC
open PySem PySem.Spec PyProof.Rows
open Sem (wp)
theorem collect_rangeL {prog : Program} {w : World} {A : Around} {E : Value → Shared → Prop} {s : Shared} {r : Addr} {a b c : Int} {t u v : Tok} {n : Nat} {Q : List Value → Shared → Prop} (hh : A.handled = none) (hr : IsRange s.heap r a b c t u v) (hsmall : Builtin.Range.small a b c = true) (hn : Builtin.Range.rangeSize a b c = n) (hlen : n ≤ 2 ^ 24)
    (hQ : ∀ (h' : Heap) (tk : Nat) (acc : Array Value), (∀ b o, s.heap.get? b = some o → h'.get? b = some o) → ItemsOf (fun i v => ∃ t, v = .int (a + i * c) t) acc n → acc.toList.length ≤ sizeLine → acc.toList.length = n → Q acc.toList { s with heap := h', toks := tk }) :
    wpAny (model prog w) A (collect (.ref r)) Q E s := L2.collect_range hh hr hsmall hn hlen fun h' tk acc hk hi => by
  have e : acc.toList.length = n := by rw [Array.length_toList]; exact hi.1
  exact hQ h' tk acc hk hi (by rw [e, sizeLine_eq]; omega) e
theorem meets_cR (l : Addr) (a b : Int) (t1 t2 t3 : Tok) (n : Nat) (r : Nat) (t : Tok) (hr : r ≤ 1048576) (hsm : Builtin.Range.small a b 1 = true) (hn : Builtin.Range.rangeSize a b 1 = n) (hz : n ≤ 2 ^ 24) : Meets (Builtin.«itertools.combinations.__new__» ⟨[.type "itertools.combinations", .ref l, .int r t], []⟩) (fun A R s => A.handled = none ∧ IsRange s.heap l a b 1 t1 t2 t3 ∧
    ∀ (h' : Heap) (tk : Nat) (acc : Array Value), (∀ b o, s.heap.get? b = some o → h'.get? b = some o) → ItemsOf (fun i v => ∃ t, v = .int (a + i * 1) t) acc n → R (.ok (.ret (.ref (h'.objs.size + 1)))) { s with heap := (h'.push { cls := .type "tuple", data := .seq acc }).push { cls := .type "itertools.combinations", data := .fields (#[.ref h'.objs.size, rawInt (if r > n then 2 else 0), .none] ++ ((List.range r).map fun (n : Nat) => rawInt n).toArray) }, toks := tk }) :=
  .of_wp fun prog w A R s h => by
    obtain ⟨hp, g, d, tk, os⟩ := s
    obtain ⟨hh, hl, h⟩ := h
    have hsub := sub_c
    have hsub2 : isSubtype (.type "itertools.combinations") (.type ("itertools." ++ "combinations")) = pure true := by
      rw [show ("itertools." ++ "combinations" : String) = "itertools.combinations" from by decide +kernel]
      exact sub_c
    have hd := noDict_c
    have hn' : ¬ (((decide ((r : Int) < -(2 ^ 63 : Int)) || decide ((r : Int) ≥ (2 ^ 63 : Int)))) = true) := by
      have a : decide ((r : Int) < -(2 ^ 63 : Int)) = false := decide_eq_false (by omega)
      have b : decide ((r : Int) ≥ (2 ^ 63 : Int)) = false := decide_eq_false (by omega)
      rw [a, b]
      decide
    unfold Builtin.«itertools.combinations.__new__»
    have n0 : ¬ ((r : Int) < 0) := by omega
    have n1 : ¬ (Builtin.Itertools.itTooMany (r : Int) = true) := by unfold Builtin.Itertools.itTooMany; rw [decide_eq_true_eq]; omega
    repeat (first
      | (with_reducible show wpAny _ _ (collect _) _ _ _; refine collect_rangeL (A := A.in1) hh hl hsm hn hz fun h' tk' acc hk hi hz2 hsz => ?_)
      | (refine wpAny_ite_false (decide_eq_false n0) ?_)
      | wp_step
      | simp only [List.head?_cons, Option.some_or, List.getElem?_cons_succ, List.getElem?_cons_zero, List.length_cons, List.length_nil, List.forIn_nil]
      | (refine wpAny_ite_false (decide_eq_false hn') ?_))
    rw [if_neg (by rw [List.size_toArray, hsz, sizeLine_eq]; omega)]
    simp only [newObjAsIs]
    refine wpAny_bind (wpAny_alloc (wpAny_pure ?_))
    repeat (first
      | wp_step
      | simp only [List.head?_cons, Option.some_or, List.getElem?_cons_succ, List.getElem?_cons_zero, List.length_cons, List.length_nil, List.forIn_nil])
    rw [if_neg (by rw [List.size_toArray, List.length_append, List.length_map, List.length_range, Int.toNat_natCast, sizeLine_eq]; show ¬ 3 + r > _; omega)]
    simp only [newObjAsIs]
    refine wpAny_bind (wpAny_alloc (wpAny_pure (wpAny_pure ⟨_, rfl, ?_⟩)))
    have z2 : (h'.push { cls := .type "tuple", data := .seq acc.toList.toArray }).objs.size = h'.objs.size + 1 := size_push' _ _
    have e3 : ∀ (a b c : Value) (L : List Value), ([a, b, c] ++ L).toArray = #[a, b, c] ++ L.toArray := fun a b c L => Array.toList_inj.mp (by simp)
    have fin := h h' tk' acc hk hi
    show R (.ok (.ret (.ref (h'.push { cls := .type "tuple", data := .seq acc.toList.toArray }).objs.size))) ⟨(h'.push { cls := .type "tuple", data := .seq acc.toList.toArray }).push { cls := .type "itertools.combinations", data := .fields ([Value.ref h'.objs.size, rawInt (if (r : Int).toNat > acc.toList.length then 2 else 0), .none] ++ (List.range (r : Int).toNat).map fun (n : Nat) => rawInt n).toArray }, g, d, tk', os⟩
    rw [z2, e3, Int.toNat_natCast, hsz, Array.toArray_toList]
    exact fin
section
variable {prog : Program} {w : World} {A : Around} {E : Value → Shared → Prop} {s : Shared}
theorem madeR {l : Addr} {a b : Int} {t1 t2 t3 t : Tok} {n r : Nat} {Q : Value → Shared → Prop} (hh : A.handled = none) (hl : IsRange s.heap l a b 1 t1 t2 t3) (hr : r ≤ 1048576) (hsm : Builtin.Range.small a b 1 = true) (hn : Builtin.Range.rangeSize a b 1 = n) (hz : n ≤ 2 ^ 24)
    (h : ∀ (h' hf : Heap) (tk : Nat) (acc : Array Value), (∀ b o, s.heap.get? b = some o → h'.get? b = some o) → ItemsOf (fun i v => ∃ t, v = .int (a + i * 1) t) acc n → IsComb hf (h'.objs.size + 1) h'.objs.size (if r > n then 2 else 0) .none (List.range r) → hf.get? h'.objs.size = some { cls := .type "tuple", data := .seq acc } → (∀ b o, h'.get? b = some o → hf.get? b = some o) → Q (.ref (h'.objs.size + 1)) { s with heap := hf, toks := tk }) :
    wpAny (model prog w) A (call (.type "itertools.combinations") [.ref l, .int r t]) Q E s := by
  refine callType_new called_c (by decide +kernel) (typeCall_c _ _) (newCall_c _ _) (fun obj => F.args_object_init_3 obj _ _) entry_c_new (meets_cR l a b t1 t2 t3 n r t hr hsm hn hz) ⟨hh, hl, fun h' tk acc hk hi => ?_⟩
  have z1 : (h'.push { cls := .type "tuple", data := .seq acc }).objs.size = h'.objs.size + 1 := size_push' _ _
  have g1 := Heap.get?_push_size h' (o := { cls := .type "tuple", data := .seq acc }) rfl
  have g2 := Heap.get?_push_size (h'.push { cls := .type "tuple", data := .seq acc }) (o := { cls := .type "itertools.combinations", data := .fields (#[.ref h'.objs.size, rawInt (if r > n then 2 else 0), .none] ++ ((List.range r).map fun (n : Nat) => rawInt n).toArray) }) rfl
  rw [z1] at g2
  exact ⟨⟨_, g2, rfl⟩, h h' _ tk acc hk hi g2 (Heap.get?_push_of_some _ g1) fun b o q => Heap.get?_push_of_some _ (Heap.get?_push_of_some _ q)⟩
end
end MpC

set_option Elab.async false
set_option linter.all false
set_option maxRecDepth 100000
set_option maxHeartbeats 4000000
/-! Mp: itertools.combinations of a range, walked. -/
namespace Mp
open PySem PySem.Spec PyProof.Rows L2
def PRgF (X : Cx) (e : Expr) (t : L2.St → Hp → (Int → Int → Hp → Prop) → Prop) : Prop :=
  ∀ (pins : List (Addr × Obj)) (s : Shared) (σ : L2.St) (H : Hp) (Q : Int → Int → Hp → Prop), Inv X pins σ H s → t σ H Q →
    wpAny (model X.prog X.w) X.A (eval e X.env) (fun x s' => ∃ r a b t u v H', x = .ref r ∧ IsRange s'.heap r a b 1 t u v ∧ Inv X pins σ H' s' ∧ FpOk X pins H' r ∧ Q a b H') X.xe s
theorem prgF_1 {X : Cx} {a : Expr} {ta : TE} {p pos : Pos} (hg : Gl X "range") (hm : X.mg "range" = none) (ha : PE X a ta) (na : starEach [a] X.env = (false, eval a X.env) :: starEach [] X.env := by rfl) : PRgF X (.Call (.Name "range" p) [a] [] pos) (tRg1 ta) := by
  intro pins s σ H Q I h
  refine Call_ (ld_blt I hg hm boot_range (PyProof.Rows.callWith_type1 (one_arg ha I h (fun v s2 x H2 I2 r q => ?_) na) na))
  obtain ⟨n, rfl, q⟩ := q
  obtain ⟨t, rfl⟩ := r
  exact call_range_1 ⟨_, 0, n, _, _, _, H2, rfl, IsRange.new _ _ _ _ _ _ _, I2.kept fun b u e => Heap.get?_push_of_some _ e, I2.fpOk (Nat.le_refl _) (I2.hok.fresh (Nat.le_refl _)), q⟩
def iCombR (te : L2.St → Hp → (Int → Int → Hp → Prop) → Prop) (tk : TE) : TI := fun σ H R => te σ H fun a b H1 => tk σ H1 fun y H2 => ∃ r L, y = .int (r : Nat) ∧ RgOk a b ∧ r ≤ 1048576 ∧ combAll (rgV a b).length r = some L ∧ R (ItC (rgV a b) L) H2
theorem pi_combR {X : Cx} {tg e b : Expr} {te : L2.St → Hp → (Int → Int → Hp → Prop) → Prop} {tk : TE} {p pos : Pos} {x : Str} (hc : X.calm = true) (hg : Gl X x) (hm : X.mg x = some (.type "itertools.combinations")) (he : PRgF X e te) (hb : PE X b tk) (hdb : (x == ("__debug__" : Str)) = false := by decide)
    (hs : starEach [e, b] X.env = (false, eval e X.env) :: starEach [b] X.env := by rfl) (hs2 : starEach [b] X.env = (false, eval b X.env) :: starEach [] X.env := by rfl) (hpl : (backTo pos (starEach [b] X.env)).any (·.1) = false := by rfl) : PI X tg (.Call (.Name x p) [e, b] [] pos) (iCombR te tk) := by
  refine ⟨fun pins s σ H R I h => ?_⟩
  refine Call_ (ld_glob I hg hm (PyProof.Rows.callWith_type1 (args_cons (thn (he pins s σ H _ I h) fun xv s1 ⟨r, i, j, t, u, v, H1, ex, hr, I1, fr, q1⟩ => ?_) hs) hs hpl) hdb)
  subst ex
  have I1p : Inv X (pins ++ pinsAt [r] s1.heap) σ H1 s1 := I1.pinned (fun b hb => by rw [List.mem_singleton.mp hb]; exact fr) fun b hb => by
    rw [List.mem_singleton.mp hb]
    exact ⟨_, hr, fun v z => nomatch z⟩
  refine args_cons (thn (hb.run _ s1 σ H1 _ I1p q1) fun yv s2 ⟨y, H2, I2p, ry, q2⟩ => args_nil ?_) hs2
  obtain ⟨k, L, ey, ok, hk, hL, q⟩ := q2
  subst ey
  obtain ⟨tk', rfl⟩ := ry
  have hr2 : IsRange s2.heap r i j 1 t u v := (I2p.pin _ (List.mem_append_right _ (List.mem_append_right _ (mem_pinsAt (List.mem_singleton.mpr rfl) hr)))).1
  have I2 : Inv X pins σ H2 s2 := I2p.unpinned
  obtain ⟨b1, b2, b3, b4, b5⟩ := ok
  refine MpC.madeR (I2.ok.hd hc) hr2 hk (small_one b1 b2 b3 b4) (rangeSize_nat i j) b5 fun h' hf tk2 acc hk1 hi hit hpool hk2 => MpC.iter_c hit ?_
  have I3 : Inv X pins σ H2 { s2 with heap := h', toks := tk2 } := I2.kept hk1
  have I4 : Inv X pins σ H2 { s2 with heap := hf, toks := tk2 } := I3.kept (t' := tk2) hk2
  have rv : Vals (rgV i j) acc.toList := vals_rg hi
  have hl : (rgV i j).length = acc.toList.length := rv.length
  have hn : acc.toList.length = (j - i).toNat := by rw [← hl, rgV_length]
  rw [hl] at hL
  have C := chain_of hL
  refine ⟨h'.objs.size + 1, [h'.objs.size + 1, h'.objs.size], _, _, H2, rfl, I4, turn_c (h'.objs.size + 1) h'.objs.size (Nat.ne_of_lt (Nat.lt_succ_self _)) rv hk C, ⟨by rw [Array.toArray_toList]; exact hpool, _, _, _, hit, ?_⟩, fun b hb => ?_, q⟩
  · by_cases z : L = []
    · exact .inl ⟨z, if_pos (by rw [← hn]; exact C.none z)⟩
    · obtain ⟨h0, h1⟩ := C.first z
      exact .inr (.inl ⟨rfl, if_neg (by omega), h0⟩)
  · have e' : b = h'.objs.size + 1 ∨ b = h'.objs.size := by simpa using hb
    have hle : h'.objs.size ≤ b := by
      rcases e' with z | z
      · rw [z]
        exact Nat.le_add_right _ _
      · rw [z]
        exact Nat.le_refl _
    exact I3.fpOk hle (I3.hok.fresh hle)
/-- combinations(range(n), r) -/
def miCombR (f g : ME) : MI := fun η S => (f η S).bind fun x S1 => match x with
  | .int n => (g η S1).bind fun y S2 => (match y with
    | .int r => if 0 ≤ n ∧ n ≤ 1000000 ∧ 0 ≤ r ∧ r ≤ 1048576 then rOpt ((combAll n.toNat r.toNat).map fun l => l.map fun idx => W.tup (idx.map fun i => (rangeW 0 n.toNat).getD i .non)) S2 else .stuck
    | _ => .stuck)
  | _ => .stuck
section
variable {X : Cx} {G : Gs} {tg a b : Expr} {pos p p1 p2 : Pos} {f g : ME} {x : Str}
theorem si_combR (cf : Cfg X) (hm : X.mg x = some (.type "itertools.combinations")) (hmr : X.mg "range" = none) (ha : SE X G a f) (hb : SE X G b g) (hg : Gl X x := by rfl) (hgr : Gl X "range" := by rfl) (hdb : (x == ("__debug__" : Str)) = false := by decide)
    (na : starEach [a] X.env = (false, eval a X.env) :: starEach [] X.env := by rfl) (hs : starEach [.Call (.Name "range" p1) [a] [] p2, b] X.env = (false, eval (.Call (.Name "range" p1) [a] [] p2) X.env) :: starEach [b] X.env := by rfl) (hs2 : starEach [b] X.env = (false, eval b X.env) :: starEach [] X.env := by rfl) (hpl : (backTo pos (starEach [b] X.env)).any (·.1) = false := by rfl) :
    SI X G tg (.Call (.Name x p) [.Call (.Name "range" p1) [a] [] p2, b] [] pos) (miCombR f g) := by
  refine ⟨fun Wi tk => (pi_combR cf.calm hg hm (prgF_1 hgr hmr (ha.run Wi tk) na) (hb.run Wi tk) hdb hs hs2 hpl).imp ?_⟩
  rintro σ H R ⟨η, S, γ, he, hst, q⟩
  refine ⟨η, S, γ, he, hst, (PostI.seq q).imp fun v H1 ⟨wx, S1, γ1, e1, r1, s1, q1⟩ => ?_⟩
  cases wx with
  | int n =>
    cases r1
    refine ⟨n, rfl, η, S1, γ1, he.mono e1, s1, (PostI.seq q1).imp fun v2 H2 ⟨wy, S2, γ2, e2, r2, s2, q2⟩ => ?_⟩
    cases wy with
    | int r =>
      cases r2
      have q2 : PostI X.K G (fun c d H' => Wi c d σ H') γ2 H2 (if 0 ≤ n ∧ n ≤ 1000000 ∧ 0 ≤ r ∧ r ≤ 1048576 then rOpt ((combAll n.toNat r.toNat).map fun l => l.map fun idx => W.tup (idx.map fun i => (rangeW 0 n.toNat).getD i .non)) S2 else .stuck) R := q2
      split at q2
      · rename_i h
        obtain ⟨h1, h2, h3, h4⟩ := h
        have er : ((r.toNat : Nat) : Int) = r := by omega
        cases eL : combAll n.toNat r.toNat with
        | none => rw [eL] at q2; exact q2.elim
        | some L =>
          rw [eL] at q2
          refine ⟨r.toNat, L, by rw [er], RgOk.of_le (by omega) (by omega) (by omega) h1, by omega, ?_, q2 _ γ2 H2 Ext.refl s2 (itOk_comb ?_)⟩
          · rw [rgV_length, Int.sub_zero]
            exact eL
          · have := rgV_reps (K := X.K) (G := G) (γ := γ2) (H := H2) 0 n
            rw [Int.sub_zero] at this
            exact this
      · exact q2.elim
    | _ => exact q2.elim
  | _ => exact q1.elim
end
end Mp

set_option Elab.async false
set_option linter.all false
set_option maxRecDepth 100000
set_option maxHeartbeats 4000000
/-! Mp: list.remove of whole numbers. -/
namespace Mp
open PySem PySem.Spec PyProof.Rows L2
def omRemoveI : OM := fun x ws S => match x, ws with
  | .ref i, [.int k] => (match S[i]? with
    | some (.lst xs) => (match intsOf xs with
      | some ns => if k ∈ ns then some (.non, S.set i (.lst (xs.eraseIdx (ns.idxOf k)))) else none
      | none => none)
    | _ => none)
  | _, _ => none
theorem idxOf_first {ns : List Int} {k : Int} (h : k ∈ ns) : ns[ns.idxOf k]? = some k ∧ ∀ m : Nat, m < ns.idxOf k → ns[m]? ≠ some k := by
  induction ns with
  | nil => cases h
  | cons n r ih =>
    by_cases e : n = k
    · subst e
      rw [List.idxOf_cons_self]
      exact ⟨rfl, fun m hm => absurd hm (Nat.not_lt_zero _)⟩
    · rw [show (n :: r).idxOf k = r.idxOf k + 1 by rw [List.idxOf_cons, beq_eq_false_iff_ne.mpr e] <;> rfl]
      have ih := ih ((List.mem_cons.mp h).resolve_left fun z => e z.symm)
      refine ⟨ih.1, fun m hm => ?_⟩
      cases m with
      | zero => exact fun z => e (Option.some.inj z)
      | succ m => exact ih.2 m (by omega)
theorem eraseIdx_mapG {α β : Type} (f : α → β) : ∀ (l : List α) (i : Nat), (l.map f).eraseIdx i = (l.eraseIdx i).map f
  | [], i => by cases i <;> rfl
  | a :: l, 0 => rfl
  | a :: l, i + 1 => congrArg (f a :: ·) (eraseIdx_mapG f l i)
section
variable {X : Cx} {G : Gs}
theorem om_removeI : MtR X "list.remove" (rmOf X.K G omRemoveI) := by
  refine mt_imp mt_remove ?_
  rintro x xs H Q ⟨wx, ws, S, γ, w, S3, r, rs, s, h, k⟩
  unfold omRemoveI at h
  split at h
  · rename_i i j
    cases r with
    | ref hr =>
    cases rs with
    | cons r1 t =>
    cases t
    cases r1
    split at h
    · rename_i ys hc
      split at h
      · rename_i ns hn
        split at h
        · rename_i hj
          cases h
          obtain ⟨py, vs, hv, q⟩ := s.cell i _ _ hc hr
          have ev := intsOf_reps' q hn
          obtain ⟨ex, s'⟩ := s.write (ys := ys.eraseIdx (ns.idxOf j)) (us := vs.eraseIdx (ns.idxOf j)) hc hr (pures_erase _ py) (q.erase _)
          subst ev
          obtain ⟨f1, f2⟩ := idxOf_first hj
          refine ⟨_, ns, j, ns.idxOf j, rfl, rfl, hv, f1, f2, ?_⟩
          have em : (ns.map V.int).eraseIdx (ns.idxOf j) = (ns.eraseIdx (ns.idxOf j)).map V.int := (eraseIdx_mapG V.int _ _)
          rw [em] at ex s'
          exact k _ γ _ ex .non s'
        · cases h
      · cases h
    · cases h
  · cases h
end
end Mp

set_option Elab.async false
set_option linter.all false
set_option maxRecDepth 100000
set_option maxHeartbeats 4000000
/-! Mp: lists and tuples backwards. -/
namespace Mp
open PySem PySem.Spec PyProof.Rows L2
theorem fm_congr {α β : Type} {f g : α → Option β} : ∀ (l : List α), (∀ x ∈ l, f x = g x) → l.filterMap f = l.filterMap g
  | [], _ => rfl
  | a :: r, h => by
    rw [List.filterMap_cons, List.filterMap_cons, h a (List.mem_cons_self ..), fm_congr r fun x hx => h x (List.mem_cons_of_mem _ hx)]
theorem rev_pick (xs : Array Value) : (List.filterMap (fun k : Nat => xs[(((xs.size : Int) - 1) + (k : Int) * -1).toNat]?) (List.range xs.size)).toArray = xs.toList.reverse.toArray := by
  congr 1
  have h : List.filterMap (fun k : Nat => xs[(((xs.size : Int) - 1) + (k : Int) * -1).toNat]?) (List.range xs.size) = List.filterMap (fun k : Nat => xs.toList.reverse[k]?) (List.range xs.size) := by
    refine fm_congr _ fun k hk => ?_
    have hk := List.mem_range.mp hk
    have hl : k < xs.toList.length := by rw [Array.length_toList]; exact hk
    rw [List.getElem?_reverse hl, Array.length_toList, show (((xs.size : Int) - 1) + (k : Int) * -1).toNat = xs.size - 1 - k by omega, Array.getElem?_toList]
  rw [h]
  have g : ∀ (l : List Value), List.filterMap (fun k : Nat => l[k]?) (List.range l.length) = l := by
    intro l
    induction l with
    | nil => rfl
    | cons a r ih =>
      rw [List.length_cons, List.range_succ_eq_map, List.filterMap_cons]
      show a :: List.filterMap _ _ = _
      rw [List.filterMap_map]
      exact congrArg (a :: ·) ih
  have := g xs.toList.reverse
  rw [List.length_reverse, Array.length_toList] at this
  exact this
theorem slice_rev {prog : Program} {w : World} {A : Around} {E : Value → Shared → Prop} {s : Shared} {sl : Addr} {u : Tok} {n : Nat} {Q : Int × Int × Nat → Shared → Prop} (h : s.heap.IsSliceOf sl .none .none (.int (-1) u)) (hq : Q ((n : Int) - 1, -1, n) s) :
    wpAny (model prog w) A (Builtin.Slice.sliceApplied (.ref sl) (pure (n : Int))) Q E s := by
  obtain ⟨o, ho, hc, hd⟩ := h
  unfold Builtin.Slice.sliceApplied Builtin.Slice.sliceFields
  refine wpAny_bind (wpAny_bind (wpAny_field ho hd rfl (wpAny_bind (wpAny_field ho hd rfl (wpAny_bind (wpAny_field ho hd rfl (wpAny_pure ?_)))))))
  refine wpAny_bind (slicePart_int ?_)
  rw [if_neg (by decide)]
  refine wpAny_bind (slicePart_none (wpAny_bind (slicePart_none (wpAny_bind (wpAny_pure ?_)))))
  have e1 : Builtin.Slice.sliceAdjust none none ((some (-1 : Int)).getD 1) (n : Int) = ((n : Int) - 1, -1) := rfl
  rw [e1]
  refine wpAny_pure ?_
  have e2 : Builtin.Slice.slicePlaces ((n : Int) - 1) (-1) ((some (-1 : Int)).getD 1) = n := by
    unfold Builtin.Slice.slicePlaces
    rw [if_neg (by decide)]
    by_cases h0 : n = 0
    · subst h0
      rfl
    · rw [if_pos (by omega), show -((some (-1 : Int)).getD 1) = (1 : Int) from rfl, Int.ediv_one]
      omega
  rw [e2]
  exact hq
theorem getItem_tuple_rev {prog : Program} {w : World} {A : Around} {E : Value → Shared → Prop} {s : Shared} {t sl : Addr} {u : Tok} {items : Array Value} {Q : Value → Shared → Prop} (ht : IsTup s.heap t items) (h : s.heap.IsSliceOf sl .none .none (.int (-1) u)) (hz : items.size ≤ sizeLine)
    (hq : Q (.ref s.heap.objs.size) { s with heap := s.heap.push { cls := .type "tuple", data := .seq items.toList.reverse.toArray } }) : wpAny (model prog w) A (getItem (.ref t) (.ref sl)) Q E s := by
  have hok : sizeOk (.seq items.toList.reverse.toArray) := by
    show items.toList.reverse.toArray.size ≤ sizeLine
    rw [List.size_toArray, List.length_reverse, Array.length_toList]
    exact hz
  have hs : s.TypeIs (.ref sl) "slice" := by
    obtain ⟨o, ho, hc, hd⟩ := h
    exact ⟨o, ho, hc⟩
  unfold getItem
  refine wpAny_holding (wpAny_bind (wpAny_sequenceKey (IsTup.typeIs ht) (by decide) (wpAny_bind (wpAny_callSpecial?_slot (IsTup.typeIs ht) slot_tuple_getitem ?_))))
  refine wpAny_call_entry slot_tuple_getitem (IsTup.typeIs ht) entry_tuple_getitem ?_ (args_tuple_getitem _ _)
  unfold Builtin.«tuple.__getitem__»
  refine wpAny_bind (wpAny_pure ?_)
  refine wpAny_bind (tupleItemsOf_ ht (wpAny_bind (wpAny_typeOf hs ?_)))
  rw [if_pos (by decide)]
  refine wpAny_bind (slice_rev h ?_)
  have hn : (((items.size : Int) - 1 == 0 && (-1 : Int) == 1 && items.size == items.size) = true) = False := by
    rw [show ((-1 : Int) == 1) = false from rfl, Bool.and_false, Bool.false_and]
    exact eq_false (by decide)
  dsimp only
  rw [if_neg (by rw [hn]; exact not_false)]
  rw [rev_pick]
  unfold Builtin.Tuple.tupleExact
  refine wpAny_bind (wpAny_newObj_type ?_ hok)
  exact wpAny_pure ⟨_, rfl, wpAny_pure hq⟩
def tRevT (K : PySem.W.Frag) (te : TE) : TE := fun σ H Q => te σ H fun x H1 => ∃ a xs, x = .ref a ∧ ((SqT K H1 a xs ∧ ∀ p, H1 p = none → Q (.ref p) (upd H1 p (.tup xs.reverse))) ∨ (SqL K H1 a xs ∧ ∀ p, H1 p = none → Q (.ref p) (upd H1 p (.lst xs.reverse))))
theorem pe_revT {X : Cx} {e : Expr} {te : TE} {k : Nat} {p1 p2 p3 pos : Pos} (ha : PE X e te) : PE X (.Subscript e (.Slice none none (some (.UnaryOp .USub (.Constant (.int 1) k p1) p2)) p3) pos) (tRevT X.K te) := by
  refine ⟨fun pins s σ H Q I h => ?_⟩
  refine Subscript_ (thn (ha.run pins s σ H _ I h) fun xv s1 ⟨x, H1, I1, r1, a, xs, ex, hq⟩ => ?_)
  subst ex
  have r1 : xv = .ref a := r1
  subst r1
  refine wpAny_Slice (thn (po_none.run pins s1 σ H1 (fun o H' => o = none ∧ H' = H1) I1 ⟨rfl, rfl⟩) fun u1 s2 ⟨o1, H2, I2, ip1, eo1, eh1⟩ => ?_)
  subst eo1; subst eh1
  cases ip1
  refine thn (po_none.run pins s2 σ _ (fun o H' => o = none ∧ H' = H2) I2 ⟨rfl, rfl⟩) fun u2 s3 ⟨o2, H3, I3, ip2, eo2, eh2⟩ => ?_
  subst eo2; subst eh2
  cases ip2
  refine thn ((po_some (pe_un un_neg pe_int)).run pins s3 σ _ (fun o H' => o = some (-1) ∧ H' = H3) I3 ⟨1, rfl, -1, rfl, rfl, rfl⟩) fun u3 s4 ⟨o3, H4, I4, ip3, eo3, eh3⟩ => ?_
  subst eo3; subst eh3
  cases ip3 with
  | int i t =>
  have I5 := I4.kept (h' := s4.heap.push { cls := .type "slice", data := .fields #[.none, .none, .int (-1) t] }) (t' := s4.toks) fun b u hb => Heap.get?_push_of_some _ hb
  rcases hq with ⟨hq, q⟩ | ⟨hq, q⟩
  · obtain ⟨its, vi, ht, hz⟩ := I5.tuple hq
    have hl := vi.length
    refine tail_any (IsTup.typeIs ht) slot_tuple_getitem.lookup (getItem_tuple_rev ht (Heap.IsSliceOf.new _ _ _ _) (by rw [List.size_toArray]; omega) ?_) rfl
    refine ⟨.ref _, _, I5.laid (fun b u hb => Heap.get?_push_of_some _ hb) (Nat.le_refl _) ?_, rfl, q _ (I5.hok.fresh (Nat.le_refl _))⟩
    exact ⟨by rw [List.length_reverse]; exact hz, its.reverse, vi.reverse, ⟨_, Heap.get?_push_size _ (by rfl), rfl, _, rfl⟩⟩
  · obtain ⟨its, vi, ht, hz⟩ := I5.list hq
    have hl := vi.length
    refine tail_any ht.isList.typeIs slot_list_getitem.lookup (wpAny_getItem_list_slice ht.isList (Heap.IsSliceOf.new _ _ _ _) .none .none (.int _ _) (by decide) ?_ (by rw [List.size_toArray]; omega)) rfl
    rw [PySem.W.krv_pick]
    refine ⟨.ref _, _, I5.laid (fun b u hb => Heap.get?_push_of_some _ hb) (Nat.le_refl _) ?_, rfl, q _ (I5.hok.fresh (Nat.le_refl _))⟩
    exact ⟨by rw [List.length_reverse]; exact hz, its.reverse, 0, vi.reverse, Heap.get?_push_size _ (by rfl)⟩
def mRev (f : ME) : ME := fun η S => (f η S).bind fun x S1 => match x with
  | .tup xs => .ok (.tup xs.reverse) S1
  | x => (match lstOf S1 x with
    | some xs => .ok (.lst xs.reverse) S1
    | none => .stuck)
section
variable {X : Cx} {G : Gs} {e : Expr} {p1 p2 p3 pos : Pos} {f : ME}
theorem se_rev {k : Nat} (ha : SE X G e f) : SE X G (.Subscript e (.Slice none none (some (.UnaryOp .USub (.Constant (.int 1) k p1) p2)) p3) pos) (mRev f) := by
  refine ⟨fun Wi tk => (pe_revT (ha.run Wi tk)).imp ?_⟩
  rintro σ H Q ⟨η, S, γ, he, hs, q⟩
  refine ⟨η, S, γ, he, hs, (Post.seq q).imp fun x H1 ⟨wx, S1, γ1, e1, r1, s1, q1⟩ => ?_⟩
  have hl : ∀ xs, lstOf S1 wx = some xs → Post X.K G (Rep X.K G) (fun c d H' => Wi c d σ H') γ1 H1 (R.ok (.lst xs.reverse) S1) Q → ∃ a vs, x = .ref a ∧ ((SqT X.K H1 a vs ∧ ∀ p, H1 p = none → Q (.ref p) (upd H1 p (.tup vs.reverse))) ∨ (SqL X.K H1 a vs ∧ ∀ p, H1 p = none → Q (.ref p) (upd H1 p (.lst vs.reverse)))) := by
    intro xs el q1
    obtain ⟨a, vs, ev, hq, qr⟩ := lst_or s1 el r1
    refine ⟨a, vs, ev, .inr ⟨hq, fun p hp => ?_⟩⟩
    have ex := Ext.upd (K := X.K) (G := G) s1 (o := .lst vs.reverse) hp
    exact q1 _ γ1 _ ex (.lst upd_same (s1.fresh hp) (Reps.rev (qr.mono ex))) (s1.upd hp)
  cases wx with
  | tup xs =>
    cases r1 with
    | @tup a vs _ hf rr =>
      refine ⟨_, _, rfl, .inl ⟨hf.sq, fun p hp => ?_⟩⟩
      have ex := Ext.upd (K := X.K) (G := G) s1 (o := .tup vs.reverse) hp
      exact q1 _ γ1 _ ex (.tup (.inl ⟨.inl upd_same, s1.fresh hp⟩) (Reps.rev (rr.mono ex))) (s1.upd hp)
  | lst xs => exact hl xs rfl q1
  | ref i =>
    cases el : lstOf S1 (.ref i) with
    | none => simp only [el] at q1; exact q1.elim
    | some xs =>
      simp only [el] at q1
      exact hl xs el q1
  | _ => exact q1.elim
end
end Mp

set_option Elab.async false
set_option linter.all false
set_option maxRecDepth 100000
set_option maxHeartbeats 4000000
/-! Mp: sets of texts or of ints, made of a list or a tuple and at once counted or sorted. -/
namespace Mp
open PySem PySem.Spec PyProof.Rows L2
/-! ### the plain part -/
def ddup {α : Type} [DecidableEq α] : List α → List α
  | [] => []
  | x :: r => if x ∈ r then ddup r else x :: ddup r
section
variable {α β : Type} [DecidableEq α] [DecidableEq β]
theorem mem_ddup {x : α} : ∀ {l : List α}, x ∈ ddup l ↔ x ∈ l
  | [] => Iff.rfl
  | y :: r => by
    unfold ddup
    split
    · rename_i h
      rw [mem_ddup, List.mem_cons]
      exact ⟨.inr, fun z => z.elim (fun e => e ▸ h) id⟩
    · rw [List.mem_cons, List.mem_cons, mem_ddup]
theorem ddup_nodup : ∀ l : List α, (ddup l).Nodup
  | [] => List.nodup_nil
  | y :: r => by
    unfold ddup
    split
    · exact ddup_nodup r
    · rename_i h
      exact List.nodup_cons.mpr ⟨fun z => h (mem_ddup.mp z), ddup_nodup r⟩
theorem ddup_map {f : α → β} (hf : ∀ a b, f a = f b → a = b) : ∀ l : List α, ddup (l.map f) = (ddup l).map f
  | [] => rfl
  | y :: r => by
    have e : f y ∈ r.map f ↔ y ∈ r := ⟨fun h => by
      obtain ⟨z, hz, e⟩ := List.mem_map.mp h
      exact hf _ _ e ▸ hz, fun h => List.mem_map_of_mem h⟩
    rw [List.map_cons]
    unfold ddup
    by_cases h : y ∈ r
    · rw [if_pos h, if_pos (e.mpr h), ddup_map hf r]
    · rw [if_neg h, if_neg (fun z => h (e.mp z)), ddup_map hf r, List.map_cons]
theorem ddup_len : ∀ l : List α, (ddup l).length ≤ l.length
  | [] => Nat.le_refl _
  | y :: r => by
    unfold ddup
    have := ddup_len r
    split
    · rw [List.length_cons]; omega
    · rw [List.length_cons, List.length_cons]; omega
end
def putG {α : Type} [DecidableEq α] (l : List α) (k : α) : List α := if k ∈ l then l else k :: l
abbrev putK (l : List Key) (k : Key) : List Key := putG l k
theorem mem_putK {α : Type} [DecidableEq α] {l : List α} {k x : α} : x ∈ putG l k ↔ x ∈ l ∨ x = k := by
  unfold putG
  split
  · rename_i h
    exact ⟨.inl, fun z => z.elim id fun e => e ▸ h⟩
  · rw [List.mem_cons]
    exact Or.comm
theorem putK_nodup {α : Type} [DecidableEq α] {l : List α} {k : α} (h : l.Nodup) : (putG l k).Nodup := by
  unfold putG
  split
  · exact h
  · rename_i n
    exact List.nodup_cons.mpr ⟨n, h⟩
theorem putK_in {α : Type} [DecidableEq α] {l : List α} {k : α} (h : k ∈ l) : putG l k = l := if_pos h
theorem putK_out {α : Type} [DecidableEq α] {l : List α} {k : α} (h : k ∉ l) : putG l k = k :: l := if_neg h
theorem putK_len {α : Type} [DecidableEq α] (l : List α) (k : α) : (putG l k).length ≤ l.length + 1 := by
  unfold putG
  split
  · omega
  · exact Nat.le_refl _
def gathK (l : List Key) : List Key := l.foldl putK []
theorem gathK_snoc (l : List Key) (k : Key) : gathK (l ++ [k]) = putK (gathK l) k := by
  unfold gathK
  rw [List.foldl_append] <;> rfl
theorem fold_mem (x : Key) : ∀ (l a : List Key), x ∈ l.foldl putK a ↔ x ∈ a ∨ x ∈ l
  | [], a => by simp
  | k :: r, a => by
    rw [List.foldl_cons, fold_mem x r, mem_putK, List.mem_cons, or_assoc]
theorem fold_nodup : ∀ (l : List Key) {a : List Key}, a.Nodup → (l.foldl putK a).Nodup
  | [], _, h => h
  | k :: r, _, h => fold_nodup r (putK_nodup h)
theorem fold_len : ∀ (l a : List Key), (l.foldl putK a).length ≤ a.length + l.length
  | [], a => Nat.le_refl _
  | k :: r, a => by
    have h1 := fold_len r (putK a k)
    have h2 : (putK a k).length ≤ a.length + 1 := putK_len a k
    rw [List.foldl_cons, List.length_cons]
    omega
theorem gathK_perm (l : List Key) : (gathK l).Perm (ddup l) :=
  (List.perm_ext_iff_of_nodup (fold_nodup l List.nodup_nil) (ddup_nodup l)).mpr fun x => by
    rw [mem_ddup]
    exact (fold_mem x l []).trans (by simp)
/-! ### the set of keys at an address -/
def keyIn : Value → Key
  | .str x _ => .inr x
  | .int i _ => .inl i
  | _ => .inl 0
def FitE (P : Program) (w : World) (e : Int × Value) : Prop := RelV (kV (keyIn e.2)) e.2 ∧ e.1 = (mixKind P w).hash (keyIn e.2)
theorem keyIn_of {k : Key} {v : Value} (r : RelV (kV k) v) : keyIn v = k := by
  cases k with
  | inl i => obtain ⟨t, rfl⟩ := (show ∃ t, v = Value.int i t from r); rfl
  | inr x => obtain ⟨t, rfl⟩ := (show ∃ t, v = Value.str x t from r); rfl
theorem fit_of {P : Program} {w : World} {k : Key} {v : Value} (r : RelV (kV k) v) : FitE P w ((mixKind P w).hash k, v) := by
  have e := keyIn_of r
  exact ⟨by show RelV (kV (keyIn v)) v; rw [e]; exact r, by show _ = (mixKind P w).hash (keyIn v); rw [e]⟩
theorem fit_is {P : Program} {w : World} {e : Int × Value} (g : FitE P w e) (k : Key) : (mixKind P w).is k e.2 = true ↔ keyIn e.2 = k :=
  ⟨fun h => (mixKind P w).inj _ _ _ (kV_is g.1) h, fun h => h ▸ kV_is g.1⟩
theorem fit_elems {P : Program} {w : World} {l : List (Int × Value)} (g : ∀ e ∈ l, FitE P w e) : ElemsOf (mixKind P w) l := fun e he =>
  ⟨⟨_, kV_is (g e he).1, (g e he).2⟩, key_scan (g e he).1⟩
def ksIn (l : List (Int × Value)) : List Key := l.map fun e => keyIn e.2
/-- the set at a holds the keys ks, each once -/
def SetH (P : Program) (w : World) (h : Heap) (a : Addr) (ks : List Key) : Prop :=
  ∃ o es ep t, h.get? a = some o ∧ o.ExactSet ∧ o.data = .set es ep t ∧ (∀ e ∈ es.toList, FitE P w e) ∧ (ksIn es.toList).Perm ks ∧ ks.Nodup ∧ es.size < scanBound ∧ t.fits es.size = true ∧ Ris t.place.toList ∧
    (w.params.followText "set-order" = true ∨ t.led = true)
section
variable {P : Program} {w : World} {A : Around} {E : Value → Shared → Prop} {s : Shared} {a : Addr} {ks : List Key}
theorem SetH.size {h : Heap} (R : SetH P w h a ks) : ks.length < scanBound := by
  obtain ⟨o, es, ep, t, _, _, _, _, pm, _, hb, _⟩ := R
  have e : ks.length = es.size := by rw [← pm.length_eq, ksIn, List.length_map, Array.length_toList]
  omega
theorem SetH.at {h h' : Heap} (R : SetH P w h a ks) (k : ∀ o, h.get? a = some o → h'.get? a = some o) : SetH P w h' a ks := by
  obtain ⟨o, es, ep, t, ho, r⟩ := R
  exact ⟨o, es, ep, t, k o ho, r⟩
theorem setH_tail {gv : Bool → Sem Unit} (hgv : ∀ (b : Bool) (s₁ : Shared) (Q₁ : Unit → Shared → Prop), Q₁ () s₁ → wpAny (model P w) A (gv b) Q₁ E s₁)
    {ob : Obj} {es : Array (Int × Value)} {ep : Nat} {t : SetTable} (ho : s.heap.get? a = some ob) (hx : ob.ExactSet) (hd : ob.data = .set es ep t)
    {fs : Array (Int × Value)} {u : SetTable} (gf : ∀ e ∈ fs.toList, FitE P w e) (pf : (ksIn fs.toList).Perm ks) (nf : ks.Nodup) (bf : fs.size < scanBound) (ff : u.fits fs.size = true) (rf : Ris u.place.toList)
    (lf : w.params.followText "set-order" = true ∨ u.led = true) {dm : Bool} {R : Option Bool → Shared → Prop} (hR : ∀ h', Heap.SameBut a s.heap h' → SetH P w h' a ks → R (some true) { s with heap := h' }) :
    wpAny (model P w) A (do
        storeSet a fs u
        if (!dm && u.tooFull) = true then do
            gv (relayAll u fs (SetTable.grown fs.size)).2.2
            storeSet a (relayAll u fs (SetTable.grown fs.size)).1 (relayAll u fs (SetTable.grown fs.size)).2.1
            pure (some true)
          else pure (some true)) R E s := by
  have at1 := store_at (es' := fs) (t' := u) ho hd
  have sb := Heap.SameBut.update s.heap a (Obj.putSet fs u)
  refine wpAny_bind (wpAny_storeSet_of ho hd ?_ (fits_of_scanBound bf))
  split
  · have q1 := relayAll_perm u fs (SetTable.grown fs.size); have q2 := relayAll_fits u fs (SetTable.grown fs.size)
    have q3 := relayAll_ris u fs (SetTable.grown fs.size); have q4 := relayAll_led u fs (SetTable.grown fs.size)
    generalize relayAll u fs (SetTable.grown fs.size) = Z at q1 q2 q3 q4 ⊢
    obtain ⟨gs, x, gave⟩ := Z
    dsimp only at q1 q2 q3 q4 ⊢
    have sz : gs.size = fs.size := by rw [← Array.length_toList, q1.length_eq, Array.length_toList]
    have bg : gs.size < scanBound := sz ▸ bf
    refine wpAny_bind (hgv _ _ _ (wpAny_bind (wpAny_storeSet_of at1 rfl ?_ (fits_of_scanBound bg))))
    exact wpAny_pure (hR _ (sb.trans (Heap.SameBut.update _ a _)) ⟨_, gs, _, x, store_at (es' := gs) (t' := x) at1 rfl, hx, rfl, fun e he => gf e (q1.mem_iff.mp he), (q1.map _).trans pf, nf, bg, q2, q3,
      lf.imp id fun z => q4.trans z⟩)
  · exact wpAny_pure (hR _ sb ⟨_, fs, _, u, at1, hx, rfl, gf, pf, nf, bf, ff, rf, lf⟩)
theorem setH_put {k : Key} {x : Value} {Q : Bool → Shared → Prop} (rx : RelV (kV k) x) (R : SetH P w s.heap a ks) (room : ks.length + 1 < scanBound)
    (hQ : ∀ (b : Bool) h', Heap.SameBut a s.heap h' → SetH P w h' a (putK ks k) → Q b { s with heap := h' }) : wpAny (model P w) A (setAddHashed a x ((mixKind P w).hash k)) Q E s := by
  obtain ⟨ob, es, ep, t, ho, hx, hd, g, pm, nd, hb, hf, hr, hl⟩ := R
  have isx := kV_is (P := P) (w := w) rx
  have scx := key_scan rx
  have els := fit_elems g
  have size_eq : es.size = ks.length := by rw [← pm.length_eq, ksIn, List.length_map, Array.length_toList]
  unfold setAddHashed setAddHashedIn
  refine wpAny_holding (wpAny_bind (wpAny_setState_of ho hd hf ?_)); dsimp only
  rw [byScan_of scx hb els]; simp only [↓reduceIte]
  unfold setAddByScan
  refine wpAny_bind (wpAny_bind (wpAny_rule (wpAny_bind (wpAny_setScan_of isx ho hd hf els ?_))))
  cases fd : List.findIdx? (fun e => (mixKind P w).is k e.2) es.toList with
  | some j =>
    obtain ⟨hj, pj, _⟩ := List.findIdx?_eq_some_iff_getElem.mp fd
    have mk : k ∈ ks := pm.mem_iff.mp (List.mem_map.mpr ⟨_, List.getElem_mem hj, (fit_is (g _ (List.getElem_mem hj)) k).mp pj⟩)
    have same : putK ks k = ks := putK_in mk
    dsimp only
    exact wpAny_pure (wpAny_pure (hQ _ s.heap (Heap.SameBut.refl a s.heap) ⟨ob, es, ep, t, ho, hx, hd, g, by rw [same]; exact pm, by rw [same]; exact nd, hb, hf, hr, hl⟩))
  | none =>
    have nk : k ∉ ks := fun z => by
      obtain ⟨e, he, q⟩ := List.mem_map.mp (pm.mem_iff.mpr z)
      have c := List.findIdx?_eq_none_iff.mp fd e he
      rw [(fit_is (g e he) k).mpr q] at c
      cases c
    have new : putK ks k = k :: ks := putK_out nk
    dsimp only
    have gv : ∀ (b : Bool) {s₁ : Shared} {Q₁ : Unit → Shared → Prop}, Q₁ () s₁ → wpAny (model P w) A (match b with | true => rule "set.scan.the-table-gave-way" | false => pure ()) Q₁ E s₁ :=
      fun b _ _ q => match b with | true => wpAny_rule q | false => wpAny_pure q
    have q1 := layNew_perm t es ((mixKind P w).hash k) x; have q2 := layNew_fits t es ((mixKind P w).hash k) x
    have q3 := layNew_ris t es ((mixKind P w).hash k) x hr; have q4 := layNew_led t es ((mixKind P w).hash k) x
    generalize layNew t es ((mixKind P w).hash k) x = Z at q1 q2 q3 q4 ⊢
    obtain ⟨fs, u, dm, gave⟩ := Z
    dsimp only at q1 q2 q3 q4 ⊢
    rw [Array.toList_push] at q1
    have q1 : fs.toList.Perm (((mixKind P w).hash k, x) :: es.toList) := q1.trans (List.perm_append_singleton _ _)
    have gf : ∀ e ∈ fs.toList, FitE P w e := fun e he => (List.mem_cons.mp (q1.mem_iff.mp he)).elim (fun z => z ▸ fit_of rx) (g e)
    have pf : (ksIn fs.toList).Perm (putK ks k) := by
      rw [new]
      refine (q1.map _).trans ?_
      rw [List.map_cons, show keyIn x = k from keyIn_of rx]
      exact pm.cons k
    have nf : (putK ks k).Nodup := putK_nodup nd
    have bf : fs.size < scanBound := by
      have z := q1.length_eq
      rw [Array.length_toList, List.length_cons, Array.length_toList] at z
      omega
    have lf : w.params.followText "set-order" = true ∨ u.led = true := hl.imp id fun z => q4.trans z
    refine wpAny_bind (gv _ ?_)
    split
    · refine wpAny_bind ?_
      rw [hashByValue_scannable 8 scx]
      refine wpAny_pure (setH_tail ?_ ho hx hd gf pf nf bf ?_ ?_ ?_ fun h' sb r => wpAny_pure (hQ _ h' sb r))
      · exact fun b _ _ q => gv b q
      · first | exact q2 | (split <;> first | exact q2 | exact SetTable.fits_plain_off q2)
      · first | exact q3 | (split <;> exact q3)
      · first | exact lf | (split <;> exact lf)
    · refine wpAny_bind (wpAny_pure ?_)
      simp only [↓reduceIte]
      exact setH_tail (fun b _ _ q => gv b q) ho hx hd gf pf nf bf q2 q3 lf fun h' sb r => wpAny_pure (hQ _ h' sb r)
theorem setH_new {h : Heap} (ho : h.get? a = some { cls := .type "set", dict := none, data := .set #[] 0 (.fresh 0 0 (!w.params.followText "set-order")) }) : SetH P w h a [] :=
  ⟨_, #[], 0, _, ho, ⟨rfl, rfl, rfl⟩, rfl, (fun e he => by simp at he), .refl _, List.nodup_nil, by decide, by rfl, List.Pairwise.nil, by
    show w.params.followText "set-order" = true ∨ (!w.params.followText "set-order") = true
    cases w.params.followText "set-order" <;> simp⟩
/-- the walk over what the set is made of -/
theorem setH_fill {Rr : Result → Shared → Prop} {I D : Addr} {fp wr : List Addr} {Gn : Array GenState → Array GenState → Prop} {n : Nat} {Pi : Nat → Value → Prop} {Si : Nat → Shared → Prop} (W : WalksS P w A.in1 I fp wr Gn n Pi Si) (hD : D ∉ fp)
    (ks : List Key) (hn : ks.length = n) (rel : ∀ i v, Pi i v → ∃ k, ks[i]? = some k ∧ RelV (kV k) v) (hb : n + 1 < scanBound) : ∀ (m i : Nat) (s : Shared), n - i = m → i ≤ n → Si i s → SetH P w s.heap D (gathK (ks.take i)) →
      (∀ s', Moved (D :: wr) Gn s s' → SetH P w s'.heap D (gathK ks) → Rr (.ok (.ret .none)) s') → codeAny (model P w) A (.builtin "set.update.loop" ⟨[.ref D, .ref I], []⟩) Rr s := by
  have hDw : D ∉ wr := fun h => hD (W.sub _ h)
  have sub : ∀ b ∈ wr, b ∈ D :: wr := fun b => List.mem_cons_of_mem _
  intro m
  induction m with
  | zero =>
    intro i s em hi st hs fin
    obtain rfl : i = n := by omega
    refine codeAny_builtin PyProof.Rows.F.entry_set_update_loop ?_; rw [Around.under_plainId PyProof.Rows.F.plain_set_update_loop _]
    show wpAny _ A.in1 (pyNext (.ref I) >>= _) _ _ s
    refine wpAny_bind (W.done s _ _ st fun s' mv => wpAny_pure (fin s' (mv.mono sub) ?_))
    rw [List.take_of_length_le (Nat.le_of_eq hn)] at hs
    exact hs.at fun o e => mv.heap D o hDw e
  | succ m ih =>
    intro i s em hi st hs fin
    have lt : i < n := by omega
    refine codeAny_builtin PyProof.Rows.F.entry_set_update_loop ?_; rw [Around.under_plainId PyProof.Rows.F.plain_set_update_loop _]
    show wpAny _ A.in1 (pyNext (.ref I) >>= _) _ _ s
    refine wpAny_bind (W.item i s _ _ lt st fun v s' pv st' mv => ?_)
    obtain ⟨k, ek, rk⟩ := rel i v pv
    have hs' := hs.at fun o e => mv.heap D o hDw e
    show wpAny _ A.in1 (holding [v] (setAdd D v) >>= _) _ _ s'
    have room : (gathK (ks.take i)).length + 1 < scanBound := by
      have z := fold_len (ks.take i) []
      rw [List.length_take] at z
      show (List.foldl putK [] (ks.take i)).length + 1 < scanBound
      simp only [List.length_nil, Nat.zero_add] at z
      omega
    have nx : gathK (ks.take (i + 1)) = putK (gathK (ks.take i)) k := by rw [List.take_add_one, ek, ← gathK_snoc] <;> rfl
    refine wpAny_bind (wpAny_holding ?_); unfold setAdd
    refine wpAny_holding (wpAny_bind ((mixKind P w).pyHash (k := k) (kV_is rk) (setH_put (s := { s' with toks := s'.toks + 1 }) rk hs' room fun bb h' sb hs2 => ?_)))
    rw [← nx] at hs2
    refine wpAny_pure ⟨plainId_quiet PyProof.Rows.F.plain_set_update_loop _, ih (i + 1) _ (by omega) lt (W.frame _ s' _ _ st' (Nat.le_succ _) fun b hb' o e => ?_) hs2 fun s'' mv' hs3 => ?_⟩
    · exact (sb.2 b fun z => hD (z ▸ hb')).trans e
    · exact fin s'' (Moved.trans W.gtrans ((mv.mono sub).then_heap (Nat.le_succ _) fun b o hb' e => (sb.2 b fun z => hb' (z ▸ List.mem_cons_self)).trans e) mv') hs3
abbrev mtSet (w : World) : Obj := { cls := .type "set", dict := none, data := .set #[] 0 (.fresh 0 0 (!w.params.followText "set-order")) }
theorem setH_list {l : Addr} {its : Array Value} (ks : List Key) {Q : Value → Shared → Prop} (hh : A.handled = none) (hl : s.heap.IsList l its) (hr : ∀ (i : Nat) (v : Value), its[i]? = some v → ∃ k, ks[i]? = some k ∧ RelV (kV k) v) (hn : ks.length = its.size) (hb : its.size + 1 < scanBound)
    (h : ∀ (h' : Heap) (tk : Nat), SetH P w h' s.heap.objs.size (gathK ks) → (∀ b o, s.heap.get? b = some o → h'.get? b = some o) → Q (.ref s.heap.objs.size) { s with heap := h', toks := tk }) : wpAny (model P w) A (call (.type "set") [.ref l]) Q E s := by
  obtain ⟨_, _, hmro⟩ := PySem.F.called_set.mro; have hmade := PySem.F.called_set.made; have hsub := PySem.F.called_set.sub
  refine wpAny_call (codeAny_of_tree ?_); show wpAny _ _ (callAny (.type "set") _) _ _ _
  refine wpAny_pure ⟨Code.quiet_builtin _ (by decide +kernel), codeAny_builtin PySem.F.entry_type_call ?_⟩; rw [Around.under_plain (weight_type_call_type "set" [.ref l] []) rfl]
  have h1 := PySem.F.called_set.notType; have h2 := PySem.F.called_set.canCreate; have hct := PySem.F.typeCall_set_1 (.ref l)
  repeat (any_goals (first | assumption | wp_step))
  refine codeAny_mono (code_set_led1 (.ref l) (E := E) (Q₁ := fun ob s₁ => ob = .ref s.heap.objs.size ∧ s₁ = { s with heap := s.heap.push (mtSet w) }) ⟨rfl, rfl⟩) fun r s₁ q => ?_
  cases r with
  | error e => exact q
  | ok fl =>
    cases fl with
    | ret ob =>
      obtain ⟨rfl, rfl⟩ := q
      have atS : (s.heap.push (mtSet w)).get? s.heap.objs.size = some (mtSet w) := Heap.get?_push_size _ rfl
      have tyS : Shared.TypeIs { s with heap := s.heap.push (mtSet w) } (.ref s.heap.objs.size) "set" := ⟨_, atS, rfl⟩
      have i1 := PySem.F.called_set.init.lookup; have i2 := PySem.F.called_set.init.bind (.ref s.heap.objs.size)
      repeat (any_goals (first | assumption | wp_step))
      refine codeAny_mono (codeAny_call_builtin (R := wants (fun r s₂ => r = .none ∧ ∃ h' tk, s₂ = { s with heap := h', toks := tk } ∧ SetH P w h' s.heap.objs.size (gathK ks) ∧ (∀ b o, s.heap.get? b = some o → h'.get? b = some o)) E) PySem.F.called_set.init.plain PySem.F.entry_set_init (check_set_init_1 tyS ?_)) fun r₂ s₂ q₂ => ?_
      · obtain ⟨ol, hol, hcl, nl, hdl⟩ := hl
        obtain ⟨c1, d1, dat, slo⟩ := ol
        simp only at hcl hdl
        subst hcl; subst hdl
        have hol2 : (s.heap.push (mtSet w)).get? l = some { cls := .type "list", dict := d1, data := .seq its nl, slots := slo } := Heap.get?_push_of_some _ hol
        have u1 := PySem.F.sub_list_set; have u2 := PySem.F.sub_list_frozenset
        have u3 : (Value.type "list" == Value.type "dict") = false := by decide
        have hl2 : (s.heap.push (mtSet w)).IsList l its := ⟨_, hol2, rfl, nl, rfl⟩
        have hls : l < s.heap.objs.size := Heap.lt_size hol
        unfold Builtin.«set.__init__» noKeywords Builtin.Frozenset.updateFrom; generalize hPI : pyIter = PI; wp_walk; subst hPI
        refine wpAny_pyIter_list hl2 (wpAny_bind (wpAny_runValue ?_))
        have h3 : A.in1.in1.in1.handled = none := by simp [hh]
        have sz : (s.heap.push (mtSet w)).objs.size = s.heap.objs.size + 1 := Heap.size_push ..
        have ne1 : l ≠ (s.heap.push (mtSet w)).objs.size := by rw [sz]; exact Nat.ne_of_lt (Nat.lt_succ_of_lt hls)
        have ne2 : s.heap.objs.size ∉ [(s.heap.push (mtSet w)).objs.size, l] := fun z => by
          rw [sz] at z
          rcases List.mem_cons.mp z with z | z
          · exact Nat.succ_ne_self _ z.symm
          · exact Nat.ne_of_gt hls (List.mem_singleton.mp z)
        refine setH_fill ((Walks.list h3 _ l ne1 its).toS) ne2 ks hn hr hb its.size 0 _ rfl (Nat.zero_le _) ⟨⟨_, Heap.get?_push_size _ rfl, rfl, rfl⟩, hl2.push _⟩ (setH_new (Heap.get?_push_of_some _ atS)) fun s' mv hs => ?_
        obtain ⟨h', g', d', tk', os'⟩ := s'
        have eg : g' = s.gens := mv.gens; have ed : d' = s.drawn := mv.drawn; have eo : os' = s.os := mv.os
        subst eg; subst ed; subst eo
        show wpAny _ _ _ _ _ _
        refine wpAny_pure ?_
        show wpAny _ _ (ret Value.none) _ _ _
        refine wpAny_pure ⟨rfl, h', tk', rfl, hs, fun b o e => mv.heap b o (fun z => ?_) (Heap.get?_push_of_some _ (Heap.get?_push_of_some _ e))⟩
        have lb : b < s.heap.objs.size := Heap.lt_size e
        rcases List.mem_cons.mp z with z | z
        · exact Nat.ne_of_lt lb z
        · exact Nat.ne_of_lt (Nat.lt_succ_of_lt lb) ((List.mem_singleton.mp z).trans sz)
      · cases r₂ with
        | error e => exact q₂
        | ok fl₂ =>
          cases fl₂ with
          | ret r =>
            obtain ⟨rfl, h', tk, rfl, hs, hk⟩ := q₂
            repeat (any_goals (first | assumption | wp_step))
            exact h _ _ hs hk
          | _ => exact q₂.elim
    | _ => exact q.elim
theorem setH_tuple {l : Addr} {its : Array Value} (ks : List Key) {Q : Value → Shared → Prop} (hh : A.handled = none) (hl : s.heap.IsTuple l its) (hr : ∀ (i : Nat) (v : Value), its[i]? = some v → ∃ k, ks[i]? = some k ∧ RelV (kV k) v) (hn : ks.length = its.size) (hb : its.size + 1 < scanBound)
    (h : ∀ (h' : Heap) (tk : Nat), SetH P w h' s.heap.objs.size (gathK ks) → (∀ b o, s.heap.get? b = some o → h'.get? b = some o) → Q (.ref s.heap.objs.size) { s with heap := h', toks := tk }) : wpAny (model P w) A (call (.type "set") [.ref l]) Q E s := by
  obtain ⟨_, _, hmro⟩ := PySem.F.called_set.mro; have hmade := PySem.F.called_set.made; have hsub := PySem.F.called_set.sub
  refine wpAny_call (codeAny_of_tree ?_); show wpAny _ _ (callAny (.type "set") _) _ _ _
  refine wpAny_pure ⟨Code.quiet_builtin _ (by decide +kernel), codeAny_builtin PySem.F.entry_type_call ?_⟩; rw [Around.under_plain (weight_type_call_type "set" [.ref l] []) rfl]
  have h1 := PySem.F.called_set.notType; have h2 := PySem.F.called_set.canCreate; have hct := PySem.F.typeCall_set_1 (.ref l)
  repeat (any_goals (first | assumption | wp_step))
  refine codeAny_mono (code_set_led1 (.ref l) (E := E) (Q₁ := fun ob s₁ => ob = .ref s.heap.objs.size ∧ s₁ = { s with heap := s.heap.push (mtSet w) }) ⟨rfl, rfl⟩) fun r s₁ q => ?_
  cases r with
  | error e => exact q
  | ok fl =>
    cases fl with
    | ret ob =>
      obtain ⟨rfl, rfl⟩ := q
      have atS : (s.heap.push (mtSet w)).get? s.heap.objs.size = some (mtSet w) := Heap.get?_push_size _ rfl
      have tyS : Shared.TypeIs { s with heap := s.heap.push (mtSet w) } (.ref s.heap.objs.size) "set" := ⟨_, atS, rfl⟩
      have i1 := PySem.F.called_set.init.lookup; have i2 := PySem.F.called_set.init.bind (.ref s.heap.objs.size)
      repeat (any_goals (first | assumption | wp_step))
      refine codeAny_mono (codeAny_call_builtin (R := wants (fun r s₂ => r = .none ∧ ∃ h' tk, s₂ = { s with heap := h', toks := tk } ∧ SetH P w h' s.heap.objs.size (gathK ks) ∧ (∀ b o, s.heap.get? b = some o → h'.get? b = some o)) E) PySem.F.called_set.init.plain PySem.F.entry_set_init (check_set_init_1 tyS ?_)) fun r₂ s₂ q₂ => ?_
      · obtain ⟨ol, hol, hcl, nl, hdl⟩ := hl
        obtain ⟨c1, d1, dat, slo⟩ := ol
        simp only at hcl hdl
        subst hcl; subst hdl
        have hol2 : (s.heap.push (mtSet w)).get? l = some { cls := .type "tuple", dict := d1, data := .seq its nl, slots := slo } := Heap.get?_push_of_some _ hol
        have u1 := PySem.F.sub_tuple_set; have u2 := PySem.F.sub_tuple_frozenset
        have u3 : (Value.type "tuple" == Value.type "dict") = false := by decide
        have hl2 : (s.heap.push (mtSet w)).IsTuple l its := ⟨_, hol2, rfl, nl, rfl⟩
        have hls : l < s.heap.objs.size := Heap.lt_size hol
        unfold Builtin.«set.__init__» noKeywords Builtin.Frozenset.updateFrom; generalize hPI : pyIter = PI; wp_walk; subst hPI
        refine wpAny_pyIter_tuple hl2 (wpAny_bind (wpAny_runValue ?_))
        have h3 : A.in1.in1.in1.handled = none := by simp [hh]
        have sz : (s.heap.push (mtSet w)).objs.size = s.heap.objs.size + 1 := Heap.size_push ..
        have ne1 : l ≠ (s.heap.push (mtSet w)).objs.size := by rw [sz]; exact Nat.ne_of_lt (Nat.lt_succ_of_lt hls)
        have ne2 : s.heap.objs.size ∉ [(s.heap.push (mtSet w)).objs.size, l] := fun z => by
          rw [sz] at z
          rcases List.mem_cons.mp z with z | z
          · exact Nat.succ_ne_self _ z.symm
          · exact Nat.ne_of_gt hls (List.mem_singleton.mp z)
        refine setH_fill ((Walks.tuple h3 _ l ne1 its).toS) ne2 ks hn hr hb its.size 0 _ rfl (Nat.zero_le _) ⟨⟨_, Heap.get?_push_size _ rfl, rfl, rfl⟩, hl2.push _⟩ (setH_new (Heap.get?_push_of_some _ atS)) fun s' mv hs => ?_
        obtain ⟨h', g', d', tk', os'⟩ := s'
        have eg : g' = s.gens := mv.gens; have ed : d' = s.drawn := mv.drawn; have eo : os' = s.os := mv.os
        subst eg; subst ed; subst eo
        show wpAny _ _ _ _ _ _
        refine wpAny_pure ?_
        show wpAny _ _ (ret Value.none) _ _ _
        refine wpAny_pure ⟨rfl, h', tk', rfl, hs, fun b o e => mv.heap b o (fun z => ?_) (Heap.get?_push_of_some _ (Heap.get?_push_of_some _ e))⟩
        have lb : b < s.heap.objs.size := Heap.lt_size e
        rcases List.mem_cons.mp z with z | z
        · exact Nat.ne_of_lt lb z
        · exact Nat.ne_of_lt (Nat.lt_succ_of_lt lb) ((List.mem_singleton.mp z).trans sz)
      · cases r₂ with
        | error e => exact q₂
        | ok fl₂ =>
          cases fl₂ with
          | ret r =>
            obtain ⟨rfl, h', tk, rfl, hs, hk⟩ := q₂
            repeat (any_goals (first | assumption | wp_step))
            exact h _ _ hs hk
          | _ => exact q₂.elim
    | _ => exact q.elim
end
/-! ### counted, sorted -/
section
variable {P : Program} {w : World} {A : Around} {E : Value → Shared → Prop} {s : Shared} {a : Addr} {ks : List Key}
theorem setH_len {Q : Value → Shared → Prop} (R : SetH P w s.heap a ks) (h : ∀ tk tk', Q (.int ks.length tk) { s with toks := tk' }) : wpAny (model P w) A (call (.builtin "len") [.ref a]) Q E s := by
  obtain ⟨ob, es, ep, t, ho, hx, hd, g, pm, nd, hb, hf, hr, hl⟩ := R
  have e : es.size = ks.length := by rw [← pm.length_eq, ksIn, List.length_map, Array.length_toList]
  refine call_len_set ho hx hd hf (by unfold scanBound at hb; omega) ?_
  rw [e]
  exact h _ _
theorem setH_sorted {κ : PyProof.Rows.KeyKind} (hO : κ.OneLt) {Q : Value → Shared → Prop} (R : SetH P w s.heap a ks) (hh : A.handled = none)
    (hk : ∀ vs : List Value, (∀ v ∈ vs, RelV (kV (keyIn v)) v) → (vs.map keyIn).Perm ks → KeysOf κ (pairsOf vs) ∧ (∀ v₁ v₂ rest, vs = v₁ :: v₂ :: rest → keyKind' (v₁ :: v₂ :: rest).toArray = pure oneType'))
    (h : ∀ (s' : Shared) (p : Addr) (vs : List Value) (st : SortSt) (c : Nat), (∀ b o, s.heap.get? b = some o → s'.heap.get? b = some o) → s'.gens = s.gens → s'.os = s.os → s.heap.objs.size ≤ p → (∀ v ∈ vs, RelV (kV (keyIn v)) v) → (vs.map keyIn).Perm ks →
      (arrOf st).Perm (pairsOf vs) → SortedToK κ (arrOf st) (pairsOf vs).size → s'.heap.get? p = some (seqObj "list" ((arrOf st).map (·.2)) c) → Q (.ref p) s') : wpAny (model P w) A (call (.builtin "sorted") [.ref a]) Q E s := by
  obtain ⟨ob, es, ep, t, ho, hx, hd, g, pm, nd, hb, hf, hr, hl⟩ := R
  refine Calls.call_function_entry kind_sorted plain_sorted entry_sorted (args_sorted1 _) ?_; unfold Builtin.«sorted»
  refine wpAny_bind (m := checkCount "sorted" 1 1 _) (wpAny_pure (wpAny_bind (collect_set (A := A.in1) hh ⟨ob, ho, hx.1, hd⟩ hf hb hr hl fun s1 vs k1 hz g1 o1 pv => ?_)))
  have len : vs.length < scanBound := by rw [pv.length_eq, List.length_map, Array.length_toList]; exact hb
  have rl : ∀ v ∈ vs, RelV (kV (keyIn v)) v := fun v hv => by
    obtain ⟨e, he, q⟩ := List.mem_map.mp (pv.mem_iff.mp hv)
    rw [← q]
    exact (g e he).1
  have pk : (vs.map keyIn).Perm ks := by
    have z := pv.map keyIn
    rw [List.map_map] at z
    exact z.trans pm
  have lz : vs.length ≤ sizeLine := Nat.le_trans (Nat.le_of_lt len) (by decide)
  refine wpAny_bind (wpAny_newList ?_ lz)
  have hoL : (s1.heap.push (seqObj "list" vs.toArray 0)).get? s1.heap.objs.size = some (seqObj "list" vs.toArray 0) := Heap.get?_push_size _ rfl
  obtain ⟨h0, hkk⟩ := hk vs rl pk
  refine wpAny_bind (wpAny_holding (wpAny_call_entry slot_list_sort ⟨_, hoL, rfl⟩ entry_list_sort (list_sort_treeKAny hO hoL h0 hkk lz fun st a1 a2 => ⟨_, rfl, ?_⟩) (args_list_sort _)))
  obtain ⟨c, hc⟩ := sortedHeap_at (vs := vs) (out := (arrOf st).map (·.2)) hoL
  refine wpAny_pure ⟨_, rfl, h _ s1.heap.objs.size vs st c (fun b u e => ?_) g1 o1 hz rl pk a1 a2 hc⟩
  have q := k1 b u e
  have lt := Heap.lt_size q
  show (sortedHeap (s1.heap.push (seqObj "list" vs.toArray 0)) s1.heap.objs.size vs ((arrOf st).map (·.2))).get? b = some u
  rw [sortedHeap_old (Nat.ne_of_lt lt) (by rw [size_push']; exact Nat.lt_succ_of_lt lt)]
  exact Heap.get?_push_of_some _ q
end
end Mp

set_option Elab.async false
set_option linter.all false
set_option maxRecDepth 100000
set_option maxHeartbeats 4000000
/-! Mp: len(set(..)), sorted(set(..)). -/
namespace Mp
open PySem PySem.Spec PyProof.Rows L2
def lenSetR (ys : List W) : Option W := match strsOf ys with
  | some zs => if zs.length < 4000 then some (.int ((ddup zs).length : Nat)) else none
  | none => match intsOf ys with
    | some ns => if ns.length < 4000 then some (.int ((ddup ns).length : Nat)) else none
    | none => none
def sorSetR (ys : List W) : Option W := match strsOf ys with
  | some zs => if zs.length < 4000 then some (.lst ((sortN (ddup zs)).map .str)) else none
  | none => match intsOf ys with
    | some ns => if ns.length < 4000 then some (.lst ((sortZ (ddup ns)).map .int)) else none
    | none => none
def mSet (o : List W → Option W) (f : ME) : ME := fun η S => (f η S).bind fun x S1 => rOpt ((seqOf S1 x).bind o) S1
def kS (l : List Nat) : Key := .inr ⟨l.toArray⟩
def kZ (i : Int) : Key := .inl i
def unS : Key → List Nat
  | .inr x => x.cps.toList
  | .inl _ => []
def unZ : Key → Int
  | .inl i => i
  | .inr _ => 0
theorem unS_kS (l : List Nat) : unS (kS l) = l := by simp [unS, kS]
theorem unZ_kZ (l : Int) : unZ (kZ l) = l := rfl
theorem kS_inj (a b : List Nat) (h : kS a = kS b) : a = b := by rw [← unS_kS a, h, unS_kS]
theorem kZ_inj (a b : Int) (h : kZ a = kZ b) : a = b := by rw [← unZ_kZ a, h, unZ_kZ]
theorem ddup_kS (l : List (List Nat)) : ddup (l.map kS) = (ddup l).map kS := ddup_map kS_inj l
theorem ddup_kZ (l : List Int) : ddup (l.map kZ) = (ddup l).map kZ := ddup_map kZ_inj l
theorem un_map {α : Type} (f : α → Key) (g : Key → α) (e : ∀ a, g (f a) = a) (l : List α) : (l.map f).map g = l := by
  rw [List.map_map]
  conv => rhs; rw [← List.map_id l]
  exact List.map_congr_left fun a _ => e a
theorem key_at : ∀ {ks : List Key} {us : List Value}, Vals (ks.map kV) us → ∀ (i : Nat) (v : Value), us[i]? = some v → ∃ k, ks[i]? = some k ∧ RelV (kV k) v
  | [], _, .nil, i, v, h => by simp at h
  | k :: _, _, .cons r t, 0, v, h => by
    simp only [List.getElem?_cons_zero, Option.some.injEq] at h
    exact ⟨k, rfl, h ▸ r⟩
  | _ :: _, _, .cons r t, i + 1, v, h => by
    simp only [List.getElem?_cons_succ] at h
    exact key_at t i v h
theorem strs_in : ∀ {vs : List Value}, (∀ v ∈ vs, RelV (kV (keyIn v)) v) → (∀ v ∈ vs, ∃ l, keyIn v = kS l) → ∃ xs : List Str, StrsAre vs xs ∧ vs.map (fun v => unS (keyIn v)) = xs.map fun x => x.cps.toList
  | [], _, _ => ⟨[], .nil, rfl⟩
  | v :: vs, h, g => by
    obtain ⟨l, e⟩ := g v (List.mem_cons_self ..)
    have r := h v (List.mem_cons_self ..)
    rw [e] at r
    obtain ⟨t, q⟩ := (show ∃ t, v = Value.str ⟨l.toArray⟩ t from r)
    obtain ⟨xs, h1, h2⟩ := strs_in (fun u hu => h u (List.mem_cons_of_mem _ hu)) fun u hu => g u (List.mem_cons_of_mem _ hu)
    refine ⟨⟨l.toArray⟩ :: xs, by rw [q]; exact .cons _ t h1, ?_⟩
    rw [List.map_cons, List.map_cons, h2, e]
    rfl
theorem ints_in : ∀ {vs : List Value}, (∀ v ∈ vs, RelV (kV (keyIn v)) v) → (∀ v ∈ vs, ∃ l, keyIn v = kZ l) → ∃ xs : List Int, IntsAre vs xs ∧ vs.map (fun v => unZ (keyIn v)) = xs
  | [], _, _ => ⟨[], .nil, rfl⟩
  | v :: vs, h, g => by
    obtain ⟨l, e⟩ := g v (List.mem_cons_self ..)
    have r := h v (List.mem_cons_self ..)
    rw [e] at r
    obtain ⟨t, q⟩ := (show ∃ t, v = Value.int l t from r)
    obtain ⟨xs, h1, h2⟩ := ints_in (fun u hu => h u (List.mem_cons_of_mem _ hu)) fun u hu => g u (List.mem_cons_of_mem _ hu)
    refine ⟨l :: xs, by rw [q]; exact .cons _ t h1, ?_⟩
    rw [List.map_cons, h2, e]
    rfl
section
variable {X : Cx} {G : Gs} {a : Expr} {f : ME} {p p2 q pos : Pos}
theorem seq_or' {K : PySem.W.Frag} {γ : Ga} {H : Hp} {S : Store} {w : W} {v : V} {xs : List W} (s : StoreOk K G γ H S) (h : seqOf S w = some xs) (r : Rep K G γ H w v) : ∃ a vs, v = .ref a ∧ (SqL K H a vs ∨ SqT K H a vs) ∧ Reps K G γ H xs vs := by
  cases r with
  | tup f q =>
    cases h
    exact ⟨_, _, rfl, .inr f.sq, q⟩
  | lst h1 o1 q =>
    obtain ⟨a, vs, ev, hv, q⟩ := lst_or s (show lstOf S (W.lst _) = some xs from h) (.lst h1 o1 q)
    exact ⟨a, vs, ev, .inl hv, q⟩
  | ref hr =>
    obtain ⟨a, vs, ev, hv, q⟩ := lst_or s (show lstOf S (W.ref _) = some xs from h) (.ref hr)
    exact ⟨a, vs, ev, .inl hv, q⟩
  | _ => cases h
theorem set_at {A : Around} {E : Value → Shared → Prop} {pins : List (Addr × Obj)} {σ : L2.St} {H : Hp} {s : Shared} {S : Store} {γ : Ga} {x : W} {v : V} {u : Value} {ys : List W} {ks : List Key} {Q : Value → Shared → Prop} (hh : A.handled = none) (I : Inv X pins σ H s) (ss : StoreOk X.K G γ H S) (es : seqOf S x = some ys) (r : Rep X.K G γ H x v) (rv : RelV v u)
    (hk : ∀ {vs}, Reps X.K G γ H ys vs → vs = ks.map kV) (hz : ks.length < 4000) (h : ∀ (h' : Heap) (tk : Nat), SetH X.prog X.w h' s.heap.objs.size (gathK ks) → (∀ b o, s.heap.get? b = some o → h'.get? b = some o) → Q (.ref s.heap.objs.size) { s with heap := h', toks := tk }) :
    wpAny (model X.prog X.w) A (call (.type "set") [u]) Q E s := by
  obtain ⟨l, vs, rfl, hq, rr⟩ := seq_or' ss es r
  obtain rfl := hk rr
  cases rv
  rcases hq with hq | hq
  · obtain ⟨its, ri, pl, _⟩ := I.list hq
    have e : ks.length = its.length := by rw [← ri.length, List.length_map]
    exact setH_list (its := its.toArray) ks hh pl.isList (fun i v hv => key_at ri i v (by simpa using hv)) (by simpa using e) (by unfold scanBound; simp only [List.size_toArray]; omega) h
  · obtain ⟨its, ri, pl, _⟩ := I.tuple hq
    have e : ks.length = its.length := by rw [← ri.length, List.length_map]
    exact setH_tuple (its := its.toArray) ks hh pl (fun i v hv => key_at ri i v (by simpa using hv)) (by simpa using e) (by unfold scanBound; simp only [List.size_toArray]; omega) h
theorem strs_ks {K : PySem.W.Frag} {γ : Ga} {H : Hp} {ys : List W} {zs : List (List Nat)} (e : strsOf ys = some zs) {vs : List V} (r : Reps K G γ H ys vs) : vs = (zs.map kS).map kV := by
  rw [(strsOf_reps r e).1, List.map_map, List.map_map] <;> rfl
theorem ints_ks {K : PySem.W.Frag} {γ : Ga} {H : Hp} {ys : List W} {zs : List Int} (e : intsOf ys = some zs) {vs : List V} (r : Reps K G γ H ys vs) : vs = (zs.map kZ).map kV := by
  rw [intsOf_reps' r e, List.map_map] <;> rfl
theorem se_lenSet (cf : Cfg X) (hm : X.mg "len" = none) (hm2 : X.mg "set" = none) (ha : SE X G a f) (hg : Gl X "len" := by rfl) (hg2 : Gl X "set" := by rfl)
    (na : starEach [a] X.env = (false, eval a X.env) :: starEach [] X.env := by rfl) : SE X G (.Call (.Name "len" p) [.Call (.Name "set" p2) [a] [] q] [] pos) (mSet lenSetR f) := by
  refine ⟨fun Wi tk => ⟨fun pins s σ H Q I h => ?_⟩⟩
  obtain ⟨η, S, γ, he, hs, k⟩ := h
  refine Call_ (ld_blt I hg hm PySem.boot_len ?_)
  refine PyProof.Rows.callWith_builtin1 (PyProof.Rows.args_cons ?_ rfl) rfl rfl
  refine Call_ (ld_blt I hg2 hm2 PyProof.Rows.boot_set ?_)
  refine PyProof.Rows.callWith_type1 (PyProof.Rows.args_cons (thn ((ha.run Wi tk).run pins s σ H _ I ⟨η, S, γ, he, hs, Post.seq k⟩) fun v s1 ⟨x, H1, I1, rv, w, S1, γ1, e1, r1, ss1, k1⟩ => PyProof.Rows.args_nil ?_) na) na rfl
  have fin : ∀ (ys : List W) (ks : List Key) (n : Nat), seqOf S1 w = some ys → (∀ {vs}, Reps X.K G γ1 H1 ys vs → vs = ks.map kV) → ks.length < 4000 → lenSetR ys = some (.int n) → (ddup ks).length = n →
      wpAny (model X.prog X.w) X.A (call (.type "set") [v]) (fun v s₂ => wpAny (model X.prog X.w) X.A (spliced (backTo pos (starEach [] X.env))) (fun vs s₃ => wpAny (model X.prog X.w) X.A (call (.builtin "len") (v :: vs)) (EP X pins σ Q) X.xe s₃) X.xe s₂) X.xe s1 := by
    intro ys ks n e2 hk hz hr hn
    refine set_at (I1.ok.hd cf.calm) I1 ss1 e2 r1 rv hk hz fun h' tk hS hkeep => PyProof.Rows.args_nil ?_
    have I2 : Inv X pins σ H1 { s1 with heap := h', toks := tk } := I1.kept hkeep
    refine setH_len (s := { s1 with heap := h', toks := tk }) hS fun t1 t2 => ⟨.int n, H1, I2.kept (t' := t2) (fun b u e => e), ⟨t1, ?_⟩, ?_⟩
    · rw [(gathK_perm ks).length_eq, hn]
    · rw [e2, show (some ys).bind lenSetR = some (W.int n) from hr] at k1
      exact k1 _ _ _ Ext.refl (.int _) ss1
  cases e2 : seqOf S1 w with
  | none => rw [e2] at k1; exact k1.elim
  | some ys =>
    cases ez : strsOf ys with
    | some zs =>
      by_cases hz : zs.length < 4000
      · exact fin ys (zs.map kS) (ddup zs).length e2 (strs_ks ez) (by rw [List.length_map]; exact hz) (by simp only [lenSetR, ez, if_pos hz]) (by rw [ddup_kS, List.length_map])
      · rw [e2] at k1
        simp only [Option.bind_some, lenSetR, ez, if_neg hz] at k1
        exact k1.elim
    | none =>
      cases ei : intsOf ys with
      | some zs =>
        by_cases hz : zs.length < 4000
        · exact fin ys (zs.map kZ) (ddup zs).length e2 (ints_ks ei) (by rw [List.length_map]; exact hz) (by simp only [lenSetR, ez, ei, if_pos hz]) (by rw [ddup_kZ, List.length_map])
        · rw [e2] at k1
          simp only [Option.bind_some, lenSetR, ez, ei, if_neg hz] at k1
          exact k1.elim
      | none =>
        rw [e2] at k1
        simp only [Option.bind_some, lenSetR, ez, ei] at k1
        exact k1.elim
theorem new_list {pins : List (Addr × Obj)} {σ : L2.St} {H : Hp} {s s' : Shared} {Q : VK} {S : Store} {γ : Ga} {ws : List W} {vs : List V} {pa c : Nat} {out : Array Value} (I : Inv X pins σ H s) (ss : StoreOk X.K G γ H S) (kp : ∀ b o, s.heap.get? b = some o → s'.heap.get? b = some o) (hg : s'.gens = s.gens) (ho : s'.os = s.os) (hp : s.heap.objs.size ≤ pa)
    (at' : s'.heap.get? pa = some (seqObj "list" out c)) (rv : Vals vs out.toList) (hz : vs.length ≤ sizeLine) (rr : ∀ {γ' : Ga} {H' : Hp}, Reps X.K G γ' H' ws vs) (k : ∀ (v : V) (γ' : Ga) (H' : Hp), Ext γ H γ' H' → Rep X.K G γ' H' (.lst ws) v → StoreOk X.K G γ' H' S → Q v H') :
    EP X pins σ Q (.ref pa) s' := by
  have fr : H pa = none := I.hok.fresh hp
  refine ⟨.ref pa, upd H pa (.lst vs), I.call' (ch := []) ho (Un.laid kp hp fr) (I.hok.laid kp hp ⟨hz, out.toList, c, rv, at'⟩) (by rw [hg]; exact I.bare) (fun _ z => nomatch z), rfl, k _ γ _ (Ext.upd ss fr) (.lst upd_same (ss.fresh fr) rr) (ss.upd fr)⟩
theorem se_sorSet (cf : Cfg X) (hm : X.mg "sorted" = none) (hm2 : X.mg "set" = none) (ha : SE X G a f) (hg : Gl X "sorted" := by rfl) (hg2 : Gl X "set" := by rfl)
    (na : starEach [a] X.env = (false, eval a X.env) :: starEach [] X.env := by rfl) : SE X G (.Call (.Name "sorted" p) [.Call (.Name "set" p2) [a] [] q] [] pos) (mSet sorSetR f) := by
  refine ⟨fun Wi tk => ⟨fun pins s σ H Q I h => ?_⟩⟩
  obtain ⟨η, S, γ, he, hs, k⟩ := h
  refine Call_ (ld_blt I hg hm PyProof.Rows.boot_sorted ?_)
  refine PyProof.Rows.callWith_builtin1 (PyProof.Rows.args_cons ?_ rfl) rfl rfl
  refine Call_ (ld_blt I hg2 hm2 PyProof.Rows.boot_set ?_)
  refine PyProof.Rows.callWith_type1 (PyProof.Rows.args_cons (thn ((ha.run Wi tk).run pins s σ H _ I ⟨η, S, γ, he, hs, Post.seq k⟩) fun v s1 ⟨x, H1, I1, rv, w, S1, γ1, e1, r1, ss1, k1⟩ => PyProof.Rows.args_nil ?_) na) na rfl
  cases e2 : seqOf S1 w with
  | none => rw [e2] at k1; exact k1.elim
  | some ys =>
    rw [e2] at k1
    cases ez : strsOf ys with
    | some zs =>
      by_cases hz : zs.length < 4000
      · simp only [Option.bind_some, sorSetR, ez, if_pos hz] at k1
        obtain ⟨l0, vs0, _, _, rr0⟩ := seq_or' ss1 e2 r1
        have bd := strs_size rr0 ez
        refine set_at (I1.ok.hd cf.calm) I1 ss1 e2 r1 rv (strs_ks ez) (by rw [List.length_map]; exact hz) fun h' tk hS hkeep => PyProof.Rows.args_nil ?_
        have I2 : Inv X pins σ H1 { s1 with heap := h', toks := tk } := I1.kept hkeep
        have al : ∀ {vs : List Value}, (vs.map keyIn).Perm (gathK (zs.map kS)) → ∀ v ∈ vs, ∃ l, keyIn v = kS l := fun pm v hv => by
          have z := mem_ddup.mp ((gathK_perm _).mem_iff.mp (pm.mem_iff.mp (List.mem_map_of_mem hv)))
          obtain ⟨l, _, e⟩ := List.mem_map.mp z
          exact ⟨l, e.symm⟩
        refine setH_sorted (s := { s1 with heap := h', toks := tk }) strKind_oneLt hS (I2.ok.hd cf.calm) (fun vs rl pm => ?_) fun s' pa vs st c kp g1 o1 hp rl pm a1 a2 at' => ?_
        · obtain ⟨xs, sa, _⟩ := strs_in rl (al pm)
          exact ⟨sa.keysOf, fun v₁ v₂ rest e => keyKind_strs (by rw [← e]; exact sa)⟩
        · obtain ⟨xs, sa, ex⟩ := strs_in rl (al pm)
          obtain ⟨os, h1, h2, h3⟩ := sorted_out_str sa a1 a2
          have pz : (os.map fun s => s.cps.toList).Perm (ddup zs) := by
            have z := (pm.trans (gathK_perm _)).map unS
            rw [ddup_kS, un_map kS unS unS_kS, List.map_map] at z
            exact (h2.map _).trans (ex ▸ z)
          have es := sort_unique pz h3
          have el : os = (sortN (ddup zs)).map fun l => (⟨l.toArray⟩ : Str) := by rw [← es]; exact strs_ext os
          have nz : os.length ≤ sizeLine := by
            have z1 : os.length = (ddup zs).length := by rw [← pz.length_eq, List.length_map]
            have z2 := ddup_len zs
            rw [sizeLine_eq]
            omega
          refine new_list (vs := os.map V.str) (ws := (sortN (ddup zs)).map .str) I2 ss1 kp g1 o1 hp at' (vals_of_strs h1) (by rw [List.length_map]; exact nz) (fun {γ' H'} => ?_) k1
          rw [el]
          exact reps_of_strs fun z hz' => bd z (mem_ddup.mp ((sortN_perm _).mem_iff.mp hz'))
      · simp only [Option.bind_some, sorSetR, ez, if_neg hz] at k1
        exact k1.elim
    | none =>
      cases ei : intsOf ys with
      | some zs =>
        by_cases hz : zs.length < 4000
        · simp only [Option.bind_some, sorSetR, ez, ei, if_pos hz] at k1
          refine set_at (I1.ok.hd cf.calm) I1 ss1 e2 r1 rv (ints_ks ei) (by rw [List.length_map]; exact hz) fun h' tk hS hkeep => PyProof.Rows.args_nil ?_
          have I2 : Inv X pins σ H1 { s1 with heap := h', toks := tk } := I1.kept hkeep
          have al : ∀ {vs : List Value}, (vs.map keyIn).Perm (gathK (zs.map kZ)) → ∀ v ∈ vs, ∃ l, keyIn v = kZ l := fun pm v hv => by
            have z := mem_ddup.mp ((gathK_perm _).mem_iff.mp (pm.mem_iff.mp (List.mem_map_of_mem hv)))
            obtain ⟨l, _, e⟩ := List.mem_map.mp z
            exact ⟨l, e.symm⟩
          refine setH_sorted (s := { s1 with heap := h', toks := tk }) intKind_oneLt hS (I2.ok.hd cf.calm) (fun vs rl pm => ?_) fun s' pa vs st c kp g1 o1 hp rl pm a1 a2 at' => ?_
          · obtain ⟨xs, sa, _⟩ := ints_in rl (al pm)
            exact ⟨sa.keysOfInt, fun v₁ v₂ rest e => keyKind_ints (by rw [← e]; exact sa)⟩
          · obtain ⟨xs, sa, ex⟩ := ints_in rl (al pm)
            obtain ⟨os, h1, h2, h3⟩ := sorted_out sa a1 (sortedTo_of_int a2)
            have pz : os.Perm (ddup zs) := by
              have z := (pm.trans (gathK_perm _)).map unZ
              rw [ddup_kZ, un_map kZ unZ unZ_kZ, List.map_map] at z
              exact h2.trans (ex ▸ z)
            have es := sortZ_unique pz h3
            have nz : os.length ≤ sizeLine := by
              have z1 : os.length = (ddup zs).length := pz.length_eq
              have z2 := ddup_len zs
              rw [sizeLine_eq]
              omega
            refine new_list (vs := os.map V.int) (ws := (sortZ (ddup zs)).map .int) I2 ss1 kp g1 o1 hp at' (vals_of_ints h1) (by rw [List.length_map]; exact nz) (fun {γ' H'} => ?_) k1
            rw [es]
            exact reps_of_ints
        · simp only [Option.bind_some, sorSetR, ez, ei, if_neg hz] at k1
          exact k1.elim
      | none =>
        simp only [Option.bind_some, sorSetR, ez, ei] at k1
        exact k1.elim
end
end Mp

set_option Elab.async false
set_option linter.all false
set_option maxRecDepth 100000
set_option maxHeartbeats 4000000
/-! Mp: zip of two or three lists, tuples, texts in any mix. -/
namespace Mp
open PySem PySem.Spec PyProof.Rows L2
/-- what is drawn from -/
inductive Sr where
  | L (a : Addr) | T (a : Addr) | S (x : Str)
namespace Sr
def val : Sr → V
  | L a => .ref a
  | T a => .ref a
  | S x => .str x
def has (K : PySem.W.Frag) (H : Hp) : Sr → List V → Prop
  | L a, xs => SqL K H a xs
  | T a, xs => SqT K H a xs
  | S x, xs => xs = x.cps.toList.map fun c => V.str ⟨#[c]⟩
def fp (it : Addr) : Sr → List Addr
  | L a => [it, a]
  | T a => [it, a]
  | S _ => [it]
def at_ (h : Heap) (it : Addr) (t : Tok) (i : Nat) : Sr → Prop
  | L a => h.IsListIter it a i
  | T a => h.IsTupleIter it a i
  | S x => h.IsStrIter it (strIterType x) x t i
def off (it : Addr) : Sr → Prop
  | L a => a ≠ it
  | T a => a ≠ it
  | S _ => True
def itO : Sr → Tok → Obj
  | L a, _ => { cls := .type "list_iterator", data := .fields #[.ref a, .int 0 0] }
  | T a, _ => { cls := .type "tuple_iterator", data := .fields #[.ref a, .int 0 0] }
  | S x, t => { cls := .type (strIterType x), data := .fields #[.str x t, .int 0 0] }
def lt (n : Nat) : Sr → Prop
  | L a => a < n
  | T a => a < n
  | S _ => True
theorem mem (it : Addr) (r : Sr) : it ∈ r.fp it := by cases r <;> simp [fp]
theorem fp_of {it b : Addr} {r : Sr} (h : b ∈ r.fp it) (n : Nat) (hl : r.lt n) : b = it ∨ b < n := by
  cases r with
  | L a =>
    have h : b ∈ [it, a] := h
    rcases List.mem_cons.mp h with z | z
    · exact .inl z
    · rw [List.mem_singleton.mp z]; exact .inr hl
  | T a =>
    have h : b ∈ [it, a] := h
    rcases List.mem_cons.mp h with z | z
    · exact .inl z
    · rw [List.mem_singleton.mp z]; exact .inr hl
  | S x => exact .inl (List.mem_singleton.mp h)
theorem keep {h h' : Heap} {it : Addr} {t : Tok} {i : Nat} {r : Sr} (x : r.at_ h it t i) (k : ∀ o, h.get? it = some o → h'.get? it = some o) : r.at_ h' it t i := by
  cases r with
  | L a => exact let ⟨o, ho, q⟩ := x; ⟨o, k o ho, q⟩
  | T a => exact let ⟨o, ho, q⟩ := x; ⟨o, k o ho, q⟩
  | S y => exact let ⟨o, ho, q⟩ := x; ⟨o, k o ho, q⟩
theorem cell {h : Heap} {it : Addr} {t : Tok} {i : Nat} {r : Sr} (x : r.at_ h it t i) : ∃ o, h.get? it = some o ∧ ∀ v, o.data ≠ .cell v := by
  cases r with
  | L a => obtain ⟨o, ho, _, d⟩ := x; exact ⟨o, ho, fun v q => by rw [d] at q; cases q⟩
  | T a => obtain ⟨o, ho, _, d⟩ := x; exact ⟨o, ho, fun v q => by rw [d] at q; cases q⟩
  | S y => obtain ⟨o, ho, _, d⟩ := x; exact ⟨o, ho, fun v q => by rw [d] at q; cases q⟩
theorem start {h : Heap} {it : Addr} {t : Tok} {r : Sr} (x : h.get? it = some (r.itO t)) : r.at_ h it t 0 := by
  cases r <;> exact ⟨_, x, rfl, rfl⟩
section
variable {X : Cx} {pins : List (Addr × Obj)} {σ : L2.St} {H : Hp} {s : Shared} {r : Sr} {xs ys : List V}
theorem inj (I : Inv X pins σ H s) (h : r.has X.K H xs) (h' : r.has X.K H ys) : xs = ys := by
  cases r with
  | L a => exact I.list_inj h h'
  | T a => exact I.tuple_inj h h'
  | S x => exact Eq.trans h (Eq.symm h')
theorem below (I : Inv X pins σ H s) (h : r.has X.K H xs) : r.lt s.heap.objs.size := by
  cases r with
  | L a => obtain ⟨its, rv, p, _⟩ := I.list h; exact p.lt
  | T a => obtain ⟨its, rv, ⟨_, q, _⟩, _⟩ := I.tuple h; exact Heap.lt_size q
  | S x => trivial
/-- what the iterator draws -/
theorem draws (hc : X.calm = true) (I : Inv X pins σ H s) (h : r.has X.K H xs) (it : Addr) (t : Tok) (hne : r.off it) :
    ∃ (Pi : Nat → Value → Prop) (Si : Nat → Heap → Prop), Draws X.prog X.w X.A.in1 it (r.fp it) xs.length Pi Si ∧ (∀ i, r.at_ s.heap it t i → Si i s.heap) ∧ (∀ i h, Si i h → r.at_ h it t i) ∧ ∀ i v, Pi i v → ∃ x, xs[i]? = some x ∧ RelV x v := by
  have hh : X.A.in1.handled = none := I.ok.hd hc
  cases r with
  | L a =>
    obtain ⟨its, rv, p, _⟩ := I.list h
    have e : xs.length = its.toArray.size := by simpa using rv.length
    rw [e]
    refine ⟨_, _, Draws.list hh it a hne its.toArray, fun i q => ⟨q, p.isList⟩, fun i h q => q.1, fun i v q => ?_⟩
    have q : its[i]? = some v := by simpa using q
    have lt : i < xs.length := by rw [rv.length]; exact (List.getElem?_eq_some_iff.mp q).1
    obtain ⟨u, hu, ru⟩ := rv.get (List.getElem?_eq_getElem lt)
    rw [q] at hu
    cases hu
    exact ⟨_, List.getElem?_eq_getElem lt, ru⟩
  | T a =>
    obtain ⟨its, rv, p, _⟩ := I.tuple h
    have e : xs.length = its.toArray.size := by simpa using rv.length
    rw [e]
    refine ⟨_, _, PySem.Draws.tuple hh it a hne its.toArray, fun i q => ⟨q, p⟩, fun i h q => q.1, fun i v q => ?_⟩
    have q : its[i]? = some v := by simpa using q
    have lt : i < xs.length := by rw [rv.length]; exact (List.getElem?_eq_some_iff.mp q).1
    obtain ⟨u, hu, ru⟩ := rv.get (List.getElem?_eq_getElem lt)
    rw [q] at hu
    cases hu
    exact ⟨_, List.getElem?_eq_getElem lt, ru⟩
  | S x =>
    have h : xs = x.cps.toList.map fun c => V.str ⟨#[c]⟩ := h
    subst h
    have e : (x.cps.toList.map fun c => V.str ⟨#[c]⟩).length = x.cps.size := by rw [List.length_map, Array.length_toList]
    rw [e]
    refine ⟨_, _, PySem.Draws.text hh it x t, fun i q => q, fun i h q => q, fun i v q => ?_⟩
    obtain ⟨c, u, hc, rfl⟩ := q
    refine ⟨.str ⟨#[c]⟩, ?_, ⟨u, rfl⟩⟩
    rw [List.getElem?_map, Array.getElem?_toList, hc] <;> rfl
end
/-- how it begins -/
def pre (s : Shared) : Sr → Heap → Prop
  | L a, h => ∃ items, h.IsList a items
  | T a, h => ∃ items, h.IsTuple a items
  | S _, _ => True
theorem begins {X : Cx} {pins : List (Addr × Obj)} {σ : L2.St} {H : Hp} {s : Shared} {r : Sr} {xs : List V} {v : Value} (I : Inv X pins σ H s) (h : r.has X.K H xs) (rv : RelV r.val v) : ∃ (t : Tok) (Hb : Heap → Prop), Begins v (r.itO t) Hb ∧ Hb s.heap := by
  cases r with
  | L a =>
    cases rv
    obtain ⟨its, _, p, _⟩ := I.list h
    exact ⟨0, _, begins_list a its.toArray, p.isList⟩
  | T a =>
    cases rv
    obtain ⟨its, _, p, _⟩ := I.tuple h
    exact ⟨0, _, begins_tuple a its.toArray, p⟩
  | S x =>
    obtain ⟨t, rfl⟩ := rv
    exact ⟨t, _, begins_text x t, trivial⟩
end Sr

def Iz2 (K : PySem.W.Frag) (r1 r2 : Sr) : It :=
  ⟨fun i H => ∃ (l1 : List V) (l2 : List V) (x1 : V) (x2 : V), r1.has K H l1 ∧ r2.has K H l2 ∧ l1[i]? = some x1 ∧ l2[i]? = some x2,
    fun i H v H' => ∃ T x1 x2, v = .ref T ∧ H T = none ∧ H' = upd H T (.tup [x1, x2]) ∧ (∀ l, r1.has K H l → l[i]? = some x1) ∧ (∀ l, r2.has K H l → l[i]? = some x2),
    fun i H => ∃ (l1 : List V) (l2 : List V), r1.has K H l1 ∧ r2.has K H l2 ∧ i ≤ l1.length ∧ i ≤ l2.length ∧ (i = l1.length ∨ i = l2.length)⟩
theorem turn_z2 {P : Program} {w : World} {K : PySem.W.Frag} {elts : List Expr} {kk : Nat} {tpos : Pos} {r1 r2 : Sr} {z TI TO i1 i2 : Addr} (t1 t2 : Tok) (D : ZipSep2 z TI TO i1 i2 (r1.fp i1) (r2.fp i2)) (o1 : r1.off i1) (o2 : r2.off i2) :
    Turn P w K (.Tuple elts kk tpos) (Iz2 K r1 r2) [z, TI, TO, i1, i2] z (fun i h => IsZip h z TI TO .none ∧ IsTupOf2 h TI (.ref i1) (.ref i2) ∧ (∃ y1 y2, IsTupOf2 h TO y1 y2) ∧ r1.at_ h i1 t1 i ∧ r2.at_ h i2 t2 i) where
  mem := by simp
  obj := fun i h st c hc => by
    obtain ⟨hz, hTI, ⟨y1, y2, hTO⟩, s1, s2⟩ := st
    have q : c = z ∨ c = TI ∨ c = TO ∨ c = i1 ∨ c = i2 := by simpa using hc
    rcases q with q | q | q | q | q
    · rw [q]; exact ⟨_, hz, fun v q => nomatch q⟩
    · rw [q]; exact ⟨_, hTI, fun v q => nomatch q⟩
    · rw [q]; exact ⟨_, hTO, fun v q => nomatch q⟩
    · rw [q]; exact Sr.cell s1
    · rw [q]; exact Sr.cell s2
  keep := fun i h h' st k => by
    obtain ⟨hz, hTI, ⟨y1, y2, hTO⟩, s1, s2⟩ := st
    exact ⟨k z (by simp) _ hz, k TI (by simp) _ hTI, ⟨y1, y2, k TO (by simp) _ hTO⟩, Sr.keep s1 fun o q => k i1 (by simp) o q, Sr.keep s2 fun o q => k i2 (by simp) o q⟩
  item := by
    intro X hP hw hK hc i pins s σ H E I hf st hg
    subst hP hw hK
    obtain ⟨hz, hTI, ⟨y1, y2, hTO⟩, s1, s2⟩ := st
    obtain ⟨l1, l2, x1, x2, h1, h2, e1, e2⟩ := hg
    obtain ⟨P1, S1, D1, a1, b1, c1⟩ := Sr.draws hc I h1 i1 t1 o1
    obtain ⟨P2, S2, D2, a2, b2, c2⟩ := Sr.draws hc I h2 i2 t2 o2
    have zl : z < s.heap.objs.size := Heap.lt_size hz
    have lt1 : i < l1.length := (List.getElem?_eq_some_iff.mp e1).1
    have lt2 : i < l2.length := (List.getElem?_eq_some_iff.mp e2).1
    refine wpAny_pyNext_zipD2_item D D1 D2 hz hTI hTO (a1 _ s1) (a2 _ s2) lt1 lt2 fun u1 u2 h' tk p1 p2 z' TO' q1 q2 hT hsz hk => ?_
    obtain ⟨v1, f1, g1⟩ := c1 _ _ p1
    rw [e1] at f1
    cases f1
    obtain ⟨v2, f2, g2⟩ := c2 _ _ p2
    rw [e2] at f2
    cases f2
    refine ⟨_, rfl, wpAny_letOwnedTupleGo_zip (s := { s with heap := h', toks := tk }) z' fun h'' z'' sb => ?_⟩
    have hT2 : h''.get? s.heap.objs.size = some { cls := .type "tuple", data := .seq #[u1, u2] } := (sb.2 _ (Nat.ne_of_gt zl)).trans hT
    have new : ObjOk X.prog X.w (upd H s.heap.objs.size (.tup [x1, x2])) h'' s.heap.objs.size (.tup [x1, x2]) := ⟨by show 2 ≤ sizeLine; decide, [u1, u2], .cons g1 (.cons g2 .nil), ⟨_, hT2, rfl, _, rfl⟩⟩
    have I1 : Inv X pins σ (upd H s.heap.objs.size (.tup [x1, x2])) { s with heap := h'', toks := tk } :=
      I.turnedNew (ch := [z, TI, TO, i1, i2]) (fun c o hb q => (sb.2 c (fun z => hb (by simp [z]))).trans (hk c o (fun z => hb (by simp [z])) (fun z => hb (by simp [z])) (fun z => hb (by simp [z])) (fun z => hb (by simp [z])) q)) hf (Nat.le_refl _) new
    refine ⟨.ref s.heap.objs.size, _, I1, rfl, ⟨_, x1, x2, rfl, I.hok.fresh (Nat.le_refl _), rfl, fun l hl => by rw [Sr.inj I hl h1]; exact e1, fun l hl => by rw [Sr.inj I hl h2]; exact e2⟩, ⟨z'', ?_, ⟨u1, u2, ?_⟩, ?_, ?_⟩, fun c hcm => ?_⟩
    · exact (sb.2 _ D.TIz).trans (hk _ _ D.TIz D.TITO D.TIi1 D.TIi2 hTI)
    · exact (sb.2 _ D.TOz).trans TO'
    · exact b1 _ _ (D1.over q1 sb D.zf1)
    · exact b2 _ _ (D2.over q2 sb D.zf2)
    · have lt : c < s.heap.objs.size := by
        have q : c = z ∨ c = TI ∨ c = TO ∨ c = i1 ∨ c = i2 := by simpa using hcm
        rcases q with q | q | q | q | q
        · rw [q]; exact zl
        · rw [q]; exact Heap.lt_size hTI
        · rw [q]; exact Heap.lt_size hTO
        · rw [q]; obtain ⟨_, z, _⟩ := Sr.cell s1; exact Heap.lt_size z
        · rw [q]; obtain ⟨_, z, _⟩ := Sr.cell s2; exact Heap.lt_size z
      rw [upd_ne (Nat.ne_of_lt lt)]
      exact (hf c hcm).1
  done := by
    intro X hP hw hK hc i pins s σ H E I hf st hg
    subst hP hw hK
    obtain ⟨hz, hTI, ⟨y1, y2, hTO⟩, s1, s2⟩ := st
    obtain ⟨l1, l2, h1, h2, e1, e2, he⟩ := hg
    obtain ⟨P1, S1, D1, a1, b1, c1⟩ := Sr.draws hc I h1 i1 t1 o1
    obtain ⟨P2, S2, D2, a2, b2, c2⟩ := Sr.draws hc I h2 i2 t2 o2
    exact wpAny_pyNext_zipD2_end D D1 D2 hz hTI hTO (a1 _ s1) (a2 _ s2) e1 e2 he fun h' tk hk => ⟨rfl, I.turnedL (t' := tk) (ch := [z, TI, TO, i1, i2]) (fun c o hb q => hk c o (fun z => hb (by simp [z])) (fun z => hb (by simp [z])) (fun z => hb (by simp [z])) (fun z => hb (by simp [z])) q) hf⟩
  self := fun A i s Q E st h => wpAny_pyIter_zip st.1 h
def iZ2 (K : PySem.W.Frag) (ta : TA) : TI := fun σ H R => ta σ H fun vs H1 => ∃ (r1 : Sr) (r2 : Sr) (l1 : List V) (l2 : List V), vs = [r1.val, r2.val] ∧ r1.has K H1 l1 ∧ r2.has K H1 l2 ∧ R (Iz2 K r1 r2) H1
theorem pi_z2 {X : Cx} {e1 e2 : Expr} {ta : TA} {p pos tpos : Pos} {elts : List Expr} {kk : Nat} (hg : Gl X "zip") (hm : X.mg "zip" = none) (ha : PA X [e1, e2] ta)
    (hs : starEach [e1, e2] X.env = (false, eval e1 X.env) :: starEach [e2] X.env := by rfl) (hpl : (backTo pos (starEach [e2] X.env)).any (·.1) = false := by rfl) :
    PI X (.Tuple elts kk tpos) (.Call (.Name "zip" p) [e1, e2] [] pos) (iZ2 X.K ta) := by
  refine ⟨fun pins s σ H R I h => ?_⟩
  refine Call_ (ld_blt I hg hm PyProof.Rows.boot_zip (PyProof.Rows.callWith_type1 (thn (ha.run pos pins s σ H _ I h) fun us s1 ⟨vs, H1, I1, rr, q1⟩ => ?_) hs hpl))
  obtain ⟨r1, r2, l1, l2, ex, h1, h2, q⟩ := q1
  subst ex
  cases rr with
  | cons v1 rr =>
  cases rr with
  | cons v2 rr =>
  cases rr
  obtain ⟨t1, Hb1, B1, b1⟩ := Sr.begins I1 h1 v1
  obtain ⟨t2, Hb2, B2, b2⟩ := Sr.begins I1 h2 v2
  have lt1 := Sr.below I1 h1
  have lt2 := Sr.below I1 h2
  refine zip_begins2 B1 B2 b1 b2 fun h' hz hTI hTO g1 g2 hsz hk => wpAny_pyIter_zip hz ?_
  have I2 : Inv X pins σ H1 { s1 with heap := h' } := I1.kept (t' := s1.toks) hk
  have far : ∀ (r : Sr), r.lt s1.heap.objs.size → ∀ (it c : Nat), s1.heap.objs.size ≤ c → c ≠ it → c ∉ r.fp it := fun r hr it c hc ne hm => by
    rcases Sr.fp_of hm _ hr with z | z
    · exact ne z
    · exact absurd (Nat.lt_of_lt_of_le z hc) (Nat.lt_irrefl _)
  have off : ∀ (r : Sr), r.lt s1.heap.objs.size → ∀ (it : Nat), s1.heap.objs.size ≤ it → r.off it := fun r hr it hc => by
    cases r with
    | L a => exact Nat.ne_of_lt (Nat.lt_of_lt_of_le hr hc)
    | T a => exact Nat.ne_of_lt (Nat.lt_of_lt_of_le hr hc)
    | S x => trivial
  have le : ∀ j, s1.heap.objs.size ≤ s1.heap.objs.size + j := fun j => Nat.le_add_right _ _
  have ne : ∀ (i j : Nat), i ≠ j → s1.heap.objs.size + i ≠ s1.heap.objs.size + j := fun i j h e => h (Nat.add_left_cancel e)
  have D : ZipSep2 (s1.heap.objs.size + 4) (s1.heap.objs.size + 2) (s1.heap.objs.size + 3) (s1.heap.objs.size + 0) (s1.heap.objs.size + 1) (r1.fp (s1.heap.objs.size + 0)) (r2.fp (s1.heap.objs.size + 1)) := ⟨(ne 2 4 (by decide)), (ne 3 4 (by decide)), (ne 2 3 (by decide)), (ne 2 0 (by decide)), (Sr.mem _ _), (far _ lt1 _ _ (le _) (ne 4 0 (by decide))), (far _ lt1 _ _ (le _) (ne 3 0 (by decide))), (ne 2 1 (by decide)), (Sr.mem _ _), (far _ lt2 _ _ (le _) (ne 4 1 (by decide))), (far _ lt2 _ _ (le _) (ne 3 1 (by decide))), (far _ lt2 _ _ (le _) (ne 0 1 (by decide))), (far _ lt1 _ _ (le _) (ne 1 0 (by decide)))⟩
  refine ⟨(s1.heap.objs.size + 4), [s1.heap.objs.size + 4, s1.heap.objs.size + 2, s1.heap.objs.size + 3, s1.heap.objs.size + 0, s1.heap.objs.size + 1], _, _, H1, rfl, I2, turn_z2 t1 t2 D (off _ lt1 _ (le _)) (off _ lt2 _ (le _)), ⟨hz, hTI, ⟨_, _, hTO⟩, Sr.start g1, Sr.start g2⟩, fun c hcm => ?_, q⟩
  have hle : s1.heap.objs.size ≤ c := by
    simp only [List.mem_cons, List.not_mem_nil, or_false] at hcm
    rcases hcm with z | z | z | z | z <;> rw [z] <;> exact le _
  exact I1.fpOk hle (I1.hok.fresh hle)
def Iz3 (K : PySem.W.Frag) (r1 r2 r3 : Sr) : It :=
  ⟨fun i H => ∃ (l1 : List V) (l2 : List V) (l3 : List V) (x1 : V) (x2 : V) (x3 : V), r1.has K H l1 ∧ r2.has K H l2 ∧ r3.has K H l3 ∧ l1[i]? = some x1 ∧ l2[i]? = some x2 ∧ l3[i]? = some x3,
    fun i H v H' => ∃ T x1 x2 x3, v = .ref T ∧ H T = none ∧ H' = upd H T (.tup [x1, x2, x3]) ∧ (∀ l, r1.has K H l → l[i]? = some x1) ∧ (∀ l, r2.has K H l → l[i]? = some x2) ∧ (∀ l, r3.has K H l → l[i]? = some x3),
    fun i H => ∃ (l1 : List V) (l2 : List V) (l3 : List V), r1.has K H l1 ∧ r2.has K H l2 ∧ r3.has K H l3 ∧ i ≤ l1.length ∧ i ≤ l2.length ∧ i ≤ l3.length ∧ (i = l1.length ∨ i = l2.length ∨ i = l3.length)⟩
theorem turn_z3 {P : Program} {w : World} {K : PySem.W.Frag} {elts : List Expr} {kk : Nat} {tpos : Pos} {r1 r2 r3 : Sr} {z TI TO i1 i2 i3 : Addr} (t1 t2 t3 : Tok) (D : ZipSep3 z TI TO i1 i2 i3 (r1.fp i1) (r2.fp i2) (r3.fp i3)) (o1 : r1.off i1) (o2 : r2.off i2) (o3 : r3.off i3) :
    Turn P w K (.Tuple elts kk tpos) (Iz3 K r1 r2 r3) [z, TI, TO, i1, i2, i3] z (fun i h => IsZip h z TI TO .none ∧ IsTupOf3 h TI (.ref i1) (.ref i2) (.ref i3) ∧ (∃ y1 y2 y3, IsTupOf3 h TO y1 y2 y3) ∧ r1.at_ h i1 t1 i ∧ r2.at_ h i2 t2 i ∧ r3.at_ h i3 t3 i) where
  mem := by simp
  obj := fun i h st c hc => by
    obtain ⟨hz, hTI, ⟨y1, y2, y3, hTO⟩, s1, s2, s3⟩ := st
    have q : c = z ∨ c = TI ∨ c = TO ∨ c = i1 ∨ c = i2 ∨ c = i3 := by simpa using hc
    rcases q with q | q | q | q | q | q
    · rw [q]; exact ⟨_, hz, fun v q => nomatch q⟩
    · rw [q]; exact ⟨_, hTI, fun v q => nomatch q⟩
    · rw [q]; exact ⟨_, hTO, fun v q => nomatch q⟩
    · rw [q]; exact Sr.cell s1
    · rw [q]; exact Sr.cell s2
    · rw [q]; exact Sr.cell s3
  keep := fun i h h' st k => by
    obtain ⟨hz, hTI, ⟨y1, y2, y3, hTO⟩, s1, s2, s3⟩ := st
    exact ⟨k z (by simp) _ hz, k TI (by simp) _ hTI, ⟨y1, y2, y3, k TO (by simp) _ hTO⟩, Sr.keep s1 fun o q => k i1 (by simp) o q, Sr.keep s2 fun o q => k i2 (by simp) o q, Sr.keep s3 fun o q => k i3 (by simp) o q⟩
  item := by
    intro X hP hw hK hc i pins s σ H E I hf st hg
    subst hP hw hK
    obtain ⟨hz, hTI, ⟨y1, y2, y3, hTO⟩, s1, s2, s3⟩ := st
    obtain ⟨l1, l2, l3, x1, x2, x3, h1, h2, h3, e1, e2, e3⟩ := hg
    obtain ⟨P1, S1, D1, a1, b1, c1⟩ := Sr.draws hc I h1 i1 t1 o1
    obtain ⟨P2, S2, D2, a2, b2, c2⟩ := Sr.draws hc I h2 i2 t2 o2
    obtain ⟨P3, S3, D3, a3, b3, c3⟩ := Sr.draws hc I h3 i3 t3 o3
    have zl : z < s.heap.objs.size := Heap.lt_size hz
    have lt1 : i < l1.length := (List.getElem?_eq_some_iff.mp e1).1
    have lt2 : i < l2.length := (List.getElem?_eq_some_iff.mp e2).1
    have lt3 : i < l3.length := (List.getElem?_eq_some_iff.mp e3).1
    refine wpAny_pyNext_zipD3_item D D1 D2 D3 hz hTI hTO (a1 _ s1) (a2 _ s2) (a3 _ s3) lt1 lt2 lt3 fun u1 u2 u3 h' tk p1 p2 p3 z' TO' q1 q2 q3 hT hsz hk => ?_
    obtain ⟨v1, f1, g1⟩ := c1 _ _ p1
    rw [e1] at f1
    cases f1
    obtain ⟨v2, f2, g2⟩ := c2 _ _ p2
    rw [e2] at f2
    cases f2
    obtain ⟨v3, f3, g3⟩ := c3 _ _ p3
    rw [e3] at f3
    cases f3
    refine ⟨_, rfl, wpAny_letOwnedTupleGo_zip (s := { s with heap := h', toks := tk }) z' fun h'' z'' sb => ?_⟩
    have hT2 : h''.get? s.heap.objs.size = some { cls := .type "tuple", data := .seq #[u1, u2, u3] } := (sb.2 _ (Nat.ne_of_gt zl)).trans hT
    have new : ObjOk X.prog X.w (upd H s.heap.objs.size (.tup [x1, x2, x3])) h'' s.heap.objs.size (.tup [x1, x2, x3]) := ⟨by show 3 ≤ sizeLine; decide, [u1, u2, u3], .cons g1 (.cons g2 (.cons g3 .nil)), ⟨_, hT2, rfl, _, rfl⟩⟩
    have I1 : Inv X pins σ (upd H s.heap.objs.size (.tup [x1, x2, x3])) { s with heap := h'', toks := tk } :=
      I.turnedNew (ch := [z, TI, TO, i1, i2, i3]) (fun c o hb q => (sb.2 c (fun z => hb (by simp [z]))).trans (hk c o (fun z => hb (by simp [z])) (fun z => hb (by simp [z])) (fun z => hb (by simp [z])) (fun z => hb (by simp [z])) (fun z => hb (by simp [z])) q)) hf (Nat.le_refl _) new
    refine ⟨.ref s.heap.objs.size, _, I1, rfl, ⟨_, x1, x2, x3, rfl, I.hok.fresh (Nat.le_refl _), rfl, fun l hl => by rw [Sr.inj I hl h1]; exact e1, fun l hl => by rw [Sr.inj I hl h2]; exact e2, fun l hl => by rw [Sr.inj I hl h3]; exact e3⟩, ⟨z'', ?_, ⟨u1, u2, u3, ?_⟩, ?_, ?_, ?_⟩, fun c hcm => ?_⟩
    · exact (sb.2 _ D.TIz).trans (hk _ _ D.TIz D.TITO D.TIi1 D.TIi2 D.TIi3 hTI)
    · exact (sb.2 _ D.TOz).trans TO'
    · exact b1 _ _ (D1.over q1 sb D.zf1)
    · exact b2 _ _ (D2.over q2 sb D.zf2)
    · exact b3 _ _ (D3.over q3 sb D.zf3)
    · have lt : c < s.heap.objs.size := by
        have q : c = z ∨ c = TI ∨ c = TO ∨ c = i1 ∨ c = i2 ∨ c = i3 := by simpa using hcm
        rcases q with q | q | q | q | q | q
        · rw [q]; exact zl
        · rw [q]; exact Heap.lt_size hTI
        · rw [q]; exact Heap.lt_size hTO
        · rw [q]; obtain ⟨_, z, _⟩ := Sr.cell s1; exact Heap.lt_size z
        · rw [q]; obtain ⟨_, z, _⟩ := Sr.cell s2; exact Heap.lt_size z
        · rw [q]; obtain ⟨_, z, _⟩ := Sr.cell s3; exact Heap.lt_size z
      rw [upd_ne (Nat.ne_of_lt lt)]
      exact (hf c hcm).1
  done := by
    intro X hP hw hK hc i pins s σ H E I hf st hg
    subst hP hw hK
    obtain ⟨hz, hTI, ⟨y1, y2, y3, hTO⟩, s1, s2, s3⟩ := st
    obtain ⟨l1, l2, l3, h1, h2, h3, e1, e2, e3, he⟩ := hg
    obtain ⟨P1, S1, D1, a1, b1, c1⟩ := Sr.draws hc I h1 i1 t1 o1
    obtain ⟨P2, S2, D2, a2, b2, c2⟩ := Sr.draws hc I h2 i2 t2 o2
    obtain ⟨P3, S3, D3, a3, b3, c3⟩ := Sr.draws hc I h3 i3 t3 o3
    exact wpAny_pyNext_zipD3_end D D1 D2 D3 hz hTI hTO (a1 _ s1) (a2 _ s2) (a3 _ s3) e1 e2 e3 he fun h' tk hk => ⟨rfl, I.turnedL (t' := tk) (ch := [z, TI, TO, i1, i2, i3]) (fun c o hb q => hk c o (fun z => hb (by simp [z])) (fun z => hb (by simp [z])) (fun z => hb (by simp [z])) (fun z => hb (by simp [z])) (fun z => hb (by simp [z])) q) hf⟩
  self := fun A i s Q E st h => wpAny_pyIter_zip st.1 h
def iZ3 (K : PySem.W.Frag) (ta : TA) : TI := fun σ H R => ta σ H fun vs H1 => ∃ (r1 : Sr) (r2 : Sr) (r3 : Sr) (l1 : List V) (l2 : List V) (l3 : List V), vs = [r1.val, r2.val, r3.val] ∧ r1.has K H1 l1 ∧ r2.has K H1 l2 ∧ r3.has K H1 l3 ∧ R (Iz3 K r1 r2 r3) H1
theorem pi_z3 {X : Cx} {e1 e2 e3 : Expr} {ta : TA} {p pos tpos : Pos} {elts : List Expr} {kk : Nat} (hg : Gl X "zip") (hm : X.mg "zip" = none) (ha : PA X [e1, e2, e3] ta)
    (hs : starEach [e1, e2, e3] X.env = (false, eval e1 X.env) :: starEach [e2, e3] X.env := by rfl) (hpl : (backTo pos (starEach [e2, e3] X.env)).any (·.1) = false := by rfl) :
    PI X (.Tuple elts kk tpos) (.Call (.Name "zip" p) [e1, e2, e3] [] pos) (iZ3 X.K ta) := by
  refine ⟨fun pins s σ H R I h => ?_⟩
  refine Call_ (ld_blt I hg hm PyProof.Rows.boot_zip (PyProof.Rows.callWith_type1 (thn (ha.run pos pins s σ H _ I h) fun us s1 ⟨vs, H1, I1, rr, q1⟩ => ?_) hs hpl))
  obtain ⟨r1, r2, r3, l1, l2, l3, ex, h1, h2, h3, q⟩ := q1
  subst ex
  cases rr with
  | cons v1 rr =>
  cases rr with
  | cons v2 rr =>
  cases rr with
  | cons v3 rr =>
  cases rr
  obtain ⟨t1, Hb1, B1, b1⟩ := Sr.begins I1 h1 v1
  obtain ⟨t2, Hb2, B2, b2⟩ := Sr.begins I1 h2 v2
  obtain ⟨t3, Hb3, B3, b3⟩ := Sr.begins I1 h3 v3
  have lt1 := Sr.below I1 h1
  have lt2 := Sr.below I1 h2
  have lt3 := Sr.below I1 h3
  refine zip_begins3 B1 B2 B3 b1 b2 b3 fun h' hz hTI hTO g1 g2 g3 hsz hk => wpAny_pyIter_zip hz ?_
  have I2 : Inv X pins σ H1 { s1 with heap := h' } := I1.kept (t' := s1.toks) hk
  have far : ∀ (r : Sr), r.lt s1.heap.objs.size → ∀ (it c : Nat), s1.heap.objs.size ≤ c → c ≠ it → c ∉ r.fp it := fun r hr it c hc ne hm => by
    rcases Sr.fp_of hm _ hr with z | z
    · exact ne z
    · exact absurd (Nat.lt_of_lt_of_le z hc) (Nat.lt_irrefl _)
  have off : ∀ (r : Sr), r.lt s1.heap.objs.size → ∀ (it : Nat), s1.heap.objs.size ≤ it → r.off it := fun r hr it hc => by
    cases r with
    | L a => exact Nat.ne_of_lt (Nat.lt_of_lt_of_le hr hc)
    | T a => exact Nat.ne_of_lt (Nat.lt_of_lt_of_le hr hc)
    | S x => trivial
  have le : ∀ j, s1.heap.objs.size ≤ s1.heap.objs.size + j := fun j => Nat.le_add_right _ _
  have ne : ∀ (i j : Nat), i ≠ j → s1.heap.objs.size + i ≠ s1.heap.objs.size + j := fun i j h e => h (Nat.add_left_cancel e)
  have D : ZipSep3 (s1.heap.objs.size + 5) (s1.heap.objs.size + 3) (s1.heap.objs.size + 4) (s1.heap.objs.size + 0) (s1.heap.objs.size + 1) (s1.heap.objs.size + 2) (r1.fp (s1.heap.objs.size + 0)) (r2.fp (s1.heap.objs.size + 1)) (r3.fp (s1.heap.objs.size + 2)) := ⟨(ne 3 5 (by decide)), (ne 4 5 (by decide)), (ne 3 4 (by decide)), (ne 3 0 (by decide)), (Sr.mem _ _), (far _ lt1 _ _ (le _) (ne 5 0 (by decide))), (far _ lt1 _ _ (le _) (ne 4 0 (by decide))), (ne 3 1 (by decide)), (Sr.mem _ _), (far _ lt2 _ _ (le _) (ne 5 1 (by decide))), (far _ lt2 _ _ (le _) (ne 4 1 (by decide))), (ne 3 2 (by decide)), (Sr.mem _ _), (far _ lt3 _ _ (le _) (ne 5 2 (by decide))), (far _ lt3 _ _ (le _) (ne 4 2 (by decide))), (far _ lt2 _ _ (le _) (ne 0 1 (by decide))), (far _ lt3 _ _ (le _) (ne 0 2 (by decide))), (far _ lt1 _ _ (le _) (ne 1 0 (by decide))), (far _ lt3 _ _ (le _) (ne 1 2 (by decide))), (far _ lt1 _ _ (le _) (ne 2 0 (by decide))), (far _ lt2 _ _ (le _) (ne 2 1 (by decide)))⟩
  refine ⟨(s1.heap.objs.size + 5), [s1.heap.objs.size + 5, s1.heap.objs.size + 3, s1.heap.objs.size + 4, s1.heap.objs.size + 0, s1.heap.objs.size + 1, s1.heap.objs.size + 2], _, _, H1, rfl, I2, turn_z3 t1 t2 t3 D (off _ lt1 _ (le _)) (off _ lt2 _ (le _)) (off _ lt3 _ (le _)), ⟨hz, hTI, ⟨_, _, _, hTO⟩, Sr.start g1, Sr.start g2, Sr.start g3⟩, fun c hcm => ?_, q⟩
  have hle : s1.heap.objs.size ≤ c := by
    simp only [List.mem_cons, List.not_mem_nil, or_false] at hcm
    rcases hcm with z | z | z | z | z | z <;> rw [z] <;> exact le _
  exact I1.fpOk hle (I1.hok.fresh hle)
end Mp

set_option Elab.async false
set_option linter.all false
set_option maxRecDepth 100000
set_option maxHeartbeats 4000000
/-! Mp: zip of two or three lists, tuples, texts. -/
namespace Mp
open PySem PySem.Spec PyProof.Rows L2
theorem reps_chars {K : PySem.W.Frag} {G : Gs} {γ : Ga} {H : Hp} : ∀ {l : List Nat}, (∀ c ∈ l, c < 0x110000) → Reps K G γ H (l.map fun c => W.str [c]) (l.map fun c => V.str ⟨#[c]⟩)
  | [], _ => .nil
  | c :: r, h => .cons (.str [c] (fun d hd => by
      rw [List.mem_singleton.mp hd]
      exact h c (List.mem_cons_self ..)) (by rw [sizeLine_eq]; show 1 ≤ 16777216; decide)) (reps_chars fun d hd => h d (List.mem_cons_of_mem _ hd))
theorem sr_of {K : PySem.W.Frag} {G : Gs} {γ : Ga} {H : Hp} {w : W} {v : V} {xs : List W} (h : seqI w = some xs) (r : Rep K G γ H w v) : ∃ (c : Sr) (vs : List V), v = c.val ∧ (∀ {γ' H'}, ExtW γ H γ' H' → c.has K H' vs) ∧ Reps K G γ H xs vs := by
  cases r with
  | tup h1 q => cases h; exact ⟨.T _, _, rfl, fun e => (h1.monoW e).sq, q⟩
  | lst h1 o1 q => cases h; exact ⟨.L _, _, rfl, fun e => .inl (e.rd (.inl h1) o1).1, q⟩
  | scr h1 q => cases h; exact ⟨.L _, _, rfl, fun e => (h1.monoW e).sq, q⟩
  | str l h1 h2 => cases h; exact ⟨.S _, _, rfl, fun e => rfl, reps_chars h1⟩
  | _ => cases h

def tupsW2 (xs ys : List W) : List W := pairsW xs ys
theorem tupsW2_get {xs ys : List W} {i : Nat} {w : W} (h : (tupsW2 xs ys)[i]? = some w) : ∃ a b, xs[i]? = some a ∧ ys[i]? = some b ∧ w = .tup [a, b] := pairsW_get h
theorem tupsW2_len {xs ys : List W} : (tupsW2 xs ys).length = min xs.length ys.length := pairsW_len
def zipG2 : List W → Option (List W)
  | [w1, w2] => (match seqI w1, seqI w2 with
    | some x1, some x2 => some (tupsW2 x1 x2)
    | _, _ => none)
  | _ => none
theorem itOk_z2 {K : PySem.W.Frag} {G : Gs} {γ : Ga} {H : Hp} {r1 r2 : Sr} {x1 x2 : List W} {v1 v2 : List V} (s1 : ∀ {γ' H'}, ExtW γ H γ' H' → r1.has K H' v1) (s2 : ∀ {γ' H'}, ExtW γ H γ' H' → r2.has K H' v2) (q1 : Reps K G γ H x1 v1) (q2 : Reps K G γ H x2 v2) : ItOk K G (Iz2 K r1 r2) (tupsW2 x1 x2) γ H := by
  have n1 := q1.length
  have n2 := q2.length
  refine ⟨fun i γ' H' S hi e _ => ?_, fun γ' H' S e _ => ⟨v1, v2, s1 e, s2 e, ?_⟩, fun i w γ' H' S x H'' hw e s y => ?_⟩
  · rw [tupsW2_len] at hi
    have l1 : i < v1.length := by omega
    have l2 : i < v2.length := by omega
    exact ⟨v1, v2, v1[i], v2[i], s1 e, s2 e, List.getElem?_eq_getElem l1, List.getElem?_eq_getElem l2⟩
  · rw [tupsW2_len]
    omega
  · obtain ⟨T, u1, u2, rfl, hT, rfl, h1, h2⟩ := y
    obtain ⟨p1, p2, g1, g2, rfl⟩ := tupsW2_get hw
    obtain ⟨z1, a1, b1⟩ := q1.get g1
    have c1 := h1 _ (s1 e)
    rw [a1] at c1
    cases c1
    obtain ⟨z2, a2, b2⟩ := q2.get g2
    have c2 := h2 _ (s2 e)
    rw [a2] at c2
    cases c2
    exact ⟨Ext.upd s hT, s.upd hT, .tup (.inl ⟨.inl upd_same, s.fresh hT⟩) (.cons ((b1.monoW e).mono (Ext.upd s hT)) (.cons ((b2.monoW e).mono (Ext.upd s hT)) .nil))⟩
theorem si_zip2 {X : Cx} {G : Gs} {e1 e2 : Expr} {pos p tpos : Pos} {ga : MA} {elts : List Expr} {kk : Nat} (hm : X.mg "zip" = none) (ha : SA X G [e1, e2] ga) (hg : Gl X "zip" := by rfl)
    (hs : starEach [e1, e2] X.env = (false, eval e1 X.env) :: starEach [e2] X.env := by rfl) (hpl : (backTo pos (starEach [e2] X.env)).any (·.1) = false := by rfl) :
    SI X G (.Tuple elts kk tpos) (.Call (.Name "zip" p) [e1, e2] [] pos) (miAll zipG2 ga) := by
  refine ⟨fun Wi tk => (pi_z2 hg hm (ha.run Wi tk) hs hpl).imp ?_⟩
  rintro σ H R ⟨η, S, γ, he, hs, q⟩
  refine ⟨η, S, γ, he, hs, (PostI.seq q).imp fun x H1 ⟨wx, S1, γ1, e1, r1, s1, q1⟩ => ?_⟩
  unfold zipG2 at q1
  split at q1
  · split at q1
    · rename_i f1 f2
      cases r1 with
      | cons t1 r1 =>
      cases r1 with
      | cons t2 r1 =>
      cases r1
      obtain ⟨c1, vs1, g1, s1', q1'⟩ := sr_of f1 t1
      obtain ⟨c2, vs2, g2, s2', q2'⟩ := sr_of f2 t2
      subst g1
      subst g2
      exact ⟨c1, c2, vs1, vs2, rfl, s1' Ext.refl.w, s2' Ext.refl.w, q1 _ γ1 H1 Ext.refl s1 (itOk_z2 s1' s2' q1' q2')⟩
    · exact q1.elim
  · exact q1.elim
def tupsW3 (xs ys zs : List W) : List W := (xs.zip (ys.zip zs)).map fun p => W.tup [p.1, p.2.1, p.2.2]
theorem tupsW3_get {xs ys zs : List W} {i : Nat} {w : W} (h : (tupsW3 xs ys zs)[i]? = some w) : ∃ a b c, xs[i]? = some a ∧ ys[i]? = some b ∧ zs[i]? = some c ∧ w = .tup [a, b, c] := by
  unfold tupsW3 at h
  rw [List.getElem?_map] at h
  cases e : (xs.zip (ys.zip zs))[i]? with
  | none => rw [e] at h; cases h
  | some p =>
    rw [e] at h
    cases h
    rw [List.getElem?_zip_eq_some] at e
    have e2 := e.2
    rw [List.getElem?_zip_eq_some] at e2
    exact ⟨_, _, _, e.1, e2.1, e2.2, rfl⟩
theorem tupsW3_len {xs ys zs : List W} : (tupsW3 xs ys zs).length = min xs.length (min ys.length zs.length) := by
  unfold tupsW3
  rw [List.length_map, List.length_zip, List.length_zip]
def zipG3 : List W → Option (List W)
  | [w1, w2, w3] => (match seqI w1, seqI w2, seqI w3 with
    | some x1, some x2, some x3 => some (tupsW3 x1 x2 x3)
    | _, _, _ => none)
  | _ => none
theorem itOk_z3 {K : PySem.W.Frag} {G : Gs} {γ : Ga} {H : Hp} {r1 r2 r3 : Sr} {x1 x2 x3 : List W} {v1 v2 v3 : List V} (s1 : ∀ {γ' H'}, ExtW γ H γ' H' → r1.has K H' v1) (s2 : ∀ {γ' H'}, ExtW γ H γ' H' → r2.has K H' v2) (s3 : ∀ {γ' H'}, ExtW γ H γ' H' → r3.has K H' v3) (q1 : Reps K G γ H x1 v1) (q2 : Reps K G γ H x2 v2) (q3 : Reps K G γ H x3 v3) : ItOk K G (Iz3 K r1 r2 r3) (tupsW3 x1 x2 x3) γ H := by
  have n1 := q1.length
  have n2 := q2.length
  have n3 := q3.length
  refine ⟨fun i γ' H' S hi e _ => ?_, fun γ' H' S e _ => ⟨v1, v2, v3, s1 e, s2 e, s3 e, ?_⟩, fun i w γ' H' S x H'' hw e s y => ?_⟩
  · rw [tupsW3_len] at hi
    have l1 : i < v1.length := by omega
    have l2 : i < v2.length := by omega
    have l3 : i < v3.length := by omega
    exact ⟨v1, v2, v3, v1[i], v2[i], v3[i], s1 e, s2 e, s3 e, List.getElem?_eq_getElem l1, List.getElem?_eq_getElem l2, List.getElem?_eq_getElem l3⟩
  · rw [tupsW3_len]
    omega
  · obtain ⟨T, u1, u2, u3, rfl, hT, rfl, h1, h2, h3⟩ := y
    obtain ⟨p1, p2, p3, g1, g2, g3, rfl⟩ := tupsW3_get hw
    obtain ⟨z1, a1, b1⟩ := q1.get g1
    have c1 := h1 _ (s1 e)
    rw [a1] at c1
    cases c1
    obtain ⟨z2, a2, b2⟩ := q2.get g2
    have c2 := h2 _ (s2 e)
    rw [a2] at c2
    cases c2
    obtain ⟨z3, a3, b3⟩ := q3.get g3
    have c3 := h3 _ (s3 e)
    rw [a3] at c3
    cases c3
    exact ⟨Ext.upd s hT, s.upd hT, .tup (.inl ⟨.inl upd_same, s.fresh hT⟩) (.cons ((b1.monoW e).mono (Ext.upd s hT)) (.cons ((b2.monoW e).mono (Ext.upd s hT)) (.cons ((b3.monoW e).mono (Ext.upd s hT)) .nil)))⟩
theorem si_zip3 {X : Cx} {G : Gs} {e1 e2 e3 : Expr} {pos p tpos : Pos} {ga : MA} {elts : List Expr} {kk : Nat} (hm : X.mg "zip" = none) (ha : SA X G [e1, e2, e3] ga) (hg : Gl X "zip" := by rfl)
    (hs : starEach [e1, e2, e3] X.env = (false, eval e1 X.env) :: starEach [e2, e3] X.env := by rfl) (hpl : (backTo pos (starEach [e2, e3] X.env)).any (·.1) = false := by rfl) :
    SI X G (.Tuple elts kk tpos) (.Call (.Name "zip" p) [e1, e2, e3] [] pos) (miAll zipG3 ga) := by
  refine ⟨fun Wi tk => (pi_z3 hg hm (ha.run Wi tk) hs hpl).imp ?_⟩
  rintro σ H R ⟨η, S, γ, he, hs, q⟩
  refine ⟨η, S, γ, he, hs, (PostI.seq q).imp fun x H1 ⟨wx, S1, γ1, e1, r1, s1, q1⟩ => ?_⟩
  unfold zipG3 at q1
  split at q1
  · split at q1
    · rename_i f1 f2 f3
      cases r1 with
      | cons t1 r1 =>
      cases r1 with
      | cons t2 r1 =>
      cases r1 with
      | cons t3 r1 =>
      cases r1
      obtain ⟨c1, vs1, g1, s1', q1'⟩ := sr_of f1 t1
      obtain ⟨c2, vs2, g2, s2', q2'⟩ := sr_of f2 t2
      obtain ⟨c3, vs3, g3, s3', q3'⟩ := sr_of f3 t3
      subst g1
      subst g2
      subst g3
      exact ⟨c1, c2, c3, vs1, vs2, vs3, rfl, s1' Ext.refl.w, s2' Ext.refl.w, s3' Ext.refl.w, q1 _ γ1 H1 Ext.refl s1 (itOk_z3 s1' s2' s3' q1' q2' q3')⟩
    · exact q1.elim
  · exact q1.elim
end Mp

set_option Elab.async false
set_option linter.all false
set_option maxRecDepth 100000
set_option maxHeartbeats 4000000
/-! Mp: a comprehension over enumerate of a list of the store. -/
namespace Mp
open PySem PySem.Spec PyProof.Rows L2
def wrapE (i : Nat) (x : W) : W := .tup [.int i, x]
def compRE (g : MG) (t : MT) (e : ME) (η : Env) (r : Nat) : Nat → Nat → Store → List W → R (List W)
  | 0, _, _, _ => .stuck
  | n + 1, i, S, acc => match itemR r i S with
    | none => .stuck
    | some none => .ok acc S
    | some (some x) => (match g (wrapE i x) η S with
      | none => .stuck
      | some (η1, S1) => (t η1 S1).bind fun b S2 => if b = true then (e η1 S2).bind fun w S3 => sized (acc.length + 1) (compRE g t e η r n (i + 1) S3 (acc ++ [w])) else compRE g t e η r n (i + 1) S2 acc)
def compE (g : MG) (t : MT) (e : ME) (η : Env) (ws : List W) (S : Store) : R (List W) := match ws with
  | [.ref r] => compRE g t e η r 1000000 0 S []
  | ws => (match enumW2 ws with
    | some xs => compL g t e η xs S []
    | none => .stuck)
/-- a comprehension over enumerate(..); keep: the list changes later -/
def mCompE (keep : Bool) (f : MA) (own : List Nat) (g : MG) (t : MT) (e : ME) : ME := fun η S => (f η S).bind fun w S1 => (noexc (compE g t e (wipeE η own) w S1)).bind fun ws S2 => if keep = true then (if pures ws = true then .ok (.ref S2.length) (S2 ++ [.lst ws]) else .stuck) else .ok (.lst ws) S2
theorem compRE_dct {g : MG} {t : MT} {e : ME} {r n i : Nat} {η : Env} {S : Store} {acc : List W} {ks ws : List W} (h : S[r]? = some (.dct ks ws)) : compRE g t e η r (n + 1) i S acc = .stuck := by
  unfold compRE
  rw [itemR_dct h]
section
variable {K : PySem.W.Frag} {G : Gs} {γ : Ga} {H : Hp} {S : Store}
theorem iteE_go {xs : List W} {vs : List V} {i : Nat} {w : W} {a : Addr} (s : StoreOk K G γ H S) (hq : SqL K H a vs) (q : Reps K G γ H xs vs) (h : xs[i]? = some w) : (Ite K a).go i H ∧ ∀ x H', (Ite K a).yld i H x H' → Ext γ H γ H' ∧ StoreOk K G γ H' S ∧ Rep K G γ H' (wrapE i w) x := by
  obtain ⟨v, hv, r⟩ := q.get h
  refine ⟨⟨vs, v, hq, hv⟩, fun x H' y => ?_⟩
  obtain ⟨T, u, rfl, hT, rfl, h1⟩ := y
  have z := h1 vs hq
  rw [hv] at z
  cases z
  exact pair_new hT s (.int _) r
theorem iteE_stop {xs : List W} {vs : List V} {i : Nat} {a : Addr} (hq : SqL K H a vs) (q : Reps K G γ H xs vs) (h : xs[i]? = none) : (Ite K a).stop i H := by
  refine ⟨vs, hq, ?_⟩
  rw [← q.length]
  exact List.getElem?_eq_none_iff.mp h
end
section
variable {X : Cx} {G : Gs} {tg iter elt : Expr} {ifs : List Expr} {scope : Scope} {f : ME} {e : MA} {g : MG} {t : MT} {is : List Nat} {own : List (Str × Nat)} {pos : Pos}
theorem lc_inE {K : PySem.W.Frag} {γ0 γ1 : Ga} {H0 H1 : Hp} {D : Addr} {r : Nat} {a : Addr} {η : Env} {S1 SF : Store} {σ : L2.St} {acc0 accF : List W} {vs : List Nat} {Nx : Hp → Prop} (n : Nat) (hD : H0 D = none) (ha : γ1.ρ[r]? = some a) (he : EnvOk K G γ1 H1 η σ)
    (gt : Gat K G γ0 H0 D γ1 H1 S1 acc0) (his : ∀ i ∈ is, i ∈ vs) (h : compRE g t f (wipeE η vs) r n 0 S1 acc0 = .ok accF SF) (hN : ∀ γ H, Gat K G γ0 H0 D γ H SF accF → Nx H) :
    ∃ Wv : Nat → Nat → Hp → Prop, (∃ k, Wv 0 k H1) ∧ ∀ j k H, Wv j k H →
      ((Ite K a).stop j H ∧ Nx H) ∨ ((Ite K a).go j H ∧ ∃ Nx1 : Hp → Prop, (∀ H', Nx1 H' → ∃ k', k' < k ∧ Wv (j + 1) k' H') ∧ ∀ x H', (Ite K a).yld j H x H' → tgOf K G is g x (wipe σ vs) H' fun σ3 H5 => wipe σ3 vs = wipe σ vs ∧ ttOf K G (fun _ _ _ _ => False) t σ3 H5 fun b H6 =>
        if b = true then tOf K G (fun _ _ _ _ => False) f σ3 H6 fun y H7 => ∃ acc, H7 D = some (.lst acc) ∧ acc.length < sizeLine ∧ Nx1 (L2.upd H7 D (.lst (acc ++ [y]))) else Nx1 H6) := by
  refine ⟨fun j k H => ∃ S γ acc, Gat K G γ0 H0 D γ H S acc ∧ ExtW γ1 H1 γ H ∧ compRE g t f (wipeE η vs) r k j S acc = .ok accF SF, ⟨n, S1, γ1, acc0, gt, Ext.refl.w, h⟩, ?_⟩
  rintro i k H ⟨S, γ, acc, gt', ex, hc⟩
  have s := gt'.s
  cases k with
  | zero => cases hc
  | succ k =>
  unfold compRE at hc
  have ha' : γ.ρ[r]? = some a := by
    obtain ⟨t, q⟩ := ex.pre
    rw [← q, List.getElem?_append_left (List.getElem?_eq_some_iff.mp ha).1]
    exact ha
  cases ei : itemR r i S with
  | none =>
    rw [ei] at hc
    cases hc
  | some o =>
    obtain ⟨xs, us, hcell, hq, qr, eo⟩ := itemR_ok s ha' ei
    cases o with
    | none =>
      rw [ei] at hc
      cases hc
      exact .inl ⟨iteE_stop hq qr eo.symm, hN γ H gt'⟩
    | some w0 =>
      rw [ei] at hc
      obtain ⟨hgo, hy⟩ := iteE_go s hq qr eo.symm
      refine .inr ⟨hgo, _, fun H' z => ⟨k, Nat.lt_succ_self k, z⟩, fun x H' y => ?_⟩
      obtain ⟨eX, s', r1⟩ := hy x H' y
      have gtX := gt'.step eX s'
      have exX := ex.trans eX.w
      cases eg : g (wrapE i w0) (wipeE η vs) S with
      | none =>
        simp only [eg] at hc
        cases hc
      | some z =>
        obtain ⟨η1, S2⟩ := z
        simp only [eg] at hc
        have heW : EnvOk K G γ H' η σ := ⟨he.1, fun j w q => by
          obtain ⟨v, h1, h2⟩ := he.2 j w q
          exact ⟨v, h1, h2.monoW exX⟩⟩
        refine ⟨wipeE η vs, S, γ, wrapE i w0, η1, S2, heW.wipe vs, s', r1, eg, fun σ2 γ2 H2 e2 he2 s2 hl2 hn2 => ⟨?_, ?_⟩⟩
        · rw [wipe_same (σ := wipe σ vs) his hl2 hn2, wipe_wipe]
        · refine ⟨η1, S2, γ2, he2, s2, ?_⟩
          cases et : t η1 S2 with
          | stuck =>
            simp only [et] at hc
            cases hc
          | exc c x S2 =>
            simp only [et] at hc
            cases hc
          | ok b S3 =>
            simp only [et, R.bind] at hc
            intro b' γ3 H3 e3 rb s3
            cases rb
            have gt3 := (gtX.step e2 s2).step e3 s3
            have ex3 := (exX.trans e2.w).trans e3.w
            cases b with
            | false =>
              rw [if_neg Bool.false_ne_true] at hc ⊢
              exact ⟨S3, γ3, acc, gt3, ex3, hc⟩
            | true =>
              rw [if_pos rfl] at hc ⊢
              refine ⟨η1, S3, γ3, he2.mono e3, s3, ?_⟩
              cases ee : f η1 S3 with
              | stuck =>
                simp only [ee] at hc
                cases hc
              | exc c x S3 =>
                simp only [ee] at hc
                cases hc
              | ok w S4 =>
                simp only [ee] at hc
                intro v γ4 H4 e4 r4 s4
                unfold sized at hc
                split at hc
                · rename_i hsz
                  have gt4 := gt3.step e4 s4
                  obtain ⟨us, h1, h2, h3⟩ := gt4.put hD r4 hsz
                  exact ⟨us, h1, h2, S4, γ4, acc ++ [w], h3, (ex3.trans e4.w).busy gt.dβ, hc⟩
                · cases hc
theorem compE_read {Wi : WX} {Q : VK} {σ : L2.St} {H : Hp} (keep : Bool) (his : ∀ i ∈ is, i ∈ own.map (·.2)) (q : tOf X.K G Wi (mCompE keep e (own.map (·.2)) g t f) σ H Q) :
    tLc (fun σ H R => tiOf X.K G Wi (miAll enumW2 e) σ H R ∨ iEnum X.K (taOf X.K G Wi e) σ H R) (tgOf X.K G is g) (ttOf X.K G (fun _ _ _ _ => False) t) (tOf X.K G (fun _ _ _ _ => False) f) (own.map (·.2)) σ H Q := by
  obtain ⟨η, S, γ, he, hs, q⟩ := q
  have q : Post X.K G (Rep X.K G) (fun c d H' => Wi c d σ H') γ H ((e η S).bind fun w S1 => (noexc (compE g t f (wipeE η (own.map (·.2))) w S1)).bind fun ws S2 => if keep = true then (if pures ws = true then .ok (.ref S2.length) (S2 ++ [.lst ws]) else .stuck) else .ok (.lst ws) S2) Q := q
  cases ei : e η S with
  | stuck =>
    rw [ei] at q
    exact q.elim
  | exc c x S1 =>
    rw [ei] at q
    refine .inl ⟨η, S, γ, he, hs, ?_⟩
    unfold miAll
    rw [ei]
    exact q
  | ok w S1 =>
    rw [ei] at q
    replace q : Post X.K G (Rep X.K G) (fun c d H' => Wi c d σ H') γ H ((noexc (compE g t f (wipeE η (own.map (·.2))) w S1)).bind fun ws S2 => if keep = true then (if pures ws = true then .ok (.ref S2.length) (S2 ++ [.lst ws]) else .stuck) else .ok (.lst ws) S2) Q := q
    cases ec : compE g t f (wipeE η (own.map (·.2))) w S1 with
    | stuck =>
      rw [ec] at q
      exact q.elim
    | exc c x S2 =>
      rw [ec] at q
      exact q.elim
    | ok ws SF =>
      rw [ec] at q
      replace q : Post X.K G (Rep X.K G) (fun c d H' => Wi c d σ H') γ H (if keep = true then (if pures ws = true then .ok (.ref SF.length) (SF ++ [.lst ws]) else .stuck) else .ok (.lst ws) SF) Q := q
      unfold compE at ec
      split at ec
      · rename_i r
        refine .inr ⟨η, S, γ, he, hs, ?_⟩
        rw [ei]
        intro v γ1 H1 e1 r1 s1
        cases r1 with
        | cons r1 rt =>
        cases rt
        cases r1 with
        | @ref _ ad hr =>
          have hi : r < S1.length := by rw [← s1.len]; exact (List.getElem?_eq_some_iff.mp hr).1
          have hcell : ∃ vs, SqL X.K H1 ad vs := by
            have q := s1.cell r S1[r] ad (List.getElem?_eq_getElem hi) hr
            cases hc : S1[r] with
            | lst xs => rw [hc] at q; obtain ⟨_, vs, hv, _⟩ := q; exact ⟨vs, SqL.of hv⟩
            | dct _ _ =>
              have z : compRE g t f (wipeE η (own.map fun x => x.snd)) r 1000000 0 S1 [] = .ok ws SF := ec
              rw [compRE_dct (n := 999999) ((List.getElem?_eq_getElem hi).trans (congrArg some hc))] at z
              cases z
            | ins _ _ => rw [hc] at q; exact q.elim
          obtain ⟨vs, hvs⟩ := hcell
          refine ⟨ad, vs, rfl, hvs, fun D hD => ?_⟩
          have gt := Gat.start (G := G) s1 hD
          exact lc_inE (γ1 := ⟨γ1.ρ, D :: γ1.β⟩) (Nx := fun H' => Q (.ref D) H') 1000000 hD hr ((he.mono e1).mono gt.ex) gt his ec (compD_end e1 s1 hD q)
      · refine .inl ⟨η, S, γ, he, hs, ?_⟩
        unfold miAll
        rw [ei]
        show PostI X.K G _ γ H (rOpt (enumW2 w) S1) _
        split at ec
        · rename_i xs es
          rw [es]
          intro J γ1 H1 e1 s1 ok D hD
          have gt := Gat.start (G := G) s1 hD
          exact lc_in (Nx := fun H' => Q (.ref D) H') hD (ok.mono gt.ex.w) ((he.mono e1).mono gt.ex) gt his ec (compD_end e1 s1 hD q)
        · cases ec
theorem se_compE {a : Expr} {p ipos tpos : Pos} {elts : List Expr} {kk : Nat} (keep : Bool) (own : List (Str × Nat)) (cf : Cfg X) (hm : X.mg "enumerate" = none) (hi : SA X G [a] e) (ok : BlkOk X.N X.env.scope scope own)
    (hg : ∀ (s : Shared) (H : Hp) (C : Addr) (cl : List (Str × Addr)) (fp : List Addr), Cfg (X.blk s H scope (compEnvC scope cl C X.env) fp) → SG (X.blk s H scope (compEnvC scope cl C X.env) fp) G (.Tuple elts kk tpos) is g)
    (ht : ∀ (s : Shared) (H : Hp) (C : Addr) (cl : List (Str × Addr)) (fp : List Addr), Cfg (X.blk s H scope (compEnvC scope cl C X.env) fp) → STs (X.blk s H scope (compEnvC scope cl C X.env) fp) G ifs t)
    (he : ∀ (s : Shared) (H : Hp) (C : Addr) (cl : List (Str × Addr)) (fp : List Addr), Cfg (X.blk s H scope (compEnvC scope cl C X.env) fp) → SE (X.blk s H scope (compEnvC scope cl C X.env) fp) G elt f)
    (hgl : Gl X "enumerate" := by rfl) (hss : starEach [a] X.env = [(false, eval a X.env)] := by rfl)
    (his : ∀ i ∈ is, i ∈ own.map (·.2) := by decide) (hs : ∀ x, foldedSetIterable (.Call (.Name "enumerate" p) [a] [] ipos) X.env x = pure x := by intro _; rfl) :
    SE X G (.ListComp elt [⟨.Tuple elts kk tpos, .Call (.Name "enumerate" p) [a] [] ipos, ifs, 0⟩] scope pos) (mCompE keep e (own.map (·.2)) g t f) := by
  refine ⟨fun Wi tk => (pe_lc (g := tgOf X.K G is g) (tt := ttOf X.K G (fun _ _ _ _ => False) t) (te := tOf X.K G (fun _ _ _ _ => False) f) cf.calm cf.nd (PI.or ((si_enum2 hm hi hgl hss).run Wi tk) (pi_enum hgl hm (hi.run Wi tk) hss)) ok (fun s H C cl fp => (hg s H C cl fp (cf.blk ..)).run) (fun s H C cl fp => (ht s H C cl fp (cf.blk ..)).run _ takes0) (fun s H C cl fp => (he s H C cl fp (cf.blk ..)).run _ takes0) hs).imp ?_⟩
  intro σ H Q q
  exact compE_read keep his q
end
end Mp

set_option Elab.async false
set_option linter.all false
set_option maxRecDepth 100000
set_option maxHeartbeats 4000000
/-! Mp: list(text). -/
namespace Mp
open PySem PySem.Spec PyProof.Rows L2
def baListG : OA := fun xs S => match xs with
  | [.str s] => some (.lst (s.map fun c => .str [c]))
  | xs => baList xs S
theorem vals_ix : ∀ {vs : List V} {its : List Value}, its.length = vs.length → (∀ (j : Nat) (v : Value), its[j]? = some v → ∃ x, vs[j]? = some x ∧ RelV x v) → Vals vs its
  | [], [], _, _ => .nil
  | [], _ :: _, h, _ => by cases h
  | _ :: _, [], h, _ => by cases h
  | x :: vs, v :: its, h, g => by
    obtain ⟨y, e, r⟩ := g 0 v rfl
    cases e
    refine .cons r (vals_ix (by simpa using h) fun j u hu => ?_)
    obtain ⟨z, e, r⟩ := g (j + 1) u (by simpa using hu)
    exact ⟨z, by simpa using e, r⟩
theorem cr_listG {X : Cx} {G : Gs} (hc : X.calm = true) : CallR X (.type "list") (raOf X.K G baListG) := by
  intro pins s σ H xs us Q I r0 q
  obtain ⟨ws, S, γ, w, rs, ss, h, k⟩ := q
  unfold baListG at h
  split at h
  · rename_i l
    cases h
    cases rs with
    | cons r t =>
    cases t
    cases r with
    | str _ h1 h2 =>
    cases r0 with
    | cons rv rt =>
    cases rt
    obtain ⟨t, rfl⟩ := rv
    have hz : (⟨l.toArray⟩ : Str).cps.size ≤ sizeLine := by simpa using h2
    refine call_list_str (I.ok.hd hc) _ t (fun h' tk acc c hk e hi => ?_) hz
    have ez : acc.toList.length = (l.map fun c => V.str ⟨#[c]⟩).length := by rw [Array.length_toList, hi.1, List.length_map]; simp
    refine new_list (ws := l.map fun c => W.str [c]) (vs := l.map fun c => V.str ⟨#[c]⟩) (s' := { s with heap := h', toks := tk }) I ss hk rfl rfl (Nat.le_refl _) e (vals_ix ez fun j v hv => ?_) (by rw [List.length_map]; exact h2) (fun {γ' H'} => reps_chars h1) k
    obtain ⟨d, u, hd, rfl⟩ := hi.2 j v (by simpa using hv)
    have hd : l[j]? = some d := by simpa using hd
    exact ⟨.str ⟨#[d]⟩, by rw [List.getElem?_map, hd] <;> rfl, ⟨u, rfl⟩⟩
  · exact cr_listW pins s σ H xs us Q I r0 ⟨ws, S, γ, w, rs, ss, h, k⟩
end Mp

set_option Elab.async false
set_option linter.all false
set_option maxRecDepth 100000
set_option maxHeartbeats 4000000
/-! Mp: own exceptions with one field: made, raised. -/
namespace Mp
open PySem PySem.Spec PyProof.Rows L2
/-- def __init__(self, f): self.f = f -/
def spI (C : Addr) (f : Str) : Sp := fun vs H Q _ => ∃ (a : Addr) (v : V), vs = [.ref a, v] ∧ H a = some (exo a C none) ∧ ∀ dx, H dx = none → dx ≠ a → Q .non (upd (upd H dx (exd dx [(f, v)])) a (exo a C (some dx)))
/-- what is known of an own exception's class -/
structure ErrF (P : Program) (w : World) (K : PySem.W.Frag) (mg : Str → Option Value) (base : Heap) (C : Addr) (x f : Str) : Prop where
  gl : mg x = some (.ref C)
  oex : OexC K C
  xf : XfC K C
  ec : ExcC K C
  no : PySem.W.findIn K (.ref C) f = some none
  ini : ∃ fI fd, PySem.W.findIn K (.ref C) "__init__" = some (some (.ref fI)) ∧ PySem.W.typeIn K (.ref fI) = some (.type "function") ∧ FnOk P w K mg base CX0 1 fI fd ["self", f] (spI C f) ∧ Binds K fd ["self", f] []
def sRaise (c : Nat) (f : ME) : MS := fun η S => (f η S).toS η fun w S1 => .exc c w η S1
theorem upd_back {H : Hp} {a dx : Addr} {o1 o2 o3 o4 : HO} (ha : H a = none) (hn : dx ≠ a) : upd (del (upd (upd (upd H a o1) dx o2) a o3) a) dx o4 = upd H dx o4 := by
  funext y
  by_cases h1 : y = dx
  · rw [h1, upd_same, upd_same]
  · rw [upd_ne h1, upd_ne h1]
    unfold del
    by_cases h2 : y = a
    · rw [if_pos h2, h2, ha]
    · rw [if_neg h2, upd_ne h2, upd_ne h1, upd_ne h2]
section
variable {X : Cx} {G : Gs} {c : Nat} {e : Expr} {f : ME} {x : Str} {p pos pos2 : Pos}
theorem ss_raise (cf : Cfg X) (E : ErrF X.prog X.w X.K X.mg X.base (G.ca c) x (G.nm c)) (hr : Room 2 X.A) (ha : SA X G (e :: []) (maCons f maNil)) (hg : Gl X x := by rfl) (hdb : (x == ("__debug__" : Str)) = false := by decide)
    (h1 : starEach (e :: []) X.env = (false, eval e X.env) :: starEach [] X.env := by rfl) (hpl : (backTo pos (starEach [] X.env)).any (·.1) = false := by rfl) :
    SS X G (.Raise (some (.Call (.Name x p) [e] [] pos)) none pos2) (sRaise c f) := by
  obtain ⟨fI, fd, i1, i2, F1, hb⟩ := E.ini
  refine ⟨fun Wi tk => (ps_raise cf.calm tk (pmk_oex (dvs := []) E.oex i1 i2 F1 hr hb .nil pass0 hg E.gl (ha.run Wi tk) hdb h1 hpl)).imp ?_⟩
  rintro D σ H ⟨η, S, γ, hη, hs, q⟩
  refine ⟨η, S, γ, hη, hs, ?_⟩
  have q : PostS X.K G Wi γ H ((f η S).toS η fun w S1 => .exc c w η S1) D := q
  show Post X.K G (Reps X.K G) _ γ H ((f η S).bind fun w S1 => (maNil η S1).bind fun ws S2 => .ok (w :: ws) S2) _
  cases ef : f η S with
  | stuck =>
    rw [ef] at q
    exact q.elim
  | exc c2 x2 S1 =>
    rw [ef] at q
    exact fun v d γ' H' e' r s hd ho => q v d σ γ' H' e' (hη.mono e') r s hd ho
  | ok w S1 =>
    rw [ef] at q
    intro vs γ1 H1 e1 r1 s1
    cases r1 with
    | cons r1 r2 =>
    cases r2
    rename_i v
    refine ⟨by show 1 ≤ 1000; decide, fun a hA => ⟨a, v, rfl, upd_same, fun dx hd hn => ⟨rfl, dx, [(G.nm c, v)], upd_same, ?_, ?_, ?_⟩⟩⟩
    · rw [upd_ne hn, upd_same]
    · rw [upd_ne hn] at hd
      exact hd
    · rw [upd_ne hn] at hd
      rw [upd_back hA hn]
      have ex := Ext.upd (K := X.K) (G := G) s1 (o := .xd [(G.nm c, v)]) hd
      have q : ∀ v d σ' γ' H', Ext γ H γ' H' → EnvOk X.K G γ' H' η σ' → Rep X.K G γ' H' w v → StoreOk X.K G γ' H' S1 → H' d = some (.xd [(G.nm c, v)]) → γ'.Off d → Wi (.ref (G.ca c)) (some d) σ' H' := q
      exact q v dx σ γ1 _ (e1.trans ex) (hη.mono (e1.trans ex)) (r1.mono ex) (s1.upd hd) upd_same (s1.fresh hd)
end
end Mp

set_option Elab.async false
set_option linter.all false
set_option maxRecDepth 100000
set_option maxHeartbeats 4000000
/-! Mp: try .. except .. as. -/
namespace Mp
open PySem PySem.Spec PyProof.Rows L2
mutual
def noX : W → Bool
  | .exc _ _ => false
  | .tup xs => noXs xs
  | .lst xs => noXs xs
  | .scr xs => noXs xs
  | .dct _ vs => noXs vs
  | _ => true
def noXs : List W → Bool
  | [] => true
  | x :: xs => noX x && noXs xs
end
mutual
theorem pure_noX : ∀ {w : W}, w.pure = true → noX w = true
  | .exc _ _, h => by cases h
  | .tup xs, h => by unfold noX; exact pures_noX (by simpa [W.pure] using h)
  | .lst xs, h => by unfold noX; exact pures_noX (by simpa [W.pure] using h)
  | .scr xs, h => by unfold noX; exact pures_noX (by simpa [W.pure] using h)
  | .dct ks vs, h => by
    unfold noX
    rw [W.pure, Bool.and_eq_true] at h
    exact pures_noX h.2
  | .non, _ => rfl
  | .bl _, _ => rfl
  | .int _, _ => rfl
  | .str _, _ => rfl
  | .ref _, _ => rfl
  | .fn _, _ => rfl
  | .cls _, _ => rfl
theorem pures_noX : ∀ {ws : List W}, pures ws = true → noXs ws = true
  | [], _ => rfl
  | x :: xs, h => by
    unfold noXs
    rw [pures, Bool.and_eq_true] at h
    rw [pure_noX h.1, pures_noX h.2] <;> rfl
end
section
variable {K : PySem.W.Frag} {G G' : Gs} {γ : Ga} {H : Hp}
mutual
theorem Rep.cast (hf : G'.fa = G.fa) : ∀ {w : W} {v : V}, noX w = true → Rep K G γ H w v → Rep K G' γ H w v
  | _, _, _, .non => .non
  | _, _, _, .bl b => .bl b
  | _, _, _, .int i => .int i
  | _, _, _, .str s h1 h2 => .str s h1 h2
  | _, _, p, .tup h r => .tup h (Reps.cast hf (by unfold noX at p; exact p) r)
  | _, _, p, .lst h q r => .lst h q (Reps.cast hf (by unfold noX at p; exact p) r)
  | _, _, p, .scr h r => .scr h (Reps.cast hf (by unfold noX at p; exact p) r)
  | _, _, _, .ref h => .ref h
  | _, _, _, .fn f => hf ▸ .fn f
  | _, _, p, .dct d q r => .dct d q (Reps.cast hf (by unfold noX at p; exact p) r)
theorem Reps.cast (hf : G'.fa = G.fa) : ∀ {ws : List W} {vs : List V}, noXs ws = true → Reps K G γ H ws vs → Reps K G' γ H ws vs
  | _, _, _, .nil => .nil
  | _, _, p, .cons r t => by
    unfold noXs at p
    obtain ⟨p1, p2⟩ := Bool.and_eq_true_iff.mp p
    exact .cons (Rep.cast hf p1 r) (Reps.cast hf p2 t)
end
theorem StoreOk.cast {S : Store} (hf : G'.fa = G.fa) (s : StoreOk K G γ H S) : StoreOk K G' γ H S := by
  refine ⟨s.len, s.nd, fun i c a hc ha => ?_, s.bt⟩
  have q := s.cell i c a hc ha
  cases c with
  | lst xs =>
    obtain ⟨p, vs, hv, r⟩ := q
    exact ⟨p, vs, hv, Reps.cast hf (pures_noX p) r⟩
  | dct ks ws =>
    obtain ⟨p0, p, us, d, r⟩ := q
    exact ⟨p0, p, us, d, Reps.cast hf (pures_noX p) r⟩
  | ins _ _ => exact q.elim
def envX (η : Env) : Bool := η.all fun o => match o with
  | some w => noX w
  | none => true
theorem EnvOk.cast {η : Env} {σ : L2.St} (hf : G'.fa = G.fa) (hx : envX η = true) (h : EnvOk K G γ H η σ) : EnvOk K G' γ H η σ := ⟨h.1, fun i w q => by
  obtain ⟨v, e1, r⟩ := h.2 i w q
  have := List.all_eq_true.mp hx (some w) (List.mem_of_getElem? q)
  exact ⟨v, e1, r.cast hf this⟩⟩
theorem EnvOk.setNone {η : Env} {σ : L2.St} (h : EnvOk K G γ H η σ) (i : Nat) : EnvOk K G γ H (η.set i none) (σ.set i none) := by
  refine ⟨by rw [List.length_set, List.length_set]; exact h.1, fun j w q => ?_⟩
  by_cases hij : i = j
  · subst hij
    have hlt : i < η.length := by
      have := (List.getElem?_eq_some_iff.mp q).1
      rwa [List.length_set] at this
    rw [List.getElem?_set_self hlt] at q
    cases q
  · rw [List.getElem?_set_ne hij] at q
    rw [List.getElem?_set_ne hij]
    exact h.2 j w q
theorem EnvOk.unset {η : Env} {σ : L2.St} (h : EnvOk K G γ H η σ) (i : Nat) : EnvOk K G γ H (η.set i none) σ := by
  refine ⟨by rw [List.length_set]; exact h.1, fun j w q => ?_⟩
  by_cases hij : i = j
  · subst hij
    have hlt : i < η.length := by
      have := (List.getElem?_eq_some_iff.mp q).1
      rwa [List.length_set] at this
    rw [List.getElem?_set_self hlt] at q
    cases q
  · rw [List.getElem?_set_ne hij] at q
    exact h.2 j w q
end
def _root_.Mp.Gs.exn (G : Gs) (a d : Addr) (c : Nat) : Gs := { G with ea := a, ed := d, ec := c }
/-- behind an exception -/
def sCatch (i : Nat) (h : MS) (c : Nat) (x : W) (η1 : Env) (S1 : Store) : RS := if envX η1 = true ∧ noX x = true then (match h (η1.set i (some (.exc c x))) S1 with
  | .nx η2 S2 => if envX (η2.set i none) = true then .nx (η2.set i none) S2 else .stuck
  | .ret w S2 => if noX w = true then .ret w S2 else .stuck
  | _ => .stuck) else .stuck
def sTry (i : Nat) (b h : MS) : MS := fun η S => match b η S with
  | .exc c x η1 S1 => sCatch i h c x η1 S1
  | r => r
theorem Cfg.tr {X : Cx} (cf : Cfg X) (pn : List (Addr × Obj)) (xe : Value → Shared → Prop) (h : PassesOwn (model X.prog X.w) X.A X.env xe) : Cfg (X.tr pn xe) := ⟨cf.calm, cf.nd, h, cf.un⟩
section
variable {X : Cx} {G : Gs} {i : Nat} {xn n : Str} {ce : Value} {body suite : List Stmt} {b₀ : Stmt} {np pos pos' : Pos} {b h : MS}
theorem ss_try (i : Nat) (cf : Cfg X) (hi : X.N[i]? = some n) (hln : X.env.kindOf n = some .local) (hc : Names X xn ce) (hE : ∀ c, PySem.W.exmOne X.K (.ref (G.ca c)) ce = some true)
    (hb : ∀ (pn : List (Addr × Obj)) (xe : Value → Shared → Prop), Cfg (X.tr pn xe) → SSs (X.tr pn xe) G body b)
    (hs : ∀ (a : Addr) (oe : Obj) (c : Nat) (d : Addr) (pn : List (Addr × Obj)), Zc (.ref (G.ca c)) (some d) oe → (∃ vs, oe.data = .fields vs) → SSs (X.suite a ((a, oe) :: pn)) (G.exn a d c) (b₀ :: suite) h)
    (h1 : X.stack = X.env :: X.outer := by rfl) (h2 : X.env.frame = some X.env.locals := by rfl) :
    SS X G (.Try body [.ExceptHandler (some (.Name xn np)) (some n) (b₀ :: suite) pos'] [] [] pos) (sTry i b h) := by
  refine ⟨fun Wi tk => (ps_try_as (i := i) (tb := fun W => tsOf X.K G W b) (ts := fun a cls d D σ H => ∃ c dd, cls = .ref (G.ca c) ∧ d = some dd ∧ tsOf X.K (G.exn a dd c) (fun _ _ _ _ => False) h D σ H) (Wout := Wi) h1 h2 cf.nd hi hln hc tk (fun W pn xe tk2 po => (hb pn xe (cf.tr pn xe po)).run W tk2) (fun a oe cls d pn hz hf => ?_)).imp ?_⟩
  · refine ⟨fun pins s σ H D I q => ?_⟩
    obtain ⟨c, dd, rfl, rfl, q⟩ := q
    exact ((hs a oe c dd pn hz hf).run _ takes0).run pins s σ H D I q
  · rintro D σ H ⟨η, S, γ, hη, hS, q⟩
    refine ⟨η, S, γ, hη, hS, ?_⟩
    have q : PostS X.K G Wi γ H (match b η S with
      | .exc c x η1 S1 => sCatch i h c x η1 S1
      | r => r) D := q
    cases e : b η S with
    | nx η1 S1 => rw [e] at q; exact q
    | bk η1 S1 => rw [e] at q; exact q
    | ct η1 S1 => rw [e] at q; exact q
    | ret w S1 => rw [e] at q; exact q
    | stuck => rw [e] at q; exact q
    | exc c x η1 S1 =>
      rw [e] at q
      have q : PostS X.K G Wi γ H (sCatch i h c x η1 S1) D := q
      intro v d σ' γ' H' e' he' r' s' hd ho
      refine ⟨true, hE c, fun _ a hA => ?_, fun z => by cases z⟩
      have f1 : (G.exn a d c).fa = G.fa := rfl
      have f2 : G.fa = (G.exn a d c).fa := rfl
      unfold sCatch at q
      split at q
      · rename_i hx
        refine ⟨c, d, rfl, rfl, η1.set i (some (.exc c x)), S1, γ', ?_, s'.cast f1, ?_⟩
        · have r2 : Rep X.K (G.exn a d c) γ' H' (.exc c x) (.ref a) := Rep.exc (G := G.exn a d c) hd ho (r'.cast f1 hx.2)
          exact (he'.cast f1 hx.1).set r2 i
        · cases e2 : h (η1.set i (some (.exc c x))) S1 with
          | nx η2 S2 =>
            rw [e2] at q
            have q : PostS X.K G Wi γ H (if envX (η2.set i none) = true then .nx (η2.set i none) S2 else .stuck) D := q
            split at q
            · rename_i hx2
              intro σ2 γ2 H2 ex hη2 hS2
              exact q (σ2.set i none) γ2 H2 (e'.trans ex) ((hη2.setNone i).cast f2 hx2) (hS2.cast f2)
            · exact q.elim
          | ret w S2 =>
            rw [e2] at q
            have q : PostS X.K G Wi γ H (if noX w = true then .ret w S2 else .stuck) D := q
            split at q
            · rename_i hx2
              intro v2 γ2 H2 ex r2 hS2
              exact q v2 γ2 H2 (e'.trans ex) (r2.cast f2 hx2) (hS2.cast f2)
            · exact q.elim
          | bk η2 S2 => rw [e2] at q; exact q.elim
          | ct η2 S2 => rw [e2] at q; exact q.elim
          | stuck => rw [e2] at q; exact q.elim
          | exc c2 x2 η2 S2 => rw [e2] at q; exact q.elim
      · exact q.elim
end
end Mp

set_option Elab.async false
set_option linter.all false
set_option maxRecDepth 100000
set_option maxHeartbeats 4000000
/-! Mp: isinstance(e, C) and e.f of the exception that is handled. -/
namespace Mp
open PySem PySem.Spec PyProof.Rows L2
def mIsX (cs : Nat → Bool) (f : ME) : ME := fun η S => (f η S).bind fun w S1 => match w with
  | .exc c _ => .ok (.bl (cs c)) S1
  | _ => .stuck
def mXF (cs : Nat → Bool) (f : ME) : ME := fun η S => (f η S).bind fun w S1 => match w with
  | .exc c x => if cs c = true then .ok x S1 else .stuck
  | _ => .stuck
def rIsD (K : PySem.W.Frag) (C a d : Addr) : List V → Hp → VK → Prop := fun xs H Q =>
  ∃ (c : V) (cv : Value) (b : Bool), xs = [.ref a, c] ∧ (∀ u, RelV c u → u = cv) ∧ PySem.W.kitOne K (.ref C) cv = some b ∧ (∃ fs, H d = some (.xd fs)) ∧ Q (.bl b) H
section
variable {X : Cx} {G : Gs} {a d C : Addr} {c : Nat} {oe : Obj} {pn : List (Addr × Obj)}
theorem call_isD (O : OexC X.K C) (E : ExcC X.K C) (hz : Zc (.ref C) (some d) oe) (hf : ∃ vs, oe.data = .fields vs) : CallR (X.suite a ((a, oe) :: pn)) (.builtin "isinstance") (rIsD X.K C a d) := by
  intro pins s σ H xs us Q I r h
  obtain ⟨c, cv, b, rfl, hcv, e, ⟨fs, hd⟩, q⟩ := h
  cases r with
  | cons rx rr =>
  cases rr with
  | cons rc rn =>
  cases rn
  rename_i ux uc
  obtain rfl : ux = Value.ref a := rx
  obtain rfl := hcv _ rc
  obtain ⟨ha, _⟩ := I.pin (a, oe) (List.mem_append_left _ List.mem_cons_self)
  obtain ⟨vs, hdat⟩ := hf
  have hx : ObjOk X.prog X.w H s.heap d (.xd fs) := I.hok d _ hd
  obtain ⟨mA, hns, hr⟩ := hx
  obtain ⟨od, ho, hl⟩ := lookIn_ns hns
  have hcl : (PySem.W.clsIn X.K C).isSome = true := by
    obtain ⟨nm, q2, N, bs, bm, sn, sub, ab, col, dd, k0, k1, k2, k3, k5, hC, _⟩ := O.cls
    unfold PySem.W.clsIn
    rw [show List.lookup C X.K = _ from hC] <;> rfl
  have J : PySem.W.InstAt s.heap a oe C (some od) := ⟨ha, hz.1, by unfold PySem.W.notCls; rw [hdat] <;> rfl, by rw [hz.2]; exact ho⟩
  exact PySem.W.kia_one (PySem.W.kitx_exc hcl E.hg E.hk E.hs E.ha E.hn E.ht E.hm) I.kIn J e (fun z => nomatch z) fun tk => ⟨.bl b, H, I.kept fun _ _ z => z, rfl, q⟩
variable {e : Expr} {f : ME} {x n : Str} {p p2 pos : Pos}
/-- isinstance of a class of the program -/
theorem se_isX (cs : Nat → Bool) (u : Value) (v : V) (O : OexC X.K (G.ca c)) (E : ExcC X.K (G.ca c)) (hz : Zc (.ref (G.ca c)) (some d) oe) (hf : ∃ vs, oe.data = .fields vs) (hm : X.mg "isinstance" = none)
    (hx : PE (X.suite a ((a, oe) :: pn)) (.Name x p2) (tC v)) (hv : ∀ w, RelV v w → w = u) (hk : PySem.W.kitOne X.K (.ref (G.ca c)) u = some (cs c)) (ha : SE (X.suite a ((a, oe) :: pn)) (G.exn a d c) e f)
    (hg : Gl X "isinstance" := by rfl)
    (h1 : starEach (e :: [.Name x p2]) X.env = (false, eval e X.env) :: starEach [.Name x p2] X.env := by rfl) (h2 : starEach [.Name x p2] X.env = (false, eval (.Name x p2) X.env) :: starEach [] X.env := by rfl)
    (hpl : (backTo pos (starEach [.Name x p2] X.env)).any (·.1) = false := by rfl) : SE (X.suite a ((a, oe) :: pn)) (G.exn a d c) (.Call (.Name "isinstance" p) [e, .Name x p2] [] pos) (mIsX cs f) := by
  refine ⟨fun Wi tk => (pe_callB (call_isD O E hz hf) hg hm (by decide +kernel) (pa_cons (ha.run Wi tk) (pa_cons hx pa_nil h2) h1) (by decide) (by decide) h1 hpl).imp ?_⟩
  rintro σ H Q ⟨η, S, γ, he, hs, q⟩
  refine ⟨η, S, γ, he, hs, (Post.seq q).imp fun y H1 ⟨wy, S1, γ1, e1, r1, s1, q1⟩ => ?_⟩
  cases wy with
  | exc c2 x2 =>
    have h3 : c2 = c ∧ y = .ref a ∧ ∃ fs, H1 d = some (.xd fs) := by
      generalize hw : W.exc c2 x2 = ww at r1
      cases r1 <;> cases hw
      rename_i g1 g2 g3 g4
      exact ⟨rfl, rfl, _, g1⟩
    obtain ⟨rfl, rfl, hd⟩ := h3
    exact ⟨v, u, cs c2, rfl, hv, hk, hd, q1 _ γ1 H1 Ext.refl (.bl _) s1⟩
  | _ => exact q1.elim
/-- its field -/
theorem se_xf (cs : Nat → Bool) (h : cs c = true → XfC X.K (G.ca c) ∧ PySem.W.findIn X.K (.ref (G.ca c)) n = some none ∧ G.nm c = n) (hz : Zc (.ref (G.ca c)) (some d) oe) (hf : ∃ vs, oe.data = .fields vs)
    (ha : SE (X.suite a ((a, oe) :: pn)) (G.exn a d c) e f) (hb : attributeBase e n X.env (eval e X.env) = eval e X.env := by rfl) : SE (X.suite a ((a, oe) :: pn)) (G.exn a d c) (.Attribute e n pos) (mXF cs f) := by
  by_cases hc : cs c = true
  · obtain ⟨T, hno, hn⟩ := h hc
    refine ⟨fun Wi tk => (pe_xf T hno hz hf (ha.run Wi tk) hb).imp ?_⟩
    rintro σ H Q ⟨η, S, γ, he, hs, q⟩
    refine ⟨η, S, γ, he, hs, (Post.seq q).imp fun y H1 ⟨wy, S1, γ1, e1, r1, s1, q1⟩ => ?_⟩
    cases wy with
    | exc c2 x2 =>
      have h3 : c2 = c ∧ y = .ref a ∧ ∃ v, H1 d = some (.xd [(G.nm c, v)]) ∧ Rep X.K (G.exn a d c) γ1 H1 x2 v := by
        generalize hw : W.exc c2 x2 = ww at r1
        cases r1 <;> cases hw
        rename_i g1 g2 g3 g4
        exact ⟨rfl, rfl, _, g1, by assumption⟩
      obtain ⟨rfl, rfl, v, hd, rv⟩ := h3
      have q1 : Post X.K (G.exn a d c2) (Rep X.K (G.exn a d c2)) (fun c d H' => Wi c d σ H') γ1 H1 (if cs c2 = true then .ok x2 S1 else .stuck) Q := q1
      rw [if_pos hc] at q1
      refine ⟨rfl, rfl, d, _, v, rfl, hd, ?_, q1 v γ1 H1 Ext.refl rv s1⟩
      rw [hn]
      simp [List.lookup]
    | _ => exact q1.elim
  · refine ⟨fun Wi tk => ⟨fun pins s σ H Q I q => attr_of hb (thn (ha.run Wi tk |>.run pins s σ H (fun _ _ => False) I ?_) fun u s1 hh => ?_)⟩⟩
    · obtain ⟨η, S, γ, he, hs, q⟩ := q
      refine ⟨η, S, γ, he, hs, (Post.seq q).imp fun y H1 ⟨wy, S1, γ1, e1, r1, s1, q1⟩ => ?_⟩
      cases wy with
      | exc c2 x2 =>
        have h3 : c2 = c := by
          generalize hw : W.exc c2 x2 = ww at r1
          cases r1 <;> cases hw
          rfl
        subst h3
        have q1 : Post X.K (G.exn a d c2) (Rep X.K (G.exn a d c2)) (fun c d H' => Wi c d σ H') γ1 H1 (if cs c2 = true then .ok x2 S1 else .stuck) Q := q1
        rw [if_neg hc] at q1
        exact q1.elim
      | _ => exact q1.elim
    · obtain ⟨_, _, _, _, z⟩ := hh
      exact z.elim
end
end Mp

set_option Elab.async false
set_option linter.all false
set_option maxRecDepth 100000
set_option maxHeartbeats 4000000
/-! Mp: what the head says of own exceptions; calls without arguments. -/
namespace Mp
open PySem PySem.Spec PyProof.Rows L2
def excObjB (C : Addr) (o : Obj) : Bool := match o with
  | ⟨.type "type", _, .cls cd, sl⟩ => (match cd.mro, sl.toList with
    | .ref C' :: bm, [_, _, _, _, some (.builtin n), _] => decide (C' = C) && (n == "ValueError.__new__" && (cd.hasDict && (!cd.hasDel && HandSPX.refsVE bm)))
    | _, _ => false)
  | _ => false
theorem excObjB_ok {C : Addr} {o : Obj} (h : excObjB C o = true) : ∃ nm q N bs bm sn sub ab col dd k0 k1 k2 k3 k5, o = excClassObj nm q C N bs bm true sn sub ab col dd k0 k1 k2 k3 k5 "ValueError.__new__" ∧ HandSPX.refsVE bm = true := by
  unfold excObjB at h
  split at h
  · rename_i dd cd sl
    split at h
    · rename_i C' bm k0 k1 k2 k3 n k5 hm hs
      obtain ⟨nm, bs, mro, N, q, hd, sn, sub, ab, col, hdl⟩ := cd
      simp only [Bool.and_eq_true, decide_eq_true_eq, beq_iff_eq, Bool.not_eq_true'] at h
      obtain ⟨h1, h2, h3, h4, h5⟩ := h
      subst h1 h2 h3 h4
      have hm : mro = Value.ref C' :: bm := hm
      subst hm
      obtain ⟨l⟩ := sl
      have hs : l = [k0, k1, k2, k3, some (Value.builtin "ValueError.__new__"), k5] := hs
      subst hs
      exact ⟨nm, q, N, bs, bm, sn, sub, ab, col, dd, k0, k1, k2, k3, k5, rfl, h5⟩
    · cases h
  · cases h
def errB (K : PySem.W.Frag) (x f : Str) : Bool :=
  let C := He.ga K x
  (match List.lookup C K with
    | some o => excObjB C o
    | none => false) &&
  (He.eqO (PySem.W.findIn K (.ref C) "__setattr__") (some (some (.builtin "object.__setattr__"))) &&
  (decide (PySem.W.subIn K (.ref C) (.type "BaseException") = some true) &&
  (decide (PySem.W.typeIn K (.ref C) = some (.type "type")) &&
  (PySem.W.keepIn K (.ref C) &&
  (He.eqO (PySem.W.findIn K (.ref C) "__getattribute__") (some (some (.builtin "BaseException.__getattribute__"))) &&
  (He.eqO (PySem.W.findIn K (.ref C) "__getattr__") (some none) &&
  (PySem.W.hasDictIn K C &&
  (He.eqO (PySem.W.findIn K (.ref C) "__class__") (some (some (.builtin "object.__class__"))) &&
  (He.eqO (PySem.W.specialIn K (.builtin "object.__class__") "__get__") (some (some (.builtin "getset_descriptor.__get__"))) &&
  (decide (PySem.W.takesIn K (.builtin "object.__class__") = some true) &&
  (decide (PySem.W.mroIn K C (.type "object") = some true) &&
  (He.eqO (PySem.W.findIn K (.ref C) f) (some none) &&
  (He.eqO (PySem.W.findIn K (.ref C) "__init__") (some (some (.ref (He.ma K C "__init__")))) &&
  decide (PySem.W.typeIn K (.ref (He.ma K C "__init__")) = some (.type "function")))))))))))))))
theorem errF_of {P : Program} {w : World} {K : PySem.W.Frag} {mg : Str → Option Value} {base : Heap} {x f qual : Str} {params : Arguments} {body : List Stmt} {scope : Scope} {fd : FuncData} (h : errB K x f = true) (gl : mg x = some (.ref (He.ga K x)))
    (F : FunD K "__init__" qual params body scope [] [] (He.ma K (He.ga K x) "__init__") fd) (S : FnScope ["self", f] ["self", f] scope) (hb : Binds K fd ["self", f] [])
    (hp : ∀ (cdv : Value) (A : Around) (outer : List PySem.Env) (s : Shared) (H : Hp) (E : XK), PSs (cxOf (L2.CX P w) P w K mg base ["self", f] qual scope (He.ma K (He.ga K x) "__init__") cdv A outer s H E) body (tOst K f (tVar 0) (tVar 1))) :
    ErrF P w K mg base (He.ga K x) x f := by
  unfold errB at h
  simp only [Bool.and_eq_true, decide_eq_true_eq] at h
  obtain ⟨h0, h1, h2, h3, h4, h5, h6, h7, h8, h9, h10, h11, h12, h13, h14⟩ := h
  have O : OexC K (He.ga K x) := by
    refine ⟨?_, He.eqO_ok h1, h2, h3, h4⟩
    cases e : List.lookup (He.ga K x) K with
    | none => rw [e] at h0; cases h0
    | some o =>
      rw [e] at h0
      obtain ⟨nm, q, N, bs, bm, sn, sub, ab, col, dd, k0, k1, k2, k3, k5, rfl, hr⟩ := excObjB_ok h0
      exact ⟨nm, q, N, bs, bm, sn, sub, ab, col, dd, k0, k1, k2, k3, k5, rfl, hr⟩
  have no := He.eqO_ok h12
  refine ⟨gl, O, ⟨He.eqO_ok h5, He.eqO_ok h6, h2, h7⟩, ⟨He.eqO_ok h5, He.eqO_ok h6, h2, h7, He.eqO_ok h8, He.eqO_ok h9, h10, h11⟩, no, _, fd, He.eqO_ok h13, h14, ?_, hb⟩
  refine noexc_fn (sp := spI (He.ga K x) f) (F.ok S (fun vs H Q E q => ?_) fun cdv A outer s H vs Q E hr q => ⟨_, hp cdv A outer s H E, ?_⟩)
  · obtain ⟨a, v, rfl, _⟩ := q
    rfl
  · obtain ⟨a, v, rfl, ha, k⟩ := q
    exact ⟨v, rfl, .ref a, rfl, a, _, rfl, O, no, .inl ⟨ha, fun dx hd hn => k dx hd hn⟩⟩
/-- a call without arguments -/
def mCall0 (φ : Fns) (f : Nat) : ME := fun _ S => noexc (φ f [] S)
section
variable {X : Cx} {G : Gs} {d f : Nat} {r : FnR} {φ : Fns} {x : Str} {p pos : Pos}
theorem se_call0 (f : Nat) (h : ∃ fd, FT X.prog X.w X.K X.mg X.base G d (φ f) f r fd) (hr : Room (d + 2) X.A) (hx : r.x = x := by rfl) (hg : Gl X x := by rfl) (hdb : (x == ("__debug__" : Str)) = false := by decide) : SE X G (.Call (.Name x p) [] [] pos) (mCall0 φ f) := by
  obtain ⟨fd, h⟩ := h
  subst hx
  refine ⟨fun Wi tk => (pe_call0 (noexc_fn h.ok) hr hg h.gl h.F.kp h.b .nil pass0 hdb).imp ?_⟩
  rintro σ H Q ⟨η, S, γ, he, hs, q⟩
  have q : Post X.K G (Rep X.K G) (fun c d H' => Wi c d σ H') γ H (noexc (φ f [] S)) Q := q
  refine ⟨?_, [], S, γ, .nil, hs, ?_⟩
  · have := h.len [] S (by
      intro z
      rw [z] at q
      exact q.elim)
    exact this
  · cases e : φ f [] S with
    | ok w S1 => rw [e] at q; exact q
    | exc c y S1 => rw [e] at q; exact q.elim
    | stuck => rw [e] at q; exact q.elim
end
end Mp

set_option Elab.async false
set_option linter.all false
set_option maxRecDepth 100000
set_option maxHeartbeats 4000000
/-! Mp: list.count of truths, list.index of flat things; names set in a suite. -/
namespace Mp
open PySem PySem.Spec PyProof.Rows L2
theorem un_of {n k c : Nat} (h : n + 100 < c) (hk : k ≤ 100 := by decide) : n + k < c := by omega
def omCountB : OM := fun x ws S => match lstOf S x, ws with
  | some xs, [.bl k] => (bls xs).map fun bs => (.int (bs.count k : Nat), S)
  | _, _ => none
def omIndexF : OM := fun x ws S => match lstOf S x, ws with
  | some xs, [y] => if flat y = true ∧ xs.all flat = true then (xs.findIdx? fun z => eqW z y).map fun j => (.int (j : Nat), S) else none
  | _, _ => none
theorem count_bools (k : Bool) : ∀ bs : List Bool, countIn (.bool k) (bs.map .bool) = ((bs.count k : Nat) : Int)
  | [] => rfl
  | b :: r => by
    have ih := count_bools k r
    rw [List.map_cons, List.count_cons]
    show (if PyData.eqv (.bool b) (.bool k) = true then 1 else 0) + countIn (.bool k) (r.map .bool) = _
    rw [ih]
    cases b <;> cases k <;> simp [PyData.eqv] <;> omega
theorem bls_repsB {K : PySem.W.Frag} {G : Gs} {γ : Ga} {H : Hp} : ∀ {xs : List W} {vs : List V} {bs : List Bool}, Reps K G γ H xs vs → bls xs = some bs → vs = bs.map V.bl
  | _, _, _, .nil, h => by cases h; rfl
  | _, _, bs, .cons (w := w) r t, h => by
    cases r with
    | bl b =>
      have h : (bls _).map (b :: ·) = some bs := h
      cases e : bls _ with
      | none => rw [e] at h; cases h
      | some cs =>
        rw [e] at h
        cases h
        rw [bls_repsB t e] <;> rfl
    | _ => cases h
section
variable {X : Cx} {G : Gs}
theorem om_countB : MtR X "list.count" (rmOf X.K G omCountB) := by
  intro pins s σ H x xs v us Q I rx rxs h
  obtain ⟨wx, ws, S, γ, w, S3, r, rs, ss, e, k⟩ := h
  unfold omCountB at e
  split at e
  · rename_i ys b hl
    cases hn : bls ys with
    | none => rw [hn] at e; cases e
    | some bs =>
      rw [hn] at e
      cases e
      obtain ⟨p, vs, rfl, hs, q⟩ := lst_or ss hl r
      cases rs with
      | cons r1 t =>
      cases t
      cases r1
      have ev := bls_repsB q hn
      subst ev
      obtain rfl : v = Value.ref p := rx
      obtain ⟨u, rfl, ru⟩ := Vals.one rxs
      obtain rfl : u = Value.bool b := ru
      obtain ⟨its, rv, pl, hlen⟩ := I.list hs
      have hp : s.heap.IsList p its.toArray := by
        obtain ⟨ob, n, ho, hc, hdn, hd⟩ := pl
        exact ⟨ob, ho, hc, n, hd⟩
      have rd : ∀ (bs : List Bool) (its : List Value), Vals (bs.map V.bl) its → ∃ as, ReadsAll s.heap its (bs.map .bool) as := by
        intro bs
        induction bs with
        | nil =>
          intro its h
          cases h
          exact ⟨[], .nil⟩
        | cons c r ih =>
          intro its h
          cases h with
          | cons h1 h2 =>
          obtain ⟨as, ha⟩ := ih _ h2
          rename_i u _
          obtain rfl : u = Value.bool c := h1
          exact ⟨_, .cons (.bool c) ha⟩
      obtain ⟨as, ha⟩ := rd bs its rv
      refine PyProof.Rows.count_list_bools hp ha (by simp [Spec.Shape.has]) ?_
      rw [count_bools]
      exact ⟨.int (bs.count b : Nat), H, I.kept fun _ _ z => z, ⟨_, rfl⟩, k _ γ H Ext.refl (.int _) ss⟩
  · cases e
theorem om_indexF : MtR X "list.index" (rmOf X.K G omIndexF) := by
  refine mt_imp mt_index ?_
  rintro x xs H Q ⟨wx, ws, S, γ, w, S3, r, rs, s, e, k⟩
  unfold omIndexF at e
  split at e
  · rename_i ys y hl
    split at e
    · rename_i hf
      cases hj : ys.findIdx? fun z => eqW z y with
      | none => rw [hj] at e; cases e
      | some j =>
        rw [hj] at e
        cases e
        obtain ⟨p, vs, rfl, hs, q⟩ := lst_or s hl r
        cases rs with
        | cons r1 t =>
        cases t
        rename_i yv
        have hjj := List.findIdx?_eq_some_iff_getElem.mp hj
        obtain ⟨hlt, hz, hno⟩ := hjj
        have get : ∀ (m : Nat) (hm : m < ys.length), ∃ z', vs[m]? = some z' ∧ Rep X.K G γ H ys[m] z' := fun m hm => by
          obtain ⟨z', h1, h2⟩ := q.get (List.getElem?_eq_getElem hm)
          exact ⟨z', h1, h2⟩
        have fl : ∀ (m : Nat) (hm : m < ys.length), flat ys[m] = true := fun m hm => List.all_eq_true.mp hf.2 _ (List.getElem_mem hm)
        obtain ⟨z, z1, z2⟩ := get j hlt
        refine ⟨p, vs, yv, j, z, rfl, rfl, hs, flat_rep r1 hf.1, flats_rep q hf.2, z1, by rw [eqV_rep z2 r1 (fl j hlt) hf.1]; exact hz, fun m z' hm hz' => ?_, k _ γ H Ext.refl (.int _) s⟩
        have hm2 : m < ys.length := by omega
        obtain ⟨z3, z4, z5⟩ := get m hm2
        rw [hz'] at z4
        cases z4
        rw [eqV_rep z5 r1 (fl m hm2) hf.1]
        have := hno m hm
        simpa using this
    · cases e
  · cases e
variable {a : Expr} {f : ME} {x : Str} {p pos : Pos}
theorem ss_setN (i : Nat) (nd : X.N.Nodup) (ha : SE X G a f) (hi : X.N[i]? = some x := by rfl) (hx : Loc X.env.scope x := by first | exact Or.inl rfl | exact Or.inr rfl) (hsw : swapsWith a (some (.Name x p)) pos.line X.env = pure false := by rfl)
    (hf : X.fn x = true ∨ X.env.scope.names.lookup x = some .local := by first | exact .inl rfl | exact .inr rfl) : SS X G (.Assign [.Name x p] a pos) (sSet i f) := by
  refine ⟨fun Wi tk => (ps_set nd hi hx (ha.run Wi tk) hsw hf).imp ?_⟩
  rintro D σ H ⟨η, S, γ, he, hs, q⟩
  exact ⟨η, S, γ, he, hs, (PostS.expr he q).imp fun v H1 ⟨w, S1, γ1, e1, r1, s1, q1⟩ => q1 _ γ1 H1 Ext.refl ((he.mono e1).set r1 i) s1⟩
end
theorem errB_facts {K : PySem.W.Frag} {x f : Str} (h : errB K x f = true) : OexC K (He.ga K x) ∧ XfC K (He.ga K x) ∧ ExcC K (He.ga K x) ∧ PySem.W.findIn K (.ref (He.ga K x)) f = some none := by
  unfold errB at h
  simp only [Bool.and_eq_true, decide_eq_true_eq] at h
  obtain ⟨h0, h1, h2, h3, h4, h5, h6, h7, h8, h9, h10, h11, h12, h13, h14⟩ := h
  have O : OexC K (He.ga K x) := by
    refine ⟨?_, He.eqO_ok h1, h2, h3, h4⟩
    cases e : List.lookup (He.ga K x) K with
    | none => rw [e] at h0; cases h0
    | some o =>
      rw [e] at h0
      obtain ⟨nm, q, N, bs, bm, sn, sub, ab, col, dd, k0, k1, k2, k3, k5, rfl, hr⟩ := excObjB_ok h0
      exact ⟨nm, q, N, bs, bm, sn, sub, ab, col, dd, k0, k1, k2, k3, k5, rfl, hr⟩
  exact ⟨O, ⟨He.eqO_ok h5, He.eqO_ok h6, h2, h7⟩, ⟨He.eqO_ok h5, He.eqO_ok h6, h2, h7, He.eqO_ok h8, He.eqO_ok h9, h10, h11⟩, He.eqO_ok h12⟩
theorem getD_all {α : Type} {p : α → Bool} {l : List α} {d : α} (h : l.all p = true) (hd : p d = true) (c : Nat) : p (l.getD c d) = true := by
  rw [List.getD_eq_getElem?_getD]
  cases e : l[c]? with
  | none => exact hd
  | some y => exact List.all_eq_true.mp h y (List.mem_of_getElem? e)
end Mp
namespace Mp
/-- an index of a class; what is none stands for the first -/
def ixN (n c : Nat) : Nat := if c < n then c else 0
theorem all_ix {n : Nat} {p : Nat → Bool} (hn : 0 < n) (h : (List.range n).all p = true) (c : Nat) : p (ixN n c) = true := by
  refine List.all_eq_true.mp h _ (List.mem_range.mpr ?_)
  unfold ixN
  split <;> omega
end Mp

set_option Elab.async false
set_option linter.all false
set_option maxRecDepth 100000
set_option maxHeartbeats 4000000
/-! Mp: the other two forms of the law's well. -/
namespace Mp
open PySem PySem.Spec
def wellBB (φ : Fns) : MS := sSeq (sSet 2 (mIf (mTCmp opLt (mVar 1) (mBi baLen (maCons (mVar 0) (maNil)))) (mBi baInt (maCons (mBin opIx (mVar 0) (mVar 1)) (maNil))) (mBin opAdd (mBin opAdd (mBin opMul (mC (.int 9311)) (mVar 1)) (mBin opMod (mBi baInt (maCons (mBi baSum (maCons (mSl (mVar 0) (moNone) (moSome (mC (.int 2)))) (maNil))) (maNil))) (mC (.int 1000003)))) (mC (.int 71))))) (sSeq (sSet 3 (mBin opAdd (mC (.int 50021)) (mBin opMul (mC (.int 1013)) (mVar 1)))) (sSeq (sFor (miSeq (mBin opAdd (mSl (mVar 0) (moNone) (moSome (mC (.int 5)))) (mLst (maCons (mVar 2) (maNil))))) (gVar 4) (sSet 3 (mBin opMod (mBi baInt (maCons (mBin opAdd (mBin opAdd (mBin opMul (mVar 3) (mC (.int 45013))) (mBin opMod (mBi baInt (maCons (mVar 4) (maNil))) (mC (.int 2147483399)))) (mC (.int 37))) (maNil))) (mC (.int 2147483563))))) (sRet (mLstS (maCons (mIf (mTOr (mTCmp opLt (mVar 2) (mC (.int 0))) (mTCmp opGe (mVar 2) (mBin opPow (mC (.int 10)) (mC (.int 17))))) (mBi baAbs (maCons (mVar 2) (maNil))) (mC (.int 0))) (maCons (mVar 3) (maCons (mC (.int 0)) (maNil))))))))
theorem well_okB {φ : Fns} {ns : List Int} {t : Nat} {S : Store} (hl : ns.length ≤ 63) (ht : t ≤ 1000) :
    ∃ a b : Int, 0 ≤ a ∧ 0 ≤ b ∧ wellBB φ [some (.scr (ns.map .int)), some (.int t), none, none, none] S = .ret (.ref S.length) (S ++ [.lst [.int a, .int b, .int 0]]) := by
  unfold wellBB
  have h1 : ∃ o : Int, (mIf (mTCmp opLt (mVar 1) (mBi baLen (maCons (mVar 0) (maNil)))) (mBi baInt (maCons (mBin opIx (mVar 0) (mVar 1)) (maNil))) (mBin opAdd (mBin opAdd (mBin opMul (mC (.int 9311)) (mVar 1)) (mBin opMod (mBi baInt (maCons (mBi baSum (maCons (mSl (mVar 0) (moNone) (moSome (mC (.int 2)))) (maNil))) (maNil))) (mC (.int 1000003)))) (mC (.int 71)))) [some (.scr (ns.map .int)), some (.int t), none, none, none] S = .ok (.int o) S := by
    have hc : (mTCmp opLt (mVar 1) (mBi baLen (maCons (mVar 0) (maNil)))) [some (.scr (ns.map .int)), some (.int t), none, none, none] S = .ok (decide ((t : Int) < ((ns.map W.int).length : Int))) S := rfl
    unfold mIf
    rw [hc]
    by_cases lt : (t : Int) < ((ns.map W.int).length : Int)
    · have l2 : t < ns.length := by rw [List.length_map] at lt; omega
      refine ⟨ns[t], ?_⟩
      show (if decide ((t : Int) < ((ns.map W.int).length : Int)) = true then _ else _) = _
      rw [if_pos (decide_eq_true lt)]
      refine mBi1_ok (x := .int ns[t]) (S1 := S) (mBin_ok (S1 := S) (x := .scr (ns.map .int)) (y := .int t) rfl rfl ?_) rfl
      show atW (ns.map W.int) t = _
      unfold atW ixW
      rw [if_pos (by omega), if_pos lt]
      show (ns.map W.int)[((t : Int)).toNat]? = _
      rw [Int.toNat_natCast, List.getElem?_map, List.getElem?_eq_getElem l2] <;> rfl
    · refine ⟨9311 * t + (cutW ns none (some 2)).sum % 1000003 + 71, ?_⟩
      show (if decide ((t : Int) < ((ns.map W.int).length : Int)) = true then _ else _) = _
      rw [if_neg (by rw [decide_eq_true_eq]; exact lt)]
      refine mBin_ok (S1 := S) (mBin_ok (S1 := S) (mBin_ok (S1 := S) rfl rfl (opMul_l (by decide))) (mBin_ok (S1 := S) (mBi1_ok (S1 := S) (mBi1_ok (S1 := S) (x := .lst ((cutW ns none (some 2)).map .int)) (z := .int (cutW ns none (some 2)).sum) ?_ ?_) rfl) rfl (opMod_ok (by decide))) rfl) rfl rfl
      · show R.ok (W.lst (cutW (ns.map W.int) none (some 2))) S = _
        rw [cutW_map]
      · show (intsOf ((cutW ns none (some 2)).map W.int)).map (fun ns => W.int ns.sum) = _
        rw [intsOf_map] <;> rfl
  obtain ⟨o, h1⟩ := h1
  rw [sSeq_nx (sSet_ok h1)]
  have h2 : (sSet 3 (mBin opAdd (mC (.int 50021)) (mBin opMul (mC (.int 1013)) (mVar 1)))) ([some (.scr (ns.map .int)), some (.int t), none, none, none].set 2 (some (.int o))) S = .nx [some (.scr (ns.map .int)), some (.int t), some (.int o), some (.int (50021 + 1013 * t)), none] S :=
    sSet_ok (mBin_ok (S1 := S) rfl (mBin_ok (S1 := S) rfl rfl (opMul_l (by decide))) rfl)
  rw [sSeq_nx h2]
  have h3 : ∀ η S, η = [some (.scr (ns.map .int)), some (.int t), some (.int o), some (.int (50021 + 1013 * t)), none] → (miSeq (mBin opAdd (mSl (mVar 0) (moNone) (moSome (mC (.int 5)))) (mLst (maCons (mVar 2) (maNil))))) η S = .ok ((cutW ns none (some 5) ++ [o]).map .int) S := by
    rintro η S rfl
    unfold miSeq
    rw [mBin_ok (S1 := S) (S2 := S) (x := .lst ((cutW ns none (some 5)).map .int)) (y := .lst [.int o]) (z := .lst ((cutW ns none (some 5)).map .int ++ [.int o]))]
    · rw [List.map_append] <;> rfl
    · show R.ok (W.lst (cutW (ns.map W.int) none (some 5))) S = _
      rw [cutW_map]
    · rfl
    · show (if ((cutW ns none (some 5)).map W.int).length + 1 ≤ bigLine then _ else _) = _
      have := cutW_le ns none (some 5)
      rw [if_pos (by rw [List.length_map]; unfold bigLine; omega)]
  have h4 := forL_inv (g := gVar 4) (b := sSet 3 (mBin opMod (mBi baInt (maCons (mBin opAdd (mBin opAdd (mBin opMul (mVar 3) (mC (.int 45013))) (mBin opMod (mBi baInt (maCons (mVar 4) (maNil))) (mC (.int 2147483399)))) (mC (.int 37))) (maNil))) (mC (.int 2147483563))))
    (fun η S' => S' = S ∧ ∃ b : Int, 0 ≤ b ∧ ∃ w, η = [some (.scr (ns.map .int)), some (.int t), some (.int o), some (.int b), w]) ((cutW ns none (some 5) ++ [o]).map .int) (by
      intro x hx η S' hi
      obtain ⟨rfl, b, hb, w, rfl⟩ := hi
      obtain ⟨i, _, rfl⟩ := List.mem_map.mp hx
      exact ⟨_, _, _, _, rfl, sSet_ok (mBin_ok (S1 := S') (mBi1_ok (S1 := S') (mBin_ok (S1 := S') (mBin_ok (S1 := S') (mBin_ok (S1 := S') rfl rfl (opMul_r (by decide))) (mBin_ok (S1 := S') (mBi1_ok (S1 := S') rfl rfl) rfl (opMod_ok (by decide))) rfl) rfl rfl) rfl) rfl (opMod_ok (by decide))), rfl, _, Int.emod_nonneg _ (by decide), _, rfl⟩)
    [some (.scr (ns.map .int)), some (.int t), some (.int o), some (.int (50021 + 1013 * t)), none] S ⟨rfl, _, by omega, _, rfl⟩
  obtain ⟨η', S', h4, rfl, b, hb, w, rfl⟩ := h4
  rw [sSeq_nx ((sFor_ok (h3 _ S' rfl)).trans h4)]
  refine ⟨if o < 0 ∨ 100000000000000000 ≤ o then (if o < 0 then -o else o) else 0, b, ?_, hb, ?_⟩
  · split
    · split <;> omega
    · omega
  · have h5 : (mIf (mTOr (mTCmp opLt (mVar 2) (mC (.int 0))) (mTCmp opGe (mVar 2) (mBin opPow (mC (.int 10)) (mC (.int 17))))) (mBi baAbs (maCons (mVar 2) (maNil))) (mC (.int 0))) [some (.scr (ns.map .int)), some (.int t), some (.int o), some (.int b), w] S' = .ok (.int (if o < 0 ∨ 100000000000000000 ≤ o then (if o < 0 then -o else o) else 0)) S' := by
      by_cases c1 : o < 0
      · rw [if_pos (.inl c1)]
        unfold mIf
        rw [show (mTOr (mTCmp opLt (mVar 2) (mC (.int 0))) (mTCmp opGe (mVar 2) (mBin opPow (mC (.int 10)) (mC (.int 17))))) [some (.scr (ns.map .int)), some (.int t), some (.int o), some (.int b), w] S' = .ok true S' from by
          show (if decide (o < 0) = true then R.ok true S' else _) = _
          rw [if_pos (decide_eq_true c1)]]
        rfl
      · have e : (mTOr (mTCmp opLt (mVar 2) (mC (.int 0))) (mTCmp opGe (mVar 2) (mBin opPow (mC (.int 10)) (mC (.int 17))))) [some (.scr (ns.map .int)), some (.int t), some (.int o), some (.int b), w] S' = .ok (decide (100000000000000000 ≤ o)) S' := by
          show (if decide (o < 0) = true then R.ok true S' else R.ok (decide ((10 : Int) ^ (17 : Nat) ≤ o)) S') = _
          rw [if_neg (by rw [decide_eq_true_eq]; exact c1)] <;> rfl
        unfold mIf
        rw [e]
        by_cases c2 : 100000000000000000 ≤ o
        · rw [if_pos (.inr c2)]
          show (if decide (100000000000000000 ≤ o) = true then _ else _) = _
          rw [if_pos (decide_eq_true c2)] <;> rfl
        · rw [if_neg (by rintro (z | z) <;> contradiction)]
          show (if decide (100000000000000000 ≤ o) = true then _ else _) = _
          rw [if_neg (by rw [decide_eq_true_eq]; exact c2)] <;> rfl
    exact sRet_ok (mLstS_ok (S1 := S') (maCons_ok h5 (maCons_ok (S1 := S') (x := .int b) rfl (maCons_ok (S1 := S') rfl rfl))) rfl (by show 3 ≤ bigLine; decide))
theorem well_callB {T : List Fun} {d k : Nat} {ns : List Int} {t : Nat} {S : Store} (h : T[k]? = some ⟨2, 5, true, false, wellBB⟩) (hl : ns.length ≤ 63) (ht : t ≤ 1000) :
    ∃ a b : Int, 0 ≤ a ∧ 0 ≤ b ∧ fns T (d + 1) k [.scr (ns.map .int), .int t] S = .ok (.ref S.length) (S ++ [.lst [.int a, .int b, .int 0]]) := by
  obtain ⟨a, b, ha, hb, e⟩ := well_okB (φ := fns T d) (S := S) hl ht
  refine ⟨a, b, ha, hb, ?_⟩
  rw [fns_eq h rfl]
  refine (congrArg (finS true S.length) e).trans ?_
  unfold finS fin
  show (if S.length < S.length then _ else (match (S ++ [Cell.lst [.int a, .int b, .int 0]])[S.length]? with
      | some (Cell.lst xs) => if pures xs = true then (if true = true then R.ok (W.ref S.length) ((S ++ [Cell.lst [.int a, .int b, .int 0]]).take S.length ++ [Cell.lst xs]) else .ok (W.lst xs) ((S ++ [Cell.lst [.int a, .int b, .int 0]]).take S.length)) else .stuck
      | _ => .stuck)) = _
  rw [if_neg (Nat.lt_irrefl _), List.getElem?_append_right (Nat.le_refl _), Nat.sub_self]
  show R.ok _ _ = _
  rw [List.take_left']
  rfl
def wellBA (φ : Fns) : MS := sSeq (sSet 2 (mIf (mTCmp opLt (mVar 1) (mBi baLen (maCons (mVar 0) (maNil)))) (mBi baInt (maCons (mBin opIx (mVar 0) (mVar 1)) (maNil))) (mBin opAdd (mBin opAdd (mBin opMul (mC (.int 9311)) (mVar 1)) (mBin opMod (mBi baInt (maCons (mBi baSum (maCons (mSl (mVar 0) (moNone) (moSome (mC (.int 2)))) (maNil))) (maNil))) (mC (.int 1000003)))) (mC (.int 71))))) (sSeq (sSet 3 (mBin opAdd (mC (.int 50021)) (mBin opMul (mC (.int 1013)) (mVar 1)))) (sSeq (sFor (miSeq (mBin opAdd (mSl (mVar 0) (moNone) (moSome (mC (.int 5)))) (mLst (maCons (mVar 2) (maNil))))) (gVar 4) (sSet 3 (mBin opMod (mBi baInt (maCons (mBin opAdd (mBin opAdd (mBin opMul (mVar 3) (mC (.int 45013))) (mBin opMod (mBi baInt (maCons (mVar 4) (maNil))) (mC (.int 2147483399)))) (mC (.int 37))) (maNil))) (mC (.int 2147483563))))) (sRet (mLstS (maCons (mIf (mTOr (mTCmp opLt (mVar 2) (mC (.int 0))) (mTCmp opGe (mVar 2) (mBin opPow (mC (.int 10)) (mC (.int 17))))) (mBin opMod (mBi baInt (maCons (mBi baAbs (maCons (mVar 2) (maNil))) (maNil))) (mBin opPow (mC (.int 10)) (mC (.int 60)))) (mC (.int 0))) (maCons (mVar 3) (maCons (mC (.int 0)) (maNil))))))))
theorem well_okA {φ : Fns} {ns : List Int} {t : Nat} {S : Store} (hl : ns.length ≤ 63) (ht : t ≤ 1000) :
    ∃ a b : Int, 0 ≤ a ∧ 0 ≤ b ∧ wellBA φ [some (.scr (ns.map .int)), some (.int t), none, none, none] S = .ret (.ref S.length) (S ++ [.lst [.int a, .int b, .int 0]]) := by
  unfold wellBA
  have h1 : ∃ o : Int, (mIf (mTCmp opLt (mVar 1) (mBi baLen (maCons (mVar 0) (maNil)))) (mBi baInt (maCons (mBin opIx (mVar 0) (mVar 1)) (maNil))) (mBin opAdd (mBin opAdd (mBin opMul (mC (.int 9311)) (mVar 1)) (mBin opMod (mBi baInt (maCons (mBi baSum (maCons (mSl (mVar 0) (moNone) (moSome (mC (.int 2)))) (maNil))) (maNil))) (mC (.int 1000003)))) (mC (.int 71)))) [some (.scr (ns.map .int)), some (.int t), none, none, none] S = .ok (.int o) S := by
    have hc : (mTCmp opLt (mVar 1) (mBi baLen (maCons (mVar 0) (maNil)))) [some (.scr (ns.map .int)), some (.int t), none, none, none] S = .ok (decide ((t : Int) < ((ns.map W.int).length : Int))) S := rfl
    unfold mIf
    rw [hc]
    by_cases lt : (t : Int) < ((ns.map W.int).length : Int)
    · have l2 : t < ns.length := by rw [List.length_map] at lt; omega
      refine ⟨ns[t], ?_⟩
      show (if decide ((t : Int) < ((ns.map W.int).length : Int)) = true then _ else _) = _
      rw [if_pos (decide_eq_true lt)]
      refine mBi1_ok (x := .int ns[t]) (S1 := S) (mBin_ok (S1 := S) (x := .scr (ns.map .int)) (y := .int t) rfl rfl ?_) rfl
      show atW (ns.map W.int) t = _
      unfold atW ixW
      rw [if_pos (by omega), if_pos lt]
      show (ns.map W.int)[((t : Int)).toNat]? = _
      rw [Int.toNat_natCast, List.getElem?_map, List.getElem?_eq_getElem l2] <;> rfl
    · refine ⟨9311 * t + (cutW ns none (some 2)).sum % 1000003 + 71, ?_⟩
      show (if decide ((t : Int) < ((ns.map W.int).length : Int)) = true then _ else _) = _
      rw [if_neg (by rw [decide_eq_true_eq]; exact lt)]
      refine mBin_ok (S1 := S) (mBin_ok (S1 := S) (mBin_ok (S1 := S) rfl rfl (opMul_l (by decide))) (mBin_ok (S1 := S) (mBi1_ok (S1 := S) (mBi1_ok (S1 := S) (x := .lst ((cutW ns none (some 2)).map .int)) (z := .int (cutW ns none (some 2)).sum) ?_ ?_) rfl) rfl (opMod_ok (by decide))) rfl) rfl rfl
      · show R.ok (W.lst (cutW (ns.map W.int) none (some 2))) S = _
        rw [cutW_map]
      · show (intsOf ((cutW ns none (some 2)).map W.int)).map (fun ns => W.int ns.sum) = _
        rw [intsOf_map] <;> rfl
  obtain ⟨o, h1⟩ := h1
  rw [sSeq_nx (sSet_ok h1)]
  have h2 : (sSet 3 (mBin opAdd (mC (.int 50021)) (mBin opMul (mC (.int 1013)) (mVar 1)))) ([some (.scr (ns.map .int)), some (.int t), none, none, none].set 2 (some (.int o))) S = .nx [some (.scr (ns.map .int)), some (.int t), some (.int o), some (.int (50021 + 1013 * t)), none] S :=
    sSet_ok (mBin_ok (S1 := S) rfl (mBin_ok (S1 := S) rfl rfl (opMul_l (by decide))) rfl)
  rw [sSeq_nx h2]
  have h3 : ∀ η S, η = [some (.scr (ns.map .int)), some (.int t), some (.int o), some (.int (50021 + 1013 * t)), none] → (miSeq (mBin opAdd (mSl (mVar 0) (moNone) (moSome (mC (.int 5)))) (mLst (maCons (mVar 2) (maNil))))) η S = .ok ((cutW ns none (some 5) ++ [o]).map .int) S := by
    rintro η S rfl
    unfold miSeq
    rw [mBin_ok (S1 := S) (S2 := S) (x := .lst ((cutW ns none (some 5)).map .int)) (y := .lst [.int o]) (z := .lst ((cutW ns none (some 5)).map .int ++ [.int o]))]
    · rw [List.map_append] <;> rfl
    · show R.ok (W.lst (cutW (ns.map W.int) none (some 5))) S = _
      rw [cutW_map]
    · rfl
    · show (if ((cutW ns none (some 5)).map W.int).length + 1 ≤ bigLine then _ else _) = _
      have := cutW_le ns none (some 5)
      rw [if_pos (by rw [List.length_map]; unfold bigLine; omega)]
  have h4 := forL_inv (g := gVar 4) (b := sSet 3 (mBin opMod (mBi baInt (maCons (mBin opAdd (mBin opAdd (mBin opMul (mVar 3) (mC (.int 45013))) (mBin opMod (mBi baInt (maCons (mVar 4) (maNil))) (mC (.int 2147483399)))) (mC (.int 37))) (maNil))) (mC (.int 2147483563))))
    (fun η S' => S' = S ∧ ∃ b : Int, 0 ≤ b ∧ ∃ w, η = [some (.scr (ns.map .int)), some (.int t), some (.int o), some (.int b), w]) ((cutW ns none (some 5) ++ [o]).map .int) (by
      intro x hx η S' hi
      obtain ⟨rfl, b, hb, w, rfl⟩ := hi
      obtain ⟨i, _, rfl⟩ := List.mem_map.mp hx
      exact ⟨_, _, _, _, rfl, sSet_ok (mBin_ok (S1 := S') (mBi1_ok (S1 := S') (mBin_ok (S1 := S') (mBin_ok (S1 := S') (mBin_ok (S1 := S') rfl rfl (opMul_r (by decide))) (mBin_ok (S1 := S') (mBi1_ok (S1 := S') rfl rfl) rfl (opMod_ok (by decide))) rfl) rfl rfl) rfl) rfl (opMod_ok (by decide))), rfl, _, Int.emod_nonneg _ (by decide), _, rfl⟩)
    [some (.scr (ns.map .int)), some (.int t), some (.int o), some (.int (50021 + 1013 * t)), none] S ⟨rfl, _, by omega, _, rfl⟩
  obtain ⟨η', S', h4, rfl, b, hb, w, rfl⟩ := h4
  rw [sSeq_nx ((sFor_ok (h3 _ S' rfl)).trans h4)]
  refine ⟨if o < 0 ∨ 100000000000000000 ≤ o then ((if o < 0 then -o else o) % 1000000000000000000000000000000000000000000000000000000000000) else 0, b, ?_, hb, ?_⟩
  · split
    · exact Int.emod_nonneg _ (by decide)
    · omega
  · have h5 : (mIf (mTOr (mTCmp opLt (mVar 2) (mC (.int 0))) (mTCmp opGe (mVar 2) (mBin opPow (mC (.int 10)) (mC (.int 17))))) (mBin opMod (mBi baInt (maCons (mBi baAbs (maCons (mVar 2) (maNil))) (maNil))) (mBin opPow (mC (.int 10)) (mC (.int 60)))) (mC (.int 0))) [some (.scr (ns.map .int)), some (.int t), some (.int o), some (.int b), w] S' = .ok (.int (if o < 0 ∨ 100000000000000000 ≤ o then ((if o < 0 then -o else o) % 1000000000000000000000000000000000000000000000000000000000000) else 0)) S' := by
      by_cases c1 : o < 0
      · rw [if_pos (.inl c1)]
        unfold mIf
        rw [show (mTOr (mTCmp opLt (mVar 2) (mC (.int 0))) (mTCmp opGe (mVar 2) (mBin opPow (mC (.int 10)) (mC (.int 17))))) [some (.scr (ns.map .int)), some (.int t), some (.int o), some (.int b), w] S' = .ok true S' from by
          show (if decide (o < 0) = true then R.ok true S' else _) = _
          rw [if_pos (decide_eq_true c1)]]
        rfl
      · have e : (mTOr (mTCmp opLt (mVar 2) (mC (.int 0))) (mTCmp opGe (mVar 2) (mBin opPow (mC (.int 10)) (mC (.int 17))))) [some (.scr (ns.map .int)), some (.int t), some (.int o), some (.int b), w] S' = .ok (decide (100000000000000000 ≤ o)) S' := by
          show (if decide (o < 0) = true then R.ok true S' else R.ok (decide ((10 : Int) ^ (17 : Nat) ≤ o)) S') = _
          rw [if_neg (by rw [decide_eq_true_eq]; exact c1)] <;> rfl
        unfold mIf
        rw [e]
        by_cases c2 : 100000000000000000 ≤ o
        · rw [if_pos (.inr c2)]
          show (if decide (100000000000000000 ≤ o) = true then _ else _) = _
          rw [if_pos (decide_eq_true c2)] <;> rfl
        · rw [if_neg (by rintro (z | z) <;> contradiction)]
          show (if decide (100000000000000000 ≤ o) = true then _ else _) = _
          rw [if_neg (by rw [decide_eq_true_eq]; exact c2)] <;> rfl
    exact sRet_ok (mLstS_ok (S1 := S') (maCons_ok h5 (maCons_ok (S1 := S') (x := .int b) rfl (maCons_ok (S1 := S') rfl rfl))) rfl (by show 3 ≤ bigLine; decide))
theorem well_callA {T : List Fun} {d k : Nat} {ns : List Int} {t : Nat} {S : Store} (h : T[k]? = some ⟨2, 5, true, false, wellBA⟩) (hl : ns.length ≤ 63) (ht : t ≤ 1000) :
    ∃ a b : Int, 0 ≤ a ∧ 0 ≤ b ∧ fns T (d + 1) k [.scr (ns.map .int), .int t] S = .ok (.ref S.length) (S ++ [.lst [.int a, .int b, .int 0]]) := by
  obtain ⟨a, b, ha, hb, e⟩ := well_okA (φ := fns T d) (S := S) hl ht
  refine ⟨a, b, ha, hb, ?_⟩
  rw [fns_eq h rfl]
  refine (congrArg (finS true S.length) e).trans ?_
  unfold finS fin
  show (if S.length < S.length then _ else (match (S ++ [Cell.lst [.int a, .int b, .int 0]])[S.length]? with
      | some (Cell.lst xs) => if pures xs = true then (if true = true then R.ok (W.ref S.length) ((S ++ [Cell.lst [.int a, .int b, .int 0]]).take S.length ++ [Cell.lst xs]) else .ok (W.lst xs) ((S ++ [Cell.lst [.int a, .int b, .int 0]]).take S.length)) else .stuck
      | _ => .stuck)) = _
  rw [if_neg (Nat.lt_irrefl _), List.getElem?_append_right (Nat.le_refl _), Nat.sub_self]
  show R.ok _ _ = _
  rw [List.take_left']
  rfl
end Mp
namespace Mp
open PySem PySem.Spec PyProof.Rows L2
/-- == where both may be {} -/
def opEqE : O2 := fun x y S => match x, y with
  | .dct [.bl false] [], .dct [.bl false] [] => some (.bl true)
  | x, y => opEq x y S
theorem o2_eqE {X : Cx} {G : Gs} (hu : X.A.units + 65 < cLine) : OpR X (compareOp .Eq) (rOf X.K G opEqE) := by
  intro pins s σ H x y v u Q I rx ry h
  obtain ⟨wx, wy, S, γ, w, r1, r2, ss, e, k⟩ := h
  unfold opEqE at e
  split at e
  · cases e
    cases r1 with
    | dct d1 f1 q1 =>
    cases r2 with
    | dct d2 f2 q2 =>
    obtain ⟨kvs1, h1, e1, e1'⟩ := dct_k d1
    obtain ⟨kvs2, h2, e2, e2'⟩ := dct_k d2
    have z1 : kvs1 = [] := List.map_eq_nil_iff.mp e1.symm
    have z2 : kvs2 = [] := List.map_eq_nil_iff.mp e2.symm
    subst z1 z2
    exact op_eq_dict (by omega) pins s σ H _ _ v u Q I rx ry ⟨_, _, [], rfl, rfl, h1, h2, List.nodup_nil, fun p hp => absurd hp (List.not_mem_nil), k _ γ H Ext.refl (.bl _) ss⟩
  · exact o2_eq (by omega) pins s σ H x y v u Q I rx ry ⟨wx, wy, S, γ, w, r1, r2, ss, e, k⟩
end Mp

set_option Elab.async false
set_option linter.all false
set_option maxRecDepth 100000
set_option maxHeartbeats 4000000
namespace Lw
open Mp
/-! the functions -/
def b_is_whole (φ : Fns) : MS := sRet (mAnd (mUn (opIsi 2) (mVar 0)) (mNot (mUn (opIsi 1) (mVar 0))))
def b_is_between (φ : Fns) : MS := sRet (mAnd (mCall φ 0 (maCons (mVar 0) (maNil))) (mChain opLe2 opLe2 (mVar 1) (mVar 0) (mVar 2)))
def b_is_tuple_of (φ : Fns) : MS := sRet (mAnd (mUn (opIsi 4) (mVar 0)) (mBin opEq (mBi baLen (maCons (mVar 0) (maNil))) (mVar 1)))
def b_is_text_of (φ : Fns) : MS := sRet (mAnd (mUn (opIsi 3) (mVar 0)) (mBi baAll (maCons (mComp (miSeq (mVar 0)) [2] (gVar 2) (mtYes) (mBin opInD (mVar 2) (mVar 1))) (maNil))))
def b_is_mark_number (φ : Fns) : MS := sRet (mCall φ 1 (maCons (mVar 0) (maCons (mC (.int 1)) (maCons (mC (.int 4)) (maNil)))))
def b_is_card_of (φ : Fns) : MS := sRet (mAnd (mCall φ 3 (maCons (mVar 1) (maCons (mC (.str [48, 49, 50])) (maNil)))) (mBin opEq (mBi baLen (maCons (mVar 1) (maNil))) (mVar 0)))
def b_check_marks (φ : Fns) : MS := sIf (mTNot (mTru (mCall φ 4 (maCons (mVar 0) (maNil))))) (sStuck) (sNx)
def b_are_rows (φ : Fns) : MS := sSeq (sIf (mTOr (mTNot (mTru (mCall φ 2 (maCons (mVar 1) (maCons (mVar 0) (maNil)))))) (mTNot (mTru (mBi baAll (maCons (mComp (miSeq (mVar 1)) [2] (gVar 2) (mtYes) (mCall φ 2 (maCons (mVar 2) (maCons (mVar 0) (maNil))))) (maNil)))))) (sRet (mC (.bl false))) (sNx)) (sRet (mBi baAll (maCons (mComp2 (miSeq (mVar 1)) [2, 3] (gVar 2) (mtYes) (miSeq (mVar 2)) [3] (gVar 3) (mtYes) (mCall φ 1 (maCons (mVar 3) (maCons (mC (.int 0)) (maCons (mBin opSub (mBi baLen (maCons (mC (.str [48, 49, 50])) (maNil))) (mC (.int 1))) (maNil)))))) (maNil))))
def b_plain_rows (φ : Fns) : MS := sRet (mBi baTuple (maCons (mComp (miRng rng1 (maCons (mVar 0) (maNil))) [1] (gVar 1) (mtYes) (mBi baTuple (maCons (mComp (miRng rng1 (maCons (mVar 0) (maNil))) [2] (gVar 2) (mtYes) (mIf (mTCmp opEq (mVar 2) (mVar 1)) (mC (.int 1)) (mC (.int 0)))) (maNil)))) (maNil)))
def b_cleared (φ : Fns) : MS := sSeq (sSet 3 (mListSt (maCons (mVar 0) (maNil)))) (sSeq (sAsg (mTup (maCons (mBin opIx (mVar 3) (mVar 2)) (maCons (mBin opIx (mVar 3) (mVar 1)) (maNil)))) (gTupW (gsCons (gIdx (mVar 3) (mVar 1)) (gsCons (gIdx (mVar 3) (mVar 2)) (gsNil))))) (sSeq (sSet 4 (mComp (miSeq (mBin opIx (mVar 3) (mVar 1))) [5] (gVar 5) (mtYes) (mBin opMod (mBin opMul (mBin opIx (mBin opIx (mVar 3) (mVar 1)) (mVar 1)) (mVar 5)) (mBi baLen (maCons (mC (.str [48, 49, 50])) (maNil)))))) (sRet (mCompE false (maCons (mVar 3) (maNil)) [6, 7] (gTupW (gsCons (gVar 6) (gsCons (gVar 7) (gsNil)))) (mtYes) (mIf (mTCmp opEq (mVar 6) (mVar 1)) (mVar 4) (mCall φ 10 (maCons (mVar 7) (maCons (mVar 4) (maCons (mBin opIx (mVar 7) (mVar 1)) (maNil))))))))))
def b_lessened (φ : Fns) : MS := sRet (mComp (miAll zipG2 (maCons (mVar 0) (maCons (mVar 1) (maNil)))) [3, 4] (gTupW (gsCons (gVar 3) (gsCons (gVar 4) (gsNil)))) (mtYes) (mBin opMod (mBin opSub (mVar 3) (mBin opMul (mVar 2) (mVar 4))) (mBi baLen (maCons (mC (.str [48, 49, 50])) (maNil)))))
def p_rows_back_3b (φ : Fns) : MS := sSeq (sSet 4 (mComp (miRng rng2 (maCons (mVar 3) (maCons (mVar 1) (maNil)))) [7] (gVar 7) (mTCmp opNe (mBin opIx (mBin opIx (mVar 2) (mVar 7)) (mVar 3)) (mC (.int 0))) (mVar 7))) (sSeq (sIf (mTCmp opEq (mVar 4) (mLst (maNil))) (sRet (mC .non)) (sNx)) (sSet 2 (mCall φ 9 (maCons (mVar 2) (maCons (mVar 3) (maCons (mBin opIx (mVar 4) (mC (.int 0))) (maNil)))))))
def p_rows_back_3 (φ : Fns) : MS := sFor (miRng rng1 (maCons (mVar 1) (maNil))) (gVar 3) (p_rows_back_3b φ)
def b_rows_back (φ : Fns) : MS := sSeq (sSet 1 (mBi baLen (maCons (mVar 0) (maNil)))) (sSeq (sSet 2 (mComp (miAll zipG2 (maCons (mVar 0) (maCons (mCall φ 8 (maCons (mVar 1) (maNil))) (maNil)))) [5, 6] (gTupW (gsCons (gVar 5) (gsCons (gVar 6) (gsNil)))) (mtYes) (mLst (maStar (mVar 5) (maStar (mVar 6) (maNil)))))) (sSeq (p_rows_back_3 φ) (sRet (mBi baTuple (maCons (mComp (miSeq (mVar 2)) [5] (gVar 5) (mtYes) (mBi baTuple (maCons (mSl (mVar 5) (moSome (mVar 1)) (moNone)) (maNil)))) (maNil))))))
def b_is_motion_of (φ : Fns) : MS := sSeq (sIf (mTOr (mTNot (mTru (mCall φ 2 (maCons (mVar 1) (maCons (mC (.int 2)) (maNil)))))) (mTOr (mTNot (mTru (mCall φ 7 (maCons (mVar 0) (maCons (mBin opIx (mVar 1) (mC (.int 0))) (maNil)))))) (mTNot (mTru (mCall φ 5 (maCons (mVar 0) (maCons (mBin opIx (mVar 1) (mC (.int 1))) (maNil)))))))) (sRet (mC (.bl false))) (sNx)) (sRet (mUn opNotN (mCall φ 11 (maCons (mBin opIx (mVar 1) (mC (.int 0))) (maNil)))))
def b_is_motion (φ : Fns) : MS := sSeq (sDrop (mCall φ 6 (maCons (mVar 0) (maNil)))) (sRet (mCall φ 12 (maCons (mVar 0) (maCons (mVar 1) (maNil)))))
def p_law_well_3b (φ : Fns) : MS := sSet 3 (mBin opMod (mBi baInt (maCons (mBin opAdd (mBin opAdd (mBin opMul (mVar 3) (mC (.int 45013))) (mBin opMod (mBi baInt (maCons (mVar 4) (maNil))) (mC (.int 2147483399)))) (mC (.int 37))) (maNil))) (mC (.int 2147483563)))
def p_law_well_3 (φ : Fns) : MS := sFor (miSeq (mBin opAdd (mSl (mVar 0) (moNone) (moSome (mC (.int 5)))) (mLst (maCons (mVar 2) (maNil))))) (gVar 4) (p_law_well_3b φ)
def b_law_well (φ : Fns) : MS := sSeq (sSet 2 (mIf (mTCmp opLt (mVar 1) (mBi baLen (maCons (mVar 0) (maNil)))) (mBi baInt (maCons (mBin opIx (mVar 0) (mVar 1)) (maNil))) (mBin opAdd (mBin opAdd (mBin opMul (mC (.int 9311)) (mVar 1)) (mBin opMod (mBi baInt (maCons (mBi baSum (maCons (mSl (mVar 0) (moNone) (moSome (mC (.int 2)))) (maNil))) (maNil))) (mC (.int 1000003)))) (mC (.int 71))))) (sSeq (sSet 3 (mBin opAdd (mC (.int 50021)) (mBin opMul (mC (.int 1013)) (mVar 1)))) (sSeq (p_law_well_3 φ) (sRet (mLstS (maCons (mIf (mTOr (mTCmp opLt (mVar 2) (mC (.int 0))) (mTCmp opGe (mVar 2) (mBin opPow (mC (.int 10)) (mC (.int 17))))) (mBi baAbs (maCons (mVar 2) (maNil))) (mC (.int 0))) (maCons (mVar 3) (maCons (mC (.int 0)) (maNil))))))))
def b_law_take (φ : Fns) : MS := sSeq (sIf (mTCmp opGt (mBin opIx (mVar 0) (mC (.int 0))) (mC (.int 0))) (sSeq (sAsg (mBi baDivmod (maCons (mBin opIx (mVar 0) (mC (.int 0))) (maCons (mVar 1) (maNil)))) (gTupW (gsCons (gIdx (mVar 0) (mC (.int 0))) (gsCons (gVar 2) (gsNil))))) (sRet (mVar 2))) (sNx)) (sSeq (sAsg (mBin opAdd (mBin opIx (mVar 0) (mC (.int 2))) (mC (.int 1))) (gIdx (mVar 0) (mC (.int 2)))) (sSeq (sSet 3 (mBin opAdd (mBin opMod (mBi baInt (maCons (mBin opIx (mVar 0) (mC (.int 1))) (maNil))) (mC (.int 28657))) (mC (.int 40009)))) (sSeq (sAsg (mBin opMod (mBi baInt (maCons (mBin opAdd (mBin opAdd (mBin opMul (mBin opIx (mVar 0) (mC (.int 1))) (mVar 3)) (mBin opMul (mC (.int 50023)) (mBin opIx (mVar 0) (mC (.int 2))))) (mC (.int 17))) (maNil))) (mC (.int 2147483563))) (gIdx (mVar 0) (mC (.int 1)))) (sRet (mBin opMod (mBi baInt (maCons (mBin opDiv (mBin opIx (mVar 0) (mC (.int 1))) (mC (.int 83))) (maNil))) (mVar 1))))))
def b_law_pick (φ : Fns) : MS := sRet (mBin opIx (mVar 1) (mCall φ 15 (maCons (mVar 0) (maCons (mBi baLen (maCons (mVar 1) (maNil))) (maNil)))))
def b_law_same (φ : Fns) : MS := sSeq (sIf (mTru (mUn (opIsi 4) (mVar 1))) (sSeq (sIf (mTOr (mTNot (mTru (mUn (opIsi 4) (mVar 0)))) (mTCmp opNe (mBi baLen (maCons (mVar 0) (maNil))) (mBi baLen (maCons (mVar 1) (maNil))))) (sRet (mC (.bl false))) (sNx)) (sRet (mBi baAll (maCons (mComp (miRng rng1 (maCons (mBi baLen (maCons (mVar 1) (maNil))) (maNil))) [2] (gVar 2) (mtYes) (mCall φ 17 (maCons (mBin opIx (mVar 0) (mVar 2)) (maCons (mBin opIx (mVar 1) (mVar 2)) (maNil))))) (maNil))))) (sNx)) (sSeq (sIf (mTOr (mTUn opIsN (mVar 1)) (mTOr (mTCmp opIsB (mVar 1) (mC (.bl true))) (mTCmp opIsB (mVar 1) (mC (.bl false))))) (sRet (mOr (mAnd (mUn opIsN (mVar 1)) (mUn opIsN (mVar 0))) (mOr (mAnd (mBin opIsB (mVar 1) (mC (.bl true))) (mBin opIsB (mVar 0) (mC (.bl true)))) (mAnd (mBin opIsB (mVar 1) (mC (.bl false))) (mBin opIsB (mVar 0) (mC (.bl false))))))) (sNx)) (sSeq (sIf (mTru (mUn (opIsi 2) (mVar 1))) (sRet (mAnd (mUn (opIsi 2) (mVar 0)) (mAnd (mNot (mUn (opIsi 1) (mVar 0))) (mBin opEq (mVar 0) (mVar 1))))) (sNx)) (sRet (mAnd (mUn (opIsi 3) (mVar 0)) (mBin opEq (mVar 0) (mVar 1))))))
def p_law_deck_2b2b (φ : Fns) : MS := sDrop (mMeth 5 omExtend (mVar 3) (maCons (mComp (miSeq (mC (.str [48, 49, 50]))) [5] (gVar 5) (mtYes) (mBin opAdd (mVar 4) (mVar 5))) (maNil)))
def p_law_deck_2b2 (φ : Fns) : MS := sForD (mVar 1) (gVar 4) (p_law_deck_2b2b φ)
def p_law_deck_2b (φ : Fns) : MS := sSeq (sSet 3 (mLstS (maNil))) (sSeq (p_law_deck_2b2 φ) (sSet 1 (mVar 3)))
def p_law_deck_2 (φ : Fns) : MS := sFor (miRng rng1 (maCons (mVar 0) (maNil))) (gVar 2) (p_law_deck_2b φ)
def b_law_deck (φ : Fns) : MS := sSeq (sSet 1 (mLst (maCons (mC (.str [])) (maNil)))) (sSeq (p_law_deck_2 φ) (sRet (mVar 1)))
def b_law_card (φ : Fns) : MS := sRet (mJoin (mC (.str [])) (mComp (miRng rng1 (maCons (mVar 1) (maNil))) [2] (gVar 2) (mtYes) (mBin opIx (mC (.str [48, 49, 50])) (mCall φ 15 (maCons (mVar 0) (maCons (mC (.int 3)) (maNil)))))))
def p_law_led_2b (φ : Fns) : MS := sSet 2 (mBin opAdd (mVar 2) (mBi baStr (maCons (mBin opMod (mBi baInt (maCons (mBin opAdd (mBi baSumT (maCons (mComp (miAll zipG2 (maCons (mVar 3) (maCons (mVar 1) (maNil)))) [5, 6] (gTupW (gsCons (gVar 5) (gsCons (gVar 6) (gsNil)))) (mtYes) (mBin opMul (mVar 5) (mBi baInt (maCons (mVar 6) (maNil))))) (maNil))) (mBi baInt (maCons (mVar 4) (maNil)))) (maNil))) (mC (.int 3))) (maNil))))
def p_law_led_2 (φ : Fns) : MS := sFor (miAll zipG2 (maCons (mBin opIx (mVar 0) (mC (.int 0))) (maCons (mBin opIx (mVar 0) (mC (.int 1))) (maNil)))) (gTupW (gsCons (gVar 3) (gsCons (gVar 4) (gsNil)))) (p_law_led_2b φ)
def b_law_led (φ : Fns) : MS := sSeq (sSet 2 (mC (.str []))) (sSeq (p_law_led_2 φ) (sRet (mVar 2)))
def p_law_motion_2b (φ : Fns) : MS := sSeq (sPar 4 5 (maCons (mCall φ 15 (maCons (mVar 0) (maCons (mVar 1) (maNil)))) (maCons (mCall φ 15 (maCons (mVar 0) (maCons (mVar 1) (maNil)))) (maNil)))) (sIf (mTCmp opEq (mVar 4) (mVar 5)) (sAsg (mComp (miSeq (mBin opIx (mVar 2) (mVar 4))) [9] (gVar 9) (mtYes) (mBin opMod (mBi baInt (maCons (mBin opMul (mC (.int 2)) (mVar 9)) (maNil))) (mC (.int 3)))) (gIdx (mVar 2) (mVar 4))) (sAsg (mComp (miAll zipG2 (maCons (mBin opIx (mVar 2) (mVar 4)) (maCons (mBin opIx (mVar 2) (mVar 5)) (maNil)))) [10, 11] (gTupW (gsCons (gVar 10) (gsCons (gVar 11) (gsNil)))) (mtYes) (mBin opMod (mBi baInt (maCons (mBin opAdd (mVar 10) (mVar 11)) (maNil))) (mC (.int 3)))) (gIdx (mVar 2) (mVar 4))))
def p_law_motion_2 (φ : Fns) : MS := sFor (miRng rng1 (maCons (mCall φ 15 (maCons (mVar 0) (maCons (mC (.int 9)) (maNil)))) (maNil))) (gVar 3) (p_law_motion_2b φ)
def p_law_motion_4b (φ : Fns) : MS := sDrop (mMeth 5 omAppend (mVar 6) (maCons (mBi baTuple (maCons (mMeth 5 omPopAt (mVar 2) (maCons (mCall φ 15 (maCons (mVar 0) (maCons (mBi baLen (maCons (mVar 2) (maNil))) (maNil)))) (maNil))) (maNil))) (maNil)))
def p_law_motion_4 (φ : Fns) : MS := sWhile 100000 (mTCmp opNe (mVar 2) (mLst (maNil))) (p_law_motion_4b φ)
def b_law_motion (φ : Fns) : MS := sSeq (sSet 2 (mCompS (miRng rng1 (maCons (mVar 1) (maNil))) [7] (gVar 7) (mtYes) (mComp (miRng rng1 (maCons (mVar 1) (maNil))) [8] (gVar 8) (mtYes) (mBi baInt (maCons (mBin opEq (mVar 7) (mVar 8)) (maNil)))))) (sSeq (p_law_motion_2 φ) (sSeq (sSet 6 (mLstS (maNil))) (sSeq (p_law_motion_4 φ) (sRet (mTup (maCons (mBi baTuple (maCons (mVar 6) (maNil))) (maCons (mCall φ 19 (maCons (mVar 0) (maCons (mVar 1) (maNil)))) (maNil))))))))
def p_law_is_one_2b (φ : Fns) : MS := sIf (mTOr (mTNot (mTru (mUn (opIsi 4) (mVar 2)))) (mTOr (mTCmp opNe (mBi baLen (maCons (mVar 2) (maNil))) (mVar 0)) (mTNot (mTru (mBi baAll (maCons (mComp (miSeq (mVar 2)) [3] (gVar 3) (mtYes) (mAnd (mUn (opIsi 2) (mVar 3)) (mAnd (mNot (mUn (opIsi 1) (mVar 3))) (mChain opLe2 opLe2 (mC (.int 0)) (mVar 3) (mC (.int 2)))))) (maNil))))))) (sRet (mC (.bl false))) (sNx)
def p_law_is_one_2 (φ : Fns) : MS := sFor (miSeq (mBin opIx (mVar 1) (mC (.int 0)))) (gVar 2) (p_law_is_one_2b φ)
def b_law_is_one (φ : Fns) : MS := sSeq (sIf (mTOr (mTNot (mTru (mUn (opIsi 4) (mVar 1)))) (mTOr (mTCmp opNe (mBi baLen (maCons (mVar 1) (maNil))) (mC (.int 2))) (mTOr (mTNot (mTru (mUn (opIsi 4) (mBin opIx (mVar 1) (mC (.int 0)))))) (mTCmp opNe (mBi baLen (maCons (mBin opIx (mVar 1) (mC (.int 0))) (maNil))) (mVar 0))))) (sRet (mC (.bl false))) (sNx)) (sSeq (p_law_is_one_2 φ) (sSeq (sIf (mTOr (mTNot (mTru (mUn (opIsi 3) (mBin opIx (mVar 1) (mC (.int 1)))))) (mTOr (mTCmp opNe (mBi baLen (maCons (mBin opIx (mVar 1) (mC (.int 1))) (maNil))) (mVar 0)) (mTNot (mTru (mBi baAll (maCons (mComp (miSeq (mBin opIx (mVar 1) (mC (.int 1)))) [4] (gVar 4) (mtYes) (mBin opIn (mVar 4) (mLst (maCons (mC (.str [48])) (maCons (mC (.str [49])) (maCons (mC (.str [50])) (maNil))))))) (maNil))))))) (sRet (mC (.bl false))) (sNx)) (sRet (mBin opEq (mSet lenSetR (mComp (miSeq (mCall φ 18 (maCons (mVar 0) (maNil)))) [5] (gVar 5) (mtYes) (mCall φ 20 (maCons (mVar 1) (maCons (mVar 5) (maNil)))))) (mBi baLen (maCons (mCall φ 18 (maCons (mVar 0) (maNil))) (maNil)))))))
def b_law_asked (φ : Fns) : MS := sSeq (sSet 2 (mCall φ 22 (maCons (mVar 0) (maCons (mVar 1) (maNil))))) (sRet (mCall φ 17 (maCons (mTup (maCons (mCall φ 13 (maCons (mVar 0) (maCons (mVar 1) (maNil)))) (maCons (mCallK φ 13 [1, 0] (maCons (mVar 1) (maCons (mVar 0) (maNil)))) (maNil)))) (maCons (mTup (maCons (mVar 2) (maCons (mVar 2) (maNil)))) (maNil)))))
def b_law_bent (φ : Fns) : MS := sSeq (sPar 2 3 (maCons (mBin opIx (mVar 1) (mC (.int 0))) (maCons (mCall φ 15 (maCons (mVar 0) (maCons (mBi baLen (maCons (mBin opIx (mVar 1) (mC (.int 0))) (maNil))) (maNil)))) (maNil)))) (sSeq (sPar 4 5 (maCons (mCall φ 15 (maCons (mVar 0) (maCons (mBi baLen (maCons (mVar 2) (maNil))) (maNil)))) (maCons (mCall φ 16 (maCons (mVar 0) (maCons (mLst (maCons (mC (.int 0)) (maCons (mC (.int 1)) (maCons (mC (.int 2)) (maCons (mC (.int 3)) (maCons (mUn opNeg (mC (.int 1))) (maCons (mC (.bl true)) (maCons (mC (.bl false)) (maCons (mC .non) (maCons (mC (.str [49])) (maCons (mTup (maCons (mC (.int 1)) (maNil))) (maNil)))))))))))) (maNil)))) (maNil)))) (sSeq (sSet 6 (mBin opAdd (mBin opAdd (mSl (mBin opIx (mVar 2) (mVar 3)) (moNone) (moSome (mVar 4))) (mTup (maCons (mVar 5) (maNil)))) (mSl (mBin opIx (mVar 2) (mVar 3)) (moSome (mBin opAdd (mVar 4) (mC (.int 1)))) (moNone)))) (sSeq (sSet 7 (mCall φ 16 (maCons (mVar 0) (maCons (mLst (maCons (mVar 6) (maCons (mVar 6) (maCons (mBi baListG (maCons (mBin opIx (mVar 2) (mVar 3)) (maNil))) (maCons (mSl (mBin opIx (mVar 2) (mVar 3)) (moNone) (moSome (mUn opNeg (mC (.int 1))))) (maCons (mBin opAdd (mBin opIx (mVar 2) (mVar 3)) (mTup (maCons (mC (.int 0)) (maNil)))) (maCons (mC .non) (maCons (mBin opIx (mVar 2) (mC (.int 0))) (maNil))))))))) (maNil))))) (sSeq (sSet 8 (mCall φ 16 (maCons (mVar 0) (maCons (mLst (maCons (mBin opAdd (mBin opIx (mVar 1) (mC (.int 1))) (mC (.str [48]))) (maCons (mSl (mBin opIx (mVar 1) (mC (.int 1))) (moNone) (moSome (mUn opNeg (mC (.int 1))))) (maCons (mBin opAdd (mSl (mBin opIx (mVar 1) (mC (.int 1))) (moNone) (moSome (mUn opNeg (mC (.int 1))))) (mC (.str [51]))) (maCons (mC .non) (maCons (mBi baListG (maCons (mBin opIx (mVar 1) (mC (.int 1))) (maNil))) (maCons (mC (.int 0)) (maCons (mC (.str [])) (maNil))))))))) (maNil))))) (sSeq (sSet 9 (mLst (maCons (mTup (maCons (mBin opAdd (mBin opAdd (mSl (mVar 2) (moNone) (moSome (mVar 3))) (mTup (maCons (mVar 7) (maNil)))) (mSl (mVar 2) (moSome (mBin opAdd (mVar 3) (mC (.int 1)))) (moNone))) (maCons (mBin opIx (mVar 1) (mC (.int 1))) (maNil)))) (maCons (mTup (maCons (mBin opAdd (mBin opAdd (mSl (mVar 2) (moNone) (moSome (mVar 3))) (mTup (maCons (mVar 7) (maNil)))) (mSl (mVar 2) (moSome (mBin opAdd (mVar 3) (mC (.int 1)))) (moNone))) (maCons (mBin opIx (mVar 1) (mC (.int 1))) (maNil)))) (maCons (mTup (maCons (mVar 2) (maCons (mVar 8) (maNil)))) (maCons (mTup (maCons (mRev (mVar 2)) (maCons (mBin opIx (mVar 1) (mC (.int 1))) (maNil)))) (maNil))))))) (sRet (mCall φ 16 (maCons (mVar 0) (maCons (mBin opAdd (mVar 9) (mLst (maCons (mTup (maCons (mBi baListG (maCons (mVar 2) (maNil))) (maCons (mBin opIx (mVar 1) (mC (.int 1))) (maNil)))) (maCons (mLst (maCons (mVar 2) (maCons (mBin opIx (mVar 1) (mC (.int 1))) (maNil)))) (maCons (mTup (maCons (mVar 2) (maNil))) (maCons (mBin opAdd (mVar 1) (mTup (maCons (mC (.str [48])) (maNil)))) (maCons (mVar 2) (maCons (mBin opIx (mVar 1) (mC (.int 1))) (maCons (mC .non) (maCons (mTup (maNil)) (maCons (mDct0) (maCons (mC (.int 0)) (maCons (mTup (maCons (mBin opAdd (mVar 2) (mSl (mVar 2) (moNone) (moSome (mC (.int 1))))) (maCons (mBin opIx (mVar 1) (mC (.int 1))) (maNil)))) (maNil)))))))))))))) (maNil))))))))))
def p_law_round_1b (φ : Fns) : MS := sSeq (sSet 2 (mBin opAdd (mC (.int 1)) (mCall φ 15 (maCons (mVar 0) (maCons (mC (.int 4)) (maNil)))))) (sSeq (sSet 3 (mCall φ 21 (maCons (mVar 0) (maCons (mVar 2) (maNil))))) (sSeq (sSet 4 (mTup (maCons (mBi baTuple (maCons (mComp (miRng rng1 (maCons (mVar 2) (maNil))) [6] (gVar 6) (mtYes) (mBi baTuple (maCons (mComp (miRng rng1 (maCons (mVar 2) (maNil))) [7] (gVar 7) (mtYes) (mCall φ 15 (maCons (mVar 0) (maCons (mC (.int 3)) (maNil))))) (maNil)))) (maNil))) (maCons (mCall φ 19 (maCons (mVar 0) (maCons (mVar 2) (maNil)))) (maNil))))) (sSeq (sIf (mTOr (mTNot (mTru (mCall φ 23 (maCons (mVar 2) (maCons (mVar 3) (maNil)))))) (mTOr (mTNot (mTru (mCall φ 23 (maCons (mVar 2) (maCons (mVar 4) (maNil)))))) (mTNot (mTru (mBi baAll (maCons (mComp (miRng rng1 (maCons (mC (.int 3)) (maNil))) [8] (gVar 8) (mtYes) (mCall φ 23 (maCons (mVar 2) (maCons (mCall φ 24 (maCons (mVar 0) (maCons (mVar 3) (maNil)))) (maNil))))) (maNil))))))) (sRet (mC (.bl false))) (sNx)) (sSeq (sSet 5 (mBin opAdd (mC (.int 1)) (mCall φ 15 (maCons (mVar 0) (maCons (mC (.int 4)) (maNil)))))) (sIf (mTNot (mTru (mCall φ 23 (maCons (mVar 5) (maCons (mVar 3) (maNil)))))) (sRet (mC (.bl false))) (sNx))))))
def p_law_round_1 (φ : Fns) : MS := sFor (miRng rng1 (maCons (mC (.int 14)) (maNil))) (gVar 1) (p_law_round_1b φ)
def b_law_round (φ : Fns) : MS := sSeq (p_law_round_1 φ) (sRet (mAnd (mCall φ 23 (maCons (mC (.int 1)) (maCons (mTup (maCons (mTup (maCons (mTup (maCons (mC (.int 1)) (maNil))) (maNil))) (maCons (mC (.str [50])) (maNil)))) (maNil)))) (mCall φ 23 (maCons (mC (.int 1)) (maCons (mTup (maCons (mTup (maCons (mTup (maCons (mC (.int 0)) (maNil))) (maNil))) (maCons (mC (.str [50])) (maNil)))) (maNil))))))
def b_law (φ : Fns) : MS := sRet (mBi baAll (maCons (mComp (miRng rng1 (maCons (mBi baMax2 (maCons (mC (.int 2)) (maCons (mBi baMin2 (maCons (mBi baLen (maCons (mVar 0) (maNil))) (maCons (mC (.int 3)) (maNil)))) (maNil)))) (maNil))) [1] (gVar 1) (mtYes) (mCall φ 25 (maCons (mCall φ 14 (maCons (mVar 0) (maCons (mVar 1) (maNil)))) (maNil)))) (maNil)))
def T : List Mp.Fun := [⟨1, 1, false, true, b_is_whole⟩, ⟨3, 3, false, true, b_is_between⟩, ⟨2, 2, false, true, b_is_tuple_of⟩, ⟨2, 3, false, true, b_is_text_of⟩, ⟨1, 1, false, true, b_is_mark_number⟩, ⟨2, 2, false, true, b_is_card_of⟩, ⟨1, 1, false, true, b_check_marks⟩, ⟨2, 4, false, true, b_are_rows⟩, ⟨1, 3, false, true, b_plain_rows⟩, ⟨3, 8, false, true, b_cleared⟩, ⟨3, 5, false, true, b_lessened⟩, ⟨1, 8, false, true, b_rows_back⟩, ⟨2, 2, false, true, b_is_motion_of⟩, ⟨2, 2, false, true, b_is_motion⟩, ⟨2, 5, true, false, b_law_well⟩, ⟨2, 4, false, false, b_law_take⟩, ⟨2, 2, false, false, b_law_pick⟩, ⟨2, 3, false, true, b_law_same⟩, ⟨1, 6, false, true, b_law_deck⟩, ⟨2, 3, false, false, b_law_card⟩, ⟨2, 7, false, true, b_law_led⟩, ⟨2, 12, false, false, b_law_motion⟩, ⟨2, 6, false, true, b_law_is_one⟩, ⟨2, 3, false, true, b_law_asked⟩, ⟨2, 10, false, false, b_law_bent⟩, ⟨1, 9, false, false, b_law_round⟩, ⟨1, 2, false, true, b_law⟩]
end Lw
namespace Lw
open PySem PySem.Spec PyProof.Rows L2 Mp
def top (i : Nat) : Stmt := PySem.Challenge.pw_threealike_k20_whole_motions_of_anything.main.body.getD i (.Pass ⟨0, 0, 0, 0⟩)
def r_is_whole : FnR := ⟨"is_whole", ["value"], top 1⟩
def r_is_between : FnR := ⟨"is_between", ["value", "low", "high"], top 2⟩
def r_is_tuple_of : FnR := ⟨"is_tuple_of", ["value", "many"], top 3⟩
def r_is_text_of : FnR := ⟨"is_text_of", ["value", "signs"], top 4⟩
def r_is_mark_number : FnR := ⟨"is_mark_number", ["value"], top 8⟩
def r_is_card_of : FnR := ⟨"is_card_of", ["number", "value"], top 9⟩
def r_check_marks : FnR := ⟨"check_marks", ["number"], top 14⟩
def r_are_rows : FnR := ⟨"are_rows", ["number", "value"], top 16⟩
def r_plain_rows : FnR := ⟨"plain_rows", ["number"], top 17⟩
def r_cleared : FnR := ⟨"cleared", ["table", "place", "at"], top 18⟩
def r_lessened : FnR := ⟨"lessened", ["row", "lead", "times"], top 19⟩
def r_rows_back : FnR := ⟨"rows_back", ["rows"], top 20⟩
def r_is_motion_of : FnR := ⟨"is_motion_of", ["number", "value"], top 21⟩
def r_is_motion : FnR := ⟨"is_motion", ["number", "value"], top 23⟩
def r_law_well : FnR := ⟨"_law_well", ["script", "turn"], top 25⟩
def r_law_take : FnR := ⟨"_law_take", ["well", "many"], top 26⟩
def r_law_pick : FnR := ⟨"_law_pick", ["well", "some"], top 27⟩
def r_law_same : FnR := ⟨"_law_same", ["told", "due"], top 28⟩
def r_law_deck : FnR := ⟨"_law_deck", ["number"], top 29⟩
def r_law_card : FnR := ⟨"_law_card", ["well", "number"], top 30⟩
def r_law_led : FnR := ⟨"_law_led", ["motion", "card"], top 31⟩
def r_law_motion : FnR := ⟨"_law_motion", ["well", "number"], top 32⟩
def r_law_is_one : FnR := ⟨"_law_is_one", ["number", "value"], top 33⟩
def r_law_asked : FnR := ⟨"_law_asked", ["number", "value"], top 34⟩
def r_law_bent : FnR := ⟨"_law_bent", ["well", "motion"], top 35⟩
def r_law_round : FnR := ⟨"_law_round", ["well"], top 36⟩
def r_law : FnR := ⟨"law", ["script"], top 37⟩
def N_is_whole : List Str := ["value"]
theorem s_is_whole : FnScope N_is_whole r_is_whole.ps (defScope r_is_whole.st) := ⟨rfl, rfl, rfl, by decide +kernel, rfl, by decide +kernel, by decide +kernel⟩
def N_is_between : List Str := ["value", "low", "high"]
theorem s_is_between : FnScope N_is_between r_is_between.ps (defScope r_is_between.st) := ⟨rfl, rfl, rfl, by decide +kernel, rfl, by decide +kernel, by decide +kernel⟩
def N_is_tuple_of : List Str := ["value", "many"]
theorem s_is_tuple_of : FnScope N_is_tuple_of r_is_tuple_of.ps (defScope r_is_tuple_of.st) := ⟨rfl, rfl, rfl, by decide +kernel, rfl, by decide +kernel, by decide +kernel⟩
def N_is_text_of : List Str := ["value", "signs", "sign"]
theorem s_is_text_of : FnScope N_is_text_of r_is_text_of.ps (defScope r_is_text_of.st) := ⟨rfl, rfl, rfl, by decide +kernel, rfl, by decide +kernel, by decide +kernel⟩
def N_is_mark_number : List Str := ["value"]
theorem s_is_mark_number : FnScope N_is_mark_number r_is_mark_number.ps (defScope r_is_mark_number.st) := ⟨rfl, rfl, rfl, by decide +kernel, rfl, by decide +kernel, by decide +kernel⟩
def N_is_card_of : List Str := ["number", "value"]
theorem s_is_card_of : FnScope N_is_card_of r_is_card_of.ps (defScope r_is_card_of.st) := ⟨rfl, rfl, rfl, by decide +kernel, rfl, by decide +kernel, by decide +kernel⟩
def N_check_marks : List Str := ["number"]
theorem s_check_marks : FnScope N_check_marks r_check_marks.ps (defScope r_check_marks.st) := ⟨rfl, rfl, rfl, by decide +kernel, rfl, by decide +kernel, by decide +kernel⟩
def N_are_rows : List Str := ["number", "value", "row", "each"]
theorem s_are_rows : FnScope N_are_rows r_are_rows.ps (defScope r_are_rows.st) := ⟨rfl, rfl, rfl, by decide +kernel, rfl, by decide +kernel, by decide +kernel⟩
def N_plain_rows : List Str := ["number", "place", "at"]
theorem s_plain_rows : FnScope N_plain_rows r_plain_rows.ps (defScope r_plain_rows.st) := ⟨rfl, rfl, rfl, by decide +kernel, rfl, by decide +kernel, by decide +kernel⟩
def N_cleared : List Str := ["table", "place", "at", "found", "lead", "each", "index", "row"]
theorem s_cleared : FnScope N_cleared r_cleared.ps (defScope r_cleared.st) := ⟨rfl, rfl, rfl, by decide +kernel, rfl, by decide +kernel, by decide +kernel⟩
def N_lessened : List Str := ["row", "lead", "times", "each", "other"]
theorem s_lessened : FnScope N_lessened r_lessened.ps (defScope r_lessened.st) := ⟨rfl, rfl, rfl, by decide +kernel, rfl, by decide +kernel, by decide +kernel⟩
def N_rows_back : List Str := ["rows", "number", "table", "place", "some", "row", "plain", "at"]
theorem s_rows_back : FnScope N_rows_back r_rows_back.ps (defScope r_rows_back.st) := ⟨rfl, rfl, rfl, by decide +kernel, rfl, by decide +kernel, by decide +kernel⟩
def N_is_motion_of : List Str := ["number", "value"]
theorem s_is_motion_of : FnScope N_is_motion_of r_is_motion_of.ps (defScope r_is_motion_of.st) := ⟨rfl, rfl, rfl, by decide +kernel, rfl, by decide +kernel, by decide +kernel⟩
def N_is_motion : List Str := ["number", "value"]
theorem s_is_motion : FnScope N_is_motion r_is_motion.ps (defScope r_is_motion.st) := ⟨rfl, rfl, rfl, by decide +kernel, rfl, by decide +kernel, by decide +kernel⟩
def N_law_well : List Str := ["script", "turn", "own", "stir", "cell"]
theorem s_law_well : FnScope N_law_well r_law_well.ps (defScope r_law_well.st) := ⟨rfl, rfl, rfl, by decide +kernel, rfl, by decide +kernel, by decide +kernel⟩
def N_law_take : List Str := ["well", "many", "figure", "by"]
theorem s_law_take : FnScope N_law_take r_law_take.ps (defScope r_law_take.st) := ⟨rfl, rfl, rfl, by decide +kernel, rfl, by decide +kernel, by decide +kernel⟩
def N_law_pick : List Str := ["well", "some"]
theorem s_law_pick : FnScope N_law_pick r_law_pick.ps (defScope r_law_pick.st) := ⟨rfl, rfl, rfl, by decide +kernel, rfl, by decide +kernel, by decide +kernel⟩
def N_law_same : List Str := ["told", "due", "at"]
theorem s_law_same : FnScope N_law_same r_law_same.ps (defScope r_law_same.st) := ⟨rfl, rfl, rfl, by decide +kernel, rfl, by decide +kernel, by decide +kernel⟩
def N_law_deck : List Str := ["number", "made", "turn", "longer", "text", "sign"]
theorem s_law_deck : FnScope N_law_deck r_law_deck.ps (defScope r_law_deck.st) := ⟨rfl, rfl, rfl, by decide +kernel, rfl, by decide +kernel, by decide +kernel⟩
def N_law_card : List Str := ["well", "number", "turn"]
theorem s_law_card : FnScope N_law_card r_law_card.ps (defScope r_law_card.st) := ⟨rfl, rfl, rfl, by decide +kernel, rfl, by decide +kernel, by decide +kernel⟩
def N_law_led : List Str := ["motion", "card", "made", "row", "sign", "a", "other"]
theorem s_law_led : FnScope N_law_led r_law_led.ps (defScope r_law_led.st) := ⟨rfl, rfl, rfl, by decide +kernel, rfl, by decide +kernel, by decide +kernel⟩
def N_law_motion : List Str := ["well", "number", "rows", "turn", "one", "two", "made", "at", "place", "each", "a", "b"]
theorem s_law_motion : FnScope N_law_motion r_law_motion.ps (defScope r_law_motion.st) := ⟨rfl, rfl, rfl, by decide +kernel, rfl, by decide +kernel, by decide +kernel⟩
def N_law_is_one : List Str := ["number", "value", "row", "each", "sign", "card"]
theorem s_law_is_one : FnScope N_law_is_one r_law_is_one.ps (defScope r_law_is_one.st) := ⟨rfl, rfl, rfl, by decide +kernel, rfl, by decide +kernel, by decide +kernel⟩
def N_law_asked : List Str := ["number", "value", "due"]
theorem s_law_asked : FnScope N_law_asked r_law_asked.ps (defScope r_law_asked.st) := ⟨rfl, rfl, rfl, by decide +kernel, rfl, by decide +kernel, by decide +kernel⟩
def N_law_bent : List Str := ["well", "motion", "rows", "at", "place", "odd", "row", "bent", "wrong", "some"]
theorem s_law_bent : FnScope N_law_bent r_law_bent.ps (defScope r_law_bent.st) := ⟨rfl, rfl, rfl, by decide +kernel, rfl, by decide +kernel, by decide +kernel⟩
def N_law_round : List Str := ["well", "turn", "number", "motion", "any_one", "other", "row", "at", "lap"]
theorem s_law_round : FnScope N_law_round r_law_round.ps (defScope r_law_round.st) := ⟨rfl, rfl, rfl, by decide +kernel, rfl, by decide +kernel, by decide +kernel⟩
def N_law : List Str := ["script", "turn"]
theorem s_law : FnScope N_law r_law.ps (defScope r_law.st) := ⟨rfl, rfl, rfl, by decide +kernel, rfl, by decide +kernel, by decide +kernel⟩
def D : List FnR := [r_is_whole, r_is_between, r_is_tuple_of, r_is_text_of, r_is_mark_number, r_is_card_of, r_check_marks, r_are_rows, r_plain_rows, r_cleared, r_lessened, r_rows_back, r_is_motion_of, r_is_motion, r_law_well, r_law_take, r_law_pick, r_law_same, r_law_deck, r_law_card, r_law_led, r_law_motion, r_law_is_one, r_law_asked, r_law_bent, r_law_round, r_law]
def gs (K : PySem.W.Frag) : Gs := { fa := fun f => He.ga K ((D.getD f r_law).x), ca := fun _ => 0, nm := fun _ => "given" }
def BL : List Str := (["isinstance", "int", "bool", "tuple", "len", "str", "all", "range", "list", "enumerate", "zip", "sum", "abs", "divmod", "set", "min", "max"] : List String).map Str.ofString
structure Fx (K : PySem.W.Frag) (mg : Str → Option Value) : Prop where
  bl : ∀ (i : Nat) (x : Str), BL[i]? = some x → mg x = none
  c_MOST_MARKS : ∃ t, mg "MOST_MARKS" = some (.int (4) t)
  c_SORTS : ∃ t, mg "SORTS" = some (.str "012" t)
theorem fgl {P : Program} {w : World} {K : PySem.W.Frag} {mg : Str → Option Value} {base : Heap} {G : Gs} {d f : Nat} {φ : List W → Store → R W} {r : FnR} (h : ∃ fd, FT P w K mg base G d φ f r fd) : mg r.x = some (.ref (G.fa f)) := h.elim fun _ h => h.gl
section
variable {P : Program} {w : World} {K : PySem.W.Frag} {mg : Str → Option Value} {base : Heap} {d : Nat} (B : Fx K mg) (IH : AllF P w K mg base (gs K) T D d)
include B IH
theorem d_is_whole (cdv : Value) (A : Around) (outer : List PySem.Env) (s : Shared) (H : Hp) (E : XK) (cf : Cfg (cxOf (L2.CX P w) P w K mg base N_is_whole "is_whole" (defScope (top 1)) ((gs K).fa 0) cdv A outer s H E)) (hr : Room (d + 2) (A.deeper (envOfC "is_whole" (defScope (top 1)) s.heap.objs.size ((gs K).fa 0) cdv))) :
    SSs (cxOf (L2.CX P w) P w K mg base N_is_whole "is_whole" (defScope (top 1)) ((gs K).fa 0) cdv A outer s H E) (gs K) (defBody (top 1)) (b_is_whole (fns T d)) := by
  unfold b_is_whole
  exact sss_one (ss_ret (se_and (se_isi 2 (B.bl 0 _ rfl) (B.bl 1 _ rfl) (se_var 0)) (se_one (se_not (se_isi 1 (B.bl 0 _ rfl) (B.bl 2 _ rfl) (se_var 0))))))
theorem d_is_between (cdv : Value) (A : Around) (outer : List PySem.Env) (s : Shared) (H : Hp) (E : XK) (cf : Cfg (cxOf (L2.CX P w) P w K mg base N_is_between "is_between" (defScope (top 2)) ((gs K).fa 1) cdv A outer s H E)) (hr : Room (d + 2) (A.deeper (envOfC "is_between" (defScope (top 2)) s.heap.objs.size ((gs K).fa 1) cdv))) :
    SSs (cxOf (L2.CX P w) P w K mg base N_is_between "is_between" (defScope (top 2)) ((gs K).fa 1) cdv A outer s H E) (gs K) (defBody (top 2)) (b_is_between (fns T d)) := by
  unfold b_is_between
  exact sss_one (ss_ret (se_and (se_call 0 (IH 0 _ rfl) hr (sa_cons (se_var 0) (sa_nil))) (se_one (se_chain (o2_le2 (by have := cf.un; omega)) (o2_le2 (by have := cf.un; omega)) (se_var 1) (se_var 0) (se_var 2)))))
theorem d_is_tuple_of (cdv : Value) (A : Around) (outer : List PySem.Env) (s : Shared) (H : Hp) (E : XK) (cf : Cfg (cxOf (L2.CX P w) P w K mg base N_is_tuple_of "is_tuple_of" (defScope (top 3)) ((gs K).fa 2) cdv A outer s H E)) (hr : Room (d + 2) (A.deeper (envOfC "is_tuple_of" (defScope (top 3)) s.heap.objs.size ((gs K).fa 2) cdv))) :
    SSs (cxOf (L2.CX P w) P w K mg base N_is_tuple_of "is_tuple_of" (defScope (top 3)) ((gs K).fa 2) cdv A outer s H E) (gs K) (defBody (top 3)) (b_is_tuple_of (fns T d)) := by
  unfold b_is_tuple_of
  exact sss_one (ss_ret (se_and (se_isi 4 (B.bl 0 _ rfl) (B.bl 3 _ rfl) (se_var 0)) (se_one (se_cmp (o2_eq (by have := cf.un; omega)) (se_bi cr_len (B.bl 4 _ rfl) (sa_cons (se_var 0) (sa_nil))) (se_var 1)))))
theorem d_is_text_of (cdv : Value) (A : Around) (outer : List PySem.Env) (s : Shared) (H : Hp) (E : XK) (cf : Cfg (cxOf (L2.CX P w) P w K mg base N_is_text_of "is_text_of" (defScope (top 4)) ((gs K).fa 3) cdv A outer s H E)) (hr : Room (d + 2) (A.deeper (envOfC "is_text_of" (defScope (top 4)) s.heap.objs.size ((gs K).fa 3) cdv))) :
    SSs (cxOf (L2.CX P w) P w K mg base N_is_text_of "is_text_of" (defScope (top 4)) ((gs K).fa 3) cdv A outer s H E) (gs K) (defBody (top 4)) (b_is_text_of (fns T d)) := by
  unfold b_is_text_of
  exact sss_one (ss_ret (se_and (se_isi 3 (B.bl 0 _ rfl) (B.bl 5 _ rfl) (se_var 0)) (se_one (se_bi (cr_allW cf.calm) (B.bl 6 _ rfl) (sa_cons (se_comp [("sign", 2)] cf (si_seq (se_var 0)) (blkOk_by (by kernel_rfl)) (fun _ _ _ _ _ cf => sg_name 2 cf) (fun _ _ _ _ _ cf => sts_nil) (fun _ _ _ _ _ cf => se_cmp (o2_inD (by have := cf.un; omega)) (se_var 2) (se_var 1))) (sa_nil))))))
theorem d_is_mark_number (cdv : Value) (A : Around) (outer : List PySem.Env) (s : Shared) (H : Hp) (E : XK) (cf : Cfg (cxOf (L2.CX P w) P w K mg base N_is_mark_number "is_mark_number" (defScope (top 8)) ((gs K).fa 4) cdv A outer s H E)) (hr : Room (d + 2) (A.deeper (envOfC "is_mark_number" (defScope (top 8)) s.heap.objs.size ((gs K).fa 4) cdv))) :
    SSs (cxOf (L2.CX P w) P w K mg base N_is_mark_number "is_mark_number" (defScope (top 8)) ((gs K).fa 4) cdv A outer s H E) (gs K) (defBody (top 8)) (b_is_mark_number (fns T d)) := by
  unfold b_is_mark_number
  exact sss_one (ss_ret (se_call 1 (IH 1 _ rfl) hr (sa_cons (se_var 0) (sa_cons (se_int) (sa_cons (se_gint B.c_MOST_MARKS) (sa_nil))))))
theorem d_is_card_of (cdv : Value) (A : Around) (outer : List PySem.Env) (s : Shared) (H : Hp) (E : XK) (cf : Cfg (cxOf (L2.CX P w) P w K mg base N_is_card_of "is_card_of" (defScope (top 9)) ((gs K).fa 5) cdv A outer s H E)) (hr : Room (d + 2) (A.deeper (envOfC "is_card_of" (defScope (top 9)) s.heap.objs.size ((gs K).fa 5) cdv))) :
    SSs (cxOf (L2.CX P w) P w K mg base N_is_card_of "is_card_of" (defScope (top 9)) ((gs K).fa 5) cdv A outer s H E) (gs K) (defBody (top 9)) (b_is_card_of (fns T d)) := by
  unfold b_is_card_of
  exact sss_one (ss_ret (se_and (se_call 3 (IH 3 _ rfl) hr (sa_cons (se_var 1) (sa_cons (se_gstr [48, 49, 50] B.c_SORTS) (sa_nil)))) (se_one (se_cmp (o2_eq (by have := cf.un; omega)) (se_bi cr_len (B.bl 4 _ rfl) (sa_cons (se_var 1) (sa_nil))) (se_var 0)))))
theorem d_check_marks (cdv : Value) (A : Around) (outer : List PySem.Env) (s : Shared) (H : Hp) (E : XK) (cf : Cfg (cxOf (L2.CX P w) P w K mg base N_check_marks "check_marks" (defScope (top 14)) ((gs K).fa 6) cdv A outer s H E)) (hr : Room (d + 2) (A.deeper (envOfC "check_marks" (defScope (top 14)) s.heap.objs.size ((gs K).fa 6) cdv))) :
    SSs (cxOf (L2.CX P w) P w K mg base N_check_marks "check_marks" (defScope (top 14)) ((gs K).fa 6) cdv A outer s H E) (gs K) (defBody (top 14)) (b_check_marks (fns T d)) := by
  unfold b_check_marks
  exact sss_one (ss_if (st_not (st_tru (se_call 4 (IH 4 _ rfl) hr (sa_cons (se_var 0) (sa_nil))))) (sss_never) (sss_nil))
theorem d_are_rows (cdv : Value) (A : Around) (outer : List PySem.Env) (s : Shared) (H : Hp) (E : XK) (cf : Cfg (cxOf (L2.CX P w) P w K mg base N_are_rows "are_rows" (defScope (top 16)) ((gs K).fa 7) cdv A outer s H E)) (hr : Room (d + 2) (A.deeper (envOfC "are_rows" (defScope (top 16)) s.heap.objs.size ((gs K).fa 7) cdv))) :
    SSs (cxOf (L2.CX P w) P w K mg base N_are_rows "are_rows" (defScope (top 16)) ((gs K).fa 7) cdv A outer s H E) (gs K) (defBody (top 16)) (b_are_rows (fns T d)) := by
  unfold b_are_rows
  exact sss_cons (ss_if (st_w (sw_or (st_not (st_tru (se_call 2 (IH 2 _ rfl) hr (sa_cons (se_var 1) (sa_cons (se_var 0) (sa_nil)))))) (sw_or1 (st_not (st_tru (se_bi (cr_allW cf.calm) (B.bl 6 _ rfl) (sa_cons (se_comp [("row", 2)] cf (si_seq (se_var 1)) (blkOk_by (by kernel_rfl)) (fun _ _ _ _ _ cf => sg_name 2 cf) (fun _ _ _ _ _ cf => sts_nil) (fun _ _ _ _ _ cf => se_call 2 (IH 2 _ rfl) hr (sa_cons (se_var 2) (sa_cons (se_var 0) (sa_nil))))) (sa_nil)))))))) (sss_one (ss_ret (se_bl))) (sss_nil)) (sss_one (ss_ret (se_bi (cr_allW cf.calm) (B.bl 6 _ rfl) (sa_cons (se_comp2 [("row", 2), ("each", 3)] [3] cf (si_seq (se_var 1)) (blkOk_by (by kernel_rfl)) (fun _ _ _ _ _ cf => sg_name 2 cf) (fun _ _ _ _ _ cf => sts_nil) (fun _ _ _ _ _ cf => si_seq (se_var 2)) (fun _ _ _ _ _ cf => sg_name 3 cf) (fun _ _ _ _ _ cf => sts_nil) (fun _ _ _ _ _ cf => se_call 1 (IH 1 _ rfl) hr (sa_cons (se_var 3) (sa_cons (se_int) (sa_cons (se_bin o2_sub (se_bi cr_len (B.bl 4 _ rfl) (sa_cons (se_gstr [48, 49, 50] B.c_SORTS) (sa_nil))) (se_int)) (sa_nil)))))) (sa_nil)))))
theorem d_plain_rows (cdv : Value) (A : Around) (outer : List PySem.Env) (s : Shared) (H : Hp) (E : XK) (cf : Cfg (cxOf (L2.CX P w) P w K mg base N_plain_rows "plain_rows" (defScope (top 17)) ((gs K).fa 8) cdv A outer s H E)) (hr : Room (d + 2) (A.deeper (envOfC "plain_rows" (defScope (top 17)) s.heap.objs.size ((gs K).fa 8) cdv))) :
    SSs (cxOf (L2.CX P w) P w K mg base N_plain_rows "plain_rows" (defScope (top 17)) ((gs K).fa 8) cdv A outer s H E) (gs K) (defBody (top 17)) (b_plain_rows (fns T d)) := by
  unfold b_plain_rows
  exact sss_one (ss_ret (se_ty cr_tupleW (B.bl 3 _ rfl) (sa_cons (se_comp [("place", 1)] cf (si_range1 (B.bl 7 _ rfl) (sa_cons (se_var 0) (sa_nil))) (blkOk_by (by kernel_rfl)) (fun _ _ _ _ _ cf => sg_name 1 cf) (fun _ _ _ _ _ cf => sts_nil) (fun _ _ _ _ _ cf => se_ty cr_tupleW (B.bl 3 _ rfl) (sa_cons (se_comp [("at", 2)] cf (si_range1 (B.bl 7 _ rfl) (sa_cons (se_var 0) (sa_nil))) (blkOk_by (by kernel_rfl)) (fun _ _ _ _ _ cf => sg_name 2 cf) (fun _ _ _ _ _ cf => sts_nil) (fun _ _ _ _ _ cf => se_if (st_cmp (o2_eq (by have := cf.un; omega)) (se_var 2) (se_var 1)) (se_int) (se_int))) (sa_nil)))) (sa_nil))))
theorem d_cleared (cdv : Value) (A : Around) (outer : List PySem.Env) (s : Shared) (H : Hp) (E : XK) (cf : Cfg (cxOf (L2.CX P w) P w K mg base N_cleared "cleared" (defScope (top 18)) ((gs K).fa 9) cdv A outer s H E)) (hr : Room (d + 2) (A.deeper (envOfC "cleared" (defScope (top 18)) s.heap.objs.size ((gs K).fa 9) cdv))) :
    SSs (cxOf (L2.CX P w) P w K mg base N_cleared "cleared" (defScope (top 18)) ((gs K).fa 9) cdv A outer s H E) (gs K) (defBody (top 18)) (b_cleared (fns T d)) := by
  unfold b_cleared
  exact sss_cons (ss_set 3 cf (se_listSt (B.bl 8 _ rfl) (sa_cons (se_var 0) (sa_nil)))) (sss_cons (ss_asg (se_tup (sa_cons (se_ix (se_var 3) (se_var 2)) (sa_cons (se_ix (se_var 3) (se_var 1)) (sa_nil)))) (sg_tup 2 cf (sgs_cons (sg_idx (se_var 3) (se_var 1)) (sgs_cons (sg_idx (se_var 3) (se_var 2)) (sgs_nil))) (hl := glen_cons (glen_cons (glen_nil))))) (sss_cons (ss_set 4 cf (se_comp [("each", 5)] cf (si_seq (se_ix (se_var 3) (se_var 1))) (blkOk_by (by kernel_rfl)) (fun _ _ _ _ _ cf => sg_name 5 cf) (fun _ _ _ _ _ cf => sts_nil) (fun _ _ _ _ _ cf => se_bin o2_mod (se_bin o2_mul (se_ix (se_ix (se_var 3) (se_var 1)) (se_var 1)) (se_var 5)) (se_bi cr_len (B.bl 4 _ rfl) (sa_cons (se_gstr [48, 49, 50] B.c_SORTS) (sa_nil)))))) (sss_one (ss_ret (se_compE false [("index", 6), ("row", 7)] cf (B.bl 9 _ rfl) (sa_cons (se_var 3) (sa_nil)) (blkOk_by (by kernel_rfl)) (fun _ _ _ _ _ cf => sg_tup 2 cf (sgs_cons (sg_name 6 cf) (sgs_cons (sg_name 7 cf) (sgs_nil))) (hl := glen_cons (glen_cons (glen_nil)))) (fun _ _ _ _ _ cf => sts_nil) (fun _ _ _ _ _ cf => se_if (st_cmp (o2_eq (by have := cf.un; omega)) (se_var 6) (se_var 1)) (se_var 4) (se_call 10 (IH 10 _ rfl) hr (sa_cons (se_var 7) (sa_cons (se_var 4) (sa_cons (se_ix (se_var 7) (se_var 1)) (sa_nil)))))))))))
theorem d_lessened (cdv : Value) (A : Around) (outer : List PySem.Env) (s : Shared) (H : Hp) (E : XK) (cf : Cfg (cxOf (L2.CX P w) P w K mg base N_lessened "lessened" (defScope (top 19)) ((gs K).fa 10) cdv A outer s H E)) (hr : Room (d + 2) (A.deeper (envOfC "lessened" (defScope (top 19)) s.heap.objs.size ((gs K).fa 10) cdv))) :
    SSs (cxOf (L2.CX P w) P w K mg base N_lessened "lessened" (defScope (top 19)) ((gs K).fa 10) cdv A outer s H E) (gs K) (defBody (top 19)) (b_lessened (fns T d)) := by
  unfold b_lessened
  exact sss_one (ss_ret (se_comp [("each", 3), ("other", 4)] cf (si_zip2 (B.bl 10 _ rfl) (sa_cons (se_var 0) (sa_cons (se_var 1) (sa_nil)))) (blkOk_by (by kernel_rfl)) (fun _ _ _ _ _ cf => sg_tup 2 cf (sgs_cons (sg_name 3 cf) (sgs_cons (sg_name 4 cf) (sgs_nil))) (hl := glen_cons (glen_cons (glen_nil)))) (fun _ _ _ _ _ cf => sts_nil) (fun _ _ _ _ _ cf => se_bin o2_mod (se_bin o2_sub (se_var 3) (se_bin o2_mul (se_var 2) (se_var 4))) (se_bi cr_len (B.bl 4 _ rfl) (sa_cons (se_gstr [48, 49, 50] B.c_SORTS) (sa_nil))))))
theorem d_rows_back (cdv : Value) (A : Around) (outer : List PySem.Env) (s : Shared) (H : Hp) (E : XK) (cf : Cfg (cxOf (L2.CX P w) P w K mg base N_rows_back "rows_back" (defScope (top 20)) ((gs K).fa 11) cdv A outer s H E)) (hr : Room (d + 2) (A.deeper (envOfC "rows_back" (defScope (top 20)) s.heap.objs.size ((gs K).fa 11) cdv))) :
    SSs (cxOf (L2.CX P w) P w K mg base N_rows_back "rows_back" (defScope (top 20)) ((gs K).fa 11) cdv A outer s H E) (gs K) (defBody (top 20)) (b_rows_back (fns T d)) := by
  unfold b_rows_back
  exact sss_cons (ss_set 1 cf (se_bi cr_len (B.bl 4 _ rfl) (sa_cons (se_var 0) (sa_nil)))) (sss_cons (ss_set 2 cf (se_comp [("row", 5), ("plain", 6)] cf (si_zip2 (B.bl 10 _ rfl) (sa_cons (se_var 0) (sa_cons (se_call 8 (IH 8 _ rfl) hr (sa_cons (se_var 1) (sa_nil))) (sa_nil)))) (blkOk_by (by kernel_rfl)) (fun _ _ _ _ _ cf => sg_tup 2 cf (sgs_cons (sg_name 5 cf) (sgs_cons (sg_name 6 cf) (sgs_nil))) (hl := glen_cons (glen_cons (glen_nil)))) (fun _ _ _ _ _ cf => sts_nil) (fun _ _ _ _ _ cf => se_lst (sa_star (se_var 5) (sa_star (se_var 6) (sa_nil)))))) (sss_cons (ss_for cf (si_range1 (B.bl 7 _ rfl) (sa_cons (se_var 1) (sa_nil))) (sg_name 3 cf) (sss_cons (ss_setLc 4 [("at", 7)] cf (si_range2 (B.bl 7 _ rfl) (sa_cons (se_var 3) (sa_cons (se_var 1) (sa_nil)))) (blkOk_by (by kernel_rfl)) (fun _ _ _ _ _ cf => sg_name 7 cf) (fun _ _ _ _ _ cf => sts_one (st_cmp (o2_ne (by have := cf.un; omega)) (se_ix (se_ix (se_var 2) (se_var 7)) (se_var 3)) (se_int))) (fun _ _ _ _ _ cf => se_var 7)) (sss_cons (ss_if (st_cmp (o2_eq (by have := cf.un; omega)) (se_var 4) (se_lst (sa_nil))) (sss_one (ss_ret (se_non))) (sss_nil)) (sss_one (ss_set 2 cf (se_call 9 (IH 9 _ rfl) hr (sa_cons (se_var 2) (sa_cons (se_var 3) (sa_cons (se_ix (se_var 4) (se_int)) (sa_nil)))))))))) (sss_one (ss_ret (se_ty cr_tupleW (B.bl 3 _ rfl) (sa_cons (se_comp [("row", 5)] cf (si_seq (se_var 2)) (blkOk_by (by kernel_rfl)) (fun _ _ _ _ _ cf => sg_name 5 cf) (fun _ _ _ _ _ cf => sts_nil) (fun _ _ _ _ _ cf => se_ty cr_tupleW (B.bl 3 _ rfl) (sa_cons (se_sl (se_var 5) (so_some (se_var 1)) (so_none)) (sa_nil)))) (sa_nil)))))))
theorem d_is_motion_of (cdv : Value) (A : Around) (outer : List PySem.Env) (s : Shared) (H : Hp) (E : XK) (cf : Cfg (cxOf (L2.CX P w) P w K mg base N_is_motion_of "is_motion_of" (defScope (top 21)) ((gs K).fa 12) cdv A outer s H E)) (hr : Room (d + 2) (A.deeper (envOfC "is_motion_of" (defScope (top 21)) s.heap.objs.size ((gs K).fa 12) cdv))) :
    SSs (cxOf (L2.CX P w) P w K mg base N_is_motion_of "is_motion_of" (defScope (top 21)) ((gs K).fa 12) cdv A outer s H E) (gs K) (defBody (top 21)) (b_is_motion_of (fns T d)) := by
  unfold b_is_motion_of
  exact sss_cons (ss_if (st_w (sw_or (st_not (st_tru (se_call 2 (IH 2 _ rfl) hr (sa_cons (se_var 1) (sa_cons (se_int) (sa_nil)))))) (sw_or (st_not (st_tru (se_call 7 (IH 7 _ rfl) hr (sa_cons (se_var 0) (sa_cons (se_ix (se_var 1) (se_int)) (sa_nil)))))) (sw_or1 (st_not (st_tru (se_call 5 (IH 5 _ rfl) hr (sa_cons (se_var 0) (sa_cons (se_ix (se_var 1) (se_int)) (sa_nil)))))))))) (sss_one (ss_ret (se_bl))) (sss_nil)) (sss_one (ss_ret (se_notN (se_call 11 (IH 11 _ rfl) hr (sa_cons (se_ix (se_var 1) (se_int)) (sa_nil))))))
theorem d_is_motion (cdv : Value) (A : Around) (outer : List PySem.Env) (s : Shared) (H : Hp) (E : XK) (cf : Cfg (cxOf (L2.CX P w) P w K mg base N_is_motion "is_motion" (defScope (top 23)) ((gs K).fa 13) cdv A outer s H E)) (hr : Room (d + 2) (A.deeper (envOfC "is_motion" (defScope (top 23)) s.heap.objs.size ((gs K).fa 13) cdv))) :
    SSs (cxOf (L2.CX P w) P w K mg base N_is_motion "is_motion" (defScope (top 23)) ((gs K).fa 13) cdv A outer s H E) (gs K) (defBody (top 23)) (b_is_motion (fns T d)) := by
  unfold b_is_motion
  exact sss_cons (ss_expr (se_call 6 (IH 6 _ rfl) hr (sa_cons (se_var 0) (sa_nil)))) (sss_one (ss_ret (se_call 12 (IH 12 _ rfl) hr (sa_cons (se_var 0) (sa_cons (se_var 1) (sa_nil))))))
theorem d_law_well (cdv : Value) (A : Around) (outer : List PySem.Env) (s : Shared) (H : Hp) (E : XK) (cf : Cfg (cxOf (L2.CX P w) P w K mg base N_law_well "_law_well" (defScope (top 25)) ((gs K).fa 14) cdv A outer s H E)) (hr : Room (d + 2) (A.deeper (envOfC "_law_well" (defScope (top 25)) s.heap.objs.size ((gs K).fa 14) cdv))) :
    SSs (cxOf (L2.CX P w) P w K mg base N_law_well "_law_well" (defScope (top 25)) ((gs K).fa 14) cdv A outer s H E) (gs K) (defBody (top 25)) (b_law_well (fns T d)) := by
  unfold b_law_well
  exact sss_cons (ss_set 2 cf (se_if (st_cmp o2_lt (se_var 1) (se_bi cr_len (B.bl 4 _ rfl) (sa_cons (se_var 0) (sa_nil)))) (se_ty cr_int (B.bl 1 _ rfl) (sa_cons (se_ix (se_var 0) (se_var 1)) (sa_nil))) (se_bin o2_add (se_bin o2_add (se_bin o2_mul (se_int) (se_var 1)) (se_bin o2_mod (se_ty cr_int (B.bl 1 _ rfl) (sa_cons (se_bi (cr_sumW cf.calm) (B.bl 11 _ rfl) (sa_cons (se_sl (se_var 0) (so_none) (so_some (se_int))) (sa_nil))) (sa_nil))) (se_int))) (se_int)))) (sss_cons (ss_set 3 cf (se_bin o2_add (se_int) (se_bin o2_mul (se_int) (se_var 1)))) (sss_cons (ss_for cf (si_seq (se_bin o2_add (se_sl (se_var 0) (so_none) (so_some (se_int))) (se_lst (sa_cons (se_var 2) (sa_nil))))) (sg_name 4 cf) (sss_one (ss_set 3 cf (se_bin o2_mod (se_ty cr_int (B.bl 1 _ rfl) (sa_cons (se_bin o2_add (se_bin o2_add (se_bin o2_mul (se_var 3) (se_int)) (se_bin o2_mod (se_ty cr_int (B.bl 1 _ rfl) (sa_cons (se_var 4) (sa_nil))) (se_int))) (se_int)) (sa_nil))) (se_int))))) (sss_one (ss_ret (se_lstS (sa_cons (se_if (st_w (sw_or (st_cmp o2_lt (se_var 2) (se_int)) (sw_or1 (st_cmp o2_ge (se_var 2) (se_bin o2_pow (se_int) (se_int)))))) (se_bi cr_abs (B.bl 12 _ rfl) (sa_cons (se_var 2) (sa_nil))) (se_int)) (sa_cons (se_var 3) (sa_cons (se_int) (sa_nil)))))))))
theorem d_law_take (cdv : Value) (A : Around) (outer : List PySem.Env) (s : Shared) (H : Hp) (E : XK) (cf : Cfg (cxOf (L2.CX P w) P w K mg base N_law_take "_law_take" (defScope (top 26)) ((gs K).fa 15) cdv A outer s H E)) (hr : Room (d + 2) (A.deeper (envOfC "_law_take" (defScope (top 26)) s.heap.objs.size ((gs K).fa 15) cdv))) :
    SSs (cxOf (L2.CX P w) P w K mg base N_law_take "_law_take" (defScope (top 26)) ((gs K).fa 15) cdv A outer s H E) (gs K) (defBody (top 26)) (b_law_take (fns T d)) := by
  unfold b_law_take
  exact sss_cons (ss_if (st_cmp o2_gt (se_ix (se_var 0) (se_int)) (se_int)) (sss_cons (ss_asg (se_bi cr_divmod (B.bl 13 _ rfl) (sa_cons (se_ix (se_var 0) (se_int)) (sa_cons (se_var 1) (sa_nil)))) (sg_tup 2 cf (sgs_cons (sg_idx (se_var 0) (se_int)) (sgs_cons (sg_name 2 cf) (sgs_nil))) (hl := glen_cons (glen_cons (glen_nil))))) (sss_one (ss_ret (se_var 2)))) (sss_nil)) (sss_cons (ss_asg (se_bin o2_add (se_ix (se_var 0) (se_int)) (se_int)) (sg_idx (se_var 0) (se_int))) (sss_cons (ss_set 3 cf (se_bin o2_add (se_bin o2_mod (se_ty cr_int (B.bl 1 _ rfl) (sa_cons (se_ix (se_var 0) (se_int)) (sa_nil))) (se_int)) (se_int))) (sss_cons (ss_asg (se_bin o2_mod (se_ty cr_int (B.bl 1 _ rfl) (sa_cons (se_bin o2_add (se_bin o2_add (se_bin o2_mul (se_ix (se_var 0) (se_int)) (se_var 3)) (se_bin o2_mul (se_int) (se_ix (se_var 0) (se_int)))) (se_int)) (sa_nil))) (se_int)) (sg_idx (se_var 0) (se_int))) (sss_one (ss_ret (se_bin o2_mod (se_ty cr_int (B.bl 1 _ rfl) (sa_cons (se_bin o2_div (se_ix (se_var 0) (se_int)) (se_int)) (sa_nil))) (se_var 1)))))))
theorem d_law_pick (cdv : Value) (A : Around) (outer : List PySem.Env) (s : Shared) (H : Hp) (E : XK) (cf : Cfg (cxOf (L2.CX P w) P w K mg base N_law_pick "_law_pick" (defScope (top 27)) ((gs K).fa 16) cdv A outer s H E)) (hr : Room (d + 2) (A.deeper (envOfC "_law_pick" (defScope (top 27)) s.heap.objs.size ((gs K).fa 16) cdv))) :
    SSs (cxOf (L2.CX P w) P w K mg base N_law_pick "_law_pick" (defScope (top 27)) ((gs K).fa 16) cdv A outer s H E) (gs K) (defBody (top 27)) (b_law_pick (fns T d)) := by
  unfold b_law_pick
  exact sss_one (ss_ret (se_ix (se_var 1) (se_call 15 (IH 15 _ rfl) hr (sa_cons (se_var 0) (sa_cons (se_bi cr_len (B.bl 4 _ rfl) (sa_cons (se_var 1) (sa_nil))) (sa_nil))))))
theorem d_law_same (cdv : Value) (A : Around) (outer : List PySem.Env) (s : Shared) (H : Hp) (E : XK) (cf : Cfg (cxOf (L2.CX P w) P w K mg base N_law_same "_law_same" (defScope (top 28)) ((gs K).fa 17) cdv A outer s H E)) (hr : Room (d + 2) (A.deeper (envOfC "_law_same" (defScope (top 28)) s.heap.objs.size ((gs K).fa 17) cdv))) :
    SSs (cxOf (L2.CX P w) P w K mg base N_law_same "_law_same" (defScope (top 28)) ((gs K).fa 17) cdv A outer s H E) (gs K) (defBody (top 28)) (b_law_same (fns T d)) := by
  unfold b_law_same
  exact sss_cons (ss_if (st_tru (se_isi 4 (B.bl 0 _ rfl) (B.bl 3 _ rfl) (se_var 1))) (sss_cons (ss_if (st_w (sw_or (st_not (st_tru (se_isi 4 (B.bl 0 _ rfl) (B.bl 3 _ rfl) (se_var 0)))) (sw_or1 (st_cmp (o2_ne (by have := cf.un; omega)) (se_bi cr_len (B.bl 4 _ rfl) (sa_cons (se_var 0) (sa_nil))) (se_bi cr_len (B.bl 4 _ rfl) (sa_cons (se_var 1) (sa_nil))))))) (sss_one (ss_ret (se_bl))) (sss_nil)) (sss_one (ss_ret (se_bi (cr_allW cf.calm) (B.bl 6 _ rfl) (sa_cons (se_comp [("at", 2)] cf (si_range1 (B.bl 7 _ rfl) (sa_cons (se_bi cr_len (B.bl 4 _ rfl) (sa_cons (se_var 1) (sa_nil))) (sa_nil))) (blkOk_by (by kernel_rfl)) (fun _ _ _ _ _ cf => sg_name 2 cf) (fun _ _ _ _ _ cf => sts_nil) (fun _ _ _ _ _ cf => se_call 17 (IH 17 _ rfl) hr (sa_cons (se_ix (se_var 0) (se_var 2)) (sa_cons (se_ix (se_var 1) (se_var 2)) (sa_nil))))) (sa_nil)))))) (sss_nil)) (sss_cons (ss_if (st_w (sw_or (st_isN (se_var 1)) (sw_or (st_cmp o2_isB (se_var 1) (se_bl)) (sw_or1 (st_cmp o2_isB (se_var 1) (se_bl)))))) (sss_one (ss_ret (se_or (se_and (se_isN (se_var 1)) (se_one (se_isN (se_var 0)))) (se_or (se_and (se_cmp o2_isB (se_var 1) (se_bl)) (se_one (se_cmp o2_isB (se_var 0) (se_bl)))) (se_one (se_and (se_cmp o2_isB (se_var 1) (se_bl)) (se_one (se_cmp o2_isB (se_var 0) (se_bl))))))))) (sss_nil)) (sss_cons (ss_if (st_tru (se_isi 2 (B.bl 0 _ rfl) (B.bl 1 _ rfl) (se_var 1))) (sss_one (ss_ret (se_and (se_isi 2 (B.bl 0 _ rfl) (B.bl 1 _ rfl) (se_var 0)) (se_and (se_not (se_isi 1 (B.bl 0 _ rfl) (B.bl 2 _ rfl) (se_var 0))) (se_one (se_cmp (o2_eq (by have := cf.un; omega)) (se_var 0) (se_var 1))))))) (sss_nil)) (sss_one (ss_ret (se_and (se_isi 3 (B.bl 0 _ rfl) (B.bl 5 _ rfl) (se_var 0)) (se_one (se_cmp (o2_eq (by have := cf.un; omega)) (se_var 0) (se_var 1))))))))
theorem d_law_deck (cdv : Value) (A : Around) (outer : List PySem.Env) (s : Shared) (H : Hp) (E : XK) (cf : Cfg (cxOf (L2.CX P w) P w K mg base N_law_deck "_law_deck" (defScope (top 29)) ((gs K).fa 18) cdv A outer s H E)) (hr : Room (d + 2) (A.deeper (envOfC "_law_deck" (defScope (top 29)) s.heap.objs.size ((gs K).fa 18) cdv))) :
    SSs (cxOf (L2.CX P w) P w K mg base N_law_deck "_law_deck" (defScope (top 29)) ((gs K).fa 18) cdv A outer s H E) (gs K) (defBody (top 29)) (b_law_deck (fns T d)) := by
  unfold b_law_deck
  exact sss_cons (ss_set 1 cf (se_lst (sa_cons (se_str []) (sa_nil)))) (sss_cons (ss_for cf (si_range1 (B.bl 7 _ rfl) (sa_cons (se_var 0) (sa_nil))) (sg_name 2 cf) (sss_cons (ss_set 3 cf (se_lstS (sa_nil))) (sss_cons (ss_forD cf (se_var 1) (sg_name 4 cf) (sss_one (ss_expr (se_meth 5 omExtend PySem.F.plainAttrs_list PySem.F.slot_list_extend PySem.F.type_list_extend om_extend (se_var 3) (sa_cons (se_comp [("sign", 5)] cf (si_seq (se_str [48, 49, 50])) (blkOk_by (by kernel_rfl)) (fun _ _ _ _ _ cf => sg_name 5 cf) (fun _ _ _ _ _ cf => sts_nil) (fun _ _ _ _ _ cf => se_bin o2_add (se_var 4) (se_var 5))) (sa_nil)))))) (sss_one (ss_set 1 cf (se_var 3)))))) (sss_one (ss_ret (se_var 1))))
theorem d_law_card (cdv : Value) (A : Around) (outer : List PySem.Env) (s : Shared) (H : Hp) (E : XK) (cf : Cfg (cxOf (L2.CX P w) P w K mg base N_law_card "_law_card" (defScope (top 30)) ((gs K).fa 19) cdv A outer s H E)) (hr : Room (d + 2) (A.deeper (envOfC "_law_card" (defScope (top 30)) s.heap.objs.size ((gs K).fa 19) cdv))) :
    SSs (cxOf (L2.CX P w) P w K mg base N_law_card "_law_card" (defScope (top 30)) ((gs K).fa 19) cdv A outer s H E) (gs K) (defBody (top 30)) (b_law_card (fns T d)) := by
  unfold b_law_card
  exact sss_one (ss_ret (se_join (se_str []) (se_comp [("turn", 2)] cf (si_range1 (B.bl 7 _ rfl) (sa_cons (se_var 1) (sa_nil))) (blkOk_by (by kernel_rfl)) (fun _ _ _ _ _ cf => sg_name 2 cf) (fun _ _ _ _ _ cf => sts_nil) (fun _ _ _ _ _ cf => se_ix (se_str [48, 49, 50]) (se_call 15 (IH 15 _ rfl) hr (sa_cons (se_var 0) (sa_cons (se_int) (sa_nil))))))))
theorem d_law_led (cdv : Value) (A : Around) (outer : List PySem.Env) (s : Shared) (H : Hp) (E : XK) (cf : Cfg (cxOf (L2.CX P w) P w K mg base N_law_led "_law_led" (defScope (top 31)) ((gs K).fa 20) cdv A outer s H E)) (hr : Room (d + 2) (A.deeper (envOfC "_law_led" (defScope (top 31)) s.heap.objs.size ((gs K).fa 20) cdv))) :
    SSs (cxOf (L2.CX P w) P w K mg base N_law_led "_law_led" (defScope (top 31)) ((gs K).fa 20) cdv A outer s H E) (gs K) (defBody (top 31)) (b_law_led (fns T d)) := by
  unfold b_law_led
  exact sss_cons (ss_set 2 cf (se_str [])) (sss_cons (ss_for cf (si_zip2 (B.bl 10 _ rfl) (sa_cons (se_ix (se_var 0) (se_int)) (sa_cons (se_ix (se_var 0) (se_int)) (sa_nil)))) (sg_tup 2 cf (sgs_cons (sg_name 3 cf) (sgs_cons (sg_name 4 cf) (sgs_nil))) (hl := glen_cons (glen_cons (glen_nil)))) (sss_one (ss_set 2 cf (se_bin o2_add (se_var 2) (se_ty cr_strW (B.bl 5 _ rfl) (sa_cons (se_bin o2_mod (se_ty cr_int (B.bl 1 _ rfl) (sa_cons (se_bin o2_add (se_bi (cr_sumT cf.calm) (B.bl 11 _ rfl) (sa_cons (se_comp [("a", 5), ("other", 6)] cf (si_zip2 (B.bl 10 _ rfl) (sa_cons (se_var 3) (sa_cons (se_var 1) (sa_nil)))) (blkOk_by (by kernel_rfl)) (fun _ _ _ _ _ cf => sg_tup 2 cf (sgs_cons (sg_name 5 cf) (sgs_cons (sg_name 6 cf) (sgs_nil))) (hl := glen_cons (glen_cons (glen_nil)))) (fun _ _ _ _ _ cf => sts_nil) (fun _ _ _ _ _ cf => se_bin o2_mul (se_var 5) (se_ty cr_int (B.bl 1 _ rfl) (sa_cons (se_var 6) (sa_nil))))) (sa_nil))) (se_ty cr_int (B.bl 1 _ rfl) (sa_cons (se_var 4) (sa_nil)))) (sa_nil))) (se_int)) (sa_nil))))))) (sss_one (ss_ret (se_var 2))))
theorem d_law_motion (cdv : Value) (A : Around) (outer : List PySem.Env) (s : Shared) (H : Hp) (E : XK) (cf : Cfg (cxOf (L2.CX P w) P w K mg base N_law_motion "_law_motion" (defScope (top 32)) ((gs K).fa 21) cdv A outer s H E)) (hr : Room (d + 2) (A.deeper (envOfC "_law_motion" (defScope (top 32)) s.heap.objs.size ((gs K).fa 21) cdv))) :
    SSs (cxOf (L2.CX P w) P w K mg base N_law_motion "_law_motion" (defScope (top 32)) ((gs K).fa 21) cdv A outer s H E) (gs K) (defBody (top 32)) (b_law_motion (fns T d)) := by
  unfold b_law_motion
  exact sss_cons (ss_setLcS 2 [("at", 7)] cf (si_range1 (B.bl 7 _ rfl) (sa_cons (se_var 1) (sa_nil))) (blkOk_by (by kernel_rfl)) (fun _ _ _ _ _ cf => sg_name 7 cf) (fun _ _ _ _ _ cf => sts_nil) (fun _ _ _ _ _ cf => se_comp [("place", 8)] cf (si_range1 (B.bl 7 _ rfl) (sa_cons (se_var 1) (sa_nil))) (blkOk_by (by kernel_rfl)) (fun _ _ _ _ _ cf => sg_name 8 cf) (fun _ _ _ _ _ cf => sts_nil) (fun _ _ _ _ _ cf => se_ty cr_int (B.bl 1 _ rfl) (sa_cons (se_cmp (o2_eq (by have := cf.un; omega)) (se_var 7) (se_var 8)) (sa_nil))))) (sss_cons (ss_for cf (si_range1 (B.bl 7 _ rfl) (sa_cons (se_call 15 (IH 15 _ rfl) hr (sa_cons (se_var 0) (sa_cons (se_int) (sa_nil)))) (sa_nil))) (sg_name 3 cf) (sss_cons (ss_par 4 5 cf (sa_cons (se_call 15 (IH 15 _ rfl) hr (sa_cons (se_var 0) (sa_cons (se_var 1) (sa_nil)))) (sa_cons (se_call 15 (IH 15 _ rfl) hr (sa_cons (se_var 0) (sa_cons (se_var 1) (sa_nil)))) (sa_nil)))) (sss_one (ss_if (st_cmp (o2_eq (by have := cf.un; omega)) (se_var 4) (se_var 5)) (sss_one (ss_asg (se_comp [("each", 9)] cf (si_seq (se_ix (se_var 2) (se_var 4))) (blkOk_by (by kernel_rfl)) (fun _ _ _ _ _ cf => sg_name 9 cf) (fun _ _ _ _ _ cf => sts_nil) (fun _ _ _ _ _ cf => se_bin o2_mod (se_ty cr_int (B.bl 1 _ rfl) (sa_cons (se_bin o2_mul (se_int) (se_var 9)) (sa_nil))) (se_int))) (sg_idx (se_var 2) (se_var 4)))) (sss_one (ss_asg (se_comp [("a", 10), ("b", 11)] cf (si_zip2 (B.bl 10 _ rfl) (sa_cons (se_ix (se_var 2) (se_var 4)) (sa_cons (se_ix (se_var 2) (se_var 5)) (sa_nil)))) (blkOk_by (by kernel_rfl)) (fun _ _ _ _ _ cf => sg_tup 2 cf (sgs_cons (sg_name 10 cf) (sgs_cons (sg_name 11 cf) (sgs_nil))) (hl := glen_cons (glen_cons (glen_nil)))) (fun _ _ _ _ _ cf => sts_nil) (fun _ _ _ _ _ cf => se_bin o2_mod (se_ty cr_int (B.bl 1 _ rfl) (sa_cons (se_bin o2_add (se_var 10) (se_var 11)) (sa_nil))) (se_int))) (sg_idx (se_var 2) (se_var 4)))))))) (sss_cons (ss_set 6 cf (se_lstS (sa_nil))) (sss_cons (ss_while 100000 cf (st_cmp (o2_ne (by have := cf.un; omega)) (se_var 2) (se_lst (sa_nil))) (sss_one (ss_expr (se_meth 5 omAppend PySem.F.plainAttrs_list PySem.F.slot_list_append PySem.F.type_list_append om_append (se_var 6) (sa_cons (se_ty cr_tupleW (B.bl 3 _ rfl) (sa_cons (se_meth 5 omPopAt PySem.F.plainAttrs_list PySem.F.slot_list_pop PySem.F.type_list_pop om_popAt (se_var 2) (sa_cons (se_call 15 (IH 15 _ rfl) hr (sa_cons (se_var 0) (sa_cons (se_bi cr_len (B.bl 4 _ rfl) (sa_cons (se_var 2) (sa_nil))) (sa_nil)))) (sa_nil))) (sa_nil))) (sa_nil)))))) (sss_one (ss_ret (se_tup (sa_cons (se_ty cr_tupleW (B.bl 3 _ rfl) (sa_cons (se_var 6) (sa_nil))) (sa_cons (se_call 19 (IH 19 _ rfl) hr (sa_cons (se_var 0) (sa_cons (se_var 1) (sa_nil)))) (sa_nil)))))))))
theorem d_law_is_one (cdv : Value) (A : Around) (outer : List PySem.Env) (s : Shared) (H : Hp) (E : XK) (cf : Cfg (cxOf (L2.CX P w) P w K mg base N_law_is_one "_law_is_one" (defScope (top 33)) ((gs K).fa 22) cdv A outer s H E)) (hr : Room (d + 2) (A.deeper (envOfC "_law_is_one" (defScope (top 33)) s.heap.objs.size ((gs K).fa 22) cdv))) :
    SSs (cxOf (L2.CX P w) P w K mg base N_law_is_one "_law_is_one" (defScope (top 33)) ((gs K).fa 22) cdv A outer s H E) (gs K) (defBody (top 33)) (b_law_is_one (fns T d)) := by
  unfold b_law_is_one
  exact sss_cons (ss_if (st_w (sw_or (st_not (st_tru (se_isi 4 (B.bl 0 _ rfl) (B.bl 3 _ rfl) (se_var 1)))) (sw_or (st_cmp (o2_ne (by have := cf.un; omega)) (se_bi cr_len (B.bl 4 _ rfl) (sa_cons (se_var 1) (sa_nil))) (se_int)) (sw_or (st_not (st_tru (se_isi 4 (B.bl 0 _ rfl) (B.bl 3 _ rfl) (se_ix (se_var 1) (se_int))))) (sw_or1 (st_cmp (o2_ne (by have := cf.un; omega)) (se_bi cr_len (B.bl 4 _ rfl) (sa_cons (se_ix (se_var 1) (se_int)) (sa_nil))) (se_var 0))))))) (sss_one (ss_ret (se_bl))) (sss_nil)) (sss_cons (ss_for cf (si_seq (se_ix (se_var 1) (se_int))) (sg_name 2 cf) (sss_one (ss_if (st_w (sw_or (st_not (st_tru (se_isi 4 (B.bl 0 _ rfl) (B.bl 3 _ rfl) (se_var 2)))) (sw_or (st_cmp (o2_ne (by have := cf.un; omega)) (se_bi cr_len (B.bl 4 _ rfl) (sa_cons (se_var 2) (sa_nil))) (se_var 0)) (sw_or1 (st_not (st_tru (se_bi (cr_allW cf.calm) (B.bl 6 _ rfl) (sa_cons (se_comp [("each", 3)] cf (si_seq (se_var 2)) (blkOk_by (by kernel_rfl)) (fun _ _ _ _ _ cf => sg_name 3 cf) (fun _ _ _ _ _ cf => sts_nil) (fun _ _ _ _ _ cf => se_and (se_isi 2 (B.bl 0 _ rfl) (B.bl 1 _ rfl) (se_var 3)) (se_and (se_not (se_isi 1 (B.bl 0 _ rfl) (B.bl 2 _ rfl) (se_var 3))) (se_one (se_chain (o2_le2 (by have := cf.un; omega)) (o2_le2 (by have := cf.un; omega)) (se_int) (se_var 3) (se_int)))))) (sa_nil))))))))) (sss_one (ss_ret (se_bl))) (sss_nil)))) (sss_cons (ss_if (st_w (sw_or (st_not (st_tru (se_isi 3 (B.bl 0 _ rfl) (B.bl 5 _ rfl) (se_ix (se_var 1) (se_int))))) (sw_or (st_cmp (o2_ne (by have := cf.un; omega)) (se_bi cr_len (B.bl 4 _ rfl) (sa_cons (se_ix (se_var 1) (se_int)) (sa_nil))) (se_var 0)) (sw_or1 (st_not (st_tru (se_bi (cr_allW cf.calm) (B.bl 6 _ rfl) (sa_cons (se_comp [("sign", 4)] cf (si_seq (se_ix (se_var 1) (se_int))) (blkOk_by (by kernel_rfl)) (fun _ _ _ _ _ cf => sg_name 4 cf) (fun _ _ _ _ _ cf => sts_nil) (fun _ _ _ _ _ cf => se_cmp (o2_in (by have := cf.un; omega)) (se_var 4) (se_lst (sa_cons (se_str [48]) (sa_cons (se_str [49]) (sa_cons (se_str [50]) (sa_nil))))))) (sa_nil))))))))) (sss_one (ss_ret (se_bl))) (sss_nil)) (sss_one (ss_ret (se_cmp (o2_eq (by have := cf.un; omega)) (se_lenSet cf (B.bl 4 _ rfl) (B.bl 14 _ rfl) (se_comp [("card", 5)] cf (si_seq (se_call 18 (IH 18 _ rfl) hr (sa_cons (se_var 0) (sa_nil)))) (blkOk_by (by kernel_rfl)) (fun _ _ _ _ _ cf => sg_name 5 cf) (fun _ _ _ _ _ cf => sts_nil) (fun _ _ _ _ _ cf => se_call 20 (IH 20 _ rfl) hr (sa_cons (se_var 1) (sa_cons (se_var 5) (sa_nil)))))) (se_bi cr_len (B.bl 4 _ rfl) (sa_cons (se_call 18 (IH 18 _ rfl) hr (sa_cons (se_var 0) (sa_nil))) (sa_nil))))))))
theorem d_law_asked (cdv : Value) (A : Around) (outer : List PySem.Env) (s : Shared) (H : Hp) (E : XK) (cf : Cfg (cxOf (L2.CX P w) P w K mg base N_law_asked "_law_asked" (defScope (top 34)) ((gs K).fa 23) cdv A outer s H E)) (hr : Room (d + 2) (A.deeper (envOfC "_law_asked" (defScope (top 34)) s.heap.objs.size ((gs K).fa 23) cdv))) :
    SSs (cxOf (L2.CX P w) P w K mg base N_law_asked "_law_asked" (defScope (top 34)) ((gs K).fa 23) cdv A outer s H E) (gs K) (defBody (top 34)) (b_law_asked (fns T d)) := by
  unfold b_law_asked
  exact sss_cons (ss_set 2 cf (se_call 22 (IH 22 _ rfl) hr (sa_cons (se_var 0) (sa_cons (se_var 1) (sa_nil))))) (sss_one (ss_ret (se_call 17 (IH 17 _ rfl) hr (sa_cons (se_tup (sa_cons (se_call 13 (IH 13 _ rfl) hr (sa_cons (se_var 0) (sa_cons (se_var 1) (sa_nil)))) (sa_cons (se_callK0 13 ["value", "number"] [1, 0] (with_kw (IH 13 _ rfl) fun fd ft => kwb_of ft.F fun _ _ _ _ _ _ us hl => match us, hl with | [_, _], _ => rfl) hr (sk_cons (se_var 1) (sk_cons (se_var 0) (sk_nil))) (hkl := ml_cons (ml_cons (ml_nil)))) (sa_nil)))) (sa_cons (se_tup (sa_cons (se_var 2) (sa_cons (se_var 2) (sa_nil)))) (sa_nil))))))
theorem d_law_bent (cdv : Value) (A : Around) (outer : List PySem.Env) (s : Shared) (H : Hp) (E : XK) (cf : Cfg (cxOf (L2.CX P w) P w K mg base N_law_bent "_law_bent" (defScope (top 35)) ((gs K).fa 24) cdv A outer s H E)) (hr : Room (d + 2) (A.deeper (envOfC "_law_bent" (defScope (top 35)) s.heap.objs.size ((gs K).fa 24) cdv))) :
    SSs (cxOf (L2.CX P w) P w K mg base N_law_bent "_law_bent" (defScope (top 35)) ((gs K).fa 24) cdv A outer s H E) (gs K) (defBody (top 35)) (b_law_bent (fns T d)) := by
  unfold b_law_bent
  exact sss_cons (ss_par 2 3 cf (sa_cons (se_ix (se_var 1) (se_int)) (sa_cons (se_call 15 (IH 15 _ rfl) hr (sa_cons (se_var 0) (sa_cons (se_bi cr_len (B.bl 4 _ rfl) (sa_cons (se_ix (se_var 1) (se_int)) (sa_nil))) (sa_nil)))) (sa_nil)))) (sss_cons (ss_par 4 5 cf (sa_cons (se_call 15 (IH 15 _ rfl) hr (sa_cons (se_var 0) (sa_cons (se_bi cr_len (B.bl 4 _ rfl) (sa_cons (se_var 2) (sa_nil))) (sa_nil)))) (sa_cons (se_call 16 (IH 16 _ rfl) hr (sa_cons (se_var 0) (sa_cons (se_lst (sa_cons (se_int) (sa_cons (se_int) (sa_cons (se_int) (sa_cons (se_int) (sa_cons (se_un un_negW (se_int)) (sa_cons (se_bl) (sa_cons (se_bl) (sa_cons (se_non) (sa_cons (se_str [49]) (sa_cons (se_tup (sa_cons (se_int) (sa_nil))) (sa_nil)))))))))))) (sa_nil)))) (sa_nil)))) (sss_cons (ss_set 6 cf (se_bin o2_add (se_bin o2_add (se_sl (se_ix (se_var 2) (se_var 3)) (so_none) (so_some (se_var 4))) (se_tup (sa_cons (se_var 5) (sa_nil)))) (se_sl (se_ix (se_var 2) (se_var 3)) (so_some (se_bin o2_add (se_var 4) (se_int))) (so_none)))) (sss_cons (ss_set 7 cf (se_call 16 (IH 16 _ rfl) hr (sa_cons (se_var 0) (sa_cons (se_lst (sa_cons (se_var 6) (sa_cons (se_var 6) (sa_cons (se_ty (cr_listG cf.calm) (B.bl 8 _ rfl) (sa_cons (se_ix (se_var 2) (se_var 3)) (sa_nil))) (sa_cons (se_sl (se_ix (se_var 2) (se_var 3)) (so_none) (so_some (se_un un_negW (se_int)))) (sa_cons (se_bin o2_add (se_ix (se_var 2) (se_var 3)) (se_tup (sa_cons (se_int) (sa_nil)))) (sa_cons (se_non) (sa_cons (se_ix (se_var 2) (se_int)) (sa_nil))))))))) (sa_nil))))) (sss_cons (ss_set 8 cf (se_call 16 (IH 16 _ rfl) hr (sa_cons (se_var 0) (sa_cons (se_lst (sa_cons (se_bin o2_add (se_ix (se_var 1) (se_int)) (se_str [48])) (sa_cons (se_sl (se_ix (se_var 1) (se_int)) (so_none) (so_some (se_un un_negW (se_int)))) (sa_cons (se_bin o2_add (se_sl (se_ix (se_var 1) (se_int)) (so_none) (so_some (se_un un_negW (se_int)))) (se_str [51])) (sa_cons (se_non) (sa_cons (se_ty (cr_listG cf.calm) (B.bl 8 _ rfl) (sa_cons (se_ix (se_var 1) (se_int)) (sa_nil))) (sa_cons (se_int) (sa_cons (se_str []) (sa_nil))))))))) (sa_nil))))) (sss_cons (ss_set 9 cf (se_lst (sa_cons (se_tup (sa_cons (se_bin o2_add (se_bin o2_add (se_sl (se_var 2) (so_none) (so_some (se_var 3))) (se_tup (sa_cons (se_var 7) (sa_nil)))) (se_sl (se_var 2) (so_some (se_bin o2_add (se_var 3) (se_int))) (so_none))) (sa_cons (se_ix (se_var 1) (se_int)) (sa_nil)))) (sa_cons (se_tup (sa_cons (se_bin o2_add (se_bin o2_add (se_sl (se_var 2) (so_none) (so_some (se_var 3))) (se_tup (sa_cons (se_var 7) (sa_nil)))) (se_sl (se_var 2) (so_some (se_bin o2_add (se_var 3) (se_int))) (so_none))) (sa_cons (se_ix (se_var 1) (se_int)) (sa_nil)))) (sa_cons (se_tup (sa_cons (se_var 2) (sa_cons (se_var 8) (sa_nil)))) (sa_cons (se_tup (sa_cons (se_rev (se_var 2)) (sa_cons (se_ix (se_var 1) (se_int)) (sa_nil)))) (sa_nil))))))) (sss_one (ss_ret (se_call 16 (IH 16 _ rfl) hr (sa_cons (se_var 0) (sa_cons (se_bin o2_add (se_var 9) (se_lst (sa_cons (se_tup (sa_cons (se_ty (cr_listG cf.calm) (B.bl 8 _ rfl) (sa_cons (se_var 2) (sa_nil))) (sa_cons (se_ix (se_var 1) (se_int)) (sa_nil)))) (sa_cons (se_lst (sa_cons (se_var 2) (sa_cons (se_ix (se_var 1) (se_int)) (sa_nil)))) (sa_cons (se_tup (sa_cons (se_var 2) (sa_nil))) (sa_cons (se_bin o2_add (se_var 1) (se_tup (sa_cons (se_str [48]) (sa_nil)))) (sa_cons (se_var 2) (sa_cons (se_ix (se_var 1) (se_int)) (sa_cons (se_non) (sa_cons (se_tup (sa_nil)) (sa_cons (se_dct0) (sa_cons (se_int) (sa_cons (se_tup (sa_cons (se_bin o2_add (se_var 2) (se_sl (se_var 2) (so_none) (so_some (se_int)))) (sa_cons (se_ix (se_var 1) (se_int)) (sa_nil)))) (sa_nil)))))))))))))) (sa_nil)))))))))))
theorem d_law_round (cdv : Value) (A : Around) (outer : List PySem.Env) (s : Shared) (H : Hp) (E : XK) (cf : Cfg (cxOf (L2.CX P w) P w K mg base N_law_round "_law_round" (defScope (top 36)) ((gs K).fa 25) cdv A outer s H E)) (hr : Room (d + 2) (A.deeper (envOfC "_law_round" (defScope (top 36)) s.heap.objs.size ((gs K).fa 25) cdv))) :
    SSs (cxOf (L2.CX P w) P w K mg base N_law_round "_law_round" (defScope (top 36)) ((gs K).fa 25) cdv A outer s H E) (gs K) (defBody (top 36)) (b_law_round (fns T d)) := by
  unfold b_law_round
  exact sss_cons (ss_for cf (si_range1 (B.bl 7 _ rfl) (sa_cons (se_int) (sa_nil))) (sg_name 1 cf) (sss_cons (ss_set 2 cf (se_bin o2_add (se_int) (se_call 15 (IH 15 _ rfl) hr (sa_cons (se_var 0) (sa_cons (se_int) (sa_nil)))))) (sss_cons (ss_set 3 cf (se_call 21 (IH 21 _ rfl) hr (sa_cons (se_var 0) (sa_cons (se_var 2) (sa_nil))))) (sss_cons (ss_set 4 cf (se_tup (sa_cons (se_ty cr_tupleW (B.bl 3 _ rfl) (sa_cons (se_comp [("row", 6)] cf (si_range1 (B.bl 7 _ rfl) (sa_cons (se_var 2) (sa_nil))) (blkOk_by (by kernel_rfl)) (fun _ _ _ _ _ cf => sg_name 6 cf) (fun _ _ _ _ _ cf => sts_nil) (fun _ _ _ _ _ cf => se_ty cr_tupleW (B.bl 3 _ rfl) (sa_cons (se_comp [("at", 7)] cf (si_range1 (B.bl 7 _ rfl) (sa_cons (se_var 2) (sa_nil))) (blkOk_by (by kernel_rfl)) (fun _ _ _ _ _ cf => sg_name 7 cf) (fun _ _ _ _ _ cf => sts_nil) (fun _ _ _ _ _ cf => se_call 15 (IH 15 _ rfl) hr (sa_cons (se_var 0) (sa_cons (se_int) (sa_nil))))) (sa_nil)))) (sa_nil))) (sa_cons (se_call 19 (IH 19 _ rfl) hr (sa_cons (se_var 0) (sa_cons (se_var 2) (sa_nil)))) (sa_nil))))) (sss_cons (ss_if (st_w (sw_or (st_not (st_tru (se_call 23 (IH 23 _ rfl) hr (sa_cons (se_var 2) (sa_cons (se_var 3) (sa_nil)))))) (sw_or (st_not (st_tru (se_call 23 (IH 23 _ rfl) hr (sa_cons (se_var 2) (sa_cons (se_var 4) (sa_nil)))))) (sw_or1 (st_not (st_tru (se_bi (cr_allW cf.calm) (B.bl 6 _ rfl) (sa_cons (se_comp [("lap", 8)] cf (si_range1 (B.bl 7 _ rfl) (sa_cons (se_int) (sa_nil))) (blkOk_by (by kernel_rfl)) (fun _ _ _ _ _ cf => sg_name 8 cf) (fun _ _ _ _ _ cf => sts_nil) (fun _ _ _ _ _ cf => se_call 23 (IH 23 _ rfl) hr (sa_cons (se_var 2) (sa_cons (se_call 24 (IH 24 _ rfl) hr (sa_cons (se_var 0) (sa_cons (se_var 3) (sa_nil)))) (sa_nil))))) (sa_nil))))))))) (sss_one (ss_ret (se_bl))) (sss_nil)) (sss_cons (ss_set 5 cf (se_bin o2_add (se_int) (se_call 15 (IH 15 _ rfl) hr (sa_cons (se_var 0) (sa_cons (se_int) (sa_nil)))))) (sss_one (ss_if (st_not (st_tru (se_call 23 (IH 23 _ rfl) hr (sa_cons (se_var 5) (sa_cons (se_var 3) (sa_nil)))))) (sss_one (ss_ret (se_bl))) (sss_nil))))))))) (sss_one (ss_ret (se_and (se_call 23 (IH 23 _ rfl) hr (sa_cons (se_int) (sa_cons (se_tup (sa_cons (se_tup (sa_cons (se_tup (sa_cons (se_int) (sa_nil))) (sa_nil))) (sa_cons (se_str [50]) (sa_nil)))) (sa_nil)))) (se_one (se_call 23 (IH 23 _ rfl) hr (sa_cons (se_int) (sa_cons (se_tup (sa_cons (se_tup (sa_cons (se_tup (sa_cons (se_int) (sa_nil))) (sa_nil))) (sa_cons (se_str [50]) (sa_nil)))) (sa_nil))))))))
theorem d_law (cdv : Value) (A : Around) (outer : List PySem.Env) (s : Shared) (H : Hp) (E : XK) (cf : Cfg (cxOf (L2.CX P w) P w K mg base N_law "law" (defScope (top 37)) ((gs K).fa 26) cdv A outer s H E)) (hr : Room (d + 2) (A.deeper (envOfC "law" (defScope (top 37)) s.heap.objs.size ((gs K).fa 26) cdv))) :
    SSs (cxOf (L2.CX P w) P w K mg base N_law "law" (defScope (top 37)) ((gs K).fa 26) cdv A outer s H E) (gs K) (defBody (top 37)) (b_law (fns T d)) := by
  unfold b_law
  exact sss_one (ss_ret (se_bi (cr_allW cf.calm) (B.bl 6 _ rfl) (sa_cons (se_comp [("turn", 1)] cf (si_range1 (B.bl 7 _ rfl) (sa_cons (se_bi (cr_max2 cf.calm) (B.bl 16 _ rfl) (sa_cons (se_int) (sa_cons (se_bi (cr_min2 cf.calm) (B.bl 15 _ rfl) (sa_cons (se_bi cr_len (B.bl 4 _ rfl) (sa_cons (se_var 0) (sa_nil))) (sa_cons (se_int) (sa_nil)))) (sa_nil)))) (sa_nil))) (blkOk_by (by kernel_rfl)) (fun _ _ _ _ _ cf => sg_name 1 cf) (fun _ _ _ _ _ cf => sts_nil) (fun _ _ _ _ _ cf => se_call 25 (IH 25 _ rfl) hr (sa_cons (se_call 14 (IH 14 _ rfl) hr (sa_cons (se_var 0) (sa_cons (se_var 1) (sa_nil)))) (sa_nil)))) (sa_nil))))
theorem step : AllF P w K mg base (gs K) T D (d + 1) := by
  intro f r h
  obtain ⟨fd, ft⟩ := IH f r h
  refine ⟨fd, ?_⟩
  match f, h with
  | 0, h =>
    have e : r_is_whole = r := Option.some.inj h
    subst e
    exact fn_step (N := N_is_whole) ft rfl rfl rfl s_is_whole (d_is_whole B IH)
  | 1, h =>
    have e : r_is_between = r := Option.some.inj h
    subst e
    exact fn_step (N := N_is_between) ft rfl rfl rfl s_is_between (d_is_between B IH)
  | 2, h =>
    have e : r_is_tuple_of = r := Option.some.inj h
    subst e
    exact fn_step (N := N_is_tuple_of) ft rfl rfl rfl s_is_tuple_of (d_is_tuple_of B IH)
  | 3, h =>
    have e : r_is_text_of = r := Option.some.inj h
    subst e
    exact fn_step (N := N_is_text_of) ft rfl rfl rfl s_is_text_of (d_is_text_of B IH)
  | 4, h =>
    have e : r_is_mark_number = r := Option.some.inj h
    subst e
    exact fn_step (N := N_is_mark_number) ft rfl rfl rfl s_is_mark_number (d_is_mark_number B IH)
  | 5, h =>
    have e : r_is_card_of = r := Option.some.inj h
    subst e
    exact fn_step (N := N_is_card_of) ft rfl rfl rfl s_is_card_of (d_is_card_of B IH)
  | 6, h =>
    have e : r_check_marks = r := Option.some.inj h
    subst e
    exact fn_step (N := N_check_marks) ft rfl rfl rfl s_check_marks (d_check_marks B IH)
  | 7, h =>
    have e : r_are_rows = r := Option.some.inj h
    subst e
    exact fn_step (N := N_are_rows) ft rfl rfl rfl s_are_rows (d_are_rows B IH)
  | 8, h =>
    have e : r_plain_rows = r := Option.some.inj h
    subst e
    exact fn_step (N := N_plain_rows) ft rfl rfl rfl s_plain_rows (d_plain_rows B IH)
  | 9, h =>
    have e : r_cleared = r := Option.some.inj h
    subst e
    exact fn_step (N := N_cleared) ft rfl rfl rfl s_cleared (d_cleared B IH)
  | 10, h =>
    have e : r_lessened = r := Option.some.inj h
    subst e
    exact fn_step (N := N_lessened) ft rfl rfl rfl s_lessened (d_lessened B IH)
  | 11, h =>
    have e : r_rows_back = r := Option.some.inj h
    subst e
    exact fn_step (N := N_rows_back) ft rfl rfl rfl s_rows_back (d_rows_back B IH)
  | 12, h =>
    have e : r_is_motion_of = r := Option.some.inj h
    subst e
    exact fn_step (N := N_is_motion_of) ft rfl rfl rfl s_is_motion_of (d_is_motion_of B IH)
  | 13, h =>
    have e : r_is_motion = r := Option.some.inj h
    subst e
    exact fn_step (N := N_is_motion) ft rfl rfl rfl s_is_motion (d_is_motion B IH)
  | 14, h =>
    have e : r_law_well = r := Option.some.inj h
    subst e
    exact fn_step (N := N_law_well) ft rfl rfl rfl s_law_well (d_law_well B IH)
  | 15, h =>
    have e : r_law_take = r := Option.some.inj h
    subst e
    exact fn_step (N := N_law_take) ft rfl rfl rfl s_law_take (d_law_take B IH)
  | 16, h =>
    have e : r_law_pick = r := Option.some.inj h
    subst e
    exact fn_step (N := N_law_pick) ft rfl rfl rfl s_law_pick (d_law_pick B IH)
  | 17, h =>
    have e : r_law_same = r := Option.some.inj h
    subst e
    exact fn_step (N := N_law_same) ft rfl rfl rfl s_law_same (d_law_same B IH)
  | 18, h =>
    have e : r_law_deck = r := Option.some.inj h
    subst e
    exact fn_step (N := N_law_deck) ft rfl rfl rfl s_law_deck (d_law_deck B IH)
  | 19, h =>
    have e : r_law_card = r := Option.some.inj h
    subst e
    exact fn_step (N := N_law_card) ft rfl rfl rfl s_law_card (d_law_card B IH)
  | 20, h =>
    have e : r_law_led = r := Option.some.inj h
    subst e
    exact fn_step (N := N_law_led) ft rfl rfl rfl s_law_led (d_law_led B IH)
  | 21, h =>
    have e : r_law_motion = r := Option.some.inj h
    subst e
    exact fn_step (N := N_law_motion) ft rfl rfl rfl s_law_motion (d_law_motion B IH)
  | 22, h =>
    have e : r_law_is_one = r := Option.some.inj h
    subst e
    exact fn_step (N := N_law_is_one) ft rfl rfl rfl s_law_is_one (d_law_is_one B IH)
  | 23, h =>
    have e : r_law_asked = r := Option.some.inj h
    subst e
    exact fn_step (N := N_law_asked) ft rfl rfl rfl s_law_asked (d_law_asked B IH)
  | 24, h =>
    have e : r_law_bent = r := Option.some.inj h
    subst e
    exact fn_step (N := N_law_bent) ft rfl rfl rfl s_law_bent (d_law_bent B IH)
  | 25, h =>
    have e : r_law_round = r := Option.some.inj h
    subst e
    exact fn_step (N := N_law_round) ft rfl rfl rfl s_law_round (d_law_round B IH)
  | 26, h =>
    have e : r_law = r := Option.some.inj h
    subst e
    exact fn_step (N := N_law) ft rfl rfl rfl s_law (d_law B IH)
  | n + 27, h => exact absurd h (by simp [D])
end
theorem all {P : Program} {w : World} {K : PySem.W.Frag} {mg : Str → Option Value} {base : Heap} (B : Fx K mg) (h0 : AllF P w K mg base (gs K) T D 0) : ∀ d, AllF P w K mg base (gs K) T D d
  | 0 => h0
  | d + 1 => step B (all B h0 d)
/-! the head -/
def fn : List He.DefD := (D.map fun r => ⟨(r.x, none), r.x, r.x, defArgs r.st, defBody r.st, defScope r.st, [], []⟩)
def fa1 : List He.Fa := D.map fun r => .glo r.x
def fa2 : List He.Fa := BL.map .free
def fa3 : List He.Fa := [.int "MOST_MARKS" (4), .str "SORTS" "012"]
def fa : List He.Fa := fa1 ++ (fa2 ++ fa3)
def ex (K : PySem.W.Frag) : Bool := true
def loose0 : List Str := (["is_whole", "is_between", "is_tuple_of", "is_text_of", "SORTS", "MOST_MARKS", "is_mark_number", "is_card_of", "ThreeError", "InvalidNumber", "check_marks", "are_rows", "plain_rows", "cleared", "lessened", "rows_back", "is_motion_of", "is_motion", "_law_well", "_law_take", "_law_pick", "_law_same", "_law_deck", "_law_card", "_law_led", "_law_motion", "_law_is_one", "_law_asked", "_law_bent", "_law_round"] : List String).map Str.ofString
def loose : List Str := loose0
abbrev Rr : PySem.W.OpenRow := PySem.W.OpenLaw.row PySem.Challenge.rw_threealike_k20_whole_motions_of_anything
abbrev hk : PySem.W.Hook := hookM 5 fa fn ex
def ob (s : PySem.W.SharedT) : He.AlD × Bool := obM 5 fa fn ex (HandSHeadRun.getT s)
theorem ob_eq (s : PySem.W.SharedT) : ob s = hk.obs s.abs := obM_eq (HandSHeadRun.getT_eq s)
theorem run (w : World) : HandSHeadRun.RunEq Rr (PySem.W.view Rr.prog [37]) hk ob 30000 loose w := by
  intro os
  kernel_rfl
theorem facts {K : PySem.W.Frag} {h : Heap} {mg : Str → Option Value} (X : K.In h) (G : h.Ns mainGlobals mg) (c : He.SaysD fa fn K) (e : ex K = true) : Fx K mg where
  bl := fun i x hx => by
    have hi : i < BL.length := (List.getElem?_eq_some_iff.mp hx).1
    refine He.free_ok X G (c.fact (27 + i) ?_)
    rw [show fa = fa1 ++ (fa2 ++ fa3) from rfl, List.getElem?_append_right (show fa1.length ≤ 27 + i from Nat.le_add_right _ i), show 27 + i - fa1.length = i from Nat.add_sub_cancel_left _ i, List.getElem?_append_left (by show i < (BL.map _).length; rw [List.length_map]; exact hi)]
    show (BL.map He.Fa.free)[i]? = _
    rw [List.getElem?_map, hx]
    rfl
  c_MOST_MARKS := He.int_ok X G (c.fact 44 (f := .int "MOST_MARKS" (4)) rfl)
  c_SORTS := He.str_ok X G (c.fact 45 (f := .str "SORTS" "012") rfl)
theorem base0 {P : Program} {w : World} {K : PySem.W.Frag} {h : Heap} {mg : Str → Option Value} {base : Heap} (X : K.In h) (G : h.Ns mainGlobals mg) (c : He.SaysD fa fn K) : AllF P w K mg base (gs K) T D 0 := by
  intro f r hr
  match f, hr with
  | 0, hr =>
    have e : r_is_whole = r := Option.some.inj hr
    subst e
    obtain ⟨fd, F⟩ := c.def_ 0 (d := ⟨(r_is_whole.x, none), r_is_whole.x, r_is_whole.x, defArgs r_is_whole.st, defBody r_is_whole.st, defScope r_is_whole.st, [], []⟩) rfl
    exact ⟨fd, ft_zero (f := 0) (He.glo_ok X G (c.fact 0 (f := .glo r_is_whole.x) rfl)) F (FunD.bindsN F fun _ _ _ _ _ _ us hl => match us, hl with | [_], _ => rfl)⟩
  | 1, hr =>
    have e : r_is_between = r := Option.some.inj hr
    subst e
    obtain ⟨fd, F⟩ := c.def_ 1 (d := ⟨(r_is_between.x, none), r_is_between.x, r_is_between.x, defArgs r_is_between.st, defBody r_is_between.st, defScope r_is_between.st, [], []⟩) rfl
    exact ⟨fd, ft_zero (f := 1) (He.glo_ok X G (c.fact 1 (f := .glo r_is_between.x) rfl)) F (FunD.bindsN F fun _ _ _ _ _ _ us hl => match us, hl with | [_, _, _], _ => rfl)⟩
  | 2, hr =>
    have e : r_is_tuple_of = r := Option.some.inj hr
    subst e
    obtain ⟨fd, F⟩ := c.def_ 2 (d := ⟨(r_is_tuple_of.x, none), r_is_tuple_of.x, r_is_tuple_of.x, defArgs r_is_tuple_of.st, defBody r_is_tuple_of.st, defScope r_is_tuple_of.st, [], []⟩) rfl
    exact ⟨fd, ft_zero (f := 2) (He.glo_ok X G (c.fact 2 (f := .glo r_is_tuple_of.x) rfl)) F (FunD.bindsN F fun _ _ _ _ _ _ us hl => match us, hl with | [_, _], _ => rfl)⟩
  | 3, hr =>
    have e : r_is_text_of = r := Option.some.inj hr
    subst e
    obtain ⟨fd, F⟩ := c.def_ 3 (d := ⟨(r_is_text_of.x, none), r_is_text_of.x, r_is_text_of.x, defArgs r_is_text_of.st, defBody r_is_text_of.st, defScope r_is_text_of.st, [], []⟩) rfl
    exact ⟨fd, ft_zero (f := 3) (He.glo_ok X G (c.fact 3 (f := .glo r_is_text_of.x) rfl)) F (FunD.bindsN F fun _ _ _ _ _ _ us hl => match us, hl with | [_, _], _ => rfl)⟩
  | 4, hr =>
    have e : r_is_mark_number = r := Option.some.inj hr
    subst e
    obtain ⟨fd, F⟩ := c.def_ 4 (d := ⟨(r_is_mark_number.x, none), r_is_mark_number.x, r_is_mark_number.x, defArgs r_is_mark_number.st, defBody r_is_mark_number.st, defScope r_is_mark_number.st, [], []⟩) rfl
    exact ⟨fd, ft_zero (f := 4) (He.glo_ok X G (c.fact 4 (f := .glo r_is_mark_number.x) rfl)) F (FunD.bindsN F fun _ _ _ _ _ _ us hl => match us, hl with | [_], _ => rfl)⟩
  | 5, hr =>
    have e : r_is_card_of = r := Option.some.inj hr
    subst e
    obtain ⟨fd, F⟩ := c.def_ 5 (d := ⟨(r_is_card_of.x, none), r_is_card_of.x, r_is_card_of.x, defArgs r_is_card_of.st, defBody r_is_card_of.st, defScope r_is_card_of.st, [], []⟩) rfl
    exact ⟨fd, ft_zero (f := 5) (He.glo_ok X G (c.fact 5 (f := .glo r_is_card_of.x) rfl)) F (FunD.bindsN F fun _ _ _ _ _ _ us hl => match us, hl with | [_, _], _ => rfl)⟩
  | 6, hr =>
    have e : r_check_marks = r := Option.some.inj hr
    subst e
    obtain ⟨fd, F⟩ := c.def_ 6 (d := ⟨(r_check_marks.x, none), r_check_marks.x, r_check_marks.x, defArgs r_check_marks.st, defBody r_check_marks.st, defScope r_check_marks.st, [], []⟩) rfl
    exact ⟨fd, ft_zero (f := 6) (He.glo_ok X G (c.fact 6 (f := .glo r_check_marks.x) rfl)) F (FunD.bindsN F fun _ _ _ _ _ _ us hl => match us, hl with | [_], _ => rfl)⟩
  | 7, hr =>
    have e : r_are_rows = r := Option.some.inj hr
    subst e
    obtain ⟨fd, F⟩ := c.def_ 7 (d := ⟨(r_are_rows.x, none), r_are_rows.x, r_are_rows.x, defArgs r_are_rows.st, defBody r_are_rows.st, defScope r_are_rows.st, [], []⟩) rfl
    exact ⟨fd, ft_zero (f := 7) (He.glo_ok X G (c.fact 7 (f := .glo r_are_rows.x) rfl)) F (FunD.bindsN F fun _ _ _ _ _ _ us hl => match us, hl with | [_, _], _ => rfl)⟩
  | 8, hr =>
    have e : r_plain_rows = r := Option.some.inj hr
    subst e
    obtain ⟨fd, F⟩ := c.def_ 8 (d := ⟨(r_plain_rows.x, none), r_plain_rows.x, r_plain_rows.x, defArgs r_plain_rows.st, defBody r_plain_rows.st, defScope r_plain_rows.st, [], []⟩) rfl
    exact ⟨fd, ft_zero (f := 8) (He.glo_ok X G (c.fact 8 (f := .glo r_plain_rows.x) rfl)) F (FunD.bindsN F fun _ _ _ _ _ _ us hl => match us, hl with | [_], _ => rfl)⟩
  | 9, hr =>
    have e : r_cleared = r := Option.some.inj hr
    subst e
    obtain ⟨fd, F⟩ := c.def_ 9 (d := ⟨(r_cleared.x, none), r_cleared.x, r_cleared.x, defArgs r_cleared.st, defBody r_cleared.st, defScope r_cleared.st, [], []⟩) rfl
    exact ⟨fd, ft_zero (f := 9) (He.glo_ok X G (c.fact 9 (f := .glo r_cleared.x) rfl)) F (FunD.bindsN F fun _ _ _ _ _ _ us hl => match us, hl with | [_, _, _], _ => rfl)⟩
  | 10, hr =>
    have e : r_lessened = r := Option.some.inj hr
    subst e
    obtain ⟨fd, F⟩ := c.def_ 10 (d := ⟨(r_lessened.x, none), r_lessened.x, r_lessened.x, defArgs r_lessened.st, defBody r_lessened.st, defScope r_lessened.st, [], []⟩) rfl
    exact ⟨fd, ft_zero (f := 10) (He.glo_ok X G (c.fact 10 (f := .glo r_lessened.x) rfl)) F (FunD.bindsN F fun _ _ _ _ _ _ us hl => match us, hl with | [_, _, _], _ => rfl)⟩
  | 11, hr =>
    have e : r_rows_back = r := Option.some.inj hr
    subst e
    obtain ⟨fd, F⟩ := c.def_ 11 (d := ⟨(r_rows_back.x, none), r_rows_back.x, r_rows_back.x, defArgs r_rows_back.st, defBody r_rows_back.st, defScope r_rows_back.st, [], []⟩) rfl
    exact ⟨fd, ft_zero (f := 11) (He.glo_ok X G (c.fact 11 (f := .glo r_rows_back.x) rfl)) F (FunD.bindsN F fun _ _ _ _ _ _ us hl => match us, hl with | [_], _ => rfl)⟩
  | 12, hr =>
    have e : r_is_motion_of = r := Option.some.inj hr
    subst e
    obtain ⟨fd, F⟩ := c.def_ 12 (d := ⟨(r_is_motion_of.x, none), r_is_motion_of.x, r_is_motion_of.x, defArgs r_is_motion_of.st, defBody r_is_motion_of.st, defScope r_is_motion_of.st, [], []⟩) rfl
    exact ⟨fd, ft_zero (f := 12) (He.glo_ok X G (c.fact 12 (f := .glo r_is_motion_of.x) rfl)) F (FunD.bindsN F fun _ _ _ _ _ _ us hl => match us, hl with | [_, _], _ => rfl)⟩
  | 13, hr =>
    have e : r_is_motion = r := Option.some.inj hr
    subst e
    obtain ⟨fd, F⟩ := c.def_ 13 (d := ⟨(r_is_motion.x, none), r_is_motion.x, r_is_motion.x, defArgs r_is_motion.st, defBody r_is_motion.st, defScope r_is_motion.st, [], []⟩) rfl
    exact ⟨fd, ft_zero (f := 13) (He.glo_ok X G (c.fact 13 (f := .glo r_is_motion.x) rfl)) F (FunD.bindsN F fun _ _ _ _ _ _ us hl => match us, hl with | [_, _], _ => rfl)⟩
  | 14, hr =>
    have e : r_law_well = r := Option.some.inj hr
    subst e
    obtain ⟨fd, F⟩ := c.def_ 14 (d := ⟨(r_law_well.x, none), r_law_well.x, r_law_well.x, defArgs r_law_well.st, defBody r_law_well.st, defScope r_law_well.st, [], []⟩) rfl
    exact ⟨fd, ft_zero (f := 14) (He.glo_ok X G (c.fact 14 (f := .glo r_law_well.x) rfl)) F (FunD.bindsN F fun _ _ _ _ _ _ us hl => match us, hl with | [_, _], _ => rfl)⟩
  | 15, hr =>
    have e : r_law_take = r := Option.some.inj hr
    subst e
    obtain ⟨fd, F⟩ := c.def_ 15 (d := ⟨(r_law_take.x, none), r_law_take.x, r_law_take.x, defArgs r_law_take.st, defBody r_law_take.st, defScope r_law_take.st, [], []⟩) rfl
    exact ⟨fd, ft_zero (f := 15) (He.glo_ok X G (c.fact 15 (f := .glo r_law_take.x) rfl)) F (FunD.bindsN F fun _ _ _ _ _ _ us hl => match us, hl with | [_, _], _ => rfl)⟩
  | 16, hr =>
    have e : r_law_pick = r := Option.some.inj hr
    subst e
    obtain ⟨fd, F⟩ := c.def_ 16 (d := ⟨(r_law_pick.x, none), r_law_pick.x, r_law_pick.x, defArgs r_law_pick.st, defBody r_law_pick.st, defScope r_law_pick.st, [], []⟩) rfl
    exact ⟨fd, ft_zero (f := 16) (He.glo_ok X G (c.fact 16 (f := .glo r_law_pick.x) rfl)) F (FunD.bindsN F fun _ _ _ _ _ _ us hl => match us, hl with | [_, _], _ => rfl)⟩
  | 17, hr =>
    have e : r_law_same = r := Option.some.inj hr
    subst e
    obtain ⟨fd, F⟩ := c.def_ 17 (d := ⟨(r_law_same.x, none), r_law_same.x, r_law_same.x, defArgs r_law_same.st, defBody r_law_same.st, defScope r_law_same.st, [], []⟩) rfl
    exact ⟨fd, ft_zero (f := 17) (He.glo_ok X G (c.fact 17 (f := .glo r_law_same.x) rfl)) F (FunD.bindsN F fun _ _ _ _ _ _ us hl => match us, hl with | [_, _], _ => rfl)⟩
  | 18, hr =>
    have e : r_law_deck = r := Option.some.inj hr
    subst e
    obtain ⟨fd, F⟩ := c.def_ 18 (d := ⟨(r_law_deck.x, none), r_law_deck.x, r_law_deck.x, defArgs r_law_deck.st, defBody r_law_deck.st, defScope r_law_deck.st, [], []⟩) rfl
    exact ⟨fd, ft_zero (f := 18) (He.glo_ok X G (c.fact 18 (f := .glo r_law_deck.x) rfl)) F (FunD.bindsN F fun _ _ _ _ _ _ us hl => match us, hl with | [_], _ => rfl)⟩
  | 19, hr =>
    have e : r_law_card = r := Option.some.inj hr
    subst e
    obtain ⟨fd, F⟩ := c.def_ 19 (d := ⟨(r_law_card.x, none), r_law_card.x, r_law_card.x, defArgs r_law_card.st, defBody r_law_card.st, defScope r_law_card.st, [], []⟩) rfl
    exact ⟨fd, ft_zero (f := 19) (He.glo_ok X G (c.fact 19 (f := .glo r_law_card.x) rfl)) F (FunD.bindsN F fun _ _ _ _ _ _ us hl => match us, hl with | [_, _], _ => rfl)⟩
  | 20, hr =>
    have e : r_law_led = r := Option.some.inj hr
    subst e
    obtain ⟨fd, F⟩ := c.def_ 20 (d := ⟨(r_law_led.x, none), r_law_led.x, r_law_led.x, defArgs r_law_led.st, defBody r_law_led.st, defScope r_law_led.st, [], []⟩) rfl
    exact ⟨fd, ft_zero (f := 20) (He.glo_ok X G (c.fact 20 (f := .glo r_law_led.x) rfl)) F (FunD.bindsN F fun _ _ _ _ _ _ us hl => match us, hl with | [_, _], _ => rfl)⟩
  | 21, hr =>
    have e : r_law_motion = r := Option.some.inj hr
    subst e
    obtain ⟨fd, F⟩ := c.def_ 21 (d := ⟨(r_law_motion.x, none), r_law_motion.x, r_law_motion.x, defArgs r_law_motion.st, defBody r_law_motion.st, defScope r_law_motion.st, [], []⟩) rfl
    exact ⟨fd, ft_zero (f := 21) (He.glo_ok X G (c.fact 21 (f := .glo r_law_motion.x) rfl)) F (FunD.bindsN F fun _ _ _ _ _ _ us hl => match us, hl with | [_, _], _ => rfl)⟩
  | 22, hr =>
    have e : r_law_is_one = r := Option.some.inj hr
    subst e
    obtain ⟨fd, F⟩ := c.def_ 22 (d := ⟨(r_law_is_one.x, none), r_law_is_one.x, r_law_is_one.x, defArgs r_law_is_one.st, defBody r_law_is_one.st, defScope r_law_is_one.st, [], []⟩) rfl
    exact ⟨fd, ft_zero (f := 22) (He.glo_ok X G (c.fact 22 (f := .glo r_law_is_one.x) rfl)) F (FunD.bindsN F fun _ _ _ _ _ _ us hl => match us, hl with | [_, _], _ => rfl)⟩
  | 23, hr =>
    have e : r_law_asked = r := Option.some.inj hr
    subst e
    obtain ⟨fd, F⟩ := c.def_ 23 (d := ⟨(r_law_asked.x, none), r_law_asked.x, r_law_asked.x, defArgs r_law_asked.st, defBody r_law_asked.st, defScope r_law_asked.st, [], []⟩) rfl
    exact ⟨fd, ft_zero (f := 23) (He.glo_ok X G (c.fact 23 (f := .glo r_law_asked.x) rfl)) F (FunD.bindsN F fun _ _ _ _ _ _ us hl => match us, hl with | [_, _], _ => rfl)⟩
  | 24, hr =>
    have e : r_law_bent = r := Option.some.inj hr
    subst e
    obtain ⟨fd, F⟩ := c.def_ 24 (d := ⟨(r_law_bent.x, none), r_law_bent.x, r_law_bent.x, defArgs r_law_bent.st, defBody r_law_bent.st, defScope r_law_bent.st, [], []⟩) rfl
    exact ⟨fd, ft_zero (f := 24) (He.glo_ok X G (c.fact 24 (f := .glo r_law_bent.x) rfl)) F (FunD.bindsN F fun _ _ _ _ _ _ us hl => match us, hl with | [_, _], _ => rfl)⟩
  | 25, hr =>
    have e : r_law_round = r := Option.some.inj hr
    subst e
    obtain ⟨fd, F⟩ := c.def_ 25 (d := ⟨(r_law_round.x, none), r_law_round.x, r_law_round.x, defArgs r_law_round.st, defBody r_law_round.st, defScope r_law_round.st, [], []⟩) rfl
    exact ⟨fd, ft_zero (f := 25) (He.glo_ok X G (c.fact 25 (f := .glo r_law_round.x) rfl)) F (FunD.bindsN F fun _ _ _ _ _ _ us hl => match us, hl with | [_], _ => rfl)⟩
  | 26, hr =>
    have e : r_law = r := Option.some.inj hr
    subst e
    obtain ⟨fd, F⟩ := c.def_ 26 (d := ⟨(r_law.x, none), r_law.x, r_law.x, defArgs r_law.st, defBody r_law.st, defScope r_law.st, [], []⟩) rfl
    exact ⟨fd, ft_zero (f := 26) (He.glo_ok X G (c.fact 26 (f := .glo r_law.x) rfl)) F (FunD.bindsN F fun _ _ _ _ _ _ us hl => match us, hl with | [_], _ => rfl)⟩
  | n + 27, hr => exact absurd hr (by simp [D])
def law (d : Nat) : List W → Store → R W := fns T d 26
end Lw


/-! k63, k60 ..: sums of numbers without carry, plainly: leads, what they span. -/
namespace C63
def stp (x l : Nat) : Nat := if x ^^^ l < x then x ^^^ l else x
def red : List Nat → Nat → Nat
  | [], x => x
  | l :: L, x => red L (stp x l)
def inSp : List Nat → Nat → Prop
  | [], y => y = 0
  | l :: L, y => inSp L y ∨ inSp L (y ^^^ l)
theorem top_bit {l : Nat} (h : l ≠ 0) : l.testBit l.log2 = true := by
  rw [Nat.testBit_eq_decide_div_mod_eq]
  have a := Nat.log2_self_le h
  have b : l < 2 ^ (l.log2 + 1) := Nat.lt_log2_self
  have c : l / 2 ^ l.log2 = 1 := by
    refine Nat.div_eq_of_lt_le (by rw [Nat.one_mul]; exact a) ?_
    rw [Nat.pow_succ] at b
    omega
  rw [c]
  decide
theorem above {l j : Nat} (h : l.log2 < j) : l.testBit j = false := by
  refine Nat.testBit_lt_two_pow (Nat.lt_of_lt_of_le Nat.lt_log2_self ?_)
  exact Nat.pow_le_pow_right (by decide) h
theorem lt_of_bit {n m : Nat} (i : Nat) (hn : n.testBit i = false) (hm : m.testBit i = true) (h : ∀ j, i < j → n.testBit j = m.testBit j) : n < m := by
  rw [Nat.testBit_eq_decide_div_mod_eq, decide_eq_false_iff_not] at hn
  rw [Nat.testBit_eq_decide_div_mod_eq, decide_eq_true_eq] at hm
  have e : n / 2 ^ i / 2 = m / 2 ^ i / 2 := by
    rw [Nat.div_div_eq_div_mul, Nat.div_div_eq_div_mul, ← Nat.pow_succ]
    refine Nat.eq_of_testBit_eq fun j => ?_
    rw [Nat.testBit_div_two_pow, Nat.testBit_div_two_pow]
    exact h _ (by omega)
  have a1 : n < 2 ^ i * (n / 2 ^ i + 1) := Nat.lt_mul_div_succ n (Nat.pow_pos (by decide))
  have a2 : 2 ^ i * (m / 2 ^ i) ≤ m := Nat.mul_div_le m _
  have a3 : n / 2 ^ i + 1 ≤ m / 2 ^ i := by omega
  have a4 : 2 ^ i * (n / 2 ^ i + 1) ≤ 2 ^ i * (m / 2 ^ i) := Nat.mul_le_mul_left _ a3
  omega
theorem few : ∀ (n : Nat) (l : List Nat), l.Nodup → (∀ x ∈ l, x < n) → l.length ≤ n
  | 0, l, _, h => by
    cases l with
    | nil => exact Nat.le_refl 0
    | cons x r => exact absurd (h x (List.mem_cons_self ..)) (Nat.not_lt_zero _)
  | n + 1, l, nd, h => by
    by_cases hm : n ∈ l
    · have ih := few n (l.erase n) (nd.erase n) fun x hx => by
        obtain ⟨h1, h2⟩ := nd.mem_erase_iff.mp hx
        have := h x h2
        omega
      rw [List.length_erase_of_mem hm] at ih
      omega
    · have ih := few n l nd fun x hx => by
        have h1 := h x hx
        have h2 : x ≠ n := fun z => hm (z ▸ hx)
        omega
      omega
theorem stp_eq {l : Nat} (h : l ≠ 0) (x : Nat) : stp x l = if x.testBit l.log2 = true then x ^^^ l else x := by
  unfold stp
  by_cases b : x.testBit l.log2 = true
  · rw [if_pos b, if_pos]
    refine lt_of_bit l.log2 ?_ b fun j hj => ?_
    · rw [Nat.testBit_xor, b, top_bit h]
      rfl
    · rw [Nat.testBit_xor, above hj, Bool.xor_false]
  · rw [if_neg b, if_neg]
    have b : x.testBit l.log2 = false := by simpa using b
    have : x < x ^^^ l := by
      refine lt_of_bit l.log2 b ?_ fun j hj => ?_
      · rw [Nat.testBit_xor, b, top_bit h]
        rfl
      · rw [Nat.testBit_xor, above hj, Bool.xor_false]
    omega
theorem xor_assoc3 (a b c : Nat) : (a ^^^ b) ^^^ c = (a ^^^ c) ^^^ b := by
  rw [Nat.xor_assoc, Nat.xor_comm b c, ← Nat.xor_assoc]
theorem sp_zero : ∀ L, inSp L 0
  | [] => rfl
  | _ :: L => .inl (sp_zero L)
theorem sp_xor : ∀ (L : List Nat) {a b : Nat}, inSp L a → inSp L b → inSp L (a ^^^ b)
  | [], a, b, h, k => by
    have h : a = 0 := h
    have k : b = 0 := k
    rw [h, k]
    exact Nat.xor_self 0
  | l :: L, a, b, h, k => by
    rcases h with h | h
    · rcases k with k | k
      · exact .inl (sp_xor L h k)
      · refine .inr ?_
        rw [Nat.xor_assoc]
        exact sp_xor L h k
    · rcases k with k | k
      · refine .inr ?_
        rw [xor_assoc3]
        exact sp_xor L h k
      · refine .inl ?_
        have z := sp_xor L h k
        rw [Nat.xor_assoc, Nat.xor_comm l, Nat.xor_assoc, Nat.xor_self, Nat.xor_zero] at z
        exact z
theorem sp_red : ∀ (L : List Nat) (x : Nat), inSp L (x ^^^ red L x)
  | [], x => Nat.xor_self x
  | l :: L, x => by
    have ih := sp_red L (stp x l)
    show inSp L (x ^^^ red L (stp x l)) ∨ inSp L (x ^^^ red L (stp x l) ^^^ l)
    unfold stp at ih ⊢
    split at ih
    · refine .inr ?_
      rename_i h
      rw [if_pos h]
      rw [xor_assoc3]
      exact ih
    · rename_i h
      rw [if_neg h]
      exact .inl ih
def Good (L : List Nat) : Prop := (∀ l ∈ L, l ≠ 0) ∧ L.Pairwise fun a b => b.testBit a.log2 = false
theorem Good.tail {l : Nat} {L : List Nat} (h : Good (l :: L)) : Good L := ⟨fun x hx => h.1 x (List.mem_cons_of_mem _ hx), (List.pairwise_cons.mp h.2).2⟩
theorem sp_bit {t : Nat} : ∀ {L : List Nat}, (∀ l ∈ L, l.testBit t = false) → ∀ {y : Nat}, inSp L y → y.testBit t = false
  | [], _, y, h => by
    have h : y = 0 := h
    rw [h]
    exact Nat.zero_testBit t
  | l :: L, hb, y, h => by
    have hL : ∀ l ∈ L, l.testBit t = false := fun x hx => hb x (List.mem_cons_of_mem _ hx)
    rcases h with h | h
    · exact sp_bit hL h
    · have z := sp_bit hL h
      rw [Nat.testBit_xor, hb l (List.mem_cons_self ..), Bool.xor_false] at z
      exact z
theorem sp_clear : ∀ {L : List Nat}, Good L → ∀ {y : Nat}, inSp L y → (∀ l ∈ L, y.testBit l.log2 = false) → y = 0
  | [], _, y, h, _ => h
  | l :: L, g, y, h, hb => by
    have hp := (List.pairwise_cons.mp g.2).1
    rcases h with h | h
    · exact sp_clear g.tail h fun x hx => hb x (List.mem_cons_of_mem _ hx)
    · have z := sp_bit hp h
      rw [Nat.testBit_xor, hb l (List.mem_cons_self ..), top_bit (g.1 l (List.mem_cons_self ..))] at z
      cases z
theorem red_keep {t : Nat} : ∀ {L : List Nat}, (∀ l ∈ L, l ≠ 0 ∧ l.testBit t = false) → ∀ (x : Nat), (red L x).testBit t = x.testBit t
  | [], _, x => rfl
  | l :: L, h, x => by
    have ih := red_keep (t := t) (L := L) (fun y hy => h y (List.mem_cons_of_mem _ hy)) (stp x l)
    show (red L (stp x l)).testBit t = _
    rw [ih, stp_eq (h l (List.mem_cons_self ..)).1]
    split
    · rw [Nat.testBit_xor, (h l (List.mem_cons_self ..)).2, Bool.xor_false]
    · rfl
theorem red_bits : ∀ {L : List Nat}, Good L → ∀ (x l : Nat), l ∈ L → (red L x).testBit l.log2 = false
  | [], _, x, l, h => by cases h
  | a :: L, g, x, l, h => by
    have hp := (List.pairwise_cons.mp g.2).1
    show (red L (stp x a)).testBit l.log2 = false
    rcases List.mem_cons.mp h with e | h
    · subst e
      rw [red_keep fun y hy => ⟨g.tail.1 y hy, hp y hy⟩, stp_eq (g.1 l (List.mem_cons_self ..))]
      split
      · rename_i b
        rw [Nat.testBit_xor, b, top_bit (g.1 l (List.mem_cons_self ..))]
        rfl
      · rename_i b
        simpa using b
    · exact red_bits g.tail _ l h
theorem red_zero {L : List Nat} (g : Good L) (x : Nat) : red L x = 0 ↔ inSp L x := by
  constructor
  · intro h
    have z := sp_red L x
    rw [h, Nat.xor_zero] at z
    exact z
  · intro h
    refine sp_clear g ?_ fun l hl => red_bits g x l hl
    have z := sp_xor L h (sp_red L x)
    rw [← Nat.xor_assoc, Nat.xor_self, Nat.zero_xor] at z
    exact z
theorem good_push {L : List Nat} (g : Good L) {x : Nat} (h : red L x ≠ 0) : Good (L ++ [red L x]) := by
  refine ⟨fun l hl => ?_, ?_⟩
  · rcases List.mem_append.mp hl with z | z
    · exact g.1 l z
    · rw [List.mem_singleton.mp z]
      exact h
  · refine List.pairwise_append.mpr ⟨g.2, List.pairwise_singleton _ _, fun a ha b hb => ?_⟩
    rw [List.mem_singleton.mp hb]
    exact red_bits g x a ha
theorem sp_perm {L M : List Nat} (p : L.Perm M) : ∀ y, inSp L y ↔ inSp M y := by
  induction p with
  | nil => exact fun _ => Iff.rfl
  | cons a p ih => exact fun y => or_congr (ih y) (ih _)
  | swap a b l =>
    intro y
    show ((inSp l y ∨ inSp l (y ^^^ a)) ∨ (inSp l (y ^^^ b) ∨ inSp l (y ^^^ b ^^^ a))) ↔ ((inSp l y ∨ inSp l (y ^^^ b)) ∨ (inSp l (y ^^^ a) ∨ inSp l (y ^^^ a ^^^ b)))
    rw [xor_assoc3 y b a]
    constructor
    · rintro ((h | h) | (h | h))
      · exact .inl (.inl h)
      · exact .inr (.inl h)
      · exact .inl (.inr h)
      · exact .inr (.inr h)
    · rintro ((h | h) | (h | h))
      · exact .inl (.inl h)
      · exact .inr (.inl h)
      · exact .inl (.inr h)
      · exact .inr (.inr h)
  | trans _ _ ih1 ih2 => exact fun y => (ih1 y).trans (ih2 y)
/-- with one more: what is spanned is told by the number itself -/
theorem sp_push (L : List Nat) (x y : Nat) : inSp (L ++ [red L x]) y ↔ (inSp L y ∨ inSp L (y ^^^ x)) := by
  rw [sp_perm (List.perm_append_comm (l₁ := L) (l₂ := [red L x])) y]
  show (inSp L y ∨ inSp L (y ^^^ red L x)) ↔ _
  have s := sp_red L x
  refine or_congr Iff.rfl ⟨fun h => ?_, fun h => ?_⟩
  · have z := sp_xor L h s
    rw [Nat.xor_comm x, ← Nat.xor_assoc, Nat.xor_assoc y, Nat.xor_self, Nat.xor_zero] at z
    exact z
  · have z := sp_xor L h s
    rw [← Nat.xor_assoc, Nat.xor_assoc y, Nat.xor_self, Nat.xor_zero] at z
    exact z
theorem good_tops {L : List Nat} (g : Good L) : (L.map Nat.log2).Nodup := by
  refine List.pairwise_map.mpr ?_
  refine List.Pairwise.imp_of_mem ?_ g.2
  intro a b _ hb h e
  rw [e, top_bit (g.1 b hb)] at h
  cases h
theorem log_le {a b : Nat} (hb : b ≠ 0) (h : b ≤ a) : b.log2 ≤ a.log2 := by
  rcases Nat.lt_or_ge a.log2 b.log2 with z | z
  · have h1 : a < 2 ^ (a.log2 + 1) := Nat.lt_log2_self
    have h2 := Nat.log2_self_le hb
    have h3 : 2 ^ (a.log2 + 1) ≤ 2 ^ b.log2 := Nat.pow_le_pow_right (by decide) z
    omega
  · exact z
theorem good_desc {L M : List Nat} (g : Good L) (p : M.Perm L) (d : M.Pairwise (· ≥ ·)) : Good M := by
  have nz : ∀ l ∈ M, l ≠ 0 := fun l hl => g.1 l (p.mem_iff.mp hl)
  have nd : (M.map Nat.log2).Nodup := (p.map Nat.log2).nodup_iff.mpr (good_tops g)
  refine ⟨nz, ?_⟩
  have nd := List.pairwise_map.mp nd
  refine List.Pairwise.imp_of_mem ?_ (List.pairwise_and_iff.mpr ⟨d, nd⟩)
  rintro a b ha hb ⟨h1, h2⟩
  refine above ?_
  have := log_le (nz b hb) h1
  omega
/-- two ways that go along -/
def Same (L M : List Nat) : Prop := Good L ∧ Good M ∧ L.length = M.length ∧ ∀ y, inSp L y ↔ inSp M y
theorem same_nil : Same [] [] := ⟨⟨fun _ h => (by cases h), List.Pairwise.nil⟩, ⟨fun _ h => (by cases h), List.Pairwise.nil⟩, rfl, fun _ => Iff.rfl⟩
theorem same_zero {L M : List Nat} (s : Same L M) (x : Nat) : red L x = 0 ↔ red M x = 0 := by
  rw [red_zero s.1, red_zero s.2.1]
  exact s.2.2.2 x
theorem same_push {L M M' : List Nat} (s : Same L M) {x : Nat} (h : red L x ≠ 0) (p : M'.Perm (M ++ [red M x])) (d : M'.Pairwise (· ≥ ·)) : Same (L ++ [red L x]) M' := by
  have h2 : red M x ≠ 0 := fun z => h ((same_zero s x).mpr z)
  refine ⟨good_push s.1 h, good_desc (good_push s.2.1 h2) p d, ?_, fun y => ?_⟩
  · rw [p.length_eq, List.length_append, List.length_append, s.2.2.1]
    rfl
  · rw [sp_perm p y, sp_push, sp_push]
    exact or_congr (s.2.2.2 y) (s.2.2.2 _)
theorem red_lt {n : Nat} : ∀ {L : List Nat}, (∀ l ∈ L, l < 2 ^ n) → ∀ {x : Nat}, x < 2 ^ n → red L x < 2 ^ n
  | [], _, x, h => h
  | l :: L, hL, x, h => by
    refine red_lt (fun y hy => hL y (List.mem_cons_of_mem _ hy)) ?_
    unfold stp
    split
    · exact Nat.xor_lt_two_pow h (hL l (List.mem_cons_self ..))
    · exact h
theorem good_few {n : Nat} {L : List Nat} (g : Good L) (h : ∀ l ∈ L, l < 2 ^ n) : L.length ≤ n := by
  have nd := good_tops g
  have z := few n _ nd fun t ht => by
    obtain ⟨l, hl, rfl⟩ := List.mem_map.mp ht
    exact (Nat.log2_lt (g.1 l hl)).mpr (h l hl)
  rw [List.length_map] at z
  exact z
end C63


namespace Lw
open Mp C63
def isStr (r : R W) (s : List Nat) : Bool := match r with
  | .ok (.str t) [] => decide (t = s)
  | _ => false
def isInt (r : R W) (i : Int) : Bool := match r with
  | .ok (.int j) [] => decide (j = i)
  | _ => false
def isTrue (r : R W) : Bool := match r with
  | .ok (.bl true) [] => true
  | _ => false
theorem isStr_ok {r : R W} {s : List Nat} (h : isStr r s = true) : r = .ok (.str s) [] := by
  unfold isStr at h
  split at h
  · rw [of_decide_eq_true h]
  · cases h
theorem isInt_ok {r : R W} {i : Int} (h : isInt r i = true) : r = .ok (.int i) [] := by
  unfold isInt at h
  split at h
  · rw [of_decide_eq_true h]
  · cases h
theorem isTrue_ok {r : R W} (h : isTrue r = true) : r = .ok (.bl true) [] := by
  unfold isTrue at h
  split at h
  · rfl
  · cases h
theorem rangeW_succ (s k : Nat) : rangeW (s : Int) (k + 1) = .int s :: rangeW ((s + 1 : Nat) : Int) k := by
  unfold rangeW
  rw [List.range_succ_eq_map, List.map_cons, List.map_map]
  have e : (s : Int) + ((0 : Nat) : Int) = s := by simp
  rw [e]
  refine congrArg _ (List.map_congr_left fun i _ => ?_)
  show W.int _ = W.int _
  congr 1
  push_cast
  omega
theorem rng_int (a b : Nat) (h : a ≤ b) : rangeW (a : Int) (((b : Nat) : Int) - (a : Int)).toNat = rangeW (a : Int) (b - a) := by
  rw [show (((b : Nat) : Int) - (a : Int)).toNat = b - a by omega]
theorem miRng_ok {o : List W → Option (List W)} {ga : MA} {η : Env} {S S1 : Store} {ws xs : List W} (h : ga η S = .ok ws S1) (k : o ws = some xs) : miRng o ga η S = .ok xs S1 := by
  unfold miRng
  rw [h]
  show rOpt (o ws) S1 = _
  rw [k] <;> rfl
theorem fr_ret {T : List Fun} {d k np nv : Nat} {b : Fns → MS} {ws : List W} {η : Env} {S S' : Store} {w : W} (h : T[k]? = some ⟨np, nv, false, true, b⟩) (hl : ws.length = np) (hp : pures ws = true) (hη : ws.map some ++ List.replicate (nv - np) none = η) (e : b (fns T d) η [] = .ret w S') (pw : w.pure = true) : fns T (d + 1) k ws S = .ok w S := by
  rw [fns_fr h hl hp rfl]
  show R.frame S (finS false 0 (b (fns T d) (ws.map some ++ List.replicate (nv - np) none) [])) = _
  rw [hη, e]
  show R.frame S (fin false 0 w S') = _
  unfold fin
  rw [if_pos pw]
  exact if_pos pw
theorem mMeth_ok {c : Nat} {o : OM} {f : ME} {ga : MA} {η : Env} {S S1 S2 S3 : Store} {x w : W} {ws : List W} (hf : f η S = .ok x S1) (hr : recOk c S1 x = true) (hg : ga η S1 = .ok ws S2) (ho : o x ws S2 = some (w, S3)) : mMeth c o f ga η S = .ok w S3 := by
  unfold mMeth
  rw [hf]
  show (if recOk c S1 x = true then (ga η S1).bind fun ws S2 => rOM (o x ws S2) else .stuck) = _
  rw [if_pos hr, hg]
  show rOM (o x ws S2) = _
  rw [ho] <;> rfl
theorem rng1_nat {b : Nat} (hb : b < 1000000) : rng1 [.int (b : Int)] = some (rangeW 0 b) := by
  show (if -4611686018427387904 ≤ (b : Int) ∧ (b : Int) < 4611686018427387904 then some (rangeW 0 ((b : Int)).toNat) else none) = _
  rw [if_pos ⟨by omega, by omega⟩, Int.toNat_natCast]
theorem sDrop_ok {f : ME} {η : Env} {S S1 : Store} {w : W} (h : f η S = .ok w S1) : sDrop f η S = .nx η S1 := by
  unfold sDrop
  rw [h] <;> rfl
theorem mAnd_t {f g : ME} {η : Env} {S S1 : Store} {x : W} (h : f η S = .ok x S1) (ht : truthy S1 x = some true) : mAnd f g η S = g η S1 := by
  unfold mAnd
  rw [h]
  show (rTruth x S1).bind _ = _
  unfold rTruth
  rw [ht]
  rfl
theorem fr_non {T : List Fun} {d k np nv : Nat} {b : Fns → MS} {ws : List W} {η η' : Env} {S S' : Store} (h : T[k]? = some ⟨np, nv, false, true, b⟩) (hl : ws.length = np) (hp : pures ws = true) (hη : ws.map some ++ List.replicate (nv - np) none = η) (e : b (fns T d) η [] = .nx η' S') : fns T (d + 1) k ws S = .ok .non S := by
  rw [fns_fr h hl hp rfl]
  show R.frame S (finS false 0 (b (fns T d) (ws.map some ++ List.replicate (nv - np) none) [])) = _
  rw [hη, e]
  rfl
theorem comp_gen {it : MI} {own : List Nat} {g : MG} {t : MT} {e : ME} {η : Env} {S : Store} {α : Type} {u v : α → W} {l : List α} (hi : it η S = .ok (l.map u) S) (h : ∀ i, i ∈ l → ∃ η1, g (u i) (wipeE η own) S = some (η1, S) ∧ t η1 S = .ok true S ∧ e η1 S = .ok (v i) S) (hl : l.length ≤ bigLine) : mComp it own g t e η S = .ok (.lst (l.map v)) S := by
  unfold mComp
  rw [hi]
  show (noexc (compL g t e (wipeE η own) (l.map u) S [])).bind (fun ws S2 => R.ok (W.lst ws) S2) = _
  have key : ∀ (xs : List α) (acc : List W), (∀ i, i ∈ xs → ∃ η1, g (u i) (wipeE η own) S = some (η1, S) ∧ t η1 S = .ok true S ∧ e η1 S = .ok (v i) S) → acc.length + xs.length ≤ bigLine → compL g t e (wipeE η own) (xs.map u) S acc = .ok (acc ++ xs.map v) S := by
    intro xs
    induction xs with
    | nil =>
      intro acc _ _
      show R.ok acc S = _
      rw [List.map_nil, List.append_nil]
    | cons x r ih =>
      intro acc h hl
      obtain ⟨η1, h1, h2, h3⟩ := h x (List.mem_cons_self ..)
      rw [List.map_cons]
      unfold compL
      simp only [h1, h2, h3, R.bind]
      rw [if_pos True.intro]
      unfold sized
      rw [if_pos (by rw [List.length_cons] at hl; omega), ih (acc ++ [v x]) (fun y hy => h y (List.mem_cons_of_mem _ hy)) (by rw [List.length_append, List.length_singleton]; rw [List.length_cons] at hl; omega), List.append_assoc] <;> rfl
  rw [key l [] h (by simpa using hl), List.nil_append] <;> rfl
theorem forR_nx {g : MG} {b : MS} {r : Nat} {xs : List W} (I : Nat → Env → Store → Prop) (hx : ∀ i η S, I i η S → S[r]? = some (.lst xs)) (hs : ∀ i (h : i < xs.length) η S, I i η S → ∃ η1 S1, g xs[i] η S = some (η1, S1) ∧ Nx (b η1 S1) (I (i + 1))) : ∀ (k i : Nat) (η : Env) (S : Store), I i η S → i + k = xs.length → ∀ fuel, k < fuel → Nx (forR g b r fuel i η S) (I xs.length)
  | 0, i, η, S, hi, hk, fuel + 1, hf => by
    have ex := hx i η S hi
    have e : forR g b r (fuel + 1) i η S = .nx η S := by
      conv => lhs; unfold forR
      have : itemR r i S = some none := by
        unfold itemR
        rw [ex]
        show some xs[i]? = _
        rw [List.getElem?_eq_none (by omega)]
      rw [this]
    rw [e]
    exact Nx.of (by rw [← hk]; exact hi)
  | k + 1, i, η, S, hi, hk, fuel + 1, hf => by
    have ex := hx i η S hi
    have hl : i < xs.length := by omega
    obtain ⟨η1, S1, eg, η2, S2, eb, i2⟩ := hs i hl η S hi
    have e : forR g b r (fuel + 1) i η S = forR g b r fuel (i + 1) η2 S2 := by
      conv => lhs; unfold forR
      have : itemR r i S = some (some xs[i]) := by
        unfold itemR
        rw [ex]
        show some xs[i]? = _
        rw [List.getElem?_eq_getElem hl]
      simp only [this, eg, eb]
    rw [e]
    exact forR_nx I hx hs k (i + 1) η2 S2 i2 (by omega) fuel (by omega)
  | _, _, _, _, _, _, 0, hf => by omega
/-- a loop over a range, by its index -/
theorem loop_ix {g : MG} {b : MS} (I : Nat → Env → Store → Prop) : ∀ (k s : Nat), (∀ i, s ≤ i → i < s + k → ∀ η S, I i η S → ∃ η1 S1, g (.int (i : Int)) η S = some (η1, S1) ∧ Nx (b η1 S1) (I (i + 1))) → ∀ η S, I s η S → Nx (forL g b (rangeW (s : Int) k) η S) (I (s + k))
  | 0, s, _, η, S, hi => ⟨η, S, rfl, hi⟩
  | k + 1, s, h, η, S, hi => by
    obtain ⟨η1, S1, e1, η2, S2, e2, i2⟩ := h s (Nat.le_refl _) (by omega) η S hi
    rw [rangeW_succ, forL_nx e1 e2]
    have := loop_ix I k (s + 1) (fun i h1 h2 => h i (by omega) (by omega)) η2 S2 i2
    rw [show s + 1 + k = s + (k + 1) by omega] at this
    exact this
theorem nf_call {T : List Fun} {d k np nv : Nat} {keep : Bool} {b : Fns → MS} {ws : List W} {η : Env} {S : Store} (h : T[k]? = some ⟨np, nv, keep, false, b⟩) (hl : ws.length = np) (hη : ws.map some ++ List.replicate (nv - np) none = η) : fns T (d + 1) k ws S = finS keep S.length (b (fns T d) η S) := by
  subst hη
  exact fns_eq h hl
theorem pures_strs : ∀ l : List (List Nat), pures (l.map W.str) = true
  | [] => rfl
  | i :: r => by
    show (true && pures (r.map W.str)) = true
    rw [pures_strs r] <;> rfl
theorem lt_get {S : Store} {i : Nat} {c : Cell} (h : S[i]? = some c) : i < S.length := (List.getElem?_eq_some_iff.mp h).1
theorem get_app {S U : Store} {i : Nat} {c : Cell} (h : S[i]? = some c) : (S ++ U)[i]? = some c := by
  rw [List.getElem?_append_left (lt_get h)]
  exact h
theorem get_new {S : Store} {c : Cell} : (S ++ [c])[S.length]? = some c := by
  rw [List.getElem?_append_right (Nat.le_refl _), Nat.sub_self] <;> rfl
theorem eraseIdx_map' {α β : Type} (f : α → β) : ∀ (l : List α) (k : Nat), (l.map f).eraseIdx k = (l.eraseIdx k).map f
  | [], _ => rfl
  | _ :: _, 0 => rfl
  | x :: r, k + 1 => by
    show f x :: (r.map f).eraseIdx k = f x :: (r.eraseIdx k).map f
    rw [eraseIdx_map' f r k]
theorem erase_perm : ∀ (l : List Nat) (k : Nat) (h : k < l.length), (l[k] :: l.eraseIdx k).Perm l
  | [], _, h => absurd h (Nat.not_lt_zero _)
  | x :: r, 0, _ => .refl _
  | x :: r, k + 1, h => by
    have ih := erase_perm r k (by rw [List.length_cons] at h; omega)
    show ((r[k]'(by rw [List.length_cons] at h; omega)) :: x :: r.eraseIdx k).Perm (x :: r)
    exact (List.Perm.swap _ _ _).trans (ih.cons x)
theorem mCallK_ok {φ : Fns} {f : Nat} {perm : List Nat} {gk : MA} {η : Env} {S S1 S2 : Store} {ws zs : List W} {w : W} (hg : gk η S = .ok ws S1) (hp : perm.all (fun i => decide (i < ws.length)) = true) (hz : (perm.map fun i => ws.getD i .non) = zs) (h : φ f zs S1 = .ok w S2) : mCallK φ f perm gk η S = .ok w S2 := by
  unfold mCallK
  rw [hg]
  show (if _ then _ else _) = _
  rw [if_pos hp, hz]
  exact h
theorem mOr_t {f g : ME} {η : Env} {S S1 : Store} {x : W} (h : f η S = .ok x S1) (ht : truthy S1 x = some true) : mOr f g η S = .ok x S1 := by
  unfold mOr
  rw [h]
  show (rTruth x S1).bind _ = _
  unfold rTruth
  rw [ht]
  rfl
theorem mOr_f {f g : ME} {η : Env} {S S1 : Store} {x : W} (h : f η S = .ok x S1) (ht : truthy S1 x = some false) : mOr f g η S = g η S1 := by
  unfold mOr
  rw [h]
  show (rTruth x S1).bind _ = _
  unfold rTruth
  rw [ht]
  rfl
theorem no2 {f g : ME} {η : Env} {S S1 S2 : Store} (hf : f η S = .ok (.bl true) S1) (hg : g η S1 = .ok (.bl true) S2) : mTOr (mTNot (mTru f)) (mTNot (mTru g)) η S = .ok false S2 := (mTOr_f (mTNot_ok (mTru_ok hf rfl))).trans (mTNot_ok (mTru_ok hg rfl))
theorem ne_int {a : Int} {S : Store} : opNe (.int a) (.int a) S = some (.bl false) := by
  show some (W.bl (!(a == a))) = _
  rw [beq_self_eq_true] <;> rfl
theorem strsOf_inv : ∀ {xs : List W} {zs : List (List Nat)}, strsOf xs = some zs → xs = zs.map .str
  | [], zs, h => by
    cases h
    rfl
  | .str s :: r, zs, h => by
    have h : (strsOf r).map (s :: ·) = some zs := h
    cases e : strsOf r with
    | none =>
      rw [e] at h
      cases h
    | some ys =>
      rw [e] at h
      cases h
      rw [strsOf_inv e] <;> rfl
  | .non :: r, zs, h => by cases h
  | .bl _ :: r, zs, h => by cases h
  | .int _ :: r, zs, h => by cases h
  | .tup _ :: r, zs, h => by cases h
  | .lst _ :: r, zs, h => by cases h
  | .scr _ :: r, zs, h => by cases h
  | .dct _ _ :: r, zs, h => by cases h
  | .ref _ :: r, zs, h => by cases h
  | .fn _ :: r, zs, h => by cases h
  | .cls _ :: r, zs, h => by cases h
  | .exc _ _ :: r, zs, h => by cases h
end Lw


namespace Lw
open Mp C63
/-! ### rows over three: what clearing keeps -/
def dotI : Nat → List Int → (Nat → Int) → Int
  | 0, _, _ => 0
  | n + 1, r, x => dotI n r x + r.getD n 0 * x n
theorem dotI_lin {r s t : List Int} {x : Nat → Int} {α β : Int} : ∀ (n : Nat), (∀ k, k < n → (3 : Int) ∣ r.getD k 0 - (α * s.getD k 0 - β * t.getD k 0)) → (3 : Int) ∣ dotI n r x - (α * dotI n s x - β * dotI n t x)
  | 0, _ => by simp [dotI]
  | n + 1, h => by
    obtain ⟨q, e⟩ := dotI_lin (x := x) n fun k hk => h k (by omega)
    obtain ⟨p, f⟩ := h n (by omega)
    refine ⟨q + p * x n, ?_⟩
    show dotI n r x + r.getD n 0 * x n - (α * (dotI n s x + s.getD n 0 * x n) - β * (dotI n t x + t.getD n 0 * x n)) = _
    have f2 : r.getD n 0 = 3 * p + (α * s.getD n 0 - β * t.getD n 0) := by omega
    rw [f2]
    grind
theorem dotI_zero {r : List Int} {x : Nat → Int} : ∀ (n : Nat), (∀ k, k < n → r.getD k 0 * x k = 0) → dotI n r x = 0
  | 0, _ => rfl
  | n + 1, h => by
    show dotI n r x + r.getD n 0 * x n = 0
    rw [dotI_zero n fun k hk => h k (by omega), h n (by omega)] <;> rfl
theorem dotI_one {r : List Int} {x : Nat → Int} {i : Nat} : ∀ (n : Nat), i < n → (∀ k, k < n → k ≠ i → r.getD k 0 * x k = 0) → dotI n r x = r.getD i 0 * x i
  | 0, h, _ => absurd h (Nat.not_lt_zero _)
  | n + 1, hi, h => by
    show dotI n r x + r.getD n 0 * x n = _
    by_cases e : i = n
    · subst e
      rw [dotI_zero i fun k hk => h k (by omega) (by omega), Int.zero_add]
    · rw [dotI_one n (by omega) fun k hk => h k (by omega), h n (by omega) (fun z => e z.symm), Int.add_zero]
theorem dotI_two {r : List Int} {x : Nat → Int} {i j : Nat} (hij : i < j) : ∀ (n : Nat), j < n → (∀ k, k < n → k ≠ i → k ≠ j → r.getD k 0 * x k = 0) → dotI n r x = r.getD i 0 * x i + r.getD j 0 * x j
  | 0, h, _ => absurd h (Nat.not_lt_zero _)
  | n + 1, hj, h => by
    show dotI n r x + r.getD n 0 * x n = _
    by_cases e : j = n
    · subst e
      rw [dotI_one j hij fun k hk ne => h k (by omega) ne (by omega)]
    · rw [dotI_two hij n (by omega) fun k hk => h k (by omega), h n (by omega) (by omega) (fun z => e z.symm), Int.add_zero]
abbrev Tab := List (List Int)
def rowI (M : Tab) (i : Nat) : List Int := M.getD i []
def celI (M : Tab) (i k : Nat) : Int := (rowI M i).getD k 0
/-- x is sent to nought -/
def Kz (n : Nat) (M : Tab) (x : Nat → Int) : Prop := ∀ i, i < n → (3 : Int) ∣ dotI n (rowI M i) x
def Tri (n : Nat) (M : Tab) : Prop := ∀ x, Kz n M x → ∀ j, j < n → (3 : Int) ∣ x j
def lessI (row lead : List Int) (t : Int) : List Int := List.zipWith (fun a b => (a - t * b) % 3) row lead
def swapI (M : Tab) (p a : Nat) : Tab := (M.set p (rowI M a)).set a (rowI M p)
def leadI (f : Tab) (p : Nat) : List Int := (rowI f p).map fun e => celI f p p * e % 3
def clearI (M : Tab) (p a : Nat) : Tab := (swapI M p a).mapIdx fun i row => if i = p then leadI (swapI M p a) p else lessI row (leadI (swapI M p a) p) (row.getD p 0)
def sizeI (n m : Nat) (M : Tab) : Prop := M.length = n ∧ ∀ i, i < n → (rowI M i).length = m
section
variable {n m p a : Nat} {M : Tab}
theorem swap_row (h : sizeI n m M) (hp : p < n) (ha : a < n) (i : Nat) : rowI (swapI M p a) i = if i = a then rowI M p else if i = p then rowI M a else rowI M i := by
  show ((M.set p (rowI M a)).set a (rowI M p)).getD i [] = _
  rw [List.getD_eq_getElem?_getD, List.getElem?_set, List.length_set]
  by_cases e1 : i = a
  · subst e1
    rw [if_pos rfl, if_pos rfl, if_pos (by rw [h.1]; exact ha)] <;> rfl
  · rw [if_neg (fun z => e1 z.symm), if_neg e1, List.getElem?_set]
    by_cases e2 : i = p
    · subst e2
      rw [if_pos rfl, if_pos rfl, if_pos (by rw [h.1]; exact hp)] <;> rfl
    · rw [if_neg (fun z => e2 z.symm), if_neg e2]
      show _ = M.getD i []
      rw [List.getD_eq_getElem?_getD]
theorem swap_size (h : sizeI n m M) (hp : p < n) (ha : a < n) : sizeI n m (swapI M p a) := by
  refine ⟨by unfold swapI; rw [List.length_set, List.length_set, h.1], fun i hi => ?_⟩
  rw [swap_row h hp ha]
  split
  · exact h.2 p hp
  · split
    · exact h.2 a ha
    · exact h.2 i hi
theorem lead_len (h : sizeI n m M) (hp : p < n) : (leadI M p).length = m := by
  unfold leadI
  rw [List.length_map, h.2 p hp]
theorem lead_cel (h : sizeI n m M) (hp : p < n) (k : Nat) (hk : k < m) : (leadI M p).getD k 0 = celI M p p * celI M p k % 3 := by
  have l := h.2 p hp
  unfold leadI
  rw [List.getD_eq_getElem?_getD, List.getElem?_map]
  unfold celI
  rw [List.getD_eq_getElem?_getD (l := rowI M p) (i := k), List.getElem?_eq_getElem (by omega)] <;> rfl
theorem less_cel {row lead : List Int} {t : Int} (h1 : row.length = m) (h2 : lead.length = m) (k : Nat) (hk : k < m) : (lessI row lead t).getD k 0 = (row.getD k 0 - t * lead.getD k 0) % 3 := by
  unfold lessI
  rw [List.getD_eq_getElem?_getD, List.getElem?_zipWith, List.getD_eq_getElem?_getD, List.getD_eq_getElem?_getD, List.getElem?_eq_getElem (by omega), List.getElem?_eq_getElem (by omega)] <;> rfl
theorem clear_row (h : sizeI n m M) (hp : p < n) (ha : a < n) (i : Nat) (hi : i < n) : rowI (clearI M p a) i = if i = p then leadI (swapI M p a) p else lessI (rowI (swapI M p a) i) (leadI (swapI M p a) p) (celI (swapI M p a) i p) := by
  have l := (swap_size h hp ha).1
  show ((swapI M p a).mapIdx _).getD i [] = _
  rw [List.getD_eq_getElem?_getD, List.getElem?_mapIdx]
  unfold celI
  have e : rowI (swapI M p a) i = (swapI M p a)[i] := by
    show (swapI M p a).getD i [] = _
    rw [List.getD_eq_getElem?_getD, List.getElem?_eq_getElem (by omega)] <;> rfl
  rw [e, List.getElem?_eq_getElem (by omega)] <;> rfl
theorem clear_size (h : sizeI n m M) (hp : p < n) (ha : a < n) : sizeI n m (clearI M p a) := by
  have s := swap_size h hp ha
  refine ⟨by unfold clearI; rw [List.length_mapIdx, s.1], fun i hi => ?_⟩
  rw [clear_row h hp ha i hi]
  split
  · exact lead_len s hp
  · unfold lessI
    rw [List.length_zipWith, s.2 i hi, lead_len s hp, Nat.min_self]
theorem dvd_emod3 (z : Int) : (3 : Int) ∣ z % 3 - z := ⟨-(z / 3), by omega⟩
theorem unit3 {c d : Int} (hc : ¬ (3 : Int) ∣ c) (h : (3 : Int) ∣ c * d) : (3 : Int) ∣ d := by
  have e : (c * d) % 3 = (c % 3) * (d % 3) % 3 := Int.mul_emod ..
  have h0 : (c * d) % 3 = 0 := Int.emod_eq_zero_of_dvd h
  have c0 : c % 3 ≠ 0 := fun z => hc (Int.dvd_of_emod_eq_zero z)
  refine Int.dvd_of_emod_eq_zero ?_
  rw [h0] at e
  have c1 : c % 3 = 1 ∨ c % 3 = 2 := by omega
  have d1 : d % 3 = 0 ∨ d % 3 = 1 ∨ d % 3 = 2 := by omega
  rcases c1 with z | z <;> rcases d1 with y | y | y <;> rw [z, y] at e <;> first | exact y | exact absurd e (by decide)
theorem clear_lead (hnm : n ≤ m) (h : sizeI n m M) (hp : p < n) (x : Nat → Int) : (3 : Int) ∣ dotI n (leadI M p) x - celI M p p * dotI n (rowI M p) x := by
  have := dotI_lin (x := x) (r := leadI M p) (s := rowI M p) (t := []) (α := celI M p p) (β := 0) n fun k hk => by
    rw [lead_cel h hp k (by omega)]
    have := dvd_emod3 (celI M p p * celI M p k)
    unfold celI at this ⊢
    simpa using this
  simpa using this
theorem clear_less (hnm : n ≤ m) {row lead : List Int} {t : Int} (h1 : row.length = m) (h2 : lead.length = m) (x : Nat → Int) : (3 : Int) ∣ dotI n (lessI row lead t) x - (dotI n row x - t * dotI n lead x) := by
  have := dotI_lin (x := x) (r := lessI row lead t) (s := row) (t := lead) (α := 1) (β := t) n fun k hk => by
    rw [less_cel h1 h2 k (by omega), Int.one_mul]
    exact dvd_emod3 _
  rw [Int.one_mul] at this
  exact this
theorem clear_kz (hnm : n ≤ m) (h : sizeI n m M) (hp : p < n) (ha : a < n) (hc : ¬ (3 : Int) ∣ celI M a p) (x : Nat → Int) : Kz n (clearI M p a) x ↔ Kz n M x := by
  have s := swap_size h hp ha
  have sr := swap_row h hp ha
  have cp : celI (swapI M p a) p p = celI M a p := by
    unfold celI
    rw [sr]
    split
    · rename_i e
      rw [e]
    · rw [if_pos rfl]
  have sw : Kz n (swapI M p a) x ↔ Kz n M x := by
    constructor
    · intro k i hi
      by_cases e : i = a
      · have z := k p hp
        rw [sr] at z
        by_cases e2 : p = a
        · rw [if_pos e2] at z
          rw [e, ← e2]; exact z
        · rw [if_neg e2, if_pos rfl] at z
          rw [e]; exact z
      · by_cases e2 : i = p
        · have z := k a ha
          rw [sr, if_pos rfl] at z
          rw [e2]; exact z
        · have z := k i hi
          rw [sr, if_neg e, if_neg e2] at z
          exact z
    · intro k i hi
      rw [sr]
      split
      · exact k p hp
      · split
        · exact k a ha
        · exact k i hi
  rw [← sw]
  have hl := lead_len s hp
  obtain ⟨q, eq⟩ := clear_lead hnm s hp x
  constructor
  · intro k
    have k0 := k p hp
    rw [clear_row h hp ha p hp, if_pos rfl] at k0
    obtain ⟨u, eu⟩ := k0
    intro i hi
    by_cases e : i = p
    · subst e
      refine unit3 (c := celI (swapI M i a) i i) (by rw [cp]; exact hc) ⟨u - q, by omega⟩
    · have ki := k i hi
      rw [clear_row h hp ha i hi, if_neg e] at ki
      obtain ⟨v, ev⟩ := ki
      obtain ⟨w, ew⟩ := clear_less (n := n) hnm (t := celI (swapI M p a) i p) (s.2 i hi) hl x
      rw [eu] at ew
      refine ⟨v - w + celI (swapI M p a) i p * u, ?_⟩
      grind
  · intro k i hi
    obtain ⟨u, eu⟩ := k p hp
    rw [eu] at eq
    have e1 : dotI n (leadI (swapI M p a) p) x = 3 * (q + celI (swapI M p a) p p * u) := by grind
    rw [clear_row h hp ha i hi]
    split
    · exact ⟨_, e1⟩
    · obtain ⟨v, ev⟩ := k i hi
      obtain ⟨w, ew⟩ := clear_less (n := n) hnm (t := celI (swapI M p a) i p) (s.2 i hi) hl x
      rw [ev, e1] at ew
      refine ⟨w + v - celI (swapI M p a) i p * (q + celI (swapI M p a) p p * u), ?_⟩
      grind
/-- the first p columns are those of one -/
def Unit (n p : Nat) (M : Tab) : Prop := ∀ i, i < n → ∀ j, j < p → celI M i j = if i = j then 1 else 0
theorem clear_unit (hnm : n ≤ m) (h : sizeI n m M) (hp : p < n) (ha : a < n) (hpa : p ≤ a) (hc : ¬ (3 : Int) ∣ celI M a p) (u : Unit n p M) : Unit n (p + 1) (clearI M p a) := by
  have s := swap_size h hp ha
  have sr := swap_row h hp ha
  have hl := lead_len s hp
  have cp : celI (swapI M p a) p p = celI M a p := by
    unfold celI
    rw [sr]
    split
    · rename_i e
      rw [e]
    · rw [if_pos rfl]
  have lp : (leadI (swapI M p a) p).getD p 0 = 1 := by
    rw [lead_cel s hp p (by omega), cp, Int.mul_emod]
    have c0 : celI M a p % 3 ≠ 0 := fun z => hc (Int.dvd_of_emod_eq_zero z)
    have c1 : celI M a p % 3 = 1 ∨ celI M a p % 3 = 2 := by omega
    rcases c1 with z | z <;> rw [z] <;> rfl
  have sj : ∀ i, i < n → ∀ j, j < p → celI (swapI M p a) i j = if i = j then 1 else 0 := by
    intro i hi j hj
    unfold celI
    rw [sr]
    by_cases e : i = a
    · rw [if_pos e]
      have z := u p hp j hj
      unfold celI at z
      rw [z, if_neg (by omega), if_neg (by omega)]
    · rw [if_neg e]
      by_cases e2 : i = p
      · rw [if_pos e2]
        have z := u a ha j hj
        unfold celI at z
        rw [z, if_neg (by omega), if_neg (by omega)]
      · rw [if_neg e2]
        exact u i hi j hj
  have lj : ∀ j, j < p → (leadI (swapI M p a) p).getD j 0 = 0 := fun j hj => by
    rw [lead_cel s hp j (by omega), sj p hp j hj, if_neg (by omega), Int.mul_zero] <;> rfl
  intro i hi j hj
  unfold celI
  rw [clear_row h hp ha i hi]
  by_cases ej : j = p
  · subst ej
    by_cases e : i = j
    · rw [if_pos e, if_pos e, lp]
    · rw [if_neg e, if_neg e, less_cel (s.2 i hi) hl j (by omega), lp, Int.mul_one]
      unfold celI
      rw [Int.sub_self] <;> rfl
  · have hj' : j < p := by omega
    by_cases e : i = p
    · rw [if_pos e, lj j hj', if_neg (by omega)]
    · rw [if_neg e, less_cel (s.2 i hi) hl j (by omega), lj j hj', Int.mul_zero, Int.sub_zero]
      have z := sj i hi j hj'
      unfold celI at z
      rw [z]
      split <;> rfl
theorem unit_tri (u : Unit n n M) : Tri n M := by
  intro x k j hj
  have z := k j hj
  rw [dotI_one n hj fun i hi ne => by rw [show (rowI M j).getD i 0 = celI M j i from rfl, u j hj i hi, if_neg (fun z => ne z.symm), Int.zero_mul]] at z
  rw [show (rowI M j).getD j 0 = celI M j j from rfl, u j hj j hj, if_pos rfl, Int.one_mul] at z
  exact z
theorem unit_stop (hp : p < n) (u : Unit n p M) (z : ∀ i, p ≤ i → i < n → celI M i p = 0) : ¬ Tri n M := by
  intro t
  have hx := t (fun k => if k = p then 1 else if k < p then - celI M k p else 0) (fun i hi => ?_) p hp
  · simp at hx
  · by_cases hi2 : i < p
    · rw [dotI_two hi2 n hp fun k hk n1 n2 => by
        by_cases c : k < p
        · rw [show (rowI M i).getD k 0 = celI M i k from rfl, u i hi k c, if_neg (fun z => n1 z.symm), Int.zero_mul]
        · simp [n2, c]]
      rw [show (rowI M i).getD i 0 = celI M i i from rfl, u i hi i hi2, if_pos rfl]
      have ne : i ≠ p := by omega
      simp [ne, hi2]
      exact ⟨0, by show -celI M i p + celI M i p = _; omega⟩
    · rw [dotI_zero n fun k hk => ?_]
      · exact ⟨0, rfl⟩
      · by_cases c : k < p
        · rw [show (rowI M i).getD k 0 = celI M i k from rfl, u i hi k c, if_neg (by omega), Int.zero_mul]
        · by_cases c2 : k = p
          · rw [c2, show (rowI M i).getD p 0 = celI M i p from rfl, z i (by omega) hi, Int.zero_mul]
          · simp [c, c2]
end
end Lw


namespace Lw
open Mp C63
/-! ### generic -/
theorem comp_flt {it : MI} {own : List Nat} {g : MG} {t : MT} {e : ME} {η : Env} {S : Store} {α : Type} {u v : α → W} {P : α → Bool} {l : List α} (hi : it η S = .ok (l.map u) S) (h : ∀ i, i ∈ l → ∃ η1, g (u i) (wipeE η own) S = some (η1, S) ∧ t η1 S = .ok (P i) S ∧ (P i = true → e η1 S = .ok (v i) S)) (hl : l.length ≤ bigLine) : mComp it own g t e η S = .ok (.lst ((l.filter P).map v)) S := by
  unfold mComp
  rw [hi]
  show (noexc (compL g t e (wipeE η own) (l.map u) S [])).bind (fun ws S2 => R.ok (W.lst ws) S2) = _
  have key : ∀ (xs : List α) (acc : List W), (∀ i, i ∈ xs → ∃ η1, g (u i) (wipeE η own) S = some (η1, S) ∧ t η1 S = .ok (P i) S ∧ (P i = true → e η1 S = .ok (v i) S)) → acc.length + xs.length ≤ bigLine → compL g t e (wipeE η own) (xs.map u) S acc = .ok (acc ++ (xs.filter P).map v) S := by
    intro xs
    induction xs with
    | nil =>
      intro acc _ _
      show R.ok acc S = _
      rw [List.filter_nil, List.map_nil, List.append_nil]
    | cons x r ih =>
      intro acc h hl
      rw [List.length_cons] at hl
      obtain ⟨η1, h1, h2, h3⟩ := h x (List.mem_cons_self ..)
      have h' : ∀ i, i ∈ r → ∃ η1, g (u i) (wipeE η own) S = some (η1, S) ∧ t η1 S = .ok (P i) S ∧ (P i = true → e η1 S = .ok (v i) S) := fun y hy => h y (List.mem_cons_of_mem _ hy)
      rw [List.map_cons]
      unfold compL
      cases hp : P x with
      | true =>
        rw [hp] at h2
        simp only [h1, h2, h3 hp, R.bind]
        rw [if_pos True.intro]
        unfold sized
        rw [if_pos (by omega), ih (acc ++ [v x]) h' (by rw [List.length_append, List.length_singleton]; omega), List.append_assoc, List.filter_cons, if_pos hp] <;> rfl
      | false =>
        rw [hp] at h2
        simp only [h1, h2, R.bind]
        rw [if_neg (by decide), ih acc h' (by omega), List.filter_cons, if_neg (by rw [hp]; decide)]
  rw [key l [] h (by simpa using hl), List.nil_append] <;> rfl
theorem comp_map {it : MI} {own : List Nat} {g : MG} {e : ME} {η : Env} {S : Store} {α : Type} {u v : α → W} {l : List α} (hi : it η S = .ok (l.map u) S) (h : ∀ i, i ∈ l → ∃ η1, g (u i) (wipeE η own) S = some (η1, S) ∧ e η1 S = .ok (v i) S) (hl : l.length ≤ bigLine) : mComp it own g mtYes e η S = .ok (.lst (l.map v)) S := by
  have := comp_flt (t := mtYes) (P := fun _ => true) hi (fun i hi' => by
    obtain ⟨η1, h1, h2⟩ := h i hi'
    exact ⟨η1, h1, rfl, fun _ => h2⟩) hl
  rw [List.filter_eq_self.mpr fun _ _ => rfl] at this
  exact this
theorem bls_map {α : Type} (f : α → Bool) : ∀ l : List α, bls (l.map fun x => W.bl (f x)) = some (l.map f)
  | [] => rfl
  | x :: r => by
    show (bls (r.map fun x => W.bl (f x))).map (f x :: ·) = _
    rw [bls_map f r] <;> rfl
theorem all_map {α : Type} (f : α → Bool) (l : List α) {S : Store} : baAll [.lst (l.map fun x => W.bl (f x))] S = some (.bl (l.all f)) := by
  show (bls (l.map fun x => W.bl (f x))).map (fun bs => W.bl (bs.all id)) = _
  rw [bls_map]
  show some (W.bl ((l.map f).all id)) = _
  rw [List.all_map] <;> rfl
theorem atW_get {xs : List W} {a : Nat} (h : a < xs.length) : atW xs (a : Int) = some xs[a] := by
  unfold atW ixW
  rw [if_pos (by omega), if_pos (by omega)]
  show xs[((a : Int)).toNat]? = _
  rw [Int.toNat_natCast, List.getElem?_eq_getElem h]
theorem atW_f {α : Type} (f : α → W) (z : α) {l : List α} {a : Nat} (h : a < l.length) : atW (l.map f) (a : Int) = some (f (l.getD a z)) := by
  rw [atW_get (by rw [List.length_map]; exact h), List.getElem_map, List.getD_eq_getElem?_getD, List.getElem?_eq_getElem h] <;> rfl
abbrev nW (n : Nat) : W := .int n
theorem rangeW_nat (n : Nat) : rangeW 0 n = (List.range n).map nW := by
  unfold rangeW
  exact List.map_congr_left fun i _ => by show W.int (0 + (i : Int)) = W.int (i : Int); rw [Int.zero_add]
theorem mAnd_f {f g : ME} {η : Env} {S S1 : Store} {x : W} (h : f η S = .ok x S1) (ht : truthy S1 x = some false) : mAnd f g η S = .ok x S1 := by
  unfold mAnd
  rw [h]
  show (rTruth x S1).bind _ = _
  unfold rTruth
  rw [ht] <;> rfl
/-! ### values that may be asked -/
inductive Nice : W → Prop
  | non : Nice .non
  | bl (b : Bool) : Nice (.bl b)
  | int (i : Int) : Nice (.int i)
  | str (s : List Nat) : s.length ≤ 100 → Nice (.str s)
  | tup (xs : List W) : (∀ x ∈ xs, Nice x) → xs.length ≤ 100 → Nice (.tup xs)
  | lst (xs : List W) : (∀ x ∈ xs, Nice x) → xs.length ≤ 100 → Nice (.lst xs)
  | dct : Nice (.dct [.bl false] [])
theorem pures_of : ∀ {xs : List W}, (∀ x ∈ xs, x.pure = true) → pures xs = true
  | [], _ => rfl
  | x :: r, h => by
    show (x.pure && pures r) = true
    rw [h x (List.mem_cons_self ..), pures_of fun y hy => h y (List.mem_cons_of_mem _ hy)] <;> rfl
theorem Nice.pure {w : W} (h : Nice w) : w.pure = true := by
  induction h with
  | tup xs _ _ ih => exact pures_of ih
  | lst xs _ _ ih => exact pures_of ih
  | _ => rfl
theorem Nice.get {w x : W} {xs : List W} (h : Nice w) (e : w = .tup xs ∨ w = .lst xs) (hx : x ∈ xs) : Nice x := by
  cases h with
  | tup ys a _ =>
    rcases e with e | e
    · cases e
      exact a x hx
    · cases e
  | lst ys a _ =>
    rcases e with e | e
    · cases e
    · cases e
      exact a x hx
  | _ => rcases e with e | e <;> cases e
def isI : W → Bool
  | .int _ => true
  | _ => false
def isBt (lo hi : Int) : W → Bool
  | .int i => decide (lo ≤ i) && decide (i ≤ hi)
  | _ => false
def isT (m : Nat) : W → Bool
  | .tup xs => decide (xs.length = m)
  | _ => false
def isDg (c : Nat) : Bool := decide (c ∈ [48, 49, 50])
def isCd (m : Nat) : W → Bool
  | .str s => s.all isDg && decide (s.length = m)
  | _ => false
section
variable {d : Nat} {S : Store}
theorem whole_ok {x : W} (h : Nice x) : fns T (d + 1) 0 [x] S = .ok (.bl (isI x)) S :=
  fr_ret (η := [some x]) (b := b_is_whole) (nv := 1) (S' := []) rfl rfl (by show (x.pure && true) = true; rw [h.pure] <;> rfl) rfl (by cases h <;> rfl) rfl
theorem int_eq (a b : Int) : (a == b) = decide (a = b) := by
  by_cases h : a = b
  · rw [decide_eq_true h]; exact beq_iff_eq.mpr h
  · rw [decide_eq_false h]; exact beq_eq_false_iff_ne.mpr h
theorem chain_le {f g h : ME} {η : Env} {a b c : Int} {S : Store} (hf : f η S = .ok (.int a) S) (hg : g η S = .ok (.int b) S) (hh : h η S = .ok (.int c) S) : mChain opLe2 opLe2 f g h η S = .ok (.bl (decide (a ≤ b) && decide (b ≤ c))) S := by
  unfold mChain
  simp only [hf, hg, hh, R.bind]
  have e : ∀ (i j : Int), opLe2 (.int i) (.int j) S = some (.bl (decide (i ≤ j))) := fun i j => rfl
  rw [e, e]
  cases decide (a ≤ b) <;> rfl
theorem btw_ok {x : W} {lo hi : Int} (h : Nice x) : fns T (d + 2) 1 [x, .int lo, .int hi] S = .ok (.bl (isBt lo hi x)) S := by
  refine fr_ret (η := [some x, some (.int lo), some (.int hi)]) (b := b_is_between) (nv := 3) (S' := []) rfl rfl (by show (x.pure && true) = true; rw [h.pure] <;> rfl) rfl ?_ rfl
  refine sRet_ok ?_
  have c1 : (mCall (fns T (d + 1)) 0 (maCons (mVar 0) maNil)) [some x, some (.int lo), some (.int hi)] [] = .ok (.bl (isI x)) [] := mCall_ok (S1 := []) (maCons_ok (S1 := []) (mVar_ok rfl) rfl) (whole_ok h)
  cases h with
  | int i => exact (mAnd_t c1 rfl).trans (chain_le (mVar_ok rfl) (mVar_ok rfl) (mVar_ok rfl))
  | _ => exact mAnd_f c1 rfl
theorem tup_ok {x : W} {m : Nat} (h : Nice x) : fns T (d + 1) 2 [x, .int m] S = .ok (.bl (isT m x)) S := by
  refine fr_ret (η := [some x, some (.int m)]) (b := b_is_tuple_of) (nv := 2) (S' := []) rfl rfl (by show (x.pure && true) = true; rw [h.pure] <;> rfl) rfl ?_ rfl
  cases h with
  | tup xs _ _ =>
    show RS.ret (.bl ((xs.length : Int) == (m : Int))) [] = _
    rw [int_eq]
    have e : decide ((xs.length : Int) = (m : Int)) = decide (xs.length = m) := decide_eq_decide.mpr (by omega)
    rw [e] <;> rfl
  | _ => rfl
theorem in_dg (c : Nat) {S : Store} : opInD (.str [c]) (.str [48, 49, 50]) S = some (.bl (isDg c)) := rfl
theorem text_ok {x : W} (h : Nice x) : fns T (d + 1) 3 [x, .str [48, 49, 50]] S = .ok (.bl (match x with | .str s => s.all isDg | _ => false)) S := by
  refine fr_ret (η := [some x, some (.str [48, 49, 50]), none]) (b := b_is_text_of) (nv := 3) (S' := []) rfl rfl (by show (x.pure && true) = true; rw [h.pure] <;> rfl) rfl ?_ rfl
  refine sRet_ok ?_
  cases h with
  | str s hs =>
    refine (mAnd_t (x := .bl true) (S1 := []) rfl rfl).trans ?_
    exact mBi1_ok (S1 := []) (comp_map (u := fun c => W.str [c]) (v := fun c => W.bl (isDg c)) (l := s) rfl (fun c hc => ⟨_, rfl, mBin_ok (S1 := []) (mVar_ok rfl) (mVar_ok rfl) (in_dg c)⟩) (by unfold bigLine; omega)) (all_map isDg s)
  | _ => exact mAnd_f (x := .bl false) (S1 := []) rfl rfl
theorem nat_eq (a b : Nat) {S : Store} : opEq (.int a) (.int b) S = some (.bl (decide (a = b))) := by
  show some (W.bl ((a : Int) == (b : Int))) = _
  rw [int_eq]
  have e : decide ((a : Int) = (b : Int)) = decide (a = b) := decide_eq_decide.mpr (by omega)
  rw [e]
theorem card_ok {x : W} {m : Nat} (h : Nice x) : fns T (d + 2) 5 [.int m, x] S = .ok (.bl (isCd m x)) S := by
  refine fr_ret (η := [some (.int m), some x]) (b := b_is_card_of) (nv := 2) (S' := []) rfl rfl (by show (true && (x.pure && true)) = true; rw [h.pure] <;> rfl) rfl ?_ rfl
  refine sRet_ok ?_
  have c1 : (mCall (fns T (d + 1)) 3 (maCons (mVar 1) (maCons (mC (.str [48, 49, 50])) maNil))) [some (.int m), some x] [] = .ok (.bl (match x with | .str s => s.all isDg | _ => false)) [] := mCall_ok (S1 := []) (maCons_ok (S1 := []) (mVar_ok rfl) rfl) (text_ok h)
  cases h with
  | str s hs =>
    have c2 : (mCall (fns T (d + 1)) 3 (maCons (mVar 1) (maCons (mC (.str [48, 49, 50])) maNil))) [some (.int m), some (.str s)] [] = .ok (.bl (s.all isDg)) [] := c1
    show _ = R.ok (W.bl (s.all isDg && decide (s.length = m))) []
    cases e : s.all isDg with
    | false =>
      rw [e] at c2
      exact mAnd_f c2 rfl
    | true =>
      rw [e] at c2
      exact (mAnd_t c2 rfl).trans (mBin_ok (S1 := []) (mBi1_ok (S1 := []) (mVar_ok rfl) rfl) (mVar_ok rfl) (nat_eq _ _))
  | _ => exact mAnd_f c1 rfl
theorem marks_ok {m : Nat} (h1 : 1 ≤ m) (h4 : m ≤ 4) : fns T (d + 4) 6 [.int m] S = .ok .non S := by
  have c0 : fns T (d + 3) 4 [.int m] [] = .ok (.bl true) [] := by
    refine fr_ret (η := [some (.int m)]) (b := b_is_mark_number) (nv := 1) (S' := []) rfl rfl rfl rfl ?_ rfl
    refine sRet_ok (mCall_ok (S1 := []) (maCons_ok (S1 := []) (mVar_ok rfl) rfl) ?_)
    rw [btw_ok (.int _)]
    have e : isBt 1 4 (.int m) = true := by
      show (decide ((1 : Int) ≤ m) && decide ((m : Int) ≤ 4)) = true
      rw [decide_eq_true (by omega), decide_eq_true (by omega)] <;> rfl
    rw [e]
  refine fr_non (η := [some (.int m)]) (b := b_check_marks) (nv := 1) rfl rfl rfl rfl (η' := [some (.int m)]) (S' := []) ?_
  exact sIf_n (mTNot_ok (mTru_ok (S1 := []) (mCall_ok (S1 := []) (maCons_ok (S1 := []) (mVar_ok rfl) rfl) c0) rfl))
def isR (m : Nat) : W → Bool
  | .tup xs => decide (xs.length = m) && xs.all (isBt 0 2)
  | _ => false
def isRs (m : Nat) : W → Bool
  | .tup rs => decide (rs.length = m) && rs.all (isR m)
  | _ => false
end
end Lw


namespace Lw
open Mp C63
theorem comp2_map {it it1 : MI} {own vs1 : List Nat} {g g1 : MG} {e : ME} {η : Env} {S : Store} {α β : Type} {u : α → W} {v : β → W} {f : α → List β} {w : β → W} {l : List α} (hi : it η S = .ok (l.map u) S)
    (h : ∀ a, a ∈ l → ∃ η1, g (u a) (wipeE η own) S = some (η1, S) ∧ it1 η1 S = .ok ((f a).map v) S ∧ ∀ b, b ∈ f a → ∃ η2, g1 (v b) (wipeE η1 vs1) S = some (η2, S) ∧ e η2 S = .ok (w b) S) (hl : (l.flatMap f).length ≤ bigLine) :
    mComp2 it own g mtYes it1 vs1 g1 mtYes e η S = .ok (.lst ((l.flatMap f).map w)) S := by
  unfold mComp2
  rw [hi]
  show (noexc (compL2 g mtYes it1 g1 mtYes e vs1 (wipeE η own) (l.map u) S [])).bind (fun ws S2 => R.ok (W.lst ws) S2) = _
  have inner : ∀ (η1 : Env) (ys : List β) (acc : List W), (∀ b, b ∈ ys → ∃ η2, g1 (v b) (wipeE η1 vs1) S = some (η2, S) ∧ e η2 S = .ok (w b) S) → acc.length + ys.length ≤ bigLine → compL g1 mtYes e (wipeE η1 vs1) (ys.map v) S acc = .ok (acc ++ ys.map w) S := by
    intro η1 ys
    induction ys with
    | nil =>
      intro acc _ _
      show R.ok acc S = _
      rw [List.map_nil, List.append_nil]
    | cons b r ih =>
      intro acc h hl
      rw [List.length_cons] at hl
      obtain ⟨η2, h1, h2⟩ := h b (List.mem_cons_self ..)
      rw [List.map_cons]
      unfold compL
      simp only [h1, mtYes, h2, R.bind]
      rw [if_pos True.intro]
      unfold sized
      have ih' := ih (acc ++ [w b]) (fun c hc => h c (List.mem_cons_of_mem _ hc)) (by rw [List.length_append, List.length_singleton]; omega)
      rw [if_pos (by omega)]
      refine Eq.trans ih' ?_
      rw [List.append_assoc] <;> rfl
  have outer : ∀ (xs : List α) (acc : List W), (∀ a, a ∈ xs → ∃ η1, g (u a) (wipeE η own) S = some (η1, S) ∧ it1 η1 S = .ok ((f a).map v) S ∧ ∀ b, b ∈ f a → ∃ η2, g1 (v b) (wipeE η1 vs1) S = some (η2, S) ∧ e η2 S = .ok (w b) S) → acc.length + (xs.flatMap f).length ≤ bigLine → compL2 g mtYes it1 g1 mtYes e vs1 (wipeE η own) (xs.map u) S acc = .ok (acc ++ (xs.flatMap f).map w) S := by
    intro xs
    induction xs with
    | nil =>
      intro acc _ _
      show R.ok acc S = _
      rw [List.flatMap_nil, List.map_nil, List.append_nil]
    | cons a r ih =>
      intro acc h hl
      rw [List.flatMap_cons, List.length_append] at hl
      obtain ⟨η1, h1, h2, h3⟩ := h a (List.mem_cons_self ..)
      rw [List.map_cons]
      unfold compL2
      simp only [h1]
      show (if true = true then (it1 η1 S).bind fun ys S3 => (compL g1 mtYes e (wipeE η1 vs1) ys S3 acc).bind fun acc' S4 => compL2 g mtYes it1 g1 mtYes e vs1 (wipeE η own) (r.map u) S4 acc' else compL2 g mtYes it1 g1 mtYes e vs1 (wipeE η own) (r.map u) S acc) = _
      rw [if_pos rfl, h2]
      show ((compL g1 mtYes e (wipeE η1 vs1) ((f a).map v) S acc).bind fun acc' S4 => compL2 g mtYes it1 g1 mtYes e vs1 (wipeE η own) (r.map u) S4 acc') = _
      rw [inner η1 (f a) acc h3 (by omega)]
      show compL2 g mtYes it1 g1 mtYes e vs1 (wipeE η own) (r.map u) S (acc ++ (f a).map w) = _
      rw [ih _ (fun b hb => h b (List.mem_cons_of_mem _ hb)) (by rw [List.length_append, List.length_map]; omega), List.append_assoc, List.flatMap_cons, List.map_append]
  rw [outer l [] h (by simpa using hl), List.nil_append] <;> rfl
def cellsW : W → List W
  | .tup xs => xs
  | _ => []
theorem isR_iff (m : Nat) (x : W) : isR m x = (isT m x && (cellsW x).all (isBt 0 2)) := by
  cases x <;> rfl
theorem all_flat {α β : Type} (f : α → List β) (p : β → Bool) : ∀ l : List α, (l.flatMap f).all p = l.all fun a => (f a).all p
  | [] => rfl
  | a :: r => by rw [List.flatMap_cons, List.all_append, List.all_cons, all_flat f p r]
theorem all_and {α : Type} (p q : α → Bool) : ∀ l : List α, (l.all fun a => p a && q a) = (l.all p && l.all q)
  | [] => rfl
  | a :: r => by
    rw [List.all_cons, List.all_cons, List.all_cons, all_and p q r]
    cases p a <;> cases q a <;> cases r.all p <;> cases r.all q <;> rfl
theorem isRs_iff (m : Nat) (x : W) : isRs m x = (isT m x && ((cellsW x).all (isT m) && ((cellsW x).flatMap cellsW).all (isBt 0 2))) := by
  cases x with
  | tup rs =>
    show (decide (rs.length = m) && rs.all (isR m)) = (decide (rs.length = m) && (rs.all (isT m) && (rs.flatMap cellsW).all (isBt 0 2)))
    rw [all_flat, ← all_and]
    congr 2
    exact funext fun x => isR_iff m x
  | _ => rfl
section
variable {d : Nat} {S : Store}
theorem flat_short {rs : List W} {m : Nat} (h : rs.all (isT m) = true) : (rs.flatMap cellsW).length = rs.length * m := by
  induction rs with
  | nil => simp
  | cons x r ih =>
    rw [List.all_cons, Bool.and_eq_true] at h
    rw [List.flatMap_cons, List.length_append, ih h.2, List.length_cons, Nat.succ_mul]
    have e : (cellsW x).length = m := by
      have h1 := h.1
      cases x with
      | tup xs => exact of_decide_eq_true h1
      | _ => cases h1
    omega
theorem rows_ok {x : W} {m : Nat} (h : Nice x) (hm : m ≤ 100) : fns T (d + 3) 7 [.int m, x] S = .ok (.bl (isRs m x)) S := by
  refine fr_ret (η := [some (.int m), some x, none, none]) (b := b_are_rows) (nv := 4) (S' := []) rfl rfl (by show (true && (x.pure && true)) = true; rw [h.pure] <;> rfl) rfl ?_ rfl
  have c1 : (mCall (fns T (d + 2)) 2 (maCons (mVar 1) (maCons (mVar 0) maNil))) [some (.int m), some x, none, none] [] = .ok (.bl (isT m x)) [] := mCall_ok (S1 := []) (maCons_ok (S1 := []) (mVar_ok rfl) (maCons_ok (S1 := []) (mVar_ok rfl) rfl)) (tup_ok (d := d + 1) h)
  rw [isRs_iff]
  cases ht : isT m x with
  | false =>
    rw [ht] at c1
    refine sSeq_ret ?_
    rw [sIf_t (S1 := []) (mTOr_t (mTNot_ok (mTru_ok c1 rfl)))]
    rfl
  | true =>
    rw [ht] at c1
    cases h with
    | tup rs hr hl =>
      have hx : ∀ r ∈ rs, Nice r := hr
      have c2 : (mBi baAll (maCons (mComp (miSeq (mVar 1)) [2] (gVar 2) mtYes (mCall (fns T (d + 2)) 2 (maCons (mVar 2) (maCons (mVar 0) maNil)))) maNil)) [some (.int m), some (.tup rs), none, none] [] = .ok (.bl (rs.all (isT m))) [] := by
        refine mBi1_ok (S1 := []) (comp_map (u := id) (v := fun r => W.bl (isT m r)) (l := rs) (by rw [List.map_id] <;> rfl) (fun r hr => ⟨[some (.int m), some (.tup rs), some r, none], rfl, ?_⟩) (by unfold bigLine; omega)) (all_map _ _)
        exact mCall_ok (S1 := []) (maCons_ok (S1 := []) (mVar_ok rfl) (maCons_ok (S1 := []) (mVar_ok rfl) rfl)) (tup_ok (d := d + 1) (hx r hr))
      show _ = RS.ret (W.bl (true && (rs.all (isT m) && (rs.flatMap cellsW).all (isBt 0 2)))) []
      rw [Bool.true_and]
      cases ha : rs.all (isT m) with
      | false =>
        rw [ha] at c2
        refine sSeq_ret ?_
        rw [sIf_t (S1 := []) ((mTOr_f (mTNot_ok (mTru_ok c1 rfl))).trans (mTNot_ok (mTru_ok c2 rfl)))]
        rfl
      | true =>
        rw [ha] at c2
        rw [Bool.true_and]
        refine (sSeq_nx (sIf_n ((mTOr_f (mTNot_ok (mTru_ok c1 rfl))).trans (mTNot_ok (mTru_ok c2 rfl))))).trans ?_
        refine sRet_ok (mBi1_ok (S1 := []) (comp2_map (u := id) (v := id) (f := cellsW) (w := fun c => W.bl (isBt 0 2 c)) (l := rs) (by rw [List.map_id] <;> rfl) (fun r hr => ⟨[some (.int m), some (.tup rs), some r, none], rfl, ?_, fun c hc => ⟨[some (.int m), some (.tup rs), some r, some c], rfl, ?_⟩⟩) ?_) (all_map _ _))
        · have hrt : isT m r = true := List.all_eq_true.mp ha r hr
          cases r with
          | tup cs => rw [List.map_id] <;> rfl
          | _ => cases hrt
        · have hrt : isT m r = true := List.all_eq_true.mp ha r hr
          cases r with
          | tup cs =>
            have nc : Nice c := (hx _ hr).get (.inl rfl) hc
            exact mCall_ok (S1 := []) (maCons_ok (S1 := []) (mVar_ok rfl) (maCons_ok (S1 := []) rfl rfl)) (btw_ok (d := d) nc)
          | _ => cases hrt
        · rw [flat_short ha]
          unfold bigLine
          have : rs.length * m ≤ 100 * 100 := Nat.mul_le_mul hl hm
          omega
    | _ => cases ht
end
end Lw


namespace Lw
open Mp C63
def tI (r : List Int) : W := .tup (r.map .int)
def lI (r : List Int) : W := .lst (r.map .int)
def encL (M : Tab) : W := .lst (M.map lI)
theorem pures_map {α : Type} (f : α → W) (h : ∀ a, (f a).pure = true) (l : List α) : pures (l.map f) = true := pures_of fun x hx => by
  obtain ⟨a, _, rfl⟩ := List.mem_map.mp hx
  exact h a
theorem pure_lI (r : List Int) : (lI r).pure = true := pures_map _ (fun _ => rfl) r
theorem pure_tI (r : List Int) : (tI r).pure = true := pures_map _ (fun _ => rfl) r
theorem pure_encL (M : Tab) : (encL M).pure = true := pures_map _ pure_lI M
theorem map_range {α β : Type} (f : α → β) (z : α) (l : List α) : l.map f = (List.range l.length).map fun i => f (l.getD i z) := by
  apply List.ext_getElem
  · simp
  · intro i h1 h2
    have hi : i < l.length := by simpa using h1
    simp [hi]
theorem mem_row {M : Tab} {n i : Nat} (h : M.length = n) (hi : i < n) : rowI M i ∈ M := by
  subst h
  show M.getD i [] ∈ M
  rw [List.getD_eq_getElem?_getD, List.getElem?_eq_getElem hi]
  exact List.getElem_mem hi
theorem row_of {M : Tab} {r : List Int} (h : r ∈ M) : ∃ i, i < M.length ∧ rowI M i = r := by
  obtain ⟨i, hi, e⟩ := List.getElem_of_mem h
  refine ⟨i, hi, ?_⟩
  show M.getD i [] = r
  rw [List.getD_eq_getElem?_getD, List.getElem?_eq_getElem hi]
  exact e
/-- small numbers -/
def Sm (r : List Int) : Prop := ∀ x ∈ r, 0 ≤ x ∧ x ≤ 2
def SmT (M : Tab) : Prop := ∀ r ∈ M, Sm r
theorem sm_get {r : List Int} (h : Sm r) (k : Nat) : 0 ≤ r.getD k 0 ∧ r.getD k 0 ≤ 2 := by
  by_cases hk : k < r.length
  · rw [List.getD_eq_getElem?_getD, List.getElem?_eq_getElem hk]
    exact h _ (List.getElem_mem hk)
  · rw [List.getD_eq_getElem?_getD, List.getElem?_eq_none (by omega)]
    decide
theorem sm_row {M : Tab} (h : SmT M) (i : Nat) : Sm (rowI M i) := by
  by_cases hi : i < M.length
  · exact h _ (mem_row rfl hi)
  · show Sm (M.getD i [])
    rw [List.getD_eq_getElem?_getD, List.getElem?_eq_none (by omega)]
    intro x hx
    cases hx
theorem sm_lead (f : Tab) (p : Nat) : Sm (leadI f p) := by
  intro x hx
  obtain ⟨e, _, rfl⟩ := List.mem_map.mp hx
  omega
theorem less_map (row lead : List Int) (t : Int) : lessI row lead t = (row.zip lead).map fun p => (p.1 - t * p.2) % 3 := by
  unfold lessI
  induction row generalizing lead with
  | nil => rfl
  | cons a r ih =>
    cases lead with
    | nil => rfl
    | cons b l => rw [List.zipWith_cons_cons, ih, List.zip_cons_cons, List.map_cons]
theorem sm_less (row lead : List Int) (t : Int) : Sm (lessI row lead t) := by
  rw [less_map]
  intro x hx
  obtain ⟨e, _, rfl⟩ := List.mem_map.mp hx
  omega
theorem sm_clear {n m p a : Nat} {M : Tab} (h : sizeI n m M) (hp : p < n) (ha : a < n) : SmT (clearI M p a) := by
  intro r hr
  obtain ⟨i, hi, rfl⟩ := row_of hr
  rw [(clear_size h hp ha).1] at hi
  rw [clear_row h hp ha i hi]
  split
  · exact sm_lead _ _
  · exact sm_less _ _ _
theorem tups_zip (f g : List Int → W) : True := trivial
theorem pairs_map {α β : Type} (f : α → W) (g : β → W) : ∀ (xs : List α) (ys : List β), tupsW2 (xs.map f) (ys.map g) = (xs.zip ys).map fun p => W.tup [f p.1, g p.2]
  | [], _ => rfl
  | x :: r, [] => rfl
  | x :: r, y :: t => by
    have e := pairs_map f g r t
    show (W.tup [f x, g y]) :: tupsW2 (r.map f) (t.map g) = _
    rw [e] <;> rfl
section
variable {d : Nat} {S : Store}
theorem len3 {η : Env} {S : Store} : mBi baLen (maCons (mC (.str [48, 49, 50])) maNil) η S = .ok (.int 3) S := rfl
theorem mulSm {a b : Int} {S : Store} (h : 0 ≤ a ∧ a ≤ 2) : opMul (.int a) (.int b) S = some (.int (a * b)) := opMul_l (by omega)
theorem less_ok {row lead : List Int} {t : Int} (ht : 0 ≤ t ∧ t ≤ 2) (hl : row.length ≤ 1000) : fns T (d + 1) 10 [lI row, lI lead, .int t] S = .ok (lI (lessI row lead t)) S := by
  refine fr_ret (η := [some (lI row), some (lI lead), some (.int t), none, none]) (b := b_lessened) (nv := 5) (S' := []) rfl rfl (by show ((lI row).pure && ((lI lead).pure && true)) = true; rw [pure_lI, pure_lI] <;> rfl) rfl ?_ (pure_lI _)
  refine sRet_ok ?_
  unfold lI
  rw [less_map, List.map_map]
  refine comp_map (u := fun p : Int × Int => W.tup [.int p.1, .int p.2]) (l := row.zip lead) ?_ (fun p hp => ⟨[some (.lst (row.map .int)), some (.lst (lead.map .int)), some (.int t), some (.int p.1), some (.int p.2)], rfl, ?_⟩) (by unfold bigLine; rw [List.length_zip]; omega)
  · show rOpt (some (tupsW2 (row.map W.int) (lead.map W.int))) [] = _
    rw [pairs_map] <;> rfl
  · exact mBin_ok (S1 := []) (mBin_ok (S1 := []) (mVar_ok rfl) (mBin_ok (S1 := []) (mVar_ok rfl) (mVar_ok rfl) (mulSm ht)) rfl) len3 (opMod_ok (by decide))
theorem compRE_map {g : MG} {e : ME} {η : Env} {S : Store} {r : Nat} {xs : List W} {v : Nat → W} (hS : S[r]? = some (.lst xs)) (h : ∀ i (hi : i < xs.length), ∃ η1, g (wrapE i xs[i]) η S = some (η1, S) ∧ e η1 S = .ok (v i) S) : ∀ (k i fuel : Nat) (acc : List W), i + k = xs.length → k < fuel → acc.length + k ≤ bigLine →
    compRE g mtYes e η r fuel i S acc = .ok (acc ++ (List.range k).map fun j => v (i + j)) S
  | 0, i, fuel, acc, hik, hf, hl => by
    obtain ⟨f, rfl⟩ : ∃ f, fuel = f + 1 := ⟨fuel - 1, by omega⟩
    unfold compRE
    rw [show itemR r i S = some none from by
      unfold itemR
      rw [hS]
      show some (xs[i]?) = _
      rw [List.getElem?_eq_none (by omega)]]
    show R.ok acc S = _
    rw [List.range_zero, List.map_nil, List.append_nil]
  | k + 1, i, fuel, acc, hik, hf, hl => by
    obtain ⟨f, rfl⟩ : ∃ f, fuel = f + 1 := ⟨fuel - 1, by omega⟩
    have hi : i < xs.length := by omega
    obtain ⟨η1, h1, h2⟩ := h i hi
    unfold compRE
    rw [show itemR r i S = some (some xs[i]) from by
      unfold itemR
      rw [hS]
      show some (xs[i]?) = _
      rw [List.getElem?_eq_getElem hi]]
    simp only [h1, mtYes, h2, R.bind]
    rw [if_pos True.intro]
    unfold sized
    rw [if_pos (by omega)]
    have ih := compRE_map (g := g) (e := e) (η := η) (v := v) hS h k (i + 1) f (acc ++ [v i]) (by omega) (by omega) (by rw [List.length_append, List.length_singleton]; omega)
    refine Eq.trans ih ?_
    rw [List.append_assoc, List.range_succ_eq_map, List.map_cons, List.map_map]
    show R.ok (acc ++ (v i :: _)) S = R.ok (acc ++ (v (i + 0) :: _)) S
    congr 3
    exact List.map_congr_left fun j _ => by show v (i + 1 + j) = v (i + (j + 1)); congr 1; omega
theorem compE_map {ga : MA} {own : List Nat} {g : MG} {e : ME} {η : Env} {S : Store} {r : Nat} {xs : List W} {v : Nat → W} (ha : ga η S = .ok [.ref r] S) (hS : S[r]? = some (.lst xs)) (h : ∀ i (hi : i < xs.length), ∃ η1, g (wrapE i xs[i]) (wipeE η own) S = some (η1, S) ∧ e η1 S = .ok (v i) S) (hl : xs.length ≤ 1000) :
    mCompE false ga own g mtYes e η S = .ok (.lst ((List.range xs.length).map v)) S := by
  unfold mCompE
  rw [ha]
  show (noexc (compRE g mtYes e (wipeE η own) r 1000000 0 S [])).bind (fun ws S2 => if false = true then _ else R.ok (W.lst ws) S2) = _
  rw [compRE_map hS h xs.length 0 1000000 [] (by omega) (by omega) (by unfold bigLine; simp only [List.length_nil]; omega), List.nil_append]
  show R.ok (W.lst ((List.range xs.length).map fun j => v (0 + j))) S = _
  congr 2
  exact List.map_congr_left fun j _ => by rw [Nat.zero_add]
theorem ixL {M : Tab} {i : Nat} {S : Store} (h : i < M.length) (hS : S[0]? = some (.lst (M.map lI))) : opIx (.ref 0) (.int i) S = some (lI (rowI M i)) := opIx_ref hS (atW_f lI [] h)
theorem ixR {r : List Int} {k : Nat} {S : Store} (h : k < r.length) : opIx (lI r) (.int k) S = some (.int (r.getD k 0)) := by
  show (some (r.map W.int)).bind (fun xs => atW xs (k : Int)) = _
  exact atW_f W.int 0 h
theorem clear_ok {n m p a : Nat} {M : Tab} (h : sizeI n m M) (hn : n ≤ 4) (hm : m ≤ 8) (hnm : n ≤ m) (sm : SmT M) (hp : p < n) (ha : a < n) : fns T (d + 2) 9 [encL M, .int p, .int a] S = .ok (encL (clearI M p a)) S := by
  refine fr_ret (η := [some (encL M), some (.int p), some (.int a), none, none, none, none, none]) (b := b_cleared) (nv := 8) (S' := [.lst ((swapI M p a).map lI)]) rfl rfl (by show ((encL M).pure && true) = true; rw [pure_encL] <;> rfl) rfl ?_ (pure_encL _)
  have s := swap_size h hp ha
  have hM : M.length = n := h.1
  refine (sSeq_nx (η1 := [some (encL M), some (.int p), some (.int a), some (.ref 0), none, none, none, none]) (S1 := [.lst (M.map lI)]) (sSet_ok ?_)).trans ?_
  · show (if pures (M.map lI) = true then _ else _) = _
    rw [if_pos (pures_map _ pure_lI M)] <;> rfl
  have w1 : (mBin opIx (mVar 3) (mVar 2)) [some (encL M), some (.int p), some (.int a), some (.ref 0), none, none, none, none] [.lst (M.map lI)] = .ok (lI (rowI M a)) [.lst (M.map lI)] := mBin_ok (S1 := [.lst (M.map lI)]) (mVar_ok rfl) (mVar_ok rfl) (ixL (by omega) rfl)
  have w2 : (mBin opIx (mVar 3) (mVar 1)) [some (encL M), some (.int p), some (.int a), some (.ref 0), none, none, none, none] [.lst (M.map lI)] = .ok (lI (rowI M p)) [.lst (M.map lI)] := mBin_ok (S1 := [.lst (M.map lI)]) (mVar_ok rfl) (mVar_ok rfl) (ixL (by omega) rfl)
  refine (sSeq_nx (η1 := [some (encL M), some (.int p), some (.int a), some (.ref 0), none, none, none, none]) (S1 := [.lst ((swapI M p a).map lI)]) (sAsg_ok (S1 := [.lst (M.map lI)]) (w := .tup [lI (rowI M a), lI (rowI M p)]) (mTup_ok (S1 := [.lst (M.map lI)]) (maCons_ok w1 (maCons_ok w2 rfl)) (by show 2 ≤ bigLine; decide)) ?_)).trans ?_
  · refine gsCons_ok (S1 := [.lst ((M.set p (rowI M a)).map lI)]) (gIdx_ok (mVar_ok rfl) (mVar_ok rfl) ((setAt_ref (i := 0) (xs := M.map lI) rfl ⟨by omega, by rw [List.length_map]; omega⟩ (pure_lI _)).trans ?_)) (gsCons_ok (S1 := [.lst ((swapI M p a).map lI)]) (gIdx_ok (mVar_ok rfl) (mVar_ok rfl) ((setAt_ref (i := 0) (xs := (M.set p (rowI M a)).map lI) rfl ⟨by omega, by rw [List.length_map, List.length_set]; omega⟩ (pure_lI _)).trans ?_)) rfl)
    · rw [Int.toNat_natCast, ← List.map_set] <;> rfl
    · rw [Int.toNat_natCast, ← List.map_set] <;> rfl
  have hS : ([Cell.lst ((swapI M p a).map lI)] : Store)[0]? = some (.lst ((swapI M p a).map lI)) := rfl
  obtain ⟨S1, eS⟩ : ∃ S1, S1 = [Cell.lst ((swapI M p a).map lI)] := ⟨_, rfl⟩
  rw [← eS] at hS ⊢
  have rl : ∀ i, i < n → (rowI (swapI M p a) i).length = m := s.2
  have smS : ∀ i, i < n → Sm (rowI (swapI M p a) i) := fun i hi => by
    rw [swap_row h hp ha]
    split
    · exact sm_row sm _
    · split
      · exact sm_row sm _
      · exact sm_row sm _
  have wp : ∀ {η : Env}, η[3]? = some (some (.ref 0)) → η[1]? = some (some (.int p)) → (mBin opIx (mVar 3) (mVar 1)) η S1 = .ok (lI (rowI (swapI M p a) p)) S1 := fun h3 h1 => mBin_ok (S1 := S1) (mVar_ok h3) (mVar_ok h1) (ixL (by rw [s.1]; exact hp) hS)
  refine (sSeq_nx (η1 := [some (encL M), some (.int p), some (.int a), some (.ref 0), some (lI (leadI (swapI M p a) p)), none, none, none]) (S1 := S1) (sSet_ok ?_)).trans ?_
  · show mComp _ _ _ _ _ _ _ = R.ok (W.lst ((leadI (swapI M p a) p).map W.int)) S1
    unfold leadI
    rw [List.map_map]
    refine comp_map (u := W.int) (l := rowI (swapI M p a) p) ?_ (fun x hx => ⟨[some (encL M), some (.int p), some (.int a), some (.ref 0), none, some (.int x), none, none], rfl, ?_⟩) (by unfold bigLine; rw [rl p hp]; omega)
    · unfold miSeq
      rw [wp rfl rfl] <;> rfl
    · refine mBin_ok (S1 := S1) (mBin_ok (S1 := S1) (mBin_ok (S1 := S1) (wp rfl rfl) (mVar_ok rfl) (ixR (by rw [rl p hp]; omega))) (mVar_ok rfl) (mulSm (sm_get (smS p hp) p))) len3 (opMod_ok (by decide))
  refine sRet_ok ?_
  unfold encL
  rw [map_range lI [] (clearI M p a), (clear_size h hp ha).1]
  have e0 : (List.range n) = List.range ((swapI M p a).map lI).length := by rw [List.length_map, s.1]
  rw [e0]
  refine compE_map (r := 0) rfl hS (fun i hi => ⟨[some (.lst (M.map lI)), some (.int p), some (.int a), some (.ref 0), some (lI (leadI (swapI M p a) p)), none, some (.int i), some (lI (rowI (swapI M p a) i))], ?_, ?_⟩) (by rw [List.length_map, s.1]; omega)
  · have hi' : i < (swapI M p a).length := by simpa using hi
    show (gTupW _ (.tup [.int i, ((swapI M p a).map lI)[i]]) _ S1) = _
    have er : ((swapI M p a).map lI)[i] = lI (rowI (swapI M p a) i) := by
      rw [List.getElem_map]
      show _ = lI ((swapI M p a).getD i [])
      rw [List.getD_eq_getElem?_getD, List.getElem?_eq_getElem hi'] <;> rfl
    rw [er] <;> rfl
  · have hi' : i < n := by simpa [s.1] using hi
    show _ = R.ok (lI (rowI (clearI M p a) i)) S1
    rw [clear_row h hp ha i hi']
    have ct : (mTCmp opEq (mVar 6) (mVar 1)) [some (.lst (M.map lI)), some (.int p), some (.int a), some (.ref 0), some (lI (leadI (swapI M p a) p)), none, some (.int i), some (lI (rowI (swapI M p a) i))] S1 = .ok (decide (i = p)) S1 := mTCmp_ok (S1 := S1) (mVar_ok rfl) (mVar_ok rfl) (nat_eq i p)
    by_cases e : i = p
    · rw [if_pos e]
      exact (mIf_t (ct.trans (by rw [decide_eq_true e]))).trans (mVar_ok rfl)
    · rw [if_neg e]
      refine (mIf_f (ct.trans (by rw [decide_eq_false e]))).trans (mCall_ok (S1 := S1) (maCons_ok (S1 := S1) (mVar_ok rfl) (maCons_ok (S1 := S1) (mVar_ok rfl) (maCons_ok (S1 := S1) (mBin_ok (S1 := S1) (mVar_ok rfl) (mVar_ok rfl) (ixR (by rw [rl i hi']; omega))) rfl))) ?_)
      exact less_ok (sm_get (smS i hi') p) (by rw [rl i hi']; omega)
end
end Lw


namespace Lw
open Mp C63
theorem dotI_congr {r s : List Int} {x : Nat → Int} : ∀ (n : Nat), (∀ k, k < n → r.getD k 0 = s.getD k 0) → dotI n r x = dotI n s x
  | 0, _ => rfl
  | n + 1, h => by
    show dotI n r x + r.getD n 0 * x n = dotI n s x + s.getD n 0 * x n
    rw [dotI_congr n fun k hk => h k (by omega), h n (by omega)]
def unitR (n p : Nat) : List Int := (List.range n).map fun a => if a = p then 1 else 0
def tab0 (n : Nat) (M : Tab) : Tab := (M.zip (List.range n)).map fun q => q.1 ++ unitR n q.2
theorem unitR_len (n p : Nat) : (unitR n p).length = n := by simp [unitR]
theorem sm_unitR (n p : Nat) : Sm (unitR n p) := by
  intro x hx
  obtain ⟨a, _, rfl⟩ := List.mem_map.mp hx
  split <;> decide
theorem tab0_row {n m : Nat} {M : Tab} (h : sizeI n m M) {i : Nat} (hi : i < n) : rowI (tab0 n M) i = rowI M i ++ unitR n i := by
  have e : rowI M i = M[i]'(by rw [h.1]; exact hi) := by
    show M.getD i [] = _
    rw [List.getD_eq_getElem?_getD, List.getElem?_eq_getElem (by rw [h.1]; exact hi)] <;> rfl
  rw [e]
  have hz : i < (M.zip (List.range n)).length := by rw [List.length_zip, h.1, List.length_range]; omega
  show (tab0 n M).getD i [] = _
  unfold tab0
  rw [List.getD_eq_getElem?_getD, List.getElem?_map, List.getElem?_eq_getElem hz, List.getElem_zip, List.getElem_range] <;> rfl
theorem tab0_size {n m : Nat} {M : Tab} (h : sizeI n m M) : sizeI n (m + n) (tab0 n M) := by
  refine ⟨by unfold tab0; rw [List.length_map, List.length_zip, h.1, List.length_range, Nat.min_self], fun i hi => ?_⟩
  rw [tab0_row h hi, List.length_append, h.2 i hi, unitR_len]
theorem tab0_sm {n m : Nat} {M : Tab} (h : sizeI n m M) (sm : SmT M) : SmT (tab0 n M) := by
  intro r hr
  obtain ⟨i, hi, rfl⟩ := row_of hr
  rw [(tab0_size h).1] at hi
  rw [tab0_row h hi]
  intro x hx
  rcases List.mem_append.mp hx with z | z
  · exact sm_row sm i x z
  · exact sm_unitR n i x z
theorem tab0_tri {n : Nat} {M : Tab} (h : sizeI n n M) : Tri n (tab0 n M) ↔ Tri n M := by
  have e : ∀ x, Kz n (tab0 n M) x ↔ Kz n M x := fun x => by
    have q : ∀ i, i < n → dotI n (rowI (tab0 n M) i) x = dotI n (rowI M i) x := fun i hi => by
      rw [tab0_row h hi]
      refine dotI_congr n fun k hk => ?_
      rw [List.getD_eq_getElem?_getD, List.getElem?_append_left (by rw [h.2 i hi]; exact hk), ← List.getD_eq_getElem?_getD]
    exact ⟨fun k i hi => q i hi ▸ k i hi, fun k i hi => (q i hi).symm ▸ k i hi⟩
  exact ⟨fun t x k => t x ((e x).mpr k), fun t x k => t x ((e x).mp k)⟩
section
variable {d : Nat} {S : Store}
theorem rng_nat {ga : MA} {η : Env} {S : Store} {n : Nat} (ha : ga η S = .ok [.int n] S) (h : n < 1000000) : miRng rng1 ga η S = .ok ((List.range n).map nW) S := by
  rw [← rangeW_nat]
  exact miRng_ok ha (rng1_nat h)
theorem plain_ok {n : Nat} (h : n ≤ 100) : fns T (d + 1) 8 [.int n] S = .ok (.tup ((List.range n).map fun p => tI (unitR n p))) S := by
  refine fr_ret (η := [some (.int n), none, none]) (b := b_plain_rows) (nv := 3) (S' := []) rfl rfl rfl rfl ?_ (pures_map _ (fun p => pure_tI _) _)
  refine sRet_ok (mBi1_ok (S1 := []) (comp_map (u := nW) (v := fun p => tI (unitR n p)) (l := List.range n) (rng_nat rfl (by omega)) (fun p hp => ⟨[some (.int n), some (nW p), none], rfl, ?_⟩) (by unfold bigLine; rw [List.length_range]; omega)) rfl)
  refine mBi1_ok (S1 := []) (comp_map (u := nW) (v := fun a => W.int (if a = p then 1 else 0)) (l := List.range n) (rng_nat rfl (by omega)) (fun a ha => ⟨[some (.int n), some (nW p), some (nW a)], rfl, ?_⟩) (by unfold bigLine; rw [List.length_range]; omega)) ?_
  · have ct : (mTCmp opEq (mVar 2) (mVar 1)) [some (.int n), some (nW p), some (nW a)] [] = .ok (decide (a = p)) [] := mTCmp_ok (S1 := []) (mVar_ok rfl) (mVar_ok rfl) (nat_eq a p)
    by_cases e : a = p
    · rw [if_pos e]
      exact (mIf_t (ct.trans (by rw [decide_eq_true e]))).trans rfl
    · rw [if_neg e]
      exact (mIf_f (ct.trans (by rw [decide_eq_false e]))).trans rfl
  · show some (W.tup _) = some (W.tup ((unitR n p).map .int))
    unfold unitR
    rw [List.map_map] <;> rfl
def rbE (M0 : W) (n : Nat) (M : Tab) (w3 w4 : Option W) : Env := [some M0, some (nW n), some (encL M), w3, w4, none, none, none]
theorem ne_int0 (a : Int) {S : Store} : opNe (.int a) (.int 0) S = some (.bl (!decide (a = 0))) := by
  show some (W.bl (!((a : Int) == 0))) = _
  rw [int_eq]
theorem rng2_nat {a b : Nat} (ha : a ≤ b) (hb : b < 1000000) : rng2 [.int a, .int b] = some ((List.range (b - a)).map fun j => nW (a + j)) := by
  show (if -4611686018427387904 ≤ (a : Int) ∧ (a : Int) < 4611686018427387904 ∧ -4611686018427387904 ≤ (b : Int) ∧ (b : Int) < 4611686018427387904 then some (rangeW (a : Int) ((b : Int) - (a : Int)).toNat) else none) = _
  rw [if_pos (by omega)]
  unfold rangeW
  have e : ((b : Int) - (a : Int)).toNat = b - a := by omega
  rw [e]
  congr 1
theorem eq_nil (xs : List W) (h : ∀ x ∈ xs, ∃ i, x = .int i) {S : Store} : opEq (.lst xs) (.lst []) S = some (.bl xs.isEmpty) := by
  have ok : ∀ (xs : List W), (∀ x ∈ xs, ∃ i, x = .int i) → okDs xs 29 = true := by
    intro xs
    induction xs with
    | nil => intro _; rfl
    | cons x r ih =>
      intro h
      obtain ⟨i, rfl⟩ := h _ (List.mem_cons_self ..)
      show (true && okDs r 29) = true
      rw [ih fun y hy => h y (List.mem_cons_of_mem _ hy)] <;> rfl
  show (if okD (.lst xs) 30 = true ∧ okD (.lst []) 30 = true then some (W.bl (eqW (.lst xs) (.lst []))) else none) = _
  rw [if_pos ⟨by show (true && okDs xs 29) = true; rw [ok xs h] <;> rfl, rfl⟩]
  cases xs <;> rfl
theorem forL_ret {g : MG} {b : MS} {η η1 : Env} {S S1 S2 : Store} {x w : W} {r : List W} (hg : g x η S = some (η1, S1)) (hb : b η1 S1 = .ret w S2) : forL g b (x :: r) η S = .ret w S2 := by
  conv => lhs; unfold forL
  simp only [hg, hb]
theorem back_loop {n : Nat} {M0 : W} (hn : n ≤ 4) : ∀ (k p : Nat) (M : Tab) (w3 w4 : Option W), p + k = n → sizeI n (n + n) M → SmT M → Unit n p M →
    (forL (gVar 3) (p_rows_back_3b (fns T (d + 2))) ((List.range k).map fun j => nW (p + j)) (rbE M0 n M w3 w4) [] = .ret .non [] ∧ ¬ Tri n M) ∨
    (∃ M' w3' w4', forL (gVar 3) (p_rows_back_3b (fns T (d + 2))) ((List.range k).map fun j => nW (p + j)) (rbE M0 n M w3 w4) [] = .nx (rbE M0 n M' w3' w4') [] ∧ M'.length = n ∧ (∀ r ∈ M', r.length = n + n) ∧ Tri n M)
  | 0, p, M, w3, w4, hk, sz, sm, u => by
    have e : p = n := by omega
    subst e
    refine .inr ⟨M, w3, w4, rfl, sz.1, fun r hr => ?_, unit_tri u⟩
    obtain ⟨i, hi, rfl⟩ := row_of hr
    exact sz.2 i (by rw [← sz.1]; exact hi)
  | k + 1, p, M, w3, w4, hk, sz, sm, u => by
    have hp : p < n := by omega
    rw [List.range_succ_eq_map, List.map_cons, List.map_map]
    have eX : ((fun j => nW (p + j)) ∘ Nat.succ) = fun j => nW (p + 1 + j) := funext fun j => by show nW (p + (j + 1)) = nW (p + 1 + j); congr 1; omega
    rw [eX]
    have g : gVar 3 (nW (p + 0)) (rbE M0 n M w3 w4) ([] : Store) = some (rbE M0 n M (some (nW p)) w4, []) := rfl
    obtain ⟨L, hL⟩ : ∃ L, L = (List.range (n - p)).filter fun j => !decide (celI M (p + j) p = 0) := ⟨_, rfl⟩
    have c4 : (mComp (miRng rng2 (maCons (mVar 3) (maCons (mVar 1) (maNil)))) [7] (gVar 7) (mTCmp opNe (mBin opIx (mBin opIx (mVar 2) (mVar 7)) (mVar 3)) (mC (.int 0))) (mVar 7)) (rbE M0 n M (some (nW p)) w4) [] = .ok (.lst (L.map fun j => nW (p + j))) [] := by
      rw [hL]
      refine comp_flt (u := fun j => nW (p + j)) (v := fun j => nW (p + j)) (l := List.range (n - p)) (miRng_ok (ws := [.int p, .int n]) rfl (rng2_nat (by omega) (by omega))) (fun j hj => ⟨[some M0, some (nW n), some (encL M), some (nW p), w4, none, none, some (nW (p + j))], rfl, ?_, fun _ => rfl⟩) (by unfold bigLine; rw [List.length_range]; omega)
      have hj := List.mem_range.mp hj
      refine mTCmp_ok (S1 := []) (mBin_ok (S1 := []) (mBin_ok (S1 := []) (x := encL M) (y := nW (p + j)) (mVar_ok rfl) (mVar_ok rfl) ?_) (mVar_ok rfl) (ixR (by rw [sz.2 (p + j) (by omega)]; omega))) rfl (ne_int0 _)
      show atW (M.map lI) ((p + j : Nat) : Int) = some (lI (rowI M (p + j)))
      exact atW_f lI [] (by rw [sz.1]; omega)
    have b1 : ∀ {g' : MS}, (sSeq (sSet 4 (mComp (miRng rng2 (maCons (mVar 3) (maCons (mVar 1) (maNil)))) [7] (gVar 7) (mTCmp opNe (mBin opIx (mBin opIx (mVar 2) (mVar 7)) (mVar 3)) (mC (.int 0))) (mVar 7))) g') (rbE M0 n M (some (nW p)) w4) [] = g' (rbE M0 n M (some (nW p)) (some (.lst (L.map fun j => nW (p + j))))) [] := sSeq_nx (sSet_ok c4)
    have ct : (mTCmp opEq (mVar 4) (mLst maNil)) (rbE M0 n M (some (nW p)) (some (.lst (L.map fun j => nW (p + j))))) [] = .ok (L.map fun j => nW (p + j)).isEmpty [] := mTCmp_ok (S1 := []) (mVar_ok rfl) rfl (eq_nil _ fun x hx => by
      obtain ⟨j, _, rfl⟩ := List.mem_map.mp hx
      exact ⟨_, rfl⟩)
    cases hc : L with
    | nil =>
      refine .inl ⟨?_, unit_stop hp u fun i h1 h2 => ?_⟩
      · rw [hc] at ct b1
        have hb : p_rows_back_3b (fns T (d + 2)) (rbE M0 n M (some (nW p)) w4) [] = .ret .non [] := by
          unfold p_rows_back_3b
          rw [b1]
          refine sSeq_ret ?_
          rw [sIf_t ct]
          rfl
        exact forL_ret g hb
      · have : (i - p) ∉ L := by rw [hc]; exact List.not_mem_nil
        rw [hL, List.mem_filter] at this
        by_cases z : celI M i p = 0
        · exact z
        · refine absurd ⟨List.mem_range.mpr (by omega), ?_⟩ this
          have e : p + (i - p) = i := by omega
          rw [e, decide_eq_false z] <;> rfl
    | cons j r =>
      have hj : j ∈ L := by rw [hc]; exact List.mem_cons_self ..
      rw [hL, List.mem_filter] at hj
      have hjr := List.mem_range.mp hj.1
      have ha : p + j < n := by omega
      have nz : celI M (p + j) p ≠ 0 := by
        have z := hj.2
        simpa using z
      have sml := sm_get (sm_row sm (p + j)) p
      have nd : ¬ (3 : Int) ∣ celI M (p + j) p := by
        intro z
        have z1 : 0 ≤ celI M (p + j) p ∧ celI M (p + j) p ≤ 2 := sml
        omega
      rw [hc] at ct b1
      have hb : p_rows_back_3b (fns T (d + 2)) (rbE M0 n M (some (nW p)) w4) [] = .nx (rbE M0 n (clearI M p (p + j)) (some (nW p)) (some (.lst ((j :: r).map fun j => nW (p + j))))) [] := by
        unfold p_rows_back_3b
        rw [b1]
        refine (sSeq_nx (sIf_n ct)).trans (sSet_ok (mCall_ok (S1 := []) (maCons_ok (S1 := []) (mVar_ok rfl) (maCons_ok (S1 := []) (mVar_ok rfl) (maCons_ok (S1 := []) (mBin_ok (S1 := []) (mVar_ok rfl) rfl (show atW ((j :: r).map fun j => nW (p + j)) ((0 : Nat) : Int) = _ from atW_f (fun j => nW (p + j)) 0 (l := j :: r) (a := 0) (by simp))) rfl))) (clear_ok (n := n) (m := n + n) sz hn (by omega) (by omega) sm hp ha)))
      rw [forL_nx g hb]
      have kz := fun x => clear_kz (n := n) (m := n + n) (M := M) (p := p) (a := p + j) (by omega) sz hp ha nd x
      have tr : Tri n (clearI M p (p + j)) ↔ Tri n M := ⟨fun t x q => t x ((kz x).mpr q), fun t x q => t x ((kz x).mp q)⟩
      rcases back_loop hn k (p + 1) (clearI M p (p + j)) (some (nW p)) (some (.lst ((j :: r).map fun j => nW (p + j)))) (by omega) (clear_size sz hp ha) (sm_clear sz hp ha) (clear_unit (by omega) sz hp ha (by omega) nd u) with ⟨h1, h2⟩ | ⟨M', w3', w4', h1, h2, h3, h4⟩
      · exact .inl ⟨h1, fun t => h2 (tr.mpr t)⟩
      · exact .inr ⟨M', w3', w4', h1, h2, h3, tr.mp h4⟩
theorem back_ok {n : Nat} {M : Tab} (h1 : 1 ≤ n) (hn : n ≤ 4) (sz : sizeI n n M) (sm : SmT M) :
    (fns T (d + 3) 11 [.tup (M.map tI)] S = .ok .non S ∧ ¬ Tri n M) ∨ (∃ xs, fns T (d + 3) 11 [.tup (M.map tI)] S = .ok (.tup xs) S ∧ Tri n M) := by
  have hM := sz.1
  have hp : pures [W.tup (M.map tI)] = true := by
    show (pures (M.map tI) && true) = true
    rw [pures_map _ pure_tI M] <;> rfl
  have s1 : (sSet 1 (mBi baLen (maCons (mVar 0) (maNil)))) [some (.tup (M.map tI)), none, none, none, none, none, none, none] [] = .nx [some (.tup (M.map tI)), some (nW n), none, none, none, none, none, none] [] := by
    refine sSet_ok (w := nW n) (mBi1_ok (S1 := []) (mVar_ok rfl) ?_)
    show some (W.int ((M.map tI).length : Int)) = _
    rw [List.length_map, hM]
  have s2 : (sSet 2 (mComp (miAll zipG2 (maCons (mVar 0) (maCons (mCall (fns T (d + 2)) 8 (maCons (mVar 1) (maNil))) (maNil)))) [5, 6] (gTupW (gsCons (gVar 5) (gsCons (gVar 6) (gsNil)))) (mtYes) (mLst (maStar (mVar 5) (maStar (mVar 6) (maNil)))))) [some (.tup (M.map tI)), some (nW n), none, none, none, none, none, none] [] = .nx (rbE (.tup (M.map tI)) n (tab0 n M) none none) [] := by
    refine sSet_ok (w := encL (tab0 n M)) ?_
    unfold encL tab0
    rw [List.map_map]
    refine comp_map (u := fun q : List Int × Nat => W.tup [tI q.1, tI (unitR n q.2)]) (l := M.zip (List.range n)) ?_ (fun q hq => ⟨[some (.tup (M.map tI)), some (nW n), none, none, none, some (tI q.1), some (tI (unitR n q.2)), none], rfl, ?_⟩) (by unfold bigLine; rw [List.length_zip, hM, List.length_range]; omega)
    · unfold miAll
      rw [maCons_ok (S1 := []) (mVar_ok rfl) (maCons_ok (S1 := []) (mCall_ok (S1 := []) (maCons_ok (S1 := []) (mVar_ok rfl) rfl) (plain_ok (d := d + 1) (by omega))) rfl)]
      show rOpt (some (tupsW2 (M.map tI) ((List.range n).map fun p => tI (unitR n p)))) [] = _
      rw [pairs_map] <;> rfl
    · have l1 : q.1.length = n := by
        obtain ⟨i, hi, e⟩ := row_of (List.of_mem_zip hq).1
        rw [← e]
        exact sz.2 i (by rw [← hM]; exact hi)
      show (maStar (mVar 5) (maStar (mVar 6) maNil) _ _).bind _ = _
      have em : (maStar (mVar 5) (maStar (mVar 6) maNil)) [some (.tup (M.map tI)), some (nW n), none, none, none, some (tI q.1), some (tI (unitR n q.2)), none] [] = .ok ((q.1 ++ unitR n q.2).map W.int) [] := by
        show R.ok (q.1.map W.int ++ ((unitR n q.2).map W.int ++ [])) ([] : Store) = _
        rw [List.append_nil, ← List.map_append]
      rw [em]
      show sized ((q.1 ++ unitR n q.2).map W.int).length _ = _
      unfold sized
      rw [if_pos (by unfold bigLine; rw [List.length_map, List.length_append, l1, unitR_len]; omega)] <;> rfl
  have hsz := tab0_size sz
  have hit : (miRng rng1 (maCons (mVar 1) (maNil))) (rbE (.tup (M.map tI)) n (tab0 n M) none none) [] = .ok ((List.range n).map fun j => nW (0 + j)) [] := by
    rw [rng_nat rfl (by omega)]
    refine congrArg (fun l => R.ok l ([] : Store)) ?_
    exact List.map_congr_left fun j _ => by rw [Nat.zero_add]
  rcases back_loop (d := d) (M0 := .tup (M.map tI)) hn n 0 (tab0 n M) none none (by omega) hsz (tab0_sm sz sm) (fun i _ j hj => absurd hj (Nat.not_lt_zero _)) with ⟨e, nt⟩ | ⟨M', w3, w4, e, l1, l2, t⟩
  · refine .inl ⟨?_, fun t => nt ((tab0_tri sz).mpr t)⟩
    refine fr_ret (η := [some (.tup (M.map tI)), none, none, none, none, none, none, none]) (b := b_rows_back) (nv := 8) (S' := []) rfl rfl hp rfl ?_ rfl
    refine (sSeq_nx s1).trans ((sSeq_nx s2).trans (sSeq_ret ?_))
    unfold p_rows_back_3
    exact (sFor_ok hit).trans e
  · refine .inr ⟨M'.map (fun r => .tup ((cutW r (some n) none).map .int)), ?_, (tab0_tri sz).mp t⟩
    refine fr_ret (η := [some (.tup (M.map tI)), none, none, none, none, none, none, none]) (b := b_rows_back) (nv := 8) (S' := []) rfl rfl hp rfl ?_ (pures_map (fun r => W.tup ((cutW r (some (n : Int)) none).map .int)) (fun r => pures_map W.int (fun _ => rfl) _) M')
    refine (sSeq_nx s1).trans ((sSeq_nx s2).trans ((sSeq_nx (η1 := rbE (.tup (M.map tI)) n M' w3 w4) (S1 := []) ?_).trans ?_))
    · unfold p_rows_back_3
      exact (sFor_ok hit).trans e
    · refine sRet_ok (mBi1_ok (S1 := []) (comp_map (u := lI) (v := fun r => W.tup ((cutW r (some n) none).map .int)) (l := M') rfl (fun r hr => ⟨[some (.tup (M.map tI)), some (nW n), some (encL M'), w3, w4, some (lI r), none, none], rfl, ?_⟩) (by unfold bigLine; rw [l1]; omega)) rfl)
      refine mBi1_ok (S1 := []) (x := .lst ((cutW r (some n) none).map .int)) ?_ rfl
      show R.ok (W.lst (cutW (r.map W.int) (some (n : Int)) none)) [] = _
      rw [cutW_map]
end
end Lw


namespace Lw
open Mp C63
/-! ### what is asked -/
def encV (M : Tab) (c : List Nat) : W := .tup [.tup (M.map tI), .str c]
def Well20 (m : Nat) (M : Tab) (c : List Nat) : Prop := sizeI m m M ∧ SmT M ∧ c.length = m ∧ c.all isDg = true
def shB (m : Nat) : W → Bool
  | .tup [a, b] => isRs m a && isCd m b
  | _ => false
def Good (m : Nat) (v : W) : Prop := ∃ M c, v = encV M c ∧ Well20 m M c ∧ Tri m M
theorem isBt_ints : ∀ {xs : List W}, xs.all (isBt 0 2) = true → ∃ r : List Int, xs = r.map .int ∧ Sm r
  | [], _ => ⟨[], rfl, fun x hx => by cases hx⟩
  | x :: r, h => by
    rw [List.all_cons, Bool.and_eq_true] at h
    obtain ⟨ys, e, sm⟩ := isBt_ints h.2
    have h1 := h.1
    cases x with
    | int i =>
      have h1 : (decide (0 ≤ i) && decide (i ≤ 2)) = true := h1
      rw [Bool.and_eq_true, decide_eq_true_eq, decide_eq_true_eq] at h1
      refine ⟨i :: ys, by rw [e] <;> rfl, fun x hx => ?_⟩
      rcases List.mem_cons.mp hx with z | z
      · rw [z]; exact h1
      · exact sm x z
    | _ => cases h1
theorem isR_rows {m : Nat} : ∀ {rs : List W}, rs.all (isR m) = true → ∃ M : Tab, rs = M.map tI ∧ SmT M ∧ ∀ r ∈ M, r.length = m
  | [], _ => ⟨[], rfl, (fun x hx => by cases hx), fun x hx => by cases hx⟩
  | x :: r, h => by
    rw [List.all_cons, Bool.and_eq_true] at h
    obtain ⟨M, e, sm, ln⟩ := isR_rows h.2
    have h1 := h.1
    cases x with
    | tup xs =>
      have h1 : (decide (xs.length = m) && xs.all (isBt 0 2)) = true := h1
      rw [Bool.and_eq_true, decide_eq_true_eq] at h1
      obtain ⟨ys, e2, s2⟩ := isBt_ints h1.2
      refine ⟨ys :: M, by rw [e, e2] <;> rfl, fun x hx => ?_, fun x hx => ?_⟩
      · rcases List.mem_cons.mp hx with z | z
        · rw [z]; exact s2
        · exact sm x z
      · rcases List.mem_cons.mp hx with z | z
        · rw [z, ← h1.1, e2, List.length_map]
        · exact ln x z
    | _ => cases h1
theorem sh_enc {m : Nat} {v : W} (h : shB m v = true) : ∃ M c, v = encV M c ∧ Well20 m M c := by
  unfold shB at h
  split at h
  · rename_i a b
    rw [Bool.and_eq_true] at h
    have ha := h.1
    have hb := h.2
    cases a with
    | tup rs =>
      have ha : (decide (rs.length = m) && rs.all (isR m)) = true := ha
      rw [Bool.and_eq_true, decide_eq_true_eq] at ha
      obtain ⟨M, e, sm, ln⟩ := isR_rows ha.2
      cases b with
      | str c =>
        have hb : (c.all isDg && decide (c.length = m)) = true := hb
        rw [Bool.and_eq_true, decide_eq_true_eq] at hb
        have hl : M.length = m := by rw [← ha.1, e, List.length_map]
        refine ⟨M, c, by rw [e] <;> rfl, ⟨hl, fun i hi => ln _ (mem_row hl hi)⟩, sm, hb.2, hb.1⟩
      | _ => cases hb
    | _ => cases ha
  · cases h
theorem sm_isBt : ∀ {r : List Int}, Sm r → (r.map W.int).all (isBt 0 2) = true
  | [], _ => rfl
  | x :: r, h => by
    rw [List.map_cons, List.all_cons, sm_isBt fun y hy => h y (List.mem_cons_of_mem _ hy), Bool.and_true]
    have := h x (List.mem_cons_self ..)
    show (decide (0 ≤ x) && decide (x ≤ 2)) = true
    rw [decide_eq_true this.1, decide_eq_true this.2] <;> rfl
theorem enc_sh {m : Nat} {M : Tab} {c : List Nat} (h : Well20 m M c) : shB m (encV M c) = true := by
  show ((decide ((M.map tI).length = m) && (M.map tI).all (isR m)) && (c.all isDg && decide (c.length = m))) = true
  have ha : (M.map tI).all (isR m) = true := List.all_eq_true.mpr fun x hx => by
    obtain ⟨r, hr, rfl⟩ := List.mem_map.mp hx
    obtain ⟨i, hi, rfl⟩ := row_of hr
    show (decide (((rowI M i).map W.int).length = m) && ((rowI M i).map W.int).all (isBt 0 2)) = true
    rw [sm_isBt (sm_row h.2.1 i), List.length_map, decide_eq_true (h.1.2 i (by rw [← h.1.1]; exact hi))] <;> rfl
  rw [ha, h.2.2.2, List.length_map, decide_eq_true h.1.1, decide_eq_true h.2.2.1] <;> rfl
section
variable {d : Nat} {S : Store}
theorem ix0 {a b : W} {η : Env} {S : Store} {i : Nat} (h : η[i]? = some (some (.tup [a, b]))) : (mBin opIx (mVar i) (mC (.int 0))) η S = .ok a S := mBin_ok (S1 := S) (mVar_ok h) rfl rfl
theorem ix1 {a b : W} {η : Env} {S : Store} {i : Nat} (h : η[i]? = some (some (.tup [a, b]))) : (mBin opIx (mVar i) (mC (.int 1))) η S = .ok b S := mBin_ok (S1 := S) (mVar_ok h) rfl rfl
theorem motion_of_ok {m : Nat} {v : W} (h1 : 1 ≤ m) (h4 : m ≤ 4) (h : Nice v) : ∃ b : Bool, fns T (d + 4) 12 [.int m, v] S = .ok (.bl b) S ∧ (b = true ↔ Good m v) := by
  have hp : pures [W.int m, v] = true := by
    show (true && (v.pure && true)) = true
    rw [h.pure] <;> rfl
  have c1 : (mCall (fns T (d + 3)) 2 (maCons (mVar 1) (maCons (mC (.int 2)) maNil))) [some (.int m), some v] [] = .ok (.bl (isT 2 v)) [] := mCall_ok (S1 := []) (maCons_ok (S1 := []) (mVar_ok rfl) rfl) (tup_ok (d := d + 2) (m := 2) h)
  have key : ∀ b : Bool, b_is_motion_of (fns T (d + 3)) [some (.int m), some v] [] = .ret (.bl b) [] → fns T (d + 4) 12 [.int m, v] S = .ok (.bl b) S := fun b e => fr_ret (η := [some (.int m), some v]) (b := b_is_motion_of) (nv := 2) (S' := []) rfl rfl hp rfl e rfl
  have bad : shB m v = false → ¬ Good m v := fun hs ⟨M, c, e, w, _⟩ => by
    rw [e, enc_sh w] at hs
    cases hs
  by_cases ht : isT 2 v = true
  · cases h with
    | tup xs hx hl =>
      have hl2 : xs.length = 2 := of_decide_eq_true ht
      obtain ⟨a, b, rfl⟩ : ∃ a b, xs = [a, b] := by
        match xs, hl2 with
        | [a, b], _ => exact ⟨a, b, rfl⟩
      have na := hx a (by simp)
      have nb := hx b (by simp)
      have c1' : (mTNot (mTru (mCall (fns T (d + 3)) 2 (maCons (mVar 1) (maCons (mC (.int 2)) maNil))))) [some (.int m), some (.tup [a, b])] [] = .ok false [] := mTNot_ok (mTru_ok c1 rfl)
      have c2 : (mTNot (mTru (mCall (fns T (d + 3)) 7 (maCons (mVar 0) (maCons (mBin opIx (mVar 1) (mC (.int 0))) maNil))))) [some (.int m), some (.tup [a, b])] [] = .ok (!isRs m a) [] := mTNot_ok (mTru_ok (mCall_ok (S1 := []) (maCons_ok (S1 := []) (mVar_ok rfl) (maCons_ok (S1 := []) (ix0 rfl) rfl)) (rows_ok (d := d) na (by omega))) rfl)
      have c3 : (mTNot (mTru (mCall (fns T (d + 3)) 5 (maCons (mVar 0) (maCons (mBin opIx (mVar 1) (mC (.int 1))) maNil))))) [some (.int m), some (.tup [a, b])] [] = .ok (!isCd m b) [] := mTNot_ok (mTru_ok (mCall_ok (S1 := []) (maCons_ok (S1 := []) (mVar_ok rfl) (maCons_ok (S1 := []) (ix1 rfl) rfl)) (card_ok (d := d + 1) nb)) rfl)
      cases ha : isRs m a with
      | false =>
        rw [ha] at c2
        refine ⟨false, key false (sSeq_ret ?_), fun z => (by cases z), fun z => absurd z (bad (by show (isRs m a && isCd m b) = false; rw [ha] <;> rfl))⟩
        rw [sIf_t ((mTOr_f c1').trans (mTOr_t c2))]
        rfl
      | true =>
        rw [ha] at c2
        cases hb : isCd m b with
        | false =>
          rw [hb] at c3
          refine ⟨false, key false (sSeq_ret ?_), fun z => (by cases z), fun z => absurd z (bad (by show (isRs m a && isCd m b) = false; rw [ha, hb] <;> rfl))⟩
          rw [sIf_t ((mTOr_f c1').trans ((mTOr_f c2).trans c3))]
          rfl
        | true =>
          rw [hb] at c3
          obtain ⟨M, c, e, w⟩ := sh_enc (m := m) (v := .tup [a, b]) (by show (isRs m a && isCd m b) = true; rw [ha, hb] <;> rfl)
          unfold encV at e
          injection e with e
          injection e with e1 e2
          injection e2 with e2 _
          subst e1 e2
          have s1 : (sIf (mTOr (mTNot (mTru (mCall (fns T (d + 3)) 2 (maCons (mVar 1) (maCons (mC (.int 2)) (maNil)))))) (mTOr (mTNot (mTru (mCall (fns T (d + 3)) 7 (maCons (mVar 0) (maCons (mBin opIx (mVar 1) (mC (.int 0))) (maNil)))))) (mTNot (mTru (mCall (fns T (d + 3)) 5 (maCons (mVar 0) (maCons (mBin opIx (mVar 1) (mC (.int 1))) (maNil)))))))) (sRet (mC (.bl false))) (sNx)) [some (.int m), some (.tup [.tup (M.map tI), .str c])] [] = .nx [some (.int m), some (.tup [.tup (M.map tI), .str c])] [] := sIf_n ((mTOr_f c1').trans ((mTOr_f c2).trans c3))
          have gM : ∀ M' c', encV M c = encV M' c' → M.map tI = M'.map tI := fun M' c' e => by
            unfold encV at e
            injection e with e
            injection e with e _
            injection e
          have ti : ∀ {r r' : List Int}, tI r = tI r' → r = r' := fun {r r'} e => by
            unfold tI at e
            injection e with e
            exact List.map_inj_right (fun x y h => by injection h) |>.mp e
          have mi : ∀ {M' : Tab}, M.map tI = M'.map tI → M = M' := fun {M'} e => List.map_inj_right (fun x y h => ti h) |>.mp e
          rcases back_ok (d := d) (S := []) h1 h4 w.1 w.2.1 with ⟨e, nt⟩ | ⟨xs, e, t⟩
          · refine ⟨false, key false ((sSeq_nx s1).trans (sRet_ok (mUn_ok (S1 := []) (x := .non) (mCall_ok (S1 := []) (maCons_ok (S1 := []) (ix0 rfl) rfl) e) rfl))), fun z => (by cases z), fun ⟨M', c', e', w', t'⟩ => absurd ?_ nt⟩
            rw [mi (gM M' c' e')]
            exact t'
          · exact ⟨true, key true ((sSeq_nx s1).trans (sRet_ok (mUn_ok (S1 := []) (x := .tup xs) (mCall_ok (S1 := []) (maCons_ok (S1 := []) (ix0 rfl) rfl) e) rfl))), fun _ => ⟨M, c, rfl, w, t⟩, fun _ => rfl⟩
    | _ => cases ht
  · have hf : isT 2 v = false := by simpa using ht
    rw [hf] at c1
    refine ⟨false, key false (sSeq_ret ?_), fun z => (by cases z), fun z => absurd z (bad ?_)⟩
    · rw [sIf_t (mTOr_t (mTNot_ok (mTru_ok c1 rfl)))]
      rfl
    · unfold shB
      split
      · rename_i a b
        have z : isT 2 (.tup [a, b]) = true := rfl
        rw [z] at hf
        cases hf
      · rfl
theorem motion_ok {m : Nat} {v : W} (h1 : 1 ≤ m) (h4 : m ≤ 4) (h : Nice v) : ∃ b : Bool, fns T (d + 5) 13 [.int m, v] S = .ok (.bl b) S ∧ (b = true ↔ Good m v) := by
  obtain ⟨b, e, g⟩ := motion_of_ok (d := d) (S := []) h1 h4 h
  refine ⟨b, ?_, g⟩
  refine fr_ret (η := [some (.int m), some v]) (b := b_is_motion) (nv := 2) (S' := []) rfl rfl (by show (true && (v.pure && true)) = true; rw [h.pure] <;> rfl) rfl ?_ rfl
  refine (sSeq_nx (sDrop_ok (mCall_ok (S1 := []) (maCons_ok (S1 := []) (mVar_ok rfl) rfl) (marks_ok (d := d) h1 h4)))).trans (sRet_ok (mCall_ok (S1 := []) (maCons_ok (S1 := []) (mVar_ok rfl) (maCons_ok (S1 := []) (mVar_ok rfl) rfl)) e))
end
end Lw


namespace Lw
open Mp C63
/-! ### the law's own test: the images of all cards -/
def cardsD : Nat → List (List Nat)
  | 0 => [[]]
  | m + 1 => (cardsD m).flatMap fun t => [t ++ [48], t ++ [49], t ++ [50]]
def isDeck (r : R W) (D : List (List Nat)) : Bool := match r with
  | .ok (.lst xs) [] => (match strsOf xs with
    | some zs => decide (zs = D)
    | none => false)
  | _ => false
theorem isDeck_ok {r : R W} {D : List (List Nat)} (h : isDeck r D = true) : r = .ok (.lst (D.map .str)) [] := by
  unfold isDeck at h
  split at h
  · split at h
    · rename_i xs zs e
      have e2 := of_decide_eq_true h
      subst e2
      rw [strsOf_inv e]
    · cases h
  · cases h
theorem c_deck (d : Nat) : [1, 2, 3, 4].all (fun m => isDeck (fns T (d + 1) 18 [.int ((m : Nat) : Int)] []) (cardsD m)) = true := by kernel_rfl
theorem deck_ok {d m : Nat} {S : Store} (h1 : 1 ≤ m) (h4 : m ≤ 4) : fns T (d + 1) 18 [.int m] S = .ok (.lst ((cardsD m).map .str)) S := by
  have hm : m ∈ [1, 2, 3, 4] := by simp; omega
  exact fr_any rfl (isDeck_ok (List.all_eq_true.mp (c_deck d) m hm))
theorem mem_cardsD : ∀ {m : Nat} {t : List Nat}, t ∈ cardsD m ↔ t.length = m ∧ t.all isDg = true
  | 0, t => by
    show t ∈ [[]] ↔ _
    rw [List.mem_singleton]
    constructor
    · rintro rfl
      exact ⟨rfl, rfl⟩
    · rintro ⟨h, _⟩
      exact List.eq_nil_of_length_eq_zero h
  | m + 1, t => by
    show t ∈ (cardsD m).flatMap _ ↔ _
    rw [List.mem_flatMap]
    constructor
    · rintro ⟨s, hs, ht⟩
      have q := mem_cardsD.mp hs
      simp only [List.mem_cons, List.not_mem_nil, or_false] at ht
      rcases ht with rfl | rfl | rfl <;> (refine ⟨by rw [List.length_append, q.1] <;> rfl, ?_⟩; rw [List.all_append, q.2] <;> rfl)
    · rintro ⟨hl, ha⟩
      have hne : t ≠ [] := fun z => by rw [z] at hl; cases hl
      obtain ⟨s, c, rfl⟩ : ∃ s c, t = s ++ [c] := ⟨t.dropLast, t.getLast hne, (List.dropLast_concat_getLast hne).symm⟩
      rw [List.all_append, Bool.and_eq_true] at ha
      rw [List.length_append, List.length_singleton] at hl
      refine ⟨s, mem_cardsD.mpr ⟨by omega, ha.1⟩, ?_⟩
      have hc : c ∈ [48, 49, 50] := by
        have z := ha.2
        rw [List.all_cons, Bool.and_eq_true] at z
        exact of_decide_eq_true z.1
      simp only [List.mem_cons, List.not_mem_nil, or_false] at hc ⊢
      rcases hc with rfl | rfl | rfl
      · exact .inl rfl
      · exact .inr (.inl rfl)
      · exact .inr (.inr rfl)
theorem cardsD_len : ∀ m, (cardsD m).length = 3 ^ m
  | 0 => rfl
  | m + 1 => by
    show ((cardsD m).flatMap _).length = _
    have e : ∀ l : List (List Nat), (l.flatMap fun t => [t ++ [48], t ++ [49], t ++ [50]]).length = 3 * l.length := by
      intro l
      induction l with
      | nil => rfl
      | cons a r ih =>
        rw [List.flatMap_cons, List.length_append, ih]
        simp only [List.length_cons, List.length_nil]
        omega
    rw [e, cardsD_len m, Nat.pow_succ, Nat.mul_comm]
theorem nodup_cardsD (m : Nat) (h : m ≤ 4) : (cardsD m).Nodup := by
  have : ∀ k, k ≤ 4 → decide ((cardsD k).Nodup) = true := by
    intro k hk
    have : k = 0 ∨ k = 1 ∨ k = 2 ∨ k = 3 ∨ k = 4 := by omega
    rcases this with rfl | rfl | rfl | rfl | rfl <;> decide +kernel
  exact of_decide_eq_true (this m h)
/-- a digit's number -/
def dv (c : Nat) : Int := ((c - 48 : Nat) : Int)
def rowV (row : List Int) (u : List Nat) : Int := ((row.zip u).map fun p => p.1 * dv p.2).sum
def ledL (M : Tab) (c u : List Nat) : List Nat := (M.zip c).map fun p => 48 + ((rowV p.1 u + dv p.2) % 3).toNat
theorem rowV_dot : ∀ (n : Nat) (row : List Int) (u : List Nat), row.length = n → u.length = n → rowV row u = dotI n row (fun k => dv (u.getD k 48))
  | 0, row, u, h1, h2 => by
    rw [List.eq_nil_of_length_eq_zero h1]
    rfl
  | n + 1, row, u, h1, h2 => by
    have n1 : row ≠ [] := fun z => by rw [z] at h1; cases h1
    have n2 : u ≠ [] := fun z => by rw [z] at h2; cases h2
    obtain ⟨r, a, rfl⟩ : ∃ s c, row = s ++ [c] := ⟨row.dropLast, row.getLast n1, (List.dropLast_concat_getLast n1).symm⟩
    obtain ⟨w, c, rfl⟩ : ∃ s c, u = s ++ [c] := ⟨u.dropLast, u.getLast n2, (List.dropLast_concat_getLast n2).symm⟩
    rw [List.length_append, List.length_singleton] at h1 h2
    have l1 : r.length = n := by omega
    have l2 : w.length = n := by omega
    have ih := rowV_dot n r w l1 l2
    unfold rowV at ih ⊢
    rw [List.zip_append (by rw [l1, l2]), List.map_append, List.sum_append, ih]
    show _ = dotI n (r ++ [a]) _ + (r ++ [a]).getD n 0 * dv ((w ++ [c]).getD n 48)
    have e1 : (r ++ [a]).getD n 0 = a := by rw [List.getD_eq_getElem?_getD, List.getElem?_append_right (by omega), l1, Nat.sub_self] <;> rfl
    have e2 : (w ++ [c]).getD n 48 = c := by rw [List.getD_eq_getElem?_getD, List.getElem?_append_right (by omega), l2, Nat.sub_self] <;> rfl
    rw [e1, e2]
    have e3 : dotI n (r ++ [a]) (fun k => dv ((w ++ [c]).getD k 48)) = dotI n r (fun k => dv (w.getD k 48)) := by
      have : ∀ (m : Nat), m ≤ n → dotI m (r ++ [a]) (fun k => dv ((w ++ [c]).getD k 48)) = dotI m r (fun k => dv (w.getD k 48)) := by
        intro m
        induction m with
        | zero => intro _; rfl
        | succ m ih =>
          intro hm
          show dotI m (r ++ [a]) _ + (r ++ [a]).getD m 0 * dv ((w ++ [c]).getD m 48) = dotI m r _ + r.getD m 0 * dv (w.getD m 48)
          have q1 : (r ++ [a]).getD m 0 = r.getD m 0 := by rw [List.getD_eq_getElem?_getD, List.getElem?_append_left (by omega), ← List.getD_eq_getElem?_getD]
          have q2 : (w ++ [c]).getD m 48 = w.getD m 48 := by rw [List.getD_eq_getElem?_getD, List.getElem?_append_left (by omega), ← List.getD_eq_getElem?_getD]
          rw [ih (by omega), q1, q2]
      exact this n (Nat.le_refl _)
    rw [e3]
    show dotI n r (fun k => dv (w.getD k 48)) + (a * dv c + 0) = _
    rw [Int.add_zero]
theorem dotI_sub {r : List Int} {x y : Nat → Int} : ∀ n : Nat, dotI n r (fun k => x k - y k) = dotI n r x - dotI n r y
  | 0 => by simp [dotI]
  | n + 1 => by
    show dotI n r (fun k => x k - y k) + r.getD n 0 * (x n - y n) = dotI n r x + r.getD n 0 * x n - (dotI n r y + r.getD n 0 * y n)
    rw [dotI_sub n, Int.mul_sub]
    omega
theorem dg_of {u : List Nat} (h : u.all isDg = true) {k : Nat} (hk : k < u.length) : u.getD k 48 = 48 ∨ u.getD k 48 = 49 ∨ u.getD k 48 = 50 := by
  rw [List.getD_eq_getElem?_getD, List.getElem?_eq_getElem hk]
  have z : isDg u[k] = true := List.all_eq_true.mp h _ (List.getElem_mem hk)
  have z := of_decide_eq_true z
  simp only [List.mem_cons, List.not_mem_nil, or_false] at z
  exact z
theorem ledL_get {M : Tab} {c u : List Nat} {m : Nat} (h : M.length = m) (hc : c.length = m) {i : Nat} (hi : i < m) : (ledL M c u)[i]? = some (48 + ((rowV (rowI M i) u + dv (c.getD i 48)) % 3).toNat) := by
  unfold ledL
  have hz : i < (M.zip c).length := by rw [List.length_zip, h, hc]; omega
  rw [List.getElem?_map, List.getElem?_eq_getElem hz, List.getElem_zip]
  have e : rowI M i = M[i]'(by omega) := by
    show M.getD i [] = _
    rw [List.getD_eq_getElem?_getD, List.getElem?_eq_getElem (by omega)] <;> rfl
  have e2 : c.getD i 48 = c[i]'(by omega) := by
    rw [List.getD_eq_getElem?_getD, List.getElem?_eq_getElem (by omega)] <;> rfl
  rw [e, e2] <;> rfl
theorem led_inj {M : Tab} {c : List Nat} {m : Nat} (w : Well20 m M c) (t : Tri m M) {u v : List Nat} (hu : u ∈ cardsD m) (hv : v ∈ cardsD m) (e : ledL M c u = ledL M c v) : u = v := by
  have qu := mem_cardsD.mp hu
  have qv := mem_cardsD.mp hv
  have k : Kz m M (fun k => dv (u.getD k 48) - dv (v.getD k 48)) := fun i hi => by
    have a1 := ledL_get (u := u) w.1.1 w.2.2.1 hi
    have a2 := ledL_get (u := v) w.1.1 w.2.2.1 hi
    rw [e, a2] at a1
    have a3 := Option.some.inj a1
    rw [dotI_sub, ← rowV_dot m (rowI M i) u (w.1.2 i hi) qu.1, ← rowV_dot m (rowI M i) v (w.1.2 i hi) qv.1]
    omega
  have f := t _ k
  apply List.ext_getElem
  · rw [qu.1, qv.1]
  · intro i h1 h2
    have hi : i < m := by rw [← qu.1]; exact h1
    have d1 := dg_of qu.2 h1
    have d2 := dg_of qv.2 h2
    have f1 := f i hi
    have g1 : u.getD i 48 = u[i] := by rw [List.getD_eq_getElem?_getD, List.getElem?_eq_getElem h1] <;> rfl
    have g2 : v.getD i 48 = v[i] := by rw [List.getD_eq_getElem?_getD, List.getElem?_eq_getElem h2] <;> rfl
    rw [← g1, ← g2]
    unfold dv at f1
    rcases d1 with z | z | z <;> rcases d2 with y | y | y <;> rw [z, y] at f1 ⊢ <;> first | rfl | exact absurd f1 (by decide)
theorem led_tri {M : Tab} {c : List Nat} {m : Nat} (w : Well20 m M c) (inj : ∀ u v, u ∈ cardsD m → v ∈ cardsD m → ledL M c u = ledL M c v → u = v) : Tri m M := by
  intro x k j hj
  obtain ⟨u, eu⟩ : ∃ u : List Nat, u = (List.range m).map fun k => 48 + (x k % 3).toNat := ⟨_, rfl⟩
  obtain ⟨v, ev⟩ : ∃ v : List Nat, v = (List.range m).map fun _ => 48 := ⟨_, rfl⟩
  have lu : u.length = m := by rw [eu]; simp
  have lv : v.length = m := by rw [ev]; simp
  have gu : ∀ k, k < m → u.getD k 48 = 48 + (x k % 3).toNat := fun k hk => by rw [eu]; simp [hk]
  have gv : ∀ k, k < m → v.getD k 48 = 48 := fun k hk => by rw [ev]; simp [hk]
  have hu : u ∈ cardsD m := mem_cardsD.mpr ⟨lu, List.all_eq_true.mpr fun y hy => by
    rw [eu] at hy
    obtain ⟨k, _, rfl⟩ := List.mem_map.mp hy
    have : x k % 3 = 0 ∨ x k % 3 = 1 ∨ x k % 3 = 2 := by omega
    rcases this with z | z | z <;> rw [z] <;> rfl⟩
  have hv : v ∈ cardsD m := mem_cardsD.mpr ⟨lv, List.all_eq_true.mpr fun y hy => by
    rw [ev] at hy
    obtain ⟨k, _, rfl⟩ := List.mem_map.mp hy
    rfl⟩
  have e : ledL M c u = ledL M c v := by
    apply List.ext_getElem?
    intro i
    by_cases hi : i < m
    · rw [ledL_get w.1.1 w.2.2.1 hi, ledL_get w.1.1 w.2.2.1 hi, rowV_dot m _ u (w.1.2 i hi) lu, rowV_dot m _ v (w.1.2 i hi) lv]
      have z0 : dotI m (rowI M i) (fun k => dv (v.getD k 48)) = 0 := dotI_zero m fun k hk => by rw [gv k hk]; show _ * (0 : Int) = 0; rw [Int.mul_zero]
      have z1 : (3 : Int) ∣ dotI m (rowI M i) (fun k => dv (u.getD k 48)) := by
        have q : ∀ (n : Nat), n ≤ m → (3 : Int) ∣ dotI n (rowI M i) (fun k => dv (u.getD k 48)) - dotI n (rowI M i) x := by
          intro n
          induction n with
          | zero => intro _; exact ⟨0, rfl⟩
          | succ n ih =>
            intro hn
            obtain ⟨a, ea⟩ := ih (by omega)
            have eb : dv (u.getD n 48) = x n % 3 := by
              rw [gu n (by omega)]
              unfold dv
              omega
            refine ⟨a - (rowI M i).getD n 0 * (x n / 3), ?_⟩
            show dotI n (rowI M i) (fun k => dv (u.getD k 48)) + (rowI M i).getD n 0 * dv (u.getD n 48) - (dotI n (rowI M i) x + (rowI M i).getD n 0 * x n) = _
            rw [eb]
            have ex : x n % 3 = x n - 3 * (x n / 3) := by omega
            rw [ex]
            grind
        have q1 := q m (Nat.le_refl _)
        have q2 := k i hi
        omega
      rw [z0]
      congr 2
      omega
    · rw [List.getElem?_eq_none (by unfold ledL; rw [List.length_map, List.length_zip, w.1.1, w.2.2.1]; omega), List.getElem?_eq_none (by unfold ledL; rw [List.length_map, List.length_zip, w.1.1, w.2.2.1]; omega)]
  have h := inj u v hu hv e
  have q := gu j hj
  rw [h, gv j hj] at q
  omega
theorem ddup_full {α : Type} [DecidableEq α] : ∀ {l : List α}, (ddup l).length = l.length ↔ l.Nodup
  | [] => ⟨fun _ => List.nodup_nil, fun _ => rfl⟩
  | x :: r => by
    have hl := ddup_len r
    unfold ddup
    split
    · rename_i h
      rw [List.length_cons, List.nodup_cons]
      exact ⟨fun z => by omega, fun z => absurd h z.1⟩
    · rename_i h
      rw [List.length_cons, List.length_cons, List.nodup_cons]
      exact ⟨fun z => ⟨h, ddup_full.mp (by omega)⟩, fun z => by rw [ddup_full.mpr z.2]⟩
theorem nodup_inj {α β : Type} {f : α → β} : ∀ {l : List α}, (l.map f).Nodup → ∀ a b, a ∈ l → b ∈ l → f a = f b → a = b
  | [], _, a, _, h, _, _ => by cases h
  | x :: r, h, a, b, ha, hb, e => by
    rw [List.map_cons, List.nodup_cons] at h
    rcases List.mem_cons.mp ha with z | z <;> rcases List.mem_cons.mp hb with y | y
    · rw [z, y]
    · exact absurd (by rw [← z, e]; exact List.mem_map_of_mem y) h.1
    · exact absurd (by rw [← y, ← e]; exact List.mem_map_of_mem z) h.1
    · exact nodup_inj h.2 a b z y e
theorem nodup_of_inj {α β : Type} {f : α → β} : ∀ {l : List α}, l.Nodup → (∀ a b, a ∈ l → b ∈ l → f a = f b → a = b) → (l.map f).Nodup
  | [], _, _ => List.nodup_nil
  | x :: r, h, i => by
    rw [List.nodup_cons] at h
    rw [List.map_cons, List.nodup_cons]
    refine ⟨fun z => ?_, nodup_of_inj h.2 fun a b ha hb => i a b (List.mem_cons_of_mem _ ha) (List.mem_cons_of_mem _ hb)⟩
    obtain ⟨y, hy, e⟩ := List.mem_map.mp z
    have := i y x (List.mem_cons_of_mem _ hy) (List.mem_cons_self ..) e
    exact h.1 (this ▸ hy)
theorem count_tri {M : Tab} {c : List Nat} {m : Nat} (h4 : m ≤ 4) (w : Well20 m M c) : (ddup ((cardsD m).map (ledL M c))).length = (cardsD m).length ↔ Tri m M := by
  have e : (cardsD m).length = ((cardsD m).map (ledL M c)).length := by rw [List.length_map]
  rw [e, ddup_full]
  exact ⟨fun h => led_tri w fun u v hu hv q => nodup_inj h u v hu hv q, fun t => nodup_of_inj (nodup_cardsD m h4) fun u v hu hv q => led_inj w t hu hv q⟩
end Lw


namespace Lw
open Mp C63
section
variable {d : Nat} {S : Store}
theorem strsOf_map : ∀ l : List (List Nat), strsOf (l.map W.str) = some l
  | [] => rfl
  | x :: r => by
    show (strsOf (r.map W.str)).map (x :: ·) = _
    rw [strsOf_map r] <;> rfl
theorem dig_val {c : Nat} (h : isDg c = true) : c = 48 ∨ c = 49 ∨ c = 50 := by
  have z := of_decide_eq_true h
  simp only [List.mem_cons, List.not_mem_nil, or_false] at z
  exact z
theorem int_dg {c : Nat} (h : isDg c = true) {S : Store} : baInt [.str [c]] S = some (.int (dv c)) := by
  rcases dig_val h with z | z | z <;> rw [z] <;> rfl
theorem str_dg {i : Int} (h : 0 ≤ i ∧ i < 3) {S : Store} : baStr [.int i] S = some (.str [48 + i.toNat]) := by
  have : i = 0 ∨ i = 1 ∨ i = 2 := by omega
  rcases this with z | z | z <;> rw [z] <;> rfl
theorem led_loop {M : Tab} {c u : List Nat} {v : W} (hu : u.all isDg = true) (hul : u.length ≤ 100) : ∀ (ps : List (List Int × Nat)) (acc : List Nat) (w3 w4 : Option W), (∀ p ∈ ps, isDg p.2 = true ∧ Sm p.1) → acc.length + ps.length ≤ 100 →
    ∃ w3' w4', forL (gTupW (gsCons (gVar 3) (gsCons (gVar 4) (gsNil)))) (p_law_led_2b (fns T d)) (ps.map fun p => W.tup [tI p.1, .str [p.2]]) [some v, some (.str u), some (.str acc), w3, w4, none, none] [] = .nx [some v, some (.str u), some (.str (acc ++ ps.map fun p => 48 + ((rowV p.1 u + dv p.2) % 3).toNat)), w3', w4', none, none] []
  | [], acc, w3, w4, _, _ => ⟨w3, w4, by rw [List.map_nil, List.map_nil, List.append_nil] <;> rfl⟩
  | p :: r, acc, w3, w4, h, hl => by
    rw [List.length_cons] at hl
    obtain ⟨hd, sm⟩ := h p (List.mem_cons_self ..)
    have g : gTupW (gsCons (gVar 3) (gsCons (gVar 4) (gsNil))) (W.tup [tI p.1, .str [p.2]]) [some v, some (.str u), some (.str acc), w3, w4, none, none] ([] : Store) = some ([some v, some (.str u), some (.str acc), some (tI p.1), some (.str [p.2]), none, none], []) := rfl
    have hb : p_law_led_2b (fns T d) [some v, some (.str u), some (.str acc), some (tI p.1), some (.str [p.2]), none, none] [] = .nx [some v, some (.str u), some (.str (acc ++ [48 + ((rowV p.1 u + dv p.2) % 3).toNat])), some (tI p.1), some (.str [p.2]), none, none] [] := by
      unfold p_law_led_2b
      refine sSet_ok (mBin_ok (S1 := []) (x := .str acc) (y := .str [48 + ((rowV p.1 u + dv p.2) % 3).toNat]) (mVar_ok rfl) (mBi1_ok (S1 := []) (x := .int ((rowV p.1 u + dv p.2) % 3)) (mBin_ok (S1 := []) (x := .int (rowV p.1 u + dv p.2)) (y := .int 3) (mBi1_ok (S1 := []) (x := .int (rowV p.1 u + dv p.2)) (mBin_ok (S1 := []) (x := .int (rowV p.1 u)) (y := .int (dv p.2)) ?_ (mBi1_ok (S1 := []) (mVar_ok rfl) (int_dg hd)) rfl) rfl) rfl (opMod_ok (by decide))) (str_dg (by omega))) ?_)
      · refine mBi1_ok (S1 := []) (x := .lst ((p.1.zip u).map fun q => .int (q.1 * dv q.2))) (comp_map (u := fun q : Int × Nat => W.tup [.int q.1, .str [q.2]]) (l := p.1.zip u) ?_ (fun q hq => ⟨[some v, some (.str u), some (.str acc), some (tI p.1), some (.str [p.2]), some (.int q.1), some (.str [q.2])], rfl, ?_⟩) (by unfold bigLine; rw [List.length_zip]; omega)) ?_
        · show rOpt (some (tupsW2 (p.1.map W.int) (u.map fun c => W.str [c]))) [] = _
          rw [pairs_map] <;> rfl
        · have m1 := (List.of_mem_zip hq).1
          have m2 := (List.of_mem_zip hq).2
          exact mBin_ok (S1 := []) (mVar_ok rfl) (mBi1_ok (S1 := []) (mVar_ok rfl) (int_dg (List.all_eq_true.mp hu _ m2))) (mulSm (sm _ m1))
        · show (some ((p.1.zip u).map fun q => W.int (q.1 * dv q.2))).bind (fun xs => (intsOf xs).map fun ns => W.int ns.sum) = _
          have e : ((p.1.zip u).map fun q => W.int (q.1 * dv q.2)) = ((p.1.zip u).map fun q => q.1 * dv q.2).map W.int := by rw [List.map_map] <;> rfl
          rw [e]
          show (intsOf (((p.1.zip u).map fun q => q.1 * dv q.2).map W.int)).map (fun ns => W.int ns.sum) = _
          rw [intsOf_map] <;> rfl
      · show (if acc.length + 1 ≤ bigLine then some (W.str (acc ++ [48 + ((rowV p.1 u + dv p.2) % 3).toNat])) else none) = _
        rw [if_pos (by unfold bigLine; omega)]
    rw [List.map_cons, forL_nx g hb]
    obtain ⟨w3', w4', e⟩ := led_loop hu hul (M := M) (c := c) (v := v) r (acc ++ [48 + ((rowV p.1 u + dv p.2) % 3).toNat]) (some (tI p.1)) (some (.str [p.2])) (fun q hq => h q (List.mem_cons_of_mem _ hq)) (by rw [List.length_append, List.length_singleton]; omega)
    refine ⟨w3', w4', e.trans ?_⟩
    rw [List.map_cons, List.append_assoc] <;> rfl
theorem pure_encV (M : Tab) (c : List Nat) : (encV M c).pure = true := by
  show (pures (M.map tI) && (true && true)) = true
  rw [pures_map _ pure_tI] <;> rfl
theorem led_ok {M : Tab} {c u : List Nat} {m : Nat} (h4 : m ≤ 4) (w : Well20 m M c) (hu : u ∈ cardsD m) : fns T (d + 1) 20 [encV M c, .str u] S = .ok (.str (ledL M c u)) S := by
  have qu := mem_cardsD.mp hu
  refine fr_ret (η := [some (encV M c), some (.str u), none, none, none, none, none]) (b := b_law_led) (nv := 7) (S' := []) rfl rfl (by show ((encV M c).pure && true) = true; rw [pure_encV] <;> rfl) rfl ?_ rfl
  obtain ⟨w3, w4, e⟩ := led_loop (d := d) (M := M) (c := c) (v := encV M c) qu.2 (by omega) (M.zip c) [] none none (fun p hp => ⟨List.all_eq_true.mp w.2.2.2 _ (List.of_mem_zip hp).2, w.2.1 _ (List.of_mem_zip hp).1⟩) (by rw [List.length_zip, w.1.1]; simp only [List.length_nil]; omega)
  refine (sSeq_nx (η1 := [some (encV M c), some (.str u), some (.str []), none, none, none, none]) (S1 := []) rfl).trans ((sSeq_nx (η1 := [some (encV M c), some (.str u), some (.str (ledL M c u)), w3, w4, none, none]) (S1 := []) ?_).trans ?_)
  · unfold p_law_led_2
    refine (sFor_ok (S1 := []) (xs := (M.zip c).map fun p => W.tup [tI p.1, .str [p.2]]) ?_).trans e
    show rOpt (some (tupsW2 (M.map tI) (c.map fun x => W.str [x]))) [] = _
    rw [pairs_map] <;> rfl
  · exact sRet_ok (mVar_ok rfl)
theorem rowT_ok {v : W} {m : Nat} {r : W} {w3 w4 w5 : Option W} (h : Nice r) : (mTOr (mTNot (mTru (mUn (opIsi 4) (mVar 2)))) (mTOr (mTCmp opNe (mBi baLen (maCons (mVar 2) (maNil))) (mVar 0)) (mTNot (mTru (mBi baAll (maCons (mComp (miSeq (mVar 2)) [3] (gVar 3) (mtYes) (mAnd (mUn (opIsi 2) (mVar 3)) (mAnd (mNot (mUn (opIsi 1) (mVar 3))) (mChain opLe2 opLe2 (mC (.int 0)) (mVar 3) (mC (.int 2)))))) (maNil))))))) [some (.int m), some v, some r, w3, w4, w5] [] = .ok (!isR m r) [] := by
  cases h with
  | tup xs hx hl =>
    have c1 : (mTNot (mTru (mUn (opIsi 4) (mVar 2)))) [some (.int m), some v, some (.tup xs), w3, w4, w5] [] = .ok false [] := rfl
    have c2 : (mTCmp opNe (mBi baLen (maCons (mVar 2) (maNil))) (mVar 0)) [some (.int m), some v, some (.tup xs), w3, w4, w5] [] = .ok (!decide (xs.length = m)) [] := mTCmp_ok (S1 := []) (mBi1_ok (S1 := []) (mVar_ok rfl) rfl) (mVar_ok rfl) (by
      show some (W.bl (!((xs.length : Int) == (m : Int)))) = _
      rw [int_eq]
      have e : decide ((xs.length : Int) = (m : Int)) = decide (xs.length = m) := decide_eq_decide.mpr (by omega)
      rw [e])
    have c3 : (mTNot (mTru (mBi baAll (maCons (mComp (miSeq (mVar 2)) [3] (gVar 3) (mtYes) (mAnd (mUn (opIsi 2) (mVar 3)) (mAnd (mNot (mUn (opIsi 1) (mVar 3))) (mChain opLe2 opLe2 (mC (.int 0)) (mVar 3) (mC (.int 2)))))) (maNil))))) [some (.int m), some v, some (.tup xs), w3, w4, w5] [] = .ok (!xs.all (isBt 0 2)) [] := by
      refine mTNot_ok (mTru_ok (mBi1_ok (S1 := []) (comp_map (u := id) (v := fun x => W.bl (isBt 0 2 x)) (l := xs) (by rw [List.map_id] <;> rfl) (fun x hx' => ⟨[some (.int m), some v, some (.tup xs), some x, w4, w5], rfl, ?_⟩) (by unfold bigLine; omega)) (all_map _ _)) rfl)
      have nx := hx x hx'
      cases nx with
      | int i => exact (mAnd_t (x := .bl true) (S1 := []) rfl rfl).trans ((mAnd_t (x := .bl true) (S1 := []) rfl rfl).trans (chain_le rfl (mVar_ok rfl) rfl))
      | bl b => rfl
      | _ => exact mAnd_f (x := .bl false) (S1 := []) rfl rfl
    show _ = R.ok (!(decide (xs.length = m) && xs.all (isBt 0 2))) []
    cases e1 : decide (xs.length = m) with
    | false =>
      rw [e1] at c2
      exact (mTOr_f c1).trans (mTOr_t c2)
    | true =>
      rw [e1] at c2
      exact (mTOr_f c1).trans ((mTOr_f c2).trans c3)
  | _ => exact mTOr_t rfl
theorem one_loop {v : W} {m : Nat} {w3 w4 w5 : Option W} : ∀ (rs : List W) (w2 : Option W), (∀ r ∈ rs, Nice r) → (rs.all (isR m) = true ∧ ∃ w2', forL (gVar 2) (p_law_is_one_2b (fns T d)) rs [some (.int m), some v, w2, w3, w4, w5] [] = .nx [some (.int m), some v, w2', w3, w4, w5] []) ∨ (rs.all (isR m) = false ∧ forL (gVar 2) (p_law_is_one_2b (fns T d)) rs [some (.int m), some v, w2, w3, w4, w5] [] = .ret (.bl false) [])
  | [], w2, _ => .inl ⟨rfl, w2, rfl⟩
  | r :: rs, w2, h => by
    have g : gVar 2 r [some (.int m), some v, w2, w3, w4, w5] ([] : Store) = some ([some (.int m), some v, some r, w3, w4, w5], []) := rfl
    have t := rowT_ok (v := v) (m := m) (w3 := w3) (w4 := w4) (w5 := w5) (h r (List.mem_cons_self ..))
    rw [List.all_cons]
    cases e : isR m r with
    | false =>
      rw [e] at t
      refine .inr ⟨rfl, forL_ret g ?_⟩
      unfold p_law_is_one_2b
      exact (sIf_t t).trans rfl
    | true =>
      rw [e] at t
      have hb : p_law_is_one_2b (fns T d) [some (.int m), some v, some r, w3, w4, w5] [] = .nx [some (.int m), some v, some r, w3, w4, w5] [] := by
        unfold p_law_is_one_2b
        exact sIf_n t
      rw [forL_nx g hb, Bool.true_and]
      exact one_loop rs (some r) fun x hx => h x (List.mem_cons_of_mem _ hx)
theorem in_list (c : Nat) {S : Store} : opIn (.str [c]) (.lst [.str [48], .str [49], .str [50]]) S = some (.bl (isDg c)) := by
  show some (W.bl (([48] == [c]) || (([49] == [c]) || (([50] == [c]) || false)))) = _
  have e : (([48] == [c]) || (([49] == [c]) || (([50] == [c]) || false))) = isDg c := by
    by_cases h1 : c = 48
    · subst h1; rfl
    · by_cases h2 : c = 49
      · subst h2; rfl
      · by_cases h3 : c = 50
        · subst h3; rfl
        · have a1 : ([48] == [c]) = false := beq_eq_false_iff_ne.mpr fun z => h1 (by injection z with z; exact z.symm)
          have a2 : ([49] == [c]) = false := beq_eq_false_iff_ne.mpr fun z => h2 (by injection z with z; exact z.symm)
          have a3 : ([50] == [c]) = false := beq_eq_false_iff_ne.mpr fun z => h3 (by injection z with z; exact z.symm)
          rw [a1, a2, a3]
          have : isDg c = false := decide_eq_false (by simp [h1, h2, h3])
          rw [this] <;> rfl
  rw [e]
theorem cdT_ok {a b : W} {m : Nat} {w2 w3 w4 w5 : Option W} (h : Nice b) : (mTOr (mTNot (mTru (mUn (opIsi 3) (mBin opIx (mVar 1) (mC (.int 1)))))) (mTOr (mTCmp opNe (mBi baLen (maCons (mBin opIx (mVar 1) (mC (.int 1))) (maNil))) (mVar 0)) (mTNot (mTru (mBi baAll (maCons (mComp (miSeq (mBin opIx (mVar 1) (mC (.int 1)))) [4] (gVar 4) (mtYes) (mBin opIn (mVar 4) (mLst (maCons (mC (.str [48])) (maCons (mC (.str [49])) (maCons (mC (.str [50])) (maNil))))))) (maNil))))))) [some (.int m), some (.tup [a, b]), w2, w3, w4, w5] [] = .ok (!isCd m b) [] := by
  cases h with
  | str s hl =>
    have c1 : (mTNot (mTru (mUn (opIsi 3) (mBin opIx (mVar 1) (mC (.int 1)))))) [some (.int m), some (.tup [a, .str s]), w2, w3, w4, w5] [] = .ok false [] := rfl
    have c2 : (mTCmp opNe (mBi baLen (maCons (mBin opIx (mVar 1) (mC (.int 1))) (maNil))) (mVar 0)) [some (.int m), some (.tup [a, .str s]), w2, w3, w4, w5] [] = .ok (!decide (s.length = m)) [] := mTCmp_ok (S1 := []) (mBi1_ok (S1 := []) (ix1 rfl) rfl) (mVar_ok rfl) (by
      show some (W.bl (!((s.length : Int) == (m : Int)))) = _
      rw [int_eq]
      have e : decide ((s.length : Int) = (m : Int)) = decide (s.length = m) := decide_eq_decide.mpr (by omega)
      rw [e])
    have c3 : (mTNot (mTru (mBi baAll (maCons (mComp (miSeq (mBin opIx (mVar 1) (mC (.int 1)))) [4] (gVar 4) (mtYes) (mBin opIn (mVar 4) (mLst (maCons (mC (.str [48])) (maCons (mC (.str [49])) (maCons (mC (.str [50])) (maNil))))))) (maNil))))) [some (.int m), some (.tup [a, .str s]), w2, w3, w4, w5] [] = .ok (!s.all isDg) [] :=
      mTNot_ok (mTru_ok (mBi1_ok (S1 := []) (comp_map (u := fun c => W.str [c]) (v := fun c => W.bl (isDg c)) (l := s) rfl (fun c hc => ⟨[some (.int m), some (.tup [a, .str s]), w2, w3, some (.str [c]), w5], rfl, mBin_ok (S1 := []) (mVar_ok rfl) rfl (in_list c)⟩) (by unfold bigLine; omega)) (all_map isDg s)) rfl)
    show _ = R.ok (!(s.all isDg && decide (s.length = m))) []
    cases e1 : decide (s.length = m) with
    | false =>
      rw [e1] at c2
      rw [Bool.and_false]
      exact (mTOr_f c1).trans (mTOr_t c2)
    | true =>
      rw [e1] at c2
      rw [Bool.and_true]
      exact (mTOr_f c1).trans ((mTOr_f c2).trans c3)
  | _ => exact mTOr_t rfl
end
end Lw


namespace Lw
open Mp C63
section
variable {d : Nat} {S : Store}
theorem ne_nat (a b : Nat) {S : Store} : opNe (.int a) (.int b) S = some (.bl (!decide (a = b))) := by
  show some (W.bl (!((a : Int) == (b : Int)))) = _
  rw [int_eq]
  have e : decide ((a : Int) = (b : Int)) = decide (a = b) := decide_eq_decide.mpr (by omega)
  rw [e]
theorem enc_inj {M M' : Tab} {c c' : List Nat} (e : encV M c = encV M' c') : M = M' ∧ c = c' := by
  unfold encV at e
  injection e with e
  injection e with e1 e2
  injection e1 with e1
  injection e2 with e2 _
  injection e2 with e2
  have ti : ∀ {r r' : List Int}, tI r = tI r' → r = r' := fun {r r'} e => by
    unfold tI at e
    injection e with e
    exact List.map_inj_right (fun x y h => by injection h) |>.mp e
  exact ⟨List.map_inj_right (fun x y h => ti h) |>.mp e1, e2⟩
theorem not_good {m : Nat} {v : W} (h : shB m v = false) : ¬ Good m v := fun ⟨M, c, e, w, _⟩ => by
  rw [e, enc_sh w] at h
  cases h
theorem one_ok {m : Nat} {v : W} (h1 : 1 ≤ m) (h4 : m ≤ 4) (h : Nice v) : ∃ b : Bool, fns T (d + 2) 22 [.int m, v] S = .ok (.bl b) S ∧ (b = true ↔ Good m v) := by
  have hp : pures [W.int m, v] = true := by
    show (true && (v.pure && true)) = true
    rw [h.pure] <;> rfl
  have key : ∀ b : Bool, b_law_is_one (fns T (d + 1)) [some (.int m), some v, none, none, none, none] [] = .ret (.bl b) [] → fns T (d + 2) 22 [.int m, v] S = .ok (.bl b) S := fun b e => fr_ret (η := [some (.int m), some v, none, none, none, none]) (b := b_law_is_one) (nv := 6) (S' := []) rfl rfl hp rfl e rfl
  have no : shB m v = false → b_law_is_one (fns T (d + 1)) [some (.int m), some v, none, none, none, none] [] = .ret (.bl false) [] → ∃ b : Bool, fns T (d + 2) 22 [.int m, v] S = .ok (.bl b) S ∧ (b = true ↔ Good m v) := fun hs e => ⟨false, key false e, fun z => (by cases z), fun z => absurd z (not_good hs)⟩
  cases h with
  | tup xs hx hl =>
    have c1 : (mTNot (mTru (mUn (opIsi 4) (mVar 1)))) [some (.int m), some (.tup xs), none, none, none, none] [] = .ok false [] := rfl
    have c2 : (mTCmp opNe (mBi baLen (maCons (mVar 1) (maNil))) (mC (.int 2))) [some (.int m), some (.tup xs), none, none, none, none] [] = .ok (!decide (xs.length = 2)) [] := mTCmp_ok (S1 := []) (mBi1_ok (S1 := []) (mVar_ok rfl) rfl) rfl (ne_nat xs.length 2)
    by_cases hl2 : xs.length = 2
    · rw [decide_eq_true hl2] at c2
      obtain ⟨a, b, rfl⟩ : ∃ a b, xs = [a, b] := by
        match xs, hl2 with
        | [a, b], _ => exact ⟨a, b, rfl⟩
      have na := hx a (by simp)
      have nb := hx b (by simp)
      have c3 : (mTNot (mTru (mUn (opIsi 4) (mBin opIx (mVar 1) (mC (.int 0)))))) [some (.int m), some (.tup [a, b]), none, none, none, none] [] = .ok (match a with | .tup _ => false | _ => true) [] := by
        refine mTNot_ok (b := (match a with | .tup _ => true | _ => false)) (mTru_ok (S1 := []) (x := .bl (match a with | .tup _ => true | _ => false)) (mUn_ok (S1 := []) (ix0 rfl) ?_) rfl) |>.trans ?_
        · cases na <;> rfl
        · cases na <;> rfl
      cases na with
      | tup rs hr hrl =>
        have c3 : (mTNot (mTru (mUn (opIsi 4) (mBin opIx (mVar 1) (mC (.int 0)))))) [some (.int m), some (.tup [.tup rs, b]), none, none, none, none] [] = .ok false [] := c3
        have c4 : (mTCmp opNe (mBi baLen (maCons (mBin opIx (mVar 1) (mC (.int 0))) (maNil))) (mVar 0)) [some (.int m), some (.tup [.tup rs, b]), none, none, none, none] [] = .ok (!decide (rs.length = m)) [] := mTCmp_ok (S1 := []) (mBi1_ok (S1 := []) (ix0 rfl) rfl) (mVar_ok rfl) (ne_nat rs.length m)
        by_cases hrm : rs.length = m
        · rw [decide_eq_true hrm] at c4
          have s1 : ∀ {g' : MS}, (sSeq (sIf (mTOr (mTNot (mTru (mUn (opIsi 4) (mVar 1)))) (mTOr (mTCmp opNe (mBi baLen (maCons (mVar 1) (maNil))) (mC (.int 2))) (mTOr (mTNot (mTru (mUn (opIsi 4) (mBin opIx (mVar 1) (mC (.int 0)))))) (mTCmp opNe (mBi baLen (maCons (mBin opIx (mVar 1) (mC (.int 0))) (maNil))) (mVar 0))))) (sRet (mC (.bl false))) (sNx)) g') [some (.int m), some (.tup [.tup rs, b]), none, none, none, none] [] = g' [some (.int m), some (.tup [.tup rs, b]), none, none, none, none] [] := sSeq_nx (sIf_n ((mTOr_f c1).trans ((mTOr_f c2).trans ((mTOr_f c3).trans c4))))
          have hit : (miSeq (mBin opIx (mVar 1) (mC (.int 0)))) [some (.int m), some (.tup [.tup rs, b]), none, none, none, none] [] = .ok rs [] := by
            unfold miSeq
            rw [ix0 rfl] <;> rfl
          rcases one_loop (d := d + 1) (v := .tup [.tup rs, b]) (m := m) (w3 := none) (w4 := none) (w5 := none) rs none hr with ⟨ha, w2, e⟩ | ⟨ha, e⟩
          · have s2 : ∀ {g' : MS}, (sSeq (p_law_is_one_2 (fns T (d + 1))) g') [some (.int m), some (.tup [.tup rs, b]), none, none, none, none] [] = g' [some (.int m), some (.tup [.tup rs, b]), w2, none, none, none] [] := by
              intro g'
              refine sSeq_nx ?_
              unfold p_law_is_one_2
              exact (sFor_ok hit).trans e
            have c5 := cdT_ok (a := .tup rs) (m := m) (w2 := w2) (w3 := none) (w4 := none) (w5 := none) nb
            cases hb : isCd m b with
            | false =>
              rw [hb] at c5
              refine no (by show ((decide (rs.length = m) && rs.all (isR m)) && isCd m b) = false; rw [hb, Bool.and_false]) (s1.trans (s2.trans (sSeq_ret ?_)))
              exact (sIf_t c5).trans rfl
            | true =>
              rw [hb] at c5
              obtain ⟨M, c, e1, w⟩ := sh_enc (m := m) (v := .tup [.tup rs, b]) (by show ((decide (rs.length = m) && rs.all (isR m)) && isCd m b) = true; rw [decide_eq_true hrm, ha, hb] <;> rfl)
              have e2 := e1
              unfold encV at e2
              injection e2 with e2
              injection e2 with e3 e4
              injection e4 with e4 _
              injection e3 with e3
              subst e3 e4
              have cd : (mCall (fns T (d + 1)) 18 (maCons (mVar 0) (maNil))) [some (.int m), some (encV M c), w2, none, none, none] [] = .ok (.lst ((cardsD m).map .str)) [] := mCall_ok (S1 := []) (maCons_ok (S1 := []) (mVar_ok rfl) rfl) (deck_ok (d := d) h1 h4)
              have cl : (cardsD m).length < 4000 := by
                rw [cardsD_len]
                have : 3 ^ m ≤ 3 ^ 4 := Nat.pow_le_pow_right (by decide) h4
                omega
              have cs : (mSet lenSetR (mComp (miSeq (mCall (fns T (d + 1)) 18 (maCons (mVar 0) (maNil)))) [5] (gVar 5) (mtYes) (mCall (fns T (d + 1)) 20 (maCons (mVar 1) (maCons (mVar 5) (maNil)))))) [some (.int m), some (encV M c), w2, none, none, none] [] = .ok (.int ((ddup ((cardsD m).map (ledL M c))).length : Nat)) [] := by
                unfold mSet
                rw [comp_map (u := W.str) (v := fun u => W.str (ledL M c u)) (l := cardsD m) (by unfold miSeq; rw [cd] <;> rfl) (fun u hu => ⟨[some (.int m), some (encV M c), w2, none, none, some (.str u)], rfl, mCall_ok (S1 := []) (maCons_ok (S1 := []) (mVar_ok rfl) (maCons_ok (S1 := []) (mVar_ok rfl) rfl)) (led_ok (d := d) h4 w hu)⟩) (by unfold bigLine; omega)]
                show rOpt (lenSetR ((cardsD m).map fun u => W.str (ledL M c u))) [] = _
                have em : ((cardsD m).map fun u => W.str (ledL M c u)) = ((cardsD m).map (ledL M c)).map W.str := by rw [List.map_map] <;> rfl
                rw [em]
                unfold lenSetR
                rw [strsOf_map]
                show rOpt (if ((cardsD m).map (ledL M c)).length < 4000 then _ else none) [] = _
                rw [if_pos (by rw [List.length_map]; exact cl)] <;> rfl
              have ce : (mBi baLen (maCons (mCall (fns T (d + 1)) 18 (maCons (mVar 0) (maNil))) (maNil))) [some (.int m), some (encV M c), w2, none, none, none] [] = .ok (.int ((cardsD m).length : Nat)) [] := by
                refine mBi1_ok (S1 := []) cd ?_
                show some (W.int (((cardsD m).map W.str).length : Nat)) = _
                rw [List.length_map]
              refine ⟨decide ((ddup ((cardsD m).map (ledL M c))).length = (cardsD m).length), key _ (s1.trans (s2.trans ((sSeq_nx (sIf_n c5)).trans (sRet_ok (mBin_ok (S1 := []) cs ce (nat_eq _ _)))))), ?_⟩
              rw [decide_eq_true_eq, count_tri h4 w]
              exact ⟨fun t => ⟨M, c, rfl, w, t⟩, fun ⟨M', c', e', w', t'⟩ => (enc_inj (M := M) (c := c) e').1 ▸ t'⟩
          · refine no (by show ((decide (rs.length = m) && rs.all (isR m)) && isCd m b) = false; rw [ha, Bool.and_false, Bool.false_and]) (s1.trans (sSeq_ret ?_))
            unfold p_law_is_one_2
            exact (sFor_ok hit).trans e
        · rw [decide_eq_false hrm] at c4
          refine no (by show ((decide (rs.length = m) && rs.all (isR m)) && isCd m b) = false; rw [decide_eq_false hrm] <;> rfl) (sSeq_ret ?_)
          exact (sIf_t ((mTOr_f c1).trans ((mTOr_f c2).trans ((mTOr_f c3).trans c4)))).trans rfl
      | _ =>
        refine no rfl (sSeq_ret ?_)
        exact (sIf_t ((mTOr_f c1).trans ((mTOr_f c2).trans (mTOr_t c3)))).trans rfl
    · rw [decide_eq_false hl2] at c2
      refine no ?_ (sSeq_ret ?_)
      · unfold shB
        split
        · rename_i e
          injection e with e
          subst e
          exact absurd rfl hl2
        · rfl
      · exact (sIf_t ((mTOr_f c1).trans (mTOr_t c2))).trans rfl
  | _ =>
    refine no rfl (sSeq_ret ?_)
    exact (sIf_t (mTOr_t rfl)).trans rfl
def isTr (r : R W) : Bool := match r with
  | .ok (.bl true) [] => true
  | _ => false
theorem isTr_ok {r : R W} (h : isTr r = true) : r = .ok (.bl true) [] := by
  unfold isTr at h
  split at h
  · rfl
  · cases h
theorem c_same (d : Nat) : [true, false].all (fun b => isTr (fns T (d + 3) 17 [.tup [.bl b, .bl b], .tup [.bl b, .bl b]] [])) = true := by kernel_rfl
theorem same_bb {d : Nat} {S : Store} (b : Bool) : fns T (d + 3) 17 [.tup [.bl b, .bl b], .tup [.bl b, .bl b]] S = .ok (.bl true) S := by
  have hm : b ∈ [true, false] := by cases b <;> simp
  exact fr_any rfl (isTr_ok (List.all_eq_true.mp (c_same d) b hm))
theorem asked_ok {m : Nat} {v : W} (h1 : 1 ≤ m) (h4 : m ≤ 4) (h : Nice v) : fns T (d + 6) 23 [.int m, v] S = .ok (.bl true) S := by
  obtain ⟨b, e1, g1⟩ := one_ok (d := d + 3) (S := []) h1 h4 h
  obtain ⟨b2, e2, g2⟩ := motion_ok (d := d) (S := []) h1 h4 h
  obtain rfl : b2 = b := by
    cases b <;> cases b2
    · rfl
    · exact absurd (g1.mpr (g2.mp rfl)) (by decide)
    · exact absurd (g2.mpr (g1.mp rfl)) (by decide)
    · rfl
  refine fr_ret (η := [some (.int m), some v, none]) (b := b_law_asked) (nv := 3) (S' := []) rfl rfl (by show (true && (v.pure && true)) = true; rw [h.pure] <;> rfl) rfl ?_ rfl
  refine (sSeq_nx (η1 := [some (.int m), some v, some (.bl b2)]) (S1 := []) (sSet_ok (mCall_ok (S1 := []) (maCons_ok (S1 := []) (mVar_ok rfl) (maCons_ok (S1 := []) (mVar_ok rfl) rfl)) e1))).trans (sRet_ok (mCall_ok (S1 := []) (maCons_ok (S1 := []) (x := .tup [.bl b2, .bl b2]) (mTup_ok (S1 := []) (maCons_ok (S1 := []) (x := .bl b2) (mCall_ok (S1 := []) (maCons_ok (S1 := []) (mVar_ok rfl) (maCons_ok (S1 := []) (mVar_ok rfl) rfl)) e2) (maCons_ok (S1 := []) (x := .bl b2) (mCallK_ok (S1 := []) (ws := [v, .int m]) (zs := [.int m, v]) (maCons_ok (S1 := []) (mVar_ok rfl) (maCons_ok (S1 := []) (mVar_ok rfl) rfl)) rfl rfl e2) rfl)) (by show 2 ≤ bigLine; decide)) (maCons_ok (S1 := []) (x := .tup [.bl b2, .bl b2]) (mTup_ok (S1 := []) (maCons_ok (S1 := []) (mVar_ok rfl) (maCons_ok (S1 := []) (mVar_ok rfl) rfl)) (by show 2 ≤ bigLine; decide)) rfl)) (same_bb (d := d + 2) b2)))
end
end Lw


namespace Lw
open Mp C63
/-! ### draws -/
def Kw (i n : Nat) (S S' : Store) : Prop := Well S' i ∧ n ≤ S'.length ∧ ∀ j, j < n → j ≠ i → S'[j]? = S[j]?
def Kp (i : Nat) (S S' : Store) : Prop := Well S' i ∧ S'.length = S.length ∧ ∀ j, j ≠ i → S'[j]? = S[j]?
theorem Kp.refl {i : Nat} {S : Store} (h : Well S i) : Kp i S S := ⟨h, rfl, fun _ _ => rfl⟩
theorem Kp.trans {i : Nat} {S S1 S2 : Store} (h : Kp i S S1) (k : Kp i S1 S2) : Kp i S S2 := ⟨k.1, k.2.1.trans h.2.1, fun j hj => (k.2.2 j hj).trans (h.2.2 j hj)⟩
theorem Kp.w {i : Nat} {S S' : Store} (h : Kp i S S') : Kw i S.length S S' := ⟨h.1, Nat.le_of_eq h.2.1.symm, fun j _ hj => h.2.2 j hj⟩
theorem well_lt {i : Nat} {S : Store} (h : Well S i) : i < S.length := by
  obtain ⟨_, _, _, _, _, e⟩ := h
  exact lt_get e
theorem nf_ret {k np nv : Nat} {b : Fns → MS} {ws : List W} {η : Env} {S S' : Store} {w : W} {d i : Nat} (h : T[k]? = some ⟨np, nv, false, false, b⟩) (hl : ws.length = np) (hη : ws.map some ++ List.replicate (nv - np) none = η) (hi : i < S.length) (e : b (fns T d) η S = .ret w S') (pw : w.pure = true) (kw : Kw i S.length S S') :
    ∃ S'', fns T (d + 1) k ws S = .ok w S'' ∧ Kp i S S'' := by
  refine ⟨S'.take S.length, ?_, ?_, ?_, ?_⟩
  · rw [nf_call h hl hη, e]
    show fin false S.length w S' = _
    unfold fin
    rw [if_pos pw]
  · obtain ⟨a, b, c, h1, h2, q⟩ := kw.1
    exact ⟨a, b, c, h1, h2, by rw [List.getElem?_take_of_lt hi]; exact q⟩
  · rw [List.length_take, Nat.min_eq_left kw.2.1]
  · intro j hj
    by_cases hl : j < S.length
    · rw [List.getElem?_take_of_lt hl]
      exact kw.2.2 j hl hj
    · rw [List.getElem?_eq_none (by rw [List.length_take]; omega), List.getElem?_eq_none (by omega)]
theorem comp_eff {it : MI} {own : List Nat} {g : MG} {e : ME} {η : Env} {S S0 : Store} {xs : List W} (I : Store → Prop) (P : W → Prop) (hi : it η S = .ok xs S0) (h0 : I S0) (h : ∀ x, x ∈ xs → ∀ S, I S → ∃ η1 y S', g x (wipeE η own) S = some (η1, S) ∧ e η1 S = .ok y S' ∧ P y ∧ I S') (hl : xs.length ≤ bigLine) :
    ∃ ys S', mComp it own g mtYes e η S = .ok (.lst ys) S' ∧ ys.length = xs.length ∧ (∀ y ∈ ys, P y) ∧ I S' := by
  have key : ∀ (xs : List W) (S : Store) (acc : List W), I S → (∀ x, x ∈ xs → ∀ S, I S → ∃ η1 y S', g x (wipeE η own) S = some (η1, S) ∧ e η1 S = .ok y S' ∧ P y ∧ I S') → acc.length + xs.length ≤ bigLine → ∃ ys S', compL g mtYes e (wipeE η own) xs S acc = .ok (acc ++ ys) S' ∧ ys.length = xs.length ∧ (∀ y ∈ ys, P y) ∧ I S' := by
    intro xs
    induction xs with
    | nil =>
      intro S acc h0 _ _
      exact ⟨[], S, by rw [List.append_nil] <;> rfl, rfl, (fun y hy => by cases hy), h0⟩
    | cons x r ih =>
      intro S acc h0 h hl
      rw [List.length_cons] at hl
      obtain ⟨η1, y, S', h1, h2, h3, h4⟩ := h x (List.mem_cons_self ..) S h0
      obtain ⟨ys, S'', e1, e2, e3, e4⟩ := ih S' (acc ++ [y]) h4 (fun z hz => h z (List.mem_cons_of_mem _ hz)) (by rw [List.length_append, List.length_singleton]; omega)
      refine ⟨y :: ys, S'', ?_, by rw [List.length_cons, List.length_cons, e2], fun z hz => ?_, e4⟩
      · unfold compL
        simp only [h1, mtYes, h2, R.bind]
        rw [if_pos True.intro]
        unfold sized
        rw [if_pos (by omega)]
        refine Eq.trans e1 ?_
        rw [List.append_assoc] <;> rfl
      · rcases List.mem_cons.mp hz with q | q
        · rw [q]; exact h3
        · exact e3 z q
  obtain ⟨ys, S', e1, e2, e3, e4⟩ := key xs S0 [] h0 h (by simpa using hl)
  refine ⟨ys, S', ?_, e2, e3, e4⟩
  unfold mComp
  rw [hi]
  show (noexc (compL g mtYes e (wipeE η own) xs S0 [])).bind (fun ws S2 => R.ok (W.lst ws) S2) = _
  rw [e1, List.nil_append] <;> rfl
theorem join_ok {g : ME} {η : Env} {S S' : Store} {L : List Nat} (h : g η S = .ok (.lst (L.map fun c => .str [c])) S') (hl : L.length ≤ 1000) : mJoin (mC (.str [])) g η S = .ok (.str L) S' := by
  unfold mJoin
  show ((g η S).bind fun y S2 => rOpt (opJoin (.str []) y S2) S2) = _
  rw [h]
  show rOpt (opJoin (.str []) (.lst (L.map fun c => .str [c])) S') S' = _
  have e1 : (L.map fun c => W.str [c]) = (L.map fun c => [c]).map W.str := by rw [List.map_map] <;> rfl
  have e2 : ∀ L : List Nat, joinW [] (L.map fun c => [c]) = L := fun L => by
    induction L with
    | nil => rfl
    | cons x r ih =>
      cases r with
      | nil => rfl
      | cons y s =>
        show [x] ++ [] ++ joinW [] ((y :: s).map fun c => [c]) = _
        rw [ih] <;> rfl
  have e3 : ∀ L : List Nat, ((L.map fun c => [c]).map (·.length)).sum = L.length := fun L => by
    induction L with
    | nil => rfl
    | cons x r ih =>
      rw [List.map_cons, List.map_cons, List.sum_cons, ih]
      simp only [List.length_cons, List.length_nil]
      omega
  show rOpt ((strsOf (L.map fun c => W.str [c])).bind (fun zs => if (zs.map (·.length)).sum + zs.length * ([] : List Nat).length ≤ bigLine then some (W.str (joinW [] zs)) else none)) S' = _
  rw [e1, strsOf_map]
  show rOpt (if ((L.map fun c => [c]).map (·.length)).sum + (L.map fun c => [c]).length * 0 ≤ bigLine then some (W.str (joinW [] (L.map fun c => [c]))) else none) S' = _
  rw [e3, e2, if_pos (by unfold bigLine; omega)] <;> rfl
section
variable {d : Nat}
theorem take20 {S : Store} {i : Nat} {n : Int} (hw : Well S i) (h0 : 0 < n) (h1 : n < 1073741824) : ∃ v : Int, 0 ≤ v ∧ v < n ∧ ∃ S', fns T (d + 1) 15 [.ref i, .int n] S = .ok (.int v) S' ∧ Kp i S S' := by
  obtain ⟨v, v0, v1, S', e, w, l, o⟩ := take_call (T := T) (d := d) (k := 15) rfl hw h0 h1
  exact ⟨v, v0, v1, S', e, w, l, o⟩
theorem pick20 {S : Store} {i : Nat} {ws : List W} (hw : Well S i) (hn : ∀ w ∈ ws, Nice w) (h0 : 0 < ws.length) (h1 : ws.length ≤ 1000) : ∃ w S', fns T (d + 2) 16 [.ref i, .lst ws] S = .ok w S' ∧ Nice w ∧ Kp i S S' := by
  obtain ⟨v, v0, v1, S', e, kp⟩ := take20 (d := d) (n := (ws.length : Int)) hw (by omega) (by omega)
  have lv : v.toNat < ws.length := by omega
  have hnw : Nice ws[v.toNat] := hn _ (List.getElem_mem lv)
  obtain ⟨S'', e2, k2⟩ := nf_ret (k := 16) (ws := [.ref i, .lst ws]) (η := [some (.ref i), some (.lst ws)]) (S := S) (S' := S') (w := ws[v.toNat]) (d := d + 1) (i := i) (b := b_law_pick) (np := 2) (nv := 2) rfl rfl rfl (well_lt hw) (by
    refine sRet_ok (mBin_ok (S1 := S) (mVar_ok rfl) (mCall_ok (S1 := S) (maCons_ok (S1 := S) (mVar_ok rfl) (maCons_ok (S1 := S) (x := .int ws.length) (mBi1_ok (S1 := S) (mVar_ok rfl) rfl) rfl)) e) ?_)
    show atW ws v = _
    have q := atW_get (xs := ws) (a := v.toNat) lv
    rw [show ((v.toNat : Nat) : Int) = v from by omega] at q
    exact q) hnw.pure kp.w
  exact ⟨_, S'', e2, hnw, k2⟩
theorem dg_at {v : Int} (h0 : 0 ≤ v) (h3 : v < 3) {S : Store} : ∃ c, isDg c = true ∧ opIx (.str [48, 49, 50]) (.int v) S = some (.str [c]) := by
  have : v = 0 ∨ v = 1 ∨ v = 2 := by omega
  rcases this with z | z | z <;> rw [z]
  · exact ⟨48, rfl, rfl⟩
  · exact ⟨49, rfl, rfl⟩
  · exact ⟨50, rfl, rfl⟩
theorem chars_of : ∀ {ys : List W}, (∀ y ∈ ys, ∃ c, isDg c = true ∧ y = .str [c]) → ∃ L : List Nat, ys = L.map (fun c => .str [c]) ∧ L.all isDg = true
  | [], _ => ⟨[], rfl, rfl⟩
  | y :: r, h => by
    obtain ⟨c, hc, rfl⟩ := h y (List.mem_cons_self ..)
    obtain ⟨L, e, ha⟩ := chars_of fun z hz => h z (List.mem_cons_of_mem _ hz)
    exact ⟨c :: L, by rw [e] <;> rfl, by rw [List.all_cons, hc, ha] <;> rfl⟩
theorem card20 {S : Store} {i n : Nat} (hw : Well S i) (h4 : n ≤ 4) : ∃ c S', fns T (d + 2) 19 [.ref i, .int n] S = .ok (.str c) S' ∧ c.length = n ∧ c.all isDg = true ∧ Kp i S S' := by
  obtain ⟨ys, S', e, l, p, k⟩ := comp_eff (it := miRng rng1 (maCons (mVar 1) (maNil))) (own := [2]) (g := gVar 2) (e := mBin opIx (mC (.str [48, 49, 50])) (mCall (fns T (d + 1)) 15 (maCons (mVar 0) (maCons (mC (.int 3)) (maNil))))) (η := [some (.ref i), some (.int n), none]) (S := S) (S0 := S) (xs := (List.range n).map nW) (fun S1 => Kp i S S1) (fun y => ∃ c, isDg c = true ∧ y = .str [c]) (rng_nat rfl (by omega)) (Kp.refl hw) (fun x hx S1 k1 => by
    obtain ⟨v, v0, v1, S2, e2, k2⟩ := take20 (d := d) (n := 3) k1.1 (by decide) (by decide)
    obtain ⟨c, hc, ec⟩ := dg_at (S := S2) v0 v1
    exact ⟨[some (.ref i), some (.int n), some x], .str [c], S2, rfl, mBin_ok (S1 := S1) rfl (mCall_ok (S1 := S1) (maCons_ok (S1 := S1) (mVar_ok rfl) rfl) e2) ec, ⟨c, hc, rfl⟩, k1.trans k2⟩) (by unfold bigLine; rw [List.length_map, List.length_range]; omega)
  obtain ⟨L, eL, ha⟩ := chars_of p
  rw [List.length_map, List.length_range] at l
  have lL : L.length = n := by rw [← l, eL, List.length_map]
  obtain ⟨S'', e2, k2⟩ := nf_ret (k := 19) (ws := [.ref i, .int n]) (η := [some (.ref i), some (.int n), none]) (S := S) (S' := S') (w := .str L) (d := d + 1) (i := i) (b := b_law_card) (np := 2) (nv := 3) rfl rfl rfl (well_lt hw) (by
    rw [eL] at e
    exact sRet_ok (join_ok e (by omega))) rfl k.w
  exact ⟨L, S'', e2, lL, ha, k2⟩
end
end Lw


namespace Lw
open Mp C63
def GoodT (n : Nat) (M : Tab) : Prop := sizeI n n M ∧ SmT M
theorem rows_good {n : Nat} {M : Tab} (h : M.length = n) (hr : ∀ r ∈ M, r.length = n ∧ Sm r) : GoodT n M :=
  ⟨⟨h, fun i hi => (hr _ (mem_row h hi)).1⟩, fun r hr' => (hr r hr').2⟩
theorem good_rows {n : Nat} {M : Tab} (h : GoodT n M) : ∀ r ∈ M, r.length = n ∧ Sm r := fun r hr => by
  obtain ⟨i, hi, e⟩ := row_of hr
  rw [h.1.1] at hi
  exact ⟨by rw [← e]; exact h.1.2 i hi, h.2 r hr⟩
theorem good_set {n a : Nat} {M : Tab} {r : List Int} (h : GoodT n M) (hr : r.length = n) (sm : Sm r) : GoodT n (M.set a r) := rows_good (by rw [List.length_set]; exact h.1.1) fun x hx => by
  rcases List.mem_or_eq_of_mem_set hx with z | z
  · exact good_rows h x z
  · rw [z]; exact ⟨hr, sm⟩
section
variable {d : Nat}
theorem ixLr {M : Tab} {i r : Nat} {S : Store} (h : i < M.length) (hS : S[r]? = some (.lst (M.map lI))) : opIx (.ref r) (.int i) S = some (lI (rowI M i)) := opIx_ref hS (atW_f lI [] h)
/-- the rows' cell behind the well's store -/
def Ro (i L n : Nat) (S0 S : Store) : Prop := Well S i ∧ S.length = L + 1 ∧ (∀ j, j < L → j ≠ i → S[j]? = S0[j]?) ∧ ∃ M, S[L]? = some (.lst (M.map lI)) ∧ GoodT n M
theorem Ro.kp {i L n : Nat} {S0 S S' : Store} (h : Ro i L n S0 S) (hi : i < L) (k : Kp i S S') : Ro i L n S0 S' := by
  obtain ⟨w, l, o, M, e, g⟩ := h
  exact ⟨k.1, k.2.1.trans l, fun j hj ne => (k.2.2 j ne).trans (o j hj ne), M, (k.2.2 L (by omega)).trans e, g⟩
def moE (i n L : Nat) (w3 w4 w5 : Option W) : Env := [some (.ref i), some (.int n), some (.ref L), w3, w4, w5, none, none, none, none, none, none]
theorem take_at {i L n : Nat} {S0 S : Store} {m : Int} {η : Env} {f : ME} (h : Ro i L n S0 S) (hi : i < L) (h0 : 0 < m) (h1 : m < 1073741824) (e0 : η[0]? = some (some (.ref i))) (hf : f η S = .ok (.int m) S) : ∃ v : Int, 0 ≤ v ∧ v < m ∧ ∃ S', (mCall (fns T (d + 1)) 15 (maCons (mVar 0) (maCons f (maNil)))) η S = .ok (.int v) S' ∧ Ro i L n S0 S' := by
  obtain ⟨v, v0, v1, S', e, k⟩ := take20 (d := d) h.1 h0 h1
  exact ⟨v, v0, v1, S', mCall_ok (S1 := S) (maCons_ok (S1 := S) (mVar_ok e0) (maCons_ok (S1 := S) hf rfl)) e, h.kp hi k⟩
theorem mo_body {i L n : Nat} {S0 S : Store} {w3 w4 w5 : Option W} (h1 : 1 ≤ n) (h4 : n ≤ 4) (hi : i < L) (h : Ro i L n S0 S) : ∃ w4' w5' S', p_law_motion_2b (fns T (d + 1)) (moE i n L w3 w4 w5) S = .nx (moE i n L w3 w4' w5') S' ∧ Ro i L n S0 S' := by
  obtain ⟨a, a0, a1, S1, ea, r1⟩ := take_at (d := d) (f := mVar 1) (η := moE i n L w3 w4 w5) h hi (m := n) (by omega) (by omega) rfl (mVar_ok rfl)
  obtain ⟨b, b0, b1, S2, eb, r2⟩ := take_at (d := d) (f := mVar 1) (η := moE i n L w3 w4 w5) r1 hi (m := n) (by omega) (by omega) rfl (mVar_ok rfl)
  obtain ⟨x, rfl⟩ : ∃ x : Nat, a = x := ⟨a.toNat, by omega⟩
  obtain ⟨y, rfl⟩ : ∃ y : Nat, b = y := ⟨b.toNat, by omega⟩
  obtain ⟨w, l, o, M, eM, g⟩ := r2
  have hx : x < M.length := by rw [g.1.1]; omega
  have hy : y < M.length := by rw [g.1.1]; omega
  have lL : L < S2.length := by omega
  have s1 : (sPar 4 5 (maCons (mCall (fns T (d + 1)) 15 (maCons (mVar 0) (maCons (mVar 1) (maNil)))) (maCons (mCall (fns T (d + 1)) 15 (maCons (mVar 0) (maCons (mVar 1) (maNil)))) (maNil)))) (moE i n L w3 w4 w5) S = .nx (moE i n L w3 (some (.int x)) (some (.int y))) S2 := by
    unfold sPar
    rw [maCons_ok ea (maCons_ok eb rfl)] <;> rfl
  have ct : (mTCmp opEq (mVar 4) (mVar 5)) (moE i n L w3 (some (.int x)) (some (.int y))) S2 = .ok (decide (x = y)) S2 := mTCmp_ok (S1 := S2) (mVar_ok rfl) (mVar_ok rfl) (nat_eq x y)
  have ix4 : (mBin opIx (mVar 2) (mVar 4)) (moE i n L w3 (some (.int x)) (some (.int y))) S2 = .ok (lI (rowI M x)) S2 := mBin_ok (S1 := S2) (mVar_ok rfl) (mVar_ok rfl) (ixLr hx eM)
  have ix5 : (mBin opIx (mVar 2) (mVar 5)) (moE i n L w3 (some (.int x)) (some (.int y))) S2 = .ok (lI (rowI M y)) S2 := mBin_ok (S1 := S2) (mVar_ok rfl) (mVar_ok rfl) (ixLr hy eM)
  have lx := g.1.2 x (by omega)
  have ly := g.1.2 y (by omega)
  have put : ∀ (r : List Int), r.length = n → Sm r → ∀ (f : ME), f (moE i n L w3 (some (.int x)) (some (.int y))) S2 = .ok (lI r) S2 → ∃ S', sAsg f (gIdx (mVar 2) (mVar 4)) (moE i n L w3 (some (.int x)) (some (.int y))) S2 = .nx (moE i n L w3 (some (.int x)) (some (.int y))) S' ∧ Ro i L n S0 S' := by
    intro r hr sm f hf
    refine ⟨S2.set L (.lst ((M.set x r).map lI)), sAsg_ok hf (gIdx_ok (mVar_ok rfl) (mVar_ok rfl) ((setAt_ref (i := L) eM ⟨by omega, by rw [List.length_map]; omega⟩ (pure_lI _)).trans ?_)), ?_, by rw [List.length_set]; exact l, fun j hj ne => ?_, M.set x r, List.getElem?_set_self lL, good_set g hr sm⟩
    · rw [Int.toNat_natCast, ← List.map_set]
    · obtain ⟨p, q, s, p0, q0, e⟩ := w
      exact ⟨p, q, s, p0, q0, by rw [List.getElem?_set_ne (by omega)]; exact e⟩
    · rw [List.getElem?_set_ne (by omega)]
      exact o j hj ne
  by_cases e : x = y
  · obtain ⟨S', e1, r'⟩ := put ((rowI M x).map fun z => (2 * z) % 3) (by rw [List.length_map]; exact lx) (fun z hz => by
      obtain ⟨q, _, rfl⟩ := List.mem_map.mp hz
      omega) (mComp (miSeq (mBin opIx (mVar 2) (mVar 4))) [9] (gVar 9) (mtYes) (mBin opMod (mBi baInt (maCons (mBin opMul (mC (.int 2)) (mVar 9)) (maNil))) (mC (.int 3)))) (by
      show _ = R.ok (W.lst (((rowI M x).map fun z => (2 * z) % 3).map W.int)) S2
      rw [List.map_map]
      exact comp_map (u := W.int) (l := rowI M x) (by unfold miSeq; rw [ix4] <;> rfl) (fun z hz => ⟨[some (.ref i), some (.int n), some (.ref L), w3, some (.int x), some (.int y), none, none, none, some (.int z), none, none], rfl, mBin_ok (S1 := S2) (mBi1_ok (S1 := S2) (mBin_ok (S1 := S2) rfl (mVar_ok rfl) (mulSm (by decide))) rfl) rfl (opMod_ok (by decide))⟩) (by unfold bigLine; omega))
    refine ⟨some (.int x), some (.int y), S', ?_, r'⟩
    unfold p_law_motion_2b
    exact (sSeq_nx s1).trans ((sIf_t (ct.trans (by rw [decide_eq_true e]))).trans e1)
  · obtain ⟨S', e1, r'⟩ := put (((rowI M x).zip (rowI M y)).map fun p => (p.1 + p.2) % 3) (by rw [List.length_map, List.length_zip, lx, ly, Nat.min_self]) (fun z hz => by
      obtain ⟨q, _, rfl⟩ := List.mem_map.mp hz
      omega) (mComp (miAll zipG2 (maCons (mBin opIx (mVar 2) (mVar 4)) (maCons (mBin opIx (mVar 2) (mVar 5)) (maNil)))) [10, 11] (gTupW (gsCons (gVar 10) (gsCons (gVar 11) (gsNil)))) (mtYes) (mBin opMod (mBi baInt (maCons (mBin opAdd (mVar 10) (mVar 11)) (maNil))) (mC (.int 3)))) (by
      show _ = R.ok (W.lst ((((rowI M x).zip (rowI M y)).map fun p => (p.1 + p.2) % 3).map W.int)) S2
      rw [List.map_map]
      refine comp_map (u := fun p : Int × Int => W.tup [.int p.1, .int p.2]) (l := (rowI M x).zip (rowI M y)) ?_ (fun p hp => ⟨[some (.ref i), some (.int n), some (.ref L), w3, some (.int x), some (.int y), none, none, none, none, some (.int p.1), some (.int p.2)], rfl, mBin_ok (S1 := S2) (mBi1_ok (S1 := S2) (mBin_ok (S1 := S2) (mVar_ok rfl) (mVar_ok rfl) rfl) rfl) rfl (opMod_ok (by decide))⟩) (by unfold bigLine; rw [List.length_zip]; omega)
      unfold miAll
      rw [maCons_ok ix4 (maCons_ok ix5 rfl)]
      show rOpt (some (tupsW2 ((rowI M x).map W.int) ((rowI M y).map W.int))) S2 = _
      rw [pairs_map] <;> rfl)
    refine ⟨some (.int x), some (.int y), S', ?_, r'⟩
    unfold p_law_motion_2b
    exact (sSeq_nx s1).trans ((sIf_f (ct.trans (by rw [decide_eq_false e]))).trans e1)
theorem okDs_of (k : Nat) : ∀ {xs : List W}, (∀ x ∈ xs, okD x k = true) → okDs xs k = true
  | [], _ => rfl
  | x :: r, h => by
    show (okD x k && okDs r k) = true
    rw [h x (List.mem_cons_self ..), okDs_of k fun y hy => h y (List.mem_cons_of_mem _ hy)] <;> rfl
theorem ne_nilL {M : Tab} {S : Store} {r : Nat} (hS : S[r]? = some (.lst (M.map lI))) : opNe (.ref r) (.lst []) S = some (.bl (!M.isEmpty)) := by
  have ok : okD (.lst (M.map lI)) 30 = true := by
    show (true && okDs (M.map lI) 29) = true
    rw [okDs_of 29 fun x hx => by
      obtain ⟨q, _, rfl⟩ := List.mem_map.mp hx
      show (true && okDs (q.map W.int) 28) = true
      rw [okDs_of 28 fun y hy => by
        obtain ⟨z, _, rfl⟩ := List.mem_map.mp hy
        rfl]
      rfl]
    rfl
  have pl : plainL S (.ref r) = .lst (M.map lI) := by
    unfold plainL
    rw [show lstOf S (.ref r) = some (M.map lI) from by show (match S[r]? with | some (.lst xs) => some xs | _ => none) = _; rw [hS]]
  show (if okD (plainL S (.ref r)) 30 = true ∧ okD (plainL S (.lst [])) 30 = true then some (W.bl (!eqW (plainL S (.ref r)) (plainL S (.lst [])))) else none) = _
  rw [pl, show plainL S (.lst []) = .lst [] from rfl, if_pos ⟨ok, rfl⟩]
  cases M <;> rfl
theorem rec5 {r : Nat} {S : Store} {xs : List W} (h : S[r]? = some (.lst xs)) : recOk 5 S (.ref r) = true := by
  show (match S[r]? with | some (.lst _) => true | _ => false) = true
  rw [h]
/-- two cells: what is left, what is made -/
def Mv (i L n : Nat) (S0 S : Store) (R Q : Tab) : Prop := Well S i ∧ S.length = L + 2 ∧ (∀ j, j < L → j ≠ i → S[j]? = S0[j]?) ∧ S[L]? = some (.lst (R.map lI)) ∧ S[L + 1]? = some (.lst (Q.map tI)) ∧ R.length + Q.length = n ∧ ∀ r, r ∈ R ∨ r ∈ Q → r.length = n ∧ Sm r
theorem mv_loop {i L n : Nat} {S0 : Store} {w3 w4 w5 : Option W} (h4 : n ≤ 4) (hi : i < L) : ∀ (k fuel : Nat) (R Q : Tab) (S : Store), R.length = k → k < fuel → Mv i L n S0 S R Q →
    ∃ Q' S', whileL (mTCmp opNe (mVar 2) (mLst (maNil))) (p_law_motion_4b (fns T (d + 1))) fuel [some (.ref i), some (.int n), some (.ref L), w3, w4, w5, some (.ref (L + 1)), none, none, none, none, none] S = .nx [some (.ref i), some (.int n), some (.ref L), w3, w4, w5, some (.ref (L + 1)), none, none, none, none, none] S' ∧ Mv i L n S0 S' [] Q'
  | 0, fuel, R, Q, S, hk, hf, h => by
    obtain ⟨f, rfl⟩ : ∃ f, fuel = f + 1 := ⟨fuel - 1, by omega⟩
    obtain rfl : R = [] := List.eq_nil_of_length_eq_zero hk
    refine ⟨Q, S, ?_, h⟩
    have ct : (mTCmp opNe (mVar 2) (mLst (maNil))) [some (.ref i), some (.int n), some (.ref L), w3, w4, w5, some (.ref (L + 1)), none, none, none, none, none] S = .ok false S := mTCmp_ok (S1 := S) (mVar_ok rfl) rfl (ne_nilL h.2.2.2.1)
    unfold whileL
    rw [ct] <;> rfl
  | k + 1, fuel, R, Q, S, hk, hf, h => by
    obtain ⟨f, rfl⟩ : ∃ f, fuel = f + 1 := ⟨fuel - 1, by omega⟩
    obtain ⟨w, l, o, eR, eQ, hs, g⟩ := h
    have ct : (mTCmp opNe (mVar 2) (mLst (maNil))) [some (.ref i), some (.int n), some (.ref L), w3, w4, w5, some (.ref (L + 1)), none, none, none, none, none] S = .ok true S := by
      refine mTCmp_ok (S1 := S) (mVar_ok rfl) rfl ((ne_nilL eR).trans ?_)
      cases R with
      | nil => cases hk
      | cons _ _ => rfl
    obtain ⟨v, v0, v1, S1, et, kp⟩ := take20 (d := d) (n := (R.length : Int)) w (by omega) (by omega)
    have lv : v.toNat < R.length := by omega
    have eR1 : S1[L]? = some (.lst (R.map lI)) := (kp.2.2 L (by omega)).trans eR
    have eQ1 : S1[L + 1]? = some (.lst (Q.map tI)) := (kp.2.2 (L + 1) (by omega)).trans eQ
    have ln : (mBi baLen (maCons (mVar 2) (maNil))) [some (.ref i), some (.int n), some (.ref L), w3, w4, w5, some (.ref (L + 1)), none, none, none, none, none] S = .ok (.int R.length) S := by
      refine mBi1_ok (S1 := S) (mVar_ok rfl) ?_
      show (lstOf S (.ref L)).map (fun xs => W.int xs.length) = _
      rw [show lstOf S (.ref L) = some (R.map lI) from by show (match S[L]? with | some (.lst xs) => some xs | _ => none) = _; rw [eR]]
      show some (W.int ((R.map lI).length : Int)) = _
      rw [List.length_map]
    obtain ⟨S2, eS2⟩ : ∃ S2, S2 = S1.set L (.lst ((R.eraseIdx v.toNat).map lI)) := ⟨_, rfl⟩
    have lS1 : S1.length = L + 2 := kp.2.1.trans l
    have eQ2 : S2[L + 1]? = some (.lst (Q.map tI)) := by rw [eS2, List.getElem?_set_ne (by omega)]; exact eQ1
    have pop : (mMeth 5 omPopAt (mVar 2) (maCons (mCall (fns T (d + 1)) 15 (maCons (mVar 0) (maCons (mBi baLen (maCons (mVar 2) (maNil))) (maNil)))) (maNil))) [some (.ref i), some (.int n), some (.ref L), w3, w4, w5, some (.ref (L + 1)), none, none, none, none, none] S = .ok (lI R[v.toNat]) S2 := by
      refine mMeth_ok (S1 := S) (mVar_ok rfl) (rec5 eR) (maCons_ok (S1 := S1) (x := .int v) (mCall_ok (S1 := S) (maCons_ok (S1 := S) (mVar_ok rfl) (maCons_ok ln rfl)) et) rfl) ?_
      show (match S1[L]? with
        | some (.lst xs) => if 0 ≤ v ∧ v < (xs.length : Int) ∧ v < 9223372036854775808 then (xs[v.toNat]?).map (fun w => (w, S1.set L (.lst (xs.eraseIdx v.toNat)))) else none
        | _ => none) = _
      rw [eR1]
      show (if 0 ≤ v ∧ v < (((R.map lI).length : Nat) : Int) ∧ v < 9223372036854775808 then ((R.map lI)[v.toNat]?).map (fun w => (w, S1.set L (.lst ((R.map lI).eraseIdx v.toNat)))) else none) = _
      rw [List.length_map, if_pos ⟨v0, v1, by omega⟩, List.getElem?_map, List.getElem?_eq_getElem lv, eraseIdx_map', eS2]
      rfl
    have gr : R[v.toNat].length = n ∧ Sm R[v.toNat] := g _ (.inl (List.getElem_mem lv))
    have app : p_law_motion_4b (fns T (d + 1)) [some (.ref i), some (.int n), some (.ref L), w3, w4, w5, some (.ref (L + 1)), none, none, none, none, none] S = .nx [some (.ref i), some (.int n), some (.ref L), w3, w4, w5, some (.ref (L + 1)), none, none, none, none, none] (S2.set (L + 1) (.lst ((Q ++ [R[v.toNat]]).map tI))) := by
      unfold p_law_motion_4b
      refine sDrop_ok (mMeth_ok (S1 := S) (S2 := S2) (ws := [tI R[v.toNat]]) (mVar_ok rfl) (rec5 eQ) (maCons_ok (S1 := S2) (mBi1_ok (S1 := S2) pop rfl) rfl) (w := .non) ?_)
      show (match S2[L + 1]? with
        | some (.lst xs) => if (tI R[v.toNat]).pure = true ∧ xs.length + 1 ≤ bigLine then some (W.non, S2.set (L + 1) (.lst (xs ++ [tI R[v.toNat]]))) else none
        | _ => none) = _
      rw [eQ2]
      show (if (tI R[v.toNat]).pure = true ∧ (Q.map tI).length + 1 ≤ bigLine then some (W.non, S2.set (L + 1) (.lst (Q.map tI ++ [tI R[v.toNat]]))) else none) = _
      rw [if_pos ⟨pure_tI _, by rw [List.length_map]; unfold bigLine; omega⟩, List.map_append]
      rfl
    have h' : Mv i L n S0 (S2.set (L + 1) (.lst ((Q ++ [R[v.toNat]]).map tI))) (R.eraseIdx v.toNat) (Q ++ [R[v.toNat]]) := by
      have lS2 : S2.length = L + 2 := by rw [eS2, List.length_set]; exact lS1
      refine ⟨?_, by rw [List.length_set]; exact lS2, fun j hj ne => ?_, ?_, List.getElem?_set_self (by omega), ?_, fun r hr => ?_⟩
      · obtain ⟨p, q, s, p0, q0, e⟩ := kp.1
        exact ⟨p, q, s, p0, q0, by rw [List.getElem?_set_ne (by omega), eS2, List.getElem?_set_ne (by omega)]; exact e⟩
      · rw [List.getElem?_set_ne (by omega), eS2, List.getElem?_set_ne (by omega), kp.2.2 j ne]
        exact o j hj ne
      · rw [List.getElem?_set_ne (by omega), eS2, List.getElem?_set_self (by omega)]
      · rw [List.length_eraseIdx_of_lt lv, List.length_append, List.length_singleton]
        omega
      · rcases hr with z | z
        · exact g r (.inl (List.mem_of_mem_eraseIdx z))
        · rcases List.mem_append.mp z with z | z
          · exact g r (.inr z)
          · rw [List.mem_singleton.mp z]; exact gr
    obtain ⟨Q', S', e, hm⟩ := mv_loop h4 hi k f (R.eraseIdx v.toNat) (Q ++ [R[v.toNat]]) _ (by rw [List.length_eraseIdx_of_lt lv]; omega) (by omega) h'
    refine ⟨Q', S', ?_, hm⟩
    unfold whileL
    rw [ct]
    show (match p_law_motion_4b (fns T (d + 1)) _ S with
      | .nx η2 S2 => whileL (mTCmp opNe (mVar 2) (mLst (maNil))) (p_law_motion_4b (fns T (d + 1))) f η2 S2
      | .ct η2 S2 => whileL (mTCmp opNe (mVar 2) (mLst (maNil))) (p_law_motion_4b (fns T (d + 1))) f η2 S2
      | .bk η2 S2 => .nx η2 S2
      | r => r) = _
    rw [app]
    exact e
end
end Lw


namespace Lw
open Mp C63
section
variable {d : Nat}
theorem compS_of {it : MI} {own : List Nat} {g : MG} {t : MT} {e : ME} {η : Env} {S S' : Store} {ws : List W} (h : mComp it own g t e η S = .ok (.lst ws) S') (hp : pures ws = true) : mCompS it own g t e η S = .ok (.ref S'.length) (S' ++ [.lst ws]) := by
  unfold mComp at h
  unfold mCompS
  cases ei : it η S with
  | stuck => rw [ei] at h; cases h
  | exc c x S1 => rw [ei] at h; cases h
  | ok xs S1 =>
    rw [ei] at h
    replace h : (noexc (compL g t e (wipeE η own) xs S1 [])).bind (fun ws S2 => R.ok (W.lst ws) S2) = .ok (.lst ws) S' := h
    show (noexc (compL g t e (wipeE η own) xs S1 [])).bind (fun (ws : List W) (S2 : Store) => if pures ws = true then R.ok (W.ref S2.length) (S2 ++ [.lst ws]) else R.stuck) = _
    cases ec : noexc (compL g t e (wipeE η own) xs S1 []) with
    | stuck => rw [ec] at h; cases h
    | exc c x S2 => rw [ec] at h; cases h
    | ok ws' S2 =>
      rw [ec] at h
      replace h : R.ok (W.lst ws') S2 = .ok (.lst ws) S' := h
      injection h with h1 h2
      injection h1 with h1
      subst h1 h2
      exact if_pos hp
def rows0 (n : Nat) : Tab := (List.range n).map fun p => (List.range n).map fun a => if p = a then 1 else 0
theorem rows0_good (n : Nat) : GoodT n (rows0 n) := rows_good (by simp [rows0]) fun r hr => by
  obtain ⟨p, _, rfl⟩ := List.mem_map.mp hr
  refine ⟨by simp, fun x hx => ?_⟩
  obtain ⟨a, _, rfl⟩ := List.mem_map.mp hx
  split <;> decide
theorem motion20 {S : Store} {i n : Nat} (hw : Well S i) (h1 : 1 ≤ n) (h4 : n ≤ 4) : ∃ M c S', fns T (d + 3) 21 [.ref i, .int n] S = .ok (encV M c) S' ∧ Well20 n M c ∧ Kp i S S' := by
  have hi := well_lt hw
  obtain ⟨S1, e1⟩ : ∃ S1, S1 = S ++ [Cell.lst ((rows0 n).map lI)] := ⟨_, rfl⟩
  have s2 : (sSet 2 (mCompS (miRng rng1 (maCons (mVar 1) (maNil))) [7] (gVar 7) (mtYes) (mComp (miRng rng1 (maCons (mVar 1) (maNil))) [8] (gVar 8) (mtYes) (mBi baInt (maCons (mBin opEq (mVar 7) (mVar 8)) (maNil)))))) [some (.ref i), some (.int n), none, none, none, none, none, none, none, none, none, none] S = .nx (moE i n S.length none none none) S1 := by
    rw [e1]
    refine sSet_ok (compS_of (ws := (rows0 n).map lI) ?_ (pures_map _ pure_lI _))
    unfold rows0
    rw [List.map_map]
    refine comp_map (u := nW) (l := List.range n) (rng_nat rfl (by omega)) (fun p hp => ⟨[some (.ref i), some (.int n), none, none, none, none, none, some (nW p), none, none, none, none], rfl, ?_⟩) (by unfold bigLine; rw [List.length_range]; omega)
    show _ = R.ok (W.lst (((List.range n).map fun a => if p = a then (1 : Int) else 0).map W.int)) S
    rw [List.map_map]
    refine comp_map (u := nW) (l := List.range n) (rng_nat rfl (by omega)) (fun a ha => ⟨[some (.ref i), some (.int n), none, none, none, none, none, some (nW p), some (nW a), none, none, none], rfl, ?_⟩) (by unfold bigLine; rw [List.length_range]; omega)
    refine mBi1_ok (S1 := S) (mBin_ok (S1 := S) (mVar_ok rfl) (mVar_ok rfl) (nat_eq p a)) ?_
    show some (W.int (if decide (p = a) = true then 1 else 0)) = some (W.int (if p = a then 1 else 0))
    by_cases e : p = a
    · rw [if_pos e, decide_eq_true e] <;> rfl
    · rw [if_neg e, decide_eq_false e] <;> rfl
  have r0 : Ro i S.length n S S1 := by
    obtain ⟨a, b, c, a0, b0, e⟩ := hw
    exact ⟨⟨a, b, c, a0, b0, by rw [e1]; exact get_app e⟩, by rw [e1, List.length_append] <;> rfl, fun j hj _ => by rw [e1, List.getElem?_append_left hj], rows0 n, by rw [e1]; exact get_new, rows0_good n⟩
  obtain ⟨v, v0, v9, S2, et, r2⟩ := take_at (d := d + 1) (f := mC (.int 9)) (η := moE i n S.length none none none) r0 hi (m := 9) (by decide) (by decide) rfl rfl
  obtain ⟨q, rfl⟩ : ∃ q : Nat, v = q := ⟨v.toNat, by omega⟩
  have lp : Nx (p_law_motion_2 (fns T (d + 2)) (moE i n S.length none none none) S1) fun η S' => (∃ w3 w4 w5, η = moE i n S.length w3 w4 w5) ∧ Ro i S.length n S S' := by
    unfold p_law_motion_2
    refine Nx.sfor (S1 := S2) (xs := (List.range q).map nW) (fun η S' => (∃ w3 w4 w5, η = moE i n S.length w3 w4 w5) ∧ Ro i S.length n S S') ?_ (fun x hx η S' hI => ?_) ⟨⟨none, none, none, rfl⟩, r2⟩
    · rw [← rangeW_nat]
      exact miRng_ok (maCons_ok et rfl) (rng1_nat (by omega))
    · obtain ⟨⟨w3, w4, w5, rfl⟩, r⟩ := hI
      refine ⟨moE i n S.length (some x) w4 w5, S', rfl, ?_⟩
      obtain ⟨w4', w5', S'', e, r'⟩ := mo_body (d := d + 1) (w3 := some x) (w4 := w4) (w5 := w5) h1 h4 hi r
      exact ⟨_, _, e, ⟨_, _, _, rfl⟩, r'⟩
  obtain ⟨η3, S3, e3, ⟨w3, w4, w5, rfl⟩, w, l3, o3, M, eM, gM⟩ := lp
  have s6 : (sSet 6 (mLstS (maNil))) (moE i n S.length w3 w4 w5) S3 = .nx [some (.ref i), some (.int n), some (.ref S.length), w3, w4, w5, some (.ref (S.length + 1)), none, none, none, none, none] (S3 ++ [.lst []]) := by
    refine sSet_ok (w := .ref (S.length + 1)) ?_
    have := mLstS_ok (g := maNil) (η := moE i n S.length w3 w4 w5) (S := S3) (S1 := S3) (xs := []) rfl rfl (by unfold bigLine; simp)
    rw [l3] at this
    exact this
  have m0 : Mv i S.length n S (S3 ++ [.lst []]) M [] := by
    obtain ⟨a, b, c, a0, b0, e⟩ := w
    refine ⟨⟨a, b, c, a0, b0, get_app e⟩, by rw [List.length_append, l3] <;> rfl, fun j hj ne => by rw [List.getElem?_append_left (by omega)]; exact o3 j hj ne, get_app eM, ?_, by rw [gM.1.1] <;> rfl, fun r hr => ?_⟩
    · rw [← l3]
      exact get_new
    · rcases hr with z | z
      · exact good_rows gM r z
      · cases z
  obtain ⟨Q, S4, e4, w', l4, o4, eR, eQ, hs, gQ⟩ := mv_loop (d := d + 1) (w3 := w3) (w4 := w4) (w5 := w5) h4 hi n 100000 M [] _ gM.1.1 (by omega) m0
  have e4' : p_law_motion_4 (fns T (d + 2)) [some (.ref i), some (.int n), some (.ref S.length), w3, w4, w5, some (.ref (S.length + 1)), none, none, none, none, none] (S3 ++ [.lst []]) = .nx [some (.ref i), some (.int n), some (.ref S.length), w3, w4, w5, some (.ref (S.length + 1)), none, none, none, none, none] S4 := by
    unfold p_law_motion_4 sWhile
    exact e4
  have hQ : Q.length = n := by simpa using hs
  obtain ⟨c, S5, e5, lc, ac, k5⟩ := card20 (d := d) (n := n) w' h4
  have gq : GoodT n Q := rows_good hQ fun r hr => gQ r (.inr hr)
  obtain ⟨S'', e6, k6⟩ := nf_ret (k := 21) (ws := [.ref i, .int n]) (η := [some (.ref i), some (.int n), none, none, none, none, none, none, none, none, none, none]) (S := S) (S' := S5) (w := encV Q c) (d := d + 2) (i := i) (b := b_law_motion) (np := 2) (nv := 12) rfl rfl rfl hi (by
    refine (sSeq_nx s2).trans ((sSeq_nx e3).trans ((sSeq_nx s6).trans ((sSeq_nx e4').trans (sRet_ok (mTup_ok (S1 := S5) (maCons_ok (S1 := S4) (x := .tup (Q.map tI)) (mBi1_ok (S1 := S4) (mVar_ok rfl) ?_) (maCons_ok (S1 := S5) (x := .str c) (mCall_ok (S1 := S4) (maCons_ok (S1 := S4) (mVar_ok rfl) (maCons_ok (S1 := S4) (mVar_ok rfl) rfl)) e5) rfl)) (by show 2 ≤ bigLine; decide))))))
    show (lstOf S4 (.ref (S.length + 1))).map W.tup = _
    rw [show lstOf S4 (.ref (S.length + 1)) = some (Q.map tI) from by show (match S4[S.length + 1]? with | some (.lst xs) => some xs | _ => none) = _; rw [eQ]]
    rfl) (pure_encV Q c) ⟨k5.1, by rw [k5.2.1, l4]; omega, fun j hj ne => (k5.2.2 j ne).trans (o4 j hj ne)⟩
  exact ⟨Q, c, S'', e6, ⟨gq.1, gq.2, lc, ac⟩, k6⟩
theorem nice_ints (r : List Int) : ∀ x ∈ r.map W.int, Nice x := fun x hx => by
  obtain ⟨z, _, rfl⟩ := List.mem_map.mp hx
  exact .int z
theorem nice_tI {r : List Int} (h : r.length ≤ 100) : Nice (tI r) := .tup _ (nice_ints r) (by rw [List.length_map]; exact h)
theorem nice_enc {n : Nat} {M : Tab} {c : List Nat} (h4 : n ≤ 4) (w : Well20 n M c) : Nice (encV M c) := by
  have hr : ∀ x ∈ M.map tI, Nice x := fun x hx => by
    obtain ⟨r, hr, rfl⟩ := List.mem_map.mp hx
    have := (good_rows ⟨w.1, w.2.1⟩ r hr).1
    exact nice_tI (by omega)
  refine .tup _ (fun x hx => ?_) (by show 2 ≤ 100; decide)
  rcases List.mem_cons.mp hx with z | z
  · rw [z]
    exact .tup _ hr (by rw [List.length_map, w.1.1]; omega)
  · rw [List.mem_singleton.mp z]
    exact .str _ (by rw [w.2.2.1]; omega)
end
end Lw


namespace Lw
open Mp C63
/-! ### the bent ones -/
def TE (k : Nat) (f : ME) (η : Env) (S : Store) : Prop := ∃ xs, f η S = .ok (.tup xs) S ∧ (∀ x ∈ xs, Nice x) ∧ xs.length ≤ k
def NE (f : ME) (η : Env) (S : Store) : Prop := ∃ w, f η S = .ok w S ∧ Nice w
def AE (k : Nat) (g : MA) (η : Env) (S : Store) : Prop := ∃ ws, g η S = .ok ws S ∧ (∀ w ∈ ws, Nice w) ∧ ws.length = k
section
variable {η : Env} {S : Store} {f g : ME} {k l : Nat}
theorem TE.nice (h : TE k f η S) (hk : k ≤ 100) : NE f η S := by
  obtain ⟨xs, e, n, ln⟩ := h
  exact ⟨_, e, .tup _ n (by omega)⟩
theorem TE.add (h : TE k f η S) (h' : TE l g η S) (hk : k + l ≤ 1000) : TE (k + l) (mBin opAdd f g) η S := by
  obtain ⟨xs, e, n, ln⟩ := h
  obtain ⟨ys, e', n', ln'⟩ := h'
  refine ⟨xs ++ ys, mBin_ok e e' ?_, fun x hx => (List.mem_append.mp hx).elim (n x) (n' x), by rw [List.length_append]; omega⟩
  show (if xs.length + ys.length ≤ bigLine then some (W.tup (xs ++ ys)) else none) = _
  rw [if_pos (by unfold bigLine; omega)]
theorem cut_mem {α : Type} {xs : List α} {lo hi : Option Int} {x : α} (h : x ∈ cutW xs lo hi) : x ∈ xs := by
  unfold cutW at h
  exact List.mem_of_mem_drop (List.mem_of_mem_take h)
theorem TE.sl {lo hi : MO} {a b : Option Int} (h : TE k f η S) (hl : lo η S = .ok a S) (hh : hi η S = .ok b S) : TE k (mSl f lo hi) η S := by
  obtain ⟨xs, e, n, ln⟩ := h
  refine ⟨cutW xs a b, ?_, fun x hx => n x (cut_mem hx), Nat.le_trans (cutW_le xs a b) ln⟩
  unfold mSl
  simp only [e, hl, hh, R.bind]
  rfl
theorem TE.one (h : NE f η S) : TE 1 (mTup (maCons f maNil)) η S := by
  obtain ⟨w, e, n⟩ := h
  exact ⟨[w], mTup_ok (maCons_ok e rfl) (by show 1 ≤ bigLine; decide), fun x hx => by rw [List.mem_singleton.mp hx]; exact n, Nat.le_refl _⟩
theorem TE.two (h : NE f η S) (h' : NE g η S) : TE 2 (mTup (maCons f (maCons g maNil))) η S := by
  obtain ⟨w, e, n⟩ := h
  obtain ⟨u, e', n'⟩ := h'
  refine ⟨[w, u], mTup_ok (maCons_ok e (maCons_ok e' rfl)) (by show 2 ≤ bigLine; decide), fun x hx => ?_, Nat.le_refl _⟩
  rcases List.mem_cons.mp hx with z | z
  · rw [z]; exact n
  · rw [List.mem_singleton.mp z]; exact n'
theorem TE.lst (h : TE k f η S) (hk : k ≤ 100) : NE (mBi baListG (maCons f maNil)) η S := by
  obtain ⟨xs, e, n, ln⟩ := h
  exact ⟨.lst xs, mBi1_ok e rfl, .lst _ n (by omega)⟩
theorem AE.nil : AE 0 maNil η S := ⟨[], rfl, (fun x hx => by cases hx), rfl⟩
theorem AE.cons {g : MA} (h : NE f η S) (h' : AE k g η S) : AE (k + 1) (maCons f g) η S := by
  obtain ⟨w, e, n⟩ := h
  obtain ⟨ws, e', n', ln⟩ := h'
  refine ⟨w :: ws, maCons_ok e e', fun x hx => ?_, by rw [List.length_cons, ln]⟩
  rcases List.mem_cons.mp hx with z | z
  · rw [z]; exact n
  · exact n' x z
theorem NE.of {w : W} (e : f η S = .ok w S) (n : Nice w) : NE f η S := ⟨w, e, n⟩
theorem AE.lst {g : MA} (h : AE k g η S) (hk : k ≤ 100) : ∃ ws, mLst g η S = .ok (.lst ws) S ∧ (∀ w ∈ ws, Nice w) ∧ ws.length = k := by
  obtain ⟨ws, e, n, ln⟩ := h
  exact ⟨ws, mLst_ok e (by unfold bigLine; omega), n, ln⟩
theorem nice1 {w : W} (h : Nice w) : ∀ x ∈ [w], Nice x := fun x hx => by rw [List.mem_singleton.mp hx]; exact h
theorem pickE {d i : Nat} {f : ME} {ws : List W} (hw : Well S i) (e0 : η[0]? = some (some (.ref i))) (he : f η S = .ok (.lst ws) S) (hn : ∀ w ∈ ws, Nice w) (h0 : 0 < ws.length) (h1 : ws.length ≤ 1000) : ∃ w S', (mCall (fns T (d + 2)) 16 (maCons (mVar 0) (maCons f (maNil)))) η S = .ok w S' ∧ Nice w ∧ Kp i S S' := by
  obtain ⟨w, S', e, n, k⟩ := pick20 (d := d) hw hn h0 h1
  exact ⟨w, S', mCall_ok (S1 := S) (maCons_ok (S1 := S) (mVar_ok e0) (maCons_ok he rfl)) e, n, k⟩
end
def beE (i : Nat) (v : W) (w2 w3 w4 w5 w6 w7 w8 w9 : Option W) : Env := [some (.ref i), some v, w2, w3, w4, w5, w6, w7, w8, w9]
theorem bent20 {d i n : Nat} {S : Store} {M : Tab} {c : List Nat} (hw : Well S i) (h1 : 1 ≤ n) (h4 : n ≤ 4) (w : Well20 n M c) : ∃ v S', fns T (d + 3) 24 [.ref i, encV M c] S = .ok v S' ∧ Nice v ∧ Kp i S S' := by
  obtain ⟨R, eR⟩ : ∃ R, R = M.map tI := ⟨_, rfl⟩
  have hR : R.length = n := by rw [eR, List.length_map]; exact w.1.1
  have nR : ∀ x ∈ R, Nice x := fun x hx => by
    rw [eR] at hx
    obtain ⟨r, hr, rfl⟩ := List.mem_map.mp hx
    have := (good_rows ⟨w.1, w.2.1⟩ r hr).1
    exact nice_tI (by omega)
  have nT : Nice (.tup R) := .tup _ nR (by omega)
  have nC : Nice (.str c) := .str _ (by rw [w.2.2.1]; omega)
  have lc := w.2.2.1
  obtain ⟨v, ev⟩ : ∃ v, v = W.tup [.tup R, .str c] := ⟨_, rfl⟩
  have ev2 : encV M c = v := by rw [ev, eR] <;> rfl
  rw [ev2]
  have x0 : ∀ {η : Env} {S : Store}, η[1]? = some (some v) → (mBin opIx (mVar 1) (mC (.int 0))) η S = .ok (.tup R) S := fun e => by rw [ev] at e; exact ix0 e
  have x1 : ∀ {η : Env} {S : Store}, η[1]? = some (some v) → (mBin opIx (mVar 1) (mC (.int 1))) η S = .ok (.str c) S := fun e => by rw [ev] at e; exact ix1 e
  -- where
  obtain ⟨a, a0, a9, S1, ea, k1⟩ := take20 (d := d + 1) (n := (R.length : Int)) hw (by omega) (by omega)
  obtain ⟨a, rfl⟩ : ∃ x : Nat, a = x := ⟨a.toNat, by omega⟩
  have s1 : (sPar 2 3 (maCons (mBin opIx (mVar 1) (mC (.int 0))) (maCons (mCall (fns T (d + 2)) 15 (maCons (mVar 0) (maCons (mBi baLen (maCons (mBin opIx (mVar 1) (mC (.int 0))) (maNil))) (maNil)))) (maNil)))) (beE i v none none none none none none none none) S = .nx (beE i v (some (.tup R)) (some (.int a)) none none none none none none) S1 := by
    unfold sPar
    rw [maCons_ok (S1 := S) (x0 rfl) (maCons_ok (S1 := S1) (x := .int a) (mCall_ok (S1 := S) (maCons_ok (S1 := S) (mVar_ok rfl) (maCons_ok (S1 := S) (x := .int R.length) (mBi1_ok (S1 := S) (x0 rfl) rfl) rfl)) ea) rfl)] <;> rfl
  have ha : a < M.length := by rw [w.1.1]; omega
  obtain ⟨row, erow⟩ : ∃ row, row = tI (rowI M a) := ⟨_, rfl⟩
  have lrow : (rowI M a).length = n := w.1.2 a (by rw [← w.1.1]; exact ha)
  have xr : ∀ {η : Env} {S : Store}, η[2]? = some (some (.tup R)) → η[3]? = some (some (.int a)) → TE 4 (mBin opIx (mVar 2) (mVar 3)) η S := fun {η S} e2 e3 => ⟨(rowI M a).map .int, mBin_ok (S1 := S) (mVar_ok e2) (mVar_ok e3) (by
    show atW R (a : Int) = _
    rw [eR]
    exact atW_f tI [] ha), nice_ints _, by rw [List.length_map, lrow]; exact h4⟩
  obtain ⟨p, p0, p9, S2, ep, k2⟩ := take20 (d := d + 1) (n := (R.length : Int)) k1.1 (by omega) (by omega)
  obtain ⟨p, rfl⟩ : ∃ x : Nat, p = x := ⟨p.toNat, by omega⟩
  obtain ⟨η1, eη1⟩ : ∃ η1, η1 = beE i v (some (.tup R)) (some (.int a)) none none none none none none := ⟨_, rfl⟩
  obtain ⟨odd, S3, eo, no, k3⟩ := pickE (d := d) (i := i) (S := S2) (η := η1) (f := mLst (maCons (mC (.int 0)) (maCons (mC (.int 1)) (maCons (mC (.int 2)) (maCons (mC (.int 3)) (maCons (mUn opNeg (mC (.int 1))) (maCons (mC (.bl true)) (maCons (mC (.bl false)) (maCons (mC .non) (maCons (mC (.str [49])) (maCons (mTup (maCons (mC (.int 1)) (maNil))) (maNil)))))))))))) (ws := [.int 0, .int 1, .int 2, .int 3, .int (-1), .bl true, .bl false, .non, .str [49], .tup [.int 1]]) k2.1 (by rw [eη1] <;> rfl) rfl (fun x hx => by
    simp only [List.mem_cons, List.not_mem_nil, or_false] at hx
    rcases hx with z | z | z | z | z | z | z | z | z | z <;> rw [z]
    · exact .int _
    · exact .int _
    · exact .int _
    · exact .int _
    · exact .int _
    · exact .bl _
    · exact .bl _
    · exact .non
    · exact .str _ (by decide)
    · exact .tup _ (nice1 (.int _)) (by decide)) (by decide) (by decide)
  have s2 : ∀ {g : MS}, (sSeq (sPar 4 5 (maCons (mCall (fns T (d + 2)) 15 (maCons (mVar 0) (maCons (mBi baLen (maCons (mVar 2) (maNil))) (maNil)))) (maCons (mCall (fns T (d + 2)) 16 (maCons (mVar 0) (maCons (mLst (maCons (mC (.int 0)) (maCons (mC (.int 1)) (maCons (mC (.int 2)) (maCons (mC (.int 3)) (maCons (mUn opNeg (mC (.int 1))) (maCons (mC (.bl true)) (maCons (mC (.bl false)) (maCons (mC .non) (maCons (mC (.str [49])) (maCons (mTup (maCons (mC (.int 1)) (maNil))) (maNil)))))))))))) (maNil)))) (maNil)))) g) η1 S1 = g (beE i v (some (.tup R)) (some (.int a)) (some (.int p)) (some odd) none none none none) S3 := by
    intro g
    refine sSeq_nx ?_
    unfold sPar
    rw [maCons_ok (S1 := S2) (x := .int p) (mCall_ok (S1 := S1) (maCons_ok (S1 := S1) (mVar_ok (by rw [eη1] <;> rfl)) (maCons_ok (S1 := S1) (x := .int R.length) (mBi1_ok (S1 := S1) (x := .tup R) (mVar_ok (by rw [eη1] <;> rfl)) rfl) rfl)) ep) (maCons_ok eo rfl), eη1] <;> rfl
  obtain ⟨η2, eη2⟩ : ∃ η2, η2 = beE i v (some (.tup R)) (some (.int a)) (some (.int p)) (some odd) none none none none := ⟨_, rfl⟩
  have bend : ∀ {η : Env} {S : Store}, η[2]? = some (some (.tup R)) → η[3]? = some (some (.int a)) → η[4]? = some (some (.int p)) → η[5]? = some (some odd) → TE (4 + 1 + 4) (mBin opAdd (mBin opAdd (mSl (mBin opIx (mVar 2) (mVar 3)) (moNone) (moSome (mVar 4))) (mTup (maCons (mVar 5) (maNil)))) (mSl (mBin opIx (mVar 2) (mVar 3)) (moSome (mBin opAdd (mVar 4) (mC (.int 1)))) (moNone))) η S := fun {η S} e2 e3 e4 e5 =>
    TE.add (TE.add (TE.sl (xr e2 e3) rfl (by unfold moSome; rw [mVar_ok e4] <;> rfl)) (TE.one (NE.of (mVar_ok e5) no)) (by decide)) (TE.sl (xr e2 e3) (by unfold moSome; rw [mBin_ok (S1 := S) (mVar_ok e4) rfl rfl] <;> rfl) rfl) (by decide)
  obtain ⟨b6, e6, n6, l6⟩ := bend (η := η2) (S := S3) (by rw [eη2] <;> rfl) (by rw [eη2] <;> rfl) (by rw [eη2] <;> rfl) (by rw [eη2] <;> rfl)
  have nb6 : Nice (.tup b6) := .tup _ n6 (by omega)
  obtain ⟨η3, eη3⟩ : ∃ η3, η3 = beE i v (some (.tup R)) (some (.int a)) (some (.int p)) (some odd) (some (.tup b6)) none none none := ⟨_, rfl⟩
  have g0 : η3[0]? = some (some (.ref i)) := by rw [eη3] <;> rfl
  have g1 : η3[1]? = some (some v) := by rw [eη3] <;> rfl
  have g2 : η3[2]? = some (some (.tup R)) := by rw [eη3] <;> rfl
  have g3 : η3[3]? = some (some (.int a)) := by rw [eη3] <;> rfl
  have g6 : η3[6]? = some (some (.tup b6)) := by rw [eη3] <;> rfl
  have neg1 : ∀ {η : Env} {S : Store}, (moSome (mUn opNeg (mC (.int 1)))) η S = .ok (some (-1)) S := fun {η S} => rfl
  obtain ⟨ws7, e7, n7, l7⟩ := AE.lst (S := S3) (AE.cons (η := η3) (NE.of (mVar_ok g6) nb6) (AE.cons (NE.of (mVar_ok g6) nb6) (AE.cons (TE.lst (xr g2 g3) (by decide)) (AE.cons (TE.nice (TE.sl (lo := moNone) (hi := moSome (mUn opNeg (mC (.int 1)))) (xr g2 g3) rfl neg1) (by decide)) (AE.cons (TE.nice (TE.add (xr g2 g3) (TE.one (NE.of (w := .int 0) (f := mC (.int 0)) rfl (.int _))) (by decide)) (by decide)) (AE.cons (NE.of (w := .non) (f := mC .non) rfl .non) (AE.cons (NE.of (f := mBin opIx (mVar 2) (mC (.int 0))) (w := tI (rowI M 0)) (mBin_ok (S1 := S3) (mVar_ok g2) rfl (by
    show atW R ((0 : Nat) : Int) = _
    rw [eR]
    exact atW_f tI [] (by omega))) (nice_tI (by rw [w.1.2 0 (by omega)]; omega))) AE.nil))))))) (by decide)
  obtain ⟨b7, S4, e7', n7', k4⟩ := pickE (d := d) k3.1 g0 e7 n7 (by omega) (by omega)
  obtain ⟨η4, eη4⟩ : ∃ η4, η4 = beE i v (some (.tup R)) (some (.int a)) (some (.int p)) (some odd) (some (.tup b6)) (some b7) none none := ⟨_, rfl⟩
  have i0 : η4[0]? = some (some (.ref i)) := by rw [eη4] <;> rfl
  have i1 : η4[1]? = some (some v) := by rw [eη4] <;> rfl
  have str_add : ∀ {η : Env} {S : Store} {f : ME} {s : List Nat} {z : Nat}, f η S = .ok (.str s) S → s.length ≤ 50 → NE (mBin opAdd f (mC (.str [z]))) η S := fun {η S f s z} e hs => ⟨.str (s ++ [z]), mBin_ok e rfl (by
    show (if s.length + 1 ≤ bigLine then some (W.str (s ++ [z])) else none) = _
    rw [if_pos (by unfold bigLine; omega)]), .str _ (by rw [List.length_append, List.length_singleton]; omega)⟩
  have cutc : ∀ {η : Env} {S : Store}, η[1]? = some (some v) → (mSl (mBin opIx (mVar 1) (mC (.int 1))) (moNone) (moSome (mUn opNeg (mC (.int 1))))) η S = .ok (.str (cutW c none (some (-1)))) S := fun {η S} e => by
    unfold mSl
    simp only [x1 e, Mp.R.bind, moNone, neg1]
    rfl
  have lcut := cutW_le c none (some (-1))
  obtain ⟨ws8, e8, n8, l8⟩ := AE.lst (S := S4) (AE.cons (η := η4) (str_add (z := 48) (x1 i1) (by omega)) (AE.cons (NE.of (cutc i1) (.str _ (by omega))) (AE.cons (str_add (z := 51) (cutc i1) (by omega)) (AE.cons (NE.of (w := .non) (f := mC .non) rfl .non) (AE.cons (NE.of (f := mBi baListG (maCons (mBin opIx (mVar 1) (mC (.int 1))) (maNil))) (w := .lst (c.map fun x => .str [x])) (mBi1_ok (S1 := S4) (x1 i1) rfl) (.lst _ (fun x hx => by
    obtain ⟨z, _, rfl⟩ := List.mem_map.mp hx
    exact .str _ (by show 1 ≤ 100; decide)) (by rw [List.length_map]; omega))) (AE.cons (NE.of (w := .int 0) (f := mC (.int 0)) rfl (.int _)) (AE.cons (NE.of (w := .str []) (f := mC (.str [])) rfl (.str _ (by decide))) AE.nil))))))) (by decide)
  obtain ⟨b8, S5, e8', n8', k5⟩ := pickE (d := d) k4.1 i0 e8 n8 (by omega) (by omega)
  obtain ⟨η5, eη5⟩ : ∃ η5, η5 = beE i v (some (.tup R)) (some (.int a)) (some (.int p)) (some odd) (some (.tup b6)) (some b7) (some b8) none := ⟨_, rfl⟩
  have j1 : η5[1]? = some (some v) := by rw [eη5] <;> rfl
  have j2 : η5[2]? = some (some (.tup R)) := by rw [eη5] <;> rfl
  have j3 : η5[3]? = some (some (.int a)) := by rw [eη5] <;> rfl
  have j7 : η5[7]? = some (some b7) := by rw [eη5] <;> rfl
  have j8 : η5[8]? = some (some b8) := by rw [eη5] <;> rfl
  have tR : ∀ {η : Env} {S : Store}, η[2]? = some (some (.tup R)) → TE 4 (mVar 2) η S := fun e => ⟨R, mVar_ok e, nR, by omega⟩
  have nc1 : ∀ {η : Env} {S : Store}, η[1]? = some (some v) → NE (mBin opIx (mVar 1) (mC (.int 1))) η S := fun e => NE.of (x1 e) nC
  have mid : TE (4 + 1 + 4) (mBin opAdd (mBin opAdd (mSl (mVar 2) (moNone) (moSome (mVar 3))) (mTup (maCons (mVar 7) (maNil)))) (mSl (mVar 2) (moSome (mBin opAdd (mVar 3) (mC (.int 1)))) (moNone))) η5 S5 :=
    TE.add (TE.add (TE.sl (tR j2) rfl (by unfold moSome; rw [mVar_ok j3] <;> rfl)) (TE.one (NE.of (mVar_ok j7) n7')) (by decide)) (TE.sl (tR j2) (by unfold moSome; rw [mBin_ok (S1 := S5) (mVar_ok j3) rfl rfl] <;> rfl) rfl) (by decide)
  obtain ⟨ws9, e9, n9, l9⟩ := AE.lst (S := S5) (AE.cons (TE.nice (TE.two (TE.nice mid (by decide)) (nc1 j1)) (by decide)) (AE.cons (TE.nice (TE.two (TE.nice mid (by decide)) (nc1 j1)) (by decide)) (AE.cons (TE.nice (TE.two (TE.nice (tR j2) (by decide)) (NE.of (mVar_ok j8) n8')) (by decide)) (AE.cons (TE.nice (TE.two (f := mRev (mVar 2)) (NE.of (w := .tup R.reverse) (by unfold mRev; rw [mVar_ok j2] <;> rfl) (.tup _ (fun x hx => nR x (List.mem_reverse.mp hx)) (by rw [List.length_reverse]; omega))) (nc1 j1)) (by decide)) AE.nil)))) (by decide)
  obtain ⟨η6, eη6⟩ : ∃ η6, η6 = beE i v (some (.tup R)) (some (.int a)) (some (.int p)) (some odd) (some (.tup b6)) (some b7) (some b8) (some (.lst ws9)) := ⟨_, rfl⟩
  have q0 : η6[0]? = some (some (.ref i)) := by rw [eη6] <;> rfl
  have q1 : η6[1]? = some (some v) := by rw [eη6] <;> rfl
  have q2 : η6[2]? = some (some (.tup R)) := by rw [eη6] <;> rfl
  have q9 : η6[9]? = some (some (.lst ws9)) := by rw [eη6] <;> rfl
  have tv : ∀ {η : Env} {S : Store}, η[1]? = some (some v) → TE 2 (mVar 1) η S := fun e => by
    refine ⟨[.tup R, .str c], by rw [mVar_ok e, ev], fun x hx => ?_, Nat.le_refl _⟩
    rcases List.mem_cons.mp hx with z | z
    · rw [z]; exact nT
    · rw [List.mem_singleton.mp z]; exact nC
  obtain ⟨wsA, eA, nA, lA⟩ := AE.lst (S := S5) (AE.cons (η := η6) (TE.nice (TE.two (TE.lst (tR q2) (by decide)) (nc1 q1)) (by decide)) (AE.cons (f := mLst (maCons (mVar 2) (maCons (mBin opIx (mVar 1) (mC (.int 1))) (maNil)))) (NE.of (w := .lst [.tup R, .str c]) (mLst_ok (maCons_ok (S1 := S5) (mVar_ok q2) (maCons_ok (S1 := S5) (x1 q1) rfl)) (by show 2 ≤ bigLine; decide)) (.lst _ (fun x hx => by
    rcases List.mem_cons.mp hx with z | z
    · rw [z]; exact nT
    · rw [List.mem_singleton.mp z]; exact nC) (by show 2 ≤ 100; decide))) (AE.cons (TE.nice (TE.one (NE.of (mVar_ok q2) nT)) (by decide)) (AE.cons (TE.nice (TE.add (tv q1) (TE.one (NE.of (w := .str [48]) (f := mC (.str [48])) rfl (.str _ (by decide)))) (by decide)) (by decide)) (AE.cons (NE.of (mVar_ok q2) nT) (AE.cons (nc1 q1) (AE.cons (NE.of (w := .non) (f := mC .non) rfl .non) (AE.cons (f := mTup (maNil)) (NE.of (w := .tup []) rfl (.tup _ (fun x hx => by cases hx) (by decide))) (AE.cons (f := mDct0) (NE.of (w := .dct [.bl false] []) rfl .dct) (AE.cons (NE.of (w := .int 0) (f := mC (.int 0)) rfl (.int _)) (AE.cons (TE.nice (TE.two (TE.nice (TE.add (tR q2) (TE.sl (lo := moNone) (hi := moSome (mC (.int 1))) (tR q2) rfl rfl) (by decide)) (by decide)) (nc1 q1)) (by decide)) AE.nil))))))))))) (by decide)
  have eS : (mBin opAdd (mVar 9) (mLst (maCons (mTup (maCons (mBi baListG (maCons (mVar 2) (maNil))) (maCons (mBin opIx (mVar 1) (mC (.int 1))) (maNil)))) (maCons (mLst (maCons (mVar 2) (maCons (mBin opIx (mVar 1) (mC (.int 1))) (maNil)))) (maCons (mTup (maCons (mVar 2) (maNil))) (maCons (mBin opAdd (mVar 1) (mTup (maCons (mC (.str [48])) (maNil)))) (maCons (mVar 2) (maCons (mBin opIx (mVar 1) (mC (.int 1))) (maCons (mC .non) (maCons (mTup (maNil)) (maCons (mDct0) (maCons (mC (.int 0)) (maCons (mTup (maCons (mBin opAdd (mVar 2) (mSl (mVar 2) (moNone) (moSome (mC (.int 1))))) (maCons (mBin opIx (mVar 1) (mC (.int 1))) (maNil)))) (maNil)))))))))))))) η6 S5 = .ok (.lst (ws9 ++ wsA)) S5 := mBin_ok (S1 := S5) (mVar_ok q9) eA (by
    show (if ws9.length + wsA.length ≤ bigLine then some (W.lst (ws9 ++ wsA)) else none) = _
    rw [if_pos (by unfold bigLine; omega)])
  obtain ⟨vv, S6, eV, nV, k6⟩ := pickE (d := d) k5.1 q0 eS (fun x hx => (List.mem_append.mp hx).elim (n9 x) (nA x)) (by rw [List.length_append]; omega) (by rw [List.length_append]; omega)
  have kp : Kp i S S6 := ((((k1.trans k2).trans k3).trans k4).trans k5).trans k6
  obtain ⟨S'', e', k'⟩ := nf_ret (k := 24) (ws := [.ref i, v]) (η := beE i v none none none none none none none none) (S := S) (S' := S6) (w := vv) (d := d + 2) (i := i) (b := b_law_bent) (np := 2) (nv := 10) rfl rfl rfl (well_lt hw) (by
    refine (sSeq_nx s1).trans ?_
    rw [← eη1]
    refine s2.trans ?_
    rw [← eη2]
    refine (sSeq_nx (η1 := η3) (S1 := S3) ((sSet_ok e6).trans (by rw [eη2, eη3] <;> rfl))).trans ?_
    refine (sSeq_nx (η1 := η4) (S1 := S4) ((sSet_ok e7').trans (by rw [eη3, eη4] <;> rfl))).trans ?_
    refine (sSeq_nx (η1 := η5) (S1 := S5) ((sSet_ok e8').trans (by rw [eη4, eη5] <;> rfl))).trans ?_
    refine (sSeq_nx (η1 := η6) (S1 := S5) ((sSet_ok e9).trans (by rw [eη5, eη6] <;> rfl))).trans ?_
    exact sRet_ok eV) nV.pure kp.w
  exact ⟨vv, S'', e', nV, k'⟩
end Lw


namespace Lw
open Mp C63
/-! ### a round, the law -/
def roE (i : Nat) (w1 w2 w3 w4 w5 : Option W) : Env := [some (.ref i), w1, w2, w3, w4, w5, none, none, none]
theorem any20 {d i n : Nat} {S : Store} {w1 w3 w4 w5 : Option W} (hw : Well S i) (h1 : 1 ≤ n) (h4 : n ≤ 4) : ∃ M c S', (mTup (maCons (mBi baTuple (maCons (mComp (miRng rng1 (maCons (mVar 2) (maNil))) [6] (gVar 6) (mtYes) (mBi baTuple (maCons (mComp (miRng rng1 (maCons (mVar 2) (maNil))) [7] (gVar 7) (mtYes) (mCall (fns T (d + 2)) 15 (maCons (mVar 0) (maCons (mC (.int 3)) (maNil))))) (maNil)))) (maNil))) (maCons (mCall (fns T (d + 2)) 19 (maCons (mVar 0) (maCons (mVar 2) (maNil)))) (maNil)))) (roE i w1 (some (.int n)) w3 w4 w5) S = .ok (encV M c) S' ∧ Well20 n M c ∧ Kp i S S' := by
  obtain ⟨ys, S', e, l, p, k⟩ := comp_eff (it := miRng rng1 (maCons (mVar 2) (maNil))) (own := [6]) (g := gVar 6) (e := mBi baTuple (maCons (mComp (miRng rng1 (maCons (mVar 2) (maNil))) [7] (gVar 7) (mtYes) (mCall (fns T (d + 2)) 15 (maCons (mVar 0) (maCons (mC (.int 3)) (maNil))))) (maNil))) (η := roE i w1 (some (.int n)) w3 w4 w5) (S := S) (S0 := S) (xs := (List.range n).map nW) (fun S1 => Kp i S S1) (fun y => ∃ r : List Int, y = tI r ∧ r.length = n ∧ Sm r) (rng_nat rfl (by omega)) (Kp.refl hw) (fun x hx S1 k1 => by
    obtain ⟨zs, S2, e2, l2, p2, k2⟩ := comp_eff (it := miRng rng1 (maCons (mVar 2) (maNil))) (own := [7]) (g := gVar 7) (e := mCall (fns T (d + 2)) 15 (maCons (mVar 0) (maCons (mC (.int 3)) (maNil)))) (η := [some (.ref i), w1, some (.int n), w3, w4, w5, some x, none, none]) (S := S1) (S0 := S1) (xs := (List.range n).map nW) (fun S2 => Kp i S S2) (fun y => ∃ v : Int, y = .int v ∧ 0 ≤ v ∧ v ≤ 2) (rng_nat rfl (by omega)) k1 (fun y hy S2 k2 => by
      obtain ⟨v, v0, v1, S3, e3, k3⟩ := take20 (d := d + 1) (n := 3) k2.1 (by decide) (by decide)
      exact ⟨[some (.ref i), w1, some (.int n), w3, w4, w5, some x, some y, none], .int v, S3, rfl, mCall_ok (S1 := S2) (maCons_ok (S1 := S2) (mVar_ok rfl) rfl) e3, ⟨v, rfl, v0, by omega⟩, k2.trans k3⟩) (by unfold bigLine; rw [List.length_map, List.length_range]; omega)
    have hz : ∀ {zs : List W}, (∀ y ∈ zs, ∃ v : Int, y = .int v ∧ 0 ≤ v ∧ v ≤ 2) → ∃ r : List Int, zs = r.map .int ∧ Sm r := by
      intro zs
      induction zs with
      | nil => intro _; exact ⟨[], rfl, fun x hx => by cases hx⟩
      | cons z r ih =>
        intro h
        obtain ⟨v, rfl, hv⟩ := h z (List.mem_cons_self ..)
        obtain ⟨q, e, sm⟩ := ih fun y hy => h y (List.mem_cons_of_mem _ hy)
        refine ⟨v :: q, by rw [e] <;> rfl, fun x hx => ?_⟩
        rcases List.mem_cons.mp hx with z | z
        · rw [z]; exact hv
        · exact sm x z
    obtain ⟨r, er, sm⟩ := hz p2
    rw [List.length_map, List.length_range] at l2
    exact ⟨[some (.ref i), w1, some (.int n), w3, w4, w5, some x, none, none], tI r, S2, rfl, mBi1_ok e2 (by rw [er] <;> rfl), ⟨r, rfl, by rw [← l2, er, List.length_map], sm⟩, k2⟩) (by unfold bigLine; rw [List.length_map, List.length_range]; omega)
  have hm : ∀ {ys : List W}, (∀ y ∈ ys, ∃ r : List Int, y = tI r ∧ r.length = n ∧ Sm r) → ∃ M : Tab, ys = M.map tI ∧ ∀ r ∈ M, r.length = n ∧ Sm r := by
    intro ys
    induction ys with
    | nil => intro _; exact ⟨[], rfl, fun x hx => by cases hx⟩
    | cons z r ih =>
      intro h
      obtain ⟨v, rfl, hv⟩ := h z (List.mem_cons_self ..)
      obtain ⟨q, e, sm⟩ := ih fun y hy => h y (List.mem_cons_of_mem _ hy)
      refine ⟨v :: q, by rw [e] <;> rfl, fun x hx => ?_⟩
      rcases List.mem_cons.mp hx with z | z
      · rw [z]; exact hv
      · exact sm x z
  obtain ⟨M, eM, gM⟩ := hm p
  rw [List.length_map, List.length_range] at l
  have lM : M.length = n := by rw [← l, eM, List.length_map]
  obtain ⟨c, S5, e5, lc, ac, k5⟩ := card20 (d := d) (n := n) k.1 h4
  have g := rows_good lM gM
  exact ⟨M, c, S5, mTup_ok (S1 := S5) (maCons_ok (S1 := S') (x := .tup (M.map tI)) (mBi1_ok e (by rw [eM] <;> rfl)) (maCons_ok (S1 := S5) (x := .str c) (mCall_ok (S1 := S') (maCons_ok (S1 := S') (mVar_ok rfl) (maCons_ok (S1 := S') (mVar_ok rfl) rfl)) e5) rfl)) (by show 2 ≤ bigLine; decide), ⟨g.1, g.2, lc, ac⟩, k.trans k5⟩
theorem num20 {d i : Nat} {S : Store} {η : Env} (hw : Well S i) (e0 : η[0]? = some (some (.ref i))) : ∃ n : Nat, 1 ≤ n ∧ n ≤ 4 ∧ ∃ S', (mBin opAdd (mC (.int 1)) (mCall (fns T (d + 1)) 15 (maCons (mVar 0) (maCons (mC (.int 4)) (maNil))))) η S = .ok (.int n) S' ∧ Kp i S S' := by
  obtain ⟨v, v0, v1, S', e, k⟩ := take20 (d := d) (n := 4) hw (by decide) (by decide)
  refine ⟨(1 + v).toNat, by omega, by omega, S', ?_, k⟩
  refine mBin_ok (S1 := S) rfl (mCall_ok (S1 := S) (maCons_ok (S1 := S) (mVar_ok e0) rfl) e) ?_
  show some (W.int (1 + v)) = some (W.int (((1 + v).toNat : Nat) : Int))
  rw [Int.toNat_of_nonneg (by omega)]
theorem askE {d m : Nat} {v : W} {S S1 : Store} {η : Env} {f g : ME} (h1 : 1 ≤ m) (h4 : m ≤ 4) (h : Nice v) (hf : f η S = .ok (.int m) S) (hg : g η S = .ok v S1) : (mCall (fns T (d + 6)) 23 (maCons f (maCons g (maNil)))) η S = .ok (.bl true) S1 := mCall_ok (S1 := S1) (maCons_ok hf (maCons_ok hg rfl)) (asked_ok (d := d) h1 h4 h)
theorem notT {f : ME} {η : Env} {S S1 : Store} (h : f η S = .ok (.bl true) S1) : (mTNot (mTru f)) η S = .ok false S1 := mTNot_ok (mTru_ok h rfl)
theorem round_body {d i : Nat} {S : Store} {w1 w2 w3 w4 w5 : Option W} (hw : Well S i) : ∃ w2' w3' w4' w5' S', p_law_round_1b (fns T (d + 6)) (roE i w1 w2 w3 w4 w5) S = .nx (roE i w1 w2' w3' w4' w5') S' ∧ Kp i S S' := by
  obtain ⟨n, n1, n4, S1, e1, k1⟩ := num20 (d := d + 5) (η := roE i w1 w2 w3 w4 w5) hw rfl
  obtain ⟨M, c, S2, e2, m2, k2⟩ := motion20 (d := d + 3) k1.1 n1 n4
  have e2' : (mCall (fns T (d + 6)) 21 (maCons (mVar 0) (maCons (mVar 2) (maNil)))) (roE i w1 (some (.int n)) w3 w4 w5) S1 = .ok (encV M c) S2 := mCall_ok (S1 := S1) (maCons_ok (S1 := S1) (mVar_ok rfl) (maCons_ok (S1 := S1) (mVar_ok rfl) rfl)) e2
  obtain ⟨N, c', S3, e3, m3, k3⟩ := any20 (d := d + 4) (i := i) (n := n) (S := S2) (w1 := w1) (w3 := some (encV M c)) (w5 := w5) k2.1 n1 n4
  have v1 := nice_enc n4 m2
  have v2 := nice_enc n4 m3
  have kS : Kp i S S3 := (k1.trans k2).trans k3
  have t1 : (mTNot (mTru (mCall (fns T (d + 6)) 23 (maCons (mVar 2) (maCons (mVar 3) (maNil)))))) (roE i w1 (some (.int n)) (some (encV M c)) (some (encV N c')) w5) S3 = .ok false S3 := notT (askE n1 n4 v1 (mVar_ok rfl) (mVar_ok rfl))
  have t2 : (mTNot (mTru (mCall (fns T (d + 6)) 23 (maCons (mVar 2) (maCons (mVar 4) (maNil)))))) (roE i w1 (some (.int n)) (some (encV M c)) (some (encV N c')) w5) S3 = .ok false S3 := notT (askE n1 n4 v2 (mVar_ok rfl) (mVar_ok rfl))
  obtain ⟨ys, S4, e6, l6, p6, k6⟩ := comp_eff (it := miRng rng1 (maCons (mC (.int 3)) (maNil))) (own := [8]) (g := gVar 8) (e := mCall (fns T (d + 6)) 23 (maCons (mVar 2) (maCons (mCall (fns T (d + 6)) 24 (maCons (mVar 0) (maCons (mVar 3) (maNil)))) (maNil)))) (η := roE i w1 (some (.int n)) (some (encV M c)) (some (encV N c')) w5) (S := S3) (S0 := S3) (xs := (List.range 3).map nW) (fun S' => Kp i S S') (fun y => y = .bl true) (rng_nat (n := 3) rfl (by decide)) kS (fun x hx S' k' => by
    obtain ⟨v, S'', e, nv, k⟩ := bent20 (d := d + 3) k'.1 n1 n4 m2
    exact ⟨[some (.ref i), w1, some (.int n), some (encV M c), some (encV N c'), w5, none, none, some x], .bl true, S'', rfl, askE n1 n4 nv (mVar_ok rfl) (mCall_ok (S1 := S') (maCons_ok (S1 := S') (mVar_ok rfl) (maCons_ok (S1 := S') (mVar_ok rfl) rfl)) e), rfl, k'.trans k⟩) (by unfold bigLine; simp)
  have ey : ys = ys.map fun _ => W.bl true := by
    conv => lhs; rw [← List.map_id ys]
    exact List.map_congr_left fun y hy => p6 y hy
  have ea : baAll [.lst ys] S4 = some (.bl true) := by
    rw [ey, all_map (fun _ => true) ys]
    have : (ys.all fun _ => true) = true := List.all_eq_true.mpr fun _ _ => rfl
    rw [this]
  have t3 : (mTNot (mTru (mBi baAll (maCons (mComp (miRng rng1 (maCons (mC (.int 3)) (maNil))) [8] (gVar 8) (mtYes) (mCall (fns T (d + 6)) 23 (maCons (mVar 2) (maCons (mCall (fns T (d + 6)) 24 (maCons (mVar 0) (maCons (mVar 3) (maNil)))) (maNil))))) (maNil))))) (roE i w1 (some (.int n)) (some (encV M c)) (some (encV N c')) w5) S3 = .ok false S4 := notT (mBi1_ok e6 ea)
  obtain ⟨o, o1, o4, S5, e7, k7⟩ := num20 (d := d + 5) (η := roE i w1 (some (.int n)) (some (encV M c)) (some (encV N c')) w5) k6.1 rfl
  refine ⟨some (.int n), some (encV M c), some (encV N c'), some (.int o), S5, ?_, k6.trans k7⟩
  unfold p_law_round_1b
  refine (sSeq_nx (η1 := roE i w1 (some (.int n)) w3 w4 w5) (S1 := S1) (sSet_ok e1)).trans ?_
  refine (sSeq_nx (η1 := roE i w1 (some (.int n)) (some (encV M c)) w4 w5) (S1 := S2) (sSet_ok e2')).trans ?_
  refine (sSeq_nx (η1 := roE i w1 (some (.int n)) (some (encV M c)) (some (encV N c')) w5) (S1 := S3) (sSet_ok e3)).trans ?_
  refine (sSeq_nx (sIf_n ((mTOr_f t1).trans ((mTOr_f t2).trans t3)))).trans ?_
  refine (sSeq_nx (η1 := roE i w1 (some (.int n)) (some (encV M c)) (some (encV N c')) (some (.int o))) (S1 := S5) (sSet_ok e7)).trans ?_
  exact sIf_n (notT (askE o1 o4 v1 (mVar_ok rfl) (mVar_ok rfl)))
theorem nice_one (z : Int) : Nice (.tup [.tup [.tup [.int z]], .str [50]]) := .tup _ (fun x hx => by
  rcases List.mem_cons.mp hx with q | q
  · rw [q]
    exact .tup _ (nice1 (.tup _ (nice1 (.int z)) (by show 1 ≤ 100; decide))) (by show 1 ≤ 100; decide)
  · rw [List.mem_singleton.mp q]
    exact .str _ (by show 1 ≤ 100; decide)) (by show 2 ≤ 100; decide)
theorem round20 {d i : Nat} {S : Store} (hw : Well S i) : ∃ S', fns T (d + 7) 25 [.ref i] S = .ok (.bl true) S' ∧ Kp i S S' := by
  have lp : Nx (p_law_round_1 (fns T (d + 6)) (roE i none none none none none) S) fun η S' => (∃ w1 w2 w3 w4 w5, η = roE i w1 w2 w3 w4 w5) ∧ Kp i S S' := by
    unfold p_law_round_1
    refine Nx.sfor (S1 := S) (xs := (List.range 14).map nW) (fun η S' => (∃ w1 w2 w3 w4 w5, η = roE i w1 w2 w3 w4 w5) ∧ Kp i S S') (rng_nat (n := 14) rfl (by decide)) (fun x hx η S' hI => ?_) ⟨⟨_, _, _, _, _, rfl⟩, Kp.refl hw⟩
    obtain ⟨⟨w1, w2, w3, w4, w5, rfl⟩, k⟩ := hI
    obtain ⟨u2, u3, u4, u5, S'', e, k'⟩ := round_body (d := d) (w1 := some x) (w2 := w2) (w3 := w3) (w4 := w4) (w5 := w5) k.1
    exact ⟨roE i (some x) w2 w3 w4 w5, S', rfl, _, _, e, ⟨_, _, _, _, _, rfl⟩, k.trans k'⟩
  obtain ⟨η3, S3, e3, ⟨w1, w2, w3, w4, w5, rfl⟩, k3⟩ := lp
  obtain ⟨S'', e6, k6⟩ := nf_ret (k := 25) (ws := [.ref i]) (η := roE i none none none none none) (S := S) (S' := S3) (w := .bl true) (d := d + 6) (i := i) (b := b_law_round) (np := 1) (nv := 9) rfl rfl rfl (well_lt hw) (by
    refine (sSeq_nx e3).trans (sRet_ok ?_)
    refine (mAnd_t (x := .bl true) (S1 := S3) (askE (m := 1) (v := .tup [.tup [.tup [.int 1]], .str [50]]) (by decide) (by decide) (nice_one 1) rfl rfl) rfl).trans ?_
    exact askE (m := 1) (v := .tup [.tup [.tup [.int 0]], .str [50]]) (by decide) (by decide) (nice_one 0) rfl rfl) rfl k3.w
  exact ⟨S'', e6, k6⟩
theorem law_okF (φ : Fns) (ns : List Int) (hwell : ∀ (t : Nat) (S : Store), t ≤ 1000 → ∃ a b : Int, 0 ≤ a ∧ 0 ≤ b ∧ φ 14 [.scr (ns.map .int), .int t] S = .ok (.ref S.length) (S ++ [.lst [.int a, .int b, .int 0]])) (hround : ∀ (i : Nat) (S : Store), Well S i → ∃ S', φ 25 [.ref i] S = .ok (.bl true) S') : Rt (b_law φ [some (.scr (ns.map .int)), none] []) (.bl true) := by
  obtain ⟨q, hq, eq⟩ : ∃ q : Nat, q ≤ 1000 ∧ (miRng rng1 (maCons (mBi baMax2 (maCons (mC (.int 2)) (maCons (mBi baMin2 (maCons (mBi baLen (maCons (mVar 0) (maNil))) (maCons (mC (.int 3)) (maNil)))) (maNil)))) (maNil))) [some (.scr (ns.map .int)), none] [] = .ok ((List.range q).map nW) [] := by
    obtain ⟨q, hq, e⟩ : ∃ q : Nat, q ≤ 1000 ∧ (if (if (3 : Int) < ((ns.map W.int).length : Int) then (3 : Int) else ((ns.map W.int).length : Int)) > 2 then (if (3 : Int) < ((ns.map W.int).length : Int) then (3 : Int) else ((ns.map W.int).length : Int)) else 2) = (q : Int) := by
      refine ⟨(if (if (3 : Int) < ((ns.map W.int).length : Int) then (3 : Int) else ((ns.map W.int).length : Int)) > 2 then (if (3 : Int) < ((ns.map W.int).length : Int) then (3 : Int) else ((ns.map W.int).length : Int)) else 2).toNat, ?_, ?_⟩
      · split <;> split <;> omega
      · split <;> split <;> omega
    refine ⟨q, hq, rng_nat ?_ (by omega)⟩
    rw [← e]
    rfl
  obtain ⟨ys, S', e, l, p, _⟩ := comp_eff (it := miRng rng1 (maCons (mBi baMax2 (maCons (mC (.int 2)) (maCons (mBi baMin2 (maCons (mBi baLen (maCons (mVar 0) (maNil))) (maCons (mC (.int 3)) (maNil)))) (maNil)))) (maNil))) (own := [1]) (g := gVar 1) (e := mCall φ 25 (maCons (mCall φ 14 (maCons (mVar 0) (maCons (mVar 1) (maNil)))) (maNil))) (η := [some (.scr (ns.map .int)), none]) (S := []) (S0 := []) (xs := (List.range q).map nW) (fun _ => True) (fun y => y = .bl true) eq True.intro (fun x hx S _ => by
    obtain ⟨t, ht, rfl⟩ := List.mem_map.mp hx
    have ht := List.mem_range.mp ht
    obtain ⟨a, b, ha, hb, ew⟩ := hwell t S (by omega)
    obtain ⟨S2, er⟩ := hround S.length (S ++ [.lst [.int a, .int b, .int 0]]) (Well.new ha hb)
    exact ⟨[some (.scr (ns.map .int)), some (nW t)], .bl true, S2, rfl, mCall_ok (S1 := S ++ [.lst [.int a, .int b, .int 0]]) (maCons_ok (S1 := S ++ [.lst [.int a, .int b, .int 0]]) (mCall_ok (S1 := S) (maCons_ok (S1 := S) (mVar_ok rfl) (maCons_ok (S1 := S) (mVar_ok rfl) rfl)) ew) rfl) er, rfl, True.intro⟩) (by unfold bigLine; rw [List.length_map, List.length_range]; omega)
  have ey : ys = ys.map fun _ => W.bl true := by
    conv => lhs; rw [← List.map_id ys]
    exact List.map_congr_left fun y hy => p y hy
  have ea : baAll [.lst ys] S' = some (.bl true) := by
    rw [ey, all_map (fun _ => true) ys]
    have : (ys.all fun _ => true) = true := List.all_eq_true.mpr fun _ _ => rfl
    rw [this]
  exact ⟨S', sRet_ok (mBi1_ok e ea)⟩
theorem law_ok (ns : List Int) (hl : ns.length ≤ 63) : Rt (b_law (fns T 59) [some (.scr (ns.map .int)), none] []) (.bl true) :=
  law_okF (fns T 59) ns (fun t S ht => well_callB (T := T) (d := 58) (k := 14) (t := t) (S := S) (ns := ns) rfl hl ht) (fun i S hw => by
    obtain ⟨S', e, _⟩ := round20 (d := 52) hw
    exact ⟨S', e⟩)
theorem main (ns : List Int) (hl : ns.length ≤ 63) : ∃ S, law 60 [.scr (ns.map .int)] [] = .ok (.bl true) S := law_end (d := 59) (nv := 2) (b := b_law) rfl (law_ok ns hl)
end Lw

open PySem PySem.W PySem.Calls PyProof.Rows
theorem PySem.Challenge.cw_threealike_k20_whole_motions_of_anything_holds : PySem.Challenge.rw_threealike_k20_whole_motions_of_anything.Holds := by
  w_on; o_law
  refine HandSHeadRun.head_any (r := OpenLaw.row PySem.Challenge.rw_threealike_k20_whole_motions_of_anything) (q := view (OpenLaw.row PySem.Challenge.rw_threealike_k20_whole_motions_of_anything).prog [37]) (H := Lw.hk) (ob := Lw.ob) (M := 30000) (loose := Lw.loose) (d := HandSHeadRun.topDef (OpenLaw.row PySem.Challenge.rw_threealike_k20_whole_motions_of_anything).prog 37) (kwd := []) Lw.ob_eq
    (by kernel_rfl) (fun s => by kernel_rfl) Lw.run (by kernel_rfl) (by kernel_rfl) (by kernel_rfl) (by rfl) (by first | assumption | decide +kernel) (by decide +kernel) ⟨rfl, rfl, rfl, rfl, rfl, by decide +kernel⟩ ?hw ?hc
  case hw => exact ⟨[.list []], by decide +kernel, by decide +kernel⟩
  case hc =>
    refine L2.walk_ofE (l := PySem.Challenge.rw_threealike_k20_whole_motions_of_anything) (n := 63) (k := 60 + 2) (x := "script") (CX := L2.CX0) rfl (by decide) (by kernel_rfl) ⟨rfl, by decide, by decide⟩ ?F (fun _ _ _ _ z => z)
    intro w mg fa h Y G hmg0
    obtain ⟨K, KX, c, e⟩ := Y
    have hmg : mg ("law" : PySem.Str) = some (.ref fa) := by
      have e : (HandSHeadRun.topDef (OpenLaw.row PySem.Challenge.rw_threealike_k20_whole_motions_of_anything).prog 37).name = ("law" : PySem.Str) := by kernel_rfl
      rw [← e]
      exact hmg0
    have B := Lw.facts KX G c e
    obtain ⟨fd, F⟩ := c.def_ 26 (d := ⟨(Lw.r_law.x, none), Lw.r_law.x, Lw.r_law.x, L2.defArgs Lw.r_law.st, L2.defBody Lw.r_law.st, L2.defScope Lw.r_law.st, [], []⟩) rfl
    have ea := hmg.symm.trans (He.glo_ok KX G (c.fact 26 (f := .glo "law") rfl))
    cases ea
    have b := L2.FunD.bindsA (ps := ["script"]) F fun _ _ _ _ _ _ us hl => match us, hl with | [_], _ => rfl
    refine ⟨K, fd, fun vs H Q _ => Mp.spF K (Lw.gs K) 1 (Lw.law 60) vs H Q fun _ _ _ => False, KX, fun s v => b s [v] rfl, fun H a ns hl ho hs => Mp.law_sp ho hs (Lw.main ns hl), fun base hb hg => ?_⟩
    obtain ⟨fd', ft⟩ := Lw.all (P := (PySem.Challenge.rw_threealike_k20_whole_motions_of_anything).prog) (w := w) (base := base) B (Lw.base0 KX G c) 60 26 Lw.r_law rfl
    have ok := Mp.noexc_fn ft.ok
    have el := Mp.same_fd F ft.F
    subst el
    exact ok
#print axioms PySem.Challenge.cw_threealike_k20_whole_motions_of_anything_holds
