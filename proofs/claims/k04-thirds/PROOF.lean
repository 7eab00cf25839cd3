import PyProof.Rows.All
import Wide.All
import OpenK.AllK
import Wide.FinOn
import HandS.ForMost
import HandS.ForExc
import HandS.Defaults
import HandS.CallSlots
import HandS.Flow
import HandS.Gcd
import HandS.Zip
import HandS.Walk
import HandS.Deep
import HandS.IsInst
import HandS.Wide
import HandS.WideBits
import HandS.TupAny
import HandS.TupMul
import HandS.Head2
import HandS.HeadEnd
import HandS.HeadHook2
import HandS.Codes
import HandS.Head3
import HandS.Replace
import PyProof.Rows.SortShellAny
import HandS.SortInts
import HandS.Style
import PyProof.Draws
import HandS.TupLe
import HandS.DictComp
import HandS.SetFor
import HandS.Dict
import KE.KTupSum
import HandS.Star
import HandS.Conv
import HandS.Iter
import HandS.Small
import HandS.ExcInit
import HandS.ExcField
import HandS.ExcIs
import KE.KExcIs
import HandS.SetKeys
import HandS.TupSets
import KE.GoesMore
import KE.KDictZip
import PyProof.EnumMake
import HandS.SortKw
import KE.KMinKey
import PyProof.StrOps2
import PySem.Challenge.RW_threealike_k04_whole_thirds_of_cards
set_option linter.all false
set_option Elab.async false
set_option maxRecDepth 100000
set_option maxHeartbeats 4000000
namespace Mp
/-- values: lst a list that nobody changes, ref a list (dict, instance) of the store, scr the script -/
inductive W where
  | non | bl (b : Bool) | int (i : Int) | str (s : List Nat) | tup (xs : List W) | lst (xs : List W) | scr (xs : List W)
  | dct (ks vs : List W) | ref (i : Nat) | fn (f : Nat) | cls (c : Nat) | exc (c : Nat) (x : W)
  deriving Inhabited
mutual
def W.pure : W → Bool
  | .ref _ => false
  | .tup xs => pures xs
  | .lst xs => pures xs
  | .scr xs => pures xs
  | .dct ks vs => pures ks && pures vs
  | .exc _ _ => false
  | .non => true
  | .bl _ => true
  | .int _ => true
  | .str _ => true
  | .fn _ => true
  | .cls _ => true
def pures : List W → Bool
  | [] => true
  | x :: xs => x.pure && pures xs
end
mutual
def okD : W → Nat → Bool
  | .non, _ => true
  | .bl _, _ => true
  | .int _, _ => true
  | .str _, _ => true
  | .tup xs, k => decide (0 < k) && okDs xs (k - 1)
  | .lst xs, k => decide (0 < k) && okDs xs (k - 1)
  | _, _ => false
def okDs : List W → Nat → Bool
  | [], _ => true
  | x :: xs, k => okD x k && okDs xs k
end
mutual
def eqW : W → W → Bool
  | .non, .non => true
  | .bl a, .bl b => a == b
  | .bl a, .int j => (if a then 1 else 0) == j
  | .int i, .bl b => i == (if b then 1 else 0)
  | .int i, .int j => i == j
  | .str x, .str y => x == y
  | .lst xs, .lst ys => eqWs xs ys
  | .tup xs, .tup ys => eqWs xs ys
  | _, _ => false
def eqWs : List W → List W → Bool
  | [], [] => true
  | x :: xs, y :: ys => eqW x y && eqWs xs ys
  | _, _ => false
end
inductive Cell where
  | lst (xs : List W) | dct (ks vs : List W) | ins (c : Nat) (fs : List (Nat × W))
  deriving Inhabited
abbrev Store := List Cell
inductive R (α : Type) where
  | ok (a : α) (S : Store)
  | exc (c : Nat) (x : W) (S : Store)
  | stuck
def R.bind {α β : Type} : R α → (α → Store → R β) → R β
  | .ok a S, k => k a S
  | .exc c x S, _ => .exc c x S
  | .stuck, _ => .stuck
abbrev Env := List (Option W)
abbrev ME := Env → Store → R W
abbrev MT := Env → Store → R Bool
abbrev MA := Env → Store → R (List W)
def bigLine : Nat := 16777216
def mVar (i : Nat) : ME := fun η S => match η[i]? with
  | some (some w) => .ok w S
  | _ => .stuck
def mC (w : W) : ME := fun _ S => .ok w S
def rOpt {α : Type} (o : Option α) (S : Store) : R α := match o with
  | some w => .ok w S
  | none => .stuck
abbrev O2 := W → W → Store → Option W
abbrev OA := List W → Store → Option W
def mBin (o : O2) (f g : ME) : ME := fun η S => (f η S).bind fun x S1 => (g η S1).bind fun y S2 => rOpt (o x y S2) S2
def mUn (o : W → Store → Option W) (f : ME) : ME := fun η S => (f η S).bind fun x S1 => rOpt (o x S1) S1
def truthy (S : Store) : W → Option Bool
  | .non => some false
  | .bl b => some b
  | .int i => some (i != 0)
  | .str s => some (!s.isEmpty)
  | .tup xs => some (!xs.isEmpty)
  | .lst xs => some (!xs.isEmpty)
  | .ref i => (match S[i]? with
    | some (.lst xs) => some (!xs.isEmpty)
    | _ => none)
  | _ => none
def rTruth (x : W) (S : Store) : R Bool := rOpt (truthy S x) S
/-- a value as a test -/
def mTru (f : ME) : MT := fun η S => (f η S).bind rTruth
def mTNot (f : MT) : MT := fun η S => (f η S).bind fun b S1 => .ok (!b) S1
def mTOr (f g : MT) : MT := fun η S => (f η S).bind fun b S1 => if b = true then .ok true S1 else g η S1
def mNot (f : ME) : ME := fun η S => (f η S).bind fun x S1 => (rTruth x S1).bind fun b S2 => .ok (.bl (!b)) S2
def mAnd (f g : ME) : ME := fun η S => (f η S).bind fun x S1 => (rTruth x S1).bind fun b S2 => if b = true then g η S2 else .ok x S2
def mIf (c : MT) (f g : ME) : ME := fun η S => (c η S).bind fun b S1 => if b = true then f η S1 else g η S1
def maNil : MA := fun _ S => .ok [] S
def maCons (f : ME) (g : MA) : MA := fun η S => (f η S).bind fun x S1 => (g η S1).bind fun xs S2 => .ok (x :: xs) S2
def sized (n : Nat) (r : R α) : R α := if n ≤ bigLine then r else .stuck
def mTup (g : MA) : ME := fun η S => (g η S).bind fun xs S1 => sized xs.length (.ok (.tup xs) S1)
def mLst (g : MA) : ME := fun η S => (g η S).bind fun xs S1 => sized xs.length (.ok (.lst xs) S1)
/-- a call of a built-in -/
def mBi (o : OA) (g : MA) : ME := fun η S => (g η S).bind fun xs S1 => rOpt (o xs S1) S1
/-- a chain a < b < c -/
def mChain (o o' : O2) (f g h : ME) : ME := fun η S => (f η S).bind fun x S1 => (g η S1).bind fun y S2 => match o x y S2 with
  | some (.bl true) => (h η S2).bind fun y' S4 => rOpt (o' y y' S4) S4
  | some (.bl false) => .ok (.bl false) S2
  | _ => .stuck
/-- a list, of the store or not -/
def lstOf (S : Store) : W → Option (List W)
  | .lst xs => some xs
  | .ref i => (match S[i]? with
    | some (.lst xs) => some xs
    | _ => none)
  | _ => none
def opAdd : O2 := fun x y S => match x, y with
  | .int i, .int j => some (.int (i + j))
  | .str a, .str b => if a.length + b.length ≤ bigLine then some (.str (a ++ b)) else none
  | .tup a, .tup b => if a.length + b.length ≤ bigLine then some (.tup (a ++ b)) else none
  | x, y => (match lstOf S x, lstOf S y with
    | some a, some b => if a.length + b.length ≤ bigLine then some (.lst (a ++ b)) else none
    | _, _ => none)
def opSub : O2 := fun x y _ => match x, y with
  | .int i, .int j => some (.int (i - j))
  | _, _ => none
def mulOk (i j : Int) : Bool := decide (i.natAbs < 18446744073709551616) || decide (j.natAbs < 18446744073709551616)
def opMul : O2 := fun x y S => match x, y with
  | .int i, .int j => if mulOk i j = true then some (.int (i * j)) else none
  | x, .int k => (match lstOf S x with
    | some xs => if -9223372036854775808 ≤ k ∧ k < 9223372036854775808 ∧ xs.length * k.toNat ≤ bigLine then some (.lst (List.replicate k.toNat xs).flatten) else none
    | none => none)
  | _, _ => none
def opDiv : O2 := fun x y _ => match x, y with
  | .int i, .int j => if 0 < j ∧ j.natAbs.log2 < 9000 then some (.int (i / j)) else none
  | _, _ => none
def opMod : O2 := fun x y _ => match x, y with
  | .int i, .int j => if 0 < j then some (.int (i % j)) else none
  | _, _ => none
def opPow : O2 := fun x y _ => match x, y with
  | .int i, .int j => if 0 ≤ j ∧ j ≤ 1000000 ∧ i.natAbs < 18446744073709551616 then some (.int (i ^ j.toNat)) else none
  | _, _ => none
/-- a list of the store as a plain one -/
def plainL (S : Store) (w : W) : W := match lstOf S w with
  | some xs => .lst xs
  | none => w
def opEq : O2 := fun x y S => if okD (plainL S x) 30 = true ∧ okD (plainL S y) 30 = true then some (.bl (eqW (plainL S x) (plainL S y))) else none
def opNe : O2 := fun x y S => if okD (plainL S x) 30 = true ∧ okD (plainL S y) 30 = true then some (.bl (!eqW (plainL S x) (plainL S y))) else none
def opCmp (p : Int → Int → Bool) (q : List Nat → List Nat → Bool) : O2 := fun x y _ => match x, y with
  | .int i, .int j => some (.bl (p i j))
  | .str a, .str b => some (.bl (q a b))
  | _, _ => none
def opLt : O2 := opCmp (fun i j => decide (i < j)) fun a b => decide (a < b)
def opLe : O2 := opCmp (fun i j => decide (i ≤ j)) fun a b => !decide (b < a)
def opGt : O2 := opCmp (fun i j => decide (j < i)) fun a b => decide (b < a)
def opGe : O2 := opCmp (fun i j => decide (j ≤ i)) fun a b => !decide (a < b)
def flat : W → Bool
  | .non => true
  | .bl _ => true
  | .int _ => true
  | .str _ => true
  | _ => false
def inW (x : W) (ys : List W) : Bool := ys.any fun y => eqW y x
def seqOf (S : Store) : W → Option (List W)
  | .tup xs => some xs
  | w => lstOf S w
def opIn : O2 := fun x y S => match x, y with
  | .str [c], .str z => some (.bl (decide (c ∈ z)))
  | x, y => (match seqOf S y with
    | some ys => if flat x = true ∧ ys.all flat = true then some (.bl (inW x ys)) else
        (match lstOf S y with
        | some ys => if okD x 30 = true ∧ okDs ys 29 = true then some (.bl (inW x ys)) else none
        | none => none)
    | none => none)
def opIsN : W → Store → Option W := fun x _ => match x with
  | .non => some (.bl true)
  | _ => some (.bl false)
/-- kinds: 0 None, 1 bool, 2 int, 3 str, 4 tuple, 5 list, 6 dict -/
def kindOf (S : Store) : W → Option Nat
  | .non => some 0
  | .bl _ => some 1
  | .int _ => some 2
  | .str _ => some 3
  | .tup _ => some 4
  | .lst _ => some 5
  | .scr _ => some 5
  | .dct _ _ => some 6
  | .ref i => (match S[i]? with
    | some (.lst _) => some 5
    | some (.dct _ _) => some 6
    | _ => none)
  | _ => none
def isKind (k c : Nat) : Bool := k == c || (k == 1 && c == 2)
def opIsi (c : Nat) : W → Store → Option W := fun x S => (kindOf S x).map fun k => .bl (isKind k c)
def ixW (n : Nat) (i : Int) : Option Nat := if 0 ≤ i then (if i < n then some i.toNat else none) else if -(n : Int) ≤ i then some (i + n).toNat else none
def atW (xs : List W) (i : Int) : Option W := (ixW xs.length i).bind fun j => xs[j]?
def opIx : O2 := fun x y S => match x, y with
  | .str z, .int i => (ixW z.length i).bind fun j => z[j]?.map fun c => .str [c]
  | .tup xs, .int i => atW xs i
  | .scr xs, .int i => atW xs i
  | x, .int i => (lstOf S x).bind fun xs => atW xs i
  | _, _ => none
def sIxW (n d : Nat) : Option Int → Nat
  | none => d
  | some v => if v < 0 then (v + (n : Int)).toNat else min v.toNat n
def cutW {α : Type} (xs : List α) (lo hi : Option Int) : List α := (xs.drop (sIxW xs.length 0 lo)).take (sIxW xs.length xs.length hi - sIxW xs.length 0 lo)
def opSl (x : W) (lo hi : Option Int) (S : Store) : Option W := match x with
  | .str z => some (.str (cutW z lo hi))
  | .tup xs => some (.tup (cutW xs lo hi))
  | .scr xs => some (.lst (cutW xs lo hi))
  | x => (lstOf S x).map fun xs => .lst (cutW xs lo hi)
def intsOf : List W → Option (List Int)
  | [] => some []
  | .int i :: r => (intsOf r).map (i :: ·)
  | _ => none
def bls : List W → Option (List Bool)
  | [] => some []
  | .bl i :: r => (bls r).map (i :: ·)
  | _ => none
def strsOf : List W → Option (List (List Nat))
  | [] => some []
  | .str i :: r => (strsOf r).map (i :: ·)
  | _ => none
def baLen : OA := fun xs S => match xs with
  | [.str z] => some (.int z.length)
  | [.tup xs] => some (.int xs.length)
  | [.scr xs] => some (.int xs.length)
  | [x] => (lstOf S x).map fun xs => .int xs.length
  | _ => none
def baAbs : OA := fun xs _ => match xs with
  | [.int i] => some (.int (if i < 0 then -i else i))
  | _ => none
def baMax2 : OA := fun xs _ => match xs with
  | [.int i, .int j] => some (.int (if j > i then j else i))
  | _ => none
def baMin2 : OA := fun xs _ => match xs with
  | [.int i, .int j] => some (.int (if j < i then j else i))
  | _ => none
def isDig (s : List Nat) : Bool := s.all fun c => decide (48 ≤ c) && decide (c ≤ 57)
def digW (s : List Nat) : Nat := s.foldl (fun acc c => acc * 10 + (c - 48)) 0
def baInt : OA := fun xs _ => match xs with
  | [.int i] => some (.int i)
  | [.bl b] => some (.int (if b then 1 else 0))
  | [.str s] => if isDig s = true ∧ s ≠ [] ∧ s.length ≤ 640 then some (.int (digW s)) else none
  | _ => none
def baDivmod : OA := fun xs _ => match xs with
  | [.int i, .int j] => if 0 < j ∧ j.natAbs.log2 < 9000 then some (.tup [.int (i / j), .int (i % j)]) else none
  | _ => none
def baSum : OA := fun xs S => match xs with
  | [.scr xs] => (intsOf xs).map fun ns => .int ns.sum
  | [x] => (lstOf S x).bind fun xs => (intsOf xs).map fun ns => .int ns.sum
  | _ => none
def baAll : OA := fun xs S => match xs with
  | [x] => (lstOf S x).bind fun xs => (bls xs).map fun bs => .bl (bs.all id)
  | _ => none
def baTuple : OA := fun xs S => match xs with
  | [.tup xs] => some (.tup xs)
  | [x] => (lstOf S x).map fun xs => .tup xs
  | _ => none
def joinW (sep : List Nat) : List (List Nat) → List Nat
  | [] => []
  | [x] => x
  | x :: r => x ++ sep ++ joinW sep r
def opJoin : O2 := fun x y S => match x with
  | .str a => (seqOf S y).bind fun ys => (strsOf ys).bind fun zs => if (zs.map (·.length)).sum + zs.length * a.length ≤ bigLine then some (.str (joinW a zs)) else none
  | _ => none
abbrev MO := Env → Store → R (Option Int)
def moNone : MO := fun _ S => .ok none S
def moSome (f : ME) : MO := fun η S => (f η S).bind fun x S1 => match x with
  | .int i => .ok (some i) S1
  | _ => .stuck
def mSl (f : ME) (lo hi : MO) : ME := fun η S => (f η S).bind fun x S1 => (lo η S1).bind fun l S2 => (hi η S2).bind fun h S3 => rOpt (opSl x l h S3) S3
inductive RS where
  | nx (η : Env) (S : Store)
  | bk (η : Env) (S : Store)
  | ct (η : Env) (S : Store)
  | ret (w : W) (S : Store)
  | exc (c : Nat) (x : W) (η : Env) (S : Store)
  | stuck
abbrev MS := Env → Store → RS
def R.toS {α : Type} (η : Env) (r : R α) (k : α → Store → RS) : RS := match r with
  | .ok a S => k a S
  | .exc c x S => .exc c x η S
  | .stuck => .stuck
def RS.next (r : RS) (k : MS) : RS := match r with
  | .nx η S => k η S
  | r => r
def sSeq (f g : MS) : MS := fun η S => (f η S).next g
def sNx : MS := fun η S => .nx η S
def sSet (i : Nat) (f : ME) : MS := fun η S => (f η S).toS η fun w S1 => .nx (η.set i (some w)) S1
def sRet (f : ME) : MS := fun η S => (f η S).toS η fun w S1 => .ret w S1
def sDrop (f : ME) : MS := fun η S => (f η S).toS η fun _ S1 => .nx η S1
def sIf (c : MT) (f g : MS) : MS := fun η S => (c η S).toS η fun b S1 => if b = true then f η S1 else g η S1
abbrev MG := W → Env → Store → Option (Env × Store)
def gVar (i : Nat) : MG := fun w η S => some (η.set i (some w), S)
/-- o[i] = w for a list of the store -/
def setAt (o i w : W) (S : Store) : Option Store := match o, i with
  | .ref r, .int k => (match S[r]? with
    | some (.lst xs) => if 0 ≤ k ∧ k < xs.length then (if w.pure then some (S.set r (.lst (xs.set k.toNat w))) else none)
        else if k < 0 ∧ -(xs.length : Int) ≤ k then (if w.pure then some (S.set r (.lst (xs.set (k + xs.length).toNat w))) else none) else none
    | _ => none)
  | _, _ => none
abbrev MGs := List W → Env → Store → Option (Env × Store)
def gsNil : MGs := fun ws η S => match ws with
  | [] => some (η, S)
  | _ => none
def gsCons (g : MG) (gs : MGs) : MGs := fun ws η S => match ws with
  | w :: r => (g w η S).bind fun (η1, S1) => gs r η1 S1
  | [] => none
def gTupW (gs : MGs) : MG := fun w η S => match w with
  | .tup xs => gs xs η S
  | _ => none
def gIdx (o i : ME) : MG := fun w η S => match o η S with
  | .ok ow S1 => (match i η S1 with
    | .ok iw S2 => (setAt ow iw w S2).map fun S3 => (η, S3)
    | _ => none)
  | _ => none
def optS (o : Option (Env × Store)) : RS := match o with
  | some (η, S) => .nx η S
  | none => .stuck
def sAsg (f : ME) (g : MG) : MS := fun η S => (f η S).toS η fun w S1 => optS (g w η S1)
def forL (g : MG) (b : MS) : List W → Env → Store → RS
  | [], η, S => .nx η S
  | x :: r, η, S => match g x η S with
    | none => .stuck
    | some (η1, S1) => (match b η1 S1 with
      | .nx η2 S2 => forL g b r η2 S2
      | .ct η2 S2 => forL g b r η2 S2
      | .bk η2 S2 => .nx η2 S2
      | r => r)
/-- what is walked: its items -/
abbrev MI := Env → Store → R (List W)
def sFor (it : MI) (g : MG) (b : MS) : MS := fun η S => (it η S).toS η fun xs S1 => forL g b xs η S1
def wipeE (η : Env) : List Nat → Env
  | [] => η
  | i :: is => (wipeE η is).set i none
def compL (g : MG) (t : MT) (e : ME) (η : Env) : List W → Store → List W → R (List W)
  | [], S, acc => .ok acc S
  | x :: r, S, acc => match g x η S with
    | none => .stuck
    | some (η1, S1) => (t η1 S1).bind fun b S2 => if b = true then (e η1 S2).bind fun w S3 => sized (acc.length + 1) (compL g t e η r S3 (acc ++ [w])) else compL g t e η r S2 acc
def noexc (r : R α) : R α := match r with
  | .exc _ _ _ => .stuck
  | r => r
def mComp (it : MI) (own : List Nat) (g : MG) (t : MT) (e : ME) : ME := fun η S => (it η S).bind fun xs S1 => (noexc (compL g t e (wipeE η own) xs S1 [])).bind fun ws S2 => .ok (.lst ws) S2
def mtYes : MT := fun _ S => .ok true S
abbrev Fns := Nat → List W → Store → R W
def mCall (φ : Fns) (f : Nat) (g : MA) : ME := fun η S => (g η S).bind fun ws S1 => φ f ws S1
/-- a call's end: keep: a list of the store that is new may be handed on -/
def fin (keep : Bool) (n : Nat) (w : W) (S : Store) : R W := if w.pure = true then .ok w (S.take n) else match w with
  | .ref i => if i < n then .ok w (S.take n) else (match S[i]? with
    | some (.lst xs) => if pures xs = true then (if keep = true then .ok (.ref n) (S.take n ++ [.lst xs]) else .ok (.lst xs) (S.take n)) else .stuck
    | _ => .stuck)
  | _ => .stuck
def finS (keep : Bool) (n : Nat) : RS → R W
  | .ret w S => fin keep n w S
  | .nx _ S => .ok .non (S.take n)
  | .exc c x _ S => if x.pure = true then .exc c x (S.take n) else .stuck
  | _ => .stuck
structure Fun where
  np : Nat
  nv : Nat
  keep : Bool := false
  fr : Bool := false
  body : Fns → MS
/-- a call that neither sees nor changes the store -/
def R.frame (S : Store) : R W → R W
  | .ok w _ => if w.pure = true then .ok w S else .stuck
  | .exc c x _ => if x.pure = true then .exc c x S else .stuck
  | .stuck => .stuck
def runF (F : Fun) (φ : Fns) (ws : List W) (S : Store) : R W := if ws.length = F.np then (if F.fr = true then (if pures ws = true then (finS false 0 (F.body φ (ws.map some ++ List.replicate (F.nv - F.np) none) [])).frame S else .stuck) else finS F.keep S.length (F.body φ (ws.map some ++ List.replicate (F.nv - F.np) none) S)) else .stuck
/-- the functions, to a depth -/
def fns (T : List Fun) : Nat → Fns
  | 0, _, _, _ => .stuck
  | d + 1, f, ws, S => match T[f]? with
    | some F => runF F (fns T d) ws S
    | none => .stuck
end Mp
namespace Mp
open PySem PySem.Spec PyProof.Rows L2
/-- where the functions, the classes stand; an error's attribute -/
structure Gs where
  fa : Nat → Addr
  ca : Nat → Addr
  nm : Nat → Str
  /-- the exception that is handled: its address, that of its dict, its class -/
  ea : Addr := 0
  ed : Addr := 0
  ec : Nat := 0
/-- the store's addresses; what is being built -/
structure Ga where
  ρ : List Addr
  β : List Addr
def Ga.Off (γ : Ga) (a : Addr) : Prop := a ∉ γ.ρ ∧ a ∉ γ.β
def FrT (K : PySem.W.Frag) (γ : Ga) (H : Hp) (a : Addr) (xs : List V) : Prop :=
  (Rd H a (.tup xs) ∧ γ.Off a) ∨ ∃ (o : Obj) (its : Array Value) (n : Nat), K.lookup a = some o ∧ o.cls = .type "tuple" ∧ o.data = .seq its n ∧ its.size ≤ sizeLine ∧ Vals xs its.toList
theorem FrT.sq {K : PySem.W.Frag} {γ : Ga} {H : Hp} {a : Addr} {xs : List V} (h : FrT K γ H a xs) : SqT K H a xs := h.elim (fun z => .inl z.1) .inr
/-- the script -/
def FrS (K : PySem.W.Frag) (γ : Ga) (H : Hp) (a : Addr) (xs : List V) : Prop :=
  ((∃ o, H a = some (.frz o (.lst xs))) ∧ γ.Off a) ∨ ∃ (o : Obj) (its : Array Value) (n : Nat), K.lookup a = some o ∧ o.cls = .type "list" ∧ o.dict = none ∧ o.data = .seq its n ∧ its.size ≤ sizeLine ∧ Vals xs its.toList
theorem FrS.sq {K : PySem.W.Frag} {γ : Ga} {H : Hp} {a : Addr} {xs : List V} (h : FrS K γ H a xs) : SqL K H a xs := h.elim (fun z => .inl (.inr z.1)) .inr
/-- a key as a value; a dict whose keys are ints and texts (told by false ahead of the keys), or tuples of such (true) -/
def keyW : Key → W
  | .inl i => .int i
  | .inr s => .str s.cps.toList
def DctAt (H : Hp) (a : Addr) (ks : List W) (us : List V) : Prop :=
  (∃ kvs : List (Key × V), H a = some (.dK kvs) ∧ ks = .bl false :: kvs.map (fun p => keyW p.1) ∧ us = kvs.map (·.2)) ∨ ∃ kvs : List (List Key × V), H a = some (.dT kvs) ∧ ks = .bl true :: kvs.map (fun p => W.tup (p.1.map keyW)) ∧ us = kvs.map (·.2)
theorem DctAt.keep {H H' : Hp} {a : Addr} {ks : List W} {us : List V} (d : DctAt H a ks us) (k : ∀ o, H a = some o → H' a = some o) : DctAt H' a ks us := d.elim (fun ⟨kvs, h, e⟩ => .inl ⟨kvs, k _ h, e⟩) fun ⟨kvs, h, e⟩ => .inr ⟨kvs, k _ h, e⟩
theorem DctAt.someN {H : Hp} {a : Addr} {ks : List W} {us : List V} (d : DctAt H a ks us) : ∃ o, H a = some o ∧ ∀ xs, o ≠ .tup xs := d.elim (fun ⟨_, h, _⟩ => ⟨_, h, fun _ z => nomatch z⟩) fun ⟨_, h, _⟩ => ⟨_, h, fun _ z => nomatch z⟩
theorem DctAt.some {H : Hp} {a : Addr} {ks : List W} {us : List V} (d : DctAt H a ks us) : ∃ o, H a = some o := d.elim (fun ⟨_, h, _⟩ => ⟨_, h⟩) fun ⟨_, h, _⟩ => ⟨_, h⟩
mutual
inductive Rep (K : PySem.W.Frag) (G : Gs) (γ : Ga) (H : Hp) : W → V → Prop
  | non : Rep K G γ H .non .non
  | bl (b : Bool) : Rep K G γ H (.bl b) (.bl b)
  | int (i : Int) : Rep K G γ H (.int i) (.int i)
  | str (s : List Nat) : (∀ c ∈ s, c < 0x110000) → s.length ≤ sizeLine → Rep K G γ H (.str s) (.str ⟨s.toArray⟩)
  | tup {a : Addr} {vs : List V} {xs : List W} : FrT K γ H a vs → Reps K G γ H xs vs → Rep K G γ H (.tup xs) (.ref a)
  | lst {a : Addr} {vs : List V} {xs : List W} : H a = some (.lst vs) → γ.Off a → Reps K G γ H xs vs → Rep K G γ H (.lst xs) (.ref a)
  | scr {a : Addr} {vs : List V} {xs : List W} : FrS K γ H a vs → Reps K G γ H xs vs → Rep K G γ H (.scr xs) (.ref a)
  | ref {i : Nat} {a : Addr} : γ.ρ[i]? = some a → Rep K G γ H (.ref i) (.ref a)
  | fn (f : Nat) : Rep K G γ H (.fn f) (.ref (G.fa f))
  | dct {a : Addr} {us : List V} {ks ws : List W} : DctAt H a ks us → γ.Off a → Reps K G γ H ws us → Rep K G γ H (.dct ks ws) (.ref a)
  | exc {x : W} {v : V} : H G.ed = some (.xd [(G.nm G.ec, v)]) → γ.Off G.ed → Rep K G γ H x v → Rep K G γ H (.exc G.ec x) (.ref G.ea)
inductive Reps (K : PySem.W.Frag) (G : Gs) (γ : Ga) (H : Hp) : List W → List V → Prop
  | nil : Reps K G γ H [] []
  | cons {w : W} {v : V} {ws : List W} {vs : List V} : Rep K G γ H w v → Reps K G γ H ws vs → Reps K G γ H (w :: ws) (v :: vs)
end
structure Ext (γ : Ga) (H : Hp) (γ' : Ga) (H' : Hp) : Prop where
  pre : γ.ρ <+: γ'.ρ
  bsub : ∀ a ∈ γ.β, a ∈ γ'.β
  bnew : ∀ a ∈ γ'.β, a ∈ γ.β ∨ H a = none
  keep : ∀ a o, H a = some o → a ∉ γ.ρ → H' a = some o
  new : ∀ a, a ∈ γ'.ρ → a ∉ γ.ρ → H a = none
  dom : ∀ a o, H a = some o → ∃ o', H' a = some o'
theorem Ext.refl {γ : Ga} {H : Hp} : Ext γ H γ H := ⟨List.prefix_refl _, fun _ h => h, fun _ h => .inl h, fun _ _ e _ => e, fun _ h1 h2 => absurd h1 h2, fun _ o e => ⟨o, e⟩⟩
theorem Ext.off {γ γ' : Ga} {H H' : Hp} (e : Ext γ H γ' H') {a : Addr} {o : HO} (h : H a = some o) (f : γ.Off a) : γ'.Off a := by
  refine ⟨fun z => ?_, fun z => ?_⟩
  · have q := e.new a z f.1
    rw [h] at q
    cases q
  · rcases e.bnew a z with q | q
    · exact f.2 q
    · rw [h] at q
      cases q
theorem Ext.trans {γ γ1 γ2 : Ga} {H H1 H2 : Hp} (e : Ext γ H γ1 H1) (e2 : Ext γ1 H1 γ2 H2) : Ext γ H γ2 H2 := by
  have nn : ∀ {a : Addr}, H1 a = none → H a = none := fun {a} q => by
    cases z : H a with
    | none => rfl
    | some o =>
      obtain ⟨o', z'⟩ := e.dom a o z
      rw [q] at z'
      cases z'
  refine ⟨e.pre.trans e2.pre, fun a h => e2.bsub a (e.bsub a h), fun a h => ?_, fun a o h n => ?_, fun a h n => ?_, fun a o h => ?_⟩
  · rcases e2.bnew a h with q | q
    · exact e.bnew a q
    · exact .inr (nn q)
  · have n1 : a ∉ γ1.ρ := fun z => by
      have q := e.new a z n
      rw [h] at q
      cases q
    exact e2.keep a o (e.keep a o h n) n1
  · by_cases h1 : a ∈ γ1.ρ
    · exact e.new a h1 n
    · exact nn (e2.new a h h1)
  · obtain ⟨o1, h1⟩ := e.dom a o h
    exact e2.dom a o1 h1
end Mp
namespace Mp
open PySem PySem.Spec PyProof.Rows L2
section
variable {K : PySem.W.Frag} {G : Gs} {γ γ' : Ga} {H H' : Hp}
theorem Ext.rd (e : Ext γ H γ' H') {a : Addr} {u : HO} (h : Rd H a u) (f : γ.Off a) : Rd H' a u ∧ γ'.Off a := by
  rcases h with h | ⟨o, h⟩
  · exact ⟨.inl (e.keep _ _ h f.1), e.off h f⟩
  · exact ⟨.inr ⟨o, e.keep _ _ h f.1⟩, e.off h f⟩
theorem FrT.mono (e : Ext γ H γ' H') {a : Addr} {xs : List V} (h : FrT K γ H a xs) : FrT K γ' H' a xs := by
  rcases h with ⟨h, f⟩ | h
  · exact .inl (e.rd h f)
  · exact .inr h
theorem FrS.mono (e : Ext γ H γ' H') {a : Addr} {xs : List V} (h : FrS K γ H a xs) : FrS K γ' H' a xs := by
  rcases h with ⟨⟨o, h⟩, f⟩ | h
  · exact .inl ⟨⟨o, e.keep _ _ h f.1⟩, e.off h f⟩
  · exact .inr h
mutual
theorem Rep.mono (e : Ext γ H γ' H') : ∀ {w : W} {v : V}, Rep K G γ H w v → Rep K G γ' H' w v
  | _, _, .non => .non
  | _, _, .bl b => .bl b
  | _, _, .int i => .int i
  | _, _, .str s h1 h2 => .str s h1 h2
  | _, _, .tup h r => .tup (h.mono e) (Reps.mono e r)
  | _, _, .lst h f r => .lst (e.keep _ _ h f.1) (e.off h f) (Reps.mono e r)
  | _, _, .scr h r => .scr (h.mono e) (Reps.mono e r)
  | _, _, .ref h => .ref (by
      obtain ⟨t, q⟩ := e.pre
      rw [← q]
      rw [List.getElem?_append_left (List.getElem?_eq_some_iff.mp h).1]
      exact h)
  | _, _, .fn f => .fn f
  | _, _, .dct d f r => .dct (d.keep fun o h => e.keep _ _ h f.1) (e.off d.some.choose_spec f) (Reps.mono e r)
  | _, _, .exc h f r => .exc (e.keep _ _ h f.1) (e.off h f) (Rep.mono e r)
theorem Reps.mono (e : Ext γ H γ' H') : ∀ {ws : List W} {vs : List V}, Reps K G γ H ws vs → Reps K G γ' H' ws vs
  | _, _, .nil => .nil
  | _, _, .cons r t => .cons (Rep.mono e r) (Reps.mono e t)
end
structure ExtW (γ : Ga) (H : Hp) (γ' : Ga) (H' : Hp) : Prop where
  pre : γ.ρ <+: γ'.ρ
  bsub : ∀ a ∈ γ.β, a ∈ γ'.β
  bnew : ∀ a ∈ γ'.β, a ∈ γ.β ∨ H a = none
  keep : ∀ a o, H a = some o → γ.Off a → H' a = some o
  new : ∀ a, a ∈ γ'.ρ → a ∉ γ.ρ → H a = none
  dom : ∀ a o, H a = some o → ∃ o', H' a = some o'
theorem Ext.w (e : Ext γ H γ' H') : ExtW γ H γ' H' := ⟨e.pre, e.bsub, e.bnew, fun a o h f => e.keep a o h f.1, e.new, e.dom⟩
theorem ExtW.off (e : ExtW γ H γ' H') {a : Addr} {o : HO} (h : H a = some o) (f : γ.Off a) : γ'.Off a := by
  refine ⟨fun z => ?_, fun z => ?_⟩
  · have q := e.new a z f.1
    rw [h] at q
    cases q
  · rcases e.bnew a z with q | q
    · exact f.2 q
    · rw [h] at q
      cases q
theorem ExtW.trans {γ1 : Ga} {H1 : Hp} (e : ExtW γ H γ1 H1) (e2 : ExtW γ1 H1 γ' H') : ExtW γ H γ' H' := by
  have nn : ∀ {a : Addr}, H1 a = none → H a = none := fun {a} q => by
    cases z : H a with
    | none => rfl
    | some o =>
      obtain ⟨o', z'⟩ := e.dom a o z
      rw [q] at z'
      cases z'
  refine ⟨e.pre.trans e2.pre, fun a h => e2.bsub a (e.bsub a h), fun a h => ?_, fun a o h n => e2.keep a o (e.keep a o h n) (e.off h n), fun a h n => ?_, fun a o h => ?_⟩
  · rcases e2.bnew a h with q | q
    · exact e.bnew a q
    · exact .inr (nn q)
  · by_cases h1 : a ∈ γ1.ρ
    · exact e.new a h1 n
    · exact nn (e2.new a h h1)
  · obtain ⟨o1, h1⟩ := e.dom a o h
    exact e2.dom a o1 h1
theorem ExtW.rd (e : ExtW γ H γ' H') {a : Addr} {u : HO} (h : Rd H a u) (f : γ.Off a) : Rd H' a u ∧ γ'.Off a := by
  rcases h with h | ⟨o, h⟩
  · exact ⟨.inl (e.keep _ _ h f), e.off h f⟩
  · exact ⟨.inr ⟨o, e.keep _ _ h f⟩, e.off h f⟩
theorem FrT.monoW (e : ExtW γ H γ' H') {a : Addr} {xs : List V} (h : FrT K γ H a xs) : FrT K γ' H' a xs := by
  rcases h with ⟨h, f⟩ | h
  · exact .inl (e.rd h f)
  · exact .inr h
theorem FrS.monoW (e : ExtW γ H γ' H') {a : Addr} {xs : List V} (h : FrS K γ H a xs) : FrS K γ' H' a xs := by
  rcases h with ⟨⟨o, h⟩, f⟩ | h
  · exact .inl ⟨⟨o, e.keep _ _ h f⟩, e.off h f⟩
  · exact .inr h
mutual
theorem Rep.monoW (e : ExtW γ H γ' H') : ∀ {w : W} {v : V}, Rep K G γ H w v → Rep K G γ' H' w v
  | _, _, .non => .non
  | _, _, .bl b => .bl b
  | _, _, .int i => .int i
  | _, _, .str s h1 h2 => .str s h1 h2
  | _, _, .tup h r => .tup (h.monoW e) (Reps.monoW e r)
  | _, _, .lst h f r => .lst (e.keep _ _ h f) (e.off h f) (Reps.monoW e r)
  | _, _, .scr h r => .scr (h.monoW e) (Reps.monoW e r)
  | _, _, .ref h => .ref (by
      obtain ⟨t, q⟩ := e.pre
      rw [← q]
      rw [List.getElem?_append_left (List.getElem?_eq_some_iff.mp h).1]
      exact h)
  | _, _, .fn f => .fn f
  | _, _, .dct d f r => .dct (d.keep fun o h => e.keep _ _ h f) (e.off d.some.choose_spec f) (Reps.monoW e r)
  | _, _, .exc h f r => .exc (e.keep _ _ h f) (e.off h f) (Rep.monoW e r)
theorem Reps.monoW (e : ExtW γ H γ' H') : ∀ {ws : List W} {vs : List V}, Reps K G γ H ws vs → Reps K G γ' H' ws vs
  | _, _, .nil => .nil
  | _, _, .cons r t => .cons (Rep.monoW e r) (Reps.monoW e t)
end
mutual
theorem Rep.less {γ' : Ga} (f : ∀ a o, H a = some o → γ.Off a → γ'.Off a) : ∀ {w : W} {v : V}, w.pure = true → Rep K G γ H w v → Rep K G γ' H w v
  | _, _, _, .non => .non
  | _, _, _, .bl b => .bl b
  | _, _, _, .int i => .int i
  | _, _, _, .str s h1 h2 => .str s h1 h2
  | _, _, p, .tup h r => .tup (by
      rcases h with ⟨h, q⟩ | h
      · refine .inl ⟨h, ?_⟩
        rcases h with h | ⟨o, h⟩
        · exact f _ _ h q
        · exact f _ _ h q
      · exact .inr h) (Reps.less f (by simpa [W.pure] using p) r)
  | _, _, p, .lst h q r => .lst h (f _ _ h q) (Reps.less f (by simpa [W.pure] using p) r)
  | _, _, p, .scr h r => .scr (by
      rcases h with ⟨⟨o, h⟩, q⟩ | h
      · exact .inl ⟨⟨o, h⟩, f _ _ h q⟩
      · exact .inr h) (Reps.less f (by simpa [W.pure] using p) r)
  | _, _, p, .ref h => by simp [W.pure] at p
  | _, _, _, .fn f => .fn f
  | _, _, p, .dct d q r => .dct d (f _ _ d.some.choose_spec q) (Reps.less f (by
      rw [W.pure, Bool.and_eq_true] at p
      exact p.2) r)
theorem Reps.less {γ' : Ga} (f : ∀ a o, H a = some o → γ.Off a → γ'.Off a) : ∀ {ws : List W} {vs : List V}, pures ws = true → Reps K G γ H ws vs → Reps K G γ' H ws vs
  | _, _, _, .nil => .nil
  | _, _, p, .cons r t => by
    rw [pures, Bool.and_eq_true] at p
    exact .cons (Rep.less f p.1 r) (Reps.less f p.2 t)
end
theorem Reps.length : ∀ {ws : List W} {vs : List V}, Reps K G γ H ws vs → ws.length = vs.length
  | _, _, .nil => rfl
  | _, _, .cons _ t => by rw [List.length_cons, List.length_cons, Reps.length t]
theorem Reps.get : ∀ {ws : List W} {vs : List V}, Reps K G γ H ws vs → ∀ {i : Nat} {w : W}, ws[i]? = some w → ∃ v, vs[i]? = some v ∧ Rep K G γ H w v
  | _, _, .nil, _, _, h => by simp at h
  | _, _, .cons r t, 0, w, h => by
    simp at h
    subst h
    exact ⟨_, rfl, r⟩
  | _, _, .cons r t, i + 1, w, h => by
    obtain ⟨v, e, q⟩ := Reps.get t (i := i) (w := w) (by simpa using h)
    exact ⟨v, by simpa using e, q⟩
theorem Reps.append : ∀ {ws ws' : List W} {vs vs' : List V}, Reps K G γ H ws vs → Reps K G γ H ws' vs' → Reps K G γ H (ws ++ ws') (vs ++ vs')
  | _, _, _, _, .nil, q => q
  | _, _, _, _, .cons r t, q => .cons r (Reps.append t q)
theorem Reps.one {w : W} {v : V} (r : Rep K G γ H w v) : Reps K G γ H [w] [v] := .cons r .nil
theorem Reps.take : ∀ {ws : List W} {vs : List V} (n : Nat), Reps K G γ H ws vs → Reps K G γ H (ws.take n) (vs.take n)
  | _, _, 0, _ => .nil
  | _, _, _ + 1, .nil => .nil
  | _, _, n + 1, .cons r t => .cons r (Reps.take n t)
theorem Reps.drop : ∀ {ws : List W} {vs : List V} (n : Nat), Reps K G γ H ws vs → Reps K G γ H (ws.drop n) (vs.drop n)
  | _, _, 0, r => r
  | _, _, _ + 1, .nil => .nil
  | _, _, n + 1, .cons r t => Reps.drop n t
theorem Reps.set {w : W} {v : V} (r : Rep K G γ H w v) : ∀ {ws : List W} {vs : List V} (i : Nat), Reps K G γ H ws vs → Reps K G γ H (ws.set i w) (vs.set i v)
  | _, _, _, .nil => .nil
  | _, _, 0, .cons _ t => .cons r t
  | _, _, i + 1, .cons q t => .cons q (Reps.set r i t)
end
end Mp
namespace Mp
open PySem PySem.Spec PyProof.Rows L2
def CellOk (K : PySem.W.Frag) (G : Gs) (γ : Ga) (H : Hp) : Cell → Addr → Prop
  | .lst xs, a => pures xs = true ∧ ∃ vs, H a = some (.lst vs) ∧ Reps K G γ H xs vs
  | .dct ks ws, a => pures ks = true ∧ pures ws = true ∧ ∃ us, DctAt H a ks us ∧ Reps K G γ H ws us
  | .ins _ _, _ => False
theorem CellOk.to {K : PySem.W.Frag} {G : Gs} {γ γ' : Ga} {H H' : Hp} {c : Cell} {a : Addr} (q : CellOk K G γ H c a) (k : ∀ o, H a = some o → H' a = some o) (m : ∀ {ws : List W} {vs : List V}, pures ws = true → Reps K G γ H ws vs → Reps K G γ' H' ws vs) : CellOk K G γ' H' c a := by
  cases c with
  | lst xs =>
    obtain ⟨p, vs, hv, r⟩ := q
    exact ⟨p, vs, k _ hv, m p r⟩
  | dct ks ws =>
    obtain ⟨p0, p, us, d, r⟩ := q
    exact ⟨p0, p, us, d.keep k, m p r⟩
  | ins _ _ => exact q.elim
structure StoreOk (K : PySem.W.Frag) (G : Gs) (γ : Ga) (H : Hp) (S : Store) : Prop where
  len : γ.ρ.length = S.length
  nd : γ.ρ.Nodup
  cell : ∀ (i : Nat) (c : Cell) (a : Addr), S[i]? = some c → γ.ρ[i]? = some a → CellOk K G γ H c a
  bt : ∀ a ∈ γ.β, a ∉ γ.ρ ∧ ∃ o, H a = some o ∧ ∀ xs, o ≠ .tup xs
def EnvOk (K : PySem.W.Frag) (G : Gs) (γ : Ga) (H : Hp) (η : Env) (σ : L2.St) : Prop := η.length = σ.length ∧ ∀ (i : Nat) (w : W), η[i]? = some (some w) → ∃ v, σ[i]? = some (some v) ∧ Rep K G γ H w v
end Mp
namespace Mp
open PySem PySem.Spec PyProof.Rows L2
section
variable {K : PySem.W.Frag} {G : Gs} {γ γ' : Ga} {H H' : Hp} {S : Store} {η : Env} {σ : L2.St}
theorem EnvOk.mono (e : Ext γ H γ' H') (h : EnvOk K G γ H η σ) : EnvOk K G γ' H' η σ := ⟨h.1, fun i w q => by
  obtain ⟨v, e1, r⟩ := h.2 i w q
  exact ⟨v, e1, r.mono e⟩⟩
theorem StoreOk.tracked0 (s : StoreOk K G γ H S) {a : Addr} (h : a ∈ γ.ρ) : ∃ o, H a = some o ∧ ∀ xs, o ≠ .tup xs := by
  obtain ⟨i, hi, e⟩ := List.mem_iff_getElem.mp h
  have hs : i < S.length := by rw [← s.len]; exact hi
  have q := s.cell i S[i] a (List.getElem?_eq_getElem hs) (by rw [← e]; exact List.getElem?_eq_getElem hi)
  cases hc : S[i] with
  | lst xs => rw [hc] at q; obtain ⟨_, vs, hv, _⟩ := q; exact ⟨_, hv, fun _ z => nomatch z⟩
  | dct _ _ => rw [hc] at q; obtain ⟨_, _, us, d, _⟩ := q; exact d.someN
  | ins _ _ => rw [hc] at q; exact q.elim
theorem StoreOk.tracked (s : StoreOk K G γ H S) {a : Addr} (h : a ∈ γ.ρ) : ∃ o, H a = some o := let ⟨o, e, _⟩ := s.tracked0 h; ⟨o, e⟩
theorem StoreOk.fresh (s : StoreOk K G γ H S) {p : Addr} (h : H p = none) : γ.Off p := by
  refine ⟨fun z => ?_, fun z => ?_⟩
  · obtain ⟨o, e⟩ := s.tracked z
    rw [h] at e
    cases e
  · obtain ⟨_, o, e, _⟩ := s.bt p z
    rw [h] at e
    cases e
/-- a new object beside -/
theorem Ext.upd (s : StoreOk K G γ H S) {p : Addr} {o : HO} (h : H p = none) : Ext γ H γ (L2.upd H p o) :=
  ⟨List.prefix_refl _, fun _ h => h, fun _ h => .inl h, fun a u e _ => by rw [upd_ne (ne_of_none e h)]; exact e, fun _ h1 h2 => absurd h1 h2, fun a u e => ⟨u, by rw [upd_ne (ne_of_none e h)]; exact e⟩⟩
theorem StoreOk.upd (s : StoreOk K G γ H S) {p : Addr} {o : HO} (h : H p = none) : StoreOk K G γ (L2.upd H p o) S := by
  have e := Ext.upd (K := K) (G := G) s (o := o) h
  refine ⟨s.len, s.nd, fun i c a hc ha => ?_, fun a ha => ⟨(s.bt a ha).1, ?_⟩⟩
  · have q := s.cell i c a hc ha
    have mem : a ∈ γ.ρ := List.mem_of_getElem? ha
    cases c with
    | lst xs =>
      obtain ⟨p1, vs, hv, r⟩ := q
      exact ⟨p1, vs, by rw [upd_ne (ne_of_none hv h)]; exact hv, r.mono e⟩
    | dct _ _ => exact q.to (fun o e' => by rw [upd_ne (ne_of_none e' h)]; exact e') fun _ r => r.mono e
    | ins _ _ => exact q.elim
  · obtain ⟨o', q, nt⟩ := (s.bt a ha).2
    exact ⟨o', by rw [upd_ne (ne_of_none q h)]; exact q, nt⟩
/-- a new list of the store -/
def Ga.push (γ : Ga) (p : Addr) : Ga := ⟨γ.ρ ++ [p], γ.β⟩
theorem Ext.push (s : StoreOk K G γ H S) {p : Addr} {o : HO} (h : H p = none) : Ext γ H (γ.push p) (L2.upd H p o) :=
  ⟨List.prefix_append _ _, fun _ h => h, fun _ h => .inl h, fun a u e _ => by rw [upd_ne (ne_of_none e h)]; exact e, fun a h1 h2 => by
    rcases List.mem_append.mp h1 with z | z
    · exact absurd z h2
    · have z' : a = p := by simpa using z
      rw [z']; exact h, fun a u e => ⟨u, by rw [upd_ne (ne_of_none e h)]; exact e⟩⟩
theorem StoreOk.push (s : StoreOk K G γ H S) {p : Addr} {xs : List W} {vs : List V} (h : H p = none) (hp : pures xs = true) (r : Reps K G γ H xs vs) : StoreOk K G (γ.push p) (L2.upd H p (.lst vs)) (S ++ [.lst xs]) := by
  have e := Ext.push (K := K) (G := G) s (o := .lst vs) h
  have off := s.fresh h
  refine ⟨by simp [Ga.push, s.len], ?_, fun i c a hc ha => ?_, fun a ha => ?_⟩
  · show (γ.ρ ++ [p]).Nodup
    rw [List.nodup_append]
    exact ⟨s.nd, by simp, fun a ha b hb => by
      have z : b = p := by simpa using hb
      rw [z]
      rintro rfl
      exact off.1 ha⟩
  · by_cases hi : i < S.length
    · rw [List.getElem?_append_left hi] at hc
      have hi' : i < γ.ρ.length := by rw [s.len]; exact hi
      have ha' : γ.ρ[i]? = some a := by
        have z : (γ.ρ ++ [p])[i]? = some a := ha
        rwa [List.getElem?_append_left hi'] at z
      have q := s.cell i c a hc ha'
      cases c with
      | lst ys =>
        obtain ⟨p1, us, hv, r'⟩ := q
        exact ⟨p1, us, by rw [upd_ne (ne_of_none hv h)]; exact hv, r'.mono e⟩
      | dct _ _ => exact q.to (fun o e' => by rw [upd_ne (ne_of_none e' h)]; exact e') fun _ r => r.mono e
      | ins _ _ => exact q.elim
    · have hlt := (List.getElem?_eq_some_iff.mp hc).1
      rw [List.length_append, List.length_singleton] at hlt
      have ei : i = S.length := by omega
      subst ei
      rw [List.getElem?_append_right (Nat.le_refl _), Nat.sub_self] at hc
      have hc' : Cell.lst xs = c := by simpa using hc
      subst hc'
      have ha' : p = a := by
        have z : (γ.ρ ++ [p])[S.length]? = some a := ha
        rw [← s.len, List.getElem?_append_right (Nat.le_refl _), Nat.sub_self] at z
        simpa using z
      subst ha'
      exact ⟨hp, vs, upd_same, r.mono e⟩
  · obtain ⟨n, o, q, nt⟩ := s.bt a ha
    refine ⟨fun z => ?_, o, by rw [upd_ne (ne_of_none q h)]; exact q, nt⟩
    rcases List.mem_append.mp z with z | z
    · exact n z
    · have z' : a = p := by simpa using z
      rw [z', h] at q
      cases q
/-- a list of the store is changed -/
theorem StoreOk.write (s : StoreOk K G γ H S) {i : Nat} {a : Addr} {xs ys : List W} {us : List V} (hc : S[i]? = some (.lst xs)) (ha : γ.ρ[i]? = some a) (hp : pures ys = true) (r : Reps K G γ H ys us) :
    Ext γ H γ (L2.upd H a (.lst us)) ∧ StoreOk K G γ (L2.upd H a (.lst us)) (S.set i (.lst ys)) := by
  have mem : a ∈ γ.ρ := List.mem_of_getElem? ha
  have e : Ext γ H γ (L2.upd H a (.lst us)) := ⟨List.prefix_refl _, fun _ h => h, fun _ h => .inl h, fun b u q n => by
    have z : b ≠ a := fun z => n (by rw [z]; exact mem)
    rw [upd_ne z]; exact q, fun _ h1 h2 => absurd h1 h2, fun b u q => by
    by_cases z : b = a
    · exact ⟨_, by rw [z]; exact upd_same⟩
    · exact ⟨u, by rw [upd_ne z]; exact q⟩⟩
  refine ⟨e, by rw [List.length_set]; exact s.len, s.nd, fun j c b hc' hb => ?_, fun b hb => ?_⟩
  · by_cases hj : i = j
    · subst hj
      rw [List.getElem?_set_self (List.getElem?_eq_some_iff.mp hc).1] at hc'
      have z : Cell.lst ys = c := Option.some.inj hc'
      subst z
      rw [ha] at hb
      cases hb
      exact ⟨hp, us, upd_same, r.mono e⟩
    · rw [List.getElem?_set_ne hj] at hc'
      have q := s.cell j c b hc' hb
      have hne : b ≠ a := fun z => by
        rw [z] at hb
        obtain ⟨h1, e1⟩ := List.getElem?_eq_some_iff.mp ha
        obtain ⟨h2, e2⟩ := List.getElem?_eq_some_iff.mp hb
        exact hj ((List.getElem_inj s.nd).mp (e1.trans e2.symm))
      cases c with
      | lst zs =>
        obtain ⟨p1, vs, hv, r'⟩ := q
        exact ⟨p1, vs, by rw [upd_ne hne]; exact hv, r'.mono e⟩
      | dct _ _ => exact q.to (fun o e' => by rw [upd_ne hne]; exact e') fun _ r => r.mono e
      | ins _ _ => exact q.elim
  · obtain ⟨n, o, q, nt⟩ := s.bt b hb
    exact ⟨n, o, by rw [upd_ne (fun z => n (by rw [z]; exact mem))]; exact q, nt⟩
end
end Mp
namespace Mp
open PySem PySem.Spec PyProof.Rows L2
/-- what an exception is wished to be -/
abbrev Wx := Value → Option Addr → Hp → Prop
abbrev Rel (α β : Type) := Ga → Hp → α → β → Prop
def Post {α β : Type} (K : PySem.W.Frag) (G : Gs) (rel : Rel α β) (wx : Wx) (γ : Ga) (H : Hp) (r : R α) (Q : β → Hp → Prop) : Prop := match r with
  | .ok w S' => ∀ v γ' H', Ext γ H γ' H' → rel γ' H' w v → StoreOk K G γ' H' S' → Q v H'
  | .exc c x S' => ∀ v d γ' H', Ext γ H γ' H' → Rep K G γ' H' x v → StoreOk K G γ' H' S' → H' d = some (.xd [(G.nm c, v)]) → γ'.Off d → wx (.ref (G.ca c)) (some d) H'
  | .stuck => False
end Mp
namespace Mp
open PySem PySem.Spec PyProof.Rows L2
section
variable {K : PySem.W.Frag} {G : Gs} {γ γ1 : Ga} {H H1 : Hp} {wx : Wx} {α β α' β' : Type} {rel : Rel α β} {rel' : Rel α' β'}
theorem Post.base {r : R α} {Q : β → Hp → Prop} (e : Ext γ H γ1 H1) (h : Post K G rel wx γ H r Q) : Post K G rel wx γ1 H1 r Q := by
  cases r with
  | ok w S' => exact fun v γ' H' e' q s => h v γ' H' (e.trans e') q s
  | exc c x S' => exact fun v d γ' H' e' q s hd ho => h v d γ' H' (e.trans e') q s hd ho
  | stuck => exact h
theorem Post.seq {r : R α} {k : α → Store → R α'} {Q : β' → Hp → Prop} (h : Post K G rel' wx γ H (r.bind k) Q) :
    Post K G rel wx γ H r fun v H1 => ∃ w S1 γ1, Ext γ H γ1 H1 ∧ rel γ1 H1 w v ∧ StoreOk K G γ1 H1 S1 ∧ Post K G rel' wx γ1 H1 (k w S1) Q := by
  cases r with
  | ok w S' => exact fun v γ' H' e q s => ⟨w, S', γ', e, q, s, Post.base e h⟩
  | exc c x S' => exact h
  | stuck => exact h
theorem Post.imp {r : R α} {Q Q' : β → Hp → Prop} (h : Post K G rel wx γ H r Q) (i : ∀ v H', Q v H' → Q' v H') : Post K G rel wx γ H r Q' := by
  cases r with
  | ok w S' => exact fun v γ' H' e q s => i _ _ (h v γ' H' e q s)
  | exc c x S' => exact h
  | stuck => exact h
end
end Mp
namespace Mp
open PySem PySem.Spec PyProof.Rows L2
abbrev relB : Rel Bool Bool := fun _ _ b c => b = c
def tOf (K : PySem.W.Frag) (G : Gs) (Wi : WX) (f : ME) : TE := fun σ H Q => ∃ η S γ, EnvOk K G γ H η σ ∧ StoreOk K G γ H S ∧ Post K G (Rep K G) (fun c d H' => Wi c d σ H') γ H (f η S) Q
def ttOf (K : PySem.W.Frag) (G : Gs) (Wi : WX) (f : MT) : TT := fun σ H Q => ∃ η S γ, EnvOk K G γ H η σ ∧ StoreOk K G γ H S ∧ Post K G relB (fun c d H' => Wi c d σ H') γ H (f η S) Q
def taOf (K : PySem.W.Frag) (G : Gs) (Wi : WX) (f : MA) : TA := fun σ H Q => ∃ η S γ, EnvOk K G γ H η σ ∧ StoreOk K G γ H S ∧ Post K G (Reps K G) (fun c d H' => Wi c d σ H') γ H (f η S) Q
structure SE (X : Cx) (G : Gs) (e : Expr) (f : ME) : Prop where
  run : ∀ Wi, Takes X Wi → PE X e (tOf X.K G Wi f)
structure ST (X : Cx) (G : Gs) (e : Expr) (f : MT) : Prop where
  run : ∀ Wi, Takes X Wi → PT X e (ttOf X.K G Wi f)
structure SW (X : Cx) (G : Gs) (e : Expr) (f : MT) : Prop where
  run : ∀ Wi, Takes X Wi → PW X e (ttOf X.K G Wi f)
structure SA (X : Cx) (G : Gs) (es : List Expr) (f : MA) : Prop where
  run : ∀ Wi, Takes X Wi → PA X es (taOf X.K G Wi f)
theorem _root_.L2.PE.imp {X : Cx} {e : Expr} {t t' : TE} (h : PE X e t) (i : ∀ σ H Q, t' σ H Q → t σ H Q) : PE X e t' := ⟨fun pins s σ H Q I q => h.run pins s σ H Q I (i _ _ _ q)⟩
theorem _root_.L2.PT.imp {X : Cx} {e : Expr} {t t' : TT} (h : PT X e t) (i : ∀ σ H Q, t' σ H Q → t σ H Q) : PT X e t' := ⟨fun pins s σ H Q I q => h.run pins s σ H Q I (i _ _ _ q)⟩
theorem _root_.L2.PW.imp {X : Cx} {e : Expr} {t t' : TT} (h : PW X e t) (i : ∀ σ H Q, t' σ H Q → t σ H Q) : PW X e t' := ⟨fun wh pins s σ H Q I q => h.run wh pins s σ H Q I (i _ _ _ q)⟩
theorem _root_.L2.PA.imp {X : Cx} {e : List Expr} {t t' : TA} (h : PA X e t) (i : ∀ σ H Q, t' σ H Q → t σ H Q) : PA X e t' := ⟨fun pos pins s σ H Q I q => h.run pos pins s σ H Q I (i _ _ _ q)⟩
theorem _root_.L2.PS.imp {X : Cx} {e : Stmt} {t t' : TS} (h : PS X e t) (i : ∀ D σ H, t' D σ H → t D σ H) : PS X e t' := ⟨fun pins s σ H D I q => h.run pins s σ H D I (i _ _ _ q)⟩
theorem _root_.L2.PSs.imp {X : Cx} {e : List Stmt} {t t' : TS} (h : PSs X e t) (i : ∀ D σ H, t' D σ H → t D σ H) : PSs X e t' := ⟨fun pins s σ H D I q => h.run pins s σ H D I (i _ _ _ q)⟩
theorem _root_.L2.OpR.imp {X : Cx} {f : Value → Value → Sem Value} {r r' : R2} (h : OpR X f r) (i : ∀ x y H Q, r' x y H Q → r x y H Q) : OpR X f r' := fun pins s σ H x y v u Q I rx ry q => h pins s σ H x y v u Q I rx ry (i _ _ _ _ q)
end Mp
namespace Mp
open PySem PySem.Spec PyProof.Rows L2
theorem bigLine_eq : bigLine = sizeLine := by rw [sizeLine_eq]; rfl
end Mp
namespace Mp
open PySem PySem.Spec PyProof.Rows L2
section
variable {K : PySem.W.Frag} {G : Gs} {γ γ' : Ga} {H H' : Hp} {S : Store}
theorem lstOf_rep {w : W} {v : V} {xs : List W} (s : StoreOk K G γ H S) (h : lstOf S w = some xs) (r : Rep K G γ H w v) : ∃ a vs, v = .ref a ∧ H a = some (.lst vs) ∧ Reps K G γ H xs vs := by
  cases r with
  | lst h1 f q =>
    have e : _ = xs := Option.some.inj h
    subst e
    exact ⟨_, _, rfl, h1, q⟩
  | @ref i a h1 =>
    have h' : (match S[i]? with
      | some (.lst xs) => some xs
      | _ => none) = some xs := h
    split at h'
    · rename_i ys hc
      have e : ys = xs := Option.some.inj h'
      subst e
      obtain ⟨_, vs, hv, q⟩ := s.cell i _ a hc h1
      exact ⟨a, vs, rfl, hv, q⟩
    · cases h'
  | _ => cases h
theorem plainL_rep {w : W} {v : V} (s : StoreOk K G γ H S) (r : Rep K G γ H w v) : (∃ xs a vs, plainL S w = .lst xs ∧ v = .ref a ∧ H a = some (.lst vs) ∧ Reps K G γ H xs vs) ∨ plainL S w = w := by
  unfold plainL
  cases h : lstOf S w with
  | none => exact .inr rfl
  | some xs =>
    obtain ⟨a, vs, e, hv, q⟩ := lstOf_rep s h r
    exact .inl ⟨xs, a, vs, rfl, e, hv, q⟩
mutual
def toD : W → PyData
  | .bl b => .bool b
  | .int i => .int i
  | .str s => .str ⟨s.toArray⟩
  | .tup xs => .tuple (toDs xs)
  | .lst xs => .list (toDs xs)
  | .non => .none
  | .scr _ => .none
  | .dct _ _ => .none
  | .ref _ => .none
  | .fn _ => .none
  | .cls _ => .none
  | .exc _ _ => .none
def toDs : List W → List PyData
  | [] => []
  | x :: xs => toD x :: toDs xs
end
mutual
theorem dp_of : ∀ (w : W) (v : V) (k : Nat), okD w k = true → Rep K G γ H w v → Dp K H v (toD w)
  | .non, _, _, _, .non => .non
  | .bl b, _, _, _, .bl _ => .bl b
  | .int i, _, _, _, .int _ => .int i
  | .str s, _, _, _, .str _ _ _ => .str _
  | .tup xs, _, k, o, .tup h q => by
    unfold okD at o
    exact .tup h.sq (dps_of xs _ _ (Bool.and_eq_true_iff.mp o).2 q)
  | .lst xs, _, k, o, .lst h f q => by
    unfold okD at o
    exact .lst (SqL.of h) (dps_of xs _ _ (Bool.and_eq_true_iff.mp o).2 q)
theorem dps_of : ∀ (ws : List W) (vs : List V) (k : Nat), okDs ws k = true → Reps K G γ H ws vs → DpAll K H vs (toDs ws)
  | [], _, _, _, .nil => .nil
  | w :: ws, _, k, o, .cons r t => by
    unfold okDs at o
    obtain ⟨o1, o2⟩ := Bool.and_eq_true_iff.mp o
    exact .cons (dp_of w _ k o1 r) (dps_of ws _ k o2 t)
end
theorem strOk_of {s : List Nat} (h : ∀ c ∈ s, c < 0x110000) : PySem.PyData.canLay0 (.str ⟨s.toArray⟩) = true := by
  unfold PySem.PyData.canLay0 PySem.PyData.strOk
  simp
  exact h
mutual
theorem lay_of : ∀ (w : W) (v : V) (k : Nat), okD w k = true → Rep K G γ H w v → (toD w).canLay0 = true ∧ (toD w).depth ≤ k
  | .non, _, _, _, .non => ⟨by simp [toD, PyData.canLay0], by simp [toD, PyData.depth]⟩
  | .bl b, _, _, _, .bl _ => ⟨by simp [toD, PyData.canLay0], by simp [toD, PyData.depth]⟩
  | .int i, _, _, _, .int _ => ⟨by simp [toD, PyData.canLay0], by simp [toD, PyData.depth]⟩
  | .str s, _, _, _, .str _ h _ => ⟨by unfold toD; exact strOk_of h, by simp [toD, PyData.depth]⟩
  | .tup xs, _, k, o, .tup h q => by
    unfold okD at o
    obtain ⟨o1, o2⟩ := Bool.and_eq_true_iff.mp o
    have o1 : 0 < k := of_decide_eq_true o1
    obtain ⟨h1, h2⟩ := lays_of xs _ _ o2 q
    exact ⟨by simp only [toD, PyData.canLay0]; exact h1, by simp only [toD, PyData.depth]; omega⟩
  | .lst xs, _, k, o, .lst h f q => by
    unfold okD at o
    obtain ⟨o1, o2⟩ := Bool.and_eq_true_iff.mp o
    have o1 : 0 < k := of_decide_eq_true o1
    obtain ⟨h1, h2⟩ := lays_of xs _ _ o2 q
    exact ⟨by simp only [toD, PyData.canLay0]; exact h1, by simp only [toD, PyData.depth]; omega⟩
theorem lays_of : ∀ (ws : List W) (vs : List V) (k : Nat), okDs ws k = true → Reps K G γ H ws vs → PyData.canLayAll0 (toDs ws) = true ∧ PyData.depthAll (toDs ws) ≤ k
  | [], _, _, _, .nil => ⟨by simp [toDs, PyData.canLayAll0], by simp [toDs, PyData.depthAll]⟩
  | w :: ws, _, k, o, .cons r t => by
    unfold okDs at o
    obtain ⟨o1, o2⟩ := Bool.and_eq_true_iff.mp o
    obtain ⟨a1, a2⟩ := lay_of w _ k o1 r
    obtain ⟨b1, b2⟩ := lays_of ws _ k o2 t
    exact ⟨by simp only [toDs, PyData.canLayAll0, a1, b1, Bool.and_self], by simp only [toDs, PyData.depthAll]; omega⟩
end
theorem str_beqW (x y : List Nat) : ((⟨x.toArray⟩ : Str) == ⟨y.toArray⟩) = (x == y) := by
  rw [← SeqAt.str_beq]
mutual
theorem eqv_of : ∀ (a b : W) (k j : Nat), okD a k = true → okD b j = true → PyData.eqv (toD a) (toD b) = eqW a b
  | .non, b, _, _, _, h => by cases b <;> simp [toD, PyData.eqv, eqW, okD] at h ⊢
  | .bl _, b, _, _, _, h => by cases b <;> simp [toD, PyData.eqv, eqW, okD] at h ⊢
  | .int _, b, _, _, _, h => by cases b <;> simp [toD, PyData.eqv, eqW, okD] at h ⊢
  | .str _, b, _, _, _, h => by
    cases b <;> simp only [toD, PyData.eqv, eqW, okD] at h ⊢ <;> first | exact str_beqW _ _ | cases h
  | .tup xs, b, k, j, g, h => by
    cases b <;> simp only [toD, PyData.eqv, eqW, okD] at h ⊢ <;> first | exact eqvs_of xs _ _ _ (Bool.and_eq_true_iff.mp (by unfold okD at g; exact g)).2 (Bool.and_eq_true_iff.mp h).2 | cases h
  | .lst xs, b, k, j, g, h => by
    cases b <;> simp only [toD, PyData.eqv, eqW, okD] at h ⊢ <;> first | exact eqvs_of xs _ _ _ (Bool.and_eq_true_iff.mp (by unfold okD at g; exact g)).2 (Bool.and_eq_true_iff.mp h).2 | cases h
  | .scr _, _, _, _, g, _ => by simp [okD] at g
  | .dct _ _, _, _, _, g, _ => by simp [okD] at g
  | .ref _, _, _, _, g, _ => by simp [okD] at g
  | .fn _, _, _, _, g, _ => by simp [okD] at g
  | .cls _, _, _, _, g, _ => by simp [okD] at g
  | .exc _ _, _, _, _, g, _ => by simp [okD] at g
theorem eqvs_of : ∀ (a b : List W) (k j : Nat), okDs a k = true → okDs b j = true → PyData.eqvAll (toDs a) (toDs b) = eqWs a b
  | [], [], _, _, _, _ => by simp [toDs, PyData.eqvAll, eqWs]
  | [], _ :: _, _, _, _, _ => by simp [toDs, PyData.eqvAll, eqWs]
  | _ :: _, [], _, _, _, _ => by simp [toDs, PyData.eqvAll, eqWs]
  | x :: xs, y :: ys, k, j, g, h => by
    unfold okDs at g h
    obtain ⟨g1, g2⟩ := Bool.and_eq_true_iff.mp g
    obtain ⟨h1, h2⟩ := Bool.and_eq_true_iff.mp h
    simp only [toDs, PyData.eqvAll, eqWs]
    rw [eqv_of x y k j g1 h1, eqvs_of xs ys k j g2 h2]
end
theorem dp_plain {w : W} {v : V} (s : StoreOk K G γ H S) (r : Rep K G γ H w v) (o : okD (plainL S w) 30 = true) : Dp K H v (toD (plainL S w)) ∧ SeqAt.shaped (toD (plainL S w)) = true := by
  have fin : ∀ {k : Nat} {d : PyData}, d.canLay0 = true → d.depth ≤ 30 → SeqAt.shaped d = true := fun h1 h2 => by
    unfold SeqAt.shaped
    rw [h1, decide_eq_true (show _ ≤ 64 by omega)]
    rfl
  rcases plainL_rep s r with ⟨xs, a, vs, e, rfl, hv, q⟩ | e
  · rw [e] at o ⊢
    have o2 := o
    unfold okD at o2
    obtain ⟨o3, o4⟩ := Bool.and_eq_true_iff.mp o2
    obtain ⟨l1, l2⟩ := lays_of xs _ _ o4 q
    refine ⟨by unfold toD; exact .lst (SqL.of hv) (dps_of xs _ _ o4 q), fin (k := 0) (by simp only [toD, PyData.canLay0]; exact l1) (by simp only [toD, PyData.depth]; omega)⟩
  · rw [e] at o ⊢
    obtain ⟨l1, l2⟩ := lay_of w v 30 o r
    exact ⟨dp_of w v 30 o r, fin (k := 0) l1 l2⟩
end
end Mp
namespace Mp
open PySem PySem.Spec PyProof.Rows L2
def rOf (K : PySem.W.Frag) (G : Gs) (o : O2) : R2 := fun x y H Q => ∃ wx wy S γ w, Rep K G γ H wx x ∧ Rep K G γ H wy y ∧ StoreOk K G γ H S ∧ o wx wy S = some w ∧
  ∀ v γ' H', Ext γ H γ' H' → Rep K G γ' H' w v → StoreOk K G γ' H' S → Q v H'
end Mp
namespace Mp
open PySem PySem.Spec PyProof.Rows L2
section
variable {X : Cx} {G : Gs}
theorem o2_add : OpR X (binaryOp .Add) (rOf X.K G opAdd) := by
  refine (OpR.or op_add (OpR.or op_add_str (OpR.or op_cat op_catA))).imp ?_
  rintro x y H Q ⟨wx, wy, S, γ, w, rx, ry, s, h, k⟩
  unfold opAdd at h
  split at h
  · cases rx; cases ry; cases h
    exact .inl ⟨_, _, rfl, rfl, k _ γ H Ext.refl (.int _) s⟩
  · rename_i a b
    cases rx with
    | str _ a1 a2 =>
      cases ry with
      | str _ b1 b2 =>
        split at h
        · rename_i hl
          cases h
          rw [bigLine_eq] at hl
          refine .inr (.inl ⟨_, _, rfl, rfl, ?_, ?_⟩)
          · simpa [Str.length] using hl
          · have e : ((⟨a.toArray⟩ : Str) ++ ⟨b.toArray⟩) = ⟨(a ++ b).toArray⟩ := by
              show Str.mk _ = _
              simp
            rw [e]
            refine k _ γ H Ext.refl (.str _ (fun c hc => ?_) (by simpa using hl)) s
            rcases List.mem_append.mp hc with z | z
            · exact a1 c z
            · exact b1 c z
        · cases h
  · cases rx with
    | @tup a1 v1 x1 f1 q1 =>
      cases ry with
      | @tup a2 v2 x2 f2 q2 =>
        split at h
        · rename_i hl
          cases h
          rw [bigLine_eq] at hl
          have e1 := q1.length
          have e2 := q2.length
          refine .inr (.inr (.inr ⟨a1, a2, v1, v2, rfl, rfl, f1.sq, f2.sq, by omega, fun e => ?_, fun _ e => ?_, fun _ _ p hp => ?_⟩))
          · subst e
            cases q1
            exact k _ γ H Ext.refl (.tup f2 q2) s
          · subst e
            cases q2
            rw [List.append_nil] at k
            exact k _ γ H Ext.refl (.tup f1 q1) s
          · have ex := Ext.upd (K := X.K) (G := G) s (o := .tup (v1 ++ v2)) hp
            exact k _ γ _ ex (.tup (.inl ⟨.inl upd_same, s.fresh hp⟩) ((q1.mono ex).append (q2.mono ex))) (s.upd hp)
        · cases h
  · split at h
    · rename_i xs ys hx hy
      split at h
      · rename_i hl
        cases h
        rw [bigLine_eq] at hl
        obtain ⟨a1, v1, rfl, h1, q1⟩ := lstOf_rep s hx rx
        obtain ⟨a2, v2, rfl, h2, q2⟩ := lstOf_rep s hy ry
        have e1 := q1.length
        have e2 := q2.length
        refine .inr (.inr (.inl ⟨a1, a2, v1, v2, rfl, rfl, h1, h2, by omega, fun p hp => ?_⟩))
        have ex := Ext.upd (K := X.K) (G := G) s (o := .lst (v1 ++ v2)) hp
        exact k _ γ _ ex (.lst upd_same (s.fresh hp) ((q1.mono ex).append (q2.mono ex))) (s.upd hp)
      · cases h
    · cases h
theorem o2_sub : OpR X (binaryOp .Sub) (rOf X.K G opSub) := by
  refine op_sub.imp ?_
  rintro x y H Q ⟨wx, wy, S, γ, w, rx, ry, s, h, k⟩
  unfold opSub at h
  split at h
  · cases rx; cases ry; cases h
    exact ⟨_, _, rfl, rfl, k _ γ H Ext.refl (.int _) s⟩
  · cases h
theorem reps_flat {K : PySem.W.Frag} {γ : Ga} {H : Hp} {xs : List W} {vs : List V} (q : Reps K G γ H xs vs) : ∀ n, Reps K G γ H (List.replicate n xs).flatten (List.replicate n vs).flatten
  | 0 => .nil
  | n + 1 => by
    rw [List.replicate_succ, List.replicate_succ, List.flatten_cons, List.flatten_cons]
    exact q.append (reps_flat q n)
theorem o2_mul : OpR X (binaryOp .Mult) (rOf X.K G opMul) := by
  refine (OpR.or op_mul op_rep).imp ?_
  rintro x y H Q ⟨wx, wy, S, γ, w, rx, ry, s, h, k⟩
  unfold opMul at h
  split at h
  · cases rx; cases ry
    split at h
    · rename_i i j hm
      cases h
      refine .inl ⟨_, _, rfl, rfl, ?_, k _ γ H Ext.refl (.int _) s⟩
      unfold mulOk at hm
      rw [Bool.or_eq_true, decide_eq_true_eq, decide_eq_true_eq] at hm
      unfold CMul
      omega
    · cases h
  · rename_i n _
    split at h
    · rename_i xs hx
      split at h
      · rename_i hl
        cases h
        cases ry
        obtain ⟨a1, v1, rfl, h1, q1⟩ := lstOf_rep s hx rx
        have e1 := q1.length
        obtain ⟨l1, l2, l3⟩ := hl
        rw [bigLine_eq] at l3
        refine .inr ⟨a1, _, v1, rfl, rfl, h1, by omega, by omega, by rw [← e1]; exact l3, fun p hp => ?_⟩
        have ex := Ext.upd (K := X.K) (G := G) s (o := .lst (List.replicate n.toNat v1).flatten) hp
        exact k _ γ _ ex (.lst upd_same (s.fresh hp) (reps_flat (q1.mono ex) _)) (s.upd hp)
      · cases h
    · cases h
  · cases h
theorem o2_div : OpR X (binaryOp .FloorDiv) (rOf X.K G opDiv) := by
  refine op_fdivW.imp ?_
  rintro x y H Q ⟨wx, wy, S, γ, w, rx, ry, s, h, k⟩
  unfold opDiv at h
  split at h
  · cases rx; cases ry
    split at h
    · rename_i hm
      cases h
      exact ⟨_, _, rfl, rfl, hm, k _ γ H Ext.refl (.int _) s⟩
    · cases h
  · cases h
theorem o2_mod : OpR X (binaryOp .Mod) (rOf X.K G opMod) := by
  refine op_mod.imp ?_
  rintro x y H Q ⟨wx, wy, S, γ, w, rx, ry, s, h, k⟩
  unfold opMod at h
  split at h
  · cases rx; cases ry
    split at h
    · rename_i hm
      cases h
      exact ⟨_, _, rfl, rfl, hm, k _ γ H Ext.refl (.int _) s⟩
    · cases h
  · cases h
theorem o2_pow : OpR X (binaryOp .Pow) (rOf X.K G opPow) := by
  refine op_pow.imp ?_
  rintro x y H Q ⟨wx, wy, S, γ, w, rx, ry, s, h, k⟩
  unfold opPow at h
  split at h
  · cases rx; cases ry
    split at h
    · rename_i hm
      cases h
      exact ⟨_, _, rfl, rfl, ⟨hm.1, hm.2.1, by have := hm.2.2; omega⟩, k _ γ H Ext.refl (.int _) s⟩
    · cases h
  · cases h
theorem o2_eq (hu : X.A.units + 64 < cLine) : OpR X (compareOp .Eq) (rOf X.K G opEq) := by
  refine (op_eqD hu).imp ?_
  rintro x y H Q ⟨wx, wy, S, γ, w, rx, ry, s, h, k⟩
  unfold opEq at h
  split at h
  · rename_i hm
    cases h
    obtain ⟨d1, s1⟩ := dp_plain s rx hm.1
    obtain ⟨d2, s2⟩ := dp_plain s ry hm.2
    exact ⟨_, _, d1, d2, s1, s2, by rw [eqv_of _ _ _ _ hm.1 hm.2]; exact k _ γ H Ext.refl (.bl _) s⟩
  · cases h
theorem o2_ne (hu : X.A.units + 64 < cLine) : OpR X (compareOp .NotEq) (rOf X.K G opNe) := by
  refine (op_neD hu).imp ?_
  rintro x y H Q ⟨wx, wy, S, γ, w, rx, ry, s, h, k⟩
  unfold opNe at h
  split at h
  · rename_i hm
    cases h
    obtain ⟨d1, s1⟩ := dp_plain s rx hm.1
    obtain ⟨d2, s2⟩ := dp_plain s ry hm.2
    exact ⟨_, _, d1, d2, s1, s2, by rw [eqv_of _ _ _ _ hm.1 hm.2]; exact k _ γ H Ext.refl (.bl _) s⟩
  · cases h
theorem o2_cmp {op : CmpOp} {p : Int → Int → Bool} {q : List Nat → List Nat → Bool} (h1 : OpR X (compareOp op) (rI0 fun i j => .bl (p i j)))
    (h2 : OpR X (compareOp op) (fun x y H Q => ∃ i j, x = .str i ∧ y = .str j ∧ Q (.bl (q i.cps.toList j.cps.toList)) H)) : OpR X (compareOp op) (rOf X.K G (opCmp p q)) := by
  refine (OpR.or h1 h2).imp ?_
  rintro x y H Q ⟨wx, wy, S, γ, w, rx, ry, s, h, k⟩
  unfold opCmp at h
  split at h
  · cases rx; cases ry; cases h
    exact .inl ⟨_, _, rfl, rfl, k _ γ H Ext.refl (.bl _) s⟩
  · cases rx; cases ry; cases h
    exact .inr ⟨_, _, rfl, rfl, k _ γ H Ext.refl (.bl _) s⟩
  · cases h
theorem o2_lt : OpR X (compareOp .Lt) (rOf X.K G opLt) := o2_cmp op_lt op_lt_str
theorem o2_le : OpR X (compareOp .LtE) (rOf X.K G opLe) := o2_cmp op_le (q := fun a b => !decide (b < a)) op_le_str
theorem o2_gt : OpR X (compareOp .Gt) (rOf X.K G opGt) := o2_cmp op_gt (q := fun a b => decide (b < a)) op_gt_str
theorem o2_ge : OpR X (compareOp .GtE) (rOf X.K G opGe) := o2_cmp op_ge (q := fun a b => !decide (a < b)) op_ge_str
end
end Mp
namespace Mp
open PySem PySem.Spec PyProof.Rows L2
section
variable {K : PySem.W.Frag} {G : Gs} {γ : Ga} {H : Hp} {S : Store} {wx : Wx} {α : Type}
theorem rOf_of {o : O2} {x y : W} {v u : V} {Q : VK} (rx : Rep K G γ H x v) (ry : Rep K G γ H y u) (s : StoreOk K G γ H S) (h : Post K G (Rep K G) wx γ H (rOpt (o x y S) S) Q) : rOf K G o v u H Q := by
  cases e : o x y S with
  | none =>
    rw [e] at h
    exact h.elim
  | some w =>
    rw [e] at h
    exact ⟨x, y, S, γ, w, rx, ry, s, e, fun v γ' H' ex r s' => h v γ' H' ex r s'⟩
/-- a built-in's call -/
def raOf (K : PySem.W.Frag) (G : Gs) (o : OA) : List V → Hp → VK → Prop := fun xs H Q => ∃ ws S γ w, Reps K G γ H ws xs ∧ StoreOk K G γ H S ∧ o ws S = some w ∧
  ∀ v γ' H', Ext γ H γ' H' → Rep K G γ' H' w v → StoreOk K G γ' H' S → Q v H'
theorem raOf_of {o : OA} {ws : List W} {vs : List V} {Q : VK} (rx : Reps K G γ H ws vs) (s : StoreOk K G γ H S) (h : Post K G (Rep K G) wx γ H (rOpt (o ws S) S) Q) : raOf K G o vs H Q := by
  cases e : o ws S with
  | none =>
    rw [e] at h
    exact h.elim
  | some w =>
    rw [e] at h
    exact ⟨ws, S, γ, w, rx, s, e, fun v γ' H' ex r s' => h v γ' H' ex r s'⟩
theorem truthy_rep {w : W} {v : V} {b : Bool} (s : StoreOk K G γ H S) (r : Rep K G γ H w v) (h : truthy S w = some b) : TruV K v H b := by
  have emp : ∀ {xs : List W} {vs : List V}, Reps K G γ H xs vs → xs.isEmpty = vs.isEmpty := fun q => by cases q <;> rfl
  cases r with
  | non => cases h; rfl
  | bl c => cases h; rfl
  | int i => cases h; rfl
  | str l h1 h2 =>
    cases h
    refine ⟨by simpa [Str.length] using h2, ?_⟩
    cases l with
    | nil => rfl
    | cons c l =>
      show true = _
      simp [Str.length]
      omega
  | tup f q =>
    cases h
    exact .inr (.inl ⟨_, f.sq, by rw [emp q]⟩)
  | lst h1 f q =>
    cases h
    exact .inl ⟨_, SqL.of h1, by rw [emp q]⟩
  | @ref i a h1 =>
    have h' : (match S[i]? with
      | some (.lst xs) => some (!xs.isEmpty)
      | _ => none) = some b := h
    split at h'
    · rename_i ys hc
      obtain ⟨_, vs, hv, q⟩ := s.cell i _ a hc h1
      cases h'
      exact .inl ⟨_, SqL.of hv, by rw [emp q]⟩
    · cases h'
  | scr f q => cases h
  | fn f => cases h
  | dct d f r => cases h
  | exc h1 f r => cases h
theorem tru_of {w : W} {v : V} {Q : Bool → Hp → Prop} (r : Rep K G γ H w v) (s : StoreOk K G γ H S) (h : Post K G relB wx γ H (rTruth w S) Q) : ∃ k, TruV K v H k ∧ Q k H := by
  unfold rTruth at h
  cases e : truthy S w with
  | none =>
    rw [e] at h
    exact h.elim
  | some b =>
    rw [e] at h
    exact ⟨b, truthy_rep s r e, h b γ H Ext.refl rfl s⟩
end
end Mp
namespace Mp
open PySem PySem.Spec PyProof.Rows L2
section
variable {X : Cx} {G : Gs} {x : Str} {pos p : Pos} {a b c : Expr} {es rest : List Expr} {f g h : ME} {ga : MA} {t u : MT} {o o' : O2}
theorem se_var (i : Nat) (hN : X.N[i]? = some x := by rfl) (hv : Vis X.env.scope x := by first | exact Or.inl rfl | exact Or.inr (Or.inl rfl) | exact Or.inr (Or.inr rfl)) (hd : (x == ("__debug__" : Str)) = false := by decide)
    (hcd : (x == ("__classdict__" : Str)) = false := by decide) : SE X G (.Name x pos) (mVar i) := by
  refine ⟨fun Wi tk => (pe_var hN hv hd hcd).imp ?_⟩
  rintro σ H Q ⟨η, S, γ, he, hs, q⟩
  unfold mVar at q
  split at q
  · rename_i w e
    obtain ⟨v, e1, r⟩ := he.2 i w e
    exact ⟨v, e1, q v γ H Ext.refl r hs⟩
  · exact q.elim
theorem se_c {e : Expr} {v : V} {w : W} (h : PE X e (tC v)) (r : ∀ γ H, Rep X.K G γ H w v) : SE X G e (mC w) := by
  refine ⟨fun Wi tk => h.imp ?_⟩
  rintro σ H Q ⟨η, S, γ, he, hs, q⟩
  exact q v γ H Ext.refl (r γ H) hs
theorem se_int {i : Int} {j : Nat} : SE X G (.Constant (.int i) j pos) (mC (.int i)) := se_c pe_int fun _ _ => .int i
theorem se_bl {i : Bool} {j : Nat} : SE X G (.Constant (.bool i) j pos) (mC (.bl i)) := se_c pe_bl fun _ _ => .bl i
theorem se_non {j : Nat} : SE X G (.Constant .none j pos) (mC .non) := se_c pe_non fun _ _ => .non
theorem rep_str {K : PySem.W.Frag} {γ : Ga} {H : Hp} {z : Str} {l : List Nat} (e : z = ⟨l.toArray⟩) (hl : (l.all (· < 0x110000) && decide (l.length ≤ 16777216)) = true) : Rep K G γ H (.str l) (.str z) := by
  subst e
  rw [Bool.and_eq_true, decide_eq_true_eq] at hl
  refine .str l (fun c hc => ?_) (by rw [sizeLine_eq]; exact hl.2)
  have := List.all_eq_true.mp hl.1 c hc
  simpa using this
theorem se_str {z : Str} {j : Nat} (l : List Nat) (e : z = ⟨l.toArray⟩ := by decide +kernel) (hl : (l.all (· < 0x110000) && decide (l.length ≤ 16777216)) = true := by decide +kernel) : SE X G (.Constant (.str z) j pos) (mC (.str l)) := se_c pe_str fun _ _ => rep_str e hl
/-- a constant of the module -/
theorem se_gstr {z : Str} (l : List Nat) (hm : ∃ t, X.mg x = some (.str z t)) (hg : Gl X x := by rfl) (e : z = ⟨l.toArray⟩ := by decide +kernel) (hl : (l.all (· < 0x110000) && decide (l.length ≤ 16777216)) = true := by decide +kernel) (hd : (x == ("__debug__" : Str)) = false := by decide) : SE X G (.Name x pos) (mC (.str l)) := by
  obtain ⟨t, hm⟩ := hm
  exact se_c (pe_glob (v := .str z) hg hm ⟨t, rfl⟩ hd) fun _ _ => rep_str e hl
theorem se_gint {i : Int} (hm : ∃ t, X.mg x = some (.int i t)) (hg : Gl X x := by rfl) (hd : (x == ("__debug__" : Str)) = false := by decide) : SE X G (.Name x pos) (mC (.int i)) := by
  obtain ⟨t, hm⟩ := hm
  exact se_c (pe_glob (v := .int i) hg hm ⟨t, rfl⟩ hd) fun _ _ => .int i
theorem se_bin {op : Operator} (ho : OpR X (binaryOp op) (rOf X.K G o)) (ha : SE X G a f) (hb : SE X G b g) : SE X G (.BinOp a op b pos) (mBin o f g) := by
  refine ⟨fun Wi tk => (pe_op ho (ha.run Wi tk) (hb.run Wi tk)).imp ?_⟩
  rintro σ H Q ⟨η, S, γ, he, hs, q⟩
  exact ⟨η, S, γ, he, hs, (Post.seq q).imp fun x H1 ⟨wx, S1, γ1, e1, r1, s1, q1⟩ => ⟨η, S1, γ1, he.mono e1, s1, (Post.seq q1).imp fun y H2 ⟨wy, S2, γ2, e2, r2, s2, q2⟩ => rOf_of (r1.mono e2) r2 s2 q2⟩⟩
theorem se_cmp {op : CmpOp} (ho : OpR X (compareOp op) (rOf X.K G o)) (ha : SE X G a f) (hb : SE X G b g) (hm : behindInMarks op b = false := by first | exact nobehind _ (by decide) (by decide) | rfl) : SE X G (.Compare a [op] [b] pos) (mBin o f g) := by
  refine ⟨fun Wi tk => (pe_cmpR ho (ha.run Wi tk) (hb.run Wi tk) hm).imp ?_⟩
  rintro σ H Q ⟨η, S, γ, he, hs, q⟩
  exact ⟨η, S, γ, he, hs, (Post.seq q).imp fun x H1 ⟨wx, S1, γ1, e1, r1, s1, q1⟩ => ⟨η, S1, γ1, he.mono e1, s1, (Post.seq q1).imp fun y H2 ⟨wy, S2, γ2, e2, r2, s2, q2⟩ => rOf_of (r1.mono e2) r2 s2 q2⟩⟩
theorem se_isN {j : Nat} {p' : Pos} (ha : SE X G a f) : SE X G (.Compare a [.Is] [.Constant .none j p'] pos) (mUn opIsN f) := by
  refine ⟨fun Wi tk => (pe_cmpR op_isN (ha.run Wi tk) pe_non (nomark _)).imp ?_⟩
  rintro σ H Q ⟨η, S, γ, he, hs, q⟩
  refine ⟨η, S, γ, he, hs, (Post.seq q).imp fun x H1 ⟨wx, S1, γ1, e1, r1, s1, q1⟩ => ⟨rfl, ?_⟩⟩
  cases r1 <;> exact q1 _ γ1 H1 Ext.refl (.bl _) s1
theorem se_chain {op op' : CmpOp} (ho : OpR X (compareOp op) (rOf X.K G o)) (ho' : OpR X (compareOp op') (rOf X.K G o')) (ha : SE X G a f) (hb : SE X G b g) (hc : SE X G c h) (hm : lastMarks [op, op'] [b, c] = false := by with_unfolding_all rfl) :
    SE X G (.Compare a [op, op'] [b, c] pos) (mChain o o' f g h) := by
  refine ⟨fun Wi tk => (pe_chain ho ho' (ha.run Wi tk) (hb.run Wi tk) (hc.run Wi tk) hm).imp ?_⟩
  rintro σ H Q ⟨η, S, γ, he, hs, q⟩
  refine ⟨η, S, γ, he, hs, (Post.seq q).imp fun x H1 ⟨wx, S1, γ1, e1, r1, s1, q1⟩ => ⟨η, S1, γ1, he.mono e1, s1, (Post.seq q1).imp fun y H2 ⟨wy, S2, γ2, e2, r2, s2, q2⟩ => ?_⟩⟩
  split at q2
  · rename_i e
    refine ⟨wx, wy, S2, γ2, _, r1.mono e2, r2, s2, e, fun v γ3 H3 e3 r3 s3 => ?_⟩
    cases r3
    refine ⟨true, rfl, ?_⟩
    rw [if_pos rfl]
    exact ⟨η, S2, γ3, ((he.mono e1).mono e2).mono e3, s3, (Post.seq (Post.base e3 q2)).imp fun z H4 ⟨wz, S4, γ4, e4, r4, s4, q4⟩ => rOf_of (r2.mono (e3.trans e4)) r4 s4 q4⟩
  · rename_i e
    refine ⟨wx, wy, S2, γ2, _, r1.mono e2, r2, s2, e, fun v γ3 H3 e3 r3 s3 => ?_⟩
    cases r3
    refine ⟨false, rfl, ?_⟩
    rw [if_neg Bool.false_ne_true]
    exact q2 _ γ3 H3 e3 (.bl _) s3
  · exact q2.elim
theorem se_one {op : BoolOp} (ha : SE X G a f) : SE X G (.BoolOp op [a] pos) f := ⟨fun Wi tk => pe_one (ha.run Wi tk)⟩
theorem se_and (ha : SE X G a f) (hb : SE X G (.BoolOp .And (b :: rest) pos) g) : SE X G (.BoolOp .And (a :: b :: rest) pos) (mAnd f g) := by
  refine ⟨fun Wi tk => (pe_andT (ha.run Wi tk) (hb.run Wi tk)).imp ?_⟩
  rintro σ H Q ⟨η, S, γ, he, hs, q⟩
  refine ⟨η, S, γ, he, hs, (Post.seq q).imp fun x H1 ⟨wx, S1, γ1, e1, r1, s1, q1⟩ => ?_⟩
  unfold rTruth at q1
  cases e : truthy S1 wx with
  | none =>
    rw [e] at q1
    exact q1.elim
  | some k =>
    rw [e] at q1
    refine ⟨k, truthy_rep s1 r1 e, ?_⟩
    cases k with
    | true => exact ⟨η, S1, γ1, he.mono e1, s1, q1⟩
    | false => exact q1 x γ1 H1 Ext.refl r1 s1
theorem se_not (ha : SE X G a f) : SE X G (.UnaryOp .Not a pos) (mNot f) := by
  refine ⟨fun Wi tk => (pe_notT (ha.run Wi tk)).imp ?_⟩
  rintro σ H Q ⟨η, S, γ, he, hs, q⟩
  refine ⟨η, S, γ, he, hs, (Post.seq q).imp fun x H1 ⟨wx, S1, γ1, e1, r1, s1, q1⟩ => ?_⟩
  unfold rTruth at q1
  cases e : truthy S1 wx with
  | none =>
    rw [e] at q1
    exact q1.elim
  | some k =>
    rw [e] at q1
    exact ⟨k, truthy_rep s1 r1 e, q1 _ γ1 H1 Ext.refl (.bl _) s1⟩
theorem st_tru (ha : SE X G a f) (he : ∀ whole, isTrue a X.env whole = (do let v ← whole; standAt a.pos; holding [v] (PySem.truthy v)) := by intro _; rfl) : ST X G a (mTru f) := by
  refine ⟨fun Wi tk => (pt_truth (ha.run Wi tk) he).imp ?_⟩
  rintro σ H Q ⟨η, S, γ, he, hs, q⟩
  exact ⟨η, S, γ, he, hs, (Post.seq q).imp fun x H1 ⟨wx, S1, γ1, e1, r1, s1, q1⟩ => tru_of r1 s1 q1⟩
/-- a comparison as a test -/
def mTCmp (o : O2) (f g : ME) : MT := fun η S => (f η S).bind fun x S1 => (g η S1).bind fun y S2 => match o x y S2 with
  | some (.bl b) => .ok b S2
  | _ => .stuck
theorem st_cmp {op : CmpOp} (ho : OpR X (compareOp op) (rOf X.K G o)) (ha : SE X G a f) (hb : SE X G b g) (hm : behindInMarks op b = false := by first | exact nobehind _ (by decide) (by decide) | rfl) : ST X G (.Compare a [op] [b] pos) (mTCmp o f g) := by
  refine ⟨fun Wi tk => (pt_cmpR ho (ha.run Wi tk) (hb.run Wi tk) hm).imp ?_⟩
  rintro σ H Q ⟨η, S, γ, he, hs, q⟩
  refine ⟨η, S, γ, he, hs, (Post.seq q).imp fun x H1 ⟨wx, S1, γ1, e1, r1, s1, q1⟩ => ⟨η, S1, γ1, he.mono e1, s1, (Post.seq q1).imp fun y H2 ⟨wy, S2, γ2, e2, r2, s2, q2⟩ => ?_⟩⟩
  split at q2
  · rename_i k e
    refine ⟨wx, wy, S2, γ2, _, r1.mono e2, r2, s2, e, fun v γ3 H3 e3 r3 s3 => ?_⟩
    cases r3
    exact ⟨_, rfl, q2 _ γ3 H3 e3 rfl s3⟩
  · exact q2.elim
def mTUn (o : W → Store → Option W) (f : ME) : MT := fun η S => (f η S).bind fun x S1 => match o x S1 with
  | some (.bl b) => .ok b S1
  | _ => .stuck
theorem st_isN {j : Nat} {p' : Pos} (ha : SE X G a f) : ST X G (.Compare a [.Is] [.Constant .none j p'] pos) (mTUn opIsN f) := by
  refine ⟨fun Wi tk => (pt_cmpR op_isN (ha.run Wi tk) pe_non (nomark _)).imp ?_⟩
  rintro σ H Q ⟨η, S, γ, he, hs, q⟩
  refine ⟨η, S, γ, he, hs, (Post.seq q).imp fun x H1 ⟨wx, S1, γ1, e1, r1, s1, q1⟩ => ⟨rfl, _, rfl, ?_⟩⟩
  cases r1 <;> exact q1 _ γ1 H1 Ext.refl rfl s1
theorem st_not (ha : ST X G a t) : ST X G (.UnaryOp .Not a pos) (mTNot t) := by
  refine ⟨fun Wi tk => (pt_not (ha.run Wi tk)).imp ?_⟩
  rintro σ H Q ⟨η, S, γ, he, hs, q⟩
  refine ⟨η, S, γ, he, hs, (Post.seq (rel := relB) q).imp fun x H1 ⟨wx, S1, γ1, e1, r1, s1, q1⟩ => ?_⟩
  cases r1
  exact q1 _ γ1 H1 Ext.refl rfl s1
theorem sw_or1 (ha : ST X G a t) : SW X G (.BoolOp .Or [a] pos) t := ⟨fun Wi tk => pw_or1 (ha.run Wi tk)⟩
theorem sw_or (ha : ST X G a t) (hb : SW X G (.BoolOp .Or (b :: rest) pos) u) : SW X G (.BoolOp .Or (a :: b :: rest) pos) (mTOr t u) := by
  refine ⟨fun Wi tk => (pw_or (ha.run Wi tk) (hb.run Wi tk)).imp ?_⟩
  rintro σ H Q ⟨η, S, γ, he, hs, q⟩
  refine ⟨η, S, γ, he, hs, (Post.seq (rel := relB) q).imp fun x H1 ⟨wx, S1, γ1, e1, r1, s1, q1⟩ => ?_⟩
  cases r1
  cases x with
  | false => exact ⟨η, S1, γ1, he.mono e1, s1, q1⟩
  | true => exact q1 _ γ1 H1 Ext.refl rfl s1
theorem st_w (h : SW X G a t) : ST X G a t := ⟨fun Wi tk => (h.run Wi tk).pt⟩
theorem se_if (hc : ST X G c t) (ha : SE X G a f) (hb : SE X G b g) : SE X G (.IfExp c a b pos) (mIf t f g) := by
  refine ⟨fun Wi tk => (pe_ifExp (hc.run Wi tk) (ha.run Wi tk) (hb.run Wi tk)).imp ?_⟩
  rintro σ H Q ⟨η, S, γ, he, hs, q⟩
  refine ⟨η, S, γ, he, hs, (Post.seq (rel := relB) q).imp fun x H1 ⟨wx, S1, γ1, e1, r1, s1, q1⟩ => ?_⟩
  cases r1
  cases x with
  | true => exact ⟨η, S1, γ1, he.mono e1, s1, q1⟩
  | false => exact ⟨η, S1, γ1, he.mono e1, s1, q1⟩
theorem sa_nil : SA X G [] maNil := by
  refine ⟨fun Wi tk => pa_nil.imp ?_⟩
  rintro σ H Q ⟨η, S, γ, he, hs, q⟩
  exact q _ γ H Ext.refl .nil hs
theorem sa_cons (ha : SE X G a f) (hr : SA X G es ga) (hs : starEach (a :: es) X.env = (false, eval a X.env) :: starEach es X.env := by rfl) : SA X G (a :: es) (maCons f ga) := by
  refine ⟨fun Wi tk => (pa_cons (ha.run Wi tk) (hr.run Wi tk) hs).imp ?_⟩
  rintro σ H Q ⟨η, S, γ, he, hs, q⟩
  exact ⟨η, S, γ, he, hs, (Post.seq q).imp fun x H1 ⟨wx, S1, γ1, e1, r1, s1, q1⟩ => ⟨η, S1, γ1, he.mono e1, s1, (Post.seq q1).imp fun y H2 ⟨wy, S2, γ2, e2, r2, s2, q2⟩ => q2 _ γ2 H2 Ext.refl (.cons (r1.mono e2) r2) s2⟩⟩
theorem sized_post {K : PySem.W.Frag} {γ : Ga} {H : Hp} {α β : Type} {rel : Rel α β} {wx : Wx} {n : Nat} {r : R α} {Q : β → Hp → Prop} (h : Post K G rel wx γ H (sized n r) Q) : n ≤ sizeLine ∧ Post K G rel wx γ H r Q := by
  unfold sized at h
  split at h
  · rename_i hl
    exact ⟨by rw [← bigLine_eq]; exact hl, h⟩
  · exact h.elim
theorem se_tup {x1 : Nat} (h : SA X G es ga) : SE X G (.Tuple es x1 pos) (mTup ga) := by
  refine ⟨fun Wi tk => (pe_tup (h.run Wi tk)).imp ?_⟩
  rintro σ H Q ⟨η, S, γ, he, hs, q⟩
  refine ⟨η, S, γ, he, hs, (Post.seq q).imp fun x H1 ⟨wx, S1, γ1, e1, r1, s1, q1⟩ => ?_⟩
  obtain ⟨hl, q1⟩ := sized_post q1
  refine ⟨by rw [← r1.length]; exact hl, fun p hp => ?_⟩
  have ex := Ext.upd (K := X.K) (G := G) s1 (o := .tup x) hp
  exact q1 _ γ1 _ ex (.tup (.inl ⟨.inl upd_same, s1.fresh hp⟩) (r1.mono ex)) (s1.upd hp)
theorem se_lst (h : SA X G es ga) : SE X G (.List es pos) (mLst ga) := by
  refine ⟨fun Wi tk => (pe_lst (h.run Wi tk)).imp ?_⟩
  rintro σ H Q ⟨η, S, γ, he, hs, q⟩
  refine ⟨η, S, γ, he, hs, (Post.seq q).imp fun x H1 ⟨wx, S1, γ1, e1, r1, s1, q1⟩ => ?_⟩
  obtain ⟨hl, q1⟩ := sized_post q1
  refine ⟨by rw [← r1.length]; exact hl, fun p hp => ?_⟩
  have ex := Ext.upd (K := X.K) (G := G) s1 (o := .lst x) hp
  exact q1 _ γ1 _ ex (.lst upd_same (s1.fresh hp) (r1.mono ex)) (s1.upd hp)
end
end Mp
namespace Mp
open PySem PySem.Spec PyProof.Rows L2
def PostS (K : PySem.W.Frag) (G : Gs) (Wi : WX) (γ : Ga) (H : Hp) (r : RS) (D : Ends) : Prop := match r with
  | .nx η' S' => ∀ σ' γ' H', Ext γ H γ' H' → EnvOk K G γ' H' η' σ' → StoreOk K G γ' H' S' → D.nx σ' H'
  | .bk η' S' => ∀ σ' γ' H', Ext γ H γ' H' → EnvOk K G γ' H' η' σ' → StoreOk K G γ' H' S' → D.bk σ' H'
  | .ct η' S' => ∀ σ' γ' H', Ext γ H γ' H' → EnvOk K G γ' H' η' σ' → StoreOk K G γ' H' S' → D.ct σ' H'
  | .ret w S' => ∀ v γ' H', Ext γ H γ' H' → Rep K G γ' H' w v → StoreOk K G γ' H' S' → D.rt v H'
  | .exc c x η' S' => ∀ v d σ' γ' H', Ext γ H γ' H' → EnvOk K G γ' H' η' σ' → Rep K G γ' H' x v → StoreOk K G γ' H' S' → H' d = some (.xd [(G.nm c, v)]) → γ'.Off d → Wi (.ref (G.ca c)) (some d) σ' H'
  | .stuck => False
end Mp
namespace Mp
open PySem PySem.Spec PyProof.Rows L2
section
variable {K : PySem.W.Frag} {G : Gs} {Wi : WX} {γ γ1 : Ga} {H H1 : Hp} {D : Ends}
theorem PostS.base {r : RS} (e : Ext γ H γ1 H1) (h : PostS K G Wi γ H r D) : PostS K G Wi γ1 H1 r D := by
  cases r with
  | nx η' S' => exact fun σ' γ' H' e' q s => h σ' γ' H' (e.trans e') q s
  | bk η' S' => exact fun σ' γ' H' e' q s => h σ' γ' H' (e.trans e') q s
  | ct η' S' => exact fun σ' γ' H' e' q s => h σ' γ' H' (e.trans e') q s
  | ret w S' => exact fun v γ' H' e' q s => h v γ' H' (e.trans e') q s
  | exc c x η' S' => exact fun v d σ' γ' H' e' q r s hd ho => h v d σ' γ' H' (e.trans e') q r s hd ho
  | stuck => exact h
/-- an expression ahead of a statement's end -/
theorem PostS.expr {α β : Type} {rel : Rel α β} {η : Env} {σ : L2.St} {r : R α} {k : α → Store → RS} (he : EnvOk K G γ H η σ) (h : PostS K G Wi γ H (r.toS η k) D) :
    Post K G rel (fun c d H' => Wi c d σ H') γ H r fun v H1 => ∃ w S1 γ1, Ext γ H γ1 H1 ∧ rel γ1 H1 w v ∧ StoreOk K G γ1 H1 S1 ∧ PostS K G Wi γ1 H1 (k w S1) D := by
  cases r with
  | ok w S' => exact fun v γ' H' e q s => ⟨w, S', γ', e, q, s, PostS.base e h⟩
  | exc c x S' => exact fun v d γ' H' e q s hd ho => h v d σ γ' H' e (he.mono e) q s hd ho
  | stuck => exact h
theorem PostS.next {r : RS} {k : MS} (h : PostS K G Wi γ H (r.next k) D) : PostS K G Wi γ H r { D with nx := fun σ' H' => ∃ η S γ1, EnvOk K G γ1 H' η σ' ∧ StoreOk K G γ1 H' S ∧ PostS K G Wi γ1 H' (k η S) D } := by
  cases r with
  | nx η' S' => exact fun σ' γ' H' e q s => ⟨η', S', γ', q, s, PostS.base e h⟩
  | bk η' S' => exact h
  | ct η' S' => exact h
  | ret w S' => exact h
  | exc c x η' S' => exact h
  | stuck => exact h
end
end Mp
namespace Mp
open PySem PySem.Spec PyProof.Rows L2
def tsOf (K : PySem.W.Frag) (G : Gs) (Wi : WX) (f : MS) : TS := fun D σ H => ∃ η S γ, EnvOk K G γ H η σ ∧ StoreOk K G γ H S ∧ PostS K G Wi γ H (f η S) D
structure SS (X : Cx) (G : Gs) (e : Stmt) (f : MS) : Prop where
  run : ∀ Wi, Takes X Wi → PS X e (tsOf X.K G Wi f)
structure SSs (X : Cx) (G : Gs) (e : List Stmt) (f : MS) : Prop where
  run : ∀ Wi, Takes X Wi → PSs X e (tsOf X.K G Wi f)
/-- targets: is: the slots that may change -/
def tgOf (K : PySem.W.Frag) (G : Gs) (is : List Nat) (g : MG) : TG := fun v σ H Q => ∃ η S γ w η' S', EnvOk K G γ H η σ ∧ StoreOk K G γ H S ∧ Rep K G γ H w v ∧ g w η S = some (η', S') ∧
  ∀ σ' γ' H', Ext γ H γ' H' → EnvOk K G γ' H' η' σ' → StoreOk K G γ' H' S' → σ'.length = σ.length → (∀ i, i ∉ is → σ'[i]? = σ[i]?) → Q σ' H'
def tgsOf (K : PySem.W.Frag) (G : Gs) (is : List Nat) (g : MGs) : TGs := fun vs σ H Q => ∃ η S γ ws η' S', EnvOk K G γ H η σ ∧ StoreOk K G γ H S ∧ Reps K G γ H ws vs ∧ g ws η S = some (η', S') ∧
  ∀ σ' γ' H', Ext γ H γ' H' → EnvOk K G γ' H' η' σ' → StoreOk K G γ' H' S' → σ'.length = σ.length → (∀ i, i ∉ is → σ'[i]? = σ[i]?) → Q σ' H'
structure SG (X : Cx) (G : Gs) (e : Expr) (is : List Nat) (g : MG) : Prop where
  run : PG X e (tgOf X.K G is g)
structure SGs (X : Cx) (G : Gs) (e : List Expr) (is : List Nat) (g : MGs) : Prop where
  run : PGs X e (tgsOf X.K G is g)
theorem _root_.L2.PG.imp {X : Cx} {e : Expr} {t t' : TG} (h : PG X e t) (i : ∀ v σ H Q, t' v σ H Q → t v σ H Q) : PG X e t' := ⟨fun pins s σ H v u Q I r q => h.run pins s σ H v u Q I r (i _ _ _ _ q)⟩
theorem _root_.L2.PGs.imp {X : Cx} {e : List Expr} {t t' : TGs} (h : PGs X e t) (i : ∀ v σ H Q, t' v σ H Q → t v σ H Q) : PGs X e t' := ⟨fun pins s σ H v u Q I r q => h.run pins s σ H v u Q I r (i _ _ _ _ q)⟩
/-- what holds of the place where code stands -/
structure Cfg (X : Cx) : Prop where
  calm : X.calm = true
  nd : X.N.Nodup
  own : PassesOwn (model X.prog X.w) X.A X.env X.xe
  un : X.A.units + 100 < cLine
theorem EnvOk.set {K : PySem.W.Frag} {G : Gs} {γ : Ga} {H : Hp} {η : Env} {σ : L2.St} {w : W} {v : V} (he : EnvOk K G γ H η σ) (r : Rep K G γ H w v) (i : Nat) : EnvOk K G γ H (η.set i (some w)) (σ.set i (some v)) := by
  refine ⟨by rw [List.length_set, List.length_set]; exact he.1, fun j u hj => ?_⟩
  by_cases hij : i = j
  · subst hij
    have hlt : i < η.length := by
      have := (List.getElem?_eq_some_iff.mp hj).1
      rwa [List.length_set] at this
    rw [List.getElem?_set_self hlt] at hj
    cases hj
    exact ⟨v, by rw [List.getElem?_set_self (by rw [← he.1]; exact hlt)], r⟩
  · rw [List.getElem?_set_ne hij] at hj
    rw [List.getElem?_set_ne hij]
    exact he.2 j u hj
end Mp
namespace Mp
open PySem PySem.Spec PyProof.Rows L2
section
variable {X : Cx} {G : Gs} {x : Str} {pos p : Pos} {a b c e : Expr} {es rest : List Expr} {f h : ME} {g : MG} {gs : MGs} {ga : MA} {t : MT} {st : Stmt} {sts : List Stmt} {m n : MS} {is js : List Nat}
theorem sss_nil : SSs X G [] sNx := by
  refine ⟨fun Wi tk => pss_nil.imp ?_⟩
  rintro D σ H ⟨η, S, γ, he, hs, q⟩
  exact q σ γ H Ext.refl he hs
theorem sss_cons (h1 : SS X G st m) (h2 : SSs X G sts n) : SSs X G (st :: sts) (sSeq m n) := by
  refine ⟨fun Wi tk => (pss_cons (h1.run Wi tk) (h2.run Wi tk)).imp ?_⟩
  rintro D σ H ⟨η, S, γ, he, hs, q⟩
  exact ⟨η, S, γ, he, hs, PostS.next q⟩
theorem sss_one (h1 : SS X G st m) : SSs X G [st] m := ⟨fun Wi tk => pss_one (h1.run Wi tk)⟩
theorem ss_expr (ha : SE X G a f) (hsw : swapsWith a none pos.line X.env = pure false := by rfl) : SS X G (.Expr a pos) (sDrop f) := by
  refine ⟨fun Wi tk => (ps_expr (ha.run Wi tk) hsw).imp ?_⟩
  rintro D σ H ⟨η, S, γ, he, hs, q⟩
  exact ⟨η, S, γ, he, hs, (PostS.expr he q).imp fun v H1 ⟨w, S1, γ1, e1, r1, s1, q1⟩ => q1 σ γ1 H1 Ext.refl (he.mono e1) s1⟩
theorem ss_ret (ha : SE X G a f) : SS X G (.Return (some a) pos) (sRet f) := by
  refine ⟨fun Wi tk => (ps_ret (ha.run Wi tk)).imp ?_⟩
  rintro D σ H ⟨η, S, γ, he, hs, q⟩
  exact ⟨η, S, γ, he, hs, (PostS.expr he q).imp fun v H1 ⟨w, S1, γ1, e1, r1, s1, q1⟩ => q1 v γ1 H1 Ext.refl r1 s1⟩
theorem ss_set (i : Nat) (cf : Cfg X) (ha : SE X G a f) (hi : X.N[i]? = some x := by rfl) (hx : Loc X.env.scope x := by first | exact Or.inl rfl | exact Or.inr rfl) (hsw : swapsWith a (some (.Name x p)) pos.line X.env = pure false := by rfl)
    (hf : X.fn x = true ∨ X.env.scope.names.lookup x = some .local := by first | exact .inl rfl | exact .inr rfl) : SS X G (.Assign [.Name x p] a pos) (sSet i f) := by
  refine ⟨fun Wi tk => (ps_set cf.nd hi hx (ha.run Wi tk) hsw hf).imp ?_⟩
  rintro D σ H ⟨η, S, γ, he, hs, q⟩
  exact ⟨η, S, γ, he, hs, (PostS.expr he q).imp fun v H1 ⟨w, S1, γ1, e1, r1, s1, q1⟩ => q1 _ γ1 H1 Ext.refl ((he.mono e1).set r1 i) s1⟩
theorem ss_if (hc : ST X G c t) (h1 : SSs X G sts m) {sts' : List Stmt} (h2 : SSs X G sts' n) : SS X G (.If c sts sts' pos) (sIf t m n) := by
  refine ⟨fun Wi tk => (ps_if (hc.run Wi tk) (h1.run Wi tk) (h2.run Wi tk)).imp ?_⟩
  rintro D σ H ⟨η, S, γ, he, hs, q⟩
  refine ⟨η, S, γ, he, hs, (PostS.expr (rel := relB) he q).imp fun v H1 ⟨w, S1, γ1, e1, r1, s1, q1⟩ => ?_⟩
  cases r1
  cases v with
  | true => exact ⟨η, S1, γ1, he.mono e1, s1, q1⟩
  | false => exact ⟨η, S1, γ1, he.mono e1, s1, q1⟩
theorem sg_name (i : Nat) (cf : Cfg X) (hi : X.N[i]? = some x := by rfl) (hx : Loc X.env.scope x := by first | exact Or.inl rfl | exact Or.inr rfl)
    (hf : X.fn x = true ∨ X.env.scope.names.lookup x = some .local := by first | exact .inl rfl | exact .inr rfl) : SG X G (.Name x pos) [i] (gVar i) := by
  refine ⟨(pg_name cf.nd hi hx hf).imp ?_⟩
  rintro v σ H Q ⟨η, S, γ, w, η', S', he, hs, r, e, q⟩
  cases e
  exact q _ γ H Ext.refl (he.set r i) hs (by rw [List.length_set]) fun j hj => List.getElem?_set_ne (fun z => hj (by simp [z]))
theorem sgs_nil : SGs X G [] [] gsNil := by
  refine ⟨pgs_nil.imp ?_⟩
  rintro vs σ H Q ⟨η, S, γ, ws, η', S', he, hs, r, e, q⟩
  cases r with
  | nil =>
    cases e
    exact ⟨rfl, q _ γ H Ext.refl he hs rfl fun _ _ => rfl⟩
  | cons r t => cases e
theorem sgs_cons (h1 : SG X G a is g) (h2 : SGs X G es js gs) (hs : (assignEach (a :: es) X.env).map (·.2) = assign a X.env :: (assignEach es X.env).map (·.2) := by rfl) : SGs X G (a :: es) (is ++ js) (gsCons g gs) := by
  refine ⟨(pgs_cons h1.run h2.run hs).imp ?_⟩
  rintro vs σ H Q ⟨η, S, γ, ws, η', S', he, hst, r, e, q⟩
  cases r with
  | nil => cases e
  | @cons w v ws vs r t =>
    unfold gsCons at e
    simp only [Option.bind_eq_bind] at e
    cases eg : g w η S with
    | none =>
      rw [eg] at e
      cases e
    | some p =>
      obtain ⟨η1, S1⟩ := p
      rw [eg] at e
      have e : gs ws η1 S1 = some (η', S') := e
      refine ⟨v, vs, rfl, η, S, γ, w, η1, S1, he, hst, r, eg, fun σ1 γ1 H1 e1 he1 hs1 hl1 hn1 => ?_⟩
      refine ⟨η1, S1, γ1, ws, η', S', he1, hs1, t.mono e1, e, fun σ2 γ2 H2 e2 he2 hs2 hl2 hn2 => ?_⟩
      exact q σ2 γ2 H2 (e1.trans e2) he2 hs2 (hl2.trans hl1) fun i hi => by
        rw [List.mem_append, not_or] at hi
        exact (hn2 i hi.2).trans (hn1 i hi.1)
theorem sg_tup {k : Nat} (nn : Nat) (cf : Cfg X) (h : SGs X G es is gs) (hn : (assignEach es X.env).length = nn := by rfl) (hst : (assignEach es X.env).findIdx? (·.1) = none := by rfl) (hl : ∀ ws η S r, gs ws η S = some r → ws.length = nn := by intro ws η S r z; first | (match ws, z with | [_, _], _ => rfl) | (match ws, z with | [_, _, _], _ => rfl)) : SG X G (.Tuple es k pos) is (gTupW gs) := by
  refine ⟨(pg_tup cf.calm h.run hn hst).imp ?_⟩
  rintro v σ H Q ⟨η, S, γ, w, η', S', he, hs, r, e, q⟩
  cases r with
  | tup f t =>
    have e : gs _ η S = some (η', S') := e
    refine ⟨_, _, rfl, f.sq, ?_, η, S, γ, _, η', S', he, hs, t, e, q⟩
    rw [← t.length]
    exact hl _ _ _ _ e
  | _ => cases e
theorem setAt_sound {K : PySem.W.Frag} {γ : Ga} {H : Hp} {S S' : Store} {o i w : W} {ov iv v : V} {Q : Hp → Prop} (s : StoreOk K G γ H S) (ro : Rep K G γ H o ov) (ri : Rep K G γ H i iv) (r : Rep K G γ H w v) (e : setAt o i w S = some S')
    (q : ∀ H', Ext γ H γ H' → StoreOk K G γ H' S' → Q H') : rSetL ov iv v H Q := by
  unfold setAt at e
  split at e
  · rename_i rr k
    cases ri
    cases ro with
    | @ref _ a ha =>
    split at e
    · rename_i xs hc
      obtain ⟨px, vs, hv, qv⟩ := s.cell _ _ a hc ha
      have hl := qv.length
      have pset : ∀ (xs : List W) (j : Nat), pures xs = true → w.pure = true → pures (xs.set j w) = true := by
        intro xs
        induction xs with
        | nil => intro j h1 h2; rfl
        | cons y ys ih =>
          intro j h1 h2
          rw [pures, Bool.and_eq_true] at h1
          cases j with
          | zero => rw [List.set_cons_zero, pures, h2, h1.2]; rfl
          | succ j => rw [List.set_cons_succ, pures, h1.1, ih j h1.2 h2]; rfl
      split at e
      · rename_i hk
        split at e
        · rename_i pw
          cases e
          obtain ⟨x1, x2⟩ := s.write hc ha (pset xs k.toNat px pw) (Reps.set r k.toNat qv)
          refine ⟨a, vs, k, k.toNat, rfl, rfl, hv, ?_, q _ x1 x2⟩
          unfold ixN
          rw [if_pos hk.1, if_pos (by rw [← hl]; exact hk.2)]
        · cases e
      · split at e
        · rename_i hk
          split at e
          · rename_i pw
            cases e
            obtain ⟨x1, x2⟩ := s.write hc ha (pset xs (k + xs.length).toNat px pw) (Reps.set r (k + xs.length).toNat qv)
            refine ⟨a, vs, k, (k + xs.length).toNat, rfl, rfl, hv, ?_, q _ x1 x2⟩
            unfold ixN
            rw [if_neg (by omega), if_pos (by rw [← hl]; exact hk.2), hl]
          · cases e
        · cases e
    · cases e
  · cases e
theorem sg_idx {fo fi : ME} (ho : SE X G a fo) (hi : SE X G b fi) (ha : ∀ v, assign (.Subscript a b pos) X.env v = (do
      let ov ← holding [v] (eval a X.env)
      let iv ← holding [v, ov] (eval b X.env)
      standAt pos
      holding [v, ov, iv] (setItem ov iv v)
      release [v, ov, iv] []) := by intro _; rfl) : SG X G (.Subscript a b pos) [] (gIdx fo fi) := by
  refine ⟨(pg_sub (ho.run (fun _ _ _ _ => False) takes0) (hi.run (fun _ _ _ _ => False) takes0) set_list ha).imp ?_⟩
  rintro v σ H Q ⟨η, S, γ, w, η', S', he, hs, r, e, q⟩
  unfold gIdx at e
  cases e1 : fo η S with
  | ok ow S1 =>
    rw [e1] at e
    refine ⟨η, S, γ, he, hs, ?_⟩
    rw [e1]
    intro ov γ1 H1 x1 ro s1
    cases e2 : fi η S1 with
    | ok iw S2 =>
      simp only [e2] at e
      refine ⟨η, S1, γ1, he.mono x1, s1, ?_⟩
      rw [e2]
      intro iv γ2 H2 x2 ri s2
      cases e3 : setAt ow iw w S2 with
      | none =>
        rw [e3] at e
        cases e
      | some S3 =>
        rw [e3] at e
        cases e
        exact setAt_sound s2 (ro.mono x2) ri ((r.mono x1).mono x2) e3 fun H3 x3 s3 => q σ γ2 H3 ((x1.trans x2).trans x3) (((he.mono x1).mono x2).mono x3) s3 rfl fun _ _ => rfl
    | exc c x S2 => simp only [e2] at e; cases e
    | stuck => simp only [e2] at e; cases e
  | exc c x S2 => rw [e1] at e; cases e
  | stuck => rw [e1] at e; cases e
/-- target = e -/
theorem ss_asg (ha : SE X G a f) (hg : SG X G b is g) (hs : swapsWithSole [b] a pos.line X.env = pure false := by rfl) (hw : swappedStores [b] a X.env = pure none := by rfl)
    (h1 : (assignEach [b] X.env).map (·.2) = [assign b X.env] := by rfl) : SS X G (.Assign [b] a pos) (sAsg f g) := by
  refine ⟨fun Wi tk => (ps_asg (ha.run Wi tk) hg.run hs hw h1).imp ?_⟩
  rintro D σ H ⟨η, S, γ, he, hs, q⟩
  refine ⟨η, S, γ, he, hs, (PostS.expr he q).imp fun v H1 ⟨w, S1, γ1, e1, r1, s1, q1⟩ => ?_⟩
  unfold optS at q1
  cases eg : g w η S1 with
  | none =>
    rw [eg] at q1
    exact q1.elim
  | some z =>
    obtain ⟨η', S'⟩ := z
    rw [eg] at q1
    exact ⟨η, S1, γ1, w, η', S', he.mono e1, s1, r1, eg, fun σ' γ' H' x he' s' _ _ => q1 σ' γ' H' x he' s'⟩
def sPar3 (i j l : Nat) (g : MA) : MS := fun η S => (g η S).toS η fun ws S1 => match ws with
  | [w, u, z] => .nx (((η.set i (some w)).set j (some u)).set l (some z)) S1
  | _ => .stuck
end
end Mp
namespace Mp
open PySem PySem.Spec PyProof.Rows L2
/-- an iterator that gives the items xs, from γ0, H0 on -/
structure ItOk (K : PySem.W.Frag) (G : Gs) (J : It) (xs : List W) (γ0 : Ga) (H0 : Hp) : Prop where
  go : ∀ (i : Nat) γ H S, i < xs.length → ExtW γ0 H0 γ H → StoreOk K G γ H S → J.go i H
  stop : ∀ γ H S, ExtW γ0 H0 γ H → StoreOk K G γ H S → J.stop xs.length H
  yld : ∀ (i : Nat) (w : W) γ H S x H', xs[i]? = some w → ExtW γ0 H0 γ H → StoreOk K G γ H S → J.yld i H x H' → Ext γ H γ H' ∧ StoreOk K G γ H' S ∧ Rep K G γ H' w x
def PostI (K : PySem.W.Frag) (G : Gs) (wx : Wx) (γ : Ga) (H : Hp) (r : R (List W)) (Q : It → Hp → Prop) : Prop := match r with
  | .ok xs S' => ∀ J γ' H', Ext γ H γ' H' → StoreOk K G γ' H' S' → ItOk K G J xs γ' H' → Q J H'
  | .exc c x S' => ∀ v d γ' H', Ext γ H γ' H' → Rep K G γ' H' x v → StoreOk K G γ' H' S' → H' d = some (.xd [(G.nm c, v)]) → γ'.Off d → wx (.ref (G.ca c)) (some d) H'
  | .stuck => False
def tiOf (K : PySem.W.Frag) (G : Gs) (Wi : WX) (f : MI) : TI := fun σ H R => ∃ η S γ, EnvOk K G γ H η σ ∧ StoreOk K G γ H S ∧ PostI K G (fun c d H' => Wi c d σ H') γ H (f η S) R
structure SI (X : Cx) (G : Gs) (tg it : Expr) (f : MI) : Prop where
  run : ∀ Wi, Takes X Wi → PI X tg it (tiOf X.K G Wi f)
theorem _root_.L2.PI.imp {X : Cx} {tg e : Expr} {t t' : TI} (h : PI X tg e t) (i : ∀ σ H R, t' σ H R → t σ H R) : PI X tg e t' := ⟨fun pins s σ H R I q => h.run pins s σ H R I (i _ _ _ q)⟩
theorem _root_.L2.PI.or {X : Cx} {tg e : Expr} {t t' : TI} (h : PI X tg e t) (h' : PI X tg e t') : PI X tg e (fun σ H R => t σ H R ∨ t' σ H R) := ⟨fun pins s σ H R I q => q.elim (h.run pins s σ H R I) (h'.run pins s σ H R I)⟩
theorem PostI.base {K : PySem.W.Frag} {G : Gs} {wx : Wx} {γ γ1 : Ga} {H H1 : Hp} {r : R (List W)} {Q : It → Hp → Prop} (e : Ext γ H γ1 H1) (h : PostI K G wx γ H r Q) : PostI K G wx γ1 H1 r Q := by
  cases r with
  | ok w S' => exact fun J γ' H' e' s i => h J γ' H' (e.trans e') s i
  | exc c x S' => exact fun v d γ' H' e' q s hd ho => h v d γ' H' (e.trans e') q s hd ho
  | stuck => exact h
theorem PostI.seq {K : PySem.W.Frag} {G : Gs} {wx : Wx} {γ : Ga} {H : Hp} {α β : Type} {rel : Rel α β} {r : R α} {k : α → Store → R (List W)} {Q : It → Hp → Prop} (h : PostI K G wx γ H (r.bind k) Q) :
    Post K G rel wx γ H r fun v H1 => ∃ w S1 γ1, Ext γ H γ1 H1 ∧ rel γ1 H1 w v ∧ StoreOk K G γ1 H1 S1 ∧ PostI K G wx γ1 H1 (k w S1) Q := by
  cases r with
  | ok w S' => exact fun v γ' H' e q s => ⟨w, S', γ', e, q, s, PostI.base e h⟩
  | exc c x S' => exact h
  | stuck => exact h
/-- the items of a list, a tuple, a text -/
def seqI : W → Option (List W)
  | .lst xs => some xs
  | .scr xs => some xs
  | .tup xs => some xs
  | .str s => some (s.map fun c => .str [c])
  | _ => none
def miSeq (f : ME) : MI := fun η S => (f η S).bind fun w S1 => rOpt (seqI w) S1
end Mp
namespace Mp
open PySem PySem.Spec PyProof.Rows L2
section
variable {K : PySem.W.Frag} {G : Gs} {γ : Ga} {H : Hp} {S : Store}
theorem itOk_list {a : Addr} {xs : List W} {vs : List V} (st : ∀ {γ' H'}, ExtW γ H γ' H' → SqL K H' a vs) (q : Reps K G γ H xs vs) : ItOk K G (Itl K a) xs γ H := by
  refine ⟨fun i γ' H' S hi e _ => ?_, fun γ' H' S e _ => ⟨vs, st e, Nat.le_of_eq q.length.symm⟩, fun i w γ' H' S x H'' hw e s y => ?_⟩
  · have hl : i < vs.length := by rw [← q.length]; exact hi
    exact ⟨vs, vs[i], st e, List.getElem?_eq_getElem hl⟩
  · obtain ⟨e1, y⟩ := y
    subst e1
    obtain ⟨v, hv, r⟩ := q.get hw
    have z := y vs (st e)
    rw [hv] at z
    cases z
    exact ⟨Ext.refl, s, r.monoW e⟩
theorem itOk_tup {a : Addr} {xs : List W} {vs : List V} (h : FrT K γ H a vs) (q : Reps K G γ H xs vs) : ItOk K G (Itt K a) xs γ H := by
  have st : ∀ {γ' H'}, ExtW γ H γ' H' → SqT K H' a vs := fun e => (h.monoW e).sq
  refine ⟨fun i γ' H' S hi e _ => ?_, fun γ' H' S e _ => ⟨vs, st e, Nat.le_of_eq q.length.symm⟩, fun i w γ' H' S x H'' hw e s y => ?_⟩
  · have hl : i < vs.length := by rw [← q.length]; exact hi
    exact ⟨vs, vs[i], st e, List.getElem?_eq_getElem hl⟩
  · obtain ⟨e1, y⟩ := y
    subst e1
    obtain ⟨v, hv, r⟩ := q.get hw
    have z := y vs (st e)
    rw [hv] at z
    cases z
    exact ⟨Ext.refl, s, r.monoW e⟩
theorem itOk_str {l : List Nat} (h1 : ∀ c ∈ l, c < 0x110000) : ItOk K G (Its ⟨l.toArray⟩) (l.map fun c => .str [c]) γ H := by
  refine ⟨fun i γ' H' S hi e _ => ?_, fun γ' H' S e _ => ?_, fun i w γ' H' S x H'' hw e s y => ?_⟩
  · rw [List.length_map] at hi
    show i < l.toArray.size
    simpa using hi
  · rw [List.length_map]
    show l.toArray.size ≤ l.length
    simp
  · obtain ⟨e1, c, hc, rfl⟩ := y
    subst e1
    have hc' : l[i]? = some c := by simpa using hc
    rw [List.getElem?_map, hc'] at hw
    cases hw
    refine ⟨Ext.refl, s, .str [c] (fun d hd => ?_) (by rw [sizeLine_eq]; show 1 ≤ 16777216; decide)⟩
    have : d = c := by simpa using hd
    rw [this]
    exact h1 c (List.mem_of_getElem? hc')
theorem itOk_range {lo : Int} {n : Nat} : ItOk K G (Itr lo n) ((List.range n).map fun (i : Nat) => W.int (lo + i)) γ H := by
  refine ⟨fun i γ' H' S hi e _ => ?_, fun γ' H' S e _ => ?_, fun i w γ' H' S x H'' hw e s y => ?_⟩
  · rw [List.length_map, List.length_range] at hi
    exact hi
  · rw [List.length_map, List.length_range]
    exact Nat.le_refl n
  · obtain ⟨e1, rfl⟩ := y
    subst e1
    rw [List.getElem?_map] at hw
    by_cases hi : i < n
    · rw [List.getElem?_range hi] at hw
      cases hw
      exact ⟨Ext.refl, s, .int _⟩
    · rw [List.getElem?_eq_none (by rw [List.length_range]; omega)] at hw
      cases hw
end
end Mp
namespace Mp
open PySem PySem.Spec PyProof.Rows L2
section
variable {X : Cx} {G : Gs} {tg a b e : Expr} {pos p : Pos} {f h : ME} {g : MG} {ga : MA} {t : MT} {m : MS} {it : MI} {is own : List Nat}
theorem si_seq (ha : SE X G a f) : SI X G tg a (miSeq f) := by
  refine ⟨fun Wi tk => (PI.or (pi_list (ha.run Wi tk)) (PI.or (pi_tup (ha.run Wi tk)) (pi_str (ha.run Wi tk)))).imp ?_⟩
  rintro σ H R ⟨η, S, γ, he, hs, q⟩
  have key : Post X.K G (Rep X.K G) (fun c d H' => Wi c d σ H') γ H (f η S) (fun v H1 => ∃ w S1 γ1, Ext γ H γ1 H1 ∧ Rep X.K G γ1 H1 w v ∧ StoreOk X.K G γ1 H1 S1 ∧ PostI X.K G (fun c d H' => Wi c d σ H') γ1 H1 (rOpt (seqI w) S1) R) := PostI.seq q
  cases ef : f η S with
  | ok w S1 =>
    rw [ef] at key
    cases w with
    | lst xs =>
      refine .inl ⟨η, S, γ, he, hs, ?_⟩
      rw [ef]
      intro v γ1 H1 e1 r1 s1
      have q' : PostI X.K G (fun c d H' => Wi c d σ H') γ H ((f η S).bind fun w S1 => rOpt (seqI w) S1) R := q
      rw [ef] at q'
      cases r1 with
      | lst h1 o1 q1 => exact ⟨_, rfl, ⟨_, SqL.of h1⟩, q' _ γ1 H1 e1 s1 (itOk_list (fun e => .inl (e.rd (.inl h1) o1).1) q1)⟩
    | scr xs =>
      refine .inl ⟨η, S, γ, he, hs, ?_⟩
      rw [ef]
      intro v γ1 H1 e1 r1 s1
      have q' : PostI X.K G (fun c d H' => Wi c d σ H') γ H ((f η S).bind fun w S1 => rOpt (seqI w) S1) R := q
      rw [ef] at q'
      cases r1 with
      | scr h1 q1 => exact ⟨_, rfl, ⟨_, h1.sq⟩, q' _ γ1 H1 e1 s1 (itOk_list (fun e => (h1.monoW e).sq) q1)⟩
    | tup xs =>
      refine .inr (.inl ⟨η, S, γ, he, hs, ?_⟩)
      rw [ef]
      intro v γ1 H1 e1 r1 s1
      have q' : PostI X.K G (fun c d H' => Wi c d σ H') γ H ((f η S).bind fun w S1 => rOpt (seqI w) S1) R := q
      rw [ef] at q'
      cases r1 with
      | tup h1 q1 => exact ⟨_, rfl, ⟨_, h1.sq⟩, q' _ γ1 H1 e1 s1 (itOk_tup h1 q1)⟩
    | str l =>
      refine .inr (.inr ⟨η, S, γ, he, hs, ?_⟩)
      rw [ef]
      intro v γ1 H1 e1 r1 s1
      have q' : PostI X.K G (fun c d H' => Wi c d σ H') γ H ((f η S).bind fun w S1 => rOpt (seqI w) S1) R := q
      rw [ef] at q'
      cases r1 with
      | str _ h1 h2 => exact ⟨_, rfl, q' _ γ1 H1 e1 s1 (itOk_str h1)⟩
    | _ =>
      exfalso
      have q' : PostI X.K G (fun c d H' => Wi c d σ H') γ H ((f η S).bind fun w S1 => rOpt (seqI w) S1) R := q
      rw [ef] at q'
      exact q'
  | exc c x S1 =>
    refine .inl ⟨η, S, γ, he, hs, ?_⟩
    have q' : PostI X.K G (fun c d H' => Wi c d σ H') γ H ((f η S).bind fun w S1 => rOpt (seqI w) S1) R := q
    rw [ef] at q' ⊢
    exact q'
  | stuck =>
    exfalso
    have q' : PostI X.K G (fun c d H' => Wi c d σ H') γ H ((f η S).bind fun w S1 => rOpt (seqI w) S1) R := q
    rw [ef] at q'
    exact q'
def rangeW (lo : Int) (n : Nat) : List W := (List.range n).map fun (i : Nat) => W.int (lo + i)
def rng1 : List W → Option (List W)
  | [.int j] => if -4611686018427387904 ≤ j ∧ j < 4611686018427387904 then some (rangeW 0 j.toNat) else none
  | _ => none
def miRng (o : List W → Option (List W)) (ga : MA) : MI := fun η S => (ga η S).bind fun ws S1 => rOpt (o ws) S1
theorem si_range1 (hm : X.mg "range" = none) (ha : SA X G [a] ga) (hg : Gl X "range" := by rfl) (hs : starEach [a] X.env = [(false, eval a X.env)] := by rfl) : SI X G tg (.Call (.Name "range" p) [a] [] pos) (miRng rng1 ga) := by
  refine ⟨fun Wi tk => (pi_range1 hg hm (ha.run Wi tk) hs).imp ?_⟩
  rintro σ H R ⟨η, S, γ, he, hs, q⟩
  refine ⟨η, S, γ, he, hs, (PostI.seq q).imp fun x H1 ⟨wx, S1, γ1, e1, r1, s1, q1⟩ => ?_⟩
  unfold rng1 at q1
  split at q1
  · split at q1
    · rename_i hj
      cases r1 with
      | cons r r1 =>
        cases r1
        cases r
        exact ⟨_, rfl, by omega, by omega, q1 _ γ1 H1 Ext.refl s1 itOk_range⟩
    · exact q1.elim
  · exact q1.elim
theorem postS_turn {K : PySem.W.Frag} {Wi : WX} {γ : Ga} {H : Hp} {D : Ends} {r : RS} {k : MS} {N : L2.St → Hp → Prop}
    (hN : ∀ η2 S2 γ2 σ2 H2, EnvOk K G γ2 H2 η2 σ2 → StoreOk K G γ2 H2 S2 → Ext γ H γ2 H2 → PostS K G Wi γ2 H2 (k η2 S2) D → N σ2 H2)
    (h : PostS K G Wi γ H (match r with
      | .nx η2 S2 => k η2 S2
      | .ct η2 S2 => k η2 S2
      | .bk η2 S2 => .nx η2 S2
      | r => r) D) : PostS K G Wi γ H r { D with nx := N, ct := N, bk := D.nx } := by
  cases r with
  | nx η' S' => exact fun σ' γ' H' e q s => hN η' S' γ' σ' H' q s e (PostS.base e h)
  | bk η' S' => exact h
  | ct η' S' => exact fun σ' γ' H' e q s => hN η' S' γ' σ' H' q s e (PostS.base e h)
  | ret w S' => exact h
  | exc c x η' S' => exact h
  | stuck => exact h
theorem for_turns {K : PySem.W.Frag} {Wi : WX} {γ0 : Ga} {H0 : Hp} {J : It} {xs : List W} {D : Ends} {η0 : Env} {S0 : Store} {σ0 : L2.St} (ok : ItOk K G J xs γ0 H0) (he : EnvOk K G γ0 H0 η0 σ0) (hs : StoreOk K G γ0 H0 S0)
    (h : PostS K G Wi γ0 H0 (forL g m xs η0 S0) D) : ∃ Wv : Nat → Nat → L2.St → Hp → Prop, (∃ k, Wv 0 k σ0 H0) ∧ ∀ i k σ H, Wv i k σ H →
      (J.stop i H ∧ D.nx σ H) ∨ (J.go i H ∧ ∃ N : L2.St → Hp → Prop, (∀ σ' H', N σ' H' → ∃ k', k' < k ∧ Wv (i + 1) k' σ' H') ∧ ∀ x H', J.yld i H x H' → tgOf K G is g x σ H' fun σ2 H2 => tsOf K G Wi m { D with nx := N, ct := N, bk := D.nx } σ2 H2) := by
  refine ⟨fun i k σ H => k = xs.length - i ∧ i ≤ xs.length ∧ ∃ η S γ, EnvOk K G γ H η σ ∧ StoreOk K G γ H S ∧ Ext γ0 H0 γ H ∧ PostS K G Wi γ H (forL g m (xs.drop i) η S) D, ⟨xs.length, rfl, Nat.zero_le _, η0, S0, γ0, he, hs, Ext.refl, h⟩, ?_⟩
  rintro i k σ H ⟨rfl, hi, η, S, γ, he, hs, ex, q⟩
  by_cases hlt : i < xs.length
  · refine .inr ⟨ok.go i γ H S hlt ex.w hs, _, fun σ' H' z => ⟨xs.length - (i + 1), by omega, z⟩, fun x H' y => ?_⟩
    obtain ⟨e1, s1, r1⟩ := ok.yld i xs[i] γ H S x H' (List.getElem?_eq_getElem hlt) ex.w hs y
    rw [List.drop_eq_getElem_cons hlt] at q
    unfold forL at q
    cases eg : g xs[i] η S with
    | none =>
      rw [eg] at q
      exact q.elim
    | some z =>
      obtain ⟨η1, S1⟩ := z
      rw [eg] at q
      refine ⟨η, S, γ, xs[i], η1, S1, he.mono e1, s1, r1, eg, fun σ2 γ2 H2 e2 he2 s2 _ _ => ⟨η1, S1, γ2, he2, s2, ?_⟩⟩
      refine postS_turn (k := forL g m (xs.drop (i + 1))) (fun η3 S3 γ3 σ3 H3 he3 s3 e3 q3 => ⟨rfl, hlt, η3, S3, γ3, he3, s3, ((ex.trans e1).trans e2).trans e3, q3⟩) (PostS.base (e1.trans e2) q)
  · have e : i = xs.length := by omega
    subst e
    rw [List.drop_length] at q
    exact .inl ⟨ok.stop γ H S ex.w hs, q σ γ H Ext.refl he hs⟩
theorem ss_for {sts : List Stmt} (cf : Cfg X) (hi : SI X G tg a it) (hg : SG X G tg is g) (hb : SSs X G sts m) (hs : ∀ x, foldedSetIterable a X.env x = pure x := by intro _; rfl) : SS X G (.For tg a sts [] pos) (sFor it g m) := by
  refine ⟨fun Wi tk => (ps_for cf.own cf.calm (hi.run Wi tk) hg.run (hb.run Wi tk) hs).imp ?_⟩
  rintro D σ H ⟨η, S, γ, he, hs, q⟩
  refine ⟨η, S, γ, he, hs, ?_⟩
  have q : PostS X.K G Wi γ H ((it η S).toS η fun xs S1 => forL g m xs η S1) D := q
  cases ei : it η S with
  | ok xs S1 =>
    rw [ei] at q
    intro J γ1 H1 e1 s1 ok
    exact for_turns ok (he.mono e1) s1 (PostS.base e1 q)
  | exc c x S1 =>
    rw [ei] at q
    exact fun v d γ' H' e r s hd => q v d σ γ' H' e (he.mono e) r s hd
  | stuck =>
    rw [ei] at q
    exact q.elim
end
end Mp
namespace Mp
open PySem PySem.Spec PyProof.Rows L2
section
variable {K : PySem.W.Frag} {G : Gs} {γ : Ga} {H : Hp} {S : Store} {D : Addr} {o : HO}
theorem Ga.Off.ne {a : Addr} (z : γ.Off a) (h : D ∈ γ.β) : a ≠ D := fun e => z.2 (by rw [e]; exact h)
mutual
theorem Rep.busy (h : D ∈ γ.β) (n : D ∉ γ.ρ) : ∀ {w : W} {v : V}, Rep K G γ H w v → Rep K G γ (upd H D o) w v
  | _, _, .non => .non
  | _, _, .bl b => .bl b
  | _, _, .int i => .int i
  | _, _, .str s h1 h2 => .str s h1 h2
  | _, _, .tup f r => .tup (by
      rcases f with ⟨f, z⟩ | f
      · have ne : ∀ {a : Addr}, γ.Off a → a ≠ D := fun z e => z.2 (e ▸ h)
        refine .inl ⟨?_, z⟩
        rcases f with f | ⟨ob, f⟩
        · exact .inl (by rw [upd_ne (z.ne h)]; exact f)
        · exact .inr ⟨ob, by rw [upd_ne (z.ne h)]; exact f⟩
      · exact .inr f) (Reps.busy h n r)
  | _, _, .lst f z r => .lst (by rw [upd_ne (z.ne h)]; exact f) z (Reps.busy h n r)
  | _, _, .scr f r => .scr (by
      rcases f with ⟨⟨ob, f⟩, z⟩ | f
      · exact .inl ⟨⟨ob, by rw [upd_ne (z.ne h)]; exact f⟩, z⟩
      · exact .inr f) (Reps.busy h n r)
  | _, _, .ref f => .ref f
  | _, _, .fn f => .fn f
  | _, _, .dct d z r => .dct (d.keep fun ob f => by rw [upd_ne (z.ne h)]; exact f) z (Reps.busy h n r)
  | _, _, .exc f z r => .exc (by rw [upd_ne (z.ne h)]; exact f) z (Rep.busy h n r)
theorem Reps.busy (h : D ∈ γ.β) (n : D ∉ γ.ρ) : ∀ {w : List W} {v : List V}, Reps K G γ H w v → Reps K G γ (upd H D o) w v
  | _, _, .nil => .nil
  | _, _, .cons r t => .cons (Rep.busy h n r) (Reps.busy h n t)
end
mutual
theorem Rep.shrink {γ' : Ga} (hρ : γ'.ρ = γ.ρ) (f : ∀ a o, H a = some o → γ.Off a → γ'.Off a) : ∀ {w : W} {v : V}, Rep K G γ H w v → Rep K G γ' H w v
  | _, _, .non => .non
  | _, _, .bl b => .bl b
  | _, _, .int i => .int i
  | _, _, .str s h1 h2 => .str s h1 h2
  | _, _, .tup h r => .tup (by
      rcases h with ⟨h, q⟩ | h
      · refine .inl ⟨h, ?_⟩
        rcases h with h | ⟨o, h⟩
        · exact f _ _ h q
        · exact f _ _ h q
      · exact .inr h) (Reps.shrink hρ f r)
  | _, _, .lst h q r => .lst h (f _ _ h q) (Reps.shrink hρ f r)
  | _, _, .scr h r => .scr (by
      rcases h with ⟨⟨o, h⟩, q⟩ | h
      · exact .inl ⟨⟨o, h⟩, f _ _ h q⟩
      · exact .inr h) (Reps.shrink hρ f r)
  | _, _, .ref h => .ref (by rw [hρ]; exact h)
  | _, _, .fn f => .fn f
  | _, _, .dct d q r => .dct d (f _ _ d.some.choose_spec q) (Reps.shrink hρ f r)
  | _, _, .exc h q r => .exc h (f _ _ h q) (Rep.shrink hρ f r)
theorem Reps.shrink {γ' : Ga} (hρ : γ'.ρ = γ.ρ) (f : ∀ a o, H a = some o → γ.Off a → γ'.Off a) : ∀ {ws : List W} {vs : List V}, Reps K G γ H ws vs → Reps K G γ' H ws vs
  | _, _, .nil => .nil
  | _, _, .cons r t => .cons (Rep.shrink hρ f r) (Reps.shrink hρ f t)
end
theorem StoreOk.busy {o : HO} (s : StoreOk K G γ H S) (h : D ∈ γ.β) (nt : ∀ xs, o ≠ .tup xs := by intro _ z; cases z) : StoreOk K G γ (L2.upd H D o) S := by
  have n := (s.bt D h).1
  refine ⟨s.len, s.nd, fun i c a hc ha => ?_, fun a ha => ⟨(s.bt a ha).1, ?_⟩⟩
  · have q := s.cell i c a hc ha
    have ne : a ≠ D := fun e => n (e ▸ List.mem_of_getElem? ha)
    cases c with
    | lst ys =>
      obtain ⟨p1, us, hv, r'⟩ := q
      exact ⟨p1, us, by rw [upd_ne ne]; exact hv, Reps.busy h n r'⟩
    | dct _ _ => exact q.to (fun ob f => by rw [upd_ne ne]; exact f) fun _ r => Reps.busy h n r
    | ins _ _ => exact q.elim
  · by_cases z : a = D
    · exact ⟨o, by rw [z]; exact upd_same, nt⟩
    · obtain ⟨u, q, n2⟩ := (s.bt a ha).2
      exact ⟨u, by rw [upd_ne z]; exact q, n2⟩
theorem wipe_same {σ σ' : L2.St} : ∀ {own is : List Nat}, (∀ i ∈ is, i ∈ own) → σ'.length = σ.length → (∀ i, i ∉ is → σ'[i]? = σ[i]?) → wipe σ' own = wipe σ own := by
  have at_ : ∀ (τ : L2.St) (own : List Nat) (i : Nat), (wipe τ own)[i]? = if i ∈ own ∧ i < τ.length then some none else τ[i]? := by
    intro τ own
    induction own with
    | nil => intro i; simp [wipe]
    | cons j own ih =>
      intro i
      show ((wipe τ own).set j none)[i]? = _
      by_cases hj : j = i
      · subst hj
        by_cases hl : j < τ.length
        · rw [List.getElem?_set_self (by rw [wipe_length]; exact hl), if_pos ⟨List.mem_cons_self .., hl⟩]
        · rw [if_neg (fun z => hl z.2), List.getElem?_eq_none (by rw [List.length_set, wipe_length]; omega), List.getElem?_eq_none (by omega)]
      · rw [List.getElem?_set_ne hj, ih i]
        by_cases hm : i ∈ own
        · by_cases hl : i < τ.length
          · rw [if_pos ⟨hm, hl⟩, if_pos ⟨List.mem_cons_of_mem _ hm, hl⟩]
          · rw [if_neg (fun z => hl z.2), if_neg (fun z => hl z.2)]
        · rw [if_neg (fun z => hm z.1), if_neg (fun z => (List.mem_cons.mp z.1).elim (fun q => hj q.symm) hm)]
  intro own is h1 h2 h3
  refine List.ext_getElem? fun i => ?_
  rw [at_, at_, h2]
  by_cases hm : i ∈ own ∧ i < σ.length
  · rw [if_pos hm, if_pos hm]
  · rw [if_neg hm, if_neg hm]
    by_cases hi : i ∈ is
    · have hl : ¬ i < σ.length := fun z => hm ⟨h1 i hi, z⟩
      rw [List.getElem?_eq_none (by omega), List.getElem?_eq_none (by omega)]
    · exact h3 i hi
theorem wipe_wipe {σ : L2.St} {own : List Nat} : wipe (wipe σ own) own = wipe σ own := by
  refine List.ext_getElem? fun i => ?_
  have at_ : ∀ (τ : L2.St) (own : List Nat) (i : Nat), (wipe τ own)[i]? = if i ∈ own ∧ i < τ.length then some none else τ[i]? := by
    intro τ own
    induction own with
    | nil => intro i; simp [wipe]
    | cons j own ih =>
      intro i
      show ((wipe τ own).set j none)[i]? = _
      by_cases hj : j = i
      · subst hj
        by_cases hl : j < τ.length
        · rw [List.getElem?_set_self (by rw [wipe_length]; exact hl), if_pos ⟨List.mem_cons_self .., hl⟩]
        · rw [if_neg (fun z => hl z.2), List.getElem?_eq_none (by rw [List.length_set, wipe_length]; omega), List.getElem?_eq_none (by omega)]
      · rw [List.getElem?_set_ne hj, ih i]
        by_cases hm : i ∈ own
        · by_cases hl : i < τ.length
          · rw [if_pos ⟨hm, hl⟩, if_pos ⟨List.mem_cons_of_mem _ hm, hl⟩]
          · rw [if_neg (fun z => hl z.2), if_neg (fun z => hl z.2)]
        · rw [if_neg (fun z => hm z.1), if_neg (fun z => (List.mem_cons.mp z.1).elim (fun q => hj q.symm) hm)]
  rw [at_, at_, wipe_length]
  by_cases hm : i ∈ own ∧ i < σ.length
  · rw [if_pos hm, if_pos hm]
  · rw [if_neg hm, if_neg hm]
theorem EnvOk.wipe {η : Env} {σ : L2.St} (he : EnvOk K G γ H η σ) : ∀ own : List Nat, EnvOk K G γ H (wipeE η own) (L2.wipe σ own)
  | [] => he
  | i :: own => by
    have ih := EnvOk.wipe he own
    refine ⟨by unfold wipeE L2.wipe; rw [List.length_set, List.length_set]; exact ih.1, fun j w hj => ?_⟩
    unfold wipeE at hj
    unfold L2.wipe
    by_cases hij : i = j
    · subst hij
      have hl := (List.getElem?_eq_some_iff.mp hj).1
      rw [List.length_set] at hl
      rw [List.getElem?_set_self hl] at hj
      cases hj
    · rw [List.getElem?_set_ne hij] at hj ⊢
      exact ih.2 j w hj
end
end Mp
namespace Mp
open PySem PySem.Spec PyProof.Rows L2
/-- the tests of a comprehension -/
structure STs (X : Cx) (G : Gs) (es : List Expr) (f : MT) : Prop where
  run : ∀ Wi, Takes X Wi → PTs X es (ttOf X.K G Wi f)
theorem sts_nil {X : Cx} {G : Gs} : STs X G [] mtYes := ⟨fun Wi tk => ⟨fun pins s σ H Q I q => by
  obtain ⟨η, S, γ, he, hs, q⟩ := q
  exact pts_nil.run pins s σ H Q I (q true γ H Ext.refl rfl hs)⟩⟩
theorem sts_one {X : Cx} {G : Gs} {a : Expr} {t : MT} (h : ST X G a t) : STs X G [a] t := ⟨fun Wi tk => pts_one (h.run Wi tk)⟩
theorem Cfg.blk {X : Cx} (cf : Cfg X) (s : Shared) (H : Hp) (scope : Scope) (env : PySem.Env) (fp : List Addr) : Cfg (X.blk s H scope env fp) := ⟨cf.calm, cf.nd, PassesOwn.never, cf.un⟩
end Mp
namespace Mp
open PySem PySem.Spec PyProof.Rows L2
section
variable {X : Cx} {G : Gs} {tg iter elt : Expr} {ifs : List Expr} {scope : Scope} {f : ME} {g : MG} {t : MT} {it : MI} {is : List Nat} {own : List (Str × Nat)} {pos : Pos}
/-- a turn after another -/
theorem lc_turns {K : PySem.W.Frag} {γ0 : Ga} {H0 : Hp} {J : It} {xs : List W} {η : Env} {S0 : Store} {σ : L2.St} {wsF : List W} {SF : Store} {Wx' : Wx} {Q : VK} {vs : List Nat} (ok : ItOk K G J xs γ0 H0) (he : EnvOk K G γ0 H0 η σ) (hs : StoreOk K G γ0 H0 S0)
    (his : ∀ i ∈ is, i ∈ vs) (h : compL g t f (wipeE η vs) xs S0 [] = .ok wsF SF) (hQ : ∀ v γ' H', Ext γ0 H0 γ' H' → Rep K G γ' H' (.lst wsF) v → StoreOk K G γ' H' SF → Q v H') :
    ∀ D, H0 D = none → ∃ Wv : Nat → Nat → Hp → Prop, (∃ m, Wv 0 m (L2.upd H0 D (.lst []))) ∧ ∀ i m H, Wv i m H →
      (J.stop i H ∧ Q (.ref D) H) ∨ (J.go i H ∧ ∃ Nx : Hp → Prop, (∀ H', Nx H' → ∃ m', m' < m ∧ Wv (i + 1) m' H') ∧ ∀ x H', J.yld i H x H' → tgOf K G is g x (wipe σ vs) H' fun σ2 H2 => wipe σ2 vs = wipe σ vs ∧ ttOf K G (fun _ _ _ _ => False) t σ2 H2 fun b H3 =>
        if b = true then tOf K G (fun _ _ _ _ => False) f σ2 H3 fun y H4 => ∃ acc, H4 D = some (.lst acc) ∧ acc.length < sizeLine ∧ Nx (L2.upd H4 D (.lst (acc ++ [y]))) else Nx H3) := by
  intro D hD
  refine ⟨fun i m H => m = xs.length - i ∧ i ≤ xs.length ∧ ∃ S γ acc us, StoreOk K G γ H S ∧ Ext γ0 H0 γ H ∧ D ∈ γ.β ∧ H D = some (.lst us) ∧ Reps K G γ H acc us ∧ compL g t f (wipeE η vs) (xs.drop i) S acc = .ok wsF SF, ⟨xs.length, rfl, Nat.zero_le _, ?_⟩, ?_⟩
  · have off := hs.fresh hD
    refine ⟨S0, ⟨γ0.ρ, D :: γ0.β⟩, [], [], ?_, ?_, List.mem_cons_self .., upd_same, .nil, h⟩
    · have s1 := hs.upd (o := .lst []) hD
      refine ⟨s1.len, s1.nd, fun i c a hc ha => ?_, fun a ha => ?_⟩
      · have q := s1.cell i c a hc ha
        cases c with
        | lst ys =>
          obtain ⟨p1, us, hv, r'⟩ := hs.cell i _ a hc ha
          refine ⟨p1, us, by rw [upd_ne (ne_of_none hv hD)]; exact hv, r'.mono ?_⟩
          exact ⟨List.prefix_refl _, fun b hb => List.mem_cons_of_mem _ hb, fun b hb => (List.mem_cons.mp hb).elim (fun z => .inr (by rw [z]; exact hD)) .inl, fun b u e _ => by rw [upd_ne (ne_of_none e hD)]; exact e, fun _ h1 h2 => absurd h1 h2, fun b u e => ⟨u, by rw [upd_ne (ne_of_none e hD)]; exact e⟩⟩
        | dct _ _ => exact (hs.cell i _ a hc ha).to (fun o f => by rw [upd_ne (ne_of_none f hD)]; exact f) fun _ r => by refine r.mono ?_; exact ⟨List.prefix_refl _, fun b hb => List.mem_cons_of_mem _ hb, fun b hb => (List.mem_cons.mp hb).elim (fun z => .inr (by rw [z]; exact hD)) .inl, fun b u e _ => by rw [upd_ne (ne_of_none e hD)]; exact e, fun _ h1 h2 => absurd h1 h2, fun b u e => ⟨u, by rw [upd_ne (ne_of_none e hD)]; exact e⟩⟩
        | ins _ _ => exact q.elim
      · rcases List.mem_cons.mp ha with z | z
        · rw [z]
          exact ⟨off.1, _, upd_same, fun _ z => nomatch z⟩
        · obtain ⟨n, o, q, nt⟩ := hs.bt a z
          exact ⟨n, o, by rw [upd_ne (ne_of_none q hD)]; exact q, nt⟩
    · exact ⟨List.prefix_refl _, fun b hb => List.mem_cons_of_mem _ hb, fun b hb => (List.mem_cons.mp hb).elim (fun z => .inr (by rw [z]; exact hD)) .inl, fun b u e _ => by rw [upd_ne (ne_of_none e hD)]; exact e, fun _ h1 h2 => absurd h1 h2, fun b u e => ⟨u, by rw [upd_ne (ne_of_none e hD)]; exact e⟩⟩
  · rintro i m H ⟨rfl, hi, S, γ, acc, us, s, ex, dβ, hus, racc, hc⟩
    by_cases hlt : i < xs.length
    · refine .inr ⟨ok.go i γ H S hlt ex.w s, _, fun H' z => ⟨xs.length - (i + 1), by omega, z⟩, fun x H' y => ?_⟩
      obtain ⟨e1, s1, r1⟩ := ok.yld i xs[i] γ H S x H' (List.getElem?_eq_getElem hlt) ex.w s y
      rw [List.drop_eq_getElem_cons hlt] at hc
      unfold compL at hc
      cases eg : g xs[i] (wipeE η vs) S with
      | none =>
        rw [eg] at hc
        cases hc
      | some z =>
        obtain ⟨η1, S1⟩ := z
        rw [eg] at hc
        refine ⟨wipeE η vs, S, γ, xs[i], η1, S1, ((he.mono ex).mono e1).wipe vs, s1, r1, eg, fun σ2 γ2 H2 e2 he2 s2 hl2 hn2 => ⟨?_, ?_⟩⟩
        · rw [wipe_same (σ := wipe σ vs) his hl2 hn2, wipe_wipe]
        · refine ⟨η1, S1, γ2, he2, s2, ?_⟩
          cases et : t η1 S1 with
          | stuck =>
            simp only [et] at hc
            cases hc
          | exc c x S2 =>
            simp only [et] at hc
            cases hc
          | ok b S2 =>
            simp only [et, R.bind] at hc
            intro b' γ3 H3 e3 rb s3
            cases rb
            have ext3 : Ext γ0 H0 γ3 H3 := ((ex.trans e1).trans e2).trans e3
            have d3 : D ∈ γ3.β := e3.bsub _ (e2.bsub _ (e1.bsub _ dβ))
            have hus3 : H3 D = some (.lst us) := by
              have k1 := e1.keep D _ hus (s.bt D dβ).1
              have k2 := e2.keep D _ k1 (s1.bt D (e1.bsub _ dβ)).1
              exact e3.keep D _ k2 (s2.bt D (e2.bsub _ (e1.bsub _ dβ))).1
            have racc3 := ((racc.mono e1).mono e2).mono e3
            cases b with
            | false =>
              rw [if_neg Bool.false_ne_true] at hc ⊢
              exact ⟨rfl, hlt, S2, γ3, acc, us, s3, ext3, d3, hus3, racc3, hc⟩
            | true =>
              rw [if_pos rfl] at hc ⊢
              refine ⟨η1, S2, γ3, he2.mono e3, s3, ?_⟩
              cases ee : f η1 S2 with
              | stuck =>
                simp only [ee] at hc
                cases hc
              | exc c x S3 =>
                simp only [ee] at hc
                cases hc
              | ok w S3 =>
                simp only [ee] at hc
                intro v γ4 H4 e4 r4 s4
                have d4 : D ∈ γ4.β := e4.bsub _ d3
                have hus4 : H4 D = some (.lst us) := e4.keep D _ hus3 (s3.bt D d3).1
                unfold sized at hc
                split at hc
                · rename_i hsz
                  rw [bigLine_eq] at hsz
                  have ll := racc3.length
                  refine ⟨us, hus4, by omega, rfl, hlt, S3, γ4, acc ++ [w], us ++ [v], s4.busy d4, ?_, d4, upd_same, ?_, hc⟩
                  · have x4 := ext3.trans e4
                    have na : ∀ {a : Addr} {o : HO}, H0 a = some o → a ≠ D := fun q => ne_of_none q hD
                    exact ⟨x4.pre, x4.bsub, x4.bnew, fun a o q n => by rw [upd_ne (na q)]; exact x4.keep a o q n, x4.new, fun a o q => by
                      obtain ⟨o', q'⟩ := x4.dom a o q
                      exact ⟨o', by rw [upd_ne (na q)]; exact q'⟩⟩
                  · have n4 := (s4.bt D d4).1
                    exact (Reps.busy d4 n4 (racc3.mono e4)).append (.one (Rep.busy d4 n4 r4))
                · cases hc
    · have e : i = xs.length := by omega
      subst e
      rw [List.drop_length] at hc
      cases hc
      refine .inl ⟨ok.stop γ H _ ex.w s, ?_⟩
      have nD := (s.bt D dβ).1
      have fr : Ext γ0 H0 ⟨γ.ρ, γ.β.filter (fun a => decide (a ≠ D))⟩ H := by
        refine ⟨ex.pre, fun a ha => ?_, fun a ha => ex.bnew a (List.mem_filter.mp ha).1, ex.keep, ex.new, ex.dom⟩
        refine List.mem_filter.mpr ⟨ex.bsub a ha, ?_⟩
        obtain ⟨_, o, q, _⟩ := hs.bt a ha
        exact decide_eq_true (ne_of_none q hD)
      have up : Ext γ H ⟨γ.ρ, γ.β.filter (fun a => decide (a ≠ D))⟩ H → True := fun _ => trivial
      have lessO : ∀ (a : Addr) (o : HO), H a = some o → γ.Off a → Ga.Off ⟨γ.ρ, γ.β.filter (fun a => decide (a ≠ D))⟩ a := fun a o _ z => ⟨z.1, fun q => z.2 (List.mem_filter.mp q).1⟩
      have shr : ∀ {w : W} {v : V}, Rep K G γ H w v → Rep K G ⟨γ.ρ, γ.β.filter (fun a => decide (a ≠ D))⟩ H w v := fun r => Rep.shrink (γ := γ) (γ' := ⟨γ.ρ, γ.β.filter (fun a => decide (a ≠ D))⟩) rfl lessO r
      have shrs : ∀ {w : List W} {v : List V}, Reps K G γ H w v → Reps K G ⟨γ.ρ, γ.β.filter (fun a => decide (a ≠ D))⟩ H w v := fun r => Reps.shrink (γ := γ) (γ' := ⟨γ.ρ, γ.β.filter (fun a => decide (a ≠ D))⟩) rfl lessO r
      refine hQ (.ref D) _ H fr (.lst hus ⟨nD, fun q => ?_⟩ (shrs racc)) ⟨s.len, s.nd, fun i c a hc ha => ?_, fun a ha => s.bt a (List.mem_filter.mp ha).1⟩
      · have := (List.mem_filter.mp q).2
        simp at this
      · have q := s.cell i c a hc ha
        cases c with
        | lst ys =>
          obtain ⟨p1, us', hv, r'⟩ := q
          exact ⟨p1, us', hv, shrs r'⟩
        | dct _ _ => exact q.to (fun _ f => f) fun _ r => shrs r
        | ins _ _ => exact q.elim
theorem comp_read {Wi : WX} {Q : VK} {σ : L2.St} {H : Hp} (his : ∀ i ∈ is, i ∈ own.map (·.2)) (q : tOf X.K G Wi (mComp it (own.map (·.2)) g t f) σ H Q) :
    tLc (tiOf X.K G Wi it) (tgOf X.K G is g) (ttOf X.K G (fun _ _ _ _ => False) t) (tOf X.K G (fun _ _ _ _ => False) f) (own.map (·.2)) σ H Q := by
  obtain ⟨η, S, γ, he, hs, q⟩ := q
  refine ⟨η, S, γ, he, hs, ?_⟩
  have q : Post X.K G (Rep X.K G) (fun c d H' => Wi c d σ H') γ H ((it η S).bind fun xs S1 => (noexc (compL g t f (wipeE η (own.map (·.2))) xs S1 [])).bind fun ws S2 => .ok (.lst ws) S2) Q := q
  cases ei : it η S with
  | stuck =>
    rw [ei] at q
    exact q.elim
  | exc c x S1 =>
    rw [ei] at q
    exact q
  | ok xs S1 =>
    rw [ei] at q
    intro J γ1 H1 e1 s1 ok
    have q : Post X.K G (Rep X.K G) (fun c d H' => Wi c d σ H') γ H ((noexc (compL g t f (wipeE η (own.map (·.2))) xs S1 [])).bind fun ws S2 => .ok (.lst ws) S2) Q := q
    cases ec : compL g t f (wipeE η (own.map (·.2))) xs S1 [] with
    | stuck =>
      rw [ec] at q
      exact q.elim
    | exc c x S2 =>
      rw [ec] at q
      exact q.elim
    | ok ws S2 =>
      rw [ec] at q
      exact lc_turns (Wx' := fun _ _ _ => False) ok (he.mono e1) s1 his ec fun v γ' H' e r s => q v γ' H' (e1.trans e) r s
theorem se_comp (own : List (Str × Nat)) (cf : Cfg X) (hi : SI X G tg iter it) (ok : BlkOk X.N X.env.scope scope own)
    (hg : ∀ (s : Shared) (H : Hp) (C : Addr) (cl : List (Str × Addr)) (fp : List Addr), Cfg (X.blk s H scope (compEnvC scope cl C X.env) fp) → SG (X.blk s H scope (compEnvC scope cl C X.env) fp) G tg is g)
    (ht : ∀ (s : Shared) (H : Hp) (C : Addr) (cl : List (Str × Addr)) (fp : List Addr), Cfg (X.blk s H scope (compEnvC scope cl C X.env) fp) → STs (X.blk s H scope (compEnvC scope cl C X.env) fp) G ifs t)
    (he : ∀ (s : Shared) (H : Hp) (C : Addr) (cl : List (Str × Addr)) (fp : List Addr), Cfg (X.blk s H scope (compEnvC scope cl C X.env) fp) → SE (X.blk s H scope (compEnvC scope cl C X.env) fp) G elt f)
    (his : ∀ i ∈ is, i ∈ own.map (·.2) := by decide) (hs : ∀ x, foldedSetIterable iter X.env x = pure x := by intro _; rfl) :
    SE X G (.ListComp elt [⟨tg, iter, ifs, 0⟩] scope pos) (mComp it (own.map (·.2)) g t f) := by
  refine ⟨fun Wi tk => (pe_lc (g := tgOf X.K G is g) (tt := ttOf X.K G (fun _ _ _ _ => False) t) (te := tOf X.K G (fun _ _ _ _ => False) f) cf.calm cf.nd (hi.run Wi tk) ok (fun s H C cl fp => (hg s H C cl fp (cf.blk ..)).run) (fun s H C cl fp => (ht s H C cl fp (cf.blk ..)).run _ takes0) (fun s H C cl fp => (he s H C cl fp (cf.blk ..)).run _ takes0) hs).imp ?_⟩
  intro σ H Q q
  exact comp_read his q
theorem ss_setLc {y : Str} {py : Pos} {spos : Pos} (i : Nat) (own : List (Str × Nat)) (cf : Cfg X) (hi : SI X G tg iter it) (ok : BlkOk X.N X.env.scope scope own)
    (hg : ∀ (s : Shared) (H : Hp) (C : Addr) (cl : List (Str × Addr)) (fp : List Addr), Cfg (X.blk s H scope (compEnvC scope cl C X.env) fp) → SG (X.blk s H scope (compEnvC scope cl C X.env) fp) G tg is g)
    (ht : ∀ (s : Shared) (H : Hp) (C : Addr) (cl : List (Str × Addr)) (fp : List Addr), Cfg (X.blk s H scope (compEnvC scope cl C X.env) fp) → STs (X.blk s H scope (compEnvC scope cl C X.env) fp) G ifs t)
    (he : ∀ (s : Shared) (H : Hp) (C : Addr) (cl : List (Str × Addr)) (fp : List Addr), Cfg (X.blk s H scope (compEnvC scope cl C X.env) fp) → SE (X.blk s H scope (compEnvC scope cl C X.env) fp) G elt f)
    (hy : X.N[i]? = some y := by rfl) (hyl : X.env.scope.names.lookup y = some .local := by rfl)
    (hsw : swapsWith (.ListComp elt [⟨tg, iter, ifs, 0⟩] scope pos) (some (.Name y py)) spos.line X.env = pure true := by exact sw_true rfl rfl rfl (by decide +kernel))
    (his : ∀ i ∈ is, i ∈ own.map (·.2) := by decide) (hs : ∀ x, foldedSetIterable iter X.env x = pure x := by intro _; rfl) :
    SS X G (.Assign [.Name y py] (.ListComp elt [⟨tg, iter, ifs, 0⟩] scope pos) spos) (sSet i (mComp it (own.map (·.2)) g t f)) := by
  refine ⟨fun Wi tk => (ps_setLc (i := i) (g := tgOf X.K G is g) (tt := ttOf X.K G (fun _ _ _ _ => False) t) (te := tOf X.K G (fun _ _ _ _ => False) f) cf.calm cf.nd hy hyl hsw (hi.run Wi tk) ok (fun s H C cl fp => (hg s H C cl fp (cf.blk ..)).run) (fun s H C cl fp => (ht s H C cl fp (cf.blk ..)).run _ takes0) (fun s H C cl fp => (he s H C cl fp (cf.blk ..)).run _ takes0) hs).imp ?_⟩
  rintro D σ H ⟨η, S, γ, he, hs, q⟩
  refine comp_read his ⟨η, S, γ, he, hs, (PostS.expr he q).imp fun v H1 ⟨w, S1, γ1, e1, r1, s1, q1⟩ => q1 _ γ1 H1 Ext.refl ((he.mono e1).set r1 i) s1⟩
end
end Mp
namespace Mp
open PySem PySem.Spec PyProof.Rows L2
/-- a function's promise: what φ gives -/
def spF (K : PySem.W.Frag) (G : Gs) (np : Nat) (φ : List W → Store → R W) : Sp := fun vs H Q E => vs.length = np ∧ ∃ ws S γ, Reps K G γ H ws vs ∧ StoreOk K G γ H S ∧ Post K G (Rep K G) E γ H (φ ws S) Q
end Mp
namespace Mp
open PySem PySem.Spec PyProof.Rows L2
section
variable {K : PySem.W.Frag} {G : Gs} {γ γ' : Ga} {H H' : Hp} {S S' : Store} {D : Ends} {Q : VK} {E : XK}
/-- what a call leaves: the store's old part -/
theorem cut_ok (s : StoreOk K G γ H S) (e : Ext γ H γ' H') (s' : StoreOk K G γ' H' S') : Ext γ H ⟨γ.ρ, γ'.β⟩ H' ∧ StoreOk K G ⟨γ.ρ, γ'.β⟩ H' (S'.take S.length) ∧ ∀ a o, H' a = some o → γ'.Off a → Ga.Off ⟨γ.ρ, γ'.β⟩ a := by
  have sub : ∀ a ∈ γ.ρ, a ∈ γ'.ρ := fun a h => e.pre.subset h
  have less : ∀ a o, H' a = some o → γ'.Off a → Ga.Off ⟨γ.ρ, γ'.β⟩ a := fun a o _ z => ⟨fun q => z.1 (sub a q), z.2⟩
  refine ⟨⟨List.prefix_refl _, e.bsub, e.bnew, e.keep, fun _ h1 h2 => absurd h1 h2, e.dom⟩, ⟨?_, s.nd, fun i c a hc ha => ?_, fun a ha => ⟨fun q => (s'.bt a ha).1 (sub a q), (s'.bt a ha).2⟩⟩, less⟩
  · have l1 := e.pre.length_le
    rw [s.len, s'.len] at l1
    rw [List.length_take]
    show γ.ρ.length = _
    rw [s.len]
    omega
  · have hi : i < S.length := by
      have := (List.getElem?_eq_some_iff.mp hc).1
      rw [List.length_take] at this
      omega
    rw [List.getElem?_take_of_lt hi] at hc
    have ha' : γ'.ρ[i]? = some a := by
      obtain ⟨t, q⟩ := e.pre
      rw [← q, List.getElem?_append_left (List.getElem?_eq_some_iff.mp ha).1]
      exact ha
    have q := s'.cell i c a hc ha'
    cases c with
    | lst xs =>
      obtain ⟨p, vs, hv, r⟩ := q
      exact ⟨p, vs, hv, Reps.less less p r⟩
    | dct _ _ => exact q.to (fun _ f => f) fun p r => Reps.less less p r
    | ins _ _ => exact q.elim
theorem fin_ok {Wi : WX} {keep : Bool} {r : RS} (hW : ∀ c d σ H', E c d H' → Wi c d σ H') (s : StoreOk K G γ H S) (h : Post K G (Rep K G) E γ H (finS keep S.length r) Q) : PostS K G Wi γ H r { nx := fun _ H' => Q .non H', rt := Q } := by
  cases r with
  | nx η' S' =>
    intro σ' γ' H' e _ s'
    obtain ⟨a, b, _⟩ := cut_ok s e s'
    exact h _ _ H' a .non b
  | bk η' S' => exact h.elim
  | ct η' S' => exact h.elim
  | stuck => exact h.elim
  | exc c x η' S' =>
    have h : Post K G (Rep K G) E γ H (if x.pure = true then .exc c x (S'.take S.length) else .stuck) Q := h
    split at h
    · rename_i px
      intro v d σ' γ' H' e _ r s' hd ho
      obtain ⟨a, b, less⟩ := cut_ok s e s'
      exact hW _ _ _ _ (h v d _ H' a (Rep.less less px r) b hd (less _ _ hd ho))
    · exact h.elim
  | ret w S' =>
    replace h : Post K G (Rep K G) E γ H (fin keep S.length w S') Q := h
    intro v γ' H' e r s'
    obtain ⟨a, bS, less⟩ := cut_ok s e s'
    unfold fin at h
    split at h
    · rename_i pw
      exact h v _ H' a (Rep.less less pw r) bS
    · rename_i hnp
      split at h
      · rename_i w i
        cases r with
        | @ref _ ad hr =>
        split at h
        · rename_i hi
          refine h _ _ H' a (.ref ?_) bS
          show γ.ρ[i]? = some ad
          obtain ⟨t, q⟩ := e.pre
          rw [← q, List.getElem?_append_left (by rw [s.len]; exact hi)] at hr
          exact hr
        · rename_i hi
          split at h
          · rename_i xs hc
            obtain ⟨_, vs, hv, rv⟩ := s'.cell i _ ad hc hr
            have hnot : ad ∉ γ.ρ := fun z => by
              obtain ⟨j, hj, ej⟩ := List.mem_iff_getElem.mp z
              have hj' : j < S.length := by rw [← s.len]; exact hj
              obtain ⟨t, q⟩ := e.pre
              have e1 : γ'.ρ[j]? = some ad := by rw [← q, List.getElem?_append_left hj, List.getElem?_eq_getElem hj, ej]
              obtain ⟨x1, x2⟩ := List.getElem?_eq_some_iff.mp e1
              obtain ⟨y1, y2⟩ := List.getElem?_eq_some_iff.mp hr
              have := (List.getElem_inj s'.nd).mp (x2.trans y2.symm)
              omega
            have hoff : ad ∉ γ'.β := fun z => (s'.bt ad z).1 (List.mem_of_getElem? hr)
            by_cases pxs : pures xs = true
            · rw [if_pos pxs] at h
              have rv' : Reps K G ⟨γ.ρ, γ'.β⟩ H' xs vs := Reps.less less pxs rv
              by_cases hkp : keep = true
              · rw [if_pos hkp] at h
                refine h (.ref ad) ⟨γ.ρ ++ [ad], γ'.β⟩ H' ⟨List.prefix_append _ _, a.bsub, a.bnew, a.keep, fun b hb hn => ?_, a.dom⟩ (.ref ?_) ⟨?_, ?_, fun j c b' hc' hb' => ?_, fun b hb => ⟨fun z => ?_, (bS.bt b hb).2⟩⟩
                · rcases List.mem_append.mp hb with z | z
                  · exact absurd z hn
                  · have z' : b = ad := by simpa using z
                    rw [z'] at hn ⊢
                    exact e.new ad (List.mem_of_getElem? hr) hn
                · show (γ.ρ ++ [ad])[S.length]? = some ad
                  rw [← s.len, List.getElem?_append_right (Nat.le_refl _), Nat.sub_self]
                  rfl
                · show (γ.ρ ++ [ad]).length = (S'.take S.length ++ [Cell.lst xs]).length
                  rw [List.length_append, List.length_append, ← bS.len]
                  rfl
                · show (γ.ρ ++ [ad]).Nodup
                  rw [List.nodup_append]
                  exact ⟨s.nd, by simp, fun b hb c hc => by
                    have z : c = ad := by simpa using hc
                    rw [z]
                    rintro rfl
                    exact hnot hb⟩
                · have lessK : ∀ b o, H' b = some o → Ga.Off ⟨γ.ρ, γ'.β⟩ b → b ≠ ad → Ga.Off ⟨γ.ρ ++ [ad], γ'.β⟩ b := fun b o _ z ne => ⟨fun q => (List.mem_append.mp q).elim z.1 fun q => ne (by simpa using q), z.2⟩
                  have lessT : ∀ b o, H' b = some o → γ'.Off b → Ga.Off ⟨γ.ρ ++ [ad], γ'.β⟩ b := fun b o hb z => lessK b o hb (less b o hb z) fun q => z.1 (by rw [q]; exact List.mem_of_getElem? hr)
                  have ll : (S'.take S.length).length = S.length := by rw [← bS.len]; exact s.len
                  by_cases hj : j < S.length
                  · rw [List.getElem?_append_left (by rw [ll]; exact hj)] at hc'
                    have hb2 : γ.ρ[j]? = some b' := by
                      have z : (γ.ρ ++ [ad])[j]? = some b' := hb'
                      rwa [List.getElem?_append_left (by rw [s.len]; exact hj)] at z
                    rw [List.getElem?_take_of_lt hj] at hc'
                    have hb3 : γ'.ρ[j]? = some b' := by
                      obtain ⟨t, q⟩ := e.pre
                      rw [← q, List.getElem?_append_left (List.getElem?_eq_some_iff.mp hb2).1]
                      exact hb2
                    have q := s'.cell j c b' hc' hb3
                    cases c with
                    | lst ys =>
                      obtain ⟨p, us, hu, ru⟩ := q
                      exact ⟨p, us, hu, Reps.less lessT p ru⟩
                    | dct _ _ => exact q.to (fun _ f => f) fun p r => Reps.less lessT p r
                    | ins _ _ => exact q.elim
                  · have hlt := (List.getElem?_eq_some_iff.mp hc').1
                    rw [List.length_append, List.length_singleton, ll] at hlt
                    have ej : j = S.length := by omega
                    subst ej
                    have z1 : Cell.lst xs = c := by
                      rw [List.getElem?_append_right (by rw [ll]; exact Nat.le_refl _), ll, Nat.sub_self] at hc'
                      simpa using hc'
                    subst z1
                    have z2 : ad = b' := by
                      have z : (γ.ρ ++ [ad])[S.length]? = some b' := hb'
                      rw [← s.len, List.getElem?_append_right (Nat.le_refl _), Nat.sub_self] at z
                      simpa using z
                    subst z2
                    exact ⟨pxs, vs, hv, Reps.less lessT pxs rv⟩
                · rcases List.mem_append.mp z with z | z
                  · exact (bS.bt b hb).1 z
                  · have z' : b = ad := by simpa using z
                    exact hoff (by rw [← z']; exact hb)
              · rw [if_neg hkp] at h
                exact h (.ref ad) _ H' a (.lst hv ⟨hnot, hoff⟩ rv') bS
            · rw [if_neg pxs] at h
              exact h.elim
          · exact h.elim
      · exact h.elim
end
end Mp
namespace Mp
open PySem PySem.Spec PyProof.Rows L2
section
variable {K : PySem.W.Frag} {G : Gs} {γ γ' : Ga} {H H' : Hp} {S S' : Store} {Q : VK} {E : XK}
def Ga.hid (γ : Ga) : Ga := ⟨[], γ.β ++ γ.ρ⟩
theorem off_hid {a : Addr} (h : γ.Off a) : γ.hid.Off a := ⟨by show a ∉ []; simp, fun z => (List.mem_append.mp z).elim h.2 h.1⟩
theorem store_hid (s : StoreOk K G γ H S) : StoreOk K G γ.hid H [] := ⟨rfl, List.nodup_nil, fun i c a hc _ => by simp at hc, fun a ha => ⟨by show a ∉ []; simp, by
  rcases List.mem_append.mp ha with z | z
  · exact (s.bt a z).2
  · exact s.tracked0 z⟩⟩
theorem reps_hid {ws : List W} {vs : List V} (p : pures ws = true) (r : Reps K G γ H ws vs) : Reps K G γ.hid H ws vs := Reps.less (fun _ _ _ h => off_hid h) p r
theorem back_hid (s : StoreOk K G γ H S) (e : Ext γ.hid H γ' H') (s' : StoreOk K G γ' H' S') :
    Ext γ H ⟨γ.ρ, γ'.β.filter fun a => !decide (a ∈ γ.ρ)⟩ H' ∧ StoreOk K G ⟨γ.ρ, γ'.β.filter fun a => !decide (a ∈ γ.ρ)⟩ H' S ∧ ∀ a o, H' a = some o → γ'.Off a → Ga.Off ⟨γ.ρ, γ'.β.filter fun a => !decide (a ∈ γ.ρ)⟩ a := by
  have mf : ∀ {a : Addr}, a ∈ (γ'.β.filter fun a => !decide (a ∈ γ.ρ)) ↔ a ∈ γ'.β ∧ a ∉ γ.ρ := fun {a} => by
    rw [List.mem_filter, Bool.not_eq_true', decide_eq_false_iff_not]
  have ke : ∀ a o, H a = some o → H' a = some o := fun a o h => e.keep a o h (by show a ∉ []; simp)
  have ex : Ext γ H ⟨γ.ρ, γ'.β.filter fun a => !decide (a ∈ γ.ρ)⟩ H' := ⟨List.prefix_refl _, fun a h => mf.mpr ⟨e.bsub a (List.mem_append_left _ h), (s.bt a h).1⟩, fun a h => by
    obtain ⟨h1, h2⟩ := mf.mp h
    rcases e.bnew a h1 with z | z
    · rcases List.mem_append.mp z with z | z
      · exact .inl z
      · exact absurd z h2
    · exact .inr z, fun a o h _ => ke a o h, fun _ h1 h2 => absurd h1 h2, e.dom⟩
  refine ⟨ex, ⟨s.len, s.nd, fun i c a hc ha => ?_, fun a ha => ⟨(mf.mp ha).2, (s'.bt a (mf.mp ha).1).2⟩⟩, fun a o _ h => ⟨fun z => h.2 (e.bsub a (List.mem_append_right _ z)), fun z => h.2 (mf.mp z).1⟩⟩
  have q := s.cell i c a hc ha
  cases c with
  | lst xs =>
    obtain ⟨p, vs, hv, r⟩ := q
    exact ⟨p, vs, ke _ _ hv, r.mono ex⟩
  | dct _ _ => exact q.to (fun o f => ke _ _ f) fun _ r => r.mono ex
  | ins _ _ => exact q.elim
theorem frame_post {r : R W} (s : StoreOk K G γ H S) (h : Post K G (Rep K G) E γ H (r.frame S) Q) : Post K G (Rep K G) E γ.hid H r Q := by
  cases r with
  | stuck => exact h.elim
  | ok w S' =>
    have h : Post K G (Rep K G) E γ H (if w.pure = true then R.ok w S else .stuck) Q := h
    split at h
    · rename_i pw
      intro v γ' H' e r s'
      obtain ⟨a, b, c⟩ := back_hid s e s'
      exact h v _ H' a (Rep.less c pw r) b
    · exact h.elim
  | exc c x S' =>
    have h : Post K G (Rep K G) E γ H (if x.pure = true then R.exc c x S else .stuck) Q := h
    split at h
    · rename_i px
      intro v d γ' H' e r s' hd ho
      obtain ⟨a, b, cc⟩ := back_hid s e s'
      exact h v d _ H' a (Rep.less cc px r) b hd (cc _ _ hd ho)
    · exact h.elim
end
end Mp
namespace Mp
open PySem PySem.Spec PyProof.Rows L2
theorem Post.not_stuck {K : PySem.W.Frag} {G : Gs} {α β : Type} {rel : Rel α β} {wx : Wx} {γ : Ga} {H : Hp} {r : R α} {Q : β → Hp → Prop} (h : Post K G rel wx γ H r Q) : r ≠ .stuck := fun z => by
  rw [z] at h
  exact h
structure FnR where
  x : Str
  ps : List Str
  st : Stmt
structure FT (P : Program) (w : World) (K : PySem.W.Frag) (mg : Str → Option Value) (base : Heap) (G : Gs) (d : Nat) (φ : List W → Store → R W) (f : Nat) (r : FnR) (fd : FuncData) : Prop where
  ok : FnOk P w K mg base (L2.CX P w) (d + 2) (G.fa f) fd r.ps (spF K G r.ps.length φ)
  gl : mg r.x = some (.ref (G.fa f))
  F : FunD K r.x r.x (defArgs r.st) (defBody r.st) (defScope r.st) [] [] (G.fa f) fd
  b : Binds K fd r.ps []
  len : ∀ ws S, φ ws S ≠ .stuck → ws.length = r.ps.length
abbrev AllF (P : Program) (w : World) (K : PySem.W.Frag) (mg : Str → Option Value) (base : Heap) (G : Gs) (T : List Mp.Fun) (D : List FnR) (d : Nat) : Prop := ∀ f r, D[f]? = some r → ∃ fd, FT P w K mg base G d (fns T d f) f r fd
end Mp
namespace Mp
open PySem PySem.Spec PyProof.Rows L2
section
variable {X : Cx} {G : Gs} {d f : Nat} {r : FnR} {φ : Fns} {x : Str} {p pos : Pos} {e : Expr} {es : List Expr} {ga : MA}
theorem se_call (f : Nat) (h : ∃ fd, FT X.prog X.w X.K X.mg X.base G d (φ f) f r fd) (hr : Room (d + 2) X.A) (ha : SA X G (e :: es) ga) (hx : r.x = x := by rfl) (hg : Gl X x := by rfl) (hdb : (x == ("__debug__" : Str)) = false := by decide)
    (he : starEach (e :: es) X.env = (false, eval e X.env) :: starEach es X.env := by rfl) (hpl : (backTo pos (starEach es X.env)).any (·.1) = false := by rfl) : SE X G (.Call (.Name x p) (e :: es) [] pos) (mCall φ f ga) := by
  obtain ⟨fd, h⟩ := h
  subst hx
  refine ⟨fun Wi tk => (pe_callS h.ok hr hg h.gl h.F.kp h.b (fun σ => passAt tk σ) (ha.run Wi tk) hdb he hpl).imp ?_⟩
  rintro σ H Q ⟨η, S, γ, he, hs, q⟩
  refine ⟨η, S, γ, he, hs, ?_⟩
  have q : Post X.K G (Rep X.K G) (fun c d H' => Wi c d σ H') γ H ((ga η S).bind fun ws S1 => φ f ws S1) Q := q
  cases eg : ga η S with
  | stuck =>
    rw [eg] at q
    exact q.elim
  | exc c x S1 =>
    rw [eg] at q
    exact q
  | ok ws S1 =>
    rw [eg] at q
    intro vs γ1 H1 e1 r1 s1
    exact ⟨by rw [← r1.length]; exact h.len ws S1 (Post.not_stuck q), ws, S1, γ1, r1, s1, Post.base e1 q⟩
end
end Mp
namespace Mp
open PySem PySem.Spec PyProof.Rows L2
section
variable {X : Cx} {k : Nat} {f : Addr} {fd : FuncData} {ps ks : List Str} {sp : Sp} {E : L2.St → XK} {x : Str} {p pos : Pos} {kws : List Keyword} {e : Expr} {es : List Expr} {t tk : TA}
/-- how a call by keywords alone, or behind n places, binds -/
def KwB (K : PySem.W.Frag) (fd : FuncData) (ps ks : List Str) (n : Nat) (perm : List Nat) : Prop := ∀ (s : Shared) (us : List Value), us.length = n + ks.length → BindsTo s fd ⟨us.take n, ks.zip (us.drop n)⟩ (ps.zip (perm.map fun i => us.getD i .none))
theorem vals_perm {vs : List V} {us : List Value} (r : Vals vs us) (perm : List Nat) (h : ∀ i ∈ perm, i < vs.length) : Vals (perm.map fun i => vs.getD i .non) (perm.map fun i => us.getD i .none) := by
  induction perm with
  | nil => exact .nil
  | cons i perm ih =>
    refine .cons ?_ (ih fun j hj => h j (List.mem_cons_of_mem _ hj))
    have hi := h i (List.mem_cons_self ..)
    obtain ⟨u, hu, ru⟩ := r.get (List.getElem?_eq_getElem hi)
    show L2.RelV (vs.getD i .non) (us.getD i .none)
    rw [List.getD_eq_getElem?_getD, List.getD_eq_getElem?_getD, List.getElem?_eq_getElem hi, hu]
    exact ru
theorem run_fnP {pins : List (Addr × Obj)} {σ : L2.St} {H : Hp} {s : Shared} {Q : VK} {us ws : List Value} {vs zs : List V} {n : Nat} {perm : List Nat} (F : FnOk X.prog X.w X.K X.mg X.base (L2.CX X.prog X.w) k f fd ps sp) (hr : Room k X.A) (hb : KwB X.K fd ps ks n perm) (hx : PassesAt (L2.CX X.prog X.w) X σ (E σ))
    (hn : us.length = n) (hk : ws.length = ks.length) (hp : ∀ i ∈ perm, i < n + ks.length) (I : Inv X pins σ H s) (r : Vals vs us) (rz : Vals zs ws) (h : sp (perm.map fun i => (vs ++ zs).getD i .non) H Q (E σ)) : wpAny (model X.prog X.w) X.A (call (.ref f) us (ks.zip ws)) (EP X pins σ Q) X.xe s := by
  have r1 : Vals (vs ++ zs) (us ++ ws) := r.append rz
  have lv : (vs ++ zs).length = n + ks.length := by rw [r1.length, List.length_append, hn, hk]
  have r2 := vals_perm r1 perm fun i hi => by rw [lv]; exact hp i hi
  have hb2 := hb s (us ++ ws) (by rw [List.length_append, hn, hk])
  rw [← hn, List.take_left' rfl, List.drop_left' rfl] at hb2
  refine wpAny_call (codeAny_mono (F.run X.A X.stack s H ⟨us, ks.zip ws⟩ _ _ Q (E σ) hr I.env0 hb2 r2 h) fun r s' hq => ?_)
  cases r with
  | error e => exact hx pins H s e s' I hq
  | ok fl =>
    cases fl with
    | ret u => exact I.after hq
    | next => exact False.elim hq
    | brk => exact False.elim hq
    | cont => exact False.elim hq
end
end Mp
namespace Mp
open PySem PySem.Spec PyProof.Rows L2
section
variable {X : Cx} {G : Gs} {d f : Nat} {r : FnR} {φ : Fns} {x : Str} {p pos : Pos} {e : Expr} {es : List Expr} {ga gk : MA} {kws : List Keyword} {f' : ME}
/-- the values of keywords -/
structure SK (X : Cx) (G : Gs) (kws : List Keyword) (f : MA) : Prop where
  run : ∀ Wi, Takes X Wi → PK X kws (taOf X.K G Wi f)
theorem _root_.L2.PK.imp {X : Cx} {e : List Keyword} {t t' : TA} (h : PK X e t) (i : ∀ σ H Q, t' σ H Q → t σ H Q) : PK X e t' := ⟨fun pos pins s σ H Q I q => h.run pos pins s σ H Q I (i _ _ _ q)⟩
theorem sk_nil : SK X G [] maNil := by
  refine ⟨fun Wi tk => pk_nil.imp ?_⟩
  rintro σ H Q ⟨η, S, γ, he, hs, q⟩
  exact q _ γ H Ext.refl .nil hs
theorem sk_cons {nm : Option Str} {kpos : Pos} (ha : SE X G e f') (hr : SK X G kws gk) : SK X G (⟨nm, e, kpos⟩ :: kws) (maCons f' gk) := by
  refine ⟨fun Wi tk => (pk_cons (ha.run Wi tk) (hr.run Wi tk)).imp ?_⟩
  rintro σ H Q ⟨η, S, γ, he, hs, q⟩
  exact ⟨η, S, γ, he, hs, (Post.seq q).imp fun x H1 ⟨wx, S1, γ1, e1, r1, s1, q1⟩ => ⟨η, S1, γ1, he.mono e1, s1, (Post.seq q1).imp fun y H2 ⟨wy, S2, γ2, e2, r2, s2, q2⟩ => q2 _ γ2 H2 Ext.refl (.cons (r1.mono e2) r2) s2⟩⟩
/-- f(k = v, ..) -/
def mCallK (φ : Fns) (f : Nat) (perm : List Nat) (gk : MA) : ME := fun η S => (gk η S).bind fun ws S1 => if perm.all (fun i => decide (i < ws.length)) = true then φ f (perm.map fun i => ws.getD i .non) S1 else .stuck
theorem reps_perm {K : PySem.W.Frag} {γ : Ga} {H : Hp} {ws : List W} {vs : List V} (r : Reps K G γ H ws vs) (perm : List Nat) (h : perm.all (fun i => decide (i < ws.length)) = true) : Reps K G γ H (perm.map fun i => ws.getD i .non) (perm.map fun i => vs.getD i .non) := by
  induction perm with
  | nil => exact .nil
  | cons i perm ih =>
    rw [List.all_cons, Bool.and_eq_true] at h
    refine .cons ?_ (ih h.2)
    have hi : i < ws.length := of_decide_eq_true h.1
    obtain ⟨v, hv, rv⟩ := r.get (List.getElem?_eq_getElem hi)
    show Rep K G γ H (ws.getD i .non) (vs.getD i .non)
    rw [List.getD_eq_getElem?_getD, List.getD_eq_getElem?_getD, List.getElem?_eq_getElem hi, hv]
    exact rv
theorem se_callK0 (f : Nat) (ks : List Str) (perm : List Nat) (h : ∃ fd, FT X.prog X.w X.K X.mg X.base G d (φ f) f r fd ∧ KwB X.K fd r.ps ks 0 perm) (hr : Room (d + 2) X.A) (hk : SK X G kws gk) (hx : r.x = x := by rfl) (hg : Gl X x := by rfl) (hdb : (x == ("__debug__" : Str)) = false := by decide)
    (hall : (backToKw pos (keywordEach kws X.env)).all (·.1.isSome) = true := by rfl) (hks : (backToKw pos (keywordEach kws X.env)).filterMap (·.1) = ks := by rfl)
    (hpl : ((backTo pos (starEach [] X.env)).any (·.1) || (backToKw pos (keywordEach kws X.env)).any (·.1.isNone)) = false := by rfl) (hp : perm.all (fun i => decide (i < ks.length)) = true := by rfl) (hlen : kws.length = ks.length := by rfl)
    (hkl : ∀ η S ws S', gk η S = .ok ws S' → ws.length = ks.length) : SE X G (.Call (.Name x p) [] kws pos) (mCallK φ f perm gk) := by
  obtain ⟨fd, h, hb⟩ := h
  subst hx
  refine ⟨fun Wi tk => ⟨fun pins s σ H Q I q => ?_⟩⟩
  obtain ⟨η, S, γ, he, hs, q⟩ := q
  refine wpAny_Call_Name_kw (ld_glob I hg h.gl ?_ hdb)
  refine PySem.W.callWith_KW0 (h₀ := X.base) I.ok.mod.kin h.F.kp hall ?_ hpl
  have q : Post X.K G (Rep X.K G) (fun c d H' => Wi c d σ H') γ H ((gk η S).bind fun ws S1 => if perm.all (fun i => decide (i < ws.length)) = true then φ f (perm.map fun i => ws.getD i .non) S1 else .stuck) Q := q
  refine thn ((hk.run Wi tk).run pos pins s σ H (fun zs H2 => ∃ ws S1 γ1, gk η S = .ok ws S1 ∧ Ext γ H γ1 H2 ∧ Reps X.K G γ1 H2 ws zs ∧ StoreOk X.K G γ1 H2 S1) I ⟨η, S, γ, he, hs, ?_⟩) fun us s1 ⟨zs, H2, I2, rz, ws, S1, γ1, eg, e1, r1, s1'⟩ => ⟨I2.kIn, ?_⟩
  · cases eg : gk η S with
    | stuck =>
      rw [eg] at q
      exact q.elim
    | exc c x S1 =>
      rw [eg] at q
      exact q
    | ok ws S1 => exact fun vs γ1 H1 e1 r1 s1 => ⟨ws, S1, γ1, rfl, e1, r1, s1⟩
  · rw [eg] at q
    have q : Post X.K G (Rep X.K G) (fun c d H' => Wi c d σ H') γ H (if perm.all (fun i => decide (i < ws.length)) = true then φ f (perm.map fun i => ws.getD i .non) S1 else .stuck) Q := q
    have lw := hkl _ _ _ _ eg
    rw [hks]
    split at q
    · rename_i hpw
      refine run_fnP (n := 0) (perm := perm) (us := []) (vs := []) (E := fun σ c d H' => Wi c d σ H') h.ok hr hb (passAt tk σ) rfl ?_ ?_ I2 .nil rz ?_
      · rw [← rz.length, ← r1.length, lw]
      · intro i hi
        have := List.all_eq_true.mp hp i hi
        have := of_decide_eq_true this
        omega
      · have q2 := Post.base e1 q
        exact ⟨by rw [List.length_map]; have := h.len _ _ (Post.not_stuck q); rw [List.length_map] at this; exact this, _, S1, γ1, by rw [List.nil_append]; exact reps_perm r1 perm hpw, s1', q2⟩
    · exact q.elim
end
end Mp
namespace Mp
open PySem PySem.Spec PyProof.Rows L2
theorem _root_.L2.IxR.imp {X : Cx} {r r' : R2} (h : IxR X r) (i : ∀ x y H Q, r' x y H Q → r x y H Q) : IxR X r' := fun a b pins s σ H x y v u Q I rx ry q e => h a b pins s σ H x y v u Q I rx ry (i _ _ _ _ q) e
theorem _root_.L2.SlR.imp {X : Cx} {r r' : V → Option Int → Option Int → Hp → VK → Prop} (h : SlR X r) (i : ∀ x l u H Q, r' x l u H Q → r x l u H Q) : SlR X r' := fun pins s σ H x v vl vu lo hi sl Q I rx hs pl pu q => h pins s σ H x v vl vu lo hi sl Q I rx hs pl pu (i _ _ _ _ _ q)
theorem _root_.L2.CallR.imp {X : Cx} {f : Value} {r r' : List V → Hp → VK → Prop} (h : CallR X f r) (i : ∀ x H Q, r' x H Q → r x H Q) : CallR X f r' := fun pins s σ H xs us Q I r q => h pins s σ H xs us Q I r (i _ _ _ q)
end Mp
namespace Mp
open PySem PySem.Spec PyProof.Rows L2
section
variable {K : PySem.W.Frag} {G : Gs} {γ γ' : Ga} {H H' : Hp} {S : Store}
theorem atW_rep {xs : List W} {vs : List V} {i : Int} {w : W} (q : Reps K G γ H xs vs) (h : atW xs i = some w) : ∃ v, atI vs i = some v ∧ Rep K G γ H w v := by
  unfold atW at h
  cases e : ixW xs.length i with
  | none => rw [e] at h; cases h
  | some j =>
    rw [e] at h
    obtain ⟨v, hv, r⟩ := q.get h
    refine ⟨v, ?_, r⟩
    unfold atI
    have e2 : ixN vs.length i = some j := by rw [← q.length]; exact e
    rw [e2]
    exact hv
/-- what a list, a tuple is, in the heap -/
theorem lst_or {w : W} {v : V} {xs : List W} (s : StoreOk K G γ H S) (h : lstOf S w = some xs) (r : Rep K G γ H w v) : ∃ a vs, v = .ref a ∧ SqL K H a vs ∧ Reps K G γ H xs vs := by
  obtain ⟨a, vs, e, hv, q⟩ := lstOf_rep s h r
  exact ⟨a, vs, e, SqL.of hv, q⟩
end
end Mp
namespace Mp
open PySem PySem.Spec PyProof.Rows L2
section
variable {X : Cx} {G : Gs}
theorem ix_W : IxR X (rOf X.K G opIx) := by
  refine (ix_seq).imp ?_
  rintro x y H Q ⟨wx, wy, S, γ, w, rx, ry, s, h, k⟩
  unfold opIx at h
  split at h
  · rename_i z i
    cases rx with
    | str _ h1 h2 =>
    cases ry
    cases e : ixW z.length i with
    | none => rw [e] at h; cases h
    | some j =>
      rw [e] at h
      cases e2 : z[j]? with
      | none =>
        have h : z[j]?.map (fun c => W.str [c]) = some w := h
        rw [e2] at h
        cases h
      | some c =>
        have h : z[j]?.map (fun c => W.str [c]) = some w := h
        rw [e2] at h
        cases h
        refine .inr (.inr ⟨_, _, c, rfl, rfl, by simpa [Str.length] using h2, ?_, k _ γ H Ext.refl (.str [c] (fun d hd => ?_) (by rw [sizeLine_eq]; show 1 ≤ 16777216; decide)) s⟩)
        · unfold atI
          show (ixN z.length i).bind _ = _
          have e3 : ixN z.length i = some j := e
          rw [e3]
          exact e2
        · have : d = c := by simpa using hd
          rw [this]
          exact h1 c (List.mem_of_getElem? e2)
  · cases rx with
    | tup f q =>
    cases ry
    obtain ⟨v, hv, r⟩ := atW_rep q h
    exact .inr (.inl ⟨_, _, _, v, rfl, rfl, f.sq, hv, k v γ H Ext.refl r s⟩)
  · cases rx with
    | scr f q =>
    cases ry
    obtain ⟨v, hv, r⟩ := atW_rep q h
    exact .inl ⟨_, _, _, v, rfl, rfl, f.sq, hv, k v γ H Ext.refl r s⟩
  · cases e : lstOf S wx with
    | none => rw [e] at h; cases h
    | some xs =>
      rw [e] at h
      obtain ⟨a, vs, rfl, hs, q⟩ := lst_or s e rx
      cases ry
      obtain ⟨v, hv, r⟩ := atW_rep q h
      exact .inl ⟨_, _, _, v, rfl, rfl, hs, hv, k v γ H Ext.refl r s⟩
  · cases h
def rSlW (K : PySem.W.Frag) (G : Gs) : V → Option Int → Option Int → Hp → VK → Prop := fun x lo hi H Q => ∃ wx S γ w, Rep K G γ H wx x ∧ StoreOk K G γ H S ∧ opSl wx lo hi S = some w ∧
  ∀ v γ' H', Ext γ H γ' H' → Rep K G γ' H' w v → StoreOk K G γ' H' S → Q v H'
theorem cut_reps {K : PySem.W.Frag} {γ : Ga} {H : Hp} {xs : List W} {vs : List V} (q : Reps K G γ H xs vs) (lo hi : Option Int) : Reps K G γ H (cutW xs lo hi) (cutV vs lo hi) := by
  have e : cutV vs lo hi = (vs.drop (sIxW xs.length 0 lo)).take (sIxW xs.length xs.length hi - sIxW xs.length 0 lo) := by
    unfold cutV
    rw [← q.length]
    cases lo <;> cases hi <;> rfl
  rw [e]
  exact (q.drop _).take _
theorem sl_W : SlR X (rSlW X.K G) := by
  refine (SlR.or sl_str (SlR.or sl_tupA sl_list)).imp ?_
  rintro x lo hi H Q ⟨wx, S, γ, w, rx, s, h, k⟩
  unfold opSl at h
  split at h
  · rename_i z
    cases rx with
    | str _ h1 h2 =>
    cases h
    refine .inl ⟨_, rfl, by simpa [Str.length] using h2, ?_⟩
    have e : cutS ⟨z.toArray⟩ lo hi = ⟨(cutW z lo hi).toArray⟩ := by
      unfold cutS cutW
      simp only [Str.length, List.size_toArray]
      cases lo <;> cases hi <;> rfl
    rw [e]
    refine k _ γ H Ext.refl (.str _ (fun c hc => ?_) ?_) s
    · exact h1 c (List.mem_of_mem_drop (List.mem_of_mem_take hc))
    · unfold cutW
      rw [List.length_take, List.length_drop]
      omega
  · rename_i xs
    cases rx with
    | @tup a vs _ f q =>
    cases h
    refine .inr (.inl ⟨a, vs, rfl, f.sq, fun hw => ?_, fun _ p hp => ?_⟩)
    · have e : cutW xs lo hi = xs := by
        have z1 : sIxW xs.length 0 lo = 0 := by
          have := hw.1
          rw [← q.length] at this
          cases lo <;> exact this
        have z2 : sIxW xs.length xs.length hi = xs.length := by
          have := hw.2
          rw [← q.length] at this
          cases hi <;> exact this
        unfold cutW
        rw [z1, z2]
        simp
      rw [e] at k
      exact k _ γ H Ext.refl (.tup f q) s
    · have ex := Ext.upd (K := X.K) (G := G) s (o := .tup (cutV vs lo hi)) hp
      exact k _ γ _ ex (.tup (.inl ⟨.inl upd_same, s.fresh hp⟩) (cut_reps (q.mono ex) lo hi)) (s.upd hp)
  · cases rx with
    | @scr a vs xs f q =>
    cases h
    refine .inr (.inr ⟨a, vs, rfl, f.sq, fun p hp => ?_⟩)
    have ex := Ext.upd (K := X.K) (G := G) s (o := .lst (cutV vs lo hi)) hp
    exact k _ γ _ ex (.lst upd_same (s.fresh hp) (cut_reps (q.mono ex) lo hi)) (s.upd hp)
  · cases e : lstOf S wx with
    | none => rw [e] at h; cases h
    | some xs =>
      rw [e] at h
      cases h
      obtain ⟨a, vs, rfl, hs, q⟩ := lst_or s e rx
      refine .inr (.inr ⟨a, vs, rfl, hs, fun p hp => ?_⟩)
      have ex := Ext.upd (K := X.K) (G := G) s (o := .lst (cutV vs lo hi)) hp
      exact k _ γ _ ex (.lst upd_same (s.fresh hp) (cut_reps (q.mono ex) lo hi)) (s.upd hp)
end
end Mp
namespace Mp
open PySem PySem.Spec PyProof.Rows L2
section
variable {X : Cx} {G : Gs}
variable {a b e : Expr} {es : List Expr} {f g : ME} {ga : MA} {pos p p2 p3 : Pos} {x : Str} {lo hi : Option Expr} {ml mh : MO} {o : OA}
theorem se_ix (ha : SE X G a f) (hb : SE X G b g) (hs : PlainIx b := by exact fun _ _ => rfl) : SE X G (.Subscript a b pos) (mBin opIx f g) := by
  refine ⟨fun Wi tk => (pe_ix (ix_W (G := G)) (ha.run Wi tk) (hb.run Wi tk) hs).imp ?_⟩
  rintro σ H Q ⟨η, S, γ, he, hs, q⟩
  exact ⟨η, S, γ, he, hs, (Post.seq q).imp fun x H1 ⟨wx, S1, γ1, e1, r1, s1, q1⟩ => ⟨η, S1, γ1, he.mono e1, s1, (Post.seq q1).imp fun y H2 ⟨wy, S2, γ2, e2, r2, s2, q2⟩ => rOf_of (r1.mono e2) r2 s2 q2⟩⟩
def toOf (K : PySem.W.Frag) (G : Gs) (Wi : WX) (f : MO) : TO := fun σ H Q => ∃ η S γ, EnvOk K G γ H η σ ∧ StoreOk K G γ H S ∧ Post K G (fun _ _ a b => a = b) (fun c d H' => Wi c d σ H') γ H (f η S) Q
structure SO (X : Cx) (G : Gs) (e : Option Expr) (f : MO) : Prop where
  run : ∀ Wi, Takes X Wi → PO X e (toOf X.K G Wi f)
theorem _root_.L2.PO.imp {X : Cx} {e : Option Expr} {t t' : TO} (h : PO X e t) (i : ∀ σ H Q, t' σ H Q → t σ H Q) : PO X e t' := ⟨fun pins s σ H Q I q => h.run pins s σ H Q I (i _ _ _ q)⟩
theorem so_none : SO X G none moNone := by
  refine ⟨fun Wi tk => po_none.imp ?_⟩
  rintro σ H Q ⟨η, S, γ, he, hs, q⟩
  exact q _ γ H Ext.refl rfl hs
theorem so_some (ha : SE X G a f) : SO X G (some a) (moSome f) := by
  refine ⟨fun Wi tk => (po_some (ha.run Wi tk)).imp ?_⟩
  rintro σ H Q ⟨η, S, γ, he, hs, q⟩
  refine ⟨η, S, γ, he, hs, (Post.seq q).imp fun x H1 ⟨wx, S1, γ1, e1, r1, s1, q1⟩ => ?_⟩
  split at q1
  · cases r1
    exact ⟨_, rfl, q1 _ γ1 H1 Ext.refl rfl s1⟩
  · exact q1.elim
theorem se_sl (ha : SE X G a f) (hl : SO X G lo ml) (hh : SO X G hi mh) : SE X G (.Subscript a (.Slice lo hi none p2) pos) (mSl f ml mh) := by
  refine ⟨fun Wi tk => (pe_slice (sl_W (G := G)) (ha.run Wi tk) (hl.run Wi tk) (hh.run Wi tk)).imp ?_⟩
  rintro σ H Q ⟨η, S, γ, he, hs, q⟩
  refine ⟨η, S, γ, he, hs, (Post.seq q).imp fun x H1 ⟨wx, S1, γ1, e1, r1, s1, q1⟩ => ⟨η, S1, γ1, he.mono e1, s1, (Post.seq (rel := fun _ _ a b => a = b) q1).imp fun l H2 ⟨wl, S2, γ2, e2, r2, s2, q2⟩ => ⟨η, S2, γ2, (he.mono e1).mono e2, s2, (Post.seq (rel := fun _ _ a b => a = b) q2).imp fun u H3 ⟨wu, S3, γ3, e3, r3, s3, q3⟩ => ?_⟩⟩⟩
  cases r2
  cases r3
  cases e : opSl wx l u S3 with
  | none =>
    rw [e] at q3
    exact q3.elim
  | some w =>
    rw [e] at q3
    exact ⟨wx, S3, γ3, w, (r1.mono e2).mono e3, s3, e, fun v γ' H' ex r s' => q3 v γ' H' ex r s'⟩
theorem se_bi {id : String} (hc : CallR X (.builtin id) (raOf X.K G o)) (hm : X.mg x = none) (ha : SA X G (e :: es) ga) (hv : bootBuiltins x = some (.builtin id) := by decide +kernel) (hg : Gl X x := by rfl) (hn : x ≠ "__name__" := by decide) (hdb : (x == ("__debug__" : Str)) = false := by decide)
    (he : starEach (e :: es) X.env = (false, eval e X.env) :: starEach es X.env := by rfl) (hpl : (backTo pos (starEach es X.env)).any (·.1) = false := by rfl) : SE X G (.Call (.Name x p) (e :: es) [] pos) (mBi o ga) := by
  refine ⟨fun Wi tk => (pe_callB hc hg hm hv (ha.run Wi tk) hn hdb he hpl).imp ?_⟩
  rintro σ H Q ⟨η, S, γ, he, hs, q⟩
  exact ⟨η, S, γ, he, hs, (Post.seq q).imp fun x H1 ⟨wx, S1, γ1, e1, r1, s1, q1⟩ => raOf_of r1 s1 q1⟩
theorem se_ty {T : String} (hc : CallR X (.type T) (raOf X.K G o)) (hm : X.mg x = none) (ha : SA X G (e :: es) ga) (hv : bootBuiltins x = some (.type T) := by decide +kernel) (hg : Gl X x := by rfl) (hn : x ≠ "__name__" := by decide) (hdb : (x == ("__debug__" : Str)) = false := by decide)
    (he : starEach (e :: es) X.env = (false, eval e X.env) :: starEach es X.env := by rfl) (hpl : (backTo pos (starEach es X.env)).any (·.1) = false := by rfl) : SE X G (.Call (.Name x p) (e :: es) [] pos) (mBi o ga) := by
  refine ⟨fun Wi tk => (pe_callTy hc hg hm hv (ha.run Wi tk) hn hdb he hpl).imp ?_⟩
  rintro σ H Q ⟨η, S, γ, he, hs, q⟩
  exact ⟨η, S, γ, he, hs, (Post.seq q).imp fun x H1 ⟨wx, S1, γ1, e1, r1, s1, q1⟩ => raOf_of r1 s1 q1⟩
theorem cr_len : CallR X (.builtin "len") (raOf X.K G baLen) := by
  refine call_len.imp ?_
  rintro xs H Q ⟨ws, S, γ, w, rs, s, h, k⟩
  unfold baLen at h
  split at h
  · rename_i z
    cases rs with
    | cons r t =>
    cases t
    cases r with
    | str _ h1 h2 =>
    cases h
    refine ⟨_, z.length, rfl, ⟨by simpa [Str.length] using h2, by simp [Str.length]⟩, k _ γ H Ext.refl (.int _) s⟩
  · cases rs with
    | cons r t =>
    cases t
    cases r with
    | tup f q =>
    cases h
    exact ⟨_, _, rfl, .inr ⟨_, f.sq, q.length⟩, k _ γ H Ext.refl (.int _) s⟩
  · cases rs with
    | cons r t =>
    cases t
    cases r with
    | scr f q =>
    cases h
    exact ⟨_, _, rfl, .inl ⟨_, f.sq, q.length⟩, k _ γ H Ext.refl (.int _) s⟩
  · rename_i x _ _ _
    cases rs with
    | cons r t =>
    cases t
    cases e : lstOf S x with
    | none => rw [e] at h; cases h
    | some ys =>
      rw [e] at h
      cases h
      obtain ⟨a, vs, rfl, hs, q⟩ := lst_or s e r
      exact ⟨_, _, rfl, .inl ⟨_, hs, q.length⟩, k _ γ H Ext.refl (.int _) s⟩
  · cases h
theorem cr_abs : CallR X (.builtin "abs") (raOf X.K G baAbs) := by
  refine call_abs.imp ?_
  rintro xs H Q ⟨ws, S, γ, w, rs, s, h, k⟩
  unfold baAbs at h
  split at h
  · cases rs with
    | cons r t =>
    cases t
    cases r
    cases h
    exact ⟨_, rfl, k _ γ H Ext.refl (.int _) s⟩
  · cases h
theorem cr_max2 (hc : X.calm = true) : CallR X (.builtin "max") (raOf X.K G baMax2) := by
  refine (call_max2 hc).imp ?_
  rintro xs H Q ⟨ws, S, γ, w, rs, s, h, k⟩
  unfold baMax2 at h
  split at h
  · cases rs with
    | cons r t =>
    cases t with
    | cons r' t =>
    cases t
    cases r
    cases r'
    cases h
    exact ⟨_, _, rfl, k _ γ H Ext.refl (.int _) s⟩
  · cases h
theorem cr_min2 (hc : X.calm = true) : CallR X (.builtin "min") (raOf X.K G baMin2) := by
  refine (call_min2 hc).imp ?_
  rintro xs H Q ⟨ws, S, γ, w, rs, s, h, k⟩
  unfold baMin2 at h
  split at h
  · cases rs with
    | cons r t =>
    cases t with
    | cons r' t =>
    cases t
    cases r
    cases r'
    cases h
    exact ⟨_, _, rfl, k _ γ H Ext.refl (.int _) s⟩
  · cases h
theorem cr_int : CallR X (.type "int") (raOf X.K G baInt) := by
  intro pins s σ H xs us Q I r0 q
  obtain ⟨ws, S, γ, w, rs, ss, h, k⟩ := q
  unfold baInt at h
  split at h
  · cases rs with
    | cons r t =>
    cases t
    cases r
    cases h
    exact call_int1 pins s σ H _ us Q I r0 (.inl ⟨_, rfl, k _ γ H Ext.refl (.int _) ss⟩)
  · cases rs with
    | cons r t =>
    cases t
    cases r
    cases h
    exact call_int1 pins s σ H _ us Q I r0 (.inr ⟨_, rfl, k _ γ H Ext.refl (.int _) ss⟩)
  · rename_i z
    cases rs with
    | cons r t =>
    cases t
    cases r
    split at h
    · rename_i hd
      cases h
      exact call_int_str pins s σ H _ us Q I r0 ⟨_, _, rfl, SX.int_S hd.1 hd.2.1 (by omega), (by show z.toArray.size ≤ 640; rw [List.size_toArray]; exact hd.2.2), k _ γ H Ext.refl (.int _) ss⟩
    · cases h
  · cases h
theorem divmodW {X : Cx} : CallR X (.builtin "divmod") (fun xs H Q => ∃ i j : Int, xs = [.int i, .int j] ∧ (0 < j ∧ j.natAbs.log2 < 9000) ∧ ∀ p, H p = none → Q (.ref p) (upd H p (.tup [.int (i / j), .int (i % j)]))) := by
  intro pins s σ H xs us Q I r h
  obtain ⟨i, j, rfl, ⟨h1, h2⟩, q⟩ := h
  obtain ⟨u, w', rfl, ⟨t, rfl⟩, ⟨t', rfl⟩⟩ := vals2 r
  refine divmod_int (by omega) ?_ (.inl (PyProof.noPylong_of_log2 h2))
  rw [Int.fdiv_eq_ediv_of_nonneg i (by omega), Int.fmod_eq_emod_of_nonneg i (by omega)]
  have ok : ObjOk X.prog X.w (upd H s.heap.objs.size (.tup [.int (i / j), .int (i % j)])) (s.heap.push { cls := .type "tuple", data := .seq #[.int (i / j) s.toks, .int (i % j) (s.toks + 1)] }) s.heap.objs.size (.tup [.int (i / j), .int (i % j)]) :=
    ⟨by show 2 ≤ sizeLine; rw [sizeLine_eq]; decide, [.int (i / j) s.toks, .int (i % j) (s.toks + 1)], .cons ⟨_, rfl⟩ (.cons ⟨_, rfl⟩ .nil), _, Heap.get?_push_size s.heap rfl, rfl, 0, rfl⟩
  exact ⟨.ref s.heap.objs.size, _, I.laid (fun b o e => Heap.get?_push_of_some _ e) (Nat.le_refl _) ok, rfl, q _ (I.hok.fresh (Nat.le_refl _))⟩
theorem cr_divmod : CallR X (.builtin "divmod") (raOf X.K G baDivmod) := by
  refine divmodW.imp ?_
  rintro xs H Q ⟨ws, S, γ, w, rs, s, h, k⟩
  unfold baDivmod at h
  split at h
  · cases rs with
    | cons r t =>
    cases t with
    | cons r' t =>
    cases t
    cases r
    cases r'
    split at h
    · rename_i i j hd
      cases h
      refine ⟨_, _, rfl, hd, fun p hp => ?_⟩
      have ex := Ext.upd (K := X.K) (G := G) s (o := .tup [.int (i / j), .int (i % j)]) hp
      exact k _ γ _ ex (.tup (.inl ⟨.inl upd_same, s.fresh hp⟩) (.cons (.int _) (.cons (.int _) .nil))) (s.upd hp)
    · cases h
  · cases h
theorem intsOf_reps {K : PySem.W.Frag} {γ : Ga} {H : Hp} : ∀ {xs : List W} {vs : List V} {ns : List Int}, Reps K G γ H xs vs → intsOf xs = some ns → vs = ns.map V.int
  | [], _, ns, .nil, h => by cases h; rfl
  | x :: xs, _, ns, .cons r t, h => by
    cases r with
    | int i =>
      have h : (intsOf xs).map (i :: ·) = some ns := h
      cases e : intsOf xs with
      | none => rw [e] at h; cases h
      | some ms =>
        rw [e] at h
        have h : some (i :: ms) = some ns := h
        cases h
        rw [intsOf_reps t e]
        rfl
    | _ => simp [intsOf] at h
theorem bls_reps {K : PySem.W.Frag} {γ : Ga} {H : Hp} : ∀ {xs : List W} {vs : List V} {ns : List Bool}, Reps K G γ H xs vs → bls xs = some ns → vs = ns.map V.bl
  | [], _, ns, .nil, h => by cases h; rfl
  | x :: xs, _, ns, .cons r t, h => by
    cases r with
    | bl i =>
      have h : (bls xs).map (i :: ·) = some ns := h
      cases e : bls xs with
      | none => rw [e] at h; cases h
      | some ms =>
        rw [e] at h
        have h : some (i :: ms) = some ns := h
        cases h
        rw [bls_reps t e]
        rfl
    | _ => simp [bls] at h
theorem strsOf_reps {K : PySem.W.Frag} {γ : Ga} {H : Hp} : ∀ {xs : List W} {vs : List V} {ns : List (List Nat)}, Reps K G γ H xs vs → strsOf xs = some ns → vs = (ns.map fun l => (⟨l.toArray⟩ : Str)).map V.str ∧ ∀ l ∈ ns, ∀ c ∈ l, c < 0x110000
  | [], _, ns, .nil, h => by cases h; exact ⟨rfl, fun l hl => by cases hl⟩
  | x :: xs, _, ns, .cons r t, h => by
    cases r with
    | str i h1 h2 =>
      have h : (strsOf xs).map (i :: ·) = some ns := h
      cases e : strsOf xs with
      | none => rw [e] at h; cases h
      | some ms =>
        rw [e] at h
        have h : some (i :: ms) = some ns := h
        cases h
        obtain ⟨e1, e2⟩ := strsOf_reps t e
        rw [e1]
        refine ⟨rfl, fun l hl => ?_⟩
        rcases List.mem_cons.mp hl with z | z
        · rw [z]; exact h1
        · exact e2 l z
    | _ => simp [strsOf] at h
theorem cr_sumW (hc : X.calm = true) : CallR X (.builtin "sum") (raOf X.K G baSum) := by
  refine (cr_sum hc).imp ?_
  rintro xs H Q ⟨ws, S, γ, w, rs, s, h, k⟩
  unfold baSum at h
  split at h
  · rename_i ys
    cases rs with
    | cons r t =>
    cases t
    cases e : intsOf ys with
    | none => rw [e] at h; cases h
    | some ns =>
      rw [e] at h
      cases h
      cases r with
      | @scr a vs _ f q =>
      have ev := intsOf_reps q e
      subst ev
      exact ⟨a, ns, rfl, f.sq, k _ γ H Ext.refl (.int _) s⟩
  · rename_i x _
    cases rs with
    | cons r t =>
    cases t
    cases e : lstOf S x with
    | none => rw [e] at h; cases h
    | some ys =>
      rw [e] at h
      cases e2 : intsOf ys with
      | none =>
        have h : (intsOf ys).map (fun ns => W.int ns.sum) = some w := h
        rw [e2] at h; cases h
      | some ns =>
        have h : (intsOf ys).map (fun ns => W.int ns.sum) = some w := h
        rw [e2] at h
        cases h
        obtain ⟨a, vs, rfl, hs, q⟩ := lst_or s e r
        have ev := intsOf_reps q e2
        subst ev
        exact ⟨a, ns, rfl, hs, k _ γ H Ext.refl (.int _) s⟩
  · cases h
theorem cr_allW (hc : X.calm = true) : CallR X (.builtin "all") (raOf X.K G baAll) := by
  refine (cr_all hc).imp ?_
  rintro xs H Q ⟨ws, S, γ, w, rs, s, h, k⟩
  unfold baAll at h
  split at h
  · rename_i x
    cases rs with
    | cons r t =>
    cases t
    cases e : lstOf S x with
    | none => rw [e] at h; cases h
    | some ys =>
      rw [e] at h
      cases e2 : bls ys with
      | none =>
        have h : (bls ys).map (fun bs => W.bl (bs.all id)) = some w := h
        rw [e2] at h; cases h
      | some ns =>
        have h : (bls ys).map (fun bs => W.bl (bs.all id)) = some w := h
        rw [e2] at h
        cases h
        obtain ⟨a, vs, rfl, hs, q⟩ := lst_or s e r
        have ev := bls_reps q e2
        subst ev
        exact ⟨a, ns, rfl, hs, k _ γ H Ext.refl (.bl _) s⟩
  · cases h
theorem cr_tupleW : CallR X (.type "tuple") (raOf X.K G baTuple) := by
  refine call_tuple_of.imp ?_
  rintro xs H Q ⟨ws, S, γ, w, rs, s, h, k⟩
  unfold baTuple at h
  split at h
  · cases rs with
    | cons r t =>
    cases t
    cases r with
    | tup f q =>
    cases h
    exact ⟨_, _, rfl, .inr ⟨f.sq, k _ γ H Ext.refl (.tup f q) s⟩⟩
  · rename_i x _
    cases rs with
    | cons r t =>
    cases t
    cases e : lstOf S x with
    | none => rw [e] at h; cases h
    | some ys =>
      rw [e] at h
      cases h
      obtain ⟨a, vs, rfl, hs, q⟩ := lst_or s e r
      refine ⟨a, vs, rfl, .inl ⟨hs, fun p hp => ?_⟩⟩
      have ex := Ext.upd (K := X.K) (G := G) s (o := .tup vs) hp
      exact k _ γ _ ex (.tup (.inl ⟨.inl upd_same, s.fresh hp⟩) (q.mono ex)) (s.upd hp)
  · cases h
def tyNm : Nat → String
  | 0 => "NoneType" | 1 => "bool" | 2 => "int" | 3 => "str" | 4 => "tuple" | 5 => "list" | _ => "dict"
theorem kind_kit {k c : Nat} (hk : k < 7) (hc : 1 ≤ c ∧ c < 7) : kitB (tyNm k) (tyNm c) = some (isKind k c) := by
  have all : ∀ k, k < 7 → ∀ c, c < 7 → 1 ≤ c → kitB (tyNm k) (tyNm c) = some (isKind k c) := by decide +kernel
  exact all k hk c hc.2 hc.1
theorem kind_ty {K : PySem.W.Frag} {γ : Ga} {H : Hp} {S : Store} {w : W} {v : V} {k : Nat} (s : StoreOk K G γ H S) (r : Rep K G γ H w v) (h : kindOf S w = some k) : k < 7 ∧ TyX K H v (.type (tyNm k)) := by
  cases r with
  | non => cases h; exact ⟨by decide, .base .non⟩
  | bl b => cases h; exact ⟨by decide, .base (.bl b)⟩
  | int i => cases h; exact ⟨by decide, .base (.int i)⟩
  | str l _ _ => cases h; exact ⟨by decide, .base (.str _)⟩
  | tup f q =>
    cases h
    refine ⟨by decide, ?_⟩
    rcases f with ⟨f | ⟨o, f⟩, _⟩ | ⟨o, its, n, hl, hc, _⟩
    · exact .base (.tup f)
    · exact .fTuple f
    · exact .kTuple hl hc
  | lst f _ q => cases h; exact ⟨by decide, .base (.lst f)⟩
  | scr f q =>
    cases h
    rcases f with ⟨⟨o, f⟩, _⟩ | ⟨o, its, n, hl, hc, _⟩
    · exact ⟨by decide, .base (.frz f)⟩
    · exact ⟨by decide, .kList hl hc⟩
  | @ref i a ha =>
    have h' : (match S[i]? with
      | some (.lst _) => some 5
      | some (.dct _ _) => some 6
      | _ => none) = some k := h
    split at h'
    · rename_i xs hc
      cases h'
      obtain ⟨_, vs, hv, _⟩ := s.cell i _ a hc ha
      exact ⟨by decide, .base (.lst hv)⟩
    · rename_i ks vs hc
      obtain ⟨_, _, us, d, _⟩ := s.cell i _ a hc ha
      cases h'
      rcases d with ⟨_, d, _⟩ | ⟨_, d, _⟩
      · exact ⟨by decide, .base (.dK d)⟩
      · exact ⟨by decide, .base (.dT d)⟩
    · cases h'
  | exc h1 f r => cases h
  | fn f => cases h
  | dct d f q =>
    cases h
    rcases d with ⟨_, d, _⟩ | ⟨_, d, _⟩
    · exact ⟨by decide, .base (.dK d)⟩
    · exact ⟨by decide, .base (.dT d)⟩
theorem se_isi (c : Nat) (hm : X.mg "isinstance" = none) (hmt : X.mg x = none) (ha : SE X G a f) (hv : bootBuiltins x = some (.type (tyNm c)) := by decide +kernel) (hc : 1 ≤ c ∧ c < 7 := by decide)
    (hg : Gl X "isinstance" := by rfl) (hgt : Gl X x := by rfl) (hn : x ≠ "__name__" := by decide) (hdb : (x == ("__debug__" : Str)) = false := by decide)
    (h1 : starEach (a :: [.Name x p2]) X.env = (false, eval a X.env) :: starEach [.Name x p2] X.env := by rfl) (h2 : starEach [.Name x p2] X.env = (false, eval (.Name x p2) X.env) :: starEach [] X.env := by rfl)
    (hpl : (backTo pos (starEach [.Name x p2] X.env)).any (·.1) = false := by rfl) : SE X G (.Call (.Name "isinstance" p) [a, .Name x p2] [] pos) (mUn (opIsi c) f) := by
  refine ⟨fun Wi tk => (pe_callB call_isi hg hm (by decide +kernel) (pa_cons (ha.run Wi tk) (pa_cons (pe_bltn (v := .ty (tyNm c)) hgt hmt hv rfl hn hdb) pa_nil h2) h1) (by decide) (by decide) h1 hpl).imp ?_⟩
  rintro σ H Q ⟨η, S, γ, he, hs, q⟩
  refine ⟨η, S, γ, he, hs, (Post.seq q).imp fun x H1 ⟨wx, S1, γ1, e1, r1, s1, q1⟩ => ?_⟩
  unfold opIsi at q1
  cases e : kindOf S1 wx with
  | none =>
    rw [e] at q1
    exact q1.elim
  | some k =>
    rw [e] at q1
    obtain ⟨k7, ty⟩ := kind_ty s1 r1 e
    exact ⟨x, .ty (tyNm c), _, _, _, rfl, .ty _, ty, kit_ty (kind_kit k7 hc), q1 _ γ1 H1 Ext.refl (.bl _) s1⟩
theorem join_W {a : List Nat} : ∀ {zs : List (List Nat)}, Txt.join ⟨a.toArray⟩ (zs.map fun l => (⟨l.toArray⟩ : Str)) = ⟨(joinW a zs).toArray⟩ := by
  intro zs
  rw [TL.join_eq]
  induction zs with
  | nil => rfl
  | cons z zs ih =>
    cases zs with
    | nil => rfl
    | cons y zs =>
      show (⟨z.toArray⟩ : Str) ++ ⟨a.toArray⟩ ++ Str.join ⟨a.toArray⟩ (List.map (fun l => (⟨l.toArray⟩ : Str)) (y :: zs)) = _
      rw [ih]
      show Str.mk ((z.toArray ++ a.toArray) ++ (joinW a (y :: zs)).toArray) = _
      simp [joinW]
theorem joinW_mem {a : List Nat} {c : Nat} : ∀ {zs : List (List Nat)}, c ∈ joinW a zs → c ∈ a ∨ ∃ z ∈ zs, c ∈ z
  | [], h => by cases h
  | [z], h => .inr ⟨z, List.mem_singleton.mpr rfl, h⟩
  | z :: y :: zs, h => by
    unfold joinW at h
    rcases List.mem_append.mp h with h | h
    · rcases List.mem_append.mp h with h | h
      · exact .inr ⟨z, List.mem_cons_self .., h⟩
      · exact .inl h
    · rcases joinW_mem h with h | ⟨u, hu, h⟩
      · exact .inl h
      · exact .inr ⟨u, List.mem_cons_of_mem _ hu, h⟩
theorem joinW_len {a : List Nat} : ∀ {zs : List (List Nat)}, (joinW a zs).length ≤ (zs.map (·.length)).sum + zs.length * a.length
  | [] => Nat.zero_le _
  | [z] => by simp [joinW]
  | z :: y :: zs => by
    have ih := joinW_len (a := a) (zs := y :: zs)
    unfold joinW
    simp only [List.length_append, List.map_cons, List.sum_cons, List.length_cons] at ih ⊢
    rw [Nat.add_mul] at ih ⊢
    rw [Nat.add_mul]
    omega
def mJoin (f g : ME) : ME := fun η S => (f η S).bind fun x S1 => match x with
  | .str a => (g η S1).bind fun y S2 => rOpt (opJoin (.str a) y S2) S2
  | _ => .stuck
theorem se_join (ha : SE X G a f) (hb : SE X G b g) (hs1 : starEach [b] X.env = [(false, eval b X.env)] := by rfl) (hbase : attributeBase a "join" X.env (eval a X.env) = eval a X.env := by rfl) (hline : (p.endLine == pos.line) = true := by rfl) :
    SE X G (.Call (.Attribute a "join" p) [b] [] pos) (mJoin f g) := by
  refine ⟨fun Wi tk => (pe_join (ha.run Wi tk) (hb.run Wi tk) hs1 hbase hline).imp ?_⟩
  rintro σ H Q ⟨η, S, γ, he, hs, q⟩
  refine ⟨η, S, γ, he, hs, (Post.seq q).imp fun x H1 ⟨wx, S1, γ1, e1, r1, s1, q1⟩ => ?_⟩
  split at q1
  · rename_i l
    cases r1 with
    | str _ a1 a2 =>
    refine ⟨⟨_, rfl⟩, η, S1, γ1, he.mono e1, s1, (Post.seq q1).imp fun y H2 ⟨wy, S2, γ2, e2, r2, s2, q2⟩ => ?_⟩
    unfold opJoin at q2
    cases es : seqOf S2 wy with
    | none =>
      simp only [es] at q2
      exact q2.elim
    | some ys =>
      simp only [es] at q2
      replace q2 : Post X.K G (Rep X.K G) (fun c d H' => Wi c d σ H') γ2 H2 (rOpt ((strsOf ys).bind fun zs => if (zs.map (·.length)).sum + zs.length * l.length ≤ bigLine then some (.str (joinW l zs)) else none) S2) Q := q2
      cases ez : strsOf ys with
      | none =>
        rw [ez] at q2
        exact q2.elim
      | some zs =>
        rw [ez] at q2
        replace q2 : Post X.K G (Rep X.K G) (fun c d H' => Wi c d σ H') γ2 H2 (rOpt (if (zs.map (·.length)).sum + zs.length * l.length ≤ bigLine then some (.str (joinW l zs)) else none) S2) Q := q2
        by_cases hl : (zs.map (·.length)).sum + zs.length * l.length ≤ bigLine
        · rw [if_pos hl] at q2
          have key : ∃ p vs, y = .ref p ∧ (SqL X.K H2 p vs ∨ SqT X.K H2 p vs) ∧ Reps X.K G γ2 H2 ys vs := by
            cases r2 with
            | tup fr q =>
              cases es
              exact ⟨_, _, rfl, .inr fr.sq, q⟩
            | lst h1 o1 q =>
              have es : lstOf S2 (W.lst _) = some ys := es
              obtain ⟨p, vs, e, hv, q⟩ := lst_or s2 es (.lst h1 o1 q)
              exact ⟨p, vs, e, .inl hv, q⟩
            | @ref i ad h1 =>
              have es : lstOf S2 (W.ref i) = some ys := es
              obtain ⟨p, vs, e, hv, q⟩ := lst_or s2 es (.ref h1)
              exact ⟨p, vs, e, .inl hv, q⟩
            | _ => cases es
          obtain ⟨p, vs, rfl, hsq, qr⟩ := key
          obtain ⟨ev, hc⟩ := strsOf_reps qr ez
          subst ev
          refine ⟨⟨l.toArray⟩, p, zs.map fun l => (⟨l.toArray⟩ : Str), rfl, rfl, hsq, ?_, ?_⟩
          · have e1 : ((zs.map fun l => (⟨l.toArray⟩ : Str)).map (·.length)) = zs.map (·.length) := by
              rw [List.map_map]
              exact List.map_congr_left fun l _ => by simp [Str.length]
            rw [e1, List.length_map]
            have e2 : (⟨l.toArray⟩ : Str).length = l.length := by simp [Str.length]
            rw [e2]
            exact hl
          · rw [join_W]
            refine q2 _ γ2 H2 Ext.refl (.str _ (fun c hc' => ?_) ?_) s2
            · rcases joinW_mem hc' with z | ⟨u, hu, z⟩
              · exact a1 c z
              · exact hc u hu c z
            · have := joinW_len (a := l) (zs := zs)
              rw [← bigLine_eq]
              omega
        · rw [if_neg hl] at q2
          exact q2.elim
  · exact q1.elim
theorem flat_rep {K : PySem.W.Frag} {γ : Ga} {H : Hp} {w : W} {v : V} (r : Rep K G γ H w v) (f : flat w = true) : flatV v = true := by
  cases r <;> first | rfl | cases f
theorem flats_rep {K : PySem.W.Frag} {γ : Ga} {H : Hp} : ∀ {ws : List W} {vs : List V}, Reps K G γ H ws vs → ws.all flat = true → vs.all flatV = true
  | _, _, .nil, _ => rfl
  | _, _, .cons r t, h => by
    rw [List.all_cons, Bool.and_eq_true] at h ⊢
    exact ⟨flat_rep r h.1, flats_rep t h.2⟩
theorem eqV_rep {K : PySem.W.Frag} {γ : Ga} {H : Hp} {w u : W} {v x : V} (r : Rep K G γ H w v) (q : Rep K G γ H u x) (f : flat w = true) (g : flat u = true) : eqV v x = eqW w u := by
  cases r with
  | str _ _ _ =>
    cases q with
    | str _ _ _ => unfold eqV eqW; exact str_beqW _ _
    | _ => first | (simp [eqV, eqW]; done) | cases g
  | non => cases q <;> first | (simp [eqV, eqW]; done) | cases g
  | bl _ => cases q <;> first | (simp [eqV, eqW]; done) | cases g
  | int _ => cases q <;> first | (simp [eqV, eqW]; done) | cases g
  | _ => cases f
theorem inV_rep {K : PySem.W.Frag} {γ : Ga} {H : Hp} {u : W} {x : V} (q : Rep K G γ H u x) (g : flat u = true) : ∀ {ws : List W} {vs : List V}, Reps K G γ H ws vs → ws.all flat = true → inV x vs = inW u ws
  | _, _, .nil, _ => rfl
  | _, _, .cons r t, h => by
    rw [List.all_cons, Bool.and_eq_true] at h
    have ih := inV_rep q g t h.2
    unfold inV inW at ih ⊢
    rw [List.any_cons, List.any_cons, ih, eqV_rep r q h.1 g]
theorem toDs_map : ∀ xs : List W, toDs xs = xs.map toD
  | [] => rfl
  | x :: xs => by unfold toDs; rw [toDs_map xs]; rfl
theorem shaped_of {d : PyData} {n : Nat} (h1 : d.canLay0 = true) (h2 : d.depth ≤ n) (h3 : n ≤ 64) : SeqAt.shaped d = true := by
  unfold SeqAt.shaped
  rw [h1, decide_eq_true (show d.depth ≤ 64 by omega)]
  rfl
theorem in_core {neg : Bool} {f : Value → Value → Sem Value} (h1 : OpR X f (fun x y H Q => ∃ (c : Nat) (z : Str), x = .str ⟨#[c]⟩ ∧ y = .str z ∧ Q (.bl (if neg then !decide (c ∈ z.cps.toList) else decide (c ∈ z.cps.toList))) H))
    (h2 : OpR X f (rIn X.K neg)) (h3 : OpR X f (fun x y H Q => ∃ d ds, Dp X.K H x d ∧ Dp X.K H y (.list ds) ∧ SeqAt.shaped d = true ∧ SeqAt.shaped (.list ds) = true ∧ Q (.bl (if neg then !ds.any fun z => PyData.eqv z d else ds.any fun z => PyData.eqv z d)) H)) :
    OpR X f (fun x y H Q => ∃ wx wy S γ b, Rep X.K G γ H wx x ∧ Rep X.K G γ H wy y ∧ StoreOk X.K G γ H S ∧ opIn wx wy S = some (.bl b) ∧ Q (.bl (if neg then !b else b)) H) := by
  refine (OpR.or h1 (OpR.or h2 h3)).imp ?_
  rintro x y H Q ⟨wx, wy, S, γ, b, rx, ry, s, h, k⟩
  unfold opIn at h
  split at h
  · rename_i c z
    cases rx
    cases ry
    cases h
    exact .inl ⟨c, _, rfl, rfl, k⟩
  · cases es : seqOf S wy with
    | none => simp only [es] at h; cases h
    | some ys =>
      simp only [es] at h
      have key : ∃ p vs, y = .ref p ∧ (SqL X.K H p vs ∨ SqT X.K H p vs) ∧ Reps X.K G γ H ys vs := by
        cases ry with
        | tup fr q =>
          cases es
          exact ⟨_, _, rfl, .inr fr.sq, q⟩
        | lst h1 o1 q =>
          have es : lstOf S (W.lst _) = some ys := es
          obtain ⟨p, vs, e, hv, q⟩ := lst_or s es (.lst h1 o1 q)
          exact ⟨p, vs, e, .inl hv, q⟩
        | @ref i ad h1 =>
          have es : lstOf S (W.ref i) = some ys := es
          obtain ⟨p, vs, e, hv, q⟩ := lst_or s es (.ref h1)
          exact ⟨p, vs, e, .inl hv, q⟩
        | _ => cases es
      split at h
      · rename_i hf
        cases h
        obtain ⟨p, vs, rfl, hsq, qr⟩ := key
        refine .inr (.inl ⟨p, vs, rfl, hsq, flat_rep rx hf.1, flats_rep qr hf.2, ?_⟩)
        rw [inV_rep rx hf.1 qr hf.2]
        exact k
      · cases el : lstOf S wy with
        | none => simp only [el] at h; cases h
        | some zs =>
          simp only [el] at h
          split at h
          · rename_i hd
            cases h
            obtain ⟨a, vs, rfl, hv, q⟩ := lstOf_rep s el ry
            obtain ⟨l1, l2⟩ := lay_of wx x 30 hd.1 rx
            obtain ⟨m1, m2⟩ := lays_of zs vs 29 hd.2 q
            refine .inr (.inr ⟨toD wx, toDs zs, dp_of wx x 30 hd.1 rx, .lst (SqL.of hv) (dps_of zs _ 29 hd.2 q), shaped_of l1 l2 (by decide), shaped_of (n := 30) (by simp only [PyData.canLay0]; exact m1) (by simp only [PyData.depth]; omega) (by decide), ?_⟩)
            have e : ((toDs zs).any fun z => PyData.eqv z (toD wx)) = inW wx zs := by
              unfold inW
              rw [toDs_map, List.any_map]
              have hz : ∀ z ∈ zs, okD z 29 = true := by
                have : ∀ (l : List W), okDs l 29 = true → ∀ z ∈ l, okD z 29 = true := by
                  intro l
                  induction l with
                  | nil => intro _ z hz; cases hz
                  | cons y l ih =>
                    intro h z hz
                    unfold okDs at h
                    obtain ⟨a1, a2⟩ := Bool.and_eq_true_iff.mp h
                    rcases List.mem_cons.mp hz with e | e
                    · rw [e]; exact a1
                    · exact ih a2 z e
                exact this zs hd.2
              clear m1 m2 q hv
              have : ∀ (l : List W), (∀ z ∈ l, okD z 29 = true) → l.any ((fun z => PyData.eqv z (toD wx)) ∘ toD) = l.any fun y => eqW y wx := by
                intro l
                induction l with
                | nil => intro _; rfl
                | cons y l ih =>
                  intro h
                  rw [List.any_cons, List.any_cons, ih fun z hz => h z (List.mem_cons_of_mem _ hz)]
                  show (PyData.eqv (toD y) (toD wx) || _) = _
                  rw [eqv_of y wx _ _ (h y (List.mem_cons_self ..)) hd.1]
              exact this zs hz
            rw [e]
            exact k
          · cases h
theorem opIn_bl {x y w : W} {S : Store} (h : opIn x y S = some w) : ∃ b, w = .bl b := by
  unfold opIn at h
  repeat' split at h
  all_goals first | (cases h; exact ⟨_, rfl⟩) | cases h
theorem o2_in (hu : X.A.units + 65 < cLine) : OpR X (compareOp .In) (rOf X.K G opIn) := by
  refine (in_core (G := G) (neg := false) op_in_sign op_in_seq (op_inD hu)).imp ?_
  rintro x y H Q ⟨wx, wy, S, γ, w, rx, ry, s, h, k⟩
  obtain ⟨b, rfl⟩ := opIn_bl h
  exact ⟨wx, wy, S, γ, b, rx, ry, s, h, k _ γ H Ext.refl (.bl _) s⟩
/-- a new list of the store -/
def mLstS (g : MA) : ME := fun η S => (g η S).bind fun xs S1 => if pures xs = true then sized xs.length (.ok (.ref S1.length) (S1 ++ [.lst xs])) else .stuck
theorem se_lstS (h : SA X G es ga) : SE X G (.List es pos) (mLstS ga) := by
  refine ⟨fun Wi tk => (pe_lst (h.run Wi tk)).imp ?_⟩
  rintro σ H Q ⟨η, S, γ, he, hs, q⟩
  refine ⟨η, S, γ, he, hs, (Post.seq q).imp fun x H1 ⟨wx, S1, γ1, e1, r1, s1, q1⟩ => ?_⟩
  split at q1
  · rename_i pw
    obtain ⟨hl, q1⟩ := sized_post q1
    refine ⟨by rw [← r1.length]; exact hl, fun p hp => ?_⟩
    have ex := Ext.push (K := X.K) (G := G) s1 (o := .lst x) hp
    refine q1 _ (γ1.push p) _ ex (.ref ?_) (s1.push hp pw r1)
    show (γ1.ρ ++ [p])[S1.length]? = some p
    rw [← s1.len, List.getElem?_append_right (Nat.le_refl _), Nat.sub_self]
    rfl
  · exact q1.elim
/-- how many values a row of targets takes -/
def GLen (gs : MGs) (n : Nat) : Prop := ∀ ws η S r, gs ws η S = some r → ws.length = n
theorem glen_nil : GLen gsNil 0 := fun ws η S r h => by
  cases ws with
  | nil => rfl
  | cons _ _ => cases h
theorem glen_cons {g : MG} {gs : MGs} {n : Nat} (h : GLen gs n) : GLen (gsCons g gs) (n + 1) := fun ws η S r e => by
  cases ws with
  | nil => cases e
  | cons w ws =>
    have e : (g w η S).bind (fun (η1, S1) => gs ws η1 S1) = some r := e
    cases eg : g w η S with
    | none => rw [eg] at e; cases e
    | some p =>
      rw [eg] at e
      rw [List.length_cons, h _ _ _ _ e]
end
end Mp
namespace Mp
open PySem PySem.Spec PyProof.Rows L2
section
variable {P : Program} {w : World} {K : PySem.W.Frag} {mg : Str → Option Value} {base : Heap} {G : Gs} {T : List Mp.Fun} {D : List FnR} {d f : Nat} {r : FnR} {fd : FuncData}
theorem getElem?_start {N : List Str} {vs : List V} {i : Nat} {v : V} (h : vs[i]? = some v) : (L2.start N vs)[i]? = some (some v) := by
  unfold L2.start
  have hi : i < vs.length := (List.getElem?_eq_some_iff.mp h).1
  rw [List.getElem?_append_left (by rw [List.length_map]; exact hi), List.getElem?_map, h]
  rfl
theorem env_start {N : List Str} {γ : Ga} {H : Hp} {ws : List W} {vs : List V} {np nv : Nat} (q : Reps K G γ H ws vs) (h1 : ws.length = np) (h2 : nv = N.length) : EnvOk K G γ H (ws.map some ++ List.replicate (nv - np) none) (L2.start N vs) := by
  have hl := q.length
  refine ⟨by unfold L2.start; rw [List.length_append, List.length_append, List.length_map, List.length_map, List.length_replicate, List.length_replicate, ← hl, h1, h2], fun i w hi => ?_⟩
  by_cases lt : i < ws.length
  · rw [List.getElem?_append_left (by rw [List.length_map]; exact lt), List.getElem?_map] at hi
    cases e : ws[i]? with
    | none => rw [e] at hi; cases hi
    | some u =>
      rw [e] at hi
      cases hi
      obtain ⟨v, hv, r⟩ := q.get e
      exact ⟨v, getElem?_start hv, r⟩
  · rw [List.getElem?_append_right (by rw [List.length_map]; omega)] at hi
    have := (List.getElem?_eq_some_iff.mp hi).2
    rw [List.getElem_replicate] at this
    cases this
theorem cfg_of {N ps : List Str} {scope : Scope} {qual : Str} {cdv : Value} {A : Around} {outer : List PySem.Env} {s : Shared} {H : Hp} {E : XK} {fa : Addr} (S : FnScope N ps scope) (hr : Room d (A.deeper (envOfC qual scope s.heap.objs.size fa cdv))) : Cfg (cxOf (L2.CX P w) P w K mg base N qual scope fa cdv A outer s H E) :=
  ⟨rfl, S.nd, passes_of (K := fun e s'' => L2.CX P w outer H s E e s'') rfl, by
    have := hr.un
    show (A.deeper _).units + 100 < cLine
    omega⟩
theorem fn_step {F : Mp.Fun} {N : List Str} (h : FT P w K mg base G d (fns T d f) f r fd) (hT : T[f]? = some F) (hnp : F.np = r.ps.length) (hnv : F.nv = N.length) (S : FnScope N r.ps (defScope r.st))
    (hbody : ∀ (cdv : Value) (A : Around) (outer : List PySem.Env) (s : Shared) (H : Hp) (E : XK), Cfg (cxOf (L2.CX P w) P w K mg base N r.x (defScope r.st) (G.fa f) cdv A outer s H E) → Room (d + 2) (A.deeper (envOfC r.x (defScope r.st) s.heap.objs.size (G.fa f) cdv)) →
      SSs (cxOf (L2.CX P w) P w K mg base N r.x (defScope r.st) (G.fa f) cdv A outer s H E) G (defBody r.st) (F.body (fns T d))) : FT P w K mg base G (d + 1) (fns T (d + 1) f) f r fd where
  ok := by
    refine h.F.ok S (fun vs H Q E q => q.1) fun cdv A outer s H vs Q E hr q => ?_
    obtain ⟨hl, ws, S0, γ, rs, ss, q⟩ := q
    refine ⟨tsOf K G (fun c dd _ H' => E c dd H') (F.body (fns T d)), (hbody cdv A outer s H E (cfg_of S hr) hr).run _ (takes_of rfl rfl rfl rfl), ?_⟩
    have q : Post K G (Rep K G) E γ H (match T[f]? with
      | some F => runF F (fns T d) ws S0
      | none => .stuck) Q := q
    rw [hT] at q
    have q : Post K G (Rep K G) E γ H (if ws.length = F.np then (if F.fr = true then (if pures ws = true then (finS false 0 (F.body (fns T d) (ws.map some ++ List.replicate (F.nv - F.np) none) [])).frame S0 else .stuck) else finS F.keep S0.length (F.body (fns T d) (ws.map some ++ List.replicate (F.nv - F.np) none) S0)) else .stuck) Q := q
    split at q
    · rename_i hw
      split at q
      · split at q
        · rename_i pw
          exact ⟨_, [], γ.hid, env_start (reps_hid pw rs) hw hnv, store_hid ss, fin_ok (keep := false) (fun _ _ _ _ z => z) (store_hid ss) (frame_post ss q)⟩
        · exact q.elim
      · exact ⟨_, S0, γ, env_start rs hw hnv, ss, fin_ok (fun _ _ _ _ z => z) ss q⟩
    · exact q.elim
  gl := h.gl
  F := h.F
  b := h.b
  len := fun ws S0 q => by
    have q : (match T[f]? with
      | some F => runF F (fns T d) ws S0
      | none => .stuck) ≠ R.stuck := q
    rw [hT] at q
    have q : (if ws.length = F.np then (if F.fr = true then (if pures ws = true then (finS false 0 (F.body (fns T d) (ws.map some ++ List.replicate (F.nv - F.np) none) [])).frame S0 else .stuck) else finS F.keep S0.length (F.body (fns T d) (ws.map some ++ List.replicate (F.nv - F.np) none) S0)) else .stuck) ≠ R.stuck := q
    split at q
    · rename_i hw
      rw [hw, hnp]
    · exact absurd rfl q
theorem kwb_of {ks ps : List Str} {n : Nat} {perm : List Nat} {x : Str} {params : Arguments} {body : List Stmt} {scope : Scope} {fa : Addr} (F : FunD K x x params body scope [] [] fa fd)
    (h : ∀ (kV doc pm : Value) (an : Option Addr) (cdv ct : Value) (us : List Value), us.length = n + ks.length → bindArgs (PySem.W.fnOf x x params body scope .none kV doc pm an cdv ct) ⟨us.take n, ks.zip (us.drop n)⟩ = pure (ps.zip (perm.map fun i => us.getD i .none))) : KwB K fd ps ks n perm := by
  obtain ⟨oc, od, dV, kV, doc, pm, an, cdv, ct, osl, rfl, lk, hcd, hD, hK⟩ := F.ex
  rcases hD with ⟨_, rfl⟩ | ⟨e, _⟩
  · exact fun s us hl => .of_eq (h kV doc pm an cdv ct us hl)
  · exact absurd rfl e
end
end Mp
namespace Mp
open PySem PySem.Spec PyProof.Rows L2
def hookM (n : Nat) (fa : List He.Fa) (fn : List He.DefD) (ex : PySem.W.Frag → Bool) : PySem.W.Hook where
  α := He.AlD × Bool
  obs := fun s => (He.obsDG n fa fn s.heap.get?, ex (He.frG s.heap.get? (He.asD s.heap.get? n)))
  val := fun _ => (He.valD fn, true)
  says := fun _ h => ∃ K : PySem.W.Frag, K.In h ∧ He.SaysD fa fn K ∧ ex K = true
  of := fun _ _ e => ⟨_, He.frG_in, congrArg Prod.fst e, congrArg Prod.snd e⟩
  keeps := fun _ _ _ ⟨K, hK, c⟩ k => ⟨K, PySem.W.Frag.In.keeps hK k, c⟩
def obM (n : Nat) (fa : List He.Fa) (fn : List He.DefD) (ex : PySem.W.Frag → Bool) (g : Addr → Option Obj) : He.AlD × Bool := (He.obsDG n fa fn g, ex (He.frG g (He.asD g n)))
end Mp
namespace Mp
open PySem PySem.Spec PyProof.Rows L2
section
variable {P : Program} {w : World} {K : PySem.W.Frag} {mg : Str → Option Value} {base : Heap} {G : Gs} {φ : List W → Store → R W} {d f : Nat} {r : FnR}
theorem with_kw {ks : List Str} {n : Nat} {perm : List Nat} (h : ∃ fd, FT P w K mg base G d φ f r fd) (k : ∀ fd, FT P w K mg base G d φ f r fd → KwB K fd r.ps ks n perm) : ∃ fd, FT P w K mg base G d φ f r fd ∧ KwB K fd r.ps ks n perm :=
  let ⟨fd, h⟩ := h
  ⟨fd, h, k fd h⟩
end
end Mp
namespace Mp
open PySem PySem.Spec PyProof.Rows L2
def MaLen (g : MA) (n : Nat) : Prop := ∀ η S ws S', g η S = .ok ws S' → ws.length = n
theorem ml_nil : MaLen maNil 0 := fun η S ws S' h => by cases h; rfl
theorem ml_cons {f : ME} {g : MA} {n : Nat} (h : MaLen g n) : MaLen (maCons f g) (n + 1) := fun η S ws S' e => by
  have e : ((f η S).bind fun x S1 => (g η S1).bind fun xs S2 => R.ok (x :: xs) S2) = .ok ws S' := e
  cases ef : f η S with
  | stuck => rw [ef] at e; cases e
  | exc c x S1 => rw [ef] at e; cases e
  | ok x S1 =>
    rw [ef] at e
    have e : ((g η S1).bind fun xs S2 => R.ok (x :: xs) S2) = .ok ws S' := e
    cases eg : g η S1 with
    | stuck => rw [eg] at e; cases e
    | exc c x S1 => rw [eg] at e; cases e
    | ok xs S2 =>
      rw [eg] at e
      cases e
      rw [List.length_cons, h _ _ _ _ eg]
end Mp
namespace Mp
theorem sSeq_nx {f g : MS} {η η1 : Env} {S S1 : Store} (h : f η S = .nx η1 S1) : sSeq f g η S = g η1 S1 := by
  unfold sSeq
  rw [h] <;> rfl
/-- runs to its end -/
def Nx (r : RS) (P : Env → Store → Prop) : Prop := ∃ η S, r = .nx η S ∧ P η S
theorem Nx.of {η : Env} {S : Store} {P : Env → Store → Prop} (h : P η S) : Nx (.nx η S) P := ⟨η, S, rfl, h⟩
theorem Nx.seq {f g : MS} {η η1 : Env} {S S1 : Store} {P : Env → Store → Prop} (h : f η S = .nx η1 S1) (k : Nx (g η1 S1) P) : Nx (sSeq f g η S) P := by
  rw [sSeq_nx h]
  exact k
theorem Nx.imp {r : RS} {P P' : Env → Store → Prop} (h : Nx r P) (k : ∀ η S, P η S → P' η S) : Nx r P' := by
  obtain ⟨η1, S1, e, i⟩ := h
  exact ⟨_, _, e, k _ _ i⟩
/-- a loop that keeps an invariant -/
theorem Nx.loop {g : MG} {b : MS} (I : Env → Store → Prop) : ∀ (xs : List W), (∀ x, x ∈ xs → ∀ η S, I η S → ∃ η1 S1, g x η S = some (η1, S1) ∧ Nx (b η1 S1) I) → ∀ {η S}, I η S → Nx (forL g b xs η S) I
  | [], _, η, S, hi => ⟨η, S, rfl, hi⟩
  | x :: r, h, η, S, hi => by
    obtain ⟨η1, S1, e1, η2, S2, e2, i2⟩ := h x (List.mem_cons_self ..) η S hi
    have : forL g b (x :: r) η S = forL g b r η2 S2 := by
      conv => lhs; unfold forL
      simp only [e1, e2]
    rw [this]
    exact Nx.loop I r (fun y hy => h y (List.mem_cons_of_mem _ hy)) i2
/-- gives a value -/
def Rt (r : RS) (w : W) : Prop := ∃ S, r = .ret w S
theorem Rt.seq {f g : MS} {η η1 : Env} {S S1 : Store} {w : W} (h : f η S = .nx η1 S1) (k : Rt (g η1 S1) w) : Rt (sSeq f g η S) w := by
  rw [sSeq_nx h]
  exact k
/-- a well -/
def Well (S : Store) (i : Nat) : Prop := ∃ a b c : Int, 0 ≤ a ∧ 0 ≤ b ∧ S[i]? = some (.lst [.int a, .int b, .int c])
theorem Well.new {S : Store} {a b c : Int} (ha : 0 ≤ a) (hb : 0 ≤ b) : Well (S ++ [.lst [.int a, .int b, .int c]]) S.length := ⟨a, b, c, ha, hb, by rw [List.getElem?_append_right (Nat.le_refl _), Nat.sub_self] <;> rfl⟩
end Mp
namespace Mp
open PySem PySem.Spec PyProof.Rows L2 RZ
/-- pairs of items that stand beside each other -/
def pairsW (xs ys : List W) : List W := (xs.zip ys).map fun p => W.tup [p.1, p.2]
def enumL : Int → List W → List W
  | _, [] => []
  | i, x :: r => .tup [.int i, x] :: enumL (i + 1) r
end Mp
namespace Mp
open PySem PySem.Spec PyProof.Rows L2 RZ
section
variable {K : PySem.W.Frag} {G : Gs} {γ : Ga} {H : Hp} {S : Store}
theorem pair_new {T : Addr} {x y : V} {wx wy : W} (hT : H T = none) (s : StoreOk K G γ H S) (rx : Rep K G γ H wx x) (ry : Rep K G γ H wy y) :
    Ext γ H γ (upd H T (.tup [x, y])) ∧ StoreOk K G γ (upd H T (.tup [x, y])) S ∧ Rep K G γ (upd H T (.tup [x, y])) (.tup [wx, wy]) (.ref T) :=
  ⟨Ext.upd s hT, s.upd hT, .tup (.inl ⟨.inl upd_same, s.fresh hT⟩) (.cons (rx.mono (Ext.upd s hT)) (.cons (ry.mono (Ext.upd s hT)) .nil))⟩
theorem pairsW_get {xs ys : List W} {i : Nat} {w : W} (h : (pairsW xs ys)[i]? = some w) : ∃ a b, xs[i]? = some a ∧ ys[i]? = some b ∧ w = .tup [a, b] := by
  unfold pairsW at h
  rw [List.getElem?_map] at h
  cases e : (xs.zip ys)[i]? with
  | none => rw [e] at h; cases h
  | some p =>
    rw [e] at h
    cases h
    rw [List.getElem?_zip_eq_some] at e
    exact ⟨_, _, e.1, e.2, rfl⟩
theorem pairsW_len {xs ys : List W} : (pairsW xs ys).length = min xs.length ys.length := by
  unfold pairsW
  rw [List.length_map, List.length_zip]
theorem enumL_get : ∀ {xs : List W} {k : Int} {i : Nat} {w : W}, (enumL k xs)[i]? = some w → ∃ a, xs[i]? = some a ∧ w = .tup [.int (k + i), a]
  | [], k, i, w, h => by simp [enumL] at h
  | x :: r, k, 0, w, h => by
    have e : w = .tup [.int k, x] := by simpa [enumL] using h.symm
    exact ⟨x, rfl, by rw [e]; simp⟩
  | x :: r, k, i + 1, w, h => by
    have h : (enumL (k + 1) r)[i]? = some w := by simpa [enumL] using h
    obtain ⟨a, ha, e⟩ := enumL_get h
    exact ⟨a, by simpa using ha, by rw [e]; congr 3; omega⟩
theorem enumL_len : ∀ {xs : List W} {k : Int}, (enumL k xs).length = xs.length
  | [], _ => rfl
  | x :: r, k => by rw [enumL, List.length_cons, List.length_cons, enumL_len]
theorem itOk_enum {a : Addr} {xs : List W} {vs : List V} (sa : ∀ {γ' H'}, ExtW γ H γ' H' → SqL K H' a vs) (q : Reps K G γ H xs vs) : ItOk K G (Ite K a) (enumL 0 xs) γ H := by
  refine ⟨fun i γ' H' S hi e _ => ?_, fun γ' H' S e _ => ⟨vs, sa e, ?_⟩, fun i w γ' H' S x H'' hw e s y => ?_⟩
  · rw [enumL_len, q.length] at hi
    exact ⟨vs, vs[i], sa e, List.getElem?_eq_getElem hi⟩
  · rw [enumL_len, q.length]
    exact Nat.le_refl _
  · obtain ⟨T, v, rfl, hT, rfl, h1⟩ := y
    obtain ⟨p, hp, rfl⟩ := enumL_get hw
    obtain ⟨v', hv', rv⟩ := q.get hp
    have z1 := h1 vs (sa e)
    rw [hv'] at z1
    cases z1
    rw [Int.zero_add]
    exact pair_new hT s (.int _) (rv.monoW e)
end
end Mp
namespace Mp
open PySem PySem.Spec PyProof.Rows L2 RZ
section
variable {X : Cx} {G : Gs} {a b e : Expr} {pos p tpos : Pos} {ga : MA} {elts : List Expr} {kk : Nat}
def miAll (o : List W → Option (List W)) (ga : MA) : MI := fun η S => (ga η S).bind fun ws S1 => rOpt (o ws) S1
end
end Mp
namespace Mp
open PySem PySem.Spec PyProof.Rows L2
section
variable {X : Cx} {G : Gs} {tg iter elt : Expr} {ifs : List Expr} {scope : Scope} {f : ME} {g g1 : MG} {t t1 : MT} {it it1 : MI} {is is1 : List Nat} {own : List (Str × Nat)} {pos : Pos}
/-- what holds between turns: D holds what was gathered -/
structure Gat (K : PySem.W.Frag) (G : Gs) (γ0 : Ga) (H0 : Hp) (D : Addr) (γ : Ga) (H : Hp) (S : Store) (acc : List W) : Prop where
  s : StoreOk K G γ H S
  ex : Ext γ0 H0 γ H
  dβ : D ∈ γ.β
  us : ∃ us, H D = some (.lst us) ∧ Reps K G γ H acc us
theorem Gat.step {K : PySem.W.Frag} {γ0 γ γ' : Ga} {H0 H H' : Hp} {D : Addr} {S S' : Store} {acc : List W} (h : Gat K G γ0 H0 D γ H S acc) (e : Ext γ H γ' H') (s : StoreOk K G γ' H' S') : Gat K G γ0 H0 D γ' H' S' acc := by
  obtain ⟨us, h1, h2⟩ := h.us
  exact ⟨s, h.ex.trans e, e.bsub _ h.dβ, us, e.keep D _ h1 (h.s.bt D h.dβ).1, h2.mono e⟩
theorem Gat.start {K : PySem.W.Frag} {γ0 : Ga} {H0 : Hp} {S0 : Store} {D : Addr} (hs : StoreOk K G γ0 H0 S0) (hD : H0 D = none) : Gat K G γ0 H0 D ⟨γ0.ρ, D :: γ0.β⟩ (L2.upd H0 D (.lst [])) S0 [] := by
  have off := hs.fresh hD
  refine ⟨?_, ?_, List.mem_cons_self .., [], upd_same, .nil⟩
  · have s1 := hs.upd (o := .lst []) hD
    refine ⟨s1.len, s1.nd, fun i c a hc ha => ?_, fun a ha => ?_⟩
    · have q := s1.cell i c a hc ha
      cases c with
      | lst ys =>
        obtain ⟨p1, us, hv, r'⟩ := hs.cell i _ a hc ha
        refine ⟨p1, us, by rw [upd_ne (ne_of_none hv hD)]; exact hv, r'.mono ?_⟩
        exact ⟨List.prefix_refl _, fun b hb => List.mem_cons_of_mem _ hb, fun b hb => (List.mem_cons.mp hb).elim (fun z => .inr (by rw [z]; exact hD)) .inl, fun b u e _ => by rw [upd_ne (ne_of_none e hD)]; exact e, fun _ h1 h2 => absurd h1 h2, fun b u e => ⟨u, by rw [upd_ne (ne_of_none e hD)]; exact e⟩⟩
      | dct _ _ => exact (hs.cell i _ a hc ha).to (fun o f => by rw [upd_ne (ne_of_none f hD)]; exact f) fun _ r => by refine r.mono ?_; exact ⟨List.prefix_refl _, fun b hb => List.mem_cons_of_mem _ hb, fun b hb => (List.mem_cons.mp hb).elim (fun z => .inr (by rw [z]; exact hD)) .inl, fun b u e _ => by rw [upd_ne (ne_of_none e hD)]; exact e, fun _ h1 h2 => absurd h1 h2, fun b u e => ⟨u, by rw [upd_ne (ne_of_none e hD)]; exact e⟩⟩
      | ins _ _ => exact q.elim
    · rcases List.mem_cons.mp ha with z | z
      · rw [z]
        exact ⟨off.1, _, upd_same, fun _ z => nomatch z⟩
      · obtain ⟨n, o, q, nt⟩ := hs.bt a z
        exact ⟨n, o, by rw [upd_ne (ne_of_none q hD)]; exact q, nt⟩
  · exact ⟨List.prefix_refl _, fun b hb => List.mem_cons_of_mem _ hb, fun b hb => (List.mem_cons.mp hb).elim (fun z => .inr (by rw [z]; exact hD)) .inl, fun b u e _ => by rw [upd_ne (ne_of_none e hD)]; exact e, fun _ h1 h2 => absurd h1 h2, fun b u e => ⟨u, by rw [upd_ne (ne_of_none e hD)]; exact e⟩⟩
theorem Gat.done {K : PySem.W.Frag} {γ0 γ : Ga} {H0 H : Hp} {S0 S : Store} {D : Addr} {acc : List W} (hs : StoreOk K G γ0 H0 S0) (hD : H0 D = none) (h : Gat K G γ0 H0 D γ H S acc) :
    ∃ γ', Ext γ0 H0 γ' H ∧ Rep K G γ' H (.lst acc) (.ref D) ∧ StoreOk K G γ' H S := by
  obtain ⟨us, hus, racc⟩ := h.us
  have s := h.s
  have ex := h.ex
  have nD := (s.bt D h.dβ).1
  have fr : Ext γ0 H0 ⟨γ.ρ, γ.β.filter (fun a => decide (a ≠ D))⟩ H := by
    refine ⟨ex.pre, fun a ha => ?_, fun a ha => ex.bnew a (List.mem_filter.mp ha).1, ex.keep, ex.new, ex.dom⟩
    refine List.mem_filter.mpr ⟨ex.bsub a ha, ?_⟩
    obtain ⟨_, o, q, _⟩ := hs.bt a ha
    exact decide_eq_true (ne_of_none q hD)
  have lessO : ∀ (a : Addr) (o : HO), H a = some o → γ.Off a → Ga.Off ⟨γ.ρ, γ.β.filter (fun a => decide (a ≠ D))⟩ a := fun a o _ z => ⟨z.1, fun q => z.2 (List.mem_filter.mp q).1⟩
  have shrs : ∀ {w : List W} {v : List V}, Reps K G γ H w v → Reps K G ⟨γ.ρ, γ.β.filter (fun a => decide (a ≠ D))⟩ H w v := fun r => Reps.shrink (γ := γ) (γ' := ⟨γ.ρ, γ.β.filter (fun a => decide (a ≠ D))⟩) rfl lessO r
  refine ⟨_, fr, .lst hus ⟨nD, fun q => ?_⟩ (shrs racc), s.len, s.nd, fun i c a hc ha => ?_, fun a ha => s.bt a (List.mem_filter.mp ha).1⟩
  · have := (List.mem_filter.mp q).2
    simp at this
  · have q := s.cell i c a hc ha
    cases c with
    | lst ys =>
      obtain ⟨p1, us', hv, r'⟩ := q
      exact ⟨p1, us', hv, shrs r'⟩
    | dct _ _ => exact q.to (fun _ f => f) fun _ r => shrs r
    | ins _ _ => exact q.elim
end
end Mp
namespace Mp
open PySem PySem.Spec PyProof.Rows L2
/-- what a method does, by the receiver, the arguments, the store -/
abbrev OM := W → List W → Store → Option (W × Store)
/-- the receiver's kind: 3 a text, 4 a tuple, 5 a list -/
def recOk (c : Nat) (S : Store) (x : W) : Bool := match c, x with
  | 3, .str _ => true
  | 5, .lst _ => true
  | 5, .ref i => (match S[i]? with
    | some (.lst _) => true
    | _ => false)
  | 6, .dct _ _ => true
  | 6, .ref i => (match S[i]? with
    | some (.dct _ _) => true
    | _ => false)
  | _, _ => false
def rOM (o : Option (W × Store)) : R W := match o with
  | some (w, S) => .ok w S
  | none => .stuck
def mMeth (c : Nat) (o : OM) (f : ME) (ga : MA) : ME := fun η S => (f η S).bind fun x S1 => if recOk c S1 x = true then (ga η S1).bind fun ws S2 => rOM (o x ws S2) else .stuck
/-- the place of a sign in '012' -/
def omIndex012 : OM := fun x ws S => match x, ws with
  | .str z, [.str [c]] => if z = [48, 49, 50] then (if c = 48 then some (.int 0, S) else if c = 49 then some (.int 1, S) else if c = 50 then some (.int 2, S) else none) else none
  | _, _ => none
def rmOf (K : PySem.W.Frag) (G : Gs) (o : OM) : V → List V → Hp → VK → Prop := fun x vs H Q => ∃ wx ws S γ w S3, Rep K G γ H wx x ∧ Reps K G γ H ws vs ∧ StoreOk K G γ H S ∧ o wx ws S = some (w, S3) ∧ ∀ v γ' H', Ext γ H γ' H' → Rep K G γ' H' w v → StoreOk K G γ' H' S3 → Q v H'
end Mp
namespace Mp
open PySem PySem.Spec PyProof.Rows L2
section
variable {X : Cx} {G : Gs} {a e : Expr} {es : List Expr} {apos cpos : Pos} {f : ME} {ga : MA} {T id : String} {name : Str} {o : OM} {c : Nat}
def tyOfC : Nat → String
  | 3 => "str"
  | 6 => "dict"
  | _ => "list"
theorem rec_ty {K : PySem.W.Frag} {γ : Ga} {H : Hp} {S : Store} {w : W} {v : V} (r : Rep K G γ H w v) (s : StoreOk K G γ H S) (h : recOk c S w = true) : tyV K (tyOfC c) v H := by
  unfold recOk at h
  split at h
  · cases r
    rfl
  · cases r with
    | lst h1 o1 q1 => exact .inl ⟨rfl, _, SqL.of h1⟩
  · rename_i i
    cases r with
    | ref hr =>
      split at h
      · rename_i xs hc
        obtain ⟨_, vs, hv, _⟩ := s.cell i _ _ hc hr
        exact .inl ⟨rfl, _, SqL.of hv⟩
      · cases h
  · cases r with
    | dct d f q =>
      refine .inr (.inr (.inl ⟨rfl, ?_⟩))
      rcases d with ⟨_, d, _⟩ | ⟨_, d, _⟩
      · exact .inl ⟨_, d⟩
      · exact .inr ⟨_, d⟩
  · rename_i i
    cases r with
    | ref hr =>
      split at h
      · rename_i xs hc
        obtain ⟨_, _, us, d, _⟩ := s.cell i _ _ hc hr
        refine .inr (.inr (.inl ⟨rfl, ?_⟩))
        rcases d with ⟨_, d, _⟩ | ⟨_, d, _⟩
        · exact .inl ⟨_, d⟩
        · exact .inr ⟨_, d⟩
      · cases h
  · cases h
theorem se_meth (c : Nat) (o : OM) (pa : PlainAttrs (tyOfC c)) (slot : Slot (tyOfC c) name id) (hty : typeOf (.builtin id) = pure (.type "method_descriptor")) (hm : MtR X id (rmOf X.K G o)) (ha : SE X G a f) (hb : SA X G (e :: es) ga)
    (hbase : attributeBase a name X.env (eval a X.env) = eval a X.env := by rfl)
    (hfew : ((backTo cpos (starEach (e :: es) X.env)).all (fun x => !x.1) && (backToKw cpos (keywordEach [] X.env)).all (fun x => x.1.isSome)
      && decide ((e :: es).length + ([] : List Keyword).length + (if ([] : List Keyword).isEmpty then 0 else 1) < 30)) = true := by rfl)
    (hline : (apos.endLine == cpos.line) = true := by rfl) (hs : starEach (e :: es) X.env = (false, eval e X.env) :: starEach es X.env := by rfl) (hplain : (backTo cpos (starEach es X.env)).any (·.1) = false := by rfl) :
    SE X G (.Call (.Attribute a name apos) (e :: es) [] cpos) (mMeth c o f ga) := by
  refine ⟨fun Wi tk => (pe_bm pa slot hty hm (ha.run Wi tk) (hb.run Wi tk) hbase hfew hline hs hplain).imp ?_⟩
  rintro σ H Q ⟨η, S, γ, he, hs, q⟩
  refine ⟨η, S, γ, he, hs, (Post.seq q).imp fun x H1 ⟨wx, S1, γ1, e1, r1, s1, q1⟩ => ?_⟩
  split at q1
  · rename_i hr
    refine ⟨rec_ty r1 s1 hr, η, S1, γ1, he.mono e1, s1, (Post.seq q1).imp fun xs H2 ⟨ws, S2, γ2, e2, r2, s2, q2⟩ => ?_⟩
    cases eo : o wx ws S2 with
    | none =>
      rw [eo] at q2
      exact q2.elim
    | some p =>
      obtain ⟨w, S3⟩ := p
      rw [eo] at q2
      exact ⟨wx, ws, S2, γ2, w, S3, r1.mono e2, r2, s2, eo, q2⟩
  · exact q1.elim
theorem mt_imp {r r' : V → List V → Hp → VK → Prop} (h : MtR X id r) (i : ∀ x xs H Q, r' x xs H Q → r x xs H Q) : MtR X id r' := fun pins s σ H x xs v us Q I r1 r2 q => h pins s σ H x xs v us Q I r1 r2 (i _ _ _ _ q)
theorem om_index012 : MtR X "str.index" (rmOf X.K G omIndex012) := by
  refine mt_imp mt_sindex ?_
  rintro x xs H Q ⟨wx, ws, S, γ, w, S3, r, rs, s, h, k⟩
  unfold omIndex012 at h
  split at h
  · rename_i z c
    cases r
    cases rs with
    | cons r1 t =>
    cases t
    cases r1
    split at h
    · rename_i hz
      subst hz
      split at h
      · rename_i hc
        subst hc
        cases h
        exact ⟨_, _, 0, [], rfl, rfl, by decide +kernel, k _ γ H Ext.refl (.int _) s⟩
      · split at h
        · rename_i hc
          subst hc
          cases h
          exact ⟨_, _, 1, [], rfl, rfl, by decide +kernel, k _ γ H Ext.refl (.int _) s⟩
        · split at h
          · rename_i hc
            subst hc
            cases h
            exact ⟨_, _, 2, [], rfl, rfl, by decide +kernel, k _ γ H Ext.refl (.int _) s⟩
          · cases h
    · cases h
  · cases h
end
end Mp
namespace Mp
open PySem PySem.Spec PyProof.Rows L2
section
variable {X : Cx} {G : Gs}
theorem intsOf_reps' {K : PySem.W.Frag} {γ : Ga} {H : Hp} : ∀ {xs : List W} {vs : List V} {ns : List Int}, Reps K G γ H xs vs → intsOf xs = some ns → vs = ns.map V.int
  | [], _, _, .nil, h => by cases h; rfl
  | x :: r, _, ns, .cons q t, h => by
    cases q with
    | int i =>
      have h : (intsOf r).map (i :: ·) = some ns := h
      cases e : intsOf r with
      | none => rw [e] at h; cases h
      | some ms =>
        rw [e] at h
        cases h
        rw [intsOf_reps' t e] <;> rfl
    | _ => simp [intsOf] at h
end
end Mp
namespace Mp
open PySem PySem.Spec PyProof.Rows L2
section
variable {X : Cx} {G : Gs} {a b c : Expr} {ga : MA} {pos : Pos}
theorem ss_par3 {x y z : Str} {px py pz pt : Pos} {kt k2 pt2} (i j l : Nat) (cf : Cfg X) (ha : SA X G [a, b, c] ga) (hi : X.N[i]? = some x := by rfl) (hj : X.N[j]? = some y := by rfl) (hl : X.N[l]? = some z := by rfl) (hij : i ≠ j := by decide) (hil : i ≠ l := by decide) (hjl : j ≠ l := by decide)
    (hx : X.env.scope.names.lookup x = some .local := by rfl) (hy : X.env.scope.names.lookup y = some .local := by rfl) (hz : X.env.scope.names.lookup z = some .local := by rfl)
    (hw : swappedStores [.Tuple [.Name x px, .Name y py, .Name z pz] kt pt] (.Tuple [a, b, c] k2 pt2) X.env = pure (some [x, y, z]) := by rfl)
    (hs : swapsWithSole [.Tuple [.Name x px, .Name y py, .Name z pz] kt pt] (.Tuple [a, b, c] k2 pt2) pos.line X.env = pure false := by rfl) : SS X G (.Assign [.Tuple [.Name x px, .Name y py, .Name z pz] kt pt] (.Tuple [a, b, c] k2 pt2) pos) (sPar3 i j l ga) := by
  refine ⟨fun Wi tk => (ps_par3 cf.calm cf.nd hi hj hl hij hil hjl hx hy hz (ha.run Wi tk) hw hs).imp ?_⟩
  rintro D σ H ⟨η, S, γ, he, hs, q⟩
  refine ⟨η, S, γ, he, hs, (PostS.expr he q).imp fun v H1 ⟨w, S1, γ1, e1, r1, s1, q1⟩ => ?_⟩
  split at q1
  · cases r1 with
    | cons r r1 =>
      cases r1 with
      | cons r' r1 =>
        cases r1 with
        | cons r'' r1 =>
        cases r1
        exact ⟨_, _, _, rfl, q1 _ γ1 H1 Ext.refl ((((he.mono e1).set r i).set r' j).set r'' l) s1⟩
  · exact q1.elim
end
end Mp
namespace Mp
open PySem PySem.Spec PyProof.Rows L2
theorem ItOk.mono {K : PySem.W.Frag} {G : Gs} {J : It} {xs : List W} {γ0 γ1 : Ga} {H0 H1 : Hp} (h : ItOk K G J xs γ0 H0) (e : ExtW γ0 H0 γ1 H1) : ItOk K G J xs γ1 H1 :=
  ⟨fun i γ H S hi x s => h.go i γ H S hi (e.trans x) s, fun γ H S x s => h.stop γ H S (e.trans x) s, fun i w γ H S x H' hw ex s y => h.yld i w γ H S x H' hw (e.trans ex) s y⟩
end Mp
namespace Mp
open PySem PySem.Spec PyProof.Rows L2
theorem tupIt_at {h h' : Heap} {it l : Addr} {i : Nat} (x : h.IsTupleIter it l i) (k : ∀ o, h.get? it = some o → h'.get? it = some o) : h'.IsTupleIter it l i := let ⟨o, ho, r⟩ := x; ⟨o, k o ho, r⟩
theorem tup_at {h h' : Heap} {l : Addr} {xs : Array Value} (x : h.IsTuple l xs) (k : ∀ o, h.get? l = some o → h'.get? l = some o) : h'.IsTuple l xs := let ⟨o, ho, r⟩ := x; ⟨o, k o ho, r⟩
theorem drawsT {prog : Program} {w : World} {A : Around} (hh : A.handled = none) (it l : Addr) (hne : l ≠ it) (items : Array Value) : Draws prog w A it [it, l] items.size (fun i v => items[i]? = some v) (fun i h => h.IsTupleIter it l i ∧ h.IsTuple l items) := by
  refine ⟨fun _ _ st => ?_, fun _ _ _ st hk => ⟨tupIt_at st.1 fun o e => hk it (by simp) o e, tup_at st.2 fun o e => hk l (by simp) o e⟩, fun i s Q E hi st hQ => ?_, fun s Q E st hE => RZ.nextOf_tuple_end hh st.1 st.2 (by simp) hE⟩
  · obtain ⟨⟨o, ho, _⟩, _⟩ := st
    exact ⟨o, ho⟩
  · exact RZ.nextOf_tuple_item st.1 st.2 (x := items[i]) (by simp [hi]) fun h' hit' hs' => hQ _ h' s.toks (by simp [hi]) ⟨hit', st.2.extBut hs'.extBut hne⟩ hs'
theorem meetsET (l : Addr) (items : Array Value) (n : Nat) (dct : Option Addr) (sl : Array (Option Value)) : Meets (Builtin.«enumerate.__new__» ⟨[.type "enumerate", .ref l], []⟩) (fun _ R s => s.heap.get? l = some { cls := .type "tuple", dict := dct, data := .seq items n, slots := sl } ∧
    R (.ok (.ret (.ref (s.heap.push { cls := .type "tuple_iterator", data := .fields #[.ref l, .int 0 0] }).objs.size))) { s with heap := (s.heap.push { cls := .type "tuple_iterator", data := .fields #[.ref l, .int 0 0] }).push { cls := .type "enumerate", data := .fields #[.none, .bool false, .ref s.heap.objs.size, rawInt 0, .none, .none] } }) :=
  .of_wp fun prog w A R s h => by
    obtain ⟨hp, g, d, tk, os⟩ := s; obtain ⟨hl, h⟩ := h
    have hsub := sub_enumerate
    have hL : Heap.IsTuple (Shared.heap ⟨hp, g, d, tk, os⟩) l items := ⟨_, hl, rfl, n, rfl⟩
    wp_walk using AutoSeq1.wpAny_loadPart' hl
    refine wpAny_stack_any fun st => wpAny_pure ?_
    split
    · rename_i c _ _ _ _ _
      cases (c == Value.type "enumerate")
      · wp_walk using AutoSeq1.wpAny_loadPart' hl, wpAny_pyIter_tuple hL
        exact ⟨_, rfl, h⟩
      · wp_walk using AutoSeq1.wpAny_loadPart' hl, wpAny_pyIter_tuple hL
        exact ⟨_, rfl, h⟩
    · wp_walk using AutoSeq1.wpAny_loadPart' hl, wpAny_pyIter_tuple hL
      exact ⟨_, rfl, h⟩
theorem call_enumT {prog : Program} {w : World} {A : Around} {E : Value → Shared → Prop} {s : Shared} {l : Addr} {items : Array Value} {Q : Value → Shared → Prop} (hL : s.heap.IsTuple l items)
    (h : ∀ h', IsEnum h' (s.heap.objs.size + 1) s.heap.objs.size 0 .none → h'.IsTupleIter s.heap.objs.size l 0 → (∀ b o, s.heap.get? b = some o → h'.get? b = some o) → Q (.ref (s.heap.objs.size + 1)) { s with heap := h' }) : wpAny (model prog w) A (call (.type "enumerate") [.ref l]) Q E s := by
  obtain ⟨⟨c, dct, dt, sl⟩, hl, hc, n, hd⟩ := hL
  replace hc : c = .type "tuple" := hc
  replace hd : dt = .seq items n := hd
  subst hc hd
  refine callType_new F.called_enumerate (by decide) (F.typeCall_enumerate_1 _) (F.newCall_enumerate_1 _) (fun obj => F.args_object_init_2 obj _) F.entry_enumerate_new (meetsET l items n dct sl) ⟨hl, ?_⟩
  have hz : (s.heap.push { cls := .type "tuple_iterator", data := .fields #[.ref l, .int 0 0] }).objs.size = s.heap.objs.size + 1 := Heap.size_push ..
  show _ ∧ _
  rw [hz]
  have he : IsEnum ((s.heap.push { cls := .type "tuple_iterator", data := .fields #[.ref l, .int 0 0] }).push { cls := .type "enumerate", data := .fields #[.none, .bool false, .ref s.heap.objs.size, rawInt 0, .none, .none] }) (s.heap.objs.size + 1) s.heap.objs.size 0 .none := by
    have := Heap.get?_push_size (s.heap.push { cls := .type "tuple_iterator", data := .fields #[.ref l, .int 0 0] }) (o := { cls := .type "enumerate", data := .fields #[.none, .bool false, .ref s.heap.objs.size, rawInt 0, .none, .none] }) rfl
    rw [hz] at this
    exact this
  exact ⟨⟨_, he, rfl⟩, h _ he ⟨_, Heap.get?_push_of_some _ (Heap.get?_push_size _ rfl), rfl, rfl⟩ fun b o x => Heap.get?_push_of_some _ (Heap.get?_push_of_some _ x)⟩
def IteT (K : PySem.W.Frag) (a : Addr) : It :=
  ⟨fun i H => ∃ (xs : List V) (x : V), SqT K H a xs ∧ xs[i]? = some x, fun i H v H' => ∃ T x, v = .ref T ∧ H T = none ∧ H' = upd H T (.tup [.int (i : Nat), x]) ∧ ∀ xs, SqT K H a xs → xs[i]? = some x, fun i H => ∃ xs : List V, SqT K H a xs ∧ xs.length = i⟩
theorem turn_enumT {P : Program} {w : World} {K : PySem.W.Frag} {elts : List Expr} {kk : Nat} {tpos : Pos} (a e it : Addr) (h1 : e ≠ it) (h2 : e ≠ a) (h3 : a ≠ it) :
    Turn P w K (.Tuple elts kk tpos) (IteT K a) [e, it] e (fun i h => (∃ old, IsEnum h e it ((i : Nat) : Int) old) ∧ h.IsTupleIter it a i) where
  mem := by simp
  obj := fun i h st b hb => by
    obtain ⟨⟨old, he⟩, ⟨o, ho, hc, hd⟩⟩ := st
    have e' : b = e ∨ b = it := by simpa using hb
    rcases e' with z | z
    · rw [z]
      exact ⟨_, he, fun v q => nomatch q⟩
    · rw [z]
      exact ⟨o, ho, fun v q => by rw [hd] at q; cases q⟩
  keep := fun i h h' st k => ⟨st.1.elim fun old he => ⟨old, k e (by simp) _ he⟩, tupIt_at st.2 fun o q => k it (by simp) o q⟩
  item := by
    intro X hP hw hK hc i pins s σ H E I hf st hg
    subst hP hw hK
    obtain ⟨⟨old, he⟩, hit⟩ := st
    obtain ⟨xs, x, hq, hx⟩ := hg
    obtain ⟨its, rv, p, hz⟩ := I.tuple hq
    have hl := rv.length
    have hlt : i < its.toArray.size := by
      have := (List.getElem?_eq_some_iff.mp hx).1
      simp
      omega
    have hel : e < s.heap.objs.size := Heap.lt_size he
    refine wpAny_pyNext_enum_itemD (drawsT (A := X.A.in1) (show X.A.in1.handled = none from I.ok.hd hc) it a h3 its.toArray) he ⟨hit, p⟩ hlt h1 (by simp [h1, h2]) fun u h' tk hu ho hst hT hsz hk => ?_
    obtain ⟨u', hu', ru⟩ := rv.get hx
    have eu : u' = u := by
      have z : its[i]? = some u := by simpa using hu
      rw [hu'] at z
      exact Option.some.inj z
    subst eu
    refine ⟨_, rfl, wpAny_letOwnedTupleGo_enum (s := { s with heap := h', toks := tk + 1 }) ho fun h'' he' sb => ?_⟩
    have hT2 : h''.get? s.heap.objs.size = some { cls := .type "tuple", data := .seq #[.int i tk, u'] } := (sb.2 _ (Nat.ne_of_gt hel)).trans hT
    have new : ObjOk X.prog X.w (upd H s.heap.objs.size (.tup [.int (i : Nat), x])) h'' s.heap.objs.size (.tup [.int (i : Nat), x]) := ⟨by show 2 ≤ sizeLine; decide, [.int i tk, u'], .cons ⟨_, rfl⟩ (.cons ru .nil), ⟨_, hT2, rfl, _, rfl⟩⟩
    have I1 : Inv X pins σ (upd H s.heap.objs.size (.tup [.int (i : Nat), x])) { s with heap := h'', toks := tk + 1 } := I.turnedNew (ch := [e, it]) (fun b ob hb q => (sb.2 b (fun z => hb (by simp [z]))).trans (hk b ob (fun z => hb (by simp [z])) (fun z => hb (by simp [z])) q)) hf (Nat.le_refl _) new
    refine ⟨.ref s.heap.objs.size, _, I1, rfl, ⟨_, x, rfl, I.hok.fresh (Nat.le_refl _), rfl, fun ys hy => by rw [I.tuple_inj hy hq]; exact hx⟩, ⟨⟨u', ?_⟩, tupIt_at hst.1 fun o q => (sb.2 it (Ne.symm h1)).trans q⟩, fun b hb => ?_⟩
    · have e1 : ((i + 1 : Nat) : Int) = (i : Int) + 1 := by omega
      rw [e1]
      exact he'
    · have hb' : b < s.heap.objs.size := by
        have e' : b = e ∨ b = it := by simpa using hb
        rcases e' with z | z
        · rw [z]
          exact hel
        · rw [z]
          obtain ⟨_, q, _⟩ := hit
          exact Heap.lt_size q
      rw [upd_ne (Nat.ne_of_lt hb')]
      exact (hf b hb).1
  done := by
    intro X hP hw hK hc i pins s σ H E I hf st hg
    subst hP hw hK
    obtain ⟨⟨old, he⟩, hit⟩ := st
    obtain ⟨xs, hq, hx⟩ := hg
    obtain ⟨its, rv, p, hz⟩ := I.tuple hq
    obtain ⟨f0, f1, f2, f3, f4, f5⟩ := hf it (by simp)
    have hl := rv.length
    have ei : i = its.toArray.size := by simp; omega
    subst ei
    exact wpAny_pyNext_enum_endD (drawsT (A := X.A.in1) (show X.A.in1.handled = none from I.ok.hd hc) it a h3 its.toArray) he ⟨hit, p⟩ fun h' eb => ⟨rfl, I.turned (t' := s.toks) (fun b o hb q => eb b o hb q) f0 f1 f3 f4 f5⟩
  self := fun A i s Q E st h => st.1.elim fun old he => wpAny_pyIter_enum he h
def iEnumT (K : PySem.W.Frag) (ta : TA) : TI := fun σ H R => ta σ H fun vs H1 => ∃ a xs, vs = [.ref a] ∧ SqT K H1 a xs ∧ R (IteT K a) H1
theorem pi_enumT {X : Cx} {e : Expr} {ta : TA} {p pos tpos : Pos} {elts : List Expr} {kk : Nat} (hg : Gl X "enumerate") (hm : X.mg "enumerate" = none) (ha : PA X [e] ta) (hs : starEach [e] X.env = [(false, eval e X.env)] := by rfl) : PI X (.Tuple elts kk tpos) (.Call (.Name "enumerate" p) [e] [] pos) (iEnumT X.K ta) := by
  refine ⟨fun pins s σ H R I h => ?_⟩
  refine Call_ (ld_blt I hg hm boot_enumerate (PyProof.Rows.callWith_type1 (thn (ha.run pos pins s σ H _ I h) fun us s1 ⟨vs, H1, I1, r1, q1⟩ => ?_) hs rfl))
  obtain ⟨a, xs, ex, hq, q⟩ := q1
  subst ex
  cases r1 with
  | cons r rr =>
    cases rr
    cases r
    obtain ⟨its, rv, p', hz⟩ := I1.tuple hq
    have hal : a < s1.heap.objs.size := by obtain ⟨_, q, _⟩ := p'; exact Heap.lt_size q
    refine call_enumT p' fun h' he hit hk => wpAny_pyIter_enum he ?_
    have I2 : Inv X pins σ H1 { s1 with heap := h' } := I1.kept (t' := s1.toks) hk
    refine ⟨s1.heap.objs.size + 1, [s1.heap.objs.size + 1, s1.heap.objs.size], _, _, H1, rfl, I2, turn_enumT a (s1.heap.objs.size + 1) s1.heap.objs.size (Nat.succ_ne_self _) (Nat.ne_of_gt (Nat.lt_succ_of_lt hal)) (Nat.ne_of_lt hal), ⟨⟨.none, he⟩, hit⟩, fun b hb => ?_, q⟩
    have e' : b = s1.heap.objs.size + 1 ∨ b = s1.heap.objs.size := by simpa using hb
    have hle : s1.heap.objs.size ≤ b := by
      rcases e' with z | z
      · rw [z]
        exact Nat.le_add_right _ _
      · rw [z]
        exact Nat.le_refl _
    exact I1.fpOk hle (I1.hok.fresh hle)
def enumW2 : List W → Option (List W)
  | [.lst xs] => some (enumL 0 xs)
  | [.tup xs] => some (enumL 0 xs)
  | _ => none
theorem itOk_enumT {K : PySem.W.Frag} {G : Gs} {γ : Ga} {H : Hp} {a : Addr} {xs : List W} {vs : List V} (sa : ∀ {γ' H'}, ExtW γ H γ' H' → SqT K H' a vs) (q : Reps K G γ H xs vs) : ItOk K G (IteT K a) (enumL 0 xs) γ H := by
  refine ⟨fun i γ' H' S hi e _ => ?_, fun γ' H' S e _ => ⟨vs, sa e, ?_⟩, fun i w γ' H' S x H'' hw e s y => ?_⟩
  · rw [enumL_len, q.length] at hi
    exact ⟨vs, vs[i], sa e, List.getElem?_eq_getElem hi⟩
  · rw [enumL_len, q.length]
  · obtain ⟨T, v, rfl, hT, rfl, h1⟩ := y
    obtain ⟨p, hp, rfl⟩ := enumL_get hw
    obtain ⟨v', hv', rv⟩ := q.get hp
    have z1 := h1 vs (sa e)
    rw [hv'] at z1
    cases z1
    rw [Int.zero_add]
    exact pair_new hT s (.int _) (rv.monoW e)
end Mp
namespace Mp
open PySem PySem.Spec PyProof.Rows L2
section
variable {X : Cx} {G : Gs} {a : Expr} {pos p tpos : Pos} {ga : MA} {elts : List Expr} {kk : Nat}
theorem si_enum2 (hm : X.mg "enumerate" = none) (ha : SA X G [a] ga) (hg : Gl X "enumerate" := by rfl) (hs : starEach [a] X.env = [(false, eval a X.env)] := by rfl) : SI X G (.Tuple elts kk tpos) (.Call (.Name "enumerate" p) [a] [] pos) (miAll enumW2 ga) := by
  refine ⟨fun Wi tk => (PI.or (pi_enum hg hm (ha.run Wi tk) hs) (pi_enumT hg hm (ha.run Wi tk) hs)).imp ?_⟩
  rintro σ H R ⟨η, S, γ, he, hs, q⟩
  have q : PostI X.K G (fun c d H' => Wi c d σ H') γ H ((ga η S).bind fun ws S1 => rOpt (enumW2 ws) S1) R := q
  cases eg : ga η S with
  | stuck =>
    rw [eg] at q
    exact q.elim
  | exc c x S1 =>
    rw [eg] at q
    refine .inl ⟨η, S, γ, he, hs, ?_⟩
    rw [eg]
    exact q
  | ok ws S1 =>
    rw [eg] at q
    replace q : PostI X.K G (fun c d H' => Wi c d σ H') γ H (rOpt (enumW2 ws) S1) R := q
    unfold enumW2 at q
    split at q
    · refine .inl ⟨η, S, γ, he, hs, ?_⟩
      rw [eg]
      intro vs γ1 H1 e1 r1 s1
      cases r1 with
      | cons r r1 =>
        cases r1
        cases r with
        | lst h1 o1 z1 => exact ⟨_, _, rfl, SqL.of h1, q _ γ1 H1 e1 s1 (itOk_enum (fun e => .inl (e.rd (.inl h1) o1).1) z1)⟩
    · refine .inr ⟨η, S, γ, he, hs, ?_⟩
      rw [eg]
      intro vs γ1 H1 e1 r1 s1
      cases r1 with
      | cons r r1 =>
        cases r1
        cases r with
        | tup h1 z1 => exact ⟨_, _, rfl, h1.sq, q _ γ1 H1 e1 s1 (itOk_enumT (fun e => (h1.monoW e).sq) z1)⟩
    · exact q.elim
end
end Mp
namespace Mp
open PySem PySem.Spec PyProof.Rows L2
def lexG {α : Type} [DecidableEq α] (q : α → α → Bool) (z : Nat → Nat → Bool) : List α → List α → Bool
  | x :: xs, y :: ys => if x = y then lexG q z xs ys else q x y
  | [], ys => z 0 ys.length
  | xs, [] => z xs.length 0
def tupsCmp (p : Int → Int → Bool) (q : List Nat → List Nat → Bool) (z : Nat → Nat → Bool) (xs ys : List W) : Option W := match strsOf xs, strsOf ys with
  | some a, some b => some (.bl (lexG q z a b))
  | _, _ => (match intsOf xs, intsOf ys with
    | some a, some b => some (.bl (lexG p z a b))
    | _, _ => none)
def opCmp2 (p : Int → Int → Bool) (q : List Nat → List Nat → Bool) (z : Nat → Nat → Bool) : O2 := fun x y S => match x, y with
  | .tup xs, .tup ys => tupsCmp p q z xs ys
  | x, y => opCmp p q x y S
theorem lexAt_shift {e r : Nat → Bool} {z : Bool} : ∀ (k i : Nat), Ob.lexAt e r z (i + 1) k = Ob.lexAt (fun j => e (j + 1)) (fun j => r (j + 1)) z i k
  | 0, i => rfl
  | k + 1, i => by
    rw [Ob.lexAt_succ, Ob.lexAt_succ, lexAt_shift k (i + 1)]
theorem lexAt_lexG {α : Type} [DecidableEq α] (d : α) (q : α → α → Bool) (z : Nat → Nat → Bool) (hz : ∀ m n, z (m + 1) (n + 1) = z m n) : ∀ xs ys : List α, Ob.lexAt (fun j => decide (xs.getD j d = ys.getD j d)) (fun j => q (xs.getD j d) (ys.getD j d)) (z xs.length ys.length) 0 (min xs.length ys.length) = lexG q z xs ys
  | [], ys => by
    rw [show min ([] : List α).length ys.length = 0 by simp, Ob.lexAt_zero, lexG] <;> rfl
  | x :: xs, [] => by
    rw [show min (x :: xs).length ([] : List α).length = 0 by simp, Ob.lexAt_zero, lexG] <;> first | rfl | simp
  | x :: xs, y :: ys => by
    rw [show min (x :: xs).length (y :: ys).length = min xs.length ys.length + 1 by simp [Nat.succ_min_succ], Ob.lexAt_succ, lexAt_shift, List.length_cons, List.length_cons, hz, lexG]
    have ih := lexAt_lexG d q z hz xs ys
    by_cases e : x = y
    · rw [if_pos (by show decide (x = y) = true; exact decide_eq_true e), if_pos e]
      exact ih
    · rw [if_neg (by show ¬ decide (x = y) = true; rw [decide_eq_true_eq]; exact e), if_neg e]
      rfl
end Mp
namespace Mp
open PySem PySem.Spec PyProof.Rows L2
section
variable {X : Cx} {G : Gs}
theorem str_at {its : List Value} {zs : List (List Nat)} (h : StrsAre its (zs.map fun l => (⟨l.toArray⟩ : Str))) {j : Nat} (hj : j < its.toArray.size) : ∃ t, its.toArray[j] = .str ⟨(zs.getD j []).toArray⟩ t := by
  have e : ∀ {its : List Value} {ss : List Str}, StrsAre its ss → ∀ j (hj : j < its.length), ∃ t, its[j] = .str (ss.getD j Str.empty) t := by
    intro its ss h
    induction h with
    | nil => intro j hj; cases hj
    | cons x t r ih =>
      intro j hj
      cases j with
      | zero => exact ⟨t, rfl⟩
      | succ j => exact ih j (by simpa using hj)
  have hj' : j < its.length := by simpa using hj
  obtain ⟨t, q⟩ := e h j hj'
  refine ⟨t, ?_⟩
  have hl : j < zs.length := by
    have := h.length
    rw [List.length_map] at this
    omega
  rw [List.getElem_toArray, q, List.getD_eq_getElem?_getD, List.getElem?_map, List.getElem?_eq_getElem hl, List.getD_eq_getElem?_getD, List.getElem?_eq_getElem hl] <;> rfl
theorem o2_cmpT {op : CmpOp} {p : Int → Int → Bool} {q : List Nat → List Nat → Bool} {zz : Nat → Nat → Bool} (hu : X.A.units + 100 < cLine) (hz : ∀ m n, zz (m + 1) (n + 1) = zz m n) (h0 : OpR X (compareOp op) (rOf X.K G (opCmp p q)))
    (hs : ∀ (A : Around) (s : Shared) (x : Str) (t : Tok) (y : Str) (u : Tok), Ob.RcOp op A s (.str x t) (.str y u) (q x.cps.toList y.cps.toList)) (hi : ∀ (A : Around) (s : Shared) (x : Int) (t : Tok) (y : Int) (u : Tok), Ob.RcOp op A s (.int x t) (.int y u) (p x y))
    (ht : ∀ {A : Around} {s : Shared} {l b : Addr} {items items2 : Array Value} {e r : Nat → Bool} (_ : s.heap.IsTuple l items) (_ : s.heap.IsTuple b items2) (_ : A.units < cLine) (_ : ∀ j (h1 : j < items.size) (h2 : j < items2.size), PySem.SeqAt.EqAt A.in1 s items[j] items2[j] (e j))
      (_ : ∀ j (h1 : j < items.size) (h2 : j < items2.size), e j = false → Ob.RcOp op A.in1 s items[j] items2[j] (r j)), Ob.RcOp op A s (.ref l) (.ref b) (Ob.lexAt e r (zz items.size items2.size) 0 (min items.size items2.size)))
    (hc : ∀ (v u : Value), compareOp op v u = richCompare op v u) : OpR X (compareOp op) (rOf X.K G (opCmp2 p q zz)) := by
  intro pins s σ H x y v u Q I rx ry h
  obtain ⟨wx, wy, S, γ, w, r1, r2, ss, e, k⟩ := h
  unfold opCmp2 at e
  split at e
  · rename_i xs ys
    cases r1 with
    | tup f1 q1 =>
    cases r2 with
    | tup f2 q2 =>
    cases rx
    cases ry
    obtain ⟨its, rv1, p1, _⟩ := I.tuple f1.sq
    obtain ⟨its2, rv2, p2, _⟩ := I.tuple f2.sq
    unfold tupsCmp at e
    split at e
    · rename_i a b ea eb
      cases e
      obtain ⟨ev, _⟩ := strsOf_reps q1 ea
      subst ev
      obtain ⟨ev, _⟩ := strsOf_reps q2 eb
      subst ev
      have l1 : its.toArray.size = a.length := by have := rv1.length; simp at this ⊢; omega
      have l2 : its2.toArray.size = b.length := by have := rv2.length; simp at this ⊢; omega
      have R := ht (A := X.A) (s := s) (e := fun j => decide (a.getD j [] = b.getD j [])) (r := fun j => q (a.getD j []) (b.getD j [])) p1 p2 (by omega) (fun j h1 h2 => by
        obtain ⟨t, et⟩ := str_at rv1.strs h1
        obtain ⟨t', et'⟩ := str_at rv2.strs h2
        rw [et, et']
        have z : ((⟨(a.getD j []).toArray⟩ : Str) == ⟨(b.getD j []).toArray⟩) = decide (a.getD j [] = b.getD j []) := by
          by_cases q : a.getD j [] = b.getD j []
          · rw [decide_eq_true q, q]
            exact beq_self_eq_true _
          · rw [decide_eq_false q]
            refine beq_eq_false_iff_ne.mpr fun z => q ?_
            have z2 := congrArg (fun s : Str => s.cps.toList) z
            simpa using z2
        rw [← z]
        exact PySem.SeqAt.EqAt.str_str _ _ _ _) (fun j h1 h2 _ => by
        obtain ⟨t, et⟩ := str_at rv1.strs h1
        obtain ⟨t', et'⟩ := str_at rv2.strs h2
        rw [et, et']
        have z := hs X.A.in1 s ⟨(a.getD j []).toArray⟩ t ⟨(b.getD j []).toArray⟩ t'
        simpa using z)
      rw [l1, l2, lexAt_lexG [] q zz hz] at R
      rw [hc]
      exact R X.prog X.w X.xe (EP X pins σ Q) ⟨.bl _, H, I, rfl, k _ γ H Ext.refl (.bl _) ss⟩
    · split at e
      · rename_i a b ea eb
        cases e
        have ev := intsOf_reps' q1 ea
        subst ev
        have ev := intsOf_reps' q2 eb
        subst ev
        have i1 : IntsAre its a := Vals.ints rv1
        have i2 : IntsAre its2 b := Vals.ints rv2
        have l1 : its.toArray.size = a.length := by rw [List.size_toArray]; exact i1.length
        have l2 : its2.toArray.size = b.length := by rw [List.size_toArray]; exact i2.length
        have at1 : ∀ j (h1 : j < its.toArray.size), ∃ t, its.toArray[j] = .int (a.getD j 0) t := fun j h1 => PyProof.Rows.IntsAre.int_at i1 _ _ (by simp at h1; simp [h1])
        have at2 : ∀ j (h1 : j < its2.toArray.size), ∃ t, its2.toArray[j] = .int (b.getD j 0) t := fun j h1 => PyProof.Rows.IntsAre.int_at i2 _ _ (by simp at h1; simp [h1])
        have R := ht (A := X.A) (s := s) (e := fun j => decide (a.getD j 0 = b.getD j 0)) (r := fun j => p (a.getD j 0) (b.getD j 0)) p1 p2 (by omega) (fun j h1 h2 => by
          obtain ⟨t, et⟩ := at1 j h1
          obtain ⟨t', et'⟩ := at2 j h2
          rw [et, et']
          have z : (a.getD j 0 == b.getD j 0) = decide (a.getD j 0 = b.getD j 0) := by
            by_cases q : a.getD j 0 = b.getD j 0
            · rw [decide_eq_true q]
              exact beq_iff_eq.mpr q
            · rw [decide_eq_false q]
              exact beq_eq_false_iff_ne.mpr q
          rw [← z]
          exact PySem.SeqAt.EqAt.int_int _ _ _ _) (fun j h1 h2 _ => by
          obtain ⟨t, et⟩ := at1 j h1
          obtain ⟨t', et'⟩ := at2 j h2
          rw [et, et']
          exact hi X.A.in1 s _ _ _ _)
        rw [l1, l2, lexAt_lexG 0 p zz hz] at R
        rw [hc]
        exact R X.prog X.w X.xe (EP X pins σ Q) ⟨.bl _, H, I, rfl, k _ γ H Ext.refl (.bl _) ss⟩
      · cases e
  · exact h0 pins s σ H x y v u Q I rx ry ⟨_, _, S, γ, w, r1, r2, ss, e, k⟩
def opLe2 : O2 := opCmp2 (fun i j => decide (i ≤ j)) (fun a b => !decide (b < a)) fun m n => decide (m ≤ n)
theorem o2_le2 (hu : X.A.units + 100 < cLine) : OpR X (compareOp .LtE) (rOf X.K G opLe2) := o2_cmpT hu (fun m n => by simp) o2_le (fun A s x t y u => fun _ _ _ _ h => PySem.P.le_str h) (fun A s x t y u => Ob.RcOp.le_int _ _ _ _) Ob.RcOp.tuples_le fun _ _ => rfl
end
end Mp
namespace Mp
open PySem PySem.Spec PyProof.Rows L2
def opIsB : O2 := fun x y _ => match x, y with
  | .bl a, .bl b => some (.bl (decide (a = b)))
  | .non, .bl _ => some (.bl false)
  | .int _, .bl _ => some (.bl false)
  | .str _, .bl _ => some (.bl false)
  | .tup _, .bl _ => some (.bl false)
  | .lst _, .bl _ => some (.bl false)
  | .ref _, .bl _ => some (.bl false)
  | _, _ => none
end Mp
namespace Mp
open PySem PySem.Spec PyProof.Rows L2
section
variable {X : Cx} {G : Gs}
theorem isB_val {K : PySem.W.Frag} {γ : Ga} {H : Hp} {S : Store} {wx wy : W} {x y : V} {v u : Value} {b : Bool} (h : opIsB wx wy S = some (.bl b)) (r1 : Rep K G γ H wx x) (r2 : Rep K G γ H wy y) (rx : L2.RelV x v) (ry : L2.RelV y u) : PySem.plainIs v u = true ∧ (v == u) = b := by
  unfold opIsB at h
  split at h
  · rename_i a c
    cases h
    cases r1
    cases r2
    cases (show v = Value.bool a from rx)
    cases (show u = Value.bool c from ry)
    refine ⟨by cases a <;> cases c <;> rfl, ?_⟩
    cases a <;> cases c <;> rfl
  all_goals first
    | (cases h
       cases r2
       cases (show u = Value.bool _ from ry)
       cases r1 <;> first
         | (cases rx; exact ⟨by rfl, by rfl⟩)
         | (obtain ⟨t, rfl⟩ := rx; exact ⟨by rfl, by rfl⟩))
    | cases h
theorem o2_isB : OpR X (compareOp .Is) (rOf X.K G opIsB) := by
  intro pins s σ H x y v u Q I rx ry h
  obtain ⟨wx, wy, S, γ, w, r1, r2, ss, e, k⟩ := h
  have hw : ∃ b, w = .bl b := by
    unfold opIsB at e
    split at e <;> cases e <;> exact ⟨_, rfl⟩
  obtain ⟨b, rfl⟩ := hw
  obtain ⟨hp, he⟩ := isB_val e r1 r2 rx ry
  refine wpAny_is_plain hp ?_
  rw [he]
  exact ⟨.bl b, H, I, rfl, k _ γ H Ext.refl (.bl _) ss⟩
end
end Mp
namespace Mp
open PySem PySem.Spec PyProof.Rows L2
def isKey : W → Bool
  | .int _ => true
  | .str _ => true
  | _ => false
def keqW : W → W → Bool
  | .int i, .int j => decide (i = j)
  | .str a, .str b => decide (a = b)
  | _, _ => false
def hasKey (k : W) : List W → Bool
  | [] => false
  | x :: r => keqW x k || hasKey k r
def dctOf (S : Store) : W → Option (List W × List W)
  | .dct ks vs => some (ks, vs)
  | .ref i => (match S[i]? with
    | some (.dct ks vs) => some (ks, vs)
    | _ => none)
  | _ => none
end Mp
namespace Mp
open PySem PySem.Spec PyProof.Rows L2
section
variable {K : PySem.W.Frag} {G : Gs} {γ : Ga} {H : Hp} {S : Store}
theorem key_rep {k : W} {v : V} (r : Rep K G γ H k v) (h : isKey k = true) : ∃ key : Key, v = kV key ∧ k = keyW key := by
  cases r with
  | int i => exact ⟨.inl i, rfl, rfl⟩
  | str s _ _ => exact ⟨.inr ⟨s.toArray⟩, rfl, rfl⟩
  | _ => cases h
theorem keq_keyW (a b : Key) : keqW (keyW a) (keyW b) = decide (a = b) := by
  cases a with
  | inl i =>
    cases b with
    | inl j =>
      show decide (i = j) = _
      by_cases e : i = j
      · rw [e, decide_eq_true rfl, decide_eq_true rfl]
      · rw [decide_eq_false e, decide_eq_false fun z => e (Sum.inl.inj z)]
    | inr t => exact (decide_eq_false fun z => nomatch z).symm
  | inr s =>
    cases b with
    | inl j => exact (decide_eq_false fun z => nomatch z).symm
    | inr t =>
      show decide (s.cps.toList = t.cps.toList) = _
      by_cases e : s = t
      · rw [e, decide_eq_true rfl, decide_eq_true rfl]
      · rw [decide_eq_false fun z => e ?_, decide_eq_false fun z => e (Sum.inr.inj z)]
        cases s
        cases t
        exact congrArg PySem.Str.mk (Array.toList_inj.mp z)
theorem has_kv (k : Key) : ∀ kvs : List (Key × V), hasKey (keyW k) (kvs.map fun p => keyW p.1) = kvs.any fun kv => decide (kv.1 = k)
  | [] => rfl
  | p :: r => by
    show (keqW (keyW p.1) (keyW k) || hasKey (keyW k) (r.map fun p => keyW p.1)) = _
    rw [keq_keyW, has_kv k r, List.any_cons]
theorem dctOf_rep (s : StoreOk K G γ H S) {w : W} {v : V} {ks ws : List W} (r : Rep K G γ H w v) (h : dctOf S w = some (ks, ws)) : ∃ a us, v = .ref a ∧ DctAt H a ks us ∧ Reps K G γ H ws us := by
  cases r with
  | dct d f q =>
    cases h
    exact ⟨_, _, rfl, d, q⟩
  | @ref i a ha =>
    have h : (match S[i]? with
      | some (.dct ks vs) => some (ks, vs)
      | _ => none) = some (ks, ws) := h
    split at h
    · rename_i hc
      cases h
      obtain ⟨_, _, us, d, q⟩ := s.cell i _ a hc ha
      exact ⟨a, us, rfl, d, q⟩
    · cases h
  | _ => cases h
theorem dct_k {a : Addr} {ks : List W} {us : List V} (d : DctAt H a (.bl false :: ks) us) : ∃ kvs : List (Key × V), H a = some (.dK kvs) ∧ ks = kvs.map (fun p => keyW p.1) ∧ us = kvs.map (·.2) := by
  rcases d with ⟨kvs, h, e, e2⟩ | ⟨kvs, h, e, _⟩
  · exact ⟨kvs, h, by cases e; rfl, e2⟩
  · cases e
end
end Mp
namespace Mp
open PySem PySem.Spec PyProof.Rows L2
def opInD : O2 := fun x y S => match dctOf S y with
  | some (.bl false :: ks, _) => if isKey x = true then some (.bl (hasKey x ks)) else none
  | some _ => none
  | none => opIn x y S
end Mp
namespace Mp
open PySem PySem.Spec PyProof.Rows L2
section
variable {X : Cx} {G : Gs}
theorem o2_inD (hu : X.A.units + 65 < cLine) : OpR X (compareOp .In) (rOf X.K G opInD) := by
  intro pins s σ H x y v u Q I rx ry h
  obtain ⟨wx, wy, S, γ, w, r1, r2, ss, e, k⟩ := h
  unfold opInD at e
  split at e
  · rename_i ks ws hd
    split at e
    · rename_i hk
      cases e
      obtain ⟨key, rfl, rfl⟩ := key_rep r1 hk
      obtain ⟨a, us, rfl, d, q⟩ := dctOf_rep ss r2 hd
      obtain ⟨kvs, hH, rfl, rfl⟩ := dct_k d
      obtain rfl : u = Value.ref a := ry
      refine d_in (by omega) I (DGet.k (k := key) hH) rx fun s' I' => ⟨.bl (hasKey (keyW key) (kvs.map fun p => keyW p.1)), H, I', ?_, k _ γ H Ext.refl (.bl _) ss⟩
      rw [has_kv, valV_any]
      rfl
    · cases e
  · cases e
  · exact o2_in hu pins s σ H x y v u Q I rx ry ⟨wx, wy, S, γ, w, r1, r2, ss, e, k⟩
end
end Mp
namespace Mp
open PySem PySem.Spec PyProof.Rows L2
def opMulT : O2 := fun x y S => match x, y with
  | .tup xs, .int k => if xs ≠ [] ∧ 2 ≤ k ∧ k ≤ 1000 ∧ xs.length ≤ 1000 then some (.tup (List.replicate k.toNat xs).flatten) else none
  | x, y => opMul x y S
theorem o2_mulT {X : Cx} {G : Gs} : OpR X (binaryOp .Mult) (rOf X.K G opMulT) := by
  refine (OpR.or op_repT (o2_mul (G := G))).imp ?_
  rintro x y H Q ⟨wx, wy, S, γ, w, rx, ry, s, h, k⟩
  unfold opMulT at h
  split at h
  · rename_i xs n
    split at h
    · rename_i hl
      cases h
      cases rx with
      | @tup _ vs _ f q =>
      cases ry
      have e1 := q.length
      obtain ⟨l0, l1, l2, l3⟩ := hl
      refine .inl ⟨_, _, _, rfl, rfl, f.sq, ?_, l1, l2, by omega, fun p hp => ?_⟩
      · intro z
        rw [z] at e1
        exact l0 (List.length_eq_zero_iff.mp e1)
      · have ex := Ext.upd (K := X.K) (G := G) s (o := .tup (List.replicate n.toNat vs).flatten) hp
        exact k _ γ _ ex (.tup (.inl ⟨.inl upd_same, s.fresh hp⟩) (reps_flat (q.mono ex) _)) (s.upd hp)
    · cases h
  · exact .inr ⟨_, _, S, γ, w, rx, ry, s, h, k⟩
end Mp
namespace Mp
open PySem PySem.Spec PyProof.Rows L2
def minZ : Int → List Int → Int
  | m, [] => m
  | m, x :: r => minZ (if x < m then x else m) r
theorem minZ_le : ∀ (l : List Int) (m : Int), (minZ m l = m ∨ minZ m l ∈ l) ∧ minZ m l ≤ m ∧ ∀ x ∈ l, minZ m l ≤ x
  | [], m => ⟨.inl rfl, Int.le_refl _, fun x h => by cases h⟩
  | x :: r, m => by
    obtain ⟨h1, h2, h3⟩ := minZ_le r (if x < m then x else m)
    have e : minZ m (x :: r) = minZ (if x < m then x else m) r := rfl
    rw [e]
    refine ⟨?_, ?_, fun y hy => ?_⟩
    · rcases h1 with h | h
      · rw [h]
        split
        · exact .inr (List.mem_cons_self ..)
        · exact .inl rfl
      · exact .inr (List.mem_cons_of_mem _ h)
    · refine Int.le_trans h2 ?_
      split <;> omega
    · rcases List.mem_cons.mp hy with z | z
      · subst z
        refine Int.le_trans h2 ?_
        split <;> omega
      · exact h3 y z
end Mp
namespace Mp
open PySem PySem.Spec PyProof.Rows L2
/-- {} that nobody changes -/
def mDct0 : ME := fun _ S => .ok (.dct [.bl false] []) S
end Mp
namespace Mp
open PySem PySem.Spec PyProof.Rows L2
section
variable {X : Cx} {G : Gs} {a b : Expr} {pos : Pos} {f g fo fi : ME}
theorem se_dct0 : SE X G (.Dict [] [] pos) mDct0 := by
  refine ⟨fun Wi tk => pe_dnewK.imp ?_⟩
  rintro σ H Q ⟨η, S, γ, he, hs, q⟩
  intro p hp
  have ex := Ext.upd (K := X.K) (G := G) hs (o := .dK []) hp
  exact q _ γ _ ex (.dct (.inl ⟨[], upd_same, rfl, rfl⟩) (hs.fresh hp) .nil) (hs.upd hp)
end
end Mp
namespace Mp
open PySem PySem.Spec PyProof.Rows L2
/-- def __init__(self, f): self.f = f -/
def spI (C : Addr) (f : Str) : Sp := fun vs H Q _ => ∃ (a : Addr) (v : V), vs = [.ref a, v] ∧ H a = some (exo a C none) ∧ ∀ dx, H dx = none → dx ≠ a → Q .non (upd (upd H dx (exd dx [(f, v)])) a (exo a C (some dx)))
/-- what is known of an own exception's class -/
structure ErrF (P : Program) (w : World) (K : PySem.W.Frag) (mg : Str → Option Value) (base : Heap) (C : Addr) (x f : Str) : Prop where
  gl : mg x = some (.ref C)
  oex : OexC K C
  xf : XfC K C
  ec : ExcC K C
  no : PySem.W.findIn K (.ref C) f = some none
  ini : ∃ fI fd, PySem.W.findIn K (.ref C) "__init__" = some (some (.ref fI)) ∧ PySem.W.typeIn K (.ref fI) = some (.type "function") ∧ FnOk P w K mg base CX0 1 fI fd ["self", f] (spI C f) ∧ Binds K fd ["self", f] []
def sRaise (c : Nat) (f : ME) : MS := fun η S => (f η S).toS η fun w S1 => .exc c w η S1
theorem upd_back {H : Hp} {a dx : Addr} {o1 o2 o3 o4 : HO} (ha : H a = none) (hn : dx ≠ a) : upd (del (upd (upd (upd H a o1) dx o2) a o3) a) dx o4 = upd H dx o4 := by
  funext y
  by_cases h1 : y = dx
  · rw [h1, upd_same, upd_same]
  · rw [upd_ne h1, upd_ne h1]
    unfold del
    by_cases h2 : y = a
    · rw [if_pos h2, h2, ha]
    · rw [if_neg h2, upd_ne h2, upd_ne h1, upd_ne h2]
end Mp
namespace Mp
open PySem PySem.Spec PyProof.Rows L2
section
variable {X : Cx} {G : Gs} {c : Nat} {e : Expr} {f : ME} {x : Str} {p pos pos2 : Pos}
theorem ss_raise (cf : Cfg X) (E : ErrF X.prog X.w X.K X.mg X.base (G.ca c) x (G.nm c)) (hr : Room 2 X.A) (ha : SA X G (e :: []) (maCons f maNil)) (hg : Gl X x := by rfl) (hdb : (x == ("__debug__" : Str)) = false := by decide)
    (h1 : starEach (e :: []) X.env = (false, eval e X.env) :: starEach [] X.env := by rfl) (hpl : (backTo pos (starEach [] X.env)).any (·.1) = false := by rfl) :
    SS X G (.Raise (some (.Call (.Name x p) [e] [] pos)) none pos2) (sRaise c f) := by
  obtain ⟨fI, fd, i1, i2, F1, hb⟩ := E.ini
  refine ⟨fun Wi tk => (ps_raise cf.calm tk (pmk_oex (dvs := []) E.oex i1 i2 F1 hr hb .nil pass0 hg E.gl (ha.run Wi tk) hdb h1 hpl)).imp ?_⟩
  rintro D σ H ⟨η, S, γ, hη, hs, q⟩
  refine ⟨η, S, γ, hη, hs, ?_⟩
  have q : PostS X.K G Wi γ H ((f η S).toS η fun w S1 => .exc c w η S1) D := q
  show Post X.K G (Reps X.K G) _ γ H ((f η S).bind fun w S1 => (maNil η S1).bind fun ws S2 => .ok (w :: ws) S2) _
  cases ef : f η S with
  | stuck =>
    rw [ef] at q
    exact q.elim
  | exc c2 x2 S1 =>
    rw [ef] at q
    exact fun v d γ' H' e' r s hd ho => q v d σ γ' H' e' (hη.mono e') r s hd ho
  | ok w S1 =>
    rw [ef] at q
    intro vs γ1 H1 e1 r1 s1
    cases r1 with
    | cons r1 r2 =>
    cases r2
    rename_i v
    refine ⟨by show 1 ≤ 1000; decide, fun a hA => ⟨a, v, rfl, upd_same, fun dx hd hn => ⟨rfl, dx, [(G.nm c, v)], upd_same, ?_, ?_, ?_⟩⟩⟩
    · rw [upd_ne hn, upd_same]
    · rw [upd_ne hn] at hd
      exact hd
    · rw [upd_ne hn] at hd
      rw [upd_back hA hn]
      have ex := Ext.upd (K := X.K) (G := G) s1 (o := .xd [(G.nm c, v)]) hd
      have q : ∀ v d σ' γ' H', Ext γ H γ' H' → EnvOk X.K G γ' H' η σ' → Rep X.K G γ' H' w v → StoreOk X.K G γ' H' S1 → H' d = some (.xd [(G.nm c, v)]) → γ'.Off d → Wi (.ref (G.ca c)) (some d) σ' H' := q
      exact q v dx σ γ1 _ (e1.trans ex) (hη.mono (e1.trans ex)) (r1.mono ex) (s1.upd hd) upd_same (s1.fresh hd)
end
end Mp
namespace Mp
open PySem PySem.Spec PyProof.Rows L2
mutual
def noX : W → Bool
  | .exc _ _ => false
  | .tup xs => noXs xs
  | .lst xs => noXs xs
  | .scr xs => noXs xs
  | .dct _ vs => noXs vs
  | _ => true
def noXs : List W → Bool
  | [] => true
  | x :: xs => noX x && noXs xs
end
mutual
theorem pure_noX : ∀ {w : W}, w.pure = true → noX w = true
  | .exc _ _, h => by cases h
  | .tup xs, h => by unfold noX; exact pures_noX (by simpa [W.pure] using h)
  | .lst xs, h => by unfold noX; exact pures_noX (by simpa [W.pure] using h)
  | .scr xs, h => by unfold noX; exact pures_noX (by simpa [W.pure] using h)
  | .dct ks vs, h => by
    unfold noX
    rw [W.pure, Bool.and_eq_true] at h
    exact pures_noX h.2
  | .non, _ => rfl
  | .bl _, _ => rfl
  | .int _, _ => rfl
  | .str _, _ => rfl
  | .ref _, _ => rfl
  | .fn _, _ => rfl
  | .cls _, _ => rfl
theorem pures_noX : ∀ {ws : List W}, pures ws = true → noXs ws = true
  | [], _ => rfl
  | x :: xs, h => by
    unfold noXs
    rw [pures, Bool.and_eq_true] at h
    rw [pure_noX h.1, pures_noX h.2] <;> rfl
end
end Mp
namespace Mp
open PySem PySem.Spec PyProof.Rows L2
section
variable {K : PySem.W.Frag} {G G' : Gs} {γ : Ga} {H : Hp}
mutual
theorem Rep.cast (hf : G'.fa = G.fa) : ∀ {w : W} {v : V}, noX w = true → Rep K G γ H w v → Rep K G' γ H w v
  | _, _, _, .non => .non
  | _, _, _, .bl b => .bl b
  | _, _, _, .int i => .int i
  | _, _, _, .str s h1 h2 => .str s h1 h2
  | _, _, p, .tup h r => .tup h (Reps.cast hf (by unfold noX at p; exact p) r)
  | _, _, p, .lst h q r => .lst h q (Reps.cast hf (by unfold noX at p; exact p) r)
  | _, _, p, .scr h r => .scr h (Reps.cast hf (by unfold noX at p; exact p) r)
  | _, _, _, .ref h => .ref h
  | _, _, _, .fn f => hf ▸ .fn f
  | _, _, p, .dct d q r => .dct d q (Reps.cast hf (by unfold noX at p; exact p) r)
theorem Reps.cast (hf : G'.fa = G.fa) : ∀ {ws : List W} {vs : List V}, noXs ws = true → Reps K G γ H ws vs → Reps K G' γ H ws vs
  | _, _, _, .nil => .nil
  | _, _, p, .cons r t => by
    unfold noXs at p
    obtain ⟨p1, p2⟩ := Bool.and_eq_true_iff.mp p
    exact .cons (Rep.cast hf p1 r) (Reps.cast hf p2 t)
end
theorem StoreOk.cast {S : Store} (hf : G'.fa = G.fa) (s : StoreOk K G γ H S) : StoreOk K G' γ H S := by
  refine ⟨s.len, s.nd, fun i c a hc ha => ?_, s.bt⟩
  have q := s.cell i c a hc ha
  cases c with
  | lst xs =>
    obtain ⟨p, vs, hv, r⟩ := q
    exact ⟨p, vs, hv, Reps.cast hf (pures_noX p) r⟩
  | dct ks ws =>
    obtain ⟨p0, p, us, d, r⟩ := q
    exact ⟨p0, p, us, d, Reps.cast hf (pures_noX p) r⟩
  | ins _ _ => exact q.elim
def envX (η : Env) : Bool := η.all fun o => match o with
  | some w => noX w
  | none => true
theorem EnvOk.cast {η : Env} {σ : L2.St} (hf : G'.fa = G.fa) (hx : envX η = true) (h : EnvOk K G γ H η σ) : EnvOk K G' γ H η σ := ⟨h.1, fun i w q => by
  obtain ⟨v, e1, r⟩ := h.2 i w q
  have := List.all_eq_true.mp hx (some w) (List.mem_of_getElem? q)
  exact ⟨v, e1, r.cast hf this⟩⟩
theorem EnvOk.setNone {η : Env} {σ : L2.St} (h : EnvOk K G γ H η σ) (i : Nat) : EnvOk K G γ H (η.set i none) (σ.set i none) := by
  refine ⟨by rw [List.length_set, List.length_set]; exact h.1, fun j w q => ?_⟩
  by_cases hij : i = j
  · subst hij
    have hlt : i < η.length := by
      have := (List.getElem?_eq_some_iff.mp q).1
      rwa [List.length_set] at this
    rw [List.getElem?_set_self hlt] at q
    cases q
  · rw [List.getElem?_set_ne hij] at q
    rw [List.getElem?_set_ne hij]
    exact h.2 j w q
end
end Mp
namespace Mp
open PySem PySem.Spec PyProof.Rows L2
def _root_.Mp.Gs.exn (G : Gs) (a d : Addr) (c : Nat) : Gs := { G with ea := a, ed := d, ec := c }
/-- behind an exception -/
def sCatch (i : Nat) (h : MS) (c : Nat) (x : W) (η1 : Env) (S1 : Store) : RS := if envX η1 = true ∧ noX x = true then (match h (η1.set i (some (.exc c x))) S1 with
  | .nx η2 S2 => if envX (η2.set i none) = true then .nx (η2.set i none) S2 else .stuck
  | .ret w S2 => if noX w = true then .ret w S2 else .stuck
  | _ => .stuck) else .stuck
def sTry (i : Nat) (b h : MS) : MS := fun η S => match b η S with
  | .exc c x η1 S1 => sCatch i h c x η1 S1
  | r => r
theorem Cfg.tr {X : Cx} (cf : Cfg X) (pn : List (Addr × Obj)) (xe : Value → Shared → Prop) (h : PassesOwn (model X.prog X.w) X.A X.env xe) : Cfg (X.tr pn xe) := ⟨cf.calm, cf.nd, h, cf.un⟩
end Mp
namespace Mp
open PySem PySem.Spec PyProof.Rows L2
section
variable {X : Cx} {G : Gs} {i : Nat} {xn n : Str} {ce : Value} {body suite : List Stmt} {b₀ : Stmt} {np pos pos' : Pos} {b h : MS}
theorem ss_try (i : Nat) (cf : Cfg X) (hi : X.N[i]? = some n) (hln : X.env.kindOf n = some .local) (hc : Names X xn ce) (hE : ∀ c, PySem.W.exmOne X.K (.ref (G.ca c)) ce = some true)
    (hb : ∀ (pn : List (Addr × Obj)) (xe : Value → Shared → Prop), Cfg (X.tr pn xe) → SSs (X.tr pn xe) G body b)
    (hs : ∀ (a : Addr) (oe : Obj) (c : Nat) (d : Addr) (pn : List (Addr × Obj)), Zc (.ref (G.ca c)) (some d) oe → (∃ vs, oe.data = .fields vs) → SSs (X.suite a ((a, oe) :: pn)) (G.exn a d c) (b₀ :: suite) h)
    (h1 : X.stack = X.env :: X.outer := by rfl) (h2 : X.env.frame = some X.env.locals := by rfl) :
    SS X G (.Try body [.ExceptHandler (some (.Name xn np)) (some n) (b₀ :: suite) pos'] [] [] pos) (sTry i b h) := by
  refine ⟨fun Wi tk => (ps_try_as (i := i) (tb := fun W => tsOf X.K G W b) (ts := fun a cls d D σ H => ∃ c dd, cls = .ref (G.ca c) ∧ d = some dd ∧ tsOf X.K (G.exn a dd c) (fun _ _ _ _ => False) h D σ H) (Wout := Wi) h1 h2 cf.nd hi hln hc tk (fun W pn xe tk2 po => (hb pn xe (cf.tr pn xe po)).run W tk2) (fun a oe cls d pn hz hf => ?_)).imp ?_⟩
  · refine ⟨fun pins s σ H D I q => ?_⟩
    obtain ⟨c, dd, rfl, rfl, q⟩ := q
    exact ((hs a oe c dd pn hz hf).run _ takes0).run pins s σ H D I q
  · rintro D σ H ⟨η, S, γ, hη, hS, q⟩
    refine ⟨η, S, γ, hη, hS, ?_⟩
    have q : PostS X.K G Wi γ H (match b η S with
      | .exc c x η1 S1 => sCatch i h c x η1 S1
      | r => r) D := q
    cases e : b η S with
    | nx η1 S1 => rw [e] at q; exact q
    | bk η1 S1 => rw [e] at q; exact q
    | ct η1 S1 => rw [e] at q; exact q
    | ret w S1 => rw [e] at q; exact q
    | stuck => rw [e] at q; exact q
    | exc c x η1 S1 =>
      rw [e] at q
      have q : PostS X.K G Wi γ H (sCatch i h c x η1 S1) D := q
      intro v d σ' γ' H' e' he' r' s' hd ho
      refine ⟨true, hE c, fun _ a hA => ?_, fun z => by cases z⟩
      have f1 : (G.exn a d c).fa = G.fa := rfl
      have f2 : G.fa = (G.exn a d c).fa := rfl
      unfold sCatch at q
      split at q
      · rename_i hx
        refine ⟨c, d, rfl, rfl, η1.set i (some (.exc c x)), S1, γ', ?_, s'.cast f1, ?_⟩
        · have r2 : Rep X.K (G.exn a d c) γ' H' (.exc c x) (.ref a) := Rep.exc (G := G.exn a d c) hd ho (r'.cast f1 hx.2)
          exact (he'.cast f1 hx.1).set r2 i
        · cases e2 : h (η1.set i (some (.exc c x))) S1 with
          | nx η2 S2 =>
            rw [e2] at q
            have q : PostS X.K G Wi γ H (if envX (η2.set i none) = true then .nx (η2.set i none) S2 else .stuck) D := q
            split at q
            · rename_i hx2
              intro σ2 γ2 H2 ex hη2 hS2
              exact q (σ2.set i none) γ2 H2 (e'.trans ex) ((hη2.setNone i).cast f2 hx2) (hS2.cast f2)
            · exact q.elim
          | ret w S2 =>
            rw [e2] at q
            have q : PostS X.K G Wi γ H (if noX w = true then .ret w S2 else .stuck) D := q
            split at q
            · rename_i hx2
              intro v2 γ2 H2 ex r2 hS2
              exact q v2 γ2 H2 (e'.trans ex) (r2.cast f2 hx2) (hS2.cast f2)
            · exact q.elim
          | bk η2 S2 => rw [e2] at q; exact q.elim
          | ct η2 S2 => rw [e2] at q; exact q.elim
          | stuck => rw [e2] at q; exact q.elim
          | exc c2 x2 η2 S2 => rw [e2] at q; exact q.elim
      · exact q.elim
end
end Mp
namespace Mp
open PySem PySem.Spec PyProof.Rows L2
def mIsX (cs : Nat → Bool) (f : ME) : ME := fun η S => (f η S).bind fun w S1 => match w with
  | .exc c _ => .ok (.bl (cs c)) S1
  | _ => .stuck
def mXF (cs : Nat → Bool) (f : ME) : ME := fun η S => (f η S).bind fun w S1 => match w with
  | .exc c x => if cs c = true then .ok x S1 else .stuck
  | _ => .stuck
def rIsD (K : PySem.W.Frag) (C a d : Addr) : List V → Hp → VK → Prop := fun xs H Q =>
  ∃ (c : V) (cv : Value) (b : Bool), xs = [.ref a, c] ∧ (∀ u, RelV c u → u = cv) ∧ PySem.W.kitOne K (.ref C) cv = some b ∧ (∃ fs, H d = some (.xd fs)) ∧ Q (.bl b) H
end Mp
namespace Mp
open PySem PySem.Spec PyProof.Rows L2
section
variable {X : Cx} {G : Gs} {a d C : Addr} {c : Nat} {oe : Obj} {pn : List (Addr × Obj)}
theorem call_isD (O : OexC X.K C) (E : ExcC X.K C) (hz : Zc (.ref C) (some d) oe) (hf : ∃ vs, oe.data = .fields vs) : CallR (X.suite a ((a, oe) :: pn)) (.builtin "isinstance") (rIsD X.K C a d) := by
  intro pins s σ H xs us Q I r h
  obtain ⟨c, cv, b, rfl, hcv, e, ⟨fs, hd⟩, q⟩ := h
  cases r with
  | cons rx rr =>
  cases rr with
  | cons rc rn =>
  cases rn
  rename_i ux uc
  obtain rfl : ux = Value.ref a := rx
  obtain rfl := hcv _ rc
  obtain ⟨ha, _⟩ := I.pin (a, oe) (List.mem_append_left _ List.mem_cons_self)
  obtain ⟨vs, hdat⟩ := hf
  have hx : ObjOk X.prog X.w H s.heap d (.xd fs) := I.hok d _ hd
  obtain ⟨mA, hns, hr⟩ := hx
  obtain ⟨od, ho, hl⟩ := lookIn_ns hns
  have hcl : (PySem.W.clsIn X.K C).isSome = true := by
    obtain ⟨nm, q2, N, bs, bm, sn, sub, ab, col, dd, k0, k1, k2, k3, k5, hC, _⟩ := O.cls
    unfold PySem.W.clsIn
    rw [show List.lookup C X.K = _ from hC] <;> rfl
  have J : PySem.W.InstAt s.heap a oe C (some od) := ⟨ha, hz.1, by unfold PySem.W.notCls; rw [hdat] <;> rfl, by rw [hz.2]; exact ho⟩
  exact PySem.W.kia_one (PySem.W.kitx_exc hcl E.hg E.hk E.hs E.ha E.hn E.ht E.hm) I.kIn J e (fun z => nomatch z) fun tk => ⟨.bl b, H, I.kept fun _ _ z => z, rfl, q⟩
end
end Mp
namespace Mp
open PySem PySem.Spec PyProof.Rows L2
section
variable {X : Cx} {G : Gs} {a d C : Addr} {c : Nat} {oe : Obj} {pn : List (Addr × Obj)}
variable {e : Expr} {f : ME} {x n : Str} {p p2 pos : Pos}
/-- isinstance of a class of the program -/
theorem se_isX (cs : Nat → Bool) (u : Value) (v : V) (O : OexC X.K (G.ca c)) (E : ExcC X.K (G.ca c)) (hz : Zc (.ref (G.ca c)) (some d) oe) (hf : ∃ vs, oe.data = .fields vs) (hm : X.mg "isinstance" = none)
    (hx : PE (X.suite a ((a, oe) :: pn)) (.Name x p2) (tC v)) (hv : ∀ w, RelV v w → w = u) (hk : PySem.W.kitOne X.K (.ref (G.ca c)) u = some (cs c)) (ha : SE (X.suite a ((a, oe) :: pn)) (G.exn a d c) e f)
    (hg : Gl X "isinstance" := by rfl)
    (h1 : starEach (e :: [.Name x p2]) X.env = (false, eval e X.env) :: starEach [.Name x p2] X.env := by rfl) (h2 : starEach [.Name x p2] X.env = (false, eval (.Name x p2) X.env) :: starEach [] X.env := by rfl)
    (hpl : (backTo pos (starEach [.Name x p2] X.env)).any (·.1) = false := by rfl) : SE (X.suite a ((a, oe) :: pn)) (G.exn a d c) (.Call (.Name "isinstance" p) [e, .Name x p2] [] pos) (mIsX cs f) := by
  refine ⟨fun Wi tk => (pe_callB (call_isD O E hz hf) hg hm (by decide +kernel) (pa_cons (ha.run Wi tk) (pa_cons hx pa_nil h2) h1) (by decide) (by decide) h1 hpl).imp ?_⟩
  rintro σ H Q ⟨η, S, γ, he, hs, q⟩
  refine ⟨η, S, γ, he, hs, (Post.seq q).imp fun y H1 ⟨wy, S1, γ1, e1, r1, s1, q1⟩ => ?_⟩
  cases wy with
  | exc c2 x2 =>
    have h3 : c2 = c ∧ y = .ref a ∧ ∃ fs, H1 d = some (.xd fs) := by
      generalize hw : W.exc c2 x2 = ww at r1
      cases r1 <;> cases hw
      rename_i g1 g2 g3 g4
      exact ⟨rfl, rfl, _, g1⟩
    obtain ⟨rfl, rfl, hd⟩ := h3
    exact ⟨v, u, cs c2, rfl, hv, hk, hd, q1 _ γ1 H1 Ext.refl (.bl _) s1⟩
  | _ => exact q1.elim
/-- its field -/
theorem se_xf (cs : Nat → Bool) (h : cs c = true → XfC X.K (G.ca c) ∧ PySem.W.findIn X.K (.ref (G.ca c)) n = some none ∧ G.nm c = n) (hz : Zc (.ref (G.ca c)) (some d) oe) (hf : ∃ vs, oe.data = .fields vs)
    (ha : SE (X.suite a ((a, oe) :: pn)) (G.exn a d c) e f) (hb : attributeBase e n X.env (eval e X.env) = eval e X.env := by rfl) : SE (X.suite a ((a, oe) :: pn)) (G.exn a d c) (.Attribute e n pos) (mXF cs f) := by
  by_cases hc : cs c = true
  · obtain ⟨T, hno, hn⟩ := h hc
    refine ⟨fun Wi tk => (pe_xf T hno hz hf (ha.run Wi tk) hb).imp ?_⟩
    rintro σ H Q ⟨η, S, γ, he, hs, q⟩
    refine ⟨η, S, γ, he, hs, (Post.seq q).imp fun y H1 ⟨wy, S1, γ1, e1, r1, s1, q1⟩ => ?_⟩
    cases wy with
    | exc c2 x2 =>
      have h3 : c2 = c ∧ y = .ref a ∧ ∃ v, H1 d = some (.xd [(G.nm c, v)]) ∧ Rep X.K (G.exn a d c) γ1 H1 x2 v := by
        generalize hw : W.exc c2 x2 = ww at r1
        cases r1 <;> cases hw
        rename_i g1 g2 g3 g4
        exact ⟨rfl, rfl, _, g1, by assumption⟩
      obtain ⟨rfl, rfl, v, hd, rv⟩ := h3
      have q1 : Post X.K (G.exn a d c2) (Rep X.K (G.exn a d c2)) (fun c d H' => Wi c d σ H') γ1 H1 (if cs c2 = true then .ok x2 S1 else .stuck) Q := q1
      rw [if_pos hc] at q1
      refine ⟨rfl, rfl, d, _, v, rfl, hd, ?_, q1 v γ1 H1 Ext.refl rv s1⟩
      rw [hn]
      simp [List.lookup]
    | _ => exact q1.elim
  · refine ⟨fun Wi tk => ⟨fun pins s σ H Q I q => attr_of hb (thn (ha.run Wi tk |>.run pins s σ H (fun _ _ => False) I ?_) fun u s1 hh => ?_)⟩⟩
    · obtain ⟨η, S, γ, he, hs, q⟩ := q
      refine ⟨η, S, γ, he, hs, (Post.seq q).imp fun y H1 ⟨wy, S1, γ1, e1, r1, s1, q1⟩ => ?_⟩
      cases wy with
      | exc c2 x2 =>
        have h3 : c2 = c := by
          generalize hw : W.exc c2 x2 = ww at r1
          cases r1 <;> cases hw
          rfl
        subst h3
        have q1 : Post X.K (G.exn a d c2) (Rep X.K (G.exn a d c2)) (fun c d H' => Wi c d σ H') γ1 H1 (if cs c2 = true then .ok x2 S1 else .stuck) Q := q1
        rw [if_neg hc] at q1
        exact q1.elim
      | _ => exact q1.elim
    · obtain ⟨_, _, _, _, z⟩ := hh
      exact z.elim
end
end Mp
namespace Mp
open PySem PySem.Spec PyProof.Rows L2
def excObjB (C : Addr) (o : Obj) : Bool := match o with
  | ⟨.type "type", _, .cls cd, sl⟩ => (match cd.mro, sl.toList with
    | .ref C' :: bm, [_, _, _, _, some (.builtin n), _] => decide (C' = C) && (n == "ValueError.__new__" && (cd.hasDict && (!cd.hasDel && HandSPX.refsVE bm)))
    | _, _ => false)
  | _ => false
theorem excObjB_ok {C : Addr} {o : Obj} (h : excObjB C o = true) : ∃ nm q N bs bm sn sub ab col dd k0 k1 k2 k3 k5, o = excClassObj nm q C N bs bm true sn sub ab col dd k0 k1 k2 k3 k5 "ValueError.__new__" ∧ HandSPX.refsVE bm = true := by
  unfold excObjB at h
  split at h
  · rename_i dd cd sl
    split at h
    · rename_i C' bm k0 k1 k2 k3 n k5 hm hs
      obtain ⟨nm, bs, mro, N, q, hd, sn, sub, ab, col, hdl⟩ := cd
      simp only [Bool.and_eq_true, decide_eq_true_eq, beq_iff_eq, Bool.not_eq_true'] at h
      obtain ⟨h1, h2, h3, h4, h5⟩ := h
      subst h1 h2 h3 h4
      have hm : mro = Value.ref C' :: bm := hm
      subst hm
      obtain ⟨l⟩ := sl
      have hs : l = [k0, k1, k2, k3, some (Value.builtin "ValueError.__new__"), k5] := hs
      subst hs
      exact ⟨nm, q, N, bs, bm, sn, sub, ab, col, dd, k0, k1, k2, k3, k5, rfl, h5⟩
    · cases h
  · cases h
def errB (K : PySem.W.Frag) (x f : Str) : Bool :=
  let C := He.ga K x
  (match List.lookup C K with
    | some o => excObjB C o
    | none => false) &&
  (He.eqO (PySem.W.findIn K (.ref C) "__setattr__") (some (some (.builtin "object.__setattr__"))) &&
  (decide (PySem.W.subIn K (.ref C) (.type "BaseException") = some true) &&
  (decide (PySem.W.typeIn K (.ref C) = some (.type "type")) &&
  (PySem.W.keepIn K (.ref C) &&
  (He.eqO (PySem.W.findIn K (.ref C) "__getattribute__") (some (some (.builtin "BaseException.__getattribute__"))) &&
  (He.eqO (PySem.W.findIn K (.ref C) "__getattr__") (some none) &&
  (PySem.W.hasDictIn K C &&
  (He.eqO (PySem.W.findIn K (.ref C) "__class__") (some (some (.builtin "object.__class__"))) &&
  (He.eqO (PySem.W.specialIn K (.builtin "object.__class__") "__get__") (some (some (.builtin "getset_descriptor.__get__"))) &&
  (decide (PySem.W.takesIn K (.builtin "object.__class__") = some true) &&
  (decide (PySem.W.mroIn K C (.type "object") = some true) &&
  (He.eqO (PySem.W.findIn K (.ref C) f) (some none) &&
  (He.eqO (PySem.W.findIn K (.ref C) "__init__") (some (some (.ref (He.ma K C "__init__")))) &&
  decide (PySem.W.typeIn K (.ref (He.ma K C "__init__")) = some (.type "function")))))))))))))))
end Mp
namespace Mp
open PySem PySem.Spec PyProof.Rows L2
theorem errB_facts {K : PySem.W.Frag} {x f : Str} (h : errB K x f = true) : OexC K (He.ga K x) ∧ XfC K (He.ga K x) ∧ ExcC K (He.ga K x) ∧ PySem.W.findIn K (.ref (He.ga K x)) f = some none := by
  unfold errB at h
  simp only [Bool.and_eq_true, decide_eq_true_eq] at h
  obtain ⟨h0, h1, h2, h3, h4, h5, h6, h7, h8, h9, h10, h11, h12, h13, h14⟩ := h
  have O : OexC K (He.ga K x) := by
    refine ⟨?_, He.eqO_ok h1, h2, h3, h4⟩
    cases e : List.lookup (He.ga K x) K with
    | none => rw [e] at h0; cases h0
    | some o =>
      rw [e] at h0
      obtain ⟨nm, q, N, bs, bm, sn, sub, ab, col, dd, k0, k1, k2, k3, k5, rfl, hr⟩ := excObjB_ok h0
      exact ⟨nm, q, N, bs, bm, sn, sub, ab, col, dd, k0, k1, k2, k3, k5, rfl, hr⟩
  exact ⟨O, ⟨He.eqO_ok h5, He.eqO_ok h6, h2, h7⟩, ⟨He.eqO_ok h5, He.eqO_ok h6, h2, h7, He.eqO_ok h8, He.eqO_ok h9, h10, h11⟩, He.eqO_ok h12⟩
end Mp
namespace Mp
/-- an index of a class; what is none stands for the first -/
def ixN (n c : Nat) : Nat := if c < n then c else 0
end Mp
namespace Mp
open PySem PySem.Spec PyProof.Rows L2
def ddup {α : Type} [DecidableEq α] : List α → List α
  | [] => []
  | x :: r => if x ∈ r then ddup r else x :: ddup r
end Mp
namespace Mp
open PySem PySem.Spec PyProof.Rows L2
section
variable {α β : Type} [DecidableEq α] [DecidableEq β]
theorem mem_ddup {x : α} : ∀ {l : List α}, x ∈ ddup l ↔ x ∈ l
  | [] => Iff.rfl
  | y :: r => by
    unfold ddup
    split
    · rename_i h
      rw [mem_ddup, List.mem_cons]
      exact ⟨.inr, fun z => z.elim (fun e => e ▸ h) id⟩
    · rw [List.mem_cons, List.mem_cons, mem_ddup]
theorem ddup_nodup : ∀ l : List α, (ddup l).Nodup
  | [] => List.nodup_nil
  | y :: r => by
    unfold ddup
    split
    · exact ddup_nodup r
    · rename_i h
      exact List.nodup_cons.mpr ⟨fun z => h (mem_ddup.mp z), ddup_nodup r⟩
theorem ddup_map {f : α → β} (hf : ∀ a b, f a = f b → a = b) : ∀ l : List α, ddup (l.map f) = (ddup l).map f
  | [] => rfl
  | y :: r => by
    have e : f y ∈ r.map f ↔ y ∈ r := ⟨fun h => by
      obtain ⟨z, hz, e⟩ := List.mem_map.mp h
      exact hf _ _ e ▸ hz, fun h => List.mem_map_of_mem h⟩
    rw [List.map_cons]
    unfold ddup
    by_cases h : y ∈ r
    · rw [if_pos h, if_pos (e.mpr h), ddup_map hf r]
    · rw [if_neg h, if_neg (fun z => h (e.mp z)), ddup_map hf r, List.map_cons]
end
end Mp
namespace Mp
open PySem PySem.Spec PyProof.Rows L2
def putG {α : Type} [DecidableEq α] (l : List α) (k : α) : List α := if k ∈ l then l else k :: l
abbrev putKy (l : List Key) (k : Key) : List Key := putG l k
theorem mem_putK {α : Type} [DecidableEq α] {l : List α} {k x : α} : x ∈ putG l k ↔ x ∈ l ∨ x = k := by
  unfold putG
  split
  · rename_i h
    exact ⟨.inl, fun z => z.elim id fun e => e ▸ h⟩
  · rw [List.mem_cons]
    exact Or.comm
theorem putK_nodup {α : Type} [DecidableEq α] {l : List α} {k : α} (h : l.Nodup) : (putG l k).Nodup := by
  unfold putG
  split
  · exact h
  · rename_i n
    exact List.nodup_cons.mpr ⟨n, h⟩
theorem putK_in {α : Type} [DecidableEq α] {l : List α} {k : α} (h : k ∈ l) : putG l k = l := if_pos h
theorem putK_out {α : Type} [DecidableEq α] {l : List α} {k : α} (h : k ∉ l) : putG l k = k :: l := if_neg h
theorem putK_len {α : Type} [DecidableEq α] (l : List α) (k : α) : (putG l k).length ≤ l.length + 1 := by
  unfold putG
  split
  · omega
  · exact Nat.le_refl _
def gathK (l : List Key) : List Key := l.foldl putKy []
theorem gathK_snoc (l : List Key) (k : Key) : gathK (l ++ [k]) = putKy (gathK l) k := by
  unfold gathK
  rw [List.foldl_append] <;> rfl
theorem fold_mem (x : Key) : ∀ (l a : List Key), x ∈ l.foldl putKy a ↔ x ∈ a ∨ x ∈ l
  | [], a => by simp
  | k :: r, a => by
    rw [List.foldl_cons, fold_mem x r, mem_putK, List.mem_cons, or_assoc]
theorem fold_nodup : ∀ (l : List Key) {a : List Key}, a.Nodup → (l.foldl putKy a).Nodup
  | [], _, h => h
  | k :: r, _, h => fold_nodup r (putK_nodup h)
theorem fold_len : ∀ (l a : List Key), (l.foldl putKy a).length ≤ a.length + l.length
  | [], a => Nat.le_refl _
  | k :: r, a => by
    have h1 := fold_len r (putKy a k)
    have h2 : (putKy a k).length ≤ a.length + 1 := putK_len a k
    rw [List.foldl_cons, List.length_cons]
    omega
theorem gathK_perm (l : List Key) : (gathK l).Perm (ddup l) :=
  (List.perm_ext_iff_of_nodup (fold_nodup l List.nodup_nil) (ddup_nodup l)).mpr fun x => by
    rw [mem_ddup]
    exact (fold_mem x l []).trans (by simp)
def keyIn : Value → Key
  | .str x _ => .inr x
  | .int i _ => .inl i
  | _ => .inl 0
def FitE (P : Program) (w : World) (e : Int × Value) : Prop := RelV (kV (keyIn e.2)) e.2 ∧ e.1 = (mixKind P w).hash (keyIn e.2)
theorem keyIn_of {k : Key} {v : Value} (r : RelV (kV k) v) : keyIn v = k := by
  cases k with
  | inl i => obtain ⟨t, rfl⟩ := (show ∃ t, v = Value.int i t from r); rfl
  | inr x => obtain ⟨t, rfl⟩ := (show ∃ t, v = Value.str x t from r); rfl
theorem fit_of {P : Program} {w : World} {k : Key} {v : Value} (r : RelV (kV k) v) : FitE P w ((mixKind P w).hash k, v) := by
  have e := keyIn_of r
  exact ⟨by show RelV (kV (keyIn v)) v; rw [e]; exact r, by show _ = (mixKind P w).hash (keyIn v); rw [e]⟩
theorem fit_is {P : Program} {w : World} {e : Int × Value} (g : FitE P w e) (k : Key) : (mixKind P w).is k e.2 = true ↔ keyIn e.2 = k :=
  ⟨fun h => (mixKind P w).inj _ _ _ (kV_is g.1) h, fun h => h ▸ kV_is g.1⟩
theorem fit_elems {P : Program} {w : World} {l : List (Int × Value)} (g : ∀ e ∈ l, FitE P w e) : ElemsOf (mixKind P w) l := fun e he =>
  ⟨⟨_, kV_is (g e he).1, (g e he).2⟩, key_scan (g e he).1⟩
def ksIn (l : List (Int × Value)) : List Key := l.map fun e => keyIn e.2
/-- the set at a holds the keys ks, each once -/
def SetH (P : Program) (w : World) (h : Heap) (a : Addr) (ks : List Key) : Prop :=
  ∃ o es ep t, h.get? a = some o ∧ o.ExactSet ∧ o.data = .set es ep t ∧ (∀ e ∈ es.toList, FitE P w e) ∧ (ksIn es.toList).Perm ks ∧ ks.Nodup ∧ es.size < scanBound ∧ t.fits es.size = true ∧ Ris t.place.toList ∧
    (w.params.followText "set-order" = true ∨ t.led = true)
end Mp
namespace Mp
open PySem PySem.Spec PyProof.Rows L2
section
variable {P : Program} {w : World} {A : Around} {E : Value → Shared → Prop} {s : Shared} {a : Addr} {ks : List Key}
theorem SetH.size {h : Heap} (R : SetH P w h a ks) : ks.length < scanBound := by
  obtain ⟨o, es, ep, t, _, _, _, _, pm, _, hb, _⟩ := R
  have e : ks.length = es.size := by rw [← pm.length_eq, ksIn, List.length_map, Array.length_toList]
  omega
theorem SetH.at {h h' : Heap} (R : SetH P w h a ks) (k : ∀ o, h.get? a = some o → h'.get? a = some o) : SetH P w h' a ks := by
  obtain ⟨o, es, ep, t, ho, r⟩ := R
  exact ⟨o, es, ep, t, k o ho, r⟩
theorem setH_tail {gv : Bool → Sem Unit} (hgv : ∀ (b : Bool) (s₁ : Shared) (Q₁ : Unit → Shared → Prop), Q₁ () s₁ → wpAny (model P w) A (gv b) Q₁ E s₁)
    {ob : Obj} {es : Array (Int × Value)} {ep : Nat} {t : SetTable} (ho : s.heap.get? a = some ob) (hx : ob.ExactSet) (hd : ob.data = .set es ep t)
    {fs : Array (Int × Value)} {u : SetTable} (gf : ∀ e ∈ fs.toList, FitE P w e) (pf : (ksIn fs.toList).Perm ks) (nf : ks.Nodup) (bf : fs.size < scanBound) (ff : u.fits fs.size = true) (rf : Ris u.place.toList)
    (lf : w.params.followText "set-order" = true ∨ u.led = true) {dm : Bool} {R : Option Bool → Shared → Prop} (hR : ∀ h', Heap.SameBut a s.heap h' → SetH P w h' a ks → R (some true) { s with heap := h' }) :
    wpAny (model P w) A (do
        storeSet a fs u
        if (!dm && u.tooFull) = true then do
            gv (relayAll u fs (SetTable.grown fs.size)).2.2
            storeSet a (relayAll u fs (SetTable.grown fs.size)).1 (relayAll u fs (SetTable.grown fs.size)).2.1
            pure (some true)
          else pure (some true)) R E s := by
  have at1 := store_at (es' := fs) (t' := u) ho hd
  have sb := Heap.SameBut.update s.heap a (Obj.putSet fs u)
  refine wpAny_bind (wpAny_storeSet_of ho hd ?_ (fits_of_scanBound bf))
  split
  · have q1 := relayAll_perm u fs (SetTable.grown fs.size); have q2 := relayAll_fits u fs (SetTable.grown fs.size)
    have q3 := relayAll_ris u fs (SetTable.grown fs.size); have q4 := relayAll_led u fs (SetTable.grown fs.size)
    generalize relayAll u fs (SetTable.grown fs.size) = Z at q1 q2 q3 q4 ⊢
    obtain ⟨gs, x, gave⟩ := Z
    dsimp only at q1 q2 q3 q4 ⊢
    have sz : gs.size = fs.size := by rw [← Array.length_toList, q1.length_eq, Array.length_toList]
    have bg : gs.size < scanBound := sz ▸ bf
    refine wpAny_bind (hgv _ _ _ (wpAny_bind (wpAny_storeSet_of at1 rfl ?_ (fits_of_scanBound bg))))
    exact wpAny_pure (hR _ (sb.trans (Heap.SameBut.update _ a _)) ⟨_, gs, _, x, store_at (es' := gs) (t' := x) at1 rfl, hx, rfl, fun e he => gf e (q1.mem_iff.mp he), (q1.map _).trans pf, nf, bg, q2, q3,
      lf.imp id fun z => q4.trans z⟩)
  · exact wpAny_pure (hR _ sb ⟨_, fs, _, u, at1, hx, rfl, gf, pf, nf, bf, ff, rf, lf⟩)
theorem setH_put {k : Key} {x : Value} {Q : Bool → Shared → Prop} (rx : RelV (kV k) x) (R : SetH P w s.heap a ks) (room : ks.length + 1 < scanBound)
    (hQ : ∀ (b : Bool) h', Heap.SameBut a s.heap h' → SetH P w h' a (putKy ks k) → Q b { s with heap := h' }) : wpAny (model P w) A (setAddHashed a x ((mixKind P w).hash k)) Q E s := by
  obtain ⟨ob, es, ep, t, ho, hx, hd, g, pm, nd, hb, hf, hr, hl⟩ := R
  have isx := kV_is (P := P) (w := w) rx
  have scx := key_scan rx
  have els := fit_elems g
  have size_eq : es.size = ks.length := by rw [← pm.length_eq, ksIn, List.length_map, Array.length_toList]
  unfold setAddHashed setAddHashedIn
  refine wpAny_holding (wpAny_bind (wpAny_setState_of ho hd hf ?_)); dsimp only
  rw [byScan_of scx hb els]; simp only [↓reduceIte]
  unfold setAddByScan
  refine wpAny_bind (wpAny_bind (wpAny_rule (wpAny_bind (wpAny_setScan_of isx ho hd hf els ?_))))
  cases fd : List.findIdx? (fun e => (mixKind P w).is k e.2) es.toList with
  | some j =>
    obtain ⟨hj, pj, _⟩ := List.findIdx?_eq_some_iff_getElem.mp fd
    have mk : k ∈ ks := pm.mem_iff.mp (List.mem_map.mpr ⟨_, List.getElem_mem hj, (fit_is (g _ (List.getElem_mem hj)) k).mp pj⟩)
    have same : putKy ks k = ks := putK_in mk
    dsimp only
    exact wpAny_pure (wpAny_pure (hQ _ s.heap (Heap.SameBut.refl a s.heap) ⟨ob, es, ep, t, ho, hx, hd, g, by rw [same]; exact pm, by rw [same]; exact nd, hb, hf, hr, hl⟩))
  | none =>
    have nk : k ∉ ks := fun z => by
      obtain ⟨e, he, q⟩ := List.mem_map.mp (pm.mem_iff.mpr z)
      have c := List.findIdx?_eq_none_iff.mp fd e he
      rw [(fit_is (g e he) k).mpr q] at c
      cases c
    have new : putKy ks k = k :: ks := putK_out nk
    dsimp only
    have gv : ∀ (b : Bool) {s₁ : Shared} {Q₁ : Unit → Shared → Prop}, Q₁ () s₁ → wpAny (model P w) A (match b with | true => rule "set.scan.the-table-gave-way" | false => pure ()) Q₁ E s₁ :=
      fun b _ _ q => match b with | true => wpAny_rule q | false => wpAny_pure q
    have q1 := layNew_perm t es ((mixKind P w).hash k) x; have q2 := layNew_fits t es ((mixKind P w).hash k) x
    have q3 := layNew_ris t es ((mixKind P w).hash k) x hr; have q4 := layNew_led t es ((mixKind P w).hash k) x
    generalize layNew t es ((mixKind P w).hash k) x = Z at q1 q2 q3 q4 ⊢
    obtain ⟨fs, u, dm, gave⟩ := Z
    dsimp only at q1 q2 q3 q4 ⊢
    rw [Array.toList_push] at q1
    have q1 : fs.toList.Perm (((mixKind P w).hash k, x) :: es.toList) := q1.trans (List.perm_append_singleton _ _)
    have gf : ∀ e ∈ fs.toList, FitE P w e := fun e he => (List.mem_cons.mp (q1.mem_iff.mp he)).elim (fun z => z ▸ fit_of rx) (g e)
    have pf : (ksIn fs.toList).Perm (putKy ks k) := by
      rw [new]
      refine (q1.map _).trans ?_
      rw [List.map_cons, show keyIn x = k from keyIn_of rx]
      exact pm.cons k
    have nf : (putKy ks k).Nodup := putK_nodup nd
    have bf : fs.size < scanBound := by
      have z := q1.length_eq
      rw [Array.length_toList, List.length_cons, Array.length_toList] at z
      omega
    have lf : w.params.followText "set-order" = true ∨ u.led = true := hl.imp id fun z => q4.trans z
    refine wpAny_bind (gv _ ?_)
    split
    · refine wpAny_bind ?_
      rw [hashByValue_scannable 8 scx]
      refine wpAny_pure (setH_tail ?_ ho hx hd gf pf nf bf ?_ ?_ ?_ fun h' sb r => wpAny_pure (hQ _ h' sb r))
      · exact fun b _ _ q => gv b q
      · first | exact q2 | (split <;> first | exact q2 | exact SetTable.fits_plain_off q2)
      · first | exact q3 | (split <;> exact q3)
      · first | exact lf | (split <;> exact lf)
    · refine wpAny_bind (wpAny_pure ?_)
      simp only [↓reduceIte]
      exact setH_tail (fun b _ _ q => gv b q) ho hx hd gf pf nf bf q2 q3 lf fun h' sb r => wpAny_pure (hQ _ h' sb r)
theorem setH_new {h : Heap} (ho : h.get? a = some { cls := .type "set", dict := none, data := .set #[] 0 (.fresh 0 0 (!w.params.followText "set-order")) }) : SetH P w h a [] :=
  ⟨_, #[], 0, _, ho, ⟨rfl, rfl, rfl⟩, rfl, (fun e he => by simp at he), .refl _, List.nodup_nil, by decide, by rfl, List.Pairwise.nil, by
    show w.params.followText "set-order" = true ∨ (!w.params.followText "set-order") = true
    cases w.params.followText "set-order" <;> simp⟩
/-- the walk over what the set is made of -/
theorem setH_fill {Rr : Result → Shared → Prop} {I D : Addr} {fp wr : List Addr} {Gn : Array GenState → Array GenState → Prop} {n : Nat} {Pi : Nat → Value → Prop} {Si : Nat → Shared → Prop} (W : WalksS P w A.in1 I fp wr Gn n Pi Si) (hD : D ∉ fp)
    (ks : List Key) (hn : ks.length = n) (rel : ∀ i v, Pi i v → ∃ k, ks[i]? = some k ∧ RelV (kV k) v) (hb : n + 1 < scanBound) : ∀ (m i : Nat) (s : Shared), n - i = m → i ≤ n → Si i s → SetH P w s.heap D (gathK (ks.take i)) →
      (∀ s', Moved (D :: wr) Gn s s' → SetH P w s'.heap D (gathK ks) → Rr (.ok (.ret .none)) s') → codeAny (model P w) A (.builtin "set.update.loop" ⟨[.ref D, .ref I], []⟩) Rr s := by
  have hDw : D ∉ wr := fun h => hD (W.sub _ h)
  have sub : ∀ b ∈ wr, b ∈ D :: wr := fun b => List.mem_cons_of_mem _
  intro m
  induction m with
  | zero =>
    intro i s em hi st hs fin
    obtain rfl : i = n := by omega
    refine codeAny_builtin PyProof.Rows.F.entry_set_update_loop ?_; rw [Around.under_plainId PyProof.Rows.F.plain_set_update_loop _]
    show wpAny _ A.in1 (pyNext (.ref I) >>= _) _ _ s
    refine wpAny_bind (W.done s _ _ st fun s' mv => wpAny_pure (fin s' (mv.mono sub) ?_))
    rw [List.take_of_length_le (Nat.le_of_eq hn)] at hs
    exact hs.at fun o e => mv.heap D o hDw e
  | succ m ih =>
    intro i s em hi st hs fin
    have lt : i < n := by omega
    refine codeAny_builtin PyProof.Rows.F.entry_set_update_loop ?_; rw [Around.under_plainId PyProof.Rows.F.plain_set_update_loop _]
    show wpAny _ A.in1 (pyNext (.ref I) >>= _) _ _ s
    refine wpAny_bind (W.item i s _ _ lt st fun v s' pv st' mv => ?_)
    obtain ⟨k, ek, rk⟩ := rel i v pv
    have hs' := hs.at fun o e => mv.heap D o hDw e
    show wpAny _ A.in1 (holding [v] (setAdd D v) >>= _) _ _ s'
    have room : (gathK (ks.take i)).length + 1 < scanBound := by
      have z := fold_len (ks.take i) []
      rw [List.length_take] at z
      show (List.foldl putKy [] (ks.take i)).length + 1 < scanBound
      simp only [List.length_nil, Nat.zero_add] at z
      omega
    have nx : gathK (ks.take (i + 1)) = putKy (gathK (ks.take i)) k := by rw [List.take_add_one, ek, ← gathK_snoc] <;> rfl
    refine wpAny_bind (wpAny_holding ?_); unfold setAdd
    refine wpAny_holding (wpAny_bind ((mixKind P w).pyHash (k := k) (kV_is rk) (setH_put (s := { s' with toks := s'.toks + 1 }) rk hs' room fun bb h' sb hs2 => ?_)))
    rw [← nx] at hs2
    refine wpAny_pure ⟨plainId_quiet PyProof.Rows.F.plain_set_update_loop _, ih (i + 1) _ (by omega) lt (W.frame _ s' _ _ st' (Nat.le_succ _) fun b hb' o e => ?_) hs2 fun s'' mv' hs3 => ?_⟩
    · exact (sb.2 b fun z => hD (z ▸ hb')).trans e
    · exact fin s'' (Moved.trans W.gtrans ((mv.mono sub).then_heap (Nat.le_succ _) fun b o hb' e => (sb.2 b fun z => hb' (z ▸ List.mem_cons_self)).trans e) mv') hs3
abbrev mtSet (w : World) : Obj := { cls := .type "set", dict := none, data := .set #[] 0 (.fresh 0 0 (!w.params.followText "set-order")) }
theorem setH_list {l : Addr} {its : Array Value} (ks : List Key) {Q : Value → Shared → Prop} (hh : A.handled = none) (hl : s.heap.IsList l its) (hr : ∀ (i : Nat) (v : Value), its[i]? = some v → ∃ k, ks[i]? = some k ∧ RelV (kV k) v) (hn : ks.length = its.size) (hb : its.size + 1 < scanBound)
    (h : ∀ (h' : Heap) (tk : Nat), SetH P w h' s.heap.objs.size (gathK ks) → (∀ b o, s.heap.get? b = some o → h'.get? b = some o) → Q (.ref s.heap.objs.size) { s with heap := h', toks := tk }) : wpAny (model P w) A (call (.type "set") [.ref l]) Q E s := by
  obtain ⟨_, _, hmro⟩ := PySem.F.called_set.mro; have hmade := PySem.F.called_set.made; have hsub := PySem.F.called_set.sub
  refine wpAny_call (codeAny_of_tree ?_); show wpAny _ _ (callAny (.type "set") _) _ _ _
  refine wpAny_pure ⟨Code.quiet_builtin _ (by decide +kernel), codeAny_builtin PySem.F.entry_type_call ?_⟩; rw [Around.under_plain (weight_type_call_type "set" [.ref l] []) rfl]
  have h1 := PySem.F.called_set.notType; have h2 := PySem.F.called_set.canCreate; have hct := PySem.F.typeCall_set_1 (.ref l)
  repeat (any_goals (first | assumption | wp_step))
  refine codeAny_mono (code_set_led1 (.ref l) (E := E) (Q₁ := fun ob s₁ => ob = .ref s.heap.objs.size ∧ s₁ = { s with heap := s.heap.push (mtSet w) }) ⟨rfl, rfl⟩) fun r s₁ q => ?_
  cases r with
  | error e => exact q
  | ok fl =>
    cases fl with
    | ret ob =>
      obtain ⟨rfl, rfl⟩ := q
      have atS : (s.heap.push (mtSet w)).get? s.heap.objs.size = some (mtSet w) := Heap.get?_push_size _ rfl
      have tyS : Shared.TypeIs { s with heap := s.heap.push (mtSet w) } (.ref s.heap.objs.size) "set" := ⟨_, atS, rfl⟩
      have i1 := PySem.F.called_set.init.lookup; have i2 := PySem.F.called_set.init.bind (.ref s.heap.objs.size)
      repeat (any_goals (first | assumption | wp_step))
      refine codeAny_mono (codeAny_call_builtin (R := wants (fun r s₂ => r = .none ∧ ∃ h' tk, s₂ = { s with heap := h', toks := tk } ∧ SetH P w h' s.heap.objs.size (gathK ks) ∧ (∀ b o, s.heap.get? b = some o → h'.get? b = some o)) E) PySem.F.called_set.init.plain PySem.F.entry_set_init (check_set_init_1 tyS ?_)) fun r₂ s₂ q₂ => ?_
      · obtain ⟨ol, hol, hcl, nl, hdl⟩ := hl
        obtain ⟨c1, d1, dat, slo⟩ := ol
        simp only at hcl hdl
        subst hcl; subst hdl
        have hol2 : (s.heap.push (mtSet w)).get? l = some { cls := .type "list", dict := d1, data := .seq its nl, slots := slo } := Heap.get?_push_of_some _ hol
        have u1 := PySem.F.sub_list_set; have u2 := PySem.F.sub_list_frozenset
        have u3 : (Value.type "list" == Value.type "dict") = false := by decide
        have hl2 : (s.heap.push (mtSet w)).IsList l its := ⟨_, hol2, rfl, nl, rfl⟩
        have hls : l < s.heap.objs.size := Heap.lt_size hol
        unfold Builtin.«set.__init__» noKeywords Builtin.Frozenset.updateFrom; generalize hPI : pyIter = PI; wp_walk; subst hPI
        refine wpAny_pyIter_list hl2 (wpAny_bind (wpAny_runValue ?_))
        have h3 : A.in1.in1.in1.handled = none := by simp [hh]
        have sz : (s.heap.push (mtSet w)).objs.size = s.heap.objs.size + 1 := Heap.size_push ..
        have ne1 : l ≠ (s.heap.push (mtSet w)).objs.size := by rw [sz]; exact Nat.ne_of_lt (Nat.lt_succ_of_lt hls)
        have ne2 : s.heap.objs.size ∉ [(s.heap.push (mtSet w)).objs.size, l] := fun z => by
          rw [sz] at z
          rcases List.mem_cons.mp z with z | z
          · exact Nat.succ_ne_self _ z.symm
          · exact Nat.ne_of_gt hls (List.mem_singleton.mp z)
        refine setH_fill ((Walks.list h3 _ l ne1 its).toS) ne2 ks hn hr hb its.size 0 _ rfl (Nat.zero_le _) ⟨⟨_, Heap.get?_push_size _ rfl, rfl, rfl⟩, hl2.push _⟩ (setH_new (Heap.get?_push_of_some _ atS)) fun s' mv hs => ?_
        obtain ⟨h', g', d', tk', os'⟩ := s'
        have eg : g' = s.gens := mv.gens; have ed : d' = s.drawn := mv.drawn; have eo : os' = s.os := mv.os
        subst eg; subst ed; subst eo
        show wpAny _ _ _ _ _ _
        refine wpAny_pure ?_
        show wpAny _ _ (ret Value.none) _ _ _
        refine wpAny_pure ⟨rfl, h', tk', rfl, hs, fun b o e => mv.heap b o (fun z => ?_) (Heap.get?_push_of_some _ (Heap.get?_push_of_some _ e))⟩
        have lb : b < s.heap.objs.size := Heap.lt_size e
        rcases List.mem_cons.mp z with z | z
        · exact Nat.ne_of_lt lb z
        · exact Nat.ne_of_lt (Nat.lt_succ_of_lt lb) ((List.mem_singleton.mp z).trans sz)
      · cases r₂ with
        | error e => exact q₂
        | ok fl₂ =>
          cases fl₂ with
          | ret r =>
            obtain ⟨rfl, h', tk, rfl, hs, hk⟩ := q₂
            repeat (any_goals (first | assumption | wp_step))
            exact h _ _ hs hk
          | _ => exact q₂.elim
    | _ => exact q.elim
theorem setH_tuple {l : Addr} {its : Array Value} (ks : List Key) {Q : Value → Shared → Prop} (hh : A.handled = none) (hl : s.heap.IsTuple l its) (hr : ∀ (i : Nat) (v : Value), its[i]? = some v → ∃ k, ks[i]? = some k ∧ RelV (kV k) v) (hn : ks.length = its.size) (hb : its.size + 1 < scanBound)
    (h : ∀ (h' : Heap) (tk : Nat), SetH P w h' s.heap.objs.size (gathK ks) → (∀ b o, s.heap.get? b = some o → h'.get? b = some o) → Q (.ref s.heap.objs.size) { s with heap := h', toks := tk }) : wpAny (model P w) A (call (.type "set") [.ref l]) Q E s := by
  obtain ⟨_, _, hmro⟩ := PySem.F.called_set.mro; have hmade := PySem.F.called_set.made; have hsub := PySem.F.called_set.sub
  refine wpAny_call (codeAny_of_tree ?_); show wpAny _ _ (callAny (.type "set") _) _ _ _
  refine wpAny_pure ⟨Code.quiet_builtin _ (by decide +kernel), codeAny_builtin PySem.F.entry_type_call ?_⟩; rw [Around.under_plain (weight_type_call_type "set" [.ref l] []) rfl]
  have h1 := PySem.F.called_set.notType; have h2 := PySem.F.called_set.canCreate; have hct := PySem.F.typeCall_set_1 (.ref l)
  repeat (any_goals (first | assumption | wp_step))
  refine codeAny_mono (code_set_led1 (.ref l) (E := E) (Q₁ := fun ob s₁ => ob = .ref s.heap.objs.size ∧ s₁ = { s with heap := s.heap.push (mtSet w) }) ⟨rfl, rfl⟩) fun r s₁ q => ?_
  cases r with
  | error e => exact q
  | ok fl =>
    cases fl with
    | ret ob =>
      obtain ⟨rfl, rfl⟩ := q
      have atS : (s.heap.push (mtSet w)).get? s.heap.objs.size = some (mtSet w) := Heap.get?_push_size _ rfl
      have tyS : Shared.TypeIs { s with heap := s.heap.push (mtSet w) } (.ref s.heap.objs.size) "set" := ⟨_, atS, rfl⟩
      have i1 := PySem.F.called_set.init.lookup; have i2 := PySem.F.called_set.init.bind (.ref s.heap.objs.size)
      repeat (any_goals (first | assumption | wp_step))
      refine codeAny_mono (codeAny_call_builtin (R := wants (fun r s₂ => r = .none ∧ ∃ h' tk, s₂ = { s with heap := h', toks := tk } ∧ SetH P w h' s.heap.objs.size (gathK ks) ∧ (∀ b o, s.heap.get? b = some o → h'.get? b = some o)) E) PySem.F.called_set.init.plain PySem.F.entry_set_init (check_set_init_1 tyS ?_)) fun r₂ s₂ q₂ => ?_
      · obtain ⟨ol, hol, hcl, nl, hdl⟩ := hl
        obtain ⟨c1, d1, dat, slo⟩ := ol
        simp only at hcl hdl
        subst hcl; subst hdl
        have hol2 : (s.heap.push (mtSet w)).get? l = some { cls := .type "tuple", dict := d1, data := .seq its nl, slots := slo } := Heap.get?_push_of_some _ hol
        have u1 := PySem.F.sub_tuple_set; have u2 := PySem.F.sub_tuple_frozenset
        have u3 : (Value.type "tuple" == Value.type "dict") = false := by decide
        have hl2 : (s.heap.push (mtSet w)).IsTuple l its := ⟨_, hol2, rfl, nl, rfl⟩
        have hls : l < s.heap.objs.size := Heap.lt_size hol
        unfold Builtin.«set.__init__» noKeywords Builtin.Frozenset.updateFrom; generalize hPI : pyIter = PI; wp_walk; subst hPI
        refine wpAny_pyIter_tuple hl2 (wpAny_bind (wpAny_runValue ?_))
        have h3 : A.in1.in1.in1.handled = none := by simp [hh]
        have sz : (s.heap.push (mtSet w)).objs.size = s.heap.objs.size + 1 := Heap.size_push ..
        have ne1 : l ≠ (s.heap.push (mtSet w)).objs.size := by rw [sz]; exact Nat.ne_of_lt (Nat.lt_succ_of_lt hls)
        have ne2 : s.heap.objs.size ∉ [(s.heap.push (mtSet w)).objs.size, l] := fun z => by
          rw [sz] at z
          rcases List.mem_cons.mp z with z | z
          · exact Nat.succ_ne_self _ z.symm
          · exact Nat.ne_of_gt hls (List.mem_singleton.mp z)
        refine setH_fill ((Walks.tuple h3 _ l ne1 its).toS) ne2 ks hn hr hb its.size 0 _ rfl (Nat.zero_le _) ⟨⟨_, Heap.get?_push_size _ rfl, rfl, rfl⟩, hl2.push _⟩ (setH_new (Heap.get?_push_of_some _ atS)) fun s' mv hs => ?_
        obtain ⟨h', g', d', tk', os'⟩ := s'
        have eg : g' = s.gens := mv.gens; have ed : d' = s.drawn := mv.drawn; have eo : os' = s.os := mv.os
        subst eg; subst ed; subst eo
        show wpAny _ _ _ _ _ _
        refine wpAny_pure ?_
        show wpAny _ _ (ret Value.none) _ _ _
        refine wpAny_pure ⟨rfl, h', tk', rfl, hs, fun b o e => mv.heap b o (fun z => ?_) (Heap.get?_push_of_some _ (Heap.get?_push_of_some _ e))⟩
        have lb : b < s.heap.objs.size := Heap.lt_size e
        rcases List.mem_cons.mp z with z | z
        · exact Nat.ne_of_lt lb z
        · exact Nat.ne_of_lt (Nat.lt_succ_of_lt lb) ((List.mem_singleton.mp z).trans sz)
      · cases r₂ with
        | error e => exact q₂
        | ok fl₂ =>
          cases fl₂ with
          | ret r =>
            obtain ⟨rfl, h', tk, rfl, hs, hk⟩ := q₂
            repeat (any_goals (first | assumption | wp_step))
            exact h _ _ hs hk
          | _ => exact q₂.elim
    | _ => exact q.elim
theorem setH_len {Q : Value → Shared → Prop} (R : SetH P w s.heap a ks) (h : ∀ tk tk', Q (.int ks.length tk) { s with toks := tk' }) : wpAny (model P w) A (call (.builtin "len") [.ref a]) Q E s := by
  obtain ⟨ob, es, ep, t, ho, hx, hd, g, pm, nd, hb, hf, hr, hl⟩ := R
  have e : es.size = ks.length := by rw [← pm.length_eq, ksIn, List.length_map, Array.length_toList]
  refine call_len_set ho hx hd hf (by unfold scanBound at hb; omega) ?_
  rw [e]
  exact h _ _
end
end Mp
namespace Mp
open PySem PySem.Spec PyProof.Rows L2
def lenSetR (ys : List W) : Option W := match strsOf ys with
  | some zs => if zs.length < 4000 then some (.int ((ddup zs).length : Nat)) else none
  | none => match intsOf ys with
    | some ns => if ns.length < 4000 then some (.int ((ddup ns).length : Nat)) else none
    | none => none
def mSet (o : List W → Option W) (f : ME) : ME := fun η S => (f η S).bind fun x S1 => rOpt ((seqOf S1 x).bind o) S1
def kS (l : List Nat) : Key := .inr ⟨l.toArray⟩
def kZ (i : Int) : Key := .inl i
def unS : Key → List Nat
  | .inr x => x.cps.toList
  | .inl _ => []
def unZ : Key → Int
  | .inl i => i
  | .inr _ => 0
theorem unS_kS (l : List Nat) : unS (kS l) = l := by simp [unS, kS]
theorem unZ_kZ (l : Int) : unZ (kZ l) = l := rfl
theorem kS_inj (a b : List Nat) (h : kS a = kS b) : a = b := by rw [← unS_kS a, h, unS_kS]
theorem kZ_inj (a b : Int) (h : kZ a = kZ b) : a = b := by rw [← unZ_kZ a, h, unZ_kZ]
theorem ddup_kS (l : List (List Nat)) : ddup (l.map kS) = (ddup l).map kS := ddup_map kS_inj l
theorem ddup_kZ (l : List Int) : ddup (l.map kZ) = (ddup l).map kZ := ddup_map kZ_inj l
theorem key_at : ∀ {ks : List Key} {us : List Value}, Vals (ks.map kV) us → ∀ (i : Nat) (v : Value), us[i]? = some v → ∃ k, ks[i]? = some k ∧ RelV (kV k) v
  | [], _, .nil, i, v, h => by simp at h
  | k :: _, _, .cons r t, 0, v, h => by
    simp only [List.getElem?_cons_zero, Option.some.injEq] at h
    exact ⟨k, rfl, h ▸ r⟩
  | _ :: _, _, .cons r t, i + 1, v, h => by
    simp only [List.getElem?_cons_succ] at h
    exact key_at t i v h
end Mp
namespace Mp
open PySem PySem.Spec PyProof.Rows L2
section
variable {X : Cx} {G : Gs} {a : Expr} {f : ME} {p p2 q pos : Pos}
theorem seq_or' {K : PySem.W.Frag} {γ : Ga} {H : Hp} {S : Store} {w : W} {v : V} {xs : List W} (s : StoreOk K G γ H S) (h : seqOf S w = some xs) (r : Rep K G γ H w v) : ∃ a vs, v = .ref a ∧ (SqL K H a vs ∨ SqT K H a vs) ∧ Reps K G γ H xs vs := by
  cases r with
  | tup f q =>
    cases h
    exact ⟨_, _, rfl, .inr f.sq, q⟩
  | lst h1 o1 q =>
    obtain ⟨a, vs, ev, hv, q⟩ := lst_or s (show lstOf S (W.lst _) = some xs from h) (.lst h1 o1 q)
    exact ⟨a, vs, ev, .inl hv, q⟩
  | ref hr =>
    obtain ⟨a, vs, ev, hv, q⟩ := lst_or s (show lstOf S (W.ref _) = some xs from h) (.ref hr)
    exact ⟨a, vs, ev, .inl hv, q⟩
  | _ => cases h
theorem set_at {A : Around} {E : Value → Shared → Prop} {pins : List (Addr × Obj)} {σ : L2.St} {H : Hp} {s : Shared} {S : Store} {γ : Ga} {x : W} {v : V} {u : Value} {ys : List W} {ks : List Key} {Q : Value → Shared → Prop} (hh : A.handled = none) (I : Inv X pins σ H s) (ss : StoreOk X.K G γ H S) (es : seqOf S x = some ys) (r : Rep X.K G γ H x v) (rv : RelV v u)
    (hk : ∀ {vs}, Reps X.K G γ H ys vs → vs = ks.map kV) (hz : ks.length < 4000) (h : ∀ (h' : Heap) (tk : Nat), SetH X.prog X.w h' s.heap.objs.size (gathK ks) → (∀ b o, s.heap.get? b = some o → h'.get? b = some o) → Q (.ref s.heap.objs.size) { s with heap := h', toks := tk }) :
    wpAny (model X.prog X.w) A (call (.type "set") [u]) Q E s := by
  obtain ⟨l, vs, rfl, hq, rr⟩ := seq_or' ss es r
  obtain rfl := hk rr
  cases rv
  rcases hq with hq | hq
  · obtain ⟨its, ri, pl, _⟩ := I.list hq
    have e : ks.length = its.length := by rw [← ri.length, List.length_map]
    exact setH_list (its := its.toArray) ks hh pl.isList (fun i v hv => key_at ri i v (by simpa using hv)) (by simpa using e) (by unfold scanBound; simp only [List.size_toArray]; omega) h
  · obtain ⟨its, ri, pl, _⟩ := I.tuple hq
    have e : ks.length = its.length := by rw [← ri.length, List.length_map]
    exact setH_tuple (its := its.toArray) ks hh pl (fun i v hv => key_at ri i v (by simpa using hv)) (by simpa using e) (by unfold scanBound; simp only [List.size_toArray]; omega) h
theorem strs_ks {K : PySem.W.Frag} {γ : Ga} {H : Hp} {ys : List W} {zs : List (List Nat)} (e : strsOf ys = some zs) {vs : List V} (r : Reps K G γ H ys vs) : vs = (zs.map kS).map kV := by
  rw [(strsOf_reps r e).1, List.map_map, List.map_map] <;> rfl
theorem ints_ks {K : PySem.W.Frag} {γ : Ga} {H : Hp} {ys : List W} {zs : List Int} (e : intsOf ys = some zs) {vs : List V} (r : Reps K G γ H ys vs) : vs = (zs.map kZ).map kV := by
  rw [intsOf_reps' r e, List.map_map] <;> rfl
theorem se_lenSet (cf : Cfg X) (hm : X.mg "len" = none) (hm2 : X.mg "set" = none) (ha : SE X G a f) (hg : Gl X "len" := by rfl) (hg2 : Gl X "set" := by rfl)
    (na : starEach [a] X.env = (false, eval a X.env) :: starEach [] X.env := by rfl) : SE X G (.Call (.Name "len" p) [.Call (.Name "set" p2) [a] [] q] [] pos) (mSet lenSetR f) := by
  refine ⟨fun Wi tk => ⟨fun pins s σ H Q I h => ?_⟩⟩
  obtain ⟨η, S, γ, he, hs, k⟩ := h
  refine Call_ (ld_blt I hg hm PySem.boot_len ?_)
  refine PyProof.Rows.callWith_builtin1 (PyProof.Rows.args_cons ?_ rfl) rfl rfl
  refine Call_ (ld_blt I hg2 hm2 PyProof.Rows.boot_set ?_)
  refine PyProof.Rows.callWith_type1 (PyProof.Rows.args_cons (thn ((ha.run Wi tk).run pins s σ H _ I ⟨η, S, γ, he, hs, Post.seq k⟩) fun v s1 ⟨x, H1, I1, rv, w, S1, γ1, e1, r1, ss1, k1⟩ => PyProof.Rows.args_nil ?_) na) na rfl
  have fin : ∀ (ys : List W) (ks : List Key) (n : Nat), seqOf S1 w = some ys → (∀ {vs}, Reps X.K G γ1 H1 ys vs → vs = ks.map kV) → ks.length < 4000 → lenSetR ys = some (.int n) → (ddup ks).length = n →
      wpAny (model X.prog X.w) X.A (call (.type "set") [v]) (fun v s₂ => wpAny (model X.prog X.w) X.A (spliced (backTo pos (starEach [] X.env))) (fun vs s₃ => wpAny (model X.prog X.w) X.A (call (.builtin "len") (v :: vs)) (EP X pins σ Q) X.xe s₃) X.xe s₂) X.xe s1 := by
    intro ys ks n e2 hk hz hr hn
    refine set_at (I1.ok.hd cf.calm) I1 ss1 e2 r1 rv hk hz fun h' tk hS hkeep => PyProof.Rows.args_nil ?_
    have I2 : Inv X pins σ H1 { s1 with heap := h', toks := tk } := I1.kept hkeep
    refine setH_len (s := { s1 with heap := h', toks := tk }) hS fun t1 t2 => ⟨.int n, H1, I2.kept (t' := t2) (fun b u e => e), ⟨t1, ?_⟩, ?_⟩
    · rw [(gathK_perm ks).length_eq, hn]
    · rw [e2, show (some ys).bind lenSetR = some (W.int n) from hr] at k1
      exact k1 _ _ _ Ext.refl (.int _) ss1
  cases e2 : seqOf S1 w with
  | none => rw [e2] at k1; exact k1.elim
  | some ys =>
    cases ez : strsOf ys with
    | some zs =>
      by_cases hz : zs.length < 4000
      · exact fin ys (zs.map kS) (ddup zs).length e2 (strs_ks ez) (by rw [List.length_map]; exact hz) (by simp only [lenSetR, ez, if_pos hz]) (by rw [ddup_kS, List.length_map])
      · rw [e2] at k1
        simp only [Option.bind_some, lenSetR, ez, if_neg hz] at k1
        exact k1.elim
    | none =>
      cases ei : intsOf ys with
      | some zs =>
        by_cases hz : zs.length < 4000
        · exact fin ys (zs.map kZ) (ddup zs).length e2 (ints_ks ei) (by rw [List.length_map]; exact hz) (by simp only [lenSetR, ez, ei, if_pos hz]) (by rw [ddup_kZ, List.length_map])
        · rw [e2] at k1
          simp only [Option.bind_some, lenSetR, ez, ei, if_neg hz] at k1
          exact k1.elim
      | none =>
        rw [e2] at k1
        simp only [Option.bind_some, lenSetR, ez, ei] at k1
        exact k1.elim
end
end Mp
namespace Mp
open PySem PySem.Spec PyProof.Rows L2
/-- what is drawn from -/
inductive Sr where
  | L (a : Addr) | T (a : Addr) | S (x : Str)
end Mp
namespace Mp
open PySem PySem.Spec PyProof.Rows L2
namespace Sr
def val : Sr → V
  | L a => .ref a
  | T a => .ref a
  | S x => .str x
def has (K : PySem.W.Frag) (H : Hp) : Sr → List V → Prop
  | L a, xs => SqL K H a xs
  | T a, xs => SqT K H a xs
  | S x, xs => xs = x.cps.toList.map fun c => V.str ⟨#[c]⟩
def fp (it : Addr) : Sr → List Addr
  | L a => [it, a]
  | T a => [it, a]
  | S _ => [it]
def at_ (h : Heap) (it : Addr) (t : Tok) (i : Nat) : Sr → Prop
  | L a => h.IsListIter it a i
  | T a => h.IsTupleIter it a i
  | S x => h.IsStrIter it (strIterType x) x t i
def off (it : Addr) : Sr → Prop
  | L a => a ≠ it
  | T a => a ≠ it
  | S _ => True
def itO : Sr → Tok → Obj
  | L a, _ => { cls := .type "list_iterator", data := .fields #[.ref a, .int 0 0] }
  | T a, _ => { cls := .type "tuple_iterator", data := .fields #[.ref a, .int 0 0] }
  | S x, t => { cls := .type (strIterType x), data := .fields #[.str x t, .int 0 0] }
def lt (n : Nat) : Sr → Prop
  | L a => a < n
  | T a => a < n
  | S _ => True
theorem mem (it : Addr) (r : Sr) : it ∈ r.fp it := by cases r <;> simp [fp]
theorem fp_of {it b : Addr} {r : Sr} (h : b ∈ r.fp it) (n : Nat) (hl : r.lt n) : b = it ∨ b < n := by
  cases r with
  | L a =>
    have h : b ∈ [it, a] := h
    rcases List.mem_cons.mp h with z | z
    · exact .inl z
    · rw [List.mem_singleton.mp z]; exact .inr hl
  | T a =>
    have h : b ∈ [it, a] := h
    rcases List.mem_cons.mp h with z | z
    · exact .inl z
    · rw [List.mem_singleton.mp z]; exact .inr hl
  | S x => exact .inl (List.mem_singleton.mp h)
theorem keep {h h' : Heap} {it : Addr} {t : Tok} {i : Nat} {r : Sr} (x : r.at_ h it t i) (k : ∀ o, h.get? it = some o → h'.get? it = some o) : r.at_ h' it t i := by
  cases r with
  | L a => exact let ⟨o, ho, q⟩ := x; ⟨o, k o ho, q⟩
  | T a => exact let ⟨o, ho, q⟩ := x; ⟨o, k o ho, q⟩
  | S y => exact let ⟨o, ho, q⟩ := x; ⟨o, k o ho, q⟩
theorem cell {h : Heap} {it : Addr} {t : Tok} {i : Nat} {r : Sr} (x : r.at_ h it t i) : ∃ o, h.get? it = some o ∧ ∀ v, o.data ≠ .cell v := by
  cases r with
  | L a => obtain ⟨o, ho, _, d⟩ := x; exact ⟨o, ho, fun v q => by rw [d] at q; cases q⟩
  | T a => obtain ⟨o, ho, _, d⟩ := x; exact ⟨o, ho, fun v q => by rw [d] at q; cases q⟩
  | S y => obtain ⟨o, ho, _, d⟩ := x; exact ⟨o, ho, fun v q => by rw [d] at q; cases q⟩
theorem start {h : Heap} {it : Addr} {t : Tok} {r : Sr} (x : h.get? it = some (r.itO t)) : r.at_ h it t 0 := by
  cases r <;> exact ⟨_, x, rfl, rfl⟩
end Sr
end Mp
namespace Mp
open PySem PySem.Spec PyProof.Rows L2
namespace Sr
section
variable {X : Cx} {pins : List (Addr × Obj)} {σ : L2.St} {H : Hp} {s : Shared} {r : Sr} {xs ys : List V}
theorem inj (I : Inv X pins σ H s) (h : r.has X.K H xs) (h' : r.has X.K H ys) : xs = ys := by
  cases r with
  | L a => exact I.list_inj h h'
  | T a => exact I.tuple_inj h h'
  | S x => exact Eq.trans h (Eq.symm h')
theorem below (I : Inv X pins σ H s) (h : r.has X.K H xs) : r.lt s.heap.objs.size := by
  cases r with
  | L a => obtain ⟨its, rv, p, _⟩ := I.list h; exact p.lt
  | T a => obtain ⟨its, rv, ⟨_, q, _⟩, _⟩ := I.tuple h; exact Heap.lt_size q
  | S x => trivial
/-- what the iterator draws -/
theorem draws (hc : X.calm = true) (I : Inv X pins σ H s) (h : r.has X.K H xs) (it : Addr) (t : Tok) (hne : r.off it) :
    ∃ (Pi : Nat → Value → Prop) (Si : Nat → Heap → Prop), Draws X.prog X.w X.A.in1 it (r.fp it) xs.length Pi Si ∧ (∀ i, r.at_ s.heap it t i → Si i s.heap) ∧ (∀ i h, Si i h → r.at_ h it t i) ∧ ∀ i v, Pi i v → ∃ x, xs[i]? = some x ∧ RelV x v := by
  have hh : X.A.in1.handled = none := I.ok.hd hc
  cases r with
  | L a =>
    obtain ⟨its, rv, p, _⟩ := I.list h
    have e : xs.length = its.toArray.size := by simpa using rv.length
    rw [e]
    refine ⟨_, _, Draws.list hh it a hne its.toArray, fun i q => ⟨q, p.isList⟩, fun i h q => q.1, fun i v q => ?_⟩
    have q : its[i]? = some v := by simpa using q
    have lt : i < xs.length := by rw [rv.length]; exact (List.getElem?_eq_some_iff.mp q).1
    obtain ⟨u, hu, ru⟩ := rv.get (List.getElem?_eq_getElem lt)
    rw [q] at hu
    cases hu
    exact ⟨_, List.getElem?_eq_getElem lt, ru⟩
  | T a =>
    obtain ⟨its, rv, p, _⟩ := I.tuple h
    have e : xs.length = its.toArray.size := by simpa using rv.length
    rw [e]
    refine ⟨_, _, PySem.Draws.tuple hh it a hne its.toArray, fun i q => ⟨q, p⟩, fun i h q => q.1, fun i v q => ?_⟩
    have q : its[i]? = some v := by simpa using q
    have lt : i < xs.length := by rw [rv.length]; exact (List.getElem?_eq_some_iff.mp q).1
    obtain ⟨u, hu, ru⟩ := rv.get (List.getElem?_eq_getElem lt)
    rw [q] at hu
    cases hu
    exact ⟨_, List.getElem?_eq_getElem lt, ru⟩
  | S x =>
    have h : xs = x.cps.toList.map fun c => V.str ⟨#[c]⟩ := h
    subst h
    have e : (x.cps.toList.map fun c => V.str ⟨#[c]⟩).length = x.cps.size := by rw [List.length_map, Array.length_toList]
    rw [e]
    refine ⟨_, _, PySem.Draws.text hh it x t, fun i q => q, fun i h q => q, fun i v q => ?_⟩
    obtain ⟨c, u, hc, rfl⟩ := q
    refine ⟨.str ⟨#[c]⟩, ?_, ⟨u, rfl⟩⟩
    rw [List.getElem?_map, Array.getElem?_toList, hc] <;> rfl
end
end Sr
end Mp
namespace Mp
open PySem PySem.Spec PyProof.Rows L2
namespace Sr
theorem begins {X : Cx} {pins : List (Addr × Obj)} {σ : L2.St} {H : Hp} {s : Shared} {r : Sr} {xs : List V} {v : Value} (I : Inv X pins σ H s) (h : r.has X.K H xs) (rv : RelV r.val v) : ∃ (t : Tok) (Hb : Heap → Prop), Begins v (r.itO t) Hb ∧ Hb s.heap := by
  cases r with
  | L a =>
    cases rv
    obtain ⟨its, _, p, _⟩ := I.list h
    exact ⟨0, _, begins_list a its.toArray, p.isList⟩
  | T a =>
    cases rv
    obtain ⟨its, _, p, _⟩ := I.tuple h
    exact ⟨0, _, begins_tuple a its.toArray, p⟩
  | S x =>
    obtain ⟨t, rfl⟩ := rv
    exact ⟨t, _, begins_text x t, trivial⟩
end Sr
end Mp
namespace Mp
open PySem PySem.Spec PyProof.Rows L2
def Iz2 (K : PySem.W.Frag) (r1 r2 : Sr) : It :=
  ⟨fun i H => ∃ (l1 : List V) (l2 : List V) (x1 : V) (x2 : V), r1.has K H l1 ∧ r2.has K H l2 ∧ l1[i]? = some x1 ∧ l2[i]? = some x2,
    fun i H v H' => ∃ T x1 x2, v = .ref T ∧ H T = none ∧ H' = upd H T (.tup [x1, x2]) ∧ (∀ l, r1.has K H l → l[i]? = some x1) ∧ (∀ l, r2.has K H l → l[i]? = some x2),
    fun i H => ∃ (l1 : List V) (l2 : List V), r1.has K H l1 ∧ r2.has K H l2 ∧ i ≤ l1.length ∧ i ≤ l2.length ∧ (i = l1.length ∨ i = l2.length)⟩
theorem turn_z2 {P : Program} {w : World} {K : PySem.W.Frag} {elts : List Expr} {kk : Nat} {tpos : Pos} {r1 r2 : Sr} {z TI TO i1 i2 : Addr} (t1 t2 : Tok) (D : ZipSep2 z TI TO i1 i2 (r1.fp i1) (r2.fp i2)) (o1 : r1.off i1) (o2 : r2.off i2) :
    Turn P w K (.Tuple elts kk tpos) (Iz2 K r1 r2) [z, TI, TO, i1, i2] z (fun i h => IsZip h z TI TO .none ∧ IsTupOf2 h TI (.ref i1) (.ref i2) ∧ (∃ y1 y2, IsTupOf2 h TO y1 y2) ∧ r1.at_ h i1 t1 i ∧ r2.at_ h i2 t2 i) where
  mem := by simp
  obj := fun i h st c hc => by
    obtain ⟨hz, hTI, ⟨y1, y2, hTO⟩, s1, s2⟩ := st
    have q : c = z ∨ c = TI ∨ c = TO ∨ c = i1 ∨ c = i2 := by simpa using hc
    rcases q with q | q | q | q | q
    · rw [q]; exact ⟨_, hz, fun v q => nomatch q⟩
    · rw [q]; exact ⟨_, hTI, fun v q => nomatch q⟩
    · rw [q]; exact ⟨_, hTO, fun v q => nomatch q⟩
    · rw [q]; exact Sr.cell s1
    · rw [q]; exact Sr.cell s2
  keep := fun i h h' st k => by
    obtain ⟨hz, hTI, ⟨y1, y2, hTO⟩, s1, s2⟩ := st
    exact ⟨k z (by simp) _ hz, k TI (by simp) _ hTI, ⟨y1, y2, k TO (by simp) _ hTO⟩, Sr.keep s1 fun o q => k i1 (by simp) o q, Sr.keep s2 fun o q => k i2 (by simp) o q⟩
  item := by
    intro X hP hw hK hc i pins s σ H E I hf st hg
    subst hP hw hK
    obtain ⟨hz, hTI, ⟨y1, y2, hTO⟩, s1, s2⟩ := st
    obtain ⟨l1, l2, x1, x2, h1, h2, e1, e2⟩ := hg
    obtain ⟨P1, S1, D1, a1, b1, c1⟩ := Sr.draws hc I h1 i1 t1 o1
    obtain ⟨P2, S2, D2, a2, b2, c2⟩ := Sr.draws hc I h2 i2 t2 o2
    have zl : z < s.heap.objs.size := Heap.lt_size hz
    have lt1 : i < l1.length := (List.getElem?_eq_some_iff.mp e1).1
    have lt2 : i < l2.length := (List.getElem?_eq_some_iff.mp e2).1
    refine wpAny_pyNext_zipD2_item D D1 D2 hz hTI hTO (a1 _ s1) (a2 _ s2) lt1 lt2 fun u1 u2 h' tk p1 p2 z' TO' q1 q2 hT hsz hk => ?_
    obtain ⟨v1, f1, g1⟩ := c1 _ _ p1
    rw [e1] at f1
    cases f1
    obtain ⟨v2, f2, g2⟩ := c2 _ _ p2
    rw [e2] at f2
    cases f2
    refine ⟨_, rfl, wpAny_letOwnedTupleGo_zip (s := { s with heap := h', toks := tk }) z' fun h'' z'' sb => ?_⟩
    have hT2 : h''.get? s.heap.objs.size = some { cls := .type "tuple", data := .seq #[u1, u2] } := (sb.2 _ (Nat.ne_of_gt zl)).trans hT
    have new : ObjOk X.prog X.w (upd H s.heap.objs.size (.tup [x1, x2])) h'' s.heap.objs.size (.tup [x1, x2]) := ⟨by show 2 ≤ sizeLine; decide, [u1, u2], .cons g1 (.cons g2 .nil), ⟨_, hT2, rfl, _, rfl⟩⟩
    have I1 : Inv X pins σ (upd H s.heap.objs.size (.tup [x1, x2])) { s with heap := h'', toks := tk } :=
      I.turnedNew (ch := [z, TI, TO, i1, i2]) (fun c o hb q => (sb.2 c (fun z => hb (by simp [z]))).trans (hk c o (fun z => hb (by simp [z])) (fun z => hb (by simp [z])) (fun z => hb (by simp [z])) (fun z => hb (by simp [z])) q)) hf (Nat.le_refl _) new
    refine ⟨.ref s.heap.objs.size, _, I1, rfl, ⟨_, x1, x2, rfl, I.hok.fresh (Nat.le_refl _), rfl, fun l hl => by rw [Sr.inj I hl h1]; exact e1, fun l hl => by rw [Sr.inj I hl h2]; exact e2⟩, ⟨z'', ?_, ⟨u1, u2, ?_⟩, ?_, ?_⟩, fun c hcm => ?_⟩
    · exact (sb.2 _ D.TIz).trans (hk _ _ D.TIz D.TITO D.TIi1 D.TIi2 hTI)
    · exact (sb.2 _ D.TOz).trans TO'
    · exact b1 _ _ (D1.over q1 sb D.zf1)
    · exact b2 _ _ (D2.over q2 sb D.zf2)
    · have lt : c < s.heap.objs.size := by
        have q : c = z ∨ c = TI ∨ c = TO ∨ c = i1 ∨ c = i2 := by simpa using hcm
        rcases q with q | q | q | q | q
        · rw [q]; exact zl
        · rw [q]; exact Heap.lt_size hTI
        · rw [q]; exact Heap.lt_size hTO
        · rw [q]; obtain ⟨_, z, _⟩ := Sr.cell s1; exact Heap.lt_size z
        · rw [q]; obtain ⟨_, z, _⟩ := Sr.cell s2; exact Heap.lt_size z
      rw [upd_ne (Nat.ne_of_lt lt)]
      exact (hf c hcm).1
  done := by
    intro X hP hw hK hc i pins s σ H E I hf st hg
    subst hP hw hK
    obtain ⟨hz, hTI, ⟨y1, y2, hTO⟩, s1, s2⟩ := st
    obtain ⟨l1, l2, h1, h2, e1, e2, he⟩ := hg
    obtain ⟨P1, S1, D1, a1, b1, c1⟩ := Sr.draws hc I h1 i1 t1 o1
    obtain ⟨P2, S2, D2, a2, b2, c2⟩ := Sr.draws hc I h2 i2 t2 o2
    exact wpAny_pyNext_zipD2_end D D1 D2 hz hTI hTO (a1 _ s1) (a2 _ s2) e1 e2 he fun h' tk hk => ⟨rfl, I.turnedL (t' := tk) (ch := [z, TI, TO, i1, i2]) (fun c o hb q => hk c o (fun z => hb (by simp [z])) (fun z => hb (by simp [z])) (fun z => hb (by simp [z])) (fun z => hb (by simp [z])) q) hf⟩
  self := fun A i s Q E st h => wpAny_pyIter_zip st.1 h
def iZ2 (K : PySem.W.Frag) (ta : TA) : TI := fun σ H R => ta σ H fun vs H1 => ∃ (r1 : Sr) (r2 : Sr) (l1 : List V) (l2 : List V), vs = [r1.val, r2.val] ∧ r1.has K H1 l1 ∧ r2.has K H1 l2 ∧ R (Iz2 K r1 r2) H1
theorem pi_z2 {X : Cx} {e1 e2 : Expr} {ta : TA} {p pos tpos : Pos} {elts : List Expr} {kk : Nat} (hg : Gl X "zip") (hm : X.mg "zip" = none) (ha : PA X [e1, e2] ta)
    (hs : starEach [e1, e2] X.env = (false, eval e1 X.env) :: starEach [e2] X.env := by rfl) (hpl : (backTo pos (starEach [e2] X.env)).any (·.1) = false := by rfl) :
    PI X (.Tuple elts kk tpos) (.Call (.Name "zip" p) [e1, e2] [] pos) (iZ2 X.K ta) := by
  refine ⟨fun pins s σ H R I h => ?_⟩
  refine Call_ (ld_blt I hg hm PyProof.Rows.boot_zip (PyProof.Rows.callWith_type1 (thn (ha.run pos pins s σ H _ I h) fun us s1 ⟨vs, H1, I1, rr, q1⟩ => ?_) hs hpl))
  obtain ⟨r1, r2, l1, l2, ex, h1, h2, q⟩ := q1
  subst ex
  cases rr with
  | cons v1 rr =>
  cases rr with
  | cons v2 rr =>
  cases rr
  obtain ⟨t1, Hb1, B1, b1⟩ := Sr.begins I1 h1 v1
  obtain ⟨t2, Hb2, B2, b2⟩ := Sr.begins I1 h2 v2
  have lt1 := Sr.below I1 h1
  have lt2 := Sr.below I1 h2
  refine zip_begins2 B1 B2 b1 b2 fun h' hz hTI hTO g1 g2 hsz hk => wpAny_pyIter_zip hz ?_
  have I2 : Inv X pins σ H1 { s1 with heap := h' } := I1.kept (t' := s1.toks) hk
  have far : ∀ (r : Sr), r.lt s1.heap.objs.size → ∀ (it c : Nat), s1.heap.objs.size ≤ c → c ≠ it → c ∉ r.fp it := fun r hr it c hc ne hm => by
    rcases Sr.fp_of hm _ hr with z | z
    · exact ne z
    · exact absurd (Nat.lt_of_lt_of_le z hc) (Nat.lt_irrefl _)
  have off : ∀ (r : Sr), r.lt s1.heap.objs.size → ∀ (it : Nat), s1.heap.objs.size ≤ it → r.off it := fun r hr it hc => by
    cases r with
    | L a => exact Nat.ne_of_lt (Nat.lt_of_lt_of_le hr hc)
    | T a => exact Nat.ne_of_lt (Nat.lt_of_lt_of_le hr hc)
    | S x => trivial
  have le : ∀ j, s1.heap.objs.size ≤ s1.heap.objs.size + j := fun j => Nat.le_add_right _ _
  have ne : ∀ (i j : Nat), i ≠ j → s1.heap.objs.size + i ≠ s1.heap.objs.size + j := fun i j h e => h (Nat.add_left_cancel e)
  have D : ZipSep2 (s1.heap.objs.size + 4) (s1.heap.objs.size + 2) (s1.heap.objs.size + 3) (s1.heap.objs.size + 0) (s1.heap.objs.size + 1) (r1.fp (s1.heap.objs.size + 0)) (r2.fp (s1.heap.objs.size + 1)) := ⟨(ne 2 4 (by decide)), (ne 3 4 (by decide)), (ne 2 3 (by decide)), (ne 2 0 (by decide)), (Sr.mem _ _), (far _ lt1 _ _ (le _) (ne 4 0 (by decide))), (far _ lt1 _ _ (le _) (ne 3 0 (by decide))), (ne 2 1 (by decide)), (Sr.mem _ _), (far _ lt2 _ _ (le _) (ne 4 1 (by decide))), (far _ lt2 _ _ (le _) (ne 3 1 (by decide))), (far _ lt2 _ _ (le _) (ne 0 1 (by decide))), (far _ lt1 _ _ (le _) (ne 1 0 (by decide)))⟩
  refine ⟨(s1.heap.objs.size + 4), [s1.heap.objs.size + 4, s1.heap.objs.size + 2, s1.heap.objs.size + 3, s1.heap.objs.size + 0, s1.heap.objs.size + 1], _, _, H1, rfl, I2, turn_z2 t1 t2 D (off _ lt1 _ (le _)) (off _ lt2 _ (le _)), ⟨hz, hTI, ⟨_, _, hTO⟩, Sr.start g1, Sr.start g2⟩, fun c hcm => ?_, q⟩
  have hle : s1.heap.objs.size ≤ c := by
    simp only [List.mem_cons, List.not_mem_nil, or_false] at hcm
    rcases hcm with z | z | z | z | z <;> rw [z] <;> exact le _
  exact I1.fpOk hle (I1.hok.fresh hle)
end Mp
namespace Mp
open PySem PySem.Spec PyProof.Rows L2
theorem reps_chars {K : PySem.W.Frag} {G : Gs} {γ : Ga} {H : Hp} : ∀ {l : List Nat}, (∀ c ∈ l, c < 0x110000) → Reps K G γ H (l.map fun c => W.str [c]) (l.map fun c => V.str ⟨#[c]⟩)
  | [], _ => .nil
  | c :: r, h => .cons (.str [c] (fun d hd => by
      rw [List.mem_singleton.mp hd]
      exact h c (List.mem_cons_self ..)) (by rw [sizeLine_eq]; show 1 ≤ 16777216; decide)) (reps_chars fun d hd => h d (List.mem_cons_of_mem _ hd))
theorem sr_of {K : PySem.W.Frag} {G : Gs} {γ : Ga} {H : Hp} {w : W} {v : V} {xs : List W} (h : seqI w = some xs) (r : Rep K G γ H w v) : ∃ (c : Sr) (vs : List V), v = c.val ∧ (∀ {γ' H'}, ExtW γ H γ' H' → c.has K H' vs) ∧ Reps K G γ H xs vs := by
  cases r with
  | tup h1 q => cases h; exact ⟨.T _, _, rfl, fun e => (h1.monoW e).sq, q⟩
  | lst h1 o1 q => cases h; exact ⟨.L _, _, rfl, fun e => .inl (e.rd (.inl h1) o1).1, q⟩
  | scr h1 q => cases h; exact ⟨.L _, _, rfl, fun e => (h1.monoW e).sq, q⟩
  | str l h1 h2 => cases h; exact ⟨.S _, _, rfl, fun e => rfl, reps_chars h1⟩
  | _ => cases h
def tupsW2 (xs ys : List W) : List W := pairsW xs ys
theorem tupsW2_get {xs ys : List W} {i : Nat} {w : W} (h : (tupsW2 xs ys)[i]? = some w) : ∃ a b, xs[i]? = some a ∧ ys[i]? = some b ∧ w = .tup [a, b] := pairsW_get h
theorem tupsW2_len {xs ys : List W} : (tupsW2 xs ys).length = min xs.length ys.length := pairsW_len
def zipG2 : List W → Option (List W)
  | [w1, w2] => (match seqI w1, seqI w2 with
    | some x1, some x2 => some (tupsW2 x1 x2)
    | _, _ => none)
  | _ => none
theorem itOk_z2 {K : PySem.W.Frag} {G : Gs} {γ : Ga} {H : Hp} {r1 r2 : Sr} {x1 x2 : List W} {v1 v2 : List V} (s1 : ∀ {γ' H'}, ExtW γ H γ' H' → r1.has K H' v1) (s2 : ∀ {γ' H'}, ExtW γ H γ' H' → r2.has K H' v2) (q1 : Reps K G γ H x1 v1) (q2 : Reps K G γ H x2 v2) : ItOk K G (Iz2 K r1 r2) (tupsW2 x1 x2) γ H := by
  have n1 := q1.length
  have n2 := q2.length
  refine ⟨fun i γ' H' S hi e _ => ?_, fun γ' H' S e _ => ⟨v1, v2, s1 e, s2 e, ?_⟩, fun i w γ' H' S x H'' hw e s y => ?_⟩
  · rw [tupsW2_len] at hi
    have l1 : i < v1.length := by omega
    have l2 : i < v2.length := by omega
    exact ⟨v1, v2, v1[i], v2[i], s1 e, s2 e, List.getElem?_eq_getElem l1, List.getElem?_eq_getElem l2⟩
  · rw [tupsW2_len]
    omega
  · obtain ⟨T, u1, u2, rfl, hT, rfl, h1, h2⟩ := y
    obtain ⟨p1, p2, g1, g2, rfl⟩ := tupsW2_get hw
    obtain ⟨z1, a1, b1⟩ := q1.get g1
    have c1 := h1 _ (s1 e)
    rw [a1] at c1
    cases c1
    obtain ⟨z2, a2, b2⟩ := q2.get g2
    have c2 := h2 _ (s2 e)
    rw [a2] at c2
    cases c2
    exact ⟨Ext.upd s hT, s.upd hT, .tup (.inl ⟨.inl upd_same, s.fresh hT⟩) (.cons ((b1.monoW e).mono (Ext.upd s hT)) (.cons ((b2.monoW e).mono (Ext.upd s hT)) .nil))⟩
theorem si_zip2 {X : Cx} {G : Gs} {e1 e2 : Expr} {pos p tpos : Pos} {ga : MA} {elts : List Expr} {kk : Nat} (hm : X.mg "zip" = none) (ha : SA X G [e1, e2] ga) (hg : Gl X "zip" := by rfl)
    (hs : starEach [e1, e2] X.env = (false, eval e1 X.env) :: starEach [e2] X.env := by rfl) (hpl : (backTo pos (starEach [e2] X.env)).any (·.1) = false := by rfl) :
    SI X G (.Tuple elts kk tpos) (.Call (.Name "zip" p) [e1, e2] [] pos) (miAll zipG2 ga) := by
  refine ⟨fun Wi tk => (pi_z2 hg hm (ha.run Wi tk) hs hpl).imp ?_⟩
  rintro σ H R ⟨η, S, γ, he, hs, q⟩
  refine ⟨η, S, γ, he, hs, (PostI.seq q).imp fun x H1 ⟨wx, S1, γ1, e1, r1, s1, q1⟩ => ?_⟩
  unfold zipG2 at q1
  split at q1
  · split at q1
    · rename_i f1 f2
      cases r1 with
      | cons t1 r1 =>
      cases r1 with
      | cons t2 r1 =>
      cases r1
      obtain ⟨c1, vs1, g1, s1', q1'⟩ := sr_of f1 t1
      obtain ⟨c2, vs2, g2, s2', q2'⟩ := sr_of f2 t2
      subst g1
      subst g2
      exact ⟨c1, c2, vs1, vs2, rfl, s1' Ext.refl.w, s2' Ext.refl.w, q1 _ γ1 H1 Ext.refl s1 (itOk_z2 s1' s2' q1' q2')⟩
    · exact q1.elim
  · exact q1.elim
def tupsW3 (xs ys zs : List W) : List W := (xs.zip (ys.zip zs)).map fun p => W.tup [p.1, p.2.1, p.2.2]
theorem tupsW3_get {xs ys zs : List W} {i : Nat} {w : W} (h : (tupsW3 xs ys zs)[i]? = some w) : ∃ a b c, xs[i]? = some a ∧ ys[i]? = some b ∧ zs[i]? = some c ∧ w = .tup [a, b, c] := by
  unfold tupsW3 at h
  rw [List.getElem?_map] at h
  cases e : (xs.zip (ys.zip zs))[i]? with
  | none => rw [e] at h; cases h
  | some p =>
    rw [e] at h
    cases h
    rw [List.getElem?_zip_eq_some] at e
    have e2 := e.2
    rw [List.getElem?_zip_eq_some] at e2
    exact ⟨_, _, _, e.1, e2.1, e2.2, rfl⟩
theorem tupsW3_len {xs ys zs : List W} : (tupsW3 xs ys zs).length = min xs.length (min ys.length zs.length) := by
  unfold tupsW3
  rw [List.length_map, List.length_zip, List.length_zip]
end Mp
namespace PySem
open Sem (wp)
section
variable {prog : Program} {w : World} {A : Around} {E : Value → Shared → Prop} {s : Shared} {z TI TO T i1 i2 i3 : Addr} {fp1 fp2 fp3 : List Addr} {n1 n2 n3 i : Nat} {P1 P2 P3 : Nat → Value → Prop} {St1 St2 St3 : Nat → Heap → Prop}
theorem zipH3_next_item {f : Bool} {oT : Obj} {Q : Value → Shared → Prop} (S : ZipSep3 z TI TO i1 i2 i3 fp1 fp2 fp3) (D1 : Draws prog w A i1 fp1 n1 P1 St1) (D2 : Draws prog w A i2 fp2 n2 P2 St2) (D3 : Draws prog w A i3 fp3 n3 P3 St3)
    (hz : IsZipHeld s.heap z TI TO T f) (hT : s.heap.get? T = some oT) (hTI : IsTupOf3 s.heap TI (.ref i1) (.ref i2) (.ref i3)) (st1 : St1 i s.heap) (st2 : St2 i s.heap) (st3 : St3 i s.heap) (hlt1 : i < n1) (hlt2 : i < n2) (hlt3 : i < n3)
    (hQ : ∀ x1 x2 x3 h' tk, P1 i x1 → P2 i x2 → P3 i x3 → IsZipHeld h' z TI TO T true → St1 (i + 1) h' → St2 (i + 1) h' → St3 (i + 1) h' → IsTupOf3 h' s.heap.objs.size x1 x2 x3 → h'.objs.size = s.heap.objs.size + 1 →
      (∀ c o, c ≠ z → c ≠ i1 → c ≠ i2 → c ≠ i3 → s.heap.get? c = some o → h'.get? c = some o) → Q (.ref s.heap.objs.size) { s with heap := h', toks := tk }) :
    wpAny (model prog w) A (Builtin.«zip.__next__» ⟨[.ref z], []⟩) (fun fin s' => ∃ v, fin = .done (.ret v) ∧ Q v s') E s := by
  obtain ⟨hp, g, d, tk0, os⟩ := s
  show wpAny _ _ (field (.ref z) 2 >>= _) _ _ _
  refine wpAny_bind (wpAny_field hz rfl (x := .bool false) rfl ?_)
  show wpAny _ _ (field (.ref z) 3 >>= _) _ _ _
  refine wpAny_bind (wpAny_field hz rfl (x := .ref TI) rfl ?_)
  refine wpAny_bind (wpAny_seqItems hTI rfl ?_)
  show wpAny _ _ (Builtin.SmallTypes.ownedTupleIsFree (.ref z) >>= _) _ _ _
  refine wpAny_bind (wpAny_tupleHeld_zip hz hT fun g0 hz0 hs0 => ?_)
  replace hs0 : Heap.SameBut z hp g0 := hs0
  simp only [Bool.false_eq_true, if_false]
  refine wpAny_bind ?_
  rw [← Array.forIn_toList]
  simp only [List.forIn_cons, List.forIn_nil]
  refine wpAny_bind (wpAny_bind (wpAny_holding ?_))
  show wpAny _ _ (Builtin.SmallTypes.nextOf (.ref i1) >>= _) _ _ ⟨g0, g, d, tk0, os⟩
  refine wpAny_bind (D1.item i _ _ _ hlt1 (D1.over st1 hs0 S.zf1) fun x1 p1 tk1 hx1 sn1 hp1 => wpAny_pure ?_)
  replace hp1 : Heap.SameBut i1 g0 p1 := hp1
  refine wpAny_pure ?_
  refine wpAny_bind (wpAny_bind (wpAny_holding ?_))
  show wpAny _ _ (Builtin.SmallTypes.nextOf (.ref i2) >>= _) _ _ ⟨p1, g, d, tk1, os⟩
  refine wpAny_bind (D2.item i _ _ _ hlt2 (D2.over (D2.over st2 hs0 S.zf2) hp1 S.sep1_2) fun x2 p2 tk2 hx2 sn2 hp2 => wpAny_pure ?_)
  replace hp2 : Heap.SameBut i2 p1 p2 := hp2
  refine wpAny_pure ?_
  refine wpAny_bind (wpAny_bind (wpAny_holding ?_))
  show wpAny _ _ (Builtin.SmallTypes.nextOf (.ref i3) >>= _) _ _ ⟨p2, g, d, tk2, os⟩
  refine wpAny_bind (D3.item i _ _ _ hlt3 (D3.over (D3.over (D3.over st3 hs0 S.zf3) hp1 S.sep1_3) hp2 S.sep2_3) fun x3 p3 tk3 hx3 sn3 hp3 => wpAny_pure ?_)
  replace hp3 : Heap.SameBut i3 p2 p3 := hp3
  refine wpAny_pure (wpAny_pure ?_)
  show wpAny _ _ (newTuple [x1, x2, x3] >>= _) _ _ ⟨p3, g, d, tk3, os⟩
  refine wpAny_bind (wpAny_newTuple ?_)
  have hsz : p3.objs.size = hp.objs.size := by rw [hp3.1, hp2.1, hp1.1, hs0.1]
  have hz3 : IsZipHeld p3 z TI TO T true := hp3.extBut _ _ S.zi3 (hp2.extBut _ _ S.zi2 (hp1.extBut _ _ S.zi1 hz0))
  have hk : ∀ c o, c ≠ z → c ≠ i1 → c ≠ i2 → c ≠ i3 → hp.get? c = some o → p3.get? c = some o := fun c o c0 c1 c2 c3 e => hp3.extBut _ _ c3 (hp2.extBut _ _ c2 (hp1.extBut _ _ c1 (hs0.extBut _ _ c0 e)))
  have hj1 : St1 (i + 1) p3 := D1.over (D1.over sn1 hp2 S.sep2_1) hp3 S.sep3_1
  have hj2 : St2 (i + 1) p3 := D2.over sn2 hp3 S.sep3_2
  refine wpAny_pure ⟨_, rfl, ?_⟩
  show Q (.ref p3.objs.size) ⟨p3.push { cls := .type "tuple", data := .seq #[x1, x2, x3] }, g, d, tk3, os⟩
  have ht : IsTupOf3 (p3.push { cls := .type "tuple", data := .seq #[x1, x2, x3] }) p3.objs.size x1 x2 x3 := Heap.get?_push_size _ rfl
  have hz4 : (p3.push { cls := .type "tuple", data := .seq #[x1, x2, x3] }).objs.size = p3.objs.size + 1 := Heap.size_push ..
  rw [hsz] at ht hz4 ⊢
  exact hQ x1 x2 x3 _ tk3 hx1 hx2 hx3 (Heap.get?_push_of_some _ hz3) (D1.frame _ _ _ hj1 fun b hb o e => Heap.get?_push_of_some _ e) (D2.frame _ _ _ hj2 fun b hb o e => Heap.get?_push_of_some _ e) (D3.frame _ _ _ sn3 fun b hb o e => Heap.get?_push_of_some _ e) ht hz4 fun c o c0 c1 c2 c3 e => Heap.get?_push_of_some _ (hk c o c0 c1 c2 c3 e)
/-- next(z), whatever calls it -/
theorem zipN_nextOf {Q : Value → Shared → Prop} (hT : s.TypeIs (.ref z) "zip") (h : wpAny (model prog w) A.in1 (Builtin.«zip.__next__» ⟨[.ref z], []⟩) (fun fin s' => ∃ v, fin = .done (.ret v) ∧ Q v s') E s) : wpAny (model prog w) A (Builtin.SmallTypes.nextOf (.ref z)) Q E s := by
  unfold Builtin.SmallTypes.nextOf
  refine wpAny_bind (wpAny_callSpecial?_slot (name := Str.ofString "__next__") hT F.slot_zip_next (wpAny_call_entry F.slot_zip_next hT F.entry_zip_next (L2.thn h ?_) (F.args_zip_next_1 _)))
  rintro fin s' ⟨v, e, q⟩
  exact ⟨v, e, wpAny_pure q⟩
/-- enumerate's next over whatever can be asked for its next -/
theorem enumerate_next_G {e it : Addr} {i : Nat} {old : Value} {Q : Value → Shared → Prop} (he : IsEnum s.heap e it i old) (R : Value → Heap → Prop)
    (hn : ∀ (Q' : Value → Shared → Prop), (∀ x h₁ tk, R x h₁ → IsEnum h₁ e it i old → Q' x { s with heap := h₁, toks := tk }) → wpAny (model prog w) A (Builtin.SmallTypes.nextOf (.ref it)) Q' E s)
    (hQ : ∀ x h₁ h' tk, R x h₁ → IsEnum h₁ e it i old → IsEnumOut h' e it ((i : Int) + 1) x h₁.objs.size → h'.get? h₁.objs.size = some { cls := .type "tuple", data := .seq #[.int i tk, x] } → h'.objs.size = h₁.objs.size + 1 →
      (∀ b o, b ≠ e → h₁.get? b = some o → h'.get? b = some o) → Q (.ref h₁.objs.size) { s with heap := h', toks := tk + 1 }) :
    wpAny (model prog w) A (Builtin.«enumerate.__next__» ⟨[.ref e], []⟩) (fun fin s' => ∃ v, fin = .done (.ret v) ∧ Q v s') E s := by
  obtain ⟨hp, g, d, tk₀, os⟩ := s
  show wpAny _ _ (field (.ref e) 2 >>= _) _ _ _
  refine wpAny_bind (wpAny_field he rfl (x := .ref it) rfl ?_)
  refine wpAny_bind (hn _ fun x h₁ tk hR he₁ => ?_)
  show wpAny _ _ (field (.ref e) 3 >>= _) _ _ ⟨h₁, g, d, tk, os⟩
  refine wpAny_bind (wpAny_field he₁ rfl (x := rawInt i) rfl ?_)
  show wpAny _ _ (field (.ref e) 4 >>= _) _ _ ⟨h₁, g, d, tk, os⟩
  refine wpAny_bind (wpAny_field he₁ rfl (x := .none) rfl ?_)
  show wpAny _ _ (mkInt i >>= _) _ _ ⟨h₁, g, d, tk, os⟩
  refine wpAny_bind (wpAny_mkInt ?_)
  show wpAny _ _ (setField (.ref e) 3 (rawInt ((i : Int) + 1)) >>= _) _ _ ⟨h₁, g, d, tk + 1, os⟩
  refine wpAny_bind (wpAny_setField_rec he₁ (by simp) fun h₂ he₂ hs₂ => ?_)
  replace hs₂ : Heap.SameBut e h₁ h₂ := hs₂
  replace he₂ : IsEnum h₂ e it ((i : Int) + 1) old := he₂
  show wpAny _ _ (setField (.ref e) 4 .none >>= _) _ _ ⟨h₂, g, d, tk + 1, os⟩
  refine wpAny_bind (wpAny_setField_rec he₂ (by simp) fun h₃ he₃ hs₃ => ?_)
  replace hs₃ : Heap.SameBut e h₂ h₃ := hs₃
  replace he₃ : IsEnum h₃ e it ((i : Int) + 1) old := he₃
  show wpAny _ _ (newTuple [.int i tk, x] >>= _) _ _ ⟨h₃, g, d, tk + 1, os⟩
  refine wpAny_bind (wpAny_newTuple ?_)
  have he₄ : IsEnum (h₃.push { cls := .type "tuple", data := .seq #[.int i tk, x] }) e it ((i : Int) + 1) old := Heap.get?_push_of_some _ he₃
  generalize hh₄ : h₃.push { cls := .type "tuple", data := .seq #[.int i tk, x] } = h₄ at he₄
  have hsz : h₃.objs.size = h₁.objs.size := by rw [hs₃.1, hs₂.1]
  have hel : e < h₁.objs.size := Heap.lt_size he₁
  have ht₄ : h₄.get? h₁.objs.size = some { cls := .type "tuple", data := .seq #[.int i tk, x] } := by rw [← hh₄, ← hsz]; exact Heap.get?_push_size _ rfl
  have hz₄ : h₄.objs.size = h₁.objs.size + 1 := by rw [← hh₄, Heap.size_push, hsz]
  have hk₄ : ∀ b o, b ≠ e → h₁.get? b = some o → h₄.get? b = some o := fun b o hbe hb => by
    rw [← hh₄]; exact Heap.get?_push_of_some _ (hs₃.extBut b o hbe (hs₂.extBut b o hbe hb))
  show wpAny _ _ (Builtin.SmallTypes.ownedTupleIsFree (.ref e) >>= _) _ _ ⟨h₄, g, d, tk + 1, os⟩
  rw [hsz]
  refine wpAny_bind ?_
  · unfold Builtin.SmallTypes.ownedTupleIsFree
    refine wpAny_bind (wpAny_field he₄ rfl (x := .none) rfl (wpAny_pure ?_))
    simp only [if_true]
    refine wpAny_bind (wpAny_rule ?_)
    refine wpAny_bind (wpAny_field he₄ rfl (x := old) rfl ?_)
    refine wpAny_bind (wpAny_setField_rec he₄ (by simp) fun h₅ he₅ hs₅ => ?_)
    replace hs₅ : Heap.SameBut e h₄ h₅ := hs₅
    replace he₅ : IsEnum h₅ e it ((i : Int) + 1) x := he₅
    show wpAny _ _ (Builtin.SmallTypes.ownedTupleHandOut (.ref e) (.ref h₁.objs.size) >>= _) _ _ ⟨h₅, g, d, tk + 1, os⟩
    refine wpAny_bind ?_
    · unfold Builtin.SmallTypes.ownedTupleHandOut
      refine wpAny_bind (wpAny_setField_rec he₅ (by simp) fun h₆ he₆ hs₆ => ?_)
      replace hs₆ : Heap.SameBut e h₅ h₆ := hs₆
      replace he₆ : IsEnumOut h₆ e it ((i : Int) + 1) x h₁.objs.size := he₆
      refine wpAny_setField_rec he₆ (by simp) fun h₇ he₇ hs₇ => ?_
      replace hs₇ : Heap.SameBut e h₆ h₇ := hs₇
      replace he₇ : IsEnumOut h₇ e it ((i : Int) + 1) x h₁.objs.size := he₇
      refine wpAny_bind (wpAny_letGo (wpAny_pure ⟨_, rfl, hQ x h₁ h₇ tk hR he₁ he₇ ?_ ?_ ?_⟩))
      · exact hs₇.extBut _ _ (Nat.ne_of_gt hel) (hs₆.extBut _ _ (Nat.ne_of_gt hel) (hs₅.extBut _ _ (Nat.ne_of_gt hel) ht₄))
      · rw [hs₇.1, hs₆.1, hs₅.1, hz₄]
      · exact fun b o hbe hb => hs₇.extBut b o hbe (hs₆.extBut b o hbe (hs₅.extBut b o hbe (hk₄ b o hbe hb)))
theorem zipH3_next_end {f : Bool} {oT : Obj} {Q : Fin → Shared → Prop} (S : ZipSep3 z TI TO i1 i2 i3 fp1 fp2 fp3) (D1 : Draws prog w A i1 fp1 n1 P1 St1)
    (hz : IsZipHeld s.heap z TI TO T f) (hT : s.heap.get? T = some oT) (hTI : IsTupOf3 s.heap TI (.ref i1) (.ref i2) (.ref i3)) (st1 : St1 n1 s.heap)
    (hE : ∀ h' e, (∀ c o, c ≠ z → c ≠ i1 → s.heap.get? c = some o → h'.get? c = some o) → (∃ o, h'.get? e = some o ∧ o.cls = .type "StopIteration") → E (.ref e) { s with heap := h' }) :
    wpAny (model prog w) A (Builtin.«zip.__next__» ⟨[.ref z], []⟩) Q E s := by
  obtain ⟨hp, g, d, tk0, os⟩ := s
  show wpAny _ _ (field (.ref z) 2 >>= _) _ _ _
  refine wpAny_bind (wpAny_field hz rfl (x := .bool false) rfl ?_)
  show wpAny _ _ (field (.ref z) 3 >>= _) _ _ _
  refine wpAny_bind (wpAny_field hz rfl (x := .ref TI) rfl ?_)
  refine wpAny_bind (wpAny_seqItems hTI rfl ?_)
  show wpAny _ _ (Builtin.SmallTypes.ownedTupleIsFree (.ref z) >>= _) _ _ _
  refine wpAny_bind (wpAny_tupleHeld_zip hz hT fun g0 hz0 hs0 => ?_)
  replace hs0 : Heap.SameBut z hp g0 := hs0
  simp only [Bool.false_eq_true, if_false]
  refine wpAny_bind ?_
  rw [← Array.forIn_toList]
  simp only [List.forIn_cons, List.forIn_nil]
  refine wpAny_bind (wpAny_bind (wpAny_holding ?_))
  show wpAny _ _ (Builtin.SmallTypes.nextOf (.ref i1) >>= _) _ _ ⟨g0, g, d, tk0, os⟩
  refine wpAny_bind (D1.done _ _ _ (D1.over st1 hs0 S.zf1) fun h' e he' hx' => ?_)
  exact hE h' e (fun c o c0 c1 q => he' _ _ c1 (hs0.extBut _ _ c0 q)) hx'
abbrev IsZipF (h : Heap) (z TI TO : Addr) (f0 : Value) (f : Bool) : Prop :=
  h.get? z = some { cls := .type "zip", dict := none, data := .fields #[f0, .bool f, .bool false, .ref TI, .ref TO], slots := #[] }
theorem alive_none {a : Addr} {Q : Option Obj → Shared → Prop} (ho : s.heap.get? a = none) (h : Q none s) : wpAny (model prog w) A (loadIfAlive a) Q E s := by
  have h' : Q (s.heap.get? a) s := by rw [ho]; exact h
  exact fun _ _ _ => h'
theorem zipF3_next_item {a1 a2 a3 : Value} {f : Bool} {Q : Value → Shared → Prop} (S : ZipSep3 z TI TO i1 i2 i3 fp1 fp2 fp3) (D1 : Draws prog w A i1 fp1 n1 P1 St1) (D2 : Draws prog w A i2 fp2 n2 P2 St2) (D3 : Draws prog w A i3 fp3 n3 P3 St3)
    (hz : IsZipHeld s.heap z TI TO T f) (hD : s.heap.get? T = none) (hTI : IsTupOf3 s.heap TI (.ref i1) (.ref i2) (.ref i3)) (hTO : IsTupOf3 s.heap TO a1 a2 a3) (st1 : St1 i s.heap) (st2 : St2 i s.heap) (st3 : St3 i s.heap) (hlt1 : i < n1) (hlt2 : i < n2) (hlt3 : i < n3)
    (hQ : ∀ x1 x2 x3 h' tk, P1 i x1 → P2 i x2 → P3 i x3 → IsZip h' z TI TO (rawInt s.heap.objs.size) → IsTupOf3 h' TO x1 x2 x3 → St1 (i + 1) h' → St2 (i + 1) h' → St3 (i + 1) h' → IsTupOf3 h' s.heap.objs.size x1 x2 x3 → h'.objs.size = s.heap.objs.size + 1 →
      (∀ c o, c ≠ z → c ≠ TO → c ≠ i1 → c ≠ i2 → c ≠ i3 → s.heap.get? c = some o → h'.get? c = some o) → Q (.ref s.heap.objs.size) { s with heap := h', toks := tk }) :
    wpAny (model prog w) A (Builtin.«zip.__next__» ⟨[.ref z], []⟩) (fun fin s' => ∃ v, fin = .done (.ret v) ∧ Q v s') E s := by
  obtain ⟨hp, g, d, tk0, os⟩ := s
  show wpAny _ _ (field (.ref z) 2 >>= _) _ _ _
  refine wpAny_bind (wpAny_field hz rfl (x := .bool false) rfl ?_)
  show wpAny _ _ (field (.ref z) 3 >>= _) _ _ _
  refine wpAny_bind (wpAny_field hz rfl (x := .ref TI) rfl ?_)
  refine wpAny_bind (wpAny_seqItems hTI rfl ?_)
  show wpAny _ _ (Builtin.SmallTypes.ownedTupleIsFree (.ref z) >>= _) _ _ _
  refine wpAny_bind ?_
  unfold Builtin.SmallTypes.ownedTupleIsFree
  refine wpAny_bind (wpAny_field hz rfl (x := rawInt T) rfl ?_)
  show wpAny _ _ (loadIfAlive ((T : Int).toNat) >>= _) _ _ _
  rw [Int.toNat_natCast]
  refine wpAny_bind (alive_none hD ?_)
  simp only [Option.isNone_none, if_true]
  refine wpAny_pure ?_
  simp only [if_true]
  refine wpAny_bind (wpAny_rule ?_)
  refine wpAny_bind (wpAny_field hz rfl (x := .ref TO) rfl ?_)
  refine wpAny_bind (wpAny_setField_rec hz (by simp) fun g0 hz0 hs0 => ?_)
  replace hz0 : IsZipF g0 z TI TO .ellipsis f := hz0
  replace hs0 : Heap.SameBut z hp g0 := hs0
  refine wpAny_bind ?_
  simp only [List.zipIdx_cons, List.zipIdx_nil, List.forIn_cons, List.forIn_nil]
  refine wpAny_bind (wpAny_bind (wpAny_onRaise ?_))
  show wpAny _ _ (Builtin.SmallTypes.nextOf (.ref i1) >>= _) _ _ ⟨g0, g, d, tk0, os⟩
  refine wpAny_bind (D1.item i _ _ _ hlt1 (D1.over st1 hs0 S.zf1) fun x1 p1 tk1 hx1 sn1 hp1 => wpAny_pure ?_)
  replace hp1 : Heap.SameBut i1 g0 p1 := hp1
  have hU1 : IsTupOf3 p1 TO a1 a2 a3 := hp1.extBut _ _ S.Ti1 (hs0.extBut _ _ S.TOz hTO)
  refine wpAny_bind (wpAny_seqItems (s := ⟨p1, g, d, tk1, os⟩) hU1 rfl ?_)
  refine wpAny_bind (updateSeq_IsTupOf3 (s := ⟨p1, g, d, tk1, os⟩) hU1 fun g1 hT1 hs1 => ?_)
  replace hT1 : IsTupOf3 g1 TO x1 a2 a3 := hT1
  replace hs1 : Heap.SameBut TO p1 g1 := hs1
  refine wpAny_bind (wpAny_letGo (wpAny_pure ?_))
  refine wpAny_bind (wpAny_bind (wpAny_onRaise ?_))
  show wpAny _ _ (Builtin.SmallTypes.nextOf (.ref i2) >>= _) _ _ ⟨g1, g, d, tk1, os⟩
  refine wpAny_bind (D2.item i _ _ _ hlt2 (D2.over (D2.over (D2.over st2 hs0 S.zf2) hp1 S.sep1_2) hs1 S.Tf2) fun x2 p2 tk2 hx2 sn2 hp2 => wpAny_pure ?_)
  replace hp2 : Heap.SameBut i2 g1 p2 := hp2
  have hU2 : IsTupOf3 p2 TO x1 a2 a3 := hp2.extBut _ _ S.Ti2 hT1
  refine wpAny_bind (wpAny_seqItems (s := ⟨p2, g, d, tk2, os⟩) hU2 rfl ?_)
  refine wpAny_bind (updateSeq_IsTupOf3 (s := ⟨p2, g, d, tk2, os⟩) hU2 fun g2 hT2 hs2 => ?_)
  replace hT2 : IsTupOf3 g2 TO x1 x2 a3 := hT2
  replace hs2 : Heap.SameBut TO p2 g2 := hs2
  refine wpAny_bind (wpAny_letGo (wpAny_pure ?_))
  refine wpAny_bind (wpAny_bind (wpAny_onRaise ?_))
  show wpAny _ _ (Builtin.SmallTypes.nextOf (.ref i3) >>= _) _ _ ⟨g2, g, d, tk2, os⟩
  refine wpAny_bind (D3.item i _ _ _ hlt3 (D3.over (D3.over (D3.over (D3.over (D3.over st3 hs0 S.zf3) hp1 S.sep1_3) hs1 S.Tf3) hp2 S.sep2_3) hs2 S.Tf3) fun x3 p3 tk3 hx3 sn3 hp3 => wpAny_pure ?_)
  replace hp3 : Heap.SameBut i3 g2 p3 := hp3
  have hU3 : IsTupOf3 p3 TO x1 x2 a3 := hp3.extBut _ _ S.Ti3 hT2
  refine wpAny_bind (wpAny_seqItems (s := ⟨p3, g, d, tk3, os⟩) hU3 rfl ?_)
  refine wpAny_bind (updateSeq_IsTupOf3 (s := ⟨p3, g, d, tk3, os⟩) hU3 fun g3 hT3 hs3 => ?_)
  replace hT3 : IsTupOf3 g3 TO x1 x2 x3 := hT3
  replace hs3 : Heap.SameBut TO p3 g3 := hs3
  refine wpAny_bind (wpAny_letGo (wpAny_pure (wpAny_pure ?_)))
  refine wpAny_bind (wpAny_seqItems (s := ⟨g3, g, d, tk3, os⟩) hT3 rfl ?_)
  refine wpAny_bind (wpAny_newTuple ?_)
  have hsz : g3.objs.size = hp.objs.size := by rw [hs3.1, hp3.1, hs2.1, hp2.1, hs1.1, hp1.1, hs0.1]
  have hzz : IsZipF g3 z TI TO .ellipsis f := (hs3.extBut _ _ S.TOz.symm (hp3.extBut _ _ S.zi3 (hs2.extBut _ _ S.TOz.symm (hp2.extBut _ _ S.zi2 (hs1.extBut _ _ S.TOz.symm (hp1.extBut _ _ S.zi1 hz0))))))
  have hkk : ∀ c o, c ≠ z → c ≠ TO → c ≠ i1 → c ≠ i2 → c ≠ i3 → hp.get? c = some o → g3.get? c = some o := fun c o cz cT c1 c2 c3 e =>
    (hs3.extBut _ _ cT (hp3.extBut _ _ c3 (hs2.extBut _ _ cT (hp2.extBut _ _ c2 (hs1.extBut _ _ cT (hp1.extBut _ _ c1 (hs0.extBut _ _ cz e)))))))
  have hj1 : St1 (i + 1) g3 := (D1.over (D1.over (D1.over (D1.over (D1.over sn1 hs1 S.Tf1) hp2 S.sep2_1) hs2 S.Tf1) hp3 S.sep3_1) hs3 S.Tf1)
  have hj2 : St2 (i + 1) g3 := (D2.over (D2.over (D2.over sn2 hs2 S.Tf2) hp3 S.sep3_2) hs3 S.Tf2)
  have hj3 : St3 (i + 1) g3 := (D3.over sn3 hs3 S.Tf3)
  have hzlt : z < g3.objs.size := Heap.lt_size hzz
  show wpAny _ _ (Builtin.SmallTypes.ownedTupleHandOut (.ref z) (.ref g3.objs.size) >>= _) _ _ ⟨g3.push { cls := .type "tuple", data := .seq #[x1, x2, x3] }, g, d, tk3, os⟩
  refine wpAny_bind ?_
  unfold Builtin.SmallTypes.ownedTupleHandOut
  have hz₆ : IsZipF (g3.push { cls := .type "tuple", data := .seq #[x1, x2, x3] }) z TI TO .ellipsis f := Heap.get?_push_of_some _ hzz
  refine wpAny_bind (wpAny_setField_rec hz₆ (by simp) fun h₇ hz₇ hs₇ => ?_)
  replace hz₇ : IsZipF h₇ z TI TO (rawInt g3.objs.size) f := hz₇
  refine wpAny_setField_rec hz₇ (by simp) fun h₈ hz₈ hs₈ => ?_
  replace hz₈ : IsZip h₈ z TI TO (rawInt g3.objs.size) := hz₈
  replace hs₇ : Heap.SameBut z (g3.push { cls := .type "tuple", data := .seq #[x1, x2, x3] }) h₇ := hs₇
  replace hs₈ : Heap.SameBut z h₇ h₈ := hs₈
  have up : ∀ c o, c ≠ z → g3.get? c = some o → h₈.get? c = some o := fun c o c1 e => hs₈.extBut _ _ c1 (hs₇.extBut _ _ c1 (Heap.get?_push_of_some _ e))
  have hT₈ : IsTupOf3 h₈ g3.objs.size x1 x2 x3 := hs₈.extBut _ _ (Nat.ne_of_gt hzlt) (hs₇.extBut _ _ (Nat.ne_of_gt hzlt) (Heap.get?_push_size _ rfl))
  have hz8 : h₈.objs.size = g3.objs.size + 1 := by rw [hs₈.1, hs₇.1, Heap.size_push]
  rw [hsz] at hz₈ hT₈ hz8
  refine wpAny_pure ⟨_, rfl, ?_⟩
  show Q (.ref g3.objs.size) ⟨h₈, g, d, tk3, os⟩
  rw [hsz]
  exact hQ x1 x2 x3 h₈ tk3 hx1 hx2 hx3 hz₈ (up _ _ S.TOz hT3) (D1.frame _ _ _ hj1 fun b hb o e => up b o (fun q => S.zf1 (q ▸ hb)) e) (D2.frame _ _ _ hj2 fun b hb o e => up b o (fun q => S.zf2 (q ▸ hb)) e) (D3.frame _ _ _ hj3 fun b hb o e => up b o (fun q => S.zf3 (q ▸ hb)) e) hT₈ hz8 fun c o cz cT c1 c2 c3 e => up c o cz (hkk c o cz cT c1 c2 c3 e)
theorem zipF3_next_end {a1 a2 a3 : Value} {f : Bool} {Q : Fin → Shared → Prop} (S : ZipSep3 z TI TO i1 i2 i3 fp1 fp2 fp3) (D1 : Draws prog w A i1 fp1 n1 P1 St1)
    (hz : IsZipHeld s.heap z TI TO T f) (hD : s.heap.get? T = none) (hTI : IsTupOf3 s.heap TI (.ref i1) (.ref i2) (.ref i3)) (hTO : IsTupOf3 s.heap TO a1 a2 a3) (st1 : St1 n1 s.heap)
    (hE : ∀ h' e, (∀ c o, c ≠ z → c ≠ i1 → s.heap.get? c = some o → h'.get? c = some o) → (∃ o, h'.get? e = some o ∧ o.cls = .type "StopIteration") → E (.ref e) { s with heap := h' }) :
    wpAny (model prog w) A (Builtin.«zip.__next__» ⟨[.ref z], []⟩) Q E s := by
  obtain ⟨hp, g, d, tk0, os⟩ := s
  show wpAny _ _ (field (.ref z) 2 >>= _) _ _ _
  refine wpAny_bind (wpAny_field hz rfl (x := .bool false) rfl ?_)
  show wpAny _ _ (field (.ref z) 3 >>= _) _ _ _
  refine wpAny_bind (wpAny_field hz rfl (x := .ref TI) rfl ?_)
  refine wpAny_bind (wpAny_seqItems hTI rfl ?_)
  show wpAny _ _ (Builtin.SmallTypes.ownedTupleIsFree (.ref z) >>= _) _ _ _
  refine wpAny_bind ?_
  unfold Builtin.SmallTypes.ownedTupleIsFree
  refine wpAny_bind (wpAny_field hz rfl (x := rawInt T) rfl ?_)
  show wpAny _ _ (loadIfAlive ((T : Int).toNat) >>= _) _ _ _
  rw [Int.toNat_natCast]
  refine wpAny_bind (alive_none hD ?_)
  simp only [Option.isNone_none, if_true]
  refine wpAny_pure ?_
  simp only [if_true]
  refine wpAny_bind (wpAny_rule ?_)
  refine wpAny_bind (wpAny_field hz rfl (x := .ref TO) rfl ?_)
  refine wpAny_bind (wpAny_setField_rec hz (by simp) fun g0 hz0 hs0 => ?_)
  replace hz0 : IsZipF g0 z TI TO .ellipsis f := hz0
  replace hs0 : Heap.SameBut z hp g0 := hs0
  refine wpAny_bind ?_
  simp only [List.zipIdx_cons, List.zipIdx_nil, List.forIn_cons, List.forIn_nil]
  refine wpAny_bind (wpAny_bind (wpAny_onRaise ?_))
  show wpAny _ _ (Builtin.SmallTypes.nextOf (.ref i1) >>= _) _ _ ⟨g0, g, d, tk0, os⟩
  refine wpAny_bind (D1.done _ _ _ (D1.over st1 hs0 S.zf1) fun q e hq hoe => ?_)
  obtain ⟨oe, hoe, hce⟩ := hoe
  replace hoe : q.get? e = some oe := hoe
  have hzq : IsZipF q z TI TO .ellipsis f := hq _ _ S.zi1 hz0
  have hez : e ≠ z := fun x => by subst x; rw [hzq] at hoe; cases hoe; simp at hce
  refine wpAny_setField_rec (s := ⟨q, g, d, tk0, os⟩) hzq (by simp) fun q' _ hq' => ?_
  replace hq' : Heap.SameBut z q q' := hq'
  exact hE q' e (fun c o cz c1 x => hq'.extBut _ _ cz (hq _ _ c1 (hs0.extBut _ _ cz x))) ⟨oe, hq'.extBut _ _ hez hoe, hce⟩
/-- in any state of the tuple given out before -/
theorem zipA3_next_item {a1 a2 a3 : Value} {Q : Value → Shared → Prop} (S : ZipSep3 z TI TO i1 i2 i3 fp1 fp2 fp3) (D1 : Draws prog w A i1 fp1 n1 P1 St1) (D2 : Draws prog w A i2 fp2 n2 P2 St2) (D3 : Draws prog w A i3 fp3 n3 P3 St3)
    (hz : IsZip s.heap z TI TO .none ∨ ∃ T f, IsZipHeld s.heap z TI TO T f) (hTI : IsTupOf3 s.heap TI (.ref i1) (.ref i2) (.ref i3)) (hTO : IsTupOf3 s.heap TO a1 a2 a3) (st1 : St1 i s.heap) (st2 : St2 i s.heap) (st3 : St3 i s.heap) (hlt1 : i < n1) (hlt2 : i < n2) (hlt3 : i < n3)
    (hQ : ∀ x1 x2 x3 h' tk, P1 i x1 → P2 i x2 → P3 i x3 → (∃ T f, IsZipHeld h' z TI TO T f) → (∃ b1 b2 b3, IsTupOf3 h' TO b1 b2 b3) → St1 (i + 1) h' → St2 (i + 1) h' → St3 (i + 1) h' → IsTupOf3 h' s.heap.objs.size x1 x2 x3 → h'.objs.size = s.heap.objs.size + 1 →
      (∀ c o, c ≠ z → c ≠ TO → c ≠ i1 → c ≠ i2 → c ≠ i3 → s.heap.get? c = some o → h'.get? c = some o) → Q (.ref s.heap.objs.size) { s with heap := h', toks := tk }) :
    wpAny (model prog w) A (Builtin.«zip.__next__» ⟨[.ref z], []⟩) (fun fin s' => ∃ v, fin = .done (.ret v) ∧ Q v s') E s := by
  rcases hz with hz | ⟨T, f, hz⟩
  · exact zipD3_next_item S D1 D2 D3 hz hTI hTO st1 st2 st3 hlt1 hlt2 hlt3 fun x1 x2 x3 h' tk p1 p2 p3 z' o' q1 q2 q3 t' sz k => hQ x1 x2 x3 h' tk p1 p2 p3 ⟨_, false, z'⟩ ⟨_, _, _, o'⟩ q1 q2 q3 t' sz k
  · cases hT : s.heap.get? T with
    | none => exact zipF3_next_item S D1 D2 D3 hz hT hTI hTO st1 st2 st3 hlt1 hlt2 hlt3 fun x1 x2 x3 h' tk p1 p2 p3 z' o' q1 q2 q3 t' sz k => hQ x1 x2 x3 h' tk p1 p2 p3 ⟨_, false, z'⟩ ⟨_, _, _, o'⟩ q1 q2 q3 t' sz k
    | some oT => exact zipH3_next_item S D1 D2 D3 hz hT hTI st1 st2 st3 hlt1 hlt2 hlt3 fun x1 x2 x3 h' tk p1 p2 p3 z' q1 q2 q3 t' sz k => hQ x1 x2 x3 h' tk p1 p2 p3 ⟨_, _, z'⟩ ⟨_, _, _, k _ _ S.TOz S.Ti1 S.Ti2 S.Ti3 hTO⟩ q1 q2 q3 t' sz fun c o cz _ c1 c2 c3 e => k c o cz c1 c2 c3 e
theorem zipA3_next_end {a1 a2 a3 : Value} {Q : Fin → Shared → Prop} (S : ZipSep3 z TI TO i1 i2 i3 fp1 fp2 fp3) (D1 : Draws prog w A i1 fp1 n1 P1 St1)
    (hz : ∃ T f, IsZipHeld s.heap z TI TO T f) (hTI : IsTupOf3 s.heap TI (.ref i1) (.ref i2) (.ref i3)) (hTO : IsTupOf3 s.heap TO a1 a2 a3) (st1 : St1 n1 s.heap)
    (hE : ∀ h' e, (∀ c o, c ≠ z → c ≠ i1 → s.heap.get? c = some o → h'.get? c = some o) → (∃ o, h'.get? e = some o ∧ o.cls = .type "StopIteration") → E (.ref e) { s with heap := h' }) :
    wpAny (model prog w) A (Builtin.«zip.__next__» ⟨[.ref z], []⟩) Q E s := by
  obtain ⟨T, f, hz⟩ := hz
  cases hT : s.heap.get? T with
  | none => exact zipF3_next_end S D1 hz hT hTI hTO st1 hE
  | some oT => exact zipH3_next_end S D1 hz hT hTI st1 hE
/-- next of an enumerate over such a zip -/
theorem wpAny_pyNext_enumZ3_item {a1 a2 a3 : Value} {e : Addr} {old : Value} {Q : Option Value → Shared → Prop} (S : ZipSep3 z TI TO i1 i2 i3 fp1 fp2 fp3) (D1 : Draws prog w A.in1.in1 i1 fp1 n1 P1 St1) (D2 : Draws prog w A.in1.in1 i2 fp2 n2 P2 St2) (D3 : Draws prog w A.in1.in1 i3 fp3 n3 P3 St3)
    (he : IsEnum s.heap e z i old) (ne : e ≠ z ∧ e ≠ TO ∧ e ≠ i1 ∧ e ≠ i2 ∧ e ≠ i3) (hz : IsZip s.heap z TI TO .none ∨ ∃ T f, IsZipHeld s.heap z TI TO T f) (hTI : IsTupOf3 s.heap TI (.ref i1) (.ref i2) (.ref i3)) (hTO : IsTupOf3 s.heap TO a1 a2 a3) (st1 : St1 i s.heap) (st2 : St2 i s.heap) (st3 : St3 i s.heap) (hlt1 : i < n1) (hlt2 : i < n2) (hlt3 : i < n3)
    (hQ : ∀ x1 x2 x3 h₁ h' tk, P1 i x1 → P2 i x2 → P3 i x3 → (∃ T f, IsZipHeld h₁ z TI TO T f) → (∃ b1 b2 b3, IsTupOf3 h₁ TO b1 b2 b3) → St1 (i + 1) h₁ → St2 (i + 1) h₁ → St3 (i + 1) h₁ → IsTupOf3 h₁ s.heap.objs.size x1 x2 x3 → h₁.objs.size = s.heap.objs.size + 1 →
      (∀ c o, c ≠ z → c ≠ TO → c ≠ i1 → c ≠ i2 → c ≠ i3 → s.heap.get? c = some o → h₁.get? c = some o) → IsEnumOut h' e z ((i : Int) + 1) (.ref s.heap.objs.size) h₁.objs.size → h'.get? h₁.objs.size = some { cls := .type "tuple", data := .seq #[.int i tk, .ref s.heap.objs.size] } → h'.objs.size = h₁.objs.size + 1 →
      (∀ b o, b ≠ e → h₁.get? b = some o → h'.get? b = some o) → Q (some (.ref h₁.objs.size)) { s with heap := h', toks := tk + 1 }) :
    wpAny (model prog w) A (pyNext (.ref e)) Q E s := by
  have hT : s.TypeIs (.ref e) "enumerate" := ⟨_, he, rfl⟩
  have hTz : s.TypeIs (.ref z) "zip" := by
    rcases hz with q | ⟨T, f, q⟩
    · exact ⟨_, q, rfl⟩
    · exact ⟨_, q, rfl⟩
  unfold pyNext
  refine wpAny_bind (wpAny_attempt (wpAny_callSpecial?_slot (name := Str.ofString "__next__") hT F.slot_enumerate_next
    (wpAny_call_entry F.slot_enumerate_next hT F.entry_enumerate_next
      (enumerate_next_G he (fun v h₁ => ∃ x1 x2 x3, v = .ref s.heap.objs.size ∧ P1 i x1 ∧ P2 i x2 ∧ P3 i x3 ∧ (∃ T f, IsZipHeld h₁ z TI TO T f) ∧ (∃ b1 b2 b3, IsTupOf3 h₁ TO b1 b2 b3) ∧ St1 (i + 1) h₁ ∧ St2 (i + 1) h₁ ∧ St3 (i + 1) h₁ ∧ IsTupOf3 h₁ s.heap.objs.size x1 x2 x3 ∧ h₁.objs.size = s.heap.objs.size + 1 ∧ ∀ c o, c ≠ z → c ≠ TO → c ≠ i1 → c ≠ i2 → c ≠ i3 → s.heap.get? c = some o → h₁.get? c = some o)
        (fun Q' hQ' => zipN_nextOf hTz (zipA3_next_item S D1 D2 D3 hz hTI hTO st1 st2 st3 hlt1 hlt2 hlt3 fun x1 x2 x3 h' tk p1 p2 p3 z' o' q1 q2 q3 t' sz k => hQ' _ h' tk ⟨x1, x2, x3, rfl, p1, p2, p3, z', o', q1, q2, q3, t', sz, k⟩ (k _ _ ne.1 ne.2.1 ne.2.2.1 ne.2.2.2.1 ne.2.2.2.2 he)))
        fun x h₁ h' tk ⟨x1, x2, x3, ev, p1, p2, p3, z', o', q1, q2, q3, t', sz, k⟩ he1 b1 b2 b3 b4 => ?_) (F.args_enumerate_next_1 _))))
  subst ev
  exact wpAny_pure (hQ x1 x2 x3 h₁ h' tk p1 p2 p3 z' o' q1 q2 q3 t' sz k b1 b2 b3 b4)
theorem wpAny_pyNext_enumZ3_end {a1 a2 a3 : Value} {e : Addr} {i : Int} {old : Value} {Q : Option Value → Shared → Prop} (S : ZipSep3 z TI TO i1 i2 i3 fp1 fp2 fp3) (D1 : Draws prog w A.in1.in1 i1 fp1 n1 P1 St1)
    (he : IsEnum s.heap e z i old) (hz : ∃ T f, IsZipHeld s.heap z TI TO T f) (hTI : IsTupOf3 s.heap TI (.ref i1) (.ref i2) (.ref i3)) (hTO : IsTupOf3 s.heap TO a1 a2 a3) (st1 : St1 n1 s.heap)
    (hQ : ∀ h', (∀ c o, c ≠ z → c ≠ i1 → s.heap.get? c = some o → h'.get? c = some o) → Q none { s with heap := h' }) : wpAny (model prog w) A (pyNext (.ref e)) Q E s := by
  have hT : s.TypeIs (.ref e) "enumerate" := ⟨_, he, rfl⟩
  have hTz : s.TypeIs (.ref z) "zip" := by
    obtain ⟨T, f, q⟩ := hz
    exact ⟨_, q, rfl⟩
  unfold pyNext
  refine wpAny_bind (wpAny_attempt (wpAny_callSpecial?_slot (name := Str.ofString "__next__") hT F.slot_enumerate_next
    (wpAny_call_entry F.slot_enumerate_next hT F.entry_enumerate_next ?_ (F.args_enumerate_next_1 _))))
  show wpAny _ _ (field (.ref e) 2 >>= _) _ _ _
  refine wpAny_bind (wpAny_field he rfl (x := .ref z) rfl ?_)
  refine wpAny_bind (zipN_nextOf hTz (zipA3_next_end S D1 hz hTI hTO st1 fun h' x he' hx' => ?_))
  obtain ⟨o, ho, hc⟩ := hx'
  refine wpAny_bind (wpAny_isInstance (T := "StopIteration") (b := true) ⟨o, ho, hc⟩ isSubtype_stop ?_)
  exact wpAny_pure (hQ _ he')
end
end PySem
namespace Mp
open PySem PySem.Spec PyProof.Rows L2
namespace Sr
section
variable {X : Cx} {pins : List (Addr × Obj)} {σ : L2.St} {H : Hp} {s : Shared} {r : Sr} {xs ys : List V}
/-- what the iterator draws -/
theorem drawsA (A : Around) (hh : A.handled = none) (I : Inv X pins σ H s) (h : r.has X.K H xs) (it : Addr) (t : Tok) (hne : r.off it) :
    ∃ (Pi : Nat → Value → Prop) (Si : Nat → Heap → Prop), Draws X.prog X.w A it (r.fp it) xs.length Pi Si ∧ (∀ i, r.at_ s.heap it t i → Si i s.heap) ∧ (∀ i h, Si i h → r.at_ h it t i) ∧ ∀ i v, Pi i v → ∃ x, xs[i]? = some x ∧ RelV x v := by
  cases r with
  | L a =>
    obtain ⟨its, rv, p, _⟩ := I.list h
    have e : xs.length = its.toArray.size := by simpa using rv.length
    rw [e]
    refine ⟨_, _, Draws.list hh it a hne its.toArray, fun i q => ⟨q, p.isList⟩, fun i h q => q.1, fun i v q => ?_⟩
    have q : its[i]? = some v := by simpa using q
    have lt : i < xs.length := by rw [rv.length]; exact (List.getElem?_eq_some_iff.mp q).1
    obtain ⟨u, hu, ru⟩ := rv.get (List.getElem?_eq_getElem lt)
    rw [q] at hu
    cases hu
    exact ⟨_, List.getElem?_eq_getElem lt, ru⟩
  | T a =>
    obtain ⟨its, rv, p, _⟩ := I.tuple h
    have e : xs.length = its.toArray.size := by simpa using rv.length
    rw [e]
    refine ⟨_, _, PySem.Draws.tuple hh it a hne its.toArray, fun i q => ⟨q, p⟩, fun i h q => q.1, fun i v q => ?_⟩
    have q : its[i]? = some v := by simpa using q
    have lt : i < xs.length := by rw [rv.length]; exact (List.getElem?_eq_some_iff.mp q).1
    obtain ⟨u, hu, ru⟩ := rv.get (List.getElem?_eq_getElem lt)
    rw [q] at hu
    cases hu
    exact ⟨_, List.getElem?_eq_getElem lt, ru⟩
  | S x =>
    have h : xs = x.cps.toList.map fun c => V.str ⟨#[c]⟩ := h
    subst h
    have e : (x.cps.toList.map fun c => V.str ⟨#[c]⟩).length = x.cps.size := by rw [List.length_map, Array.length_toList]
    rw [e]
    refine ⟨_, _, PySem.Draws.text hh it x t, fun i q => q, fun i h q => q, fun i v q => ?_⟩
    obtain ⟨c, u, hc, rfl⟩ := q
    refine ⟨.str ⟨#[c]⟩, ?_, ⟨u, rfl⟩⟩
    rw [List.getElem?_map, Array.getElem?_toList, hc] <;> rfl
end
end Sr
end Mp
namespace Mp
open PySem PySem.Spec PyProof.Rows L2
def Iez3 (K : PySem.W.Frag) (r1 r2 r3 : Sr) : It :=
  ⟨fun i H => ∃ (l1 : List V) (l2 : List V) (l3 : List V) (x1 : V) (x2 : V) (x3 : V), r1.has K H l1 ∧ r2.has K H l2 ∧ r3.has K H l3 ∧ l1[i]? = some x1 ∧ l2[i]? = some x2 ∧ l3[i]? = some x3,
    fun i H v H' => ∃ T1 T2 x1 x2 x3, v = .ref T2 ∧ H T1 = none ∧ (upd H T1 (.tup [x1, x2, x3])) T2 = none ∧ H' = upd (upd H T1 (.tup [x1, x2, x3])) T2 (.tup [.int (i : Nat), .ref T1]) ∧ (∀ l, r1.has K H l → l[i]? = some x1) ∧ (∀ l, r2.has K H l → l[i]? = some x2) ∧ (∀ l, r3.has K H l → l[i]? = some x3),
    fun i H => ∃ (l1 : List V), r1.has K H l1 ∧ 0 < i ∧ i = l1.length⟩
theorem turn_ez3 {P : Program} {w : World} {K : PySem.W.Frag} {elts : List Expr} {kk : Nat} {tpos : Pos} {r1 r2 r3 : Sr} {e z TI TO i1 i2 i3 : Addr} (t1 t2 t3 : Tok) (D : ZipSep3 z TI TO i1 i2 i3 (r1.fp i1) (r2.fp i2) (r3.fp i3)) (o1 : r1.off i1) (o2 : r2.off i2) (o3 : r3.off i3) (ne : e ≠ z ∧ e ≠ TI ∧ e ≠ TO ∧ e ≠ i1 ∧ e ≠ i2 ∧ e ≠ i3) :
    Turn P w K (.Tuple elts kk tpos) (Iez3 K r1 r2 r3) [e, z, TI, TO, i1, i2, i3] e (fun i h => (∃ old, IsEnum h e z ((i : Nat) : Int) old) ∧ ((i = 0 ∧ IsZip h z TI TO .none) ∨ ∃ T f, IsZipHeld h z TI TO T f) ∧ IsTupOf3 h TI (.ref i1) (.ref i2) (.ref i3) ∧ (∃ y1 y2 y3, IsTupOf3 h TO y1 y2 y3) ∧ r1.at_ h i1 t1 i ∧ r2.at_ h i2 t2 i ∧ r3.at_ h i3 t3 i) where
  mem := by simp
  obj := fun i h st c hc => by
    obtain ⟨⟨old, he⟩, hz, hTI, ⟨y1, y2, y3, hTO⟩, s1, s2, s3⟩ := st
    have q : c = e ∨ c = z ∨ c = TI ∨ c = TO ∨ c = i1 ∨ c = i2 ∨ c = i3 := by simpa using hc
    rcases q with q | q | q | q | q | q | q
    · rw [q]; exact ⟨_, he, fun v q => nomatch q⟩
    · rw [q]
      rcases hz with ⟨_, hz⟩ | ⟨T, f, hz⟩
      · exact ⟨_, hz, fun v q => nomatch q⟩
      · exact ⟨_, hz, fun v q => nomatch q⟩
    · rw [q]; exact ⟨_, hTI, fun v q => nomatch q⟩
    · rw [q]; exact ⟨_, hTO, fun v q => nomatch q⟩
    · rw [q]; exact Sr.cell s1
    · rw [q]; exact Sr.cell s2
    · rw [q]; exact Sr.cell s3
  keep := fun i h h' st k => by
    obtain ⟨⟨old, he⟩, hz, hTI, ⟨y1, y2, y3, hTO⟩, s1, s2, s3⟩ := st
    refine ⟨⟨old, k e (by simp) _ he⟩, ?_, k TI (by simp) _ hTI, ⟨y1, y2, y3, k TO (by simp) _ hTO⟩, Sr.keep s1 fun o q => k i1 (by simp) o q, Sr.keep s2 fun o q => k i2 (by simp) o q, Sr.keep s3 fun o q => k i3 (by simp) o q⟩
    rcases hz with ⟨q, hz⟩ | ⟨T, f, hz⟩
    · exact .inl ⟨q, k z (by simp) _ hz⟩
    · exact .inr ⟨T, f, k z (by simp) _ hz⟩
  item := by
    intro X hP hw hK hc i pins s σ H E I hf st hg
    subst hP hw hK
    obtain ⟨⟨old, he⟩, hz, hTI, ⟨y1, y2, y3, hTO⟩, s1, s2, s3⟩ := st
    obtain ⟨l1, l2, l3, x1, x2, x3, h1, h2, h3, e1, e2, e3⟩ := hg
    obtain ⟨P1, S1, D1, a1, b1, c1⟩ := Sr.drawsA X.A.in1.in1 (I.ok.hd hc) I h1 i1 t1 o1
    obtain ⟨P2, S2, D2, a2, b2, c2⟩ := Sr.drawsA X.A.in1.in1 (I.ok.hd hc) I h2 i2 t2 o2
    obtain ⟨P3, S3, D3, a3, b3, c3⟩ := Sr.drawsA X.A.in1.in1 (I.ok.hd hc) I h3 i3 t3 o3
    have el : e < s.heap.objs.size := Heap.lt_size he
    have lt1 : i < l1.length := (List.getElem?_eq_some_iff.mp e1).1
    have lt2 : i < l2.length := (List.getElem?_eq_some_iff.mp e2).1
    have lt3 : i < l3.length := (List.getElem?_eq_some_iff.mp e3).1
    refine wpAny_pyNext_enumZ3_item D D1 D2 D3 he ⟨ne.1, ne.2.2.1, ne.2.2.2.1, ne.2.2.2.2.1, ne.2.2.2.2.2⟩ (hz.imp (fun q => q.2) id) hTI hTO (a1 _ s1) (a2 _ s2) (a3 _ s3) lt1 lt2 lt3 fun u1 u2 u3 h₁ h' tk p1 p2 p3 z' TO' q1 q2 q3 hT sz hk he' hT2 sz2 hk2 => ?_
    obtain ⟨v1, f1, g1⟩ := c1 _ _ p1
    rw [e1] at f1
    cases f1
    obtain ⟨v2, f2, g2⟩ := c2 _ _ p2
    rw [e2] at f2
    cases f2
    obtain ⟨v3, f3, g3⟩ := c3 _ _ p3
    rw [e3] at f3
    cases f3
    refine ⟨_, rfl, wpAny_letOwnedTupleGo_enum (s := { s with heap := h', toks := tk + 1 }) he' fun h'' he'' sb => ?_⟩
    have lte : e < h₁.objs.size := by rw [sz]; exact Nat.lt_succ_of_lt el
    have hT2' : h''.get? h₁.objs.size = some { cls := .type "tuple", data := .seq #[.int i tk, .ref s.heap.objs.size] } := (sb.2 _ (Nat.ne_of_gt lte)).trans hT2
    have up : ∀ b o, b ≠ e → h₁.get? b = some o → h''.get? b = some o := fun b o hb q => (sb.2 b hb).trans (hk2 b o hb q)
    have new1 : ObjOk X.prog X.w (upd H s.heap.objs.size (.tup [x1, x2, x3])) h₁ s.heap.objs.size (.tup [x1, x2, x3]) := ⟨by show 3 ≤ sizeLine; decide, [u1, u2, u3], .cons g1 (.cons g2 (.cons g3 .nil)), ⟨_, hT, rfl, _, rfl⟩⟩
    have I1 : Inv X pins σ (upd H s.heap.objs.size (.tup [x1, x2, x3])) { s with heap := h₁, toks := tk } :=
      I.turnedNew (ch := [e, z, TI, TO, i1, i2, i3]) (fun c o hb q => hk c o (fun z => hb (by simp [z])) (fun z => hb (by simp [z])) (fun z => hb (by simp [z])) (fun z => hb (by simp [z])) (fun z => hb (by simp [z])) q) hf (Nat.le_refl _) new1
    have small : ∀ c ∈ [e, z, TI, TO, i1, i2, i3], c < s.heap.objs.size := fun c hcm => by
      have q : c = e ∨ c = z ∨ c = TI ∨ c = TO ∨ c = i1 ∨ c = i2 ∨ c = i3 := by simpa using hcm
      rcases q with q | q | q | q | q | q | q
      · rw [q]; exact el
      · rw [q]
        rcases hz with ⟨_, hz⟩ | ⟨T, f, hz⟩
        · exact Heap.lt_size hz
        · exact Heap.lt_size hz
      · rw [q]; exact Heap.lt_size hTI
      · rw [q]; exact Heap.lt_size hTO
      · rw [q]; obtain ⟨_, z, _⟩ := Sr.cell s1; exact Heap.lt_size z
      · rw [q]; obtain ⟨_, z, _⟩ := Sr.cell s2; exact Heap.lt_size z
      · rw [q]; obtain ⟨_, z, _⟩ := Sr.cell s3; exact Heap.lt_size z
    have hf1 : ∀ b ∈ [e, z, TI, TO, i1, i2, i3], FpOk X pins (upd H s.heap.objs.size (.tup [x1, x2, x3])) b := fun b hb => ⟨by rw [upd_ne (Nat.ne_of_lt (small b hb))]; exact (hf b hb).1, (hf b hb).2⟩
    have new2 : ObjOk X.prog X.w (upd (upd H s.heap.objs.size (.tup [x1, x2, x3])) h₁.objs.size (.tup [.int (i : Nat), .ref s.heap.objs.size])) h'' h₁.objs.size (.tup [.int (i : Nat), .ref s.heap.objs.size]) := ⟨by show 2 ≤ sizeLine; decide, [.int i tk, .ref s.heap.objs.size], .cons ⟨_, rfl⟩ (.cons rfl .nil), ⟨_, hT2', rfl, _, rfl⟩⟩
    have I2 : Inv X pins σ (upd (upd H s.heap.objs.size (.tup [x1, x2, x3])) h₁.objs.size (.tup [.int (i : Nat), .ref s.heap.objs.size])) { s with heap := h'', toks := tk + 1 } :=
      I1.turnedNew (ch := [e, z, TI, TO, i1, i2, i3]) (fun c o hb q => up c o (fun z => hb (by simp [z])) q) hf1 (Nat.le_refl _) new2
    refine ⟨.ref h₁.objs.size, _, I2, rfl, ⟨_, _, x1, x2, x3, rfl, I.hok.fresh (Nat.le_refl _), I1.hok.fresh (Nat.le_refl _), rfl, fun l hl => by rw [Sr.inj I hl h1]; exact e1, fun l hl => by rw [Sr.inj I hl h2]; exact e2, fun l hl => by rw [Sr.inj I hl h3]; exact e3⟩, ⟨⟨.ref s.heap.objs.size, ?_⟩, .inr ?_, ?_, ?_, ?_, ?_, ?_⟩, fun c hcm => ?_⟩
    · have e1 : ((i + 1 : Nat) : Int) = (i : Int) + 1 := by omega
      rw [e1]; exact he''
    · obtain ⟨T, f, q⟩ := z'
      exact ⟨T, f, up _ _ ne.1.symm q⟩
    · exact up _ _ ne.2.1.symm (hk _ _ D.TIz D.TITO D.TIi1 D.TIi2 D.TIi3 hTI)
    · obtain ⟨b1, b2, b3, q⟩ := TO'
      exact ⟨b1, b2, b3, up _ _ ne.2.2.1.symm q⟩
    · exact Sr.keep (b1 _ _ q1) fun o q => up _ _ ne.2.2.2.1.symm q
    · exact Sr.keep (b2 _ _ q2) fun o q => up _ _ ne.2.2.2.2.1.symm q
    · exact Sr.keep (b3 _ _ q3) fun o q => up _ _ ne.2.2.2.2.2.symm q
    · have lt := small c hcm
      rw [upd_ne (Nat.ne_of_lt (by rw [sz]; exact Nat.lt_succ_of_lt lt)), upd_ne (Nat.ne_of_lt lt)]
      exact (hf c hcm).1
  done := by
    intro X hP hw hK hc i pins s σ H E I hf st hg
    subst hP hw hK
    obtain ⟨⟨old, he⟩, hz, hTI, ⟨y1, y2, y3, hTO⟩, s1, s2, s3⟩ := st
    obtain ⟨l1, h1, i0, ei⟩ := hg
    obtain ⟨P1, S1, D1, a1, b1, c1⟩ := Sr.drawsA X.A.in1.in1 (I.ok.hd hc) I h1 i1 t1 o1
    have hz : ∃ T f, IsZipHeld s.heap z TI TO T f := hz.elim (fun q => absurd q.1 (by omega)) id
    have st1 := a1 _ s1
    rw [ei] at st1
    exact wpAny_pyNext_enumZ3_end D D1 he hz hTI hTO st1 fun h' hk => ⟨rfl, I.turnedL (t' := s.toks) (ch := [e, z, TI, TO, i1, i2, i3]) (fun c o hb q => hk c o (fun z => hb (by simp [z])) (fun z => hb (by simp [z])) q) hf⟩
  self := fun A i s Q E st h => let ⟨⟨_, he⟩, _⟩ := st; wpAny_pyIter_enum he h
end Mp
namespace PySem
open Sem (wp)
set_option maxHeartbeats 4000000 in
theorem meets_enumerate_newZ (z TI TO : Addr) :
    Meets (Builtin.«enumerate.__new__» ⟨[.type "enumerate", .ref z], []⟩) (fun _ R s => IsZip s.heap z TI TO .none ∧
      R (.ok (.ret (.ref s.heap.objs.size)))
        { s with heap := s.heap.push { cls := .type "enumerate", data := .fields #[.none, .bool false, .ref z, rawInt 0, .none, .none] } }) :=
  .of_wp fun prog w A R s h => by
    obtain ⟨hp, g, d, tk, os⟩ := s
    obtain ⟨hz, h⟩ := h
    have hsub := sub_enumerate
    wp_walk
    refine wpAny_stack_any fun st => wpAny_pure ?_
    split
    · rename_i c _ _ _ _ _
      cases (c == Value.type "enumerate")
      · wp_walk using wpAny_loadPart' hz, wpAny_pyIter_zip hz
        exact ⟨_, rfl, h⟩
      · wp_walk using wpAny_loadPart' hz, wpAny_pyIter_zip hz
        exact ⟨_, rfl, h⟩
    · wp_walk using wpAny_loadPart' hz, wpAny_pyIter_zip hz
      exact ⟨_, rfl, h⟩
end PySem
namespace PySem
open Sem (wp)
section
variable {prog : Program} {w : World} {A : Around} {E : Value → Shared → Prop} {s : Shared}
theorem call_enumerate_zip {z TI TO : Addr} {Q : Value → Shared → Prop} (hz : IsZip s.heap z TI TO .none)
    (h : ∀ h', IsEnum h' s.heap.objs.size z 0 .none → h'.objs.size = s.heap.objs.size + 1 → (∀ b o, s.heap.get? b = some o → h'.get? b = some o) → Q (.ref s.heap.objs.size) { s with heap := h' }) :
    wpAny (model prog w) A (call (.type "enumerate") [.ref z]) Q E s := by
  refine callType_new F.called_enumerate (by decide) (F.typeCall_enumerate_1 _) (F.newCall_enumerate_1 _) (fun obj => F.args_object_init_2 obj _) F.entry_enumerate_new
    (meets_enumerate_newZ z TI TO) ⟨hz, ?_⟩
  show _ ∧ _
  have he : IsEnum (s.heap.push { cls := .type "enumerate", data := .fields #[.none, .bool false, .ref z, rawInt 0, .none, .none] }) s.heap.objs.size z 0 .none := Heap.get?_push_size _ rfl
  exact ⟨⟨_, he, rfl⟩, h _ he (Heap.size_push ..) fun b o x => Heap.get?_push_of_some _ x⟩
end
end PySem
namespace Mp
open PySem PySem.Spec PyProof.Rows L2
def iEZ3 (K : PySem.W.Frag) (ta : TA) : TI := fun σ H R => ta σ H fun vs H1 => ∃ (r1 : Sr) (r2 : Sr) (r3 : Sr) (l1 : List V) (l2 : List V) (l3 : List V), vs = [r1.val, r2.val, r3.val] ∧ r1.has K H1 l1 ∧ r2.has K H1 l2 ∧ r3.has K H1 l3 ∧ R (Iez3 K r1 r2 r3) H1
theorem pi_ez3 {X : Cx} {e1 e2 e3 : Expr} {ta : TA} {p p2 pos pos2 tpos : Pos} {elts : List Expr} {kk : Nat} (hg : Gl X "enumerate") (hm : X.mg "enumerate" = none) (hg2 : Gl X "zip") (hm2 : X.mg "zip" = none) (ha : PA X [e1, e2, e3] ta)
    (hs0 : starEach [.Call (.Name "zip" p2) [e1, e2, e3] [] pos2] X.env = [(false, eval (.Call (.Name "zip" p2) [e1, e2, e3] [] pos2) X.env)] := by rfl)
    (hs : starEach [e1, e2, e3] X.env = (false, eval e1 X.env) :: starEach [e2, e3] X.env := by rfl) (hpl : (backTo pos2 (starEach [e2, e3] X.env)).any (·.1) = false := by rfl) :
    PI X (.Tuple elts kk tpos) (.Call (.Name "enumerate" p) [.Call (.Name "zip" p2) [e1, e2, e3] [] pos2] [] pos) (iEZ3 X.K ta) := by
  refine ⟨fun pins s σ H R I h => ?_⟩
  refine Call_ (ld_blt I hg hm boot_enumerate (PyProof.Rows.callWith_type1 ?_ hs0 rfl))
  rw [hs0]
  show wpAny _ _ (spliced ((false, eval (.Call (.Name "zip" p2) [e1, e2, e3] [] pos2) X.env) :: [])) _ _ s
  refine Calls.spliced_cons (Call_ (ld_blt I hg2 hm2 PyProof.Rows.boot_zip (PyProof.Rows.callWith_type1 (thn (ha.run pos2 pins s σ H _ I h) fun us s1 ⟨vs, H1, I1, rr, q1⟩ => ?_) hs hpl)))
  obtain ⟨r1, r2, r3, l1, l2, l3, ex, h1, h2, h3, q⟩ := q1
  subst ex
  cases rr with
  | cons v1 rr =>
  cases rr with
  | cons v2 rr =>
  cases rr with
  | cons v3 rr =>
  cases rr
  obtain ⟨t1, Hb1, B1, b1⟩ := Sr.begins I1 h1 v1
  obtain ⟨t2, Hb2, B2, b2⟩ := Sr.begins I1 h2 v2
  obtain ⟨t3, Hb3, B3, b3⟩ := Sr.begins I1 h3 v3
  have lt1 := Sr.below I1 h1
  have lt2 := Sr.below I1 h2
  have lt3 := Sr.below I1 h3
  refine zip_begins3 B1 B2 B3 b1 b2 b3 fun h' hz hTI hTO g1 g2 g3 hsz hk => Calls.spliced_nil (call_enumerate_zip (s := { s1 with heap := h' }) hz fun h2 he hsz2 hk2 => wpAny_pyIter_enum he ?_)
  have hk3 : ∀ b o, s1.heap.get? b = some o → h2.get? b = some o := fun b o e => hk2 b o (hk b o e)
  have I2 : Inv X pins σ H1 { s1 with heap := h2 } := I1.kept (t' := s1.toks) hk3
  have es : ({ s1 with heap := h' } : Shared).heap.objs.size = s1.heap.objs.size + 6 := hsz
  rw [es] at he ⊢
  have far : ∀ (r : Sr), r.lt s1.heap.objs.size → ∀ (it c : Nat), s1.heap.objs.size ≤ c → c ≠ it → c ∉ r.fp it := fun r hr it c hc ne hm => by
    rcases Sr.fp_of hm _ hr with z | z
    · exact ne z
    · exact absurd (Nat.lt_of_lt_of_le z hc) (Nat.lt_irrefl _)
  have off : ∀ (r : Sr), r.lt s1.heap.objs.size → ∀ (it : Nat), s1.heap.objs.size ≤ it → r.off it := fun r hr it hc => by
    cases r with
    | L a => exact Nat.ne_of_lt (Nat.lt_of_lt_of_le hr hc)
    | T a => exact Nat.ne_of_lt (Nat.lt_of_lt_of_le hr hc)
    | S x => trivial
  have le : ∀ j, s1.heap.objs.size ≤ s1.heap.objs.size + j := fun j => Nat.le_add_right _ _
  have ne : ∀ (i j : Nat), i ≠ j → s1.heap.objs.size + i ≠ s1.heap.objs.size + j := fun i j h e => h (Nat.add_left_cancel e)
  have D : ZipSep3 (s1.heap.objs.size + 5) (s1.heap.objs.size + 3) (s1.heap.objs.size + 4) (s1.heap.objs.size + 0) (s1.heap.objs.size + 1) (s1.heap.objs.size + 2) (r1.fp (s1.heap.objs.size + 0)) (r2.fp (s1.heap.objs.size + 1)) (r3.fp (s1.heap.objs.size + 2)) := ⟨(ne 3 5 (by decide)), (ne 4 5 (by decide)), (ne 3 4 (by decide)), (ne 3 0 (by decide)), (Sr.mem _ _), (far _ lt1 _ _ (le _) (ne 5 0 (by decide))), (far _ lt1 _ _ (le _) (ne 4 0 (by decide))), (ne 3 1 (by decide)), (Sr.mem _ _), (far _ lt2 _ _ (le _) (ne 5 1 (by decide))), (far _ lt2 _ _ (le _) (ne 4 1 (by decide))), (ne 3 2 (by decide)), (Sr.mem _ _), (far _ lt3 _ _ (le _) (ne 5 2 (by decide))), (far _ lt3 _ _ (le _) (ne 4 2 (by decide))), (far _ lt2 _ _ (le _) (ne 0 1 (by decide))), (far _ lt3 _ _ (le _) (ne 0 2 (by decide))), (far _ lt1 _ _ (le _) (ne 1 0 (by decide))), (far _ lt3 _ _ (le _) (ne 1 2 (by decide))), (far _ lt1 _ _ (le _) (ne 2 0 (by decide))), (far _ lt2 _ _ (le _) (ne 2 1 (by decide)))⟩
  refine ⟨(s1.heap.objs.size + 6), [s1.heap.objs.size + 6, s1.heap.objs.size + 5, s1.heap.objs.size + 3, s1.heap.objs.size + 4, s1.heap.objs.size + 0, s1.heap.objs.size + 1, s1.heap.objs.size + 2], _, _, H1, rfl, I2, turn_ez3 t1 t2 t3 D (off _ lt1 _ (le _)) (off _ lt2 _ (le _)) (off _ lt3 _ (le _)) ⟨ne 6 5 (by decide), ne 6 3 (by decide), ne 6 4 (by decide), ne 6 0 (by decide), ne 6 1 (by decide), ne 6 2 (by decide)⟩,
    ⟨⟨.none, he⟩, .inl ⟨rfl, hk2 _ _ hz⟩, hk2 _ _ hTI, ⟨_, _, _, hk2 _ _ hTO⟩, Sr.start (hk2 _ _ g1), Sr.start (hk2 _ _ g2), Sr.start (hk2 _ _ g3)⟩, fun c hcm => ?_, q⟩
  have hle : s1.heap.objs.size ≤ c := by
    simp only [List.mem_cons, List.not_mem_nil, or_false] at hcm
    rcases hcm with z | z | z | z | z | z | z <;> rw [z] <;> exact le _
  exact I1.fpOk hle (I1.hok.fresh hle)
def enumZ3 : List W → Option (List W)
  | [w1, w2, w3] => (match seqI w1, seqI w2, seqI w3 with
    | some x1, some x2, some x3 => if 0 < x1.length ∧ x2.length = x1.length ∧ x3.length = x1.length then some (enumL 0 (tupsW3 x1 x2 x3)) else none
    | _, _, _ => none)
  | _ => none
theorem itOk_ez3 {K : PySem.W.Frag} {G : Gs} {γ : Ga} {H : Hp} {r1 r2 r3 : Sr} {x1 x2 x3 : List W} {v1 v2 v3 : List V} (s1 : ∀ {γ' H'}, ExtW γ H γ' H' → r1.has K H' v1) (s2 : ∀ {γ' H'}, ExtW γ H γ' H' → r2.has K H' v2) (s3 : ∀ {γ' H'}, ExtW γ H γ' H' → r3.has K H' v3) (q1 : Reps K G γ H x1 v1) (q2 : Reps K G γ H x2 v2) (q3 : Reps K G γ H x3 v3)
    (l0 : 0 < x1.length) (l2 : x2.length = x1.length) (l3 : x3.length = x1.length) : ItOk K G (Iez3 K r1 r2 r3) (enumL 0 (tupsW3 x1 x2 x3)) γ H := by
  have n1 := q1.length
  have n2 := q2.length
  have n3 := q3.length
  refine ⟨fun i γ' H' S hi e _ => ?_, fun γ' H' S e _ => ⟨v1, s1 e, ?_, ?_⟩, fun i w γ' H' S x H'' hw e s y => ?_⟩
  · rw [enumL_len, tupsW3_len] at hi
    have l1 : i < v1.length := by omega
    have l2 : i < v2.length := by omega
    have l3 : i < v3.length := by omega
    exact ⟨v1, v2, v3, v1[i], v2[i], v3[i], s1 e, s2 e, s3 e, List.getElem?_eq_getElem l1, List.getElem?_eq_getElem l2, List.getElem?_eq_getElem l3⟩
  · rw [enumL_len, tupsW3_len]
    omega
  · rw [enumL_len, tupsW3_len]
    omega
  · obtain ⟨T1, T2, u1, u2, u3, rfl, hT, hT2, rfl, h1, h2, h3⟩ := y
    obtain ⟨p, hp, rfl⟩ := enumL_get hw
    obtain ⟨p1, p2, p3, g1, g2, g3, rfl⟩ := tupsW3_get hp
    obtain ⟨z1, a1, b1⟩ := q1.get g1
    have c1 := h1 _ (s1 e)
    rw [a1] at c1
    cases c1
    obtain ⟨z2, a2, b2⟩ := q2.get g2
    have c2 := h2 _ (s2 e)
    rw [a2] at c2
    cases c2
    obtain ⟨z3, a3, b3⟩ := q3.get g3
    have c3 := h3 _ (s3 e)
    rw [a3] at c3
    cases c3
    have rt : Rep K G γ' (upd H' T1 (.tup [u1, u2, u3])) (.tup [p1, p2, p3]) (.ref T1) := .tup (.inl ⟨.inl upd_same, s.fresh hT⟩) (.cons ((b1.monoW e).mono (Ext.upd s hT)) (.cons ((b2.monoW e).mono (Ext.upd s hT)) (.cons ((b3.monoW e).mono (Ext.upd s hT)) .nil)))
    have st := s.upd (o := .tup [u1, u2, u3]) hT
    rw [Int.zero_add]
    obtain ⟨k1, k2, k3⟩ := pair_new hT2 st (.int (i : Int)) rt
    exact ⟨(Ext.upd s hT).trans k1, k2, k3⟩
theorem si_ez3 {X : Cx} {G : Gs} {e1 e2 e3 : Expr} {pos pos2 p p2 tpos : Pos} {ga : MA} {elts : List Expr} {kk : Nat} (hm : X.mg "enumerate" = none) (hm2 : X.mg "zip" = none) (ha : SA X G [e1, e2, e3] ga) (hg : Gl X "enumerate" := by rfl) (hg2 : Gl X "zip" := by rfl)
    (hs0 : starEach [.Call (.Name "zip" p2) [e1, e2, e3] [] pos2] X.env = [(false, eval (.Call (.Name "zip" p2) [e1, e2, e3] [] pos2) X.env)] := by rfl)
    (hs : starEach [e1, e2, e3] X.env = (false, eval e1 X.env) :: starEach [e2, e3] X.env := by rfl) (hpl : (backTo pos2 (starEach [e2, e3] X.env)).any (·.1) = false := by rfl) :
    SI X G (.Tuple elts kk tpos) (.Call (.Name "enumerate" p) [.Call (.Name "zip" p2) [e1, e2, e3] [] pos2] [] pos) (miAll enumZ3 ga) := by
  refine ⟨fun Wi tk => (pi_ez3 hg hm hg2 hm2 (ha.run Wi tk) hs0 hs hpl).imp ?_⟩
  rintro σ H R ⟨η, S, γ, he, hs, q⟩
  refine ⟨η, S, γ, he, hs, (PostI.seq q).imp fun x H1 ⟨wx, S1, γ1, e1, r1, s1, q1⟩ => ?_⟩
  unfold enumZ3 at q1
  split at q1
  · split at q1
    · rename_i f1 f2 f3
      split at q1
      · rename_i hl
        cases r1 with
        | cons t1 r1 =>
        cases r1 with
        | cons t2 r1 =>
        cases r1 with
        | cons t3 r1 =>
        cases r1
        obtain ⟨c1, vs1, g1, s1', q1'⟩ := sr_of f1 t1
        obtain ⟨c2, vs2, g2, s2', q2'⟩ := sr_of f2 t2
        obtain ⟨c3, vs3, g3, s3', q3'⟩ := sr_of f3 t3
        subst g1
        subst g2
        subst g3
        exact ⟨c1, c2, c3, vs1, vs2, vs3, rfl, s1' Ext.refl.w, s2' Ext.refl.w, s3' Ext.refl.w, q1 _ γ1 H1 Ext.refl s1 (itOk_ez3 s1' s2' s3' q1' q2' q3' hl.1 hl.2.1 hl.2.2)⟩
      · exact q1.elim
    · exact q1.elim
  · exact q1.elim
end Mp
namespace PySem
open Sem (wp)
theorem minDf_args (a v : Value) : argsOk "min" ⟨[a], [(Str.ofString "default", v)]⟩ := by unfold argsOk; kernel_rfl
end PySem
namespace PySem
open Sem (wp)
section
variable {prog : Program} {w : World} {A : Around} {R : Result → Shared → Prop} {I : Addr} {fp wr : List Addr} {n : Nat} {P : Nat → Value → Prop} {St : Nat → Heap → Prop} {d : Value}
theorem minDf_loop (W : Walks prog w A.in1 I fp wr n P St) (bt : Nat → Nat → Bool) (hcmp : CmpOf prog w A.in1 .Lt P bt) (S : Addr) (hSf : S ∉ fp) :
    ∀ (k j : Nat) (s : Shared) (vb : Value) (c : Nat), n - (j + 1) = k → j + 1 ≤ n → St (j + 1) s.heap → P (argBest bt j) vb →
    s.heap.get? S = some { cls := .type "list", dict := none, data := .seq #[vb, vb] c, slots := #[] } →
    (∀ v h' tk, P (argBest bt (n - 1)) v → (∀ b o, b ∉ wr → b ≠ S → s.heap.get? b = some o → h'.get? b = some o) → R (.ok (.ret v)) { s with heap := h', toks := tk }) →
    codeAny (model prog w) A (.builtin "min.loop" ⟨[.ref I, .none, .ref S], [(Str.ofString "default", d)]⟩) R s := by
  have hSw : S ∉ wr := fun h => hSf (W.sub _ h)
  have hname : (toString "min" ++ toString ".loop" : String) = "min.loop" := by decide
  intro k
  induction k with
  | zero =>
    intro j s vb c hk hj hst hPb hS hR
    have hin : j + 1 = n := by omega
    refine codeAny_builtin F.entry_min_loop ?_
    rw [Around.under_plainId F.plain_min_loop _]
    refine wpAny_bind (wpAny_seqItems hS rfl ?_)
    refine wpAny_bind (wpAny_tryCatch (W.done s _ _ (hin ▸ hst) fun h' tk hk' => ?_))
    have hS' := hk' S _ hSw hS
    show wpAny _ A.in1 (updateSeq S (fun _ => #[]) >>= _) _ _ _
    refine wpAny_bind ?_
    refine wpAny_updateSeq hS' rfl (wpAny_bind (wpAny_letGo (wpAny_pure ?_)))
    refine hR vb _ tk (by rw [← hin]; exact hPb) fun b o hbw hbS e => (Heap.get?_update_other _ _ (Ne.symm hbS)).trans (hk' b o hbw e)
  | succ k ih =>
    intro j s vb c hk hj hst hPb hS hR
    have hlt : j + 1 < n := by omega
    refine codeAny_builtin F.entry_min_loop ?_
    rw [Around.under_plainId F.plain_min_loop _]
    refine wpAny_bind (wpAny_seqItems hS rfl ?_)
    refine wpAny_bind (wpAny_tryCatch (W.item (j + 1) s _ _ hlt hst fun v h' tk hP hst' hk' => ?_))
    have hS' := hk' S _ hSw hS
    show wpAny _ A.in1 (tryCatch (holding [v, v] (richCompare .Lt v vb >>= _)) _ >>= _) _ _ _
    refine wpAny_bind (wpAny_tryCatch (wpAny_holding (wpAny_bind (hcmp (j + 1) (argBest bt j) v vb _ _ _ hP hPb ?_))))
    refine wpAny_bind (wpAny_holding (wpAny_truthy_bool ?_))
    refine wpAny_bind (wpAny_letGo (wpAny_pure ?_))
    cases hb : bt (j + 1) (argBest bt j) with
    | true =>
      simp only [if_true]
      refine wpAny_bind ?_
      refine wpAny_updateSeq hS' rfl (wpAny_bind (wpAny_letGo ?_))
      rw [hname]
      refine wpAny_pure ⟨plainId_quiet F.plain_min_loop _, ih (j + 1) _ v _ (by omega) hlt (W.frame _ _ _ hst' fun b hbf o e => ?_) (by simp only [argBest, hb, if_true]; exact hP) (Heap.get?_update_self _ hS' rfl)
        fun v' h'' tk'' hP' hk'' => ?_⟩
      · exact (Heap.get?_update_other _ _ (fun h : S = b => hSf (by rw [h]; exact hbf))).trans e
      · exact hR v' h'' tk'' hP' fun b o hbw hbS e => hk'' b o hbw hbS ((Heap.get?_update_other _ _ (Ne.symm hbS)).trans (hk' b o hbw e))
    | false =>
      simp only [Bool.false_eq_true, if_false]
      refine wpAny_bind (wpAny_letGo ?_)
      rw [hname]
      refine wpAny_pure ⟨plainId_quiet F.plain_min_loop _, ih (j + 1) _ vb c (by omega) hlt hst' (by simp only [argBest, hb, Bool.false_eq_true, if_false]; exact hPb) hS' fun v' h'' tk'' hP' hk'' => ?_⟩
      exact hR v' h'' tk'' hP' fun b o hbw hbS e => hk'' b o hbw hbS (hk' b o hbw e)
theorem minDf_first (W : Walks prog w A.in1 I fp wr n P St) (bt : Nat → Nat → Bool) (hcmp : CmpOf prog w A.in1 .Lt P bt) (S : Addr) (hSf : S ∉ fp) {s : Shared} {c : Nat} (hst : St 0 s.heap)
    (hS : s.heap.get? S = some { cls := .type "list", dict := none, data := .seq #[] c, slots := #[] })
    (h0 : n = 0 → ∀ h' tk, (∀ b o, b ∉ wr → b ≠ S → s.heap.get? b = some o → h'.get? b = some o) → R (.ok (.ret d)) { s with heap := h', toks := tk })
    (hR : 0 < n → ∀ v h' tk, P (argBest bt (n - 1)) v → (∀ b o, b ∉ wr → b ≠ S → s.heap.get? b = some o → h'.get? b = some o) → R (.ok (.ret v)) { s with heap := h', toks := tk }) :
    codeAny (model prog w) A (.builtin "min.loop" ⟨[.ref I, .none, .ref S], [(Str.ofString "default", d)]⟩) R s := by
  have hSw : S ∉ wr := fun h => hSf (W.sub _ h)
  have hname : (toString "min" ++ toString ".loop" : String) = "min.loop" := by decide
  refine codeAny_builtin F.entry_min_loop ?_
  rw [Around.under_plainId F.plain_min_loop _]
  refine wpAny_bind (wpAny_seqItems hS rfl ?_)
  rcases Nat.eq_zero_or_pos n with hn | hn
  · refine wpAny_bind (wpAny_tryCatch (W.done s _ _ (hn ▸ hst) fun h' tk hk' => ?_))
    refine wpAny_bind (wpAny_rule (wpAny_pure ?_))
    exact h0 hn h' tk fun b o hbw _ e => hk' b o hbw e
  · refine wpAny_bind (wpAny_tryCatch (W.item 0 s _ _ hn hst fun v h' tk hP hst' hk' => ?_))
    have hS' := hk' S _ hSw hS
    show wpAny _ A.in1 (updateSeq S (fun _ => #[v, v]) >>= _) _ _ _
    refine wpAny_bind ?_
    refine wpAny_updateSeq hS' rfl ?_
    rw [hname]
    refine wpAny_pure ⟨plainId_quiet F.plain_min_loop _, minDf_loop W bt hcmp S hSf _ 0 _ v _ rfl hn (W.frame _ _ _ hst' fun b hbf o e => ?_) hP (Heap.get?_update_self _ hS' rfl) fun v' h'' tk'' hP' hk'' => ?_⟩
    · exact (Heap.get?_update_other _ _ (fun h : S = b => hSf (by rw [h]; exact hbf))).trans e
    · exact hR hn v' h'' tk'' hP' fun b o hbw hbS e => hk'' b o hbw hbS ((Heap.get?_update_other _ _ (Ne.symm hbS)).trans (hk' b o hbw e))
end
end PySem
namespace PySem
open Sem (wp)
section
variable {prog : Program} {w : World} {A : Around} {E : Value → Shared → Prop} {s : Shared} {l : Addr} {xs : Array (Int × Tok)} {d : Value}
theorem minDf_list {Q : Value → Shared → Prop} (hh : A.handled = none) (hl : s.heap.IsList l (intItems xs))
    (h0 : xs.size = 0 → ∀ h' tk, (∀ b o, s.heap.get? b = some o → h'.get? b = some o) → Q d { s with heap := h', toks := tk })
    (h : 0 < xs.size → ∀ v h' tk, (intItems xs)[argBest (fun i j => decide (numAt xs i < numAt xs j)) (xs.size - 1)]? = some v → (∀ b o, s.heap.get? b = some o → h'.get? b = some o) → Q v { s with heap := h', toks := tk }) :
    wpAny (model prog w) A (call (.builtin "min") [.ref l] [(Str.ofString "default", d)]) Q E s := by
  have hname : (toString "min" ++ toString ".loop" : String) = "min.loop" := by decide
  have hsz : (intItems xs).size = xs.size := by simp [intItems]
  refine PyProof.Rows.kmk_tree F.kind_min F.plain_min F.entry_min (minDf_args _ _) ?_
  show wpAny _ A.in1 (Builtin.Builtins.bindParams "min" ["key", "default"] 0 ⟨[], [(Str.ofString "default", d)]⟩ >>= _) _ _ s
  refine wpAny_bind (wpAny_of_eq (show Builtin.Builtins.bindParams "min" ["key", "default"] 0 ⟨[], [(Str.ofString "default", d)]⟩ = pure [none, some d] from rfl) ?_)
  refine wpAny_bind (wpAny_pure ?_)
  refine wpAny_bind (iter_intList hl fun s₂ e st hfp hlI => ?_)
  subst e
  refine wpAny_bind (wpAny_newObj_type ?_)
  rw [hname]
  have W := Walks.list (prog := prog) (w := w) (A := A.in1) hh _ l hlI (intItems xs)
  refine wpAny_pure ⟨plainId_quiet F.plain_min_loop _, minDf_first W _ (CmpOf.ints_lt (numAt xs) (fun _ _ => intItems_at)) _ (fun hm => Nat.lt_irrefl _ (hfp _ hm)) (W.frame _ _ _ st fun b _ o e => Heap.get?_push_of_some _ e) (Heap.get?_push_size _ rfl) (fun e0 h' tk hk => ?_) fun hn v h' tk hP hk => ?_⟩
  · exact h0 (by rw [← hsz]; exact e0) h' tk (old_kept fun b o hbw e => hk b o hbw (Nat.ne_of_lt (Heap.lt_size e)) (Heap.get?_push_of_some _ e))
  · rw [hsz] at hn hP
    exact h hn v h' tk hP (old_kept fun b o hbw e => hk b o hbw (Nat.ne_of_lt (Heap.lt_size e)) (Heap.get?_push_of_some _ e))
end
end PySem
namespace Mp
open PySem PySem.Spec PyProof.Rows L2
theorem minDf_raw {prog : Program} {w : World} {A : Around} {E : Value → Shared → Prop} {s : Shared} {l : Addr} {its : List Value} {ns : List Int} {d : Value} {Q : Value → Shared → Prop} (hh : A.handled = none) (hl : s.heap.IsList l its.toArray) (hi : IntsAre its ns)
    (h0 : ns = [] → ∀ h' tk, (∀ b o, s.heap.get? b = some o → h'.get? b = some o) → Q d { s with heap := h', toks := tk })
    (h : ∀ h' tk M t', (∀ b o, s.heap.get? b = some o → h'.get? b = some o) → M ∈ ns → (∀ a, a ∈ ns → M ≤ a) → Q (.int M t') { s with heap := h', toks := tk }) : wpAny (model prog w) A (call (.builtin "min") [.ref l] [(Str.ofString "default", d)]) Q E s := by
  obtain ⟨xs, e⟩ := hi.allInts.items
  have hn : numsOf (intItems xs).toList = ns := by rw [← e]; exact hi.numsOf
  rw [nums_intItems] at hn
  subst hn
  rw [e] at hl
  refine PySem.minDf_list hh hl (fun e0 h' tk hk => h0 (by
    have : xs = #[] := Array.eq_empty_of_size_eq_zero e0
    rw [this]; rfl) h' tk hk) fun hsz v h' tk hv hk => ?_
  obtain ⟨t, rfl⟩ := intItems_at hv
  obtain ⟨h1, h2⟩ := argBest_lt (numAt xs) (xs.size - 1)
  refine h h' tk _ t hk ?_ fun a ha => ?_
  · rw [numAt_eq]; exact PySem.getD_mem (by rw [List.length_map, Array.length_toList]; omega)
  · obtain ⟨j, hj, rfl⟩ := mem_getD ha
    rw [List.length_map, Array.length_toList] at hj
    rw [← numAt_eq]; exact h2 j (by omega)
def rMinDf (K : PySem.W.Frag) : List V → List V → Hp → VK → Prop := fun vs zs H Q => ∃ (a : Addr) (ns : List Int), vs = [V.ref a] ∧ zs = [.non] ∧ SqL K H a (ns.map V.int) ∧ (ns = [] → Q .non H) ∧ ∀ m, m ∈ ns → (∀ a ∈ ns, m ≤ a) → Q (.int m) H
theorem cr_minDf {X : Cx} (hc : X.calm = true) : CallRK X (.builtin "min") [Str.ofString "default"] (rMinDf X.K) := by
  intro pins s σ H vs zs us ws Q I r rz h
  obtain ⟨a, ns, rfl, rfl, hs, q0, q⟩ := h
  obtain rfl := Vals.ref1 r
  obtain ⟨w1, rfl, e1⟩ := vals1 rz
  obtain rfl : w1 = Value.none := e1
  obtain ⟨its, rv, hl, _⟩ := I.list hs
  exact minDf_raw (I.ok.hd hc) hl.isList rv.ints (fun e h' tk hk => ⟨.non, H, I.kept hk, rfl, q0 e⟩) fun h' tk m t' hk h1 h2 => ⟨.int _, H, I.kept hk, ⟨_, rfl⟩, q m h1 h2⟩
def baMinN : OA := fun xs S => match xs with
  | [x] => (lstOf S x).bind fun ys => (intsOf ys).bind fun ns => match ns with
    | [] => some .non
    | n :: r => some (.int (minZ n r))
  | _ => none
theorem se_minN {X : Cx} {G : Gs} {e : Expr} {p pos cp kp : Pos} {k0 : Nat} {ga : MA} (cf : Cfg X) (hm : X.mg "min" = none) (ha : SA X G [e] ga) (hg : Gl X "min" := by rfl)
    (he : backTo pos (starEach [e] X.env) = (false, eval e X.env) :: backTo pos (starEach [] X.env) := by rfl) (hpl : (backTo pos (starEach [e] X.env)).any (·.1) = false := by rfl)
    (hall : (backToKw pos (keywordEach [⟨some "default", .Constant .none k0 cp, kp⟩] X.env)).all (·.1.isSome) = true := by rfl) (hnone : (backToKw pos (keywordEach [⟨some "default", .Constant .none k0 cp, kp⟩] X.env)).any (·.1.isNone) = false := by rfl) (hks : (backToKw pos (keywordEach [⟨some "default", .Constant .none k0 cp, kp⟩] X.env)).filterMap (·.1) = [Str.ofString "default"] := by rfl) :
    SE X G (.Call (.Name "min" p) [e] [⟨some "default", .Constant .none k0 cp, kp⟩] pos) (mBi baMinN ga) := by
  refine ⟨fun Wi tk => (pe_callBK (cr_minDf cf.calm) hg hm (by decide +kernel) (ha.run Wi tk) ((sk_cons (G := G) se_non sk_nil).run Wi tk) (by decide) (by decide) he hpl hall hnone hks).imp ?_⟩
  rintro σ H Q ⟨η, S, γ, he, hs, q⟩
  refine ⟨η, S, γ, he, hs, (Post.seq q).imp fun x H1 ⟨wx, S1, γ1, e1, r1, s1, q1⟩ => ⟨η, S1, γ1, he.mono e1, s1, ?_⟩⟩
  intro zs γ2 H2 e2 rz s2
  cases rz with
  | cons rn rz =>
  cases rz
  cases rn
  cases ew : baMinN wx S1 with
  | none => rw [ew] at q1; exact q1.elim
  | some w =>
    rw [ew] at q1
    unfold baMinN at ew
    split at ew
    · rename_i y
      have r1 := r1.mono e2
      cases r1 with
      | cons r t =>
      cases t
      cases el : lstOf S1 y with
      | none => rw [el] at ew; cases ew
      | some ys =>
        rw [el] at ew
        cases en : intsOf ys with
        | none =>
          have h : (intsOf ys).bind _ = some w := ew
          rw [en] at h; cases h
        | some ns =>
          have h : (intsOf ys).bind _ = some w := ew
          rw [en] at h
          obtain ⟨a, vs, rfl, hs, q⟩ := lst_or s2 el r
          have ev := intsOf_reps' q en
          subst ev
          refine ⟨a, ns, rfl, rfl, hs, fun e => ?_, fun m hm hle => ?_⟩
          · subst e
            cases h
            exact q1 _ γ2 H2 e2 .non s2
          · cases ns with
            | nil => cases hm
            | cons n rr =>
              cases h
              obtain ⟨h1, h2, h3⟩ := minZ_le rr n
              have e : m = minZ n rr := by
                have a1 : minZ n rr ≤ m := by
                  rcases List.mem_cons.mp hm with z | z
                  · rw [z]; exact h2
                  · exact h3 m z
                have a2 : m ≤ minZ n rr := by
                  rcases h1 with z | z
                  · rw [z]; exact hle _ (List.mem_cons_self ..)
                  · exact hle _ (List.mem_cons_of_mem _ z)
                omega
              rw [e]
              exact q1 _ γ2 H2 e2 (.int _) s2
    · cases ew
end Mp
namespace Mp
open PySem PySem.Spec PyProof.Rows L2
/-- == where both may be {} -/
def opEqE : O2 := fun x y S => match x, y with
  | .dct [.bl false] [], .dct [.bl false] [] => some (.bl true)
  | x, y => opEq x y S
theorem o2_eqE {X : Cx} {G : Gs} (hu : X.A.units + 65 < cLine) : OpR X (compareOp .Eq) (rOf X.K G opEqE) := by
  intro pins s σ H x y v u Q I rx ry h
  obtain ⟨wx, wy, S, γ, w, r1, r2, ss, e, k⟩ := h
  unfold opEqE at e
  split at e
  · cases e
    cases r1 with
    | dct d1 f1 q1 =>
    cases r2 with
    | dct d2 f2 q2 =>
    obtain ⟨kvs1, h1, e1, e1'⟩ := dct_k d1
    obtain ⟨kvs2, h2, e2, e2'⟩ := dct_k d2
    have z1 : kvs1 = [] := List.map_eq_nil_iff.mp e1.symm
    have z2 : kvs2 = [] := List.map_eq_nil_iff.mp e2.symm
    subst z1 z2
    exact op_eq_dict (by omega) pins s σ H _ _ v u Q I rx ry ⟨_, _, [], rfl, rfl, h1, h2, List.nodup_nil, fun p hp => absurd hp (List.not_mem_nil), k _ γ H Ext.refl (.bl _) ss⟩
  · exact o2_eq (by omega) pins s σ H x y v u Q I rx ry ⟨wx, wy, S, γ, w, r1, r2, ss, e, k⟩
end Mp
namespace Mp
open PySem PySem.Spec PyProof.Rows L2
def opMulS : O2 := fun x y S => match x, y with
  | .str [c], .int k => if 1 ≤ k ∧ k ≤ 1000 then some (.str (List.replicate k.toNat c)) else none
  | x, y => opMulT x y S
theorem rep_cps (c : Nat) : ∀ (m : Nat) (acc : Array Nat), (List.replicate m #[c]).foldl (· ++ ·) acc = acc ++ (List.replicate m c).toArray
  | 0, acc => by simp
  | m + 1, acc => by
    rw [List.replicate_succ, List.foldl_cons, rep_cps c m, List.replicate_succ, Array.append_assoc]
    refine congrArg (acc ++ ·) (Array.ext' ?_)
    simp
theorem o2_mulS {X : Cx} {G : Gs} : OpR X (binaryOp .Mult) (rOf X.K G opMulS) := by
  intro pins s σ H x y v u Q I rx ry h
  obtain ⟨wx, wy, S, γ, w, r1, r2, ss, h, k⟩ := h
  unfold opMulS at h
  split at h
  · rename_i c n
    split at h
    · rename_i hl
      cases h
      cases r1 with
      | str _ h1 h2 =>
      cases r2
      obtain ⟨t, rfl⟩ := rx
      obtain ⟨t', rfl⟩ := ry
      have rep : ∀ γ' H', Rep X.K G γ' H' (.str (List.replicate n.toNat c)) (.str ⟨(List.replicate n.toNat c).toArray⟩) := fun γ' H' => .str _ (fun d hd => by
        rw [(List.mem_replicate.mp hd).2]
        exact h1 c (List.mem_singleton.mpr rfl)) (by rw [List.length_replicate, sizeLine_eq]; omega)
      have hn1 : ¬ n < 1 := by omega
      have hlen : (⟨[c].toArray⟩ : Str).length = 1 := rfl
      refine PySem.P.mul_str ?_ (fun _ _ => ?_) (fun _ _ => ?_) ?_
      · have a : ¬ n < -(2 ^ 63 : Int) := by omega
        have b : ¬ n ≥ 2 ^ 63 := by omega
        rw [decide_eq_false a, decide_eq_false b] <;> rfl
      · rw [hlen]
        have : (1 : Int) ≤ (2 ^ 63 - 1) / n := by
          rw [Int.le_ediv_iff_mul_le (by omega)]
          omega
        have e : ((1 : Nat) : Int) = 1 := rfl
        rw [e]
        omega
      · rw [hlen, Nat.one_mul]
        unfold Builtin.Str.tooLong
        have : n.toNat ≤ 1000 := by omega
        first
          | exact decide_eq_false (by omega)
          | (rw [sizeLine_eq]; exact decide_eq_false (by omega))
      · rw [if_neg hn1]
        by_cases e1 : n = 1
        · subst e1
          rw [if_pos (by rfl)]
          exact ⟨.str _, H, I, ⟨t, rfl⟩, k _ γ H Ext.refl (rep γ H) ss⟩
        · rw [if_neg (by
            rw [hlen]
            simp [e1])]
          have ec : (List.replicate n.toNat (⟨[c].toArray⟩ : Str).cps).foldl (· ++ ·) #[] = (List.replicate n.toNat c).toArray := by
            have := rep_cps c n.toNat #[]
            rw [show ((⟨[c].toArray⟩ : Str).cps) = #[c] from rfl, this]
            simp
          rw [ec]
          refine ⟨?_, ⟨.str _, H, I.tok _, ⟨_, rfl⟩, k _ γ H Ext.refl (rep γ H) ss⟩⟩
          show ((List.replicate n.toNat c).toArray.size) ≤ _
          simp only [List.size_toArray, List.length_replicate]
          have : n.toNat ≤ 1000 := by omega
          first
            | omega
            | (rw [sizeLine_eq]; omega)
    · cases h
  · exact o2_mulT pins s σ H x y v u Q I rx ry ⟨_, _, S, γ, w, r1, r2, ss, h, k⟩
end Mp
namespace Lw
open Mp
def isr_InvalidCard (c : Nat) : Bool := ([1] : List Nat).contains c
def is_InvalidCard (c : Nat) : Bool := isr_InvalidCard (ixN 2 c)
def flr_given (c : Nat) : Bool := ([0, 1] : List Nat).contains c
def fl_given (c : Nat) : Bool := flr_given (ixN 2 c)
def b_is_whole (φ : Fns) : MS := sRet (mAnd (mUn (opIsi 2) (mVar 0)) (mNot (mUn (opIsi 1) (mVar 0))))
def b_is_between (φ : Fns) : MS := sRet (mAnd (mCall φ 0 (maCons (mVar 0) (maNil))) (mChain opLe2 opLe2 (mVar 1) (mVar 0) (mVar 2)))
def b_is_text_of (φ : Fns) : MS := sRet (mAnd (mUn (opIsi 3) (mVar 0)) (mBi baAll (maCons (mComp (miSeq (mVar 0)) [2] (gVar 2) (mtYes) (mBin opInD (mVar 2) (mVar 1))) (maNil))))
def b_is_mark_number (φ : Fns) : MS := sRet (mCall φ 1 (maCons (mVar 0) (maCons (mC (.int 1)) (maCons (mC (.int 4)) (maNil)))))
def b_is_card_of (φ : Fns) : MS := sRet (mAnd (mCall φ 2 (maCons (mVar 1) (maCons (mC (.str [48, 49, 50])) (maNil)))) (mBin opEq (mBi baLen (maCons (mVar 1) (maNil))) (mVar 0)))
def b_is_any_card (φ : Fns) : MS := sRet (mAnd (mCall φ 2 (maCons (mVar 0) (maCons (mC (.str [48, 49, 50])) (maNil)))) (mCall φ 3 (maCons (mBi baLen (maCons (mVar 0) (maNil))) (maNil))))
def b_sorts_of (φ : Fns) : MS := sRet (mComp (miSeq (mVar 0)) [1] (gVar 1) (mtYes) (mMeth 3 omIndex012 (mC (.str [48, 49, 50])) (maCons (mVar 1) (maNil))))
def b_card_of_sorts (φ : Fns) : MS := sRet (mJoin (mC (.str [])) (mComp (miSeq (mVar 0)) [1] (gVar 1) (mtYes) (mBin opIx (mC (.str [48, 49, 50])) (mBin opMod (mVar 1) (mBi baLen (maCons (mC (.str [48, 49, 50])) (maNil)))))))
def b_third_of (φ : Fns) : MS := sRet (mCall φ 7 (maCons (mComp (miAll zipG2 (maCons (mCall φ 6 (maCons (mVar 0) (maNil))) (maCons (mCall φ 6 (maCons (mVar 1) (maNil))) (maNil)))) [2, 3] (gTupW (gsCons (gVar 2) (gsCons (gVar 3) (gsNil)))) (mtYes) (mBin opSub (mBin opSub (mC (.int 0)) (mVar 2)) (mVar 3))) (maNil)))
def b_check_marks (φ : Fns) : MS := sIf (mTNot (mTru (mCall φ 3 (maCons (mVar 0) (maNil))))) (sRaise 0 (mVar 0)) (sNx)
def b_check_card (φ : Fns) : MS := sIf (mTNot (mTru (mCall φ 4 (maCons (mVar 0) (maCons (mVar 1) (maNil)))))) (sRaise 1 (mVar 1)) (sNx)
def b_check_any_card (φ : Fns) : MS := sIf (mTNot (mTru (mCall φ 5 (maCons (mVar 0) (maNil))))) (sRaise 1 (mVar 0)) (sNx)
def b_check_two_cards (φ : Fns) : MS := sSeq (sDrop (mCall φ 11 (maCons (mVar 0) (maNil)))) (sDrop (mCall φ 10 (maCons (mBi baLen (maCons (mVar 0) (maNil))) (maCons (mVar 1) (maNil)))))
def b_check_three_cards (φ : Fns) : MS := sSeq (sDrop (mCall φ 12 (maCons (mVar 0) (maCons (mVar 1) (maNil))))) (sDrop (mCall φ 10 (maCons (mBi baLen (maCons (mVar 0) (maNil))) (maCons (mVar 2) (maNil)))))
def b_is_lot_by (φ : Fns) : MS := sRet (mAnd (mBin opNe (mVar 0) (mVar 1)) (mBin opEq (mCall φ 8 (maCons (mVar 0) (maCons (mVar 1) (maNil)))) (mVar 2)))
def b_odd_mark_of (φ : Fns) : MS := sSeq (sSet 3 (mComp (miAll enumZ3 (maCons (mVar 0) (maCons (mVar 1) (maCons (mVar 2) (maNil))))) [4, 5] (gTupW (gsCons (gVar 4) (gsCons (gVar 5) (gsNil)))) (mTCmp opEq (mSet lenSetR (mVar 5)) (mC (.int 2))) (mVar 4))) (sRet (mBi baMinN (maCons (mVar 3) (maNil))))
def b_third (φ : Fns) : MS := sSeq (sDrop (mCall φ 12 (maCons (mVar 0) (maCons (mVar 1) (maNil))))) (sRet (mCall φ 8 (maCons (mVar 0) (maCons (mVar 1) (maNil)))))
def b_is_lot (φ : Fns) : MS := sSeq (sDrop (mCall φ 13 (maCons (mVar 0) (maCons (mVar 1) (maCons (mVar 2) (maNil)))))) (sRet (mCall φ 14 (maCons (mVar 0) (maCons (mVar 1) (maCons (mVar 2) (maNil))))))
def b_odd_mark (φ : Fns) : MS := sSeq (sDrop (mCall φ 13 (maCons (mVar 0) (maCons (mVar 1) (maCons (mVar 2) (maNil)))))) (sRet (mCall φ 15 (maCons (mVar 0) (maCons (mVar 1) (maCons (mVar 2) (maNil))))))
def b_is_card (φ : Fns) : MS := sSeq (sDrop (mCall φ 9 (maCons (mVar 0) (maNil)))) (sRet (mCall φ 4 (maCons (mVar 0) (maCons (mVar 1) (maNil)))))
def p_law_well_3b (φ : Fns) : MS := sSet 3 (mBin opMod (mBi baInt (maCons (mBin opAdd (mBin opAdd (mBin opMul (mVar 3) (mC (.int 45013))) (mBin opMod (mBi baInt (maCons (mVar 4) (maNil))) (mC (.int 2147483399)))) (mC (.int 37))) (maNil))) (mC (.int 2147483563)))
def p_law_well_3 (φ : Fns) : MS := sFor (miSeq (mBin opAdd (mSl (mVar 0) (moNone) (moSome (mC (.int 5)))) (mLst (maCons (mVar 2) (maNil))))) (gVar 4) (p_law_well_3b φ)
def b_law_well (φ : Fns) : MS := sSeq (sSet 2 (mIf (mTCmp opLt (mVar 1) (mBi baLen (maCons (mVar 0) (maNil)))) (mBi baInt (maCons (mBin opIx (mVar 0) (mVar 1)) (maNil))) (mBin opAdd (mBin opAdd (mBin opMul (mC (.int 9311)) (mVar 1)) (mBin opMod (mBi baInt (maCons (mBi baSum (maCons (mSl (mVar 0) (moNone) (moSome (mC (.int 2)))) (maNil))) (maNil))) (mC (.int 1000003)))) (mC (.int 71))))) (sSeq (sSet 3 (mBin opAdd (mC (.int 50021)) (mBin opMul (mC (.int 1013)) (mVar 1)))) (sSeq (p_law_well_3 φ) (sRet (mLstS (maCons (mIf (mTOr (mTCmp opLt (mVar 2) (mC (.int 0))) (mTCmp opGe (mVar 2) (mBin opPow (mC (.int 10)) (mC (.int 17))))) (mBin opMod (mBi baInt (maCons (mBi baAbs (maCons (mVar 2) (maNil))) (maNil))) (mBin opPow (mC (.int 10)) (mC (.int 60)))) (mC (.int 0))) (maCons (mVar 3) (maCons (mC (.int 0)) (maNil))))))))
def b_law_take (φ : Fns) : MS := sSeq (sIf (mTCmp opGt (mBin opIx (mVar 0) (mC (.int 0))) (mC (.int 0))) (sSeq (sAsg (mBi baDivmod (maCons (mBin opIx (mVar 0) (mC (.int 0))) (maCons (mVar 1) (maNil)))) (gTupW (gsCons (gIdx (mVar 0) (mC (.int 0))) (gsCons (gVar 2) (gsNil))))) (sRet (mVar 2))) (sNx)) (sSeq (sAsg (mBin opAdd (mBin opIx (mVar 0) (mC (.int 2))) (mC (.int 1))) (gIdx (mVar 0) (mC (.int 2)))) (sSeq (sSet 3 (mBin opAdd (mBin opMod (mBi baInt (maCons (mBin opIx (mVar 0) (mC (.int 1))) (maNil))) (mC (.int 28657))) (mC (.int 40009)))) (sSeq (sAsg (mBin opMod (mBi baInt (maCons (mBin opAdd (mBin opAdd (mBin opMul (mBin opIx (mVar 0) (mC (.int 1))) (mVar 3)) (mBin opMul (mC (.int 50023)) (mBin opIx (mVar 0) (mC (.int 2))))) (mC (.int 17))) (maNil))) (mC (.int 2147483563))) (gIdx (mVar 0) (mC (.int 1)))) (sRet (mBin opMod (mBi baInt (maCons (mBin opDiv (mBin opIx (mVar 0) (mC (.int 1))) (mC (.int 83))) (maNil))) (mVar 1))))))
def b_law_pick (φ : Fns) : MS := sRet (mBin opIx (mVar 1) (mCall φ 21 (maCons (mVar 0) (maCons (mBi baLen (maCons (mVar 1) (maNil))) (maNil)))))
def b_law_is (φ : Fns) : MS := sSeq (sIf (mTru (mUn (opIsi 4) (mVar 1))) (sSeq (sIf (mTOr (mTNot (mTru (mUn (opIsi 4) (mVar 0)))) (mTCmp opNe (mBi baLen (maCons (mVar 0) (maNil))) (mBi baLen (maCons (mVar 1) (maNil))))) (sRet (mC (.bl false))) (sNx)) (sRet (mBi baAll (maCons (mComp (miAll enumW2 (maCons (mVar 1) (maNil))) [2, 3] (gTupW (gsCons (gVar 2) (gsCons (gVar 3) (gsNil)))) (mtYes) (mCall φ 23 (maCons (mBin opIx (mVar 0) (mVar 2)) (maCons (mVar 3) (maNil))))) (maNil))))) (sNx)) (sSeq (sIf (mTru (mUn (opIsi 5) (mVar 1))) (sRet (mAnd (mUn (opIsi 5) (mVar 0)) (mCall φ 23 (maCons (mBi baTuple (maCons (mVar 0) (maNil))) (maCons (mBi baTuple (maCons (mVar 1) (maNil))) (maNil)))))) (sNx)) (sSeq (sIf (mTru (mUn (opIsi 6) (mVar 1))) (sRet (mAnd (mUn (opIsi 6) (mVar 0)) (mBin opEqE (mVar 0) (mVar 1)))) (sNx)) (sSeq (sIf (mTOr (mTUn opIsN (mVar 1)) (mTOr (mTCmp opIsB (mVar 1) (mC (.bl true))) (mTCmp opIsB (mVar 1) (mC (.bl false))))) (sRet (mIf (mTUn opIsN (mVar 1)) (mUn opIsN (mVar 0)) (mIf (mTCmp opIsB (mVar 1) (mC (.bl true))) (mBin opIsB (mVar 0) (mC (.bl true))) (mBin opIsB (mVar 0) (mC (.bl false)))))) (sNx)) (sSeq (sIf (mTru (mUn (opIsi 2) (mVar 1))) (sRet (mAnd (mUn (opIsi 2) (mVar 0)) (mAnd (mNot (mUn (opIsi 1) (mVar 0))) (mBin opEqE (mVar 0) (mVar 1))))) (sNx)) (sRet (mAnd (mUn (opIsi 3) (mVar 0)) (mBin opEqE (mVar 0) (mVar 1))))))))
def p_law_deck_2b2b (φ : Fns) : MS := sSet 3 (mBin opAdd (mVar 3) (mComp (miSeq (mC (.str [48, 49, 50]))) [5] (gVar 5) (mtYes) (mBin opAdd (mVar 4) (mVar 5))))
def p_law_deck_2b2 (φ : Fns) : MS := sFor (miSeq (mVar 1)) (gVar 4) (p_law_deck_2b2b φ)
def p_law_deck_2b (φ : Fns) : MS := sSeq (sSet 3 (mLst (maNil))) (sSeq (p_law_deck_2b2 φ) (sSet 1 (mVar 3)))
def p_law_deck_2 (φ : Fns) : MS := sFor (miRng rng1 (maCons (mVar 0) (maNil))) (gVar 2) (p_law_deck_2b φ)
def b_law_deck (φ : Fns) : MS := sSeq (sSet 1 (mLst (maCons (mC (.str [])) (maNil)))) (sSeq (p_law_deck_2 φ) (sRet (mBi baTuple (maCons (mVar 1) (maNil)))))
def b_law_third (φ : Fns) : MS := sRet (mJoin (mC (.str [])) (mComp (miRng rng1 (maCons (mBi baLen (maCons (mVar 0) (maNil))) (maNil))) [2] (gVar 2) (mtYes) (mBin opIx (mC (.str [48, 49, 50])) (mBin opMod (mBi baInt (maCons (mBin opSub (mBin opSub (mC (.int 6)) (mBi baInt (maCons (mBin opIx (mVar 0) (mVar 2)) (maNil)))) (mBi baInt (maCons (mBin opIx (mVar 1) (mVar 2)) (maNil)))) (maNil))) (mC (.int 3))))))
def b_law_drawn_card (φ : Fns) : MS := sRet (mJoin (mC (.str [])) (mComp (miRng rng1 (maCons (mVar 1) (maNil))) [2] (gVar 2) (mtYes) (mBin opIx (mC (.str [48, 49, 50])) (mCall φ 21 (maCons (mVar 0) (maCons (mC (.int 3)) (maNil)))))))
def b_law_pair_right (φ : Fns) : MS := sSeq (sAsg (mTup (maCons (mCall φ 25 (maCons (mVar 0) (maCons (mVar 1) (maNil)))) (maCons (mBi baLen (maCons (mVar 0) (maNil))) (maNil)))) (gTupW (gsCons (gVar 3) (gsCons (gVar 4) (gsNil))))) (sSeq (sSet 5 (mLst (maCons (mCall φ 16 (maCons (mVar 0) (maCons (mVar 1) (maNil)))) (maCons (mCallK φ 16 [1, 0] (maCons (mVar 1) (maCons (mVar 0) (maNil)))) (maCons (mCall φ 16 (maCons (mVar 1) (maCons (mVar 0) (maNil)))) (maCons (mCall φ 16 (maCons (mVar 0) (maCons (mVar 3) (maNil)))) (maCons (mCall φ 16 (maCons (mVar 3) (maCons (mVar 1) (maNil)))) (maCons (mCall φ 19 (maCons (mVar 4) (maCons (mVar 3) (maNil)))) (maCons (mCall φ 16 (maCons (mVar 0) (maCons (mVar 0) (maNil)))) (maNil)))))))))) (sSeq (sIf (mTNot (mTru (mCall φ 23 (maCons (mVar 5) (maCons (mLst (maCons (mVar 3) (maCons (mVar 3) (maCons (mVar 3) (maCons (mVar 1) (maCons (mVar 0) (maCons (mC (.bl true)) (maCons (mVar 0) (maNil))))))))) (maNil)))))) (sRet (mC (.bl false))) (sNx)) (sSeq (sIf (mTCmp opNe (mComp (miRng rng1 (maCons (mVar 4) (maNil))) [7] (gVar 7) (mTCmp opNe (mBin opMod (mBi baInt (maCons (mBin opAdd (mBin opAdd (mBi baInt (maCons (mBin opIx (mVar 0) (mVar 7)) (maNil))) (mBi baInt (maCons (mBin opIx (mVar 1) (mVar 7)) (maNil)))) (mBi baInt (maCons (mBin opIx (mVar 3) (mVar 7)) (maNil)))) (maNil))) (mC (.int 3))) (mC (.int 0))) (mVar 7)) (mLst (maNil))) (sRet (mC (.bl false))) (sNx)) (sSeq (sSet 6 (mComp (miSeq (mLst (maCons (mVar 0) (maCons (mVar 1) (maCons (mVar 3) (maNil)))))) [8] (gVar 8) (mtYes) (mJoin (mC (.str [])) (mComp (miRng rng1 (maCons (mVar 4) (maNil))) [7] (gVar 7) (mtYes) (mBin opIx (mC (.str [48, 49, 50])) (mBin opMod (mBi baInt (maCons (mBin opAdd (mBi baInt (maCons (mBin opIx (mVar 8) (mVar 7)) (maNil))) (mBi baInt (maCons (mBin opIx (mVar 2) (mVar 7)) (maNil)))) (maNil))) (mC (.int 3)))))))) (sRet (mCall φ 23 (maCons (mLst (maCons (mCall φ 16 (maCons (mBin opIx (mVar 6) (mC (.int 0))) (maCons (mBin opIx (mVar 6) (mC (.int 1))) (maNil)))) (maCons (mCall φ 17 (maCons (mVar 0) (maCons (mVar 1) (maCons (mVar 3) (maNil))))) (maNil)))) (maCons (mLst (maCons (mBin opIx (mVar 6) (mC (.int 2))) (maCons (mBin opNe (mVar 0) (mVar 1)) (maNil)))) (maNil)))))))))
def b_law_three_right (φ : Fns) : MS := sSeq (sSet 3 (mComp (miRng rng1 (maCons (mBi baLen (maCons (mVar 0) (maNil))) (maNil))) [9] (gVar 9) (mtYes) (mSet lenSetR (mLst (maCons (mBin opIx (mVar 0) (mVar 9)) (maCons (mBin opIx (mVar 1) (mVar 9)) (maCons (mBin opIx (mVar 2) (mVar 9)) (maNil)))))))) (sSeq (sSet 4 (mComp (miRng rng1 (maCons (mBi baLen (maCons (mVar 0) (maNil))) (maNil))) [9] (gVar 9) (mTCmp opEq (mBin opIx (mVar 3) (mVar 9)) (mC (.int 2))) (mVar 9))) (sSeq (sSet 5 (mAnd (mBin opEq (mVar 4) (mLst (maNil))) (mBin opNe (mVar 0) (mVar 1)))) (sSeq (sSet 6 (mIf (mTCmp opNe (mVar 4) (mLst (maNil))) (mBin opIx (mVar 4) (mC (.int 0))) (mC .non))) (sSeq (sSet 7 (mLst (maCons (mTup (maCons (mVar 0) (maCons (mVar 1) (maCons (mVar 2) (maNil))))) (maCons (mTup (maCons (mVar 2) (maCons (mVar 0) (maCons (mVar 1) (maNil))))) (maCons (mTup (maCons (mVar 1) (maCons (mVar 0) (maCons (mVar 2) (maNil))))) (maCons (mTup (maCons (mVar 2) (maCons (mVar 1) (maCons (mVar 0) (maNil))))) (maNil))))))) (sSeq (sIf (mTCmp opNe (mComp (miSeq (mVar 7)) [10] (gVar 10) (mTNot (mTru (mCall φ 23 (maCons (mLst (maCons (mCall φ 17 (maCons (mBin opIx (mVar 10) (mC (.int 0))) (maCons (mBin opIx (mVar 10) (mC (.int 1))) (maCons (mBin opIx (mVar 10) (mC (.int 2))) (maNil))))) (maCons (mCall φ 18 (maCons (mBin opIx (mVar 10) (mC (.int 0))) (maCons (mBin opIx (mVar 10) (mC (.int 1))) (maCons (mBin opIx (mVar 10) (mC (.int 2))) (maNil))))) (maNil)))) (maCons (mLst (maCons (mVar 5) (maCons (mVar 6) (maNil)))) (maNil)))))) (mVar 10)) (mLst (maNil))) (sRet (mC (.bl false))) (sNx)) (sSeq (sSet 8 (mLst (maCons (mCallK φ 17 [2, 1, 0] (maCons (mVar 2) (maCons (mVar 1) (maCons (mVar 0) (maNil))))) (maCons (mCallK φ 18 [2, 1, 0] (maCons (mVar 2) (maCons (mVar 1) (maCons (mVar 0) (maNil))))) (maNil))))) (sRet (mAnd (mCall φ 23 (maCons (mVar 8) (maCons (mLst (maCons (mVar 5) (maCons (mVar 6) (maNil)))) (maNil)))) (mBin opEq (mVar 5) (mAnd (mBin opNe (mVar 0) (mVar 1)) (mBin opEq (mCall φ 25 (maCons (mVar 0) (maCons (mVar 1) (maNil)))) (mVar 2))))))))))))
def b_law_caught (φ : Fns) : MS := sTry 4 (sRet (mLst (maCons (mC (.str [116, 111, 108, 100])) (maCons (mIf (mTCmp opEq (mVar 0) (mC (.int 0))) (mCall φ 16 (maCons (mVar 1) (maCons (mVar 2) (maNil)))) (mIf (mTCmp opEq (mVar 0) (mC (.int 1))) (mCall φ 17 (maCons (mVar 1) (maCons (mVar 2) (maCons (mVar 3) (maNil))))) (mCall φ 18 (maCons (mVar 1) (maCons (mVar 2) (maCons (mVar 3) (maNil))))))) (maNil))))) (sRet (mLst (maCons (mIf (mTru (mIsX is_InvalidCard (mVar 4))) (mC (.str [99, 97, 114, 100])) (mC (.str [111, 100, 100]))) (maCons (mXF fl_given (mVar 4)) (maNil)))))
def p_law_refused_right_4b (φ : Fns) : MS := sIf (mTNot (mTru (mCall φ 23 (maCons (mLst (maCons (mCall φ 29 (maCons (mVar 5) (maCons (mVar 3) (maCons (mC .non) (maCons (mC .non) (maNil)))))) (maCons (mCall φ 29 (maCons (mVar 5) (maCons (mVar 1) (maCons (mVar 4) (maCons (mC .non) (maNil)))))) (maNil)))) (maCons (mLst (maCons (mLst (maCons (mC (.str [99, 97, 114, 100])) (maCons (mVar 3) (maNil)))) (maCons (mLst (maCons (mC (.str [99, 97, 114, 100])) (maCons (mVar 4) (maNil)))) (maNil)))) (maNil)))))) (sRet (mC (.bl false))) (sNx)
def p_law_refused_right_4 (φ : Fns) : MS := sFor (miRng rng1 (maCons (mC (.int 3)) (maNil))) (gVar 5) (p_law_refused_right_4b φ)
def b_law_refused_right (φ : Fns) : MS := sSeq (sSet 2 (mBi baLen (maCons (mVar 1) (maNil)))) (sSeq (sSet 3 (mCall φ 22 (maCons (mVar 0) (maCons (mLst (maCons (mBin opMulS (mC (.str [51])) (mVar 2)) (maCons (mC (.str [])) (maCons (mC (.str [48, 48, 48, 48, 48])) (maCons (mC .non) (maCons (mC (.int 0)) (maCons (mC (.bl true)) (maCons (mTup (maCons (mC (.str [48])) (maNil))) (maCons (mLst (maCons (mC (.str [48, 48])) (maNil))) (maCons (mBin opAdd (mC (.str [32])) (mSl (mVar 1) (moSome (mC (.int 1))) (moNone))) (maCons (mBin opMulS (mC (.str [120])) (mVar 2)) (maCons (mDct0) (maCons (mC (.str [48, 49, 120, 50])) (maNil)))))))))))))) (maNil))))) (sSeq (sSet 4 (mCall φ 22 (maCons (mVar 0) (maCons (mLst (maCons (mVar 3) (maCons (mBin opAdd (mVar 1) (mC (.str [48]))) (maCons (mSl (mVar 1) (moSome (mC (.int 1))) (moNone)) (maCons (mBin opMulS (mC (.str [48])) (mBin opAdd (mVar 2) (mC (.int 1)))) (maCons (mTup (maCons (mVar 1) (maNil))) (maCons (mC .non) (maNil)))))))) (maNil))))) (sSeq (p_law_refused_right_4 φ) (sRet (mCall φ 23 (maCons (mComp (miSeq (mLst (maCons (mC (.int 1)) (maCons (mC (.int 2)) (maNil))))) [5] (gVar 5) (mtYes) (mCall φ 29 (maCons (mVar 5) (maCons (mVar 1) (maCons (mVar 1) (maCons (mVar 4) (maNil))))))) (maCons (mBin opMul (mLst (maCons (mLst (maCons (mC (.str [99, 97, 114, 100])) (maCons (mVar 4) (maNil)))) (maNil))) (mC (.int 2))) (maNil))))))))
def p_law_right_1b1b (φ : Fns) : MS := sSeq (sPar3 3 4 5 (maCons (mCall φ 26 (maCons (mVar 0) (maCons (mVar 1) (maNil)))) (maCons (mCall φ 26 (maCons (mVar 0) (maCons (mVar 1) (maNil)))) (maCons (mCall φ 26 (maCons (mVar 0) (maCons (mVar 1) (maNil)))) (maNil))))) (sSeq (sIf (mTOr (mTNot (mTru (mCall φ 27 (maCons (mVar 3) (maCons (mVar 4) (maCons (mVar 5) (maNil))))))) (mTOr (mTNot (mTru (mCall φ 28 (maCons (mVar 3) (maCons (mVar 4) (maCons (mVar 5) (maNil))))))) (mTNot (mTru (mCall φ 28 (maCons (mVar 3) (maCons (mVar 4) (maCons (mCall φ 25 (maCons (mVar 3) (maCons (mVar 4) (maNil)))) (maNil))))))))) (sRet (mC (.bl false))) (sNx)) (sIf (mTOr (mTNot (mTru (mCall φ 28 (maCons (mVar 3) (maCons (mVar 3) (maCons (mVar 5) (maNil))))))) (mTOr (mTNot (mTru (mCall φ 28 (maCons (mVar 3) (maCons (mVar 3) (maCons (mVar 3) (maNil))))))) (mTNot (mTru (mCall φ 30 (maCons (mVar 0) (maCons (mVar 3) (maNil)))))))) (sRet (mC (.bl false))) (sNx)))
def p_law_right_1b1 (φ : Fns) : MS := sFor (miRng rng1 (maCons (mC (.int 6)) (maNil))) (gVar 2) (p_law_right_1b1b φ)
def p_law_right_1b (φ : Fns) : MS := p_law_right_1b1 φ
def p_law_right_1 (φ : Fns) : MS := sFor (miSeq (mLst (maCons (mC (.int 1)) (maCons (mC (.int 2)) (maCons (mC (.int 3)) (maCons (mC (.int 4)) (maNil))))))) (gVar 1) (p_law_right_1b φ)
def p_law_right_2b (φ : Fns) : MS := sSeq (sSet 6 (mCall φ 26 (maCons (mVar 0) (maCons (mVar 1) (maNil))))) (sIf (mTCmp opNe (mComp (miSeq (mCall φ 24 (maCons (mVar 1) (maNil)))) [3] (gVar 3) (mTCmp opNe (mComp (miSeq (mCall φ 24 (maCons (mVar 1) (maNil)))) [4] (gVar 4) (mTNot (mTru (mCall φ 27 (maCons (mVar 3) (maCons (mVar 4) (maCons (mVar 6) (maNil))))))) (mVar 4)) (mLst (maNil))) (mVar 3)) (mLst (maNil))) (sRet (mC (.bl false))) (sNx))
def p_law_right_2 (φ : Fns) : MS := sFor (miSeq (mLst (maCons (mC (.int 1)) (maCons (mC (.int 2)) (maNil))))) (gVar 1) (p_law_right_2b φ)
def b_law_right (φ : Fns) : MS := sSeq (p_law_right_1 φ) (sSeq (p_law_right_2 φ) (sRet (mC (.bl true))))
def b_law (φ : Fns) : MS := sRet (mBi baAll (maCons (mComp (miRng rng1 (maCons (mBi baMax2 (maCons (mC (.int 2)) (maCons (mBi baMin2 (maCons (mBi baLen (maCons (mVar 0) (maNil))) (maCons (mC (.int 3)) (maNil)))) (maNil)))) (maNil))) [1] (gVar 1) (mtYes) (mCall φ 31 (maCons (mCall φ 20 (maCons (mVar 0) (maCons (mVar 1) (maNil)))) (maNil)))) (maNil)))
def T : List Mp.Fun := [⟨1, 1, false, true, b_is_whole⟩, ⟨3, 3, false, true, b_is_between⟩, ⟨2, 3, false, true, b_is_text_of⟩, ⟨1, 1, false, true, b_is_mark_number⟩, ⟨2, 2, false, true, b_is_card_of⟩, ⟨1, 1, false, true, b_is_any_card⟩, ⟨1, 2, false, true, b_sorts_of⟩, ⟨1, 2, false, true, b_card_of_sorts⟩, ⟨2, 4, false, true, b_third_of⟩, ⟨1, 1, false, true, b_check_marks⟩, ⟨2, 2, false, true, b_check_card⟩, ⟨1, 1, false, true, b_check_any_card⟩, ⟨2, 2, false, true, b_check_two_cards⟩, ⟨3, 3, false, true, b_check_three_cards⟩, ⟨3, 3, false, true, b_is_lot_by⟩, ⟨3, 6, false, true, b_odd_mark_of⟩, ⟨2, 2, false, true, b_third⟩, ⟨3, 3, false, true, b_is_lot⟩, ⟨3, 3, false, true, b_odd_mark⟩, ⟨2, 2, false, true, b_is_card⟩, ⟨2, 5, true, false, b_law_well⟩, ⟨2, 4, false, false, b_law_take⟩, ⟨2, 2, false, false, b_law_pick⟩, ⟨2, 4, false, true, b_law_is⟩, ⟨1, 6, false, true, b_law_deck⟩, ⟨2, 3, false, true, b_law_third⟩, ⟨2, 3, false, false, b_law_drawn_card⟩, ⟨3, 9, false, true, b_law_pair_right⟩, ⟨3, 11, false, true, b_law_three_right⟩, ⟨4, 5, false, true, b_law_caught⟩, ⟨2, 6, false, false, b_law_refused_right⟩, ⟨1, 7, false, false, b_law_right⟩, ⟨1, 2, false, true, b_law⟩]
end Lw
namespace Lw
open PySem PySem.Spec PyProof.Rows L2 Mp
def top (i : Nat) : Stmt := PySem.Challenge.pw_threealike_k04_whole_thirds_of_cards.main.body.getD i (.Pass ⟨0, 0, 0, 0⟩)
def r_is_whole : FnR := ⟨"is_whole", ["value"], top 1⟩
def r_is_between : FnR := ⟨"is_between", ["value", "low", "high"], top 2⟩
def r_is_text_of : FnR := ⟨"is_text_of", ["value", "signs"], top 3⟩
def r_is_mark_number : FnR := ⟨"is_mark_number", ["value"], top 7⟩
def r_is_card_of : FnR := ⟨"is_card_of", ["number", "value"], top 8⟩
def r_is_any_card : FnR := ⟨"is_any_card", ["value"], top 9⟩
def r_sorts_of : FnR := ⟨"sorts_of", ["card"], top 10⟩
def r_card_of_sorts : FnR := ⟨"card_of_sorts", ["sorts"], top 11⟩
def r_third_of : FnR := ⟨"third_of", ["card", "other"], top 12⟩
def r_check_marks : FnR := ⟨"check_marks", ["number"], top 18⟩
def r_check_card : FnR := ⟨"check_card", ["number", "card"], top 19⟩
def r_check_any_card : FnR := ⟨"check_any_card", ["card"], top 20⟩
def r_check_two_cards : FnR := ⟨"check_two_cards", ["card", "other"], top 21⟩
def r_check_three_cards : FnR := ⟨"check_three_cards", ["card", "other", "third_card"], top 22⟩
def r_is_lot_by : FnR := ⟨"is_lot_by", ["card", "other", "third_card"], top 24⟩
def r_odd_mark_of : FnR := ⟨"odd_mark_of", ["card", "other", "third_card"], top 25⟩
def r_third : FnR := ⟨"third", ["card", "other"], top 27⟩
def r_is_lot : FnR := ⟨"is_lot", ["card", "other", "third_card"], top 28⟩
def r_odd_mark : FnR := ⟨"odd_mark", ["card", "other", "third_card"], top 29⟩
def r_is_card : FnR := ⟨"is_card", ["number", "value"], top 31⟩
def r_law_well : FnR := ⟨"_law_well", ["script", "turn"], top 33⟩
def r_law_take : FnR := ⟨"_law_take", ["well", "many"], top 34⟩
def r_law_pick : FnR := ⟨"_law_pick", ["well", "some"], top 35⟩
def r_law_is : FnR := ⟨"_law_is", ["one", "due"], top 36⟩
def r_law_deck : FnR := ⟨"_law_deck", ["many"], top 37⟩
def r_law_third : FnR := ⟨"_law_third", ["one", "other"], top 38⟩
def r_law_drawn_card : FnR := ⟨"_law_drawn_card", ["well", "many"], top 39⟩
def r_law_pair_right : FnR := ⟨"_law_pair_right", ["one", "other", "by"], top 40⟩
def r_law_three_right : FnR := ⟨"_law_three_right", ["one", "other", "last"], top 41⟩
def r_law_caught : FnR := ⟨"_law_caught", ["which", "one", "other", "last"], top 42⟩
def r_law_refused_right : FnR := ⟨"_law_refused_right", ["well", "card"], top 43⟩
def r_law_right : FnR := ⟨"_law_right", ["well"], top 44⟩
def r_law : FnR := ⟨"law", ["script"], top 45⟩
def N_is_whole : List Str := ["value"]
theorem s_is_whole : FnScope N_is_whole r_is_whole.ps (defScope r_is_whole.st) := ⟨rfl, rfl, rfl, by decide +kernel, rfl, by decide +kernel, by decide +kernel⟩
def N_is_between : List Str := ["value", "low", "high"]
theorem s_is_between : FnScope N_is_between r_is_between.ps (defScope r_is_between.st) := ⟨rfl, rfl, rfl, by decide +kernel, rfl, by decide +kernel, by decide +kernel⟩
def N_is_text_of : List Str := ["value", "signs", "sign"]
theorem s_is_text_of : FnScope N_is_text_of r_is_text_of.ps (defScope r_is_text_of.st) := ⟨rfl, rfl, rfl, by decide +kernel, rfl, by decide +kernel, by decide +kernel⟩
def N_is_mark_number : List Str := ["value"]
theorem s_is_mark_number : FnScope N_is_mark_number r_is_mark_number.ps (defScope r_is_mark_number.st) := ⟨rfl, rfl, rfl, by decide +kernel, rfl, by decide +kernel, by decide +kernel⟩
def N_is_card_of : List Str := ["number", "value"]
theorem s_is_card_of : FnScope N_is_card_of r_is_card_of.ps (defScope r_is_card_of.st) := ⟨rfl, rfl, rfl, by decide +kernel, rfl, by decide +kernel, by decide +kernel⟩
def N_is_any_card : List Str := ["value"]
theorem s_is_any_card : FnScope N_is_any_card r_is_any_card.ps (defScope r_is_any_card.st) := ⟨rfl, rfl, rfl, by decide +kernel, rfl, by decide +kernel, by decide +kernel⟩
def N_sorts_of : List Str := ["card", "sort"]
theorem s_sorts_of : FnScope N_sorts_of r_sorts_of.ps (defScope r_sorts_of.st) := ⟨rfl, rfl, rfl, by decide +kernel, rfl, by decide +kernel, by decide +kernel⟩
def N_card_of_sorts : List Str := ["sorts", "sort"]
theorem s_card_of_sorts : FnScope N_card_of_sorts r_card_of_sorts.ps (defScope r_card_of_sorts.st) := ⟨rfl, rfl, rfl, by decide +kernel, rfl, by decide +kernel, by decide +kernel⟩
def N_third_of : List Str := ["card", "other", "one", "two"]
theorem s_third_of : FnScope N_third_of r_third_of.ps (defScope r_third_of.st) := ⟨rfl, rfl, rfl, by decide +kernel, rfl, by decide +kernel, by decide +kernel⟩
def N_check_marks : List Str := ["number"]
theorem s_check_marks : FnScope N_check_marks r_check_marks.ps (defScope r_check_marks.st) := ⟨rfl, rfl, rfl, by decide +kernel, rfl, by decide +kernel, by decide +kernel⟩
def N_check_card : List Str := ["number", "card"]
theorem s_check_card : FnScope N_check_card r_check_card.ps (defScope r_check_card.st) := ⟨rfl, rfl, rfl, by decide +kernel, rfl, by decide +kernel, by decide +kernel⟩
def N_check_any_card : List Str := ["card"]
theorem s_check_any_card : FnScope N_check_any_card r_check_any_card.ps (defScope r_check_any_card.st) := ⟨rfl, rfl, rfl, by decide +kernel, rfl, by decide +kernel, by decide +kernel⟩
def N_check_two_cards : List Str := ["card", "other"]
theorem s_check_two_cards : FnScope N_check_two_cards r_check_two_cards.ps (defScope r_check_two_cards.st) := ⟨rfl, rfl, rfl, by decide +kernel, rfl, by decide +kernel, by decide +kernel⟩
def N_check_three_cards : List Str := ["card", "other", "third_card"]
theorem s_check_three_cards : FnScope N_check_three_cards r_check_three_cards.ps (defScope r_check_three_cards.st) := ⟨rfl, rfl, rfl, by decide +kernel, rfl, by decide +kernel, by decide +kernel⟩
def N_is_lot_by : List Str := ["card", "other", "third_card"]
theorem s_is_lot_by : FnScope N_is_lot_by r_is_lot_by.ps (defScope r_is_lot_by.st) := ⟨rfl, rfl, rfl, by decide +kernel, rfl, by decide +kernel, by decide +kernel⟩
def N_odd_mark_of : List Str := ["card", "other", "third_card", "some", "at", "sorts"]
theorem s_odd_mark_of : FnScope N_odd_mark_of r_odd_mark_of.ps (defScope r_odd_mark_of.st) := ⟨rfl, rfl, rfl, by decide +kernel, rfl, by decide +kernel, by decide +kernel⟩
def N_third : List Str := ["card", "other"]
theorem s_third : FnScope N_third r_third.ps (defScope r_third.st) := ⟨rfl, rfl, rfl, by decide +kernel, rfl, by decide +kernel, by decide +kernel⟩
def N_is_lot : List Str := ["card", "other", "third_card"]
theorem s_is_lot : FnScope N_is_lot r_is_lot.ps (defScope r_is_lot.st) := ⟨rfl, rfl, rfl, by decide +kernel, rfl, by decide +kernel, by decide +kernel⟩
def N_odd_mark : List Str := ["card", "other", "third_card"]
theorem s_odd_mark : FnScope N_odd_mark r_odd_mark.ps (defScope r_odd_mark.st) := ⟨rfl, rfl, rfl, by decide +kernel, rfl, by decide +kernel, by decide +kernel⟩
def N_is_card : List Str := ["number", "value"]
theorem s_is_card : FnScope N_is_card r_is_card.ps (defScope r_is_card.st) := ⟨rfl, rfl, rfl, by decide +kernel, rfl, by decide +kernel, by decide +kernel⟩
def N_law_well : List Str := ["script", "turn", "own", "stir", "cell"]
theorem s_law_well : FnScope N_law_well r_law_well.ps (defScope r_law_well.st) := ⟨rfl, rfl, rfl, by decide +kernel, rfl, by decide +kernel, by decide +kernel⟩
def N_law_take : List Str := ["well", "many", "figure", "by"]
theorem s_law_take : FnScope N_law_take r_law_take.ps (defScope r_law_take.st) := ⟨rfl, rfl, rfl, by decide +kernel, rfl, by decide +kernel, by decide +kernel⟩
def N_law_pick : List Str := ["well", "some"]
theorem s_law_pick : FnScope N_law_pick r_law_pick.ps (defScope r_law_pick.st) := ⟨rfl, rfl, rfl, by decide +kernel, rfl, by decide +kernel, by decide +kernel⟩
def N_law_is : List Str := ["one", "due", "at", "each"]
theorem s_law_is : FnScope N_law_is r_law_is.ps (defScope r_law_is.st) := ⟨rfl, rfl, rfl, by decide +kernel, rfl, by decide +kernel, by decide +kernel⟩
def N_law_deck : List Str := ["many", "rows", "turn", "longer", "row", "sign"]
theorem s_law_deck : FnScope N_law_deck r_law_deck.ps (defScope r_law_deck.st) := ⟨rfl, rfl, rfl, by decide +kernel, rfl, by decide +kernel, by decide +kernel⟩
def N_law_third : List Str := ["one", "other", "at"]
theorem s_law_third : FnScope N_law_third r_law_third.ps (defScope r_law_third.st) := ⟨rfl, rfl, rfl, by decide +kernel, rfl, by decide +kernel, by decide +kernel⟩
def N_law_drawn_card : List Str := ["well", "many", "at"]
theorem s_law_drawn_card : FnScope N_law_drawn_card r_law_drawn_card.ps (defScope r_law_drawn_card.st) := ⟨rfl, rfl, rfl, by decide +kernel, rfl, by decide +kernel, by decide +kernel⟩
def N_law_pair_right : List Str := ["one", "other", "by", "due", "many", "told", "shifted", "at", "card"]
theorem s_law_pair_right : FnScope N_law_pair_right r_law_pair_right.ps (defScope r_law_pair_right.st) := ⟨rfl, rfl, rfl, by decide +kernel, rfl, by decide +kernel, by decide +kernel⟩
def N_law_three_right : List Str := ["one", "other", "last", "kinds", "two", "due", "odd", "rows", "told", "at", "row"]
theorem s_law_three_right : FnScope N_law_three_right r_law_three_right.ps (defScope r_law_three_right.st) := ⟨rfl, rfl, rfl, by decide +kernel, rfl, by decide +kernel, by decide +kernel⟩
def N_law_caught : List Str := ["which", "one", "other", "last", "e"]
theorem s_law_caught : FnScope N_law_caught r_law_caught.ps (defScope r_law_caught.st) := ⟨rfl, rfl, rfl, by decide +kernel, rfl, by decide +kernel, by decide +kernel⟩
def N_law_refused_right : List Str := ["well", "card", "many", "none", "other", "which"]
theorem s_law_refused_right : FnScope N_law_refused_right r_law_refused_right.ps (defScope r_law_refused_right.st) := ⟨rfl, rfl, rfl, by decide +kernel, rfl, by decide +kernel, by decide +kernel⟩
def N_law_right : List Str := ["well", "many", "turn", "one", "other", "last", "by"]
theorem s_law_right : FnScope N_law_right r_law_right.ps (defScope r_law_right.st) := ⟨rfl, rfl, rfl, by decide +kernel, rfl, by decide +kernel, by decide +kernel⟩
def N_law : List Str := ["script", "turn"]
theorem s_law : FnScope N_law r_law.ps (defScope r_law.st) := ⟨rfl, rfl, rfl, by decide +kernel, rfl, by decide +kernel, by decide +kernel⟩
def D : List FnR := [r_is_whole, r_is_between, r_is_text_of, r_is_mark_number, r_is_card_of, r_is_any_card, r_sorts_of, r_card_of_sorts, r_third_of, r_check_marks, r_check_card, r_check_any_card, r_check_two_cards, r_check_three_cards, r_is_lot_by, r_odd_mark_of, r_third, r_is_lot, r_odd_mark, r_is_card, r_law_well, r_law_take, r_law_pick, r_law_is, r_law_deck, r_law_third, r_law_drawn_card, r_law_pair_right, r_law_three_right, r_law_caught, r_law_refused_right, r_law_right, r_law]
def ERR : List (Str × Str) := [("InvalidNumber", "given"), ("InvalidCard", "given")]
def er0 (c : Nat) : Str × Str := ERR.getD c ("InvalidNumber", "given")
def er (c : Nat) : Str × Str := er0 (ixN 2 c)
def gs (K : PySem.W.Frag) : Gs := { fa := fun f => He.ga K ((D.getD f r_law).x), ca := fun c => He.ga K (er c).1, nm := fun c => (er c).2 }
def clsB : Stmt → List Stmt
  | .ClassDef _ _ _ b _ _ _ _ _ _ _ => b
  | _ => []
def i_InvalidNumber : Stmt := (clsB (top 15)).getD 0 (.Pass ⟨0, 0, 0, 0⟩)
def i_InvalidCard : Stmt := (clsB (top 16)).getD 0 (.Pass ⟨0, 0, 0, 0⟩)
def BL : List Str := (["isinstance", "int", "bool", "str", "all", "len", "zip", "enumerate", "set", "min", "sum", "abs", "divmod", "tuple", "list", "dict", "range", "max"] : List String).map Str.ofString
structure Fx (K : PySem.W.Frag) (mg : Str → Option Value) : Prop where
  bl : ∀ (i : Nat) (x : Str), BL[i]? = some x → mg x = none
  c_MOST_MARKS : ∃ t, mg "MOST_MARKS" = some (.int (4) t)
  c_SORTS : ∃ t, mg "SORTS" = some (.str "012" t)
  er_InvalidNumber : ∀ (P : Program) (w : World) (base : Heap), ErrF P w K mg base (He.ga K "InvalidNumber") "InvalidNumber" "given"
  er_InvalidCard : ∀ (P : Program) (w : World) (base : Heap), ErrF P w K mg base (He.ga K "InvalidCard") "InvalidCard" "given"
  eb : ∀ c, errB K (er c).1 (er c).2 = true
  gl_InvalidCard : mg "InvalidCard" = some (.ref (He.ga K "InvalidCard"))
  gl_ThreeError : mg "ThreeError" = some (.ref (He.ga K "ThreeError"))
  te_ThreeError : ∀ c, PySem.W.exmOne K (.ref (He.ga K (er c).1)) (.ref (He.ga K "ThreeError")) = some true
  ki_InvalidCard : ∀ c, PySem.W.kitOne K (.ref (He.ga K (er c).1)) (.ref (He.ga K "InvalidCard")) = some (is_InvalidCard c)
  xf_given : ∀ c, fl_given c = true → XfC K (He.ga K (er c).1) ∧ PySem.W.findIn K (.ref (He.ga K (er c).1)) "given" = some none ∧ (er c).2 = "given"
end Lw
namespace Lw
open PySem PySem.Spec PyProof.Rows L2 Mp
section
variable {P : Program} {w : World} {K : PySem.W.Frag} {mg : Str → Option Value} {base : Heap} {d : Nat} (B : Fx K mg) (IH : AllF P w K mg base (gs K) T D d)
include B IH
theorem d_is_whole (cdv : Value) (A : Around) (outer : List PySem.Env) (s : Shared) (H : Hp) (E : XK) (cf : Cfg (cxOf (L2.CX P w) P w K mg base N_is_whole "is_whole" (defScope (top 1)) ((gs K).fa 0) cdv A outer s H E)) (hr : Room (d + 2) (A.deeper (envOfC "is_whole" (defScope (top 1)) s.heap.objs.size ((gs K).fa 0) cdv))) :
    SSs (cxOf (L2.CX P w) P w K mg base N_is_whole "is_whole" (defScope (top 1)) ((gs K).fa 0) cdv A outer s H E) (gs K) (defBody (top 1)) (b_is_whole (fns T d)) := by
  unfold b_is_whole
  exact sss_one (ss_ret (se_and (se_isi 2 (B.bl 0 _ rfl) (B.bl 1 _ rfl) (se_var 0)) (se_one (se_not (se_isi 1 (B.bl 0 _ rfl) (B.bl 2 _ rfl) (se_var 0))))))
theorem d_is_between (cdv : Value) (A : Around) (outer : List PySem.Env) (s : Shared) (H : Hp) (E : XK) (cf : Cfg (cxOf (L2.CX P w) P w K mg base N_is_between "is_between" (defScope (top 2)) ((gs K).fa 1) cdv A outer s H E)) (hr : Room (d + 2) (A.deeper (envOfC "is_between" (defScope (top 2)) s.heap.objs.size ((gs K).fa 1) cdv))) :
    SSs (cxOf (L2.CX P w) P w K mg base N_is_between "is_between" (defScope (top 2)) ((gs K).fa 1) cdv A outer s H E) (gs K) (defBody (top 2)) (b_is_between (fns T d)) := by
  unfold b_is_between
  exact sss_one (ss_ret (se_and (se_call 0 (IH 0 _ rfl) hr (sa_cons (se_var 0) (sa_nil))) (se_one (se_chain (o2_le2 (by have := cf.un; omega)) (o2_le2 (by have := cf.un; omega)) (se_var 1) (se_var 0) (se_var 2)))))
theorem d_is_text_of (cdv : Value) (A : Around) (outer : List PySem.Env) (s : Shared) (H : Hp) (E : XK) (cf : Cfg (cxOf (L2.CX P w) P w K mg base N_is_text_of "is_text_of" (defScope (top 3)) ((gs K).fa 2) cdv A outer s H E)) (hr : Room (d + 2) (A.deeper (envOfC "is_text_of" (defScope (top 3)) s.heap.objs.size ((gs K).fa 2) cdv))) :
    SSs (cxOf (L2.CX P w) P w K mg base N_is_text_of "is_text_of" (defScope (top 3)) ((gs K).fa 2) cdv A outer s H E) (gs K) (defBody (top 3)) (b_is_text_of (fns T d)) := by
  unfold b_is_text_of
  exact sss_one (ss_ret (se_and (se_isi 3 (B.bl 0 _ rfl) (B.bl 3 _ rfl) (se_var 0)) (se_one (se_bi (cr_allW cf.calm) (B.bl 4 _ rfl) (sa_cons (se_comp [("sign", 2)] cf (si_seq (se_var 0)) (blkOk_by (by kernel_rfl)) (fun _ _ _ _ _ cf => sg_name 2 cf) (fun _ _ _ _ _ cf => sts_nil) (fun _ _ _ _ _ cf => se_cmp (o2_inD (by have := cf.un; omega)) (se_var 2) (se_var 1))) (sa_nil))))))
theorem d_is_mark_number (cdv : Value) (A : Around) (outer : List PySem.Env) (s : Shared) (H : Hp) (E : XK) (cf : Cfg (cxOf (L2.CX P w) P w K mg base N_is_mark_number "is_mark_number" (defScope (top 7)) ((gs K).fa 3) cdv A outer s H E)) (hr : Room (d + 2) (A.deeper (envOfC "is_mark_number" (defScope (top 7)) s.heap.objs.size ((gs K).fa 3) cdv))) :
    SSs (cxOf (L2.CX P w) P w K mg base N_is_mark_number "is_mark_number" (defScope (top 7)) ((gs K).fa 3) cdv A outer s H E) (gs K) (defBody (top 7)) (b_is_mark_number (fns T d)) := by
  unfold b_is_mark_number
  exact sss_one (ss_ret (se_call 1 (IH 1 _ rfl) hr (sa_cons (se_var 0) (sa_cons (se_int) (sa_cons (se_gint B.c_MOST_MARKS) (sa_nil))))))
theorem d_is_card_of (cdv : Value) (A : Around) (outer : List PySem.Env) (s : Shared) (H : Hp) (E : XK) (cf : Cfg (cxOf (L2.CX P w) P w K mg base N_is_card_of "is_card_of" (defScope (top 8)) ((gs K).fa 4) cdv A outer s H E)) (hr : Room (d + 2) (A.deeper (envOfC "is_card_of" (defScope (top 8)) s.heap.objs.size ((gs K).fa 4) cdv))) :
    SSs (cxOf (L2.CX P w) P w K mg base N_is_card_of "is_card_of" (defScope (top 8)) ((gs K).fa 4) cdv A outer s H E) (gs K) (defBody (top 8)) (b_is_card_of (fns T d)) := by
  unfold b_is_card_of
  exact sss_one (ss_ret (se_and (se_call 2 (IH 2 _ rfl) hr (sa_cons (se_var 1) (sa_cons (se_gstr [48, 49, 50] B.c_SORTS) (sa_nil)))) (se_one (se_cmp (o2_eq (by have := cf.un; omega)) (se_bi cr_len (B.bl 5 _ rfl) (sa_cons (se_var 1) (sa_nil))) (se_var 0)))))
theorem d_is_any_card (cdv : Value) (A : Around) (outer : List PySem.Env) (s : Shared) (H : Hp) (E : XK) (cf : Cfg (cxOf (L2.CX P w) P w K mg base N_is_any_card "is_any_card" (defScope (top 9)) ((gs K).fa 5) cdv A outer s H E)) (hr : Room (d + 2) (A.deeper (envOfC "is_any_card" (defScope (top 9)) s.heap.objs.size ((gs K).fa 5) cdv))) :
    SSs (cxOf (L2.CX P w) P w K mg base N_is_any_card "is_any_card" (defScope (top 9)) ((gs K).fa 5) cdv A outer s H E) (gs K) (defBody (top 9)) (b_is_any_card (fns T d)) := by
  unfold b_is_any_card
  exact sss_one (ss_ret (se_and (se_call 2 (IH 2 _ rfl) hr (sa_cons (se_var 0) (sa_cons (se_gstr [48, 49, 50] B.c_SORTS) (sa_nil)))) (se_one (se_call 3 (IH 3 _ rfl) hr (sa_cons (se_bi cr_len (B.bl 5 _ rfl) (sa_cons (se_var 0) (sa_nil))) (sa_nil))))))
theorem d_sorts_of (cdv : Value) (A : Around) (outer : List PySem.Env) (s : Shared) (H : Hp) (E : XK) (cf : Cfg (cxOf (L2.CX P w) P w K mg base N_sorts_of "sorts_of" (defScope (top 10)) ((gs K).fa 6) cdv A outer s H E)) (hr : Room (d + 2) (A.deeper (envOfC "sorts_of" (defScope (top 10)) s.heap.objs.size ((gs K).fa 6) cdv))) :
    SSs (cxOf (L2.CX P w) P w K mg base N_sorts_of "sorts_of" (defScope (top 10)) ((gs K).fa 6) cdv A outer s H E) (gs K) (defBody (top 10)) (b_sorts_of (fns T d)) := by
  unfold b_sorts_of
  exact sss_one (ss_ret (se_comp [("sort", 1)] cf (si_seq (se_var 0)) (blkOk_by (by kernel_rfl)) (fun _ _ _ _ _ cf => sg_name 1 cf) (fun _ _ _ _ _ cf => sts_nil) (fun _ _ _ _ _ cf => se_meth 3 omIndex012 PySem.F.plainAttrs_str PySem.F.slot_str_index PySem.F.type_str_index om_index012 (se_gstr [48, 49, 50] B.c_SORTS) (sa_cons (se_var 1) (sa_nil)))))
theorem d_card_of_sorts (cdv : Value) (A : Around) (outer : List PySem.Env) (s : Shared) (H : Hp) (E : XK) (cf : Cfg (cxOf (L2.CX P w) P w K mg base N_card_of_sorts "card_of_sorts" (defScope (top 11)) ((gs K).fa 7) cdv A outer s H E)) (hr : Room (d + 2) (A.deeper (envOfC "card_of_sorts" (defScope (top 11)) s.heap.objs.size ((gs K).fa 7) cdv))) :
    SSs (cxOf (L2.CX P w) P w K mg base N_card_of_sorts "card_of_sorts" (defScope (top 11)) ((gs K).fa 7) cdv A outer s H E) (gs K) (defBody (top 11)) (b_card_of_sorts (fns T d)) := by
  unfold b_card_of_sorts
  exact sss_one (ss_ret (se_join (se_str []) (se_comp [("sort", 1)] cf (si_seq (se_var 0)) (blkOk_by (by kernel_rfl)) (fun _ _ _ _ _ cf => sg_name 1 cf) (fun _ _ _ _ _ cf => sts_nil) (fun _ _ _ _ _ cf => se_ix (se_gstr [48, 49, 50] B.c_SORTS) (se_bin o2_mod (se_var 1) (se_bi cr_len (B.bl 5 _ rfl) (sa_cons (se_gstr [48, 49, 50] B.c_SORTS) (sa_nil))))))))
theorem d_third_of (cdv : Value) (A : Around) (outer : List PySem.Env) (s : Shared) (H : Hp) (E : XK) (cf : Cfg (cxOf (L2.CX P w) P w K mg base N_third_of "third_of" (defScope (top 12)) ((gs K).fa 8) cdv A outer s H E)) (hr : Room (d + 2) (A.deeper (envOfC "third_of" (defScope (top 12)) s.heap.objs.size ((gs K).fa 8) cdv))) :
    SSs (cxOf (L2.CX P w) P w K mg base N_third_of "third_of" (defScope (top 12)) ((gs K).fa 8) cdv A outer s H E) (gs K) (defBody (top 12)) (b_third_of (fns T d)) := by
  unfold b_third_of
  exact sss_one (ss_ret (se_call 7 (IH 7 _ rfl) hr (sa_cons (se_comp [("one", 2), ("two", 3)] cf (si_zip2 (B.bl 6 _ rfl) (sa_cons (se_call 6 (IH 6 _ rfl) hr (sa_cons (se_var 0) (sa_nil))) (sa_cons (se_call 6 (IH 6 _ rfl) hr (sa_cons (se_var 1) (sa_nil))) (sa_nil)))) (blkOk_by (by kernel_rfl)) (fun _ _ _ _ _ cf => sg_tup 2 cf (sgs_cons (sg_name 2 cf) (sgs_cons (sg_name 3 cf) (sgs_nil))) (hl := glen_cons (glen_cons (glen_nil)))) (fun _ _ _ _ _ cf => sts_nil) (fun _ _ _ _ _ cf => se_bin o2_sub (se_bin o2_sub (se_int) (se_var 2)) (se_var 3))) (sa_nil))))
theorem d_check_marks (cdv : Value) (A : Around) (outer : List PySem.Env) (s : Shared) (H : Hp) (E : XK) (cf : Cfg (cxOf (L2.CX P w) P w K mg base N_check_marks "check_marks" (defScope (top 18)) ((gs K).fa 9) cdv A outer s H E)) (hr : Room (d + 2) (A.deeper (envOfC "check_marks" (defScope (top 18)) s.heap.objs.size ((gs K).fa 9) cdv))) :
    SSs (cxOf (L2.CX P w) P w K mg base N_check_marks "check_marks" (defScope (top 18)) ((gs K).fa 9) cdv A outer s H E) (gs K) (defBody (top 18)) (b_check_marks (fns T d)) := by
  unfold b_check_marks
  exact sss_one (ss_if (st_not (st_tru (se_call 3 (IH 3 _ rfl) hr (sa_cons (se_var 0) (sa_nil))))) (sss_one (ss_raise (G := gs K) (c := 0) cf (B.er_InvalidNumber P w base) (hr.mono (by omega)) (sa_cons (se_var 0) (sa_nil)))) (sss_nil))
theorem d_check_card (cdv : Value) (A : Around) (outer : List PySem.Env) (s : Shared) (H : Hp) (E : XK) (cf : Cfg (cxOf (L2.CX P w) P w K mg base N_check_card "check_card" (defScope (top 19)) ((gs K).fa 10) cdv A outer s H E)) (hr : Room (d + 2) (A.deeper (envOfC "check_card" (defScope (top 19)) s.heap.objs.size ((gs K).fa 10) cdv))) :
    SSs (cxOf (L2.CX P w) P w K mg base N_check_card "check_card" (defScope (top 19)) ((gs K).fa 10) cdv A outer s H E) (gs K) (defBody (top 19)) (b_check_card (fns T d)) := by
  unfold b_check_card
  exact sss_one (ss_if (st_not (st_tru (se_call 4 (IH 4 _ rfl) hr (sa_cons (se_var 0) (sa_cons (se_var 1) (sa_nil)))))) (sss_one (ss_raise (G := gs K) (c := 1) cf (B.er_InvalidCard P w base) (hr.mono (by omega)) (sa_cons (se_var 1) (sa_nil)))) (sss_nil))
theorem d_check_any_card (cdv : Value) (A : Around) (outer : List PySem.Env) (s : Shared) (H : Hp) (E : XK) (cf : Cfg (cxOf (L2.CX P w) P w K mg base N_check_any_card "check_any_card" (defScope (top 20)) ((gs K).fa 11) cdv A outer s H E)) (hr : Room (d + 2) (A.deeper (envOfC "check_any_card" (defScope (top 20)) s.heap.objs.size ((gs K).fa 11) cdv))) :
    SSs (cxOf (L2.CX P w) P w K mg base N_check_any_card "check_any_card" (defScope (top 20)) ((gs K).fa 11) cdv A outer s H E) (gs K) (defBody (top 20)) (b_check_any_card (fns T d)) := by
  unfold b_check_any_card
  exact sss_one (ss_if (st_not (st_tru (se_call 5 (IH 5 _ rfl) hr (sa_cons (se_var 0) (sa_nil))))) (sss_one (ss_raise (G := gs K) (c := 1) cf (B.er_InvalidCard P w base) (hr.mono (by omega)) (sa_cons (se_var 0) (sa_nil)))) (sss_nil))
theorem d_check_two_cards (cdv : Value) (A : Around) (outer : List PySem.Env) (s : Shared) (H : Hp) (E : XK) (cf : Cfg (cxOf (L2.CX P w) P w K mg base N_check_two_cards "check_two_cards" (defScope (top 21)) ((gs K).fa 12) cdv A outer s H E)) (hr : Room (d + 2) (A.deeper (envOfC "check_two_cards" (defScope (top 21)) s.heap.objs.size ((gs K).fa 12) cdv))) :
    SSs (cxOf (L2.CX P w) P w K mg base N_check_two_cards "check_two_cards" (defScope (top 21)) ((gs K).fa 12) cdv A outer s H E) (gs K) (defBody (top 21)) (b_check_two_cards (fns T d)) := by
  unfold b_check_two_cards
  exact sss_cons (ss_expr (se_call 11 (IH 11 _ rfl) hr (sa_cons (se_var 0) (sa_nil)))) (sss_one (ss_expr (se_call 10 (IH 10 _ rfl) hr (sa_cons (se_bi cr_len (B.bl 5 _ rfl) (sa_cons (se_var 0) (sa_nil))) (sa_cons (se_var 1) (sa_nil))))))
theorem d_check_three_cards (cdv : Value) (A : Around) (outer : List PySem.Env) (s : Shared) (H : Hp) (E : XK) (cf : Cfg (cxOf (L2.CX P w) P w K mg base N_check_three_cards "check_three_cards" (defScope (top 22)) ((gs K).fa 13) cdv A outer s H E)) (hr : Room (d + 2) (A.deeper (envOfC "check_three_cards" (defScope (top 22)) s.heap.objs.size ((gs K).fa 13) cdv))) :
    SSs (cxOf (L2.CX P w) P w K mg base N_check_three_cards "check_three_cards" (defScope (top 22)) ((gs K).fa 13) cdv A outer s H E) (gs K) (defBody (top 22)) (b_check_three_cards (fns T d)) := by
  unfold b_check_three_cards
  exact sss_cons (ss_expr (se_call 12 (IH 12 _ rfl) hr (sa_cons (se_var 0) (sa_cons (se_var 1) (sa_nil))))) (sss_one (ss_expr (se_call 10 (IH 10 _ rfl) hr (sa_cons (se_bi cr_len (B.bl 5 _ rfl) (sa_cons (se_var 0) (sa_nil))) (sa_cons (se_var 2) (sa_nil))))))
theorem d_is_lot_by (cdv : Value) (A : Around) (outer : List PySem.Env) (s : Shared) (H : Hp) (E : XK) (cf : Cfg (cxOf (L2.CX P w) P w K mg base N_is_lot_by "is_lot_by" (defScope (top 24)) ((gs K).fa 14) cdv A outer s H E)) (hr : Room (d + 2) (A.deeper (envOfC "is_lot_by" (defScope (top 24)) s.heap.objs.size ((gs K).fa 14) cdv))) :
    SSs (cxOf (L2.CX P w) P w K mg base N_is_lot_by "is_lot_by" (defScope (top 24)) ((gs K).fa 14) cdv A outer s H E) (gs K) (defBody (top 24)) (b_is_lot_by (fns T d)) := by
  unfold b_is_lot_by
  exact sss_one (ss_ret (se_and (se_cmp (o2_ne (by have := cf.un; omega)) (se_var 0) (se_var 1)) (se_one (se_cmp (o2_eq (by have := cf.un; omega)) (se_call 8 (IH 8 _ rfl) hr (sa_cons (se_var 0) (sa_cons (se_var 1) (sa_nil)))) (se_var 2)))))
theorem d_odd_mark_of (cdv : Value) (A : Around) (outer : List PySem.Env) (s : Shared) (H : Hp) (E : XK) (cf : Cfg (cxOf (L2.CX P w) P w K mg base N_odd_mark_of "odd_mark_of" (defScope (top 25)) ((gs K).fa 15) cdv A outer s H E)) (hr : Room (d + 2) (A.deeper (envOfC "odd_mark_of" (defScope (top 25)) s.heap.objs.size ((gs K).fa 15) cdv))) :
    SSs (cxOf (L2.CX P w) P w K mg base N_odd_mark_of "odd_mark_of" (defScope (top 25)) ((gs K).fa 15) cdv A outer s H E) (gs K) (defBody (top 25)) (b_odd_mark_of (fns T d)) := by
  unfold b_odd_mark_of
  exact sss_cons (ss_setLc 3 [("at", 4), ("sorts", 5)] cf (si_ez3 (B.bl 7 _ rfl) (B.bl 6 _ rfl) (sa_cons (se_var 0) (sa_cons (se_var 1) (sa_cons (se_var 2) (sa_nil))))) (blkOk_by (by kernel_rfl)) (fun _ _ _ _ _ cf => sg_tup 2 cf (sgs_cons (sg_name 4 cf) (sgs_cons (sg_name 5 cf) (sgs_nil))) (hl := glen_cons (glen_cons (glen_nil)))) (fun _ _ _ _ _ cf => sts_one (st_cmp (o2_eq (by have := cf.un; omega)) (se_lenSet cf (B.bl 5 _ rfl) (B.bl 8 _ rfl) (se_var 5)) (se_int))) (fun _ _ _ _ _ cf => se_var 4)) (sss_one (ss_ret (se_minN cf (B.bl 9 _ rfl) (sa_cons (se_var 3) (sa_nil)))))
theorem d_third (cdv : Value) (A : Around) (outer : List PySem.Env) (s : Shared) (H : Hp) (E : XK) (cf : Cfg (cxOf (L2.CX P w) P w K mg base N_third "third" (defScope (top 27)) ((gs K).fa 16) cdv A outer s H E)) (hr : Room (d + 2) (A.deeper (envOfC "third" (defScope (top 27)) s.heap.objs.size ((gs K).fa 16) cdv))) :
    SSs (cxOf (L2.CX P w) P w K mg base N_third "third" (defScope (top 27)) ((gs K).fa 16) cdv A outer s H E) (gs K) (defBody (top 27)) (b_third (fns T d)) := by
  unfold b_third
  exact sss_cons (ss_expr (se_call 12 (IH 12 _ rfl) hr (sa_cons (se_var 0) (sa_cons (se_var 1) (sa_nil))))) (sss_one (ss_ret (se_call 8 (IH 8 _ rfl) hr (sa_cons (se_var 0) (sa_cons (se_var 1) (sa_nil))))))
theorem d_is_lot (cdv : Value) (A : Around) (outer : List PySem.Env) (s : Shared) (H : Hp) (E : XK) (cf : Cfg (cxOf (L2.CX P w) P w K mg base N_is_lot "is_lot" (defScope (top 28)) ((gs K).fa 17) cdv A outer s H E)) (hr : Room (d + 2) (A.deeper (envOfC "is_lot" (defScope (top 28)) s.heap.objs.size ((gs K).fa 17) cdv))) :
    SSs (cxOf (L2.CX P w) P w K mg base N_is_lot "is_lot" (defScope (top 28)) ((gs K).fa 17) cdv A outer s H E) (gs K) (defBody (top 28)) (b_is_lot (fns T d)) := by
  unfold b_is_lot
  exact sss_cons (ss_expr (se_call 13 (IH 13 _ rfl) hr (sa_cons (se_var 0) (sa_cons (se_var 1) (sa_cons (se_var 2) (sa_nil)))))) (sss_one (ss_ret (se_call 14 (IH 14 _ rfl) hr (sa_cons (se_var 0) (sa_cons (se_var 1) (sa_cons (se_var 2) (sa_nil)))))))
theorem d_odd_mark (cdv : Value) (A : Around) (outer : List PySem.Env) (s : Shared) (H : Hp) (E : XK) (cf : Cfg (cxOf (L2.CX P w) P w K mg base N_odd_mark "odd_mark" (defScope (top 29)) ((gs K).fa 18) cdv A outer s H E)) (hr : Room (d + 2) (A.deeper (envOfC "odd_mark" (defScope (top 29)) s.heap.objs.size ((gs K).fa 18) cdv))) :
    SSs (cxOf (L2.CX P w) P w K mg base N_odd_mark "odd_mark" (defScope (top 29)) ((gs K).fa 18) cdv A outer s H E) (gs K) (defBody (top 29)) (b_odd_mark (fns T d)) := by
  unfold b_odd_mark
  exact sss_cons (ss_expr (se_call 13 (IH 13 _ rfl) hr (sa_cons (se_var 0) (sa_cons (se_var 1) (sa_cons (se_var 2) (sa_nil)))))) (sss_one (ss_ret (se_call 15 (IH 15 _ rfl) hr (sa_cons (se_var 0) (sa_cons (se_var 1) (sa_cons (se_var 2) (sa_nil)))))))
theorem d_is_card (cdv : Value) (A : Around) (outer : List PySem.Env) (s : Shared) (H : Hp) (E : XK) (cf : Cfg (cxOf (L2.CX P w) P w K mg base N_is_card "is_card" (defScope (top 31)) ((gs K).fa 19) cdv A outer s H E)) (hr : Room (d + 2) (A.deeper (envOfC "is_card" (defScope (top 31)) s.heap.objs.size ((gs K).fa 19) cdv))) :
    SSs (cxOf (L2.CX P w) P w K mg base N_is_card "is_card" (defScope (top 31)) ((gs K).fa 19) cdv A outer s H E) (gs K) (defBody (top 31)) (b_is_card (fns T d)) := by
  unfold b_is_card
  exact sss_cons (ss_expr (se_call 9 (IH 9 _ rfl) hr (sa_cons (se_var 0) (sa_nil)))) (sss_one (ss_ret (se_call 4 (IH 4 _ rfl) hr (sa_cons (se_var 0) (sa_cons (se_var 1) (sa_nil))))))
theorem d_law_well (cdv : Value) (A : Around) (outer : List PySem.Env) (s : Shared) (H : Hp) (E : XK) (cf : Cfg (cxOf (L2.CX P w) P w K mg base N_law_well "_law_well" (defScope (top 33)) ((gs K).fa 20) cdv A outer s H E)) (hr : Room (d + 2) (A.deeper (envOfC "_law_well" (defScope (top 33)) s.heap.objs.size ((gs K).fa 20) cdv))) :
    SSs (cxOf (L2.CX P w) P w K mg base N_law_well "_law_well" (defScope (top 33)) ((gs K).fa 20) cdv A outer s H E) (gs K) (defBody (top 33)) (b_law_well (fns T d)) := by
  unfold b_law_well
  exact sss_cons (ss_set 2 cf (se_if (st_cmp o2_lt (se_var 1) (se_bi cr_len (B.bl 5 _ rfl) (sa_cons (se_var 0) (sa_nil)))) (se_ty cr_int (B.bl 1 _ rfl) (sa_cons (se_ix (se_var 0) (se_var 1)) (sa_nil))) (se_bin o2_add (se_bin o2_add (se_bin o2_mul (se_int) (se_var 1)) (se_bin o2_mod (se_ty cr_int (B.bl 1 _ rfl) (sa_cons (se_bi (cr_sumW cf.calm) (B.bl 10 _ rfl) (sa_cons (se_sl (se_var 0) (so_none) (so_some (se_int))) (sa_nil))) (sa_nil))) (se_int))) (se_int)))) (sss_cons (ss_set 3 cf (se_bin o2_add (se_int) (se_bin o2_mul (se_int) (se_var 1)))) (sss_cons (ss_for cf (si_seq (se_bin o2_add (se_sl (se_var 0) (so_none) (so_some (se_int))) (se_lst (sa_cons (se_var 2) (sa_nil))))) (sg_name 4 cf) (sss_one (ss_set 3 cf (se_bin o2_mod (se_ty cr_int (B.bl 1 _ rfl) (sa_cons (se_bin o2_add (se_bin o2_add (se_bin o2_mul (se_var 3) (se_int)) (se_bin o2_mod (se_ty cr_int (B.bl 1 _ rfl) (sa_cons (se_var 4) (sa_nil))) (se_int))) (se_int)) (sa_nil))) (se_int))))) (sss_one (ss_ret (se_lstS (sa_cons (se_if (st_w (sw_or (st_cmp o2_lt (se_var 2) (se_int)) (sw_or1 (st_cmp o2_ge (se_var 2) (se_bin o2_pow (se_int) (se_int)))))) (se_bin o2_mod (se_ty cr_int (B.bl 1 _ rfl) (sa_cons (se_bi cr_abs (B.bl 11 _ rfl) (sa_cons (se_var 2) (sa_nil))) (sa_nil))) (se_bin o2_pow (se_int) (se_int))) (se_int)) (sa_cons (se_var 3) (sa_cons (se_int) (sa_nil)))))))))
theorem d_law_take (cdv : Value) (A : Around) (outer : List PySem.Env) (s : Shared) (H : Hp) (E : XK) (cf : Cfg (cxOf (L2.CX P w) P w K mg base N_law_take "_law_take" (defScope (top 34)) ((gs K).fa 21) cdv A outer s H E)) (hr : Room (d + 2) (A.deeper (envOfC "_law_take" (defScope (top 34)) s.heap.objs.size ((gs K).fa 21) cdv))) :
    SSs (cxOf (L2.CX P w) P w K mg base N_law_take "_law_take" (defScope (top 34)) ((gs K).fa 21) cdv A outer s H E) (gs K) (defBody (top 34)) (b_law_take (fns T d)) := by
  unfold b_law_take
  exact sss_cons (ss_if (st_cmp o2_gt (se_ix (se_var 0) (se_int)) (se_int)) (sss_cons (ss_asg (se_bi cr_divmod (B.bl 12 _ rfl) (sa_cons (se_ix (se_var 0) (se_int)) (sa_cons (se_var 1) (sa_nil)))) (sg_tup 2 cf (sgs_cons (sg_idx (se_var 0) (se_int)) (sgs_cons (sg_name 2 cf) (sgs_nil))) (hl := glen_cons (glen_cons (glen_nil))))) (sss_one (ss_ret (se_var 2)))) (sss_nil)) (sss_cons (ss_asg (se_bin o2_add (se_ix (se_var 0) (se_int)) (se_int)) (sg_idx (se_var 0) (se_int))) (sss_cons (ss_set 3 cf (se_bin o2_add (se_bin o2_mod (se_ty cr_int (B.bl 1 _ rfl) (sa_cons (se_ix (se_var 0) (se_int)) (sa_nil))) (se_int)) (se_int))) (sss_cons (ss_asg (se_bin o2_mod (se_ty cr_int (B.bl 1 _ rfl) (sa_cons (se_bin o2_add (se_bin o2_add (se_bin o2_mul (se_ix (se_var 0) (se_int)) (se_var 3)) (se_bin o2_mul (se_int) (se_ix (se_var 0) (se_int)))) (se_int)) (sa_nil))) (se_int)) (sg_idx (se_var 0) (se_int))) (sss_one (ss_ret (se_bin o2_mod (se_ty cr_int (B.bl 1 _ rfl) (sa_cons (se_bin o2_div (se_ix (se_var 0) (se_int)) (se_int)) (sa_nil))) (se_var 1)))))))
theorem d_law_pick (cdv : Value) (A : Around) (outer : List PySem.Env) (s : Shared) (H : Hp) (E : XK) (cf : Cfg (cxOf (L2.CX P w) P w K mg base N_law_pick "_law_pick" (defScope (top 35)) ((gs K).fa 22) cdv A outer s H E)) (hr : Room (d + 2) (A.deeper (envOfC "_law_pick" (defScope (top 35)) s.heap.objs.size ((gs K).fa 22) cdv))) :
    SSs (cxOf (L2.CX P w) P w K mg base N_law_pick "_law_pick" (defScope (top 35)) ((gs K).fa 22) cdv A outer s H E) (gs K) (defBody (top 35)) (b_law_pick (fns T d)) := by
  unfold b_law_pick
  exact sss_one (ss_ret (se_ix (se_var 1) (se_call 21 (IH 21 _ rfl) hr (sa_cons (se_var 0) (sa_cons (se_bi cr_len (B.bl 5 _ rfl) (sa_cons (se_var 1) (sa_nil))) (sa_nil))))))
theorem d_law_is (cdv : Value) (A : Around) (outer : List PySem.Env) (s : Shared) (H : Hp) (E : XK) (cf : Cfg (cxOf (L2.CX P w) P w K mg base N_law_is "_law_is" (defScope (top 36)) ((gs K).fa 23) cdv A outer s H E)) (hr : Room (d + 2) (A.deeper (envOfC "_law_is" (defScope (top 36)) s.heap.objs.size ((gs K).fa 23) cdv))) :
    SSs (cxOf (L2.CX P w) P w K mg base N_law_is "_law_is" (defScope (top 36)) ((gs K).fa 23) cdv A outer s H E) (gs K) (defBody (top 36)) (b_law_is (fns T d)) := by
  unfold b_law_is
  exact sss_cons (ss_if (st_tru (se_isi 4 (B.bl 0 _ rfl) (B.bl 13 _ rfl) (se_var 1))) (sss_cons (ss_if (st_w (sw_or (st_not (st_tru (se_isi 4 (B.bl 0 _ rfl) (B.bl 13 _ rfl) (se_var 0)))) (sw_or1 (st_cmp (o2_ne (by have := cf.un; omega)) (se_bi cr_len (B.bl 5 _ rfl) (sa_cons (se_var 0) (sa_nil))) (se_bi cr_len (B.bl 5 _ rfl) (sa_cons (se_var 1) (sa_nil))))))) (sss_one (ss_ret (se_bl))) (sss_nil)) (sss_one (ss_ret (se_bi (cr_allW cf.calm) (B.bl 4 _ rfl) (sa_cons (se_comp [("at", 2), ("each", 3)] cf (si_enum2 (B.bl 7 _ rfl) (sa_cons (se_var 1) (sa_nil))) (blkOk_by (by kernel_rfl)) (fun _ _ _ _ _ cf => sg_tup 2 cf (sgs_cons (sg_name 2 cf) (sgs_cons (sg_name 3 cf) (sgs_nil))) (hl := glen_cons (glen_cons (glen_nil)))) (fun _ _ _ _ _ cf => sts_nil) (fun _ _ _ _ _ cf => se_call 23 (IH 23 _ rfl) hr (sa_cons (se_ix (se_var 0) (se_var 2)) (sa_cons (se_var 3) (sa_nil))))) (sa_nil)))))) (sss_nil)) (sss_cons (ss_if (st_tru (se_isi 5 (B.bl 0 _ rfl) (B.bl 14 _ rfl) (se_var 1))) (sss_one (ss_ret (se_and (se_isi 5 (B.bl 0 _ rfl) (B.bl 14 _ rfl) (se_var 0)) (se_one (se_call 23 (IH 23 _ rfl) hr (sa_cons (se_ty cr_tupleW (B.bl 13 _ rfl) (sa_cons (se_var 0) (sa_nil))) (sa_cons (se_ty cr_tupleW (B.bl 13 _ rfl) (sa_cons (se_var 1) (sa_nil))) (sa_nil)))))))) (sss_nil)) (sss_cons (ss_if (st_tru (se_isi 6 (B.bl 0 _ rfl) (B.bl 15 _ rfl) (se_var 1))) (sss_one (ss_ret (se_and (se_isi 6 (B.bl 0 _ rfl) (B.bl 15 _ rfl) (se_var 0)) (se_one (se_cmp (o2_eqE (by have := cf.un; omega)) (se_var 0) (se_var 1)))))) (sss_nil)) (sss_cons (ss_if (st_w (sw_or (st_isN (se_var 1)) (sw_or (st_cmp o2_isB (se_var 1) (se_bl)) (sw_or1 (st_cmp o2_isB (se_var 1) (se_bl)))))) (sss_one (ss_ret (se_if (st_isN (se_var 1)) (se_isN (se_var 0)) (se_if (st_cmp o2_isB (se_var 1) (se_bl)) (se_cmp o2_isB (se_var 0) (se_bl)) (se_cmp o2_isB (se_var 0) (se_bl)))))) (sss_nil)) (sss_cons (ss_if (st_tru (se_isi 2 (B.bl 0 _ rfl) (B.bl 1 _ rfl) (se_var 1))) (sss_one (ss_ret (se_and (se_isi 2 (B.bl 0 _ rfl) (B.bl 1 _ rfl) (se_var 0)) (se_and (se_not (se_isi 1 (B.bl 0 _ rfl) (B.bl 2 _ rfl) (se_var 0))) (se_one (se_cmp (o2_eqE (by have := cf.un; omega)) (se_var 0) (se_var 1))))))) (sss_nil)) (sss_one (ss_ret (se_and (se_isi 3 (B.bl 0 _ rfl) (B.bl 3 _ rfl) (se_var 0)) (se_one (se_cmp (o2_eqE (by have := cf.un; omega)) (se_var 0) (se_var 1))))))))))
theorem d_law_deck (cdv : Value) (A : Around) (outer : List PySem.Env) (s : Shared) (H : Hp) (E : XK) (cf : Cfg (cxOf (L2.CX P w) P w K mg base N_law_deck "_law_deck" (defScope (top 37)) ((gs K).fa 24) cdv A outer s H E)) (hr : Room (d + 2) (A.deeper (envOfC "_law_deck" (defScope (top 37)) s.heap.objs.size ((gs K).fa 24) cdv))) :
    SSs (cxOf (L2.CX P w) P w K mg base N_law_deck "_law_deck" (defScope (top 37)) ((gs K).fa 24) cdv A outer s H E) (gs K) (defBody (top 37)) (b_law_deck (fns T d)) := by
  unfold b_law_deck
  exact sss_cons (ss_set 1 cf (se_lst (sa_cons (se_str []) (sa_nil)))) (sss_cons (ss_for cf (si_range1 (B.bl 16 _ rfl) (sa_cons (se_var 0) (sa_nil))) (sg_name 2 cf) (sss_cons (ss_set 3 cf (se_lst (sa_nil))) (sss_cons (ss_for cf (si_seq (se_var 1)) (sg_name 4 cf) (sss_one (ss_set 3 cf (se_bin o2_add (se_var 3) (se_comp [("sign", 5)] cf (si_seq (se_str [48, 49, 50])) (blkOk_by (by kernel_rfl)) (fun _ _ _ _ _ cf => sg_name 5 cf) (fun _ _ _ _ _ cf => sts_nil) (fun _ _ _ _ _ cf => se_bin o2_add (se_var 4) (se_var 5))))))) (sss_one (ss_set 1 cf (se_var 3)))))) (sss_one (ss_ret (se_ty cr_tupleW (B.bl 13 _ rfl) (sa_cons (se_var 1) (sa_nil))))))
theorem d_law_third (cdv : Value) (A : Around) (outer : List PySem.Env) (s : Shared) (H : Hp) (E : XK) (cf : Cfg (cxOf (L2.CX P w) P w K mg base N_law_third "_law_third" (defScope (top 38)) ((gs K).fa 25) cdv A outer s H E)) (hr : Room (d + 2) (A.deeper (envOfC "_law_third" (defScope (top 38)) s.heap.objs.size ((gs K).fa 25) cdv))) :
    SSs (cxOf (L2.CX P w) P w K mg base N_law_third "_law_third" (defScope (top 38)) ((gs K).fa 25) cdv A outer s H E) (gs K) (defBody (top 38)) (b_law_third (fns T d)) := by
  unfold b_law_third
  exact sss_one (ss_ret (se_join (se_str []) (se_comp [("at", 2)] cf (si_range1 (B.bl 16 _ rfl) (sa_cons (se_bi cr_len (B.bl 5 _ rfl) (sa_cons (se_var 0) (sa_nil))) (sa_nil))) (blkOk_by (by kernel_rfl)) (fun _ _ _ _ _ cf => sg_name 2 cf) (fun _ _ _ _ _ cf => sts_nil) (fun _ _ _ _ _ cf => se_ix (se_str [48, 49, 50]) (se_bin o2_mod (se_ty cr_int (B.bl 1 _ rfl) (sa_cons (se_bin o2_sub (se_bin o2_sub (se_int) (se_ty cr_int (B.bl 1 _ rfl) (sa_cons (se_ix (se_var 0) (se_var 2)) (sa_nil)))) (se_ty cr_int (B.bl 1 _ rfl) (sa_cons (se_ix (se_var 1) (se_var 2)) (sa_nil)))) (sa_nil))) (se_int))))))
theorem d_law_drawn_card (cdv : Value) (A : Around) (outer : List PySem.Env) (s : Shared) (H : Hp) (E : XK) (cf : Cfg (cxOf (L2.CX P w) P w K mg base N_law_drawn_card "_law_drawn_card" (defScope (top 39)) ((gs K).fa 26) cdv A outer s H E)) (hr : Room (d + 2) (A.deeper (envOfC "_law_drawn_card" (defScope (top 39)) s.heap.objs.size ((gs K).fa 26) cdv))) :
    SSs (cxOf (L2.CX P w) P w K mg base N_law_drawn_card "_law_drawn_card" (defScope (top 39)) ((gs K).fa 26) cdv A outer s H E) (gs K) (defBody (top 39)) (b_law_drawn_card (fns T d)) := by
  unfold b_law_drawn_card
  exact sss_one (ss_ret (se_join (se_str []) (se_comp [("at", 2)] cf (si_range1 (B.bl 16 _ rfl) (sa_cons (se_var 1) (sa_nil))) (blkOk_by (by kernel_rfl)) (fun _ _ _ _ _ cf => sg_name 2 cf) (fun _ _ _ _ _ cf => sts_nil) (fun _ _ _ _ _ cf => se_ix (se_str [48, 49, 50]) (se_call 21 (IH 21 _ rfl) hr (sa_cons (se_var 0) (sa_cons (se_int) (sa_nil))))))))
theorem d_law_pair_right (cdv : Value) (A : Around) (outer : List PySem.Env) (s : Shared) (H : Hp) (E : XK) (cf : Cfg (cxOf (L2.CX P w) P w K mg base N_law_pair_right "_law_pair_right" (defScope (top 40)) ((gs K).fa 27) cdv A outer s H E)) (hr : Room (d + 2) (A.deeper (envOfC "_law_pair_right" (defScope (top 40)) s.heap.objs.size ((gs K).fa 27) cdv))) :
    SSs (cxOf (L2.CX P w) P w K mg base N_law_pair_right "_law_pair_right" (defScope (top 40)) ((gs K).fa 27) cdv A outer s H E) (gs K) (defBody (top 40)) (b_law_pair_right (fns T d)) := by
  unfold b_law_pair_right
  exact sss_cons (ss_asg (se_tup (sa_cons (se_call 25 (IH 25 _ rfl) hr (sa_cons (se_var 0) (sa_cons (se_var 1) (sa_nil)))) (sa_cons (se_bi cr_len (B.bl 5 _ rfl) (sa_cons (se_var 0) (sa_nil))) (sa_nil)))) (sg_tup 2 cf (sgs_cons (sg_name 3 cf) (sgs_cons (sg_name 4 cf) (sgs_nil))) (hl := glen_cons (glen_cons (glen_nil))))) (sss_cons (ss_set 5 cf (se_lst (sa_cons (se_call 16 (IH 16 _ rfl) hr (sa_cons (se_var 0) (sa_cons (se_var 1) (sa_nil)))) (sa_cons (se_callK0 16 ["other", "card"] [1, 0] (with_kw (IH 16 _ rfl) fun fd ft => kwb_of ft.F fun _ _ _ _ _ _ us hl => match us, hl with | [_, _], _ => rfl) hr (sk_cons (se_var 1) (sk_cons (se_var 0) (sk_nil))) (hkl := ml_cons (ml_cons (ml_nil)))) (sa_cons (se_call 16 (IH 16 _ rfl) hr (sa_cons (se_var 1) (sa_cons (se_var 0) (sa_nil)))) (sa_cons (se_call 16 (IH 16 _ rfl) hr (sa_cons (se_var 0) (sa_cons (se_var 3) (sa_nil)))) (sa_cons (se_call 16 (IH 16 _ rfl) hr (sa_cons (se_var 3) (sa_cons (se_var 1) (sa_nil)))) (sa_cons (se_call 19 (IH 19 _ rfl) hr (sa_cons (se_var 4) (sa_cons (se_var 3) (sa_nil)))) (sa_cons (se_call 16 (IH 16 _ rfl) hr (sa_cons (se_var 0) (sa_cons (se_var 0) (sa_nil)))) (sa_nil)))))))))) (sss_cons (ss_if (st_not (st_tru (se_call 23 (IH 23 _ rfl) hr (sa_cons (se_var 5) (sa_cons (se_lst (sa_cons (se_var 3) (sa_cons (se_var 3) (sa_cons (se_var 3) (sa_cons (se_var 1) (sa_cons (se_var 0) (sa_cons (se_bl) (sa_cons (se_var 0) (sa_nil))))))))) (sa_nil)))))) (sss_one (ss_ret (se_bl))) (sss_nil)) (sss_cons (ss_if (st_cmp (o2_ne (by have := cf.un; omega)) (se_comp [("at", 7)] cf (si_range1 (B.bl 16 _ rfl) (sa_cons (se_var 4) (sa_nil))) (blkOk_by (by kernel_rfl)) (fun _ _ _ _ _ cf => sg_name 7 cf) (fun _ _ _ _ _ cf => sts_one (st_cmp (o2_ne (by have := cf.un; omega)) (se_bin o2_mod (se_ty cr_int (B.bl 1 _ rfl) (sa_cons (se_bin o2_add (se_bin o2_add (se_ty cr_int (B.bl 1 _ rfl) (sa_cons (se_ix (se_var 0) (se_var 7)) (sa_nil))) (se_ty cr_int (B.bl 1 _ rfl) (sa_cons (se_ix (se_var 1) (se_var 7)) (sa_nil)))) (se_ty cr_int (B.bl 1 _ rfl) (sa_cons (se_ix (se_var 3) (se_var 7)) (sa_nil)))) (sa_nil))) (se_int)) (se_int))) (fun _ _ _ _ _ cf => se_var 7)) (se_lst (sa_nil))) (sss_one (ss_ret (se_bl))) (sss_nil)) (sss_cons (ss_setLc 6 [("card", 8)] cf (si_seq (se_lst (sa_cons (se_var 0) (sa_cons (se_var 1) (sa_cons (se_var 3) (sa_nil)))))) (blkOk_by (by kernel_rfl)) (fun _ _ _ _ _ cf => sg_name 8 cf) (fun _ _ _ _ _ cf => sts_nil) (fun _ _ _ _ _ cf => se_join (se_str []) (se_comp [("at", 7)] cf (si_range1 (B.bl 16 _ rfl) (sa_cons (se_var 4) (sa_nil))) (blkOk_by (by kernel_rfl)) (fun _ _ _ _ _ cf => sg_name 7 cf) (fun _ _ _ _ _ cf => sts_nil) (fun _ _ _ _ _ cf => se_ix (se_str [48, 49, 50]) (se_bin o2_mod (se_ty cr_int (B.bl 1 _ rfl) (sa_cons (se_bin o2_add (se_ty cr_int (B.bl 1 _ rfl) (sa_cons (se_ix (se_var 8) (se_var 7)) (sa_nil))) (se_ty cr_int (B.bl 1 _ rfl) (sa_cons (se_ix (se_var 2) (se_var 7)) (sa_nil)))) (sa_nil))) (se_int)))))) (sss_one (ss_ret (se_call 23 (IH 23 _ rfl) hr (sa_cons (se_lst (sa_cons (se_call 16 (IH 16 _ rfl) hr (sa_cons (se_ix (se_var 6) (se_int)) (sa_cons (se_ix (se_var 6) (se_int)) (sa_nil)))) (sa_cons (se_call 17 (IH 17 _ rfl) hr (sa_cons (se_var 0) (sa_cons (se_var 1) (sa_cons (se_var 3) (sa_nil))))) (sa_nil)))) (sa_cons (se_lst (sa_cons (se_ix (se_var 6) (se_int)) (sa_cons (se_cmp (o2_ne (by have := cf.un; omega)) (se_var 0) (se_var 1)) (sa_nil)))) (sa_nil))))))))))
theorem d_law_three_right (cdv : Value) (A : Around) (outer : List PySem.Env) (s : Shared) (H : Hp) (E : XK) (cf : Cfg (cxOf (L2.CX P w) P w K mg base N_law_three_right "_law_three_right" (defScope (top 41)) ((gs K).fa 28) cdv A outer s H E)) (hr : Room (d + 2) (A.deeper (envOfC "_law_three_right" (defScope (top 41)) s.heap.objs.size ((gs K).fa 28) cdv))) :
    SSs (cxOf (L2.CX P w) P w K mg base N_law_three_right "_law_three_right" (defScope (top 41)) ((gs K).fa 28) cdv A outer s H E) (gs K) (defBody (top 41)) (b_law_three_right (fns T d)) := by
  unfold b_law_three_right
  exact sss_cons (ss_set 3 cf (se_comp [("at", 9)] cf (si_range1 (B.bl 16 _ rfl) (sa_cons (se_bi cr_len (B.bl 5 _ rfl) (sa_cons (se_var 0) (sa_nil))) (sa_nil))) (blkOk_by (by kernel_rfl)) (fun _ _ _ _ _ cf => sg_name 9 cf) (fun _ _ _ _ _ cf => sts_nil) (fun _ _ _ _ _ cf => se_lenSet cf (B.bl 5 _ rfl) (B.bl 8 _ rfl) (se_lst (sa_cons (se_ix (se_var 0) (se_var 9)) (sa_cons (se_ix (se_var 1) (se_var 9)) (sa_cons (se_ix (se_var 2) (se_var 9)) (sa_nil)))))))) (sss_cons (ss_setLc 4 [("at", 9)] cf (si_range1 (B.bl 16 _ rfl) (sa_cons (se_bi cr_len (B.bl 5 _ rfl) (sa_cons (se_var 0) (sa_nil))) (sa_nil))) (blkOk_by (by kernel_rfl)) (fun _ _ _ _ _ cf => sg_name 9 cf) (fun _ _ _ _ _ cf => sts_one (st_cmp (o2_eq (by have := cf.un; omega)) (se_ix (se_var 3) (se_var 9)) (se_int))) (fun _ _ _ _ _ cf => se_var 9)) (sss_cons (ss_set 5 cf (se_and (se_cmp (o2_eq (by have := cf.un; omega)) (se_var 4) (se_lst (sa_nil))) (se_one (se_cmp (o2_ne (by have := cf.un; omega)) (se_var 0) (se_var 1))))) (sss_cons (ss_set 6 cf (se_if (st_cmp (o2_ne (by have := cf.un; omega)) (se_var 4) (se_lst (sa_nil))) (se_ix (se_var 4) (se_int)) (se_non))) (sss_cons (ss_set 7 cf (se_lst (sa_cons (se_tup (sa_cons (se_var 0) (sa_cons (se_var 1) (sa_cons (se_var 2) (sa_nil))))) (sa_cons (se_tup (sa_cons (se_var 2) (sa_cons (se_var 0) (sa_cons (se_var 1) (sa_nil))))) (sa_cons (se_tup (sa_cons (se_var 1) (sa_cons (se_var 0) (sa_cons (se_var 2) (sa_nil))))) (sa_cons (se_tup (sa_cons (se_var 2) (sa_cons (se_var 1) (sa_cons (se_var 0) (sa_nil))))) (sa_nil))))))) (sss_cons (ss_if (st_cmp (o2_ne (by have := cf.un; omega)) (se_comp [("row", 10)] cf (si_seq (se_var 7)) (blkOk_by (by kernel_rfl)) (fun _ _ _ _ _ cf => sg_name 10 cf) (fun _ _ _ _ _ cf => sts_one (st_not (st_tru (se_call 23 (IH 23 _ rfl) hr (sa_cons (se_lst (sa_cons (se_call 17 (IH 17 _ rfl) hr (sa_cons (se_ix (se_var 10) (se_int)) (sa_cons (se_ix (se_var 10) (se_int)) (sa_cons (se_ix (se_var 10) (se_int)) (sa_nil))))) (sa_cons (se_call 18 (IH 18 _ rfl) hr (sa_cons (se_ix (se_var 10) (se_int)) (sa_cons (se_ix (se_var 10) (se_int)) (sa_cons (se_ix (se_var 10) (se_int)) (sa_nil))))) (sa_nil)))) (sa_cons (se_lst (sa_cons (se_var 5) (sa_cons (se_var 6) (sa_nil)))) (sa_nil))))))) (fun _ _ _ _ _ cf => se_var 10)) (se_lst (sa_nil))) (sss_one (ss_ret (se_bl))) (sss_nil)) (sss_cons (ss_set 8 cf (se_lst (sa_cons (se_callK0 17 ["third_card", "other", "card"] [2, 1, 0] (with_kw (IH 17 _ rfl) fun fd ft => kwb_of ft.F fun _ _ _ _ _ _ us hl => match us, hl with | [_, _, _], _ => rfl) hr (sk_cons (se_var 2) (sk_cons (se_var 1) (sk_cons (se_var 0) (sk_nil)))) (hkl := ml_cons (ml_cons (ml_cons (ml_nil))))) (sa_cons (se_callK0 18 ["third_card", "other", "card"] [2, 1, 0] (with_kw (IH 18 _ rfl) fun fd ft => kwb_of ft.F fun _ _ _ _ _ _ us hl => match us, hl with | [_, _, _], _ => rfl) hr (sk_cons (se_var 2) (sk_cons (se_var 1) (sk_cons (se_var 0) (sk_nil)))) (hkl := ml_cons (ml_cons (ml_cons (ml_nil))))) (sa_nil))))) (sss_one (ss_ret (se_and (se_call 23 (IH 23 _ rfl) hr (sa_cons (se_var 8) (sa_cons (se_lst (sa_cons (se_var 5) (sa_cons (se_var 6) (sa_nil)))) (sa_nil)))) (se_one (se_cmp (o2_eq (by have := cf.un; omega)) (se_var 5) (se_and (se_cmp (o2_ne (by have := cf.un; omega)) (se_var 0) (se_var 1)) (se_one (se_cmp (o2_eq (by have := cf.un; omega)) (se_call 25 (IH 25 _ rfl) hr (sa_cons (se_var 0) (sa_cons (se_var 1) (sa_nil)))) (se_var 2)))))))))))))))
theorem d_law_caught (cdv : Value) (A : Around) (outer : List PySem.Env) (s : Shared) (H : Hp) (E : XK) (cf : Cfg (cxOf (L2.CX P w) P w K mg base N_law_caught "_law_caught" (defScope (top 42)) ((gs K).fa 29) cdv A outer s H E)) (hr : Room (d + 2) (A.deeper (envOfC "_law_caught" (defScope (top 42)) s.heap.objs.size ((gs K).fa 29) cdv))) :
    SSs (cxOf (L2.CX P w) P w K mg base N_law_caught "_law_caught" (defScope (top 42)) ((gs K).fa 29) cdv A outer s H E) (gs K) (defBody (top 42)) (b_law_caught (fns T d)) := by
  unfold b_law_caught
  exact sss_one (ss_try (G := gs K) 4 cf rfl rfl ⟨rfl, by decide, .inl B.gl_ThreeError⟩ B.te_ThreeError (fun pn xe cf => sss_one (ss_ret (se_lst (sa_cons (se_str [116, 111, 108, 100]) (sa_cons (se_if (st_cmp (o2_eq (by have := cf.un; omega)) (se_var 0) (se_int)) (se_call 16 (IH 16 _ rfl) hr (sa_cons (se_var 1) (sa_cons (se_var 2) (sa_nil)))) (se_if (st_cmp (o2_eq (by have := cf.un; omega)) (se_var 0) (se_int)) (se_call 17 (IH 17 _ rfl) hr (sa_cons (se_var 1) (sa_cons (se_var 2) (sa_cons (se_var 3) (sa_nil))))) (se_call 18 (IH 18 _ rfl) hr (sa_cons (se_var 1) (sa_cons (se_var 2) (sa_cons (se_var 3) (sa_nil))))))) (sa_nil)))))) (fun a oe c d pn hz hf => sss_one (ss_ret (se_lst (sa_cons (se_if (st_tru (se_isX (G := gs K) is_InvalidCard _ (.ref (He.ga K "InvalidCard")) (errB_facts (B.eb c)).1 (errB_facts (B.eb c)).2.2.1 hz hf (B.bl 0 _ rfl) (pe_glob rfl B.gl_InvalidCard rfl) (fun _ h => h) (B.ki_InvalidCard c) (se_var 4))) (se_str [99, 97, 114, 100]) (se_str [111, 100, 100])) (sa_cons (se_xf (G := gs K) fl_given (B.xf_given c) hz hf (se_var 4)) (sa_nil)))))))
theorem d_law_refused_right (cdv : Value) (A : Around) (outer : List PySem.Env) (s : Shared) (H : Hp) (E : XK) (cf : Cfg (cxOf (L2.CX P w) P w K mg base N_law_refused_right "_law_refused_right" (defScope (top 43)) ((gs K).fa 30) cdv A outer s H E)) (hr : Room (d + 2) (A.deeper (envOfC "_law_refused_right" (defScope (top 43)) s.heap.objs.size ((gs K).fa 30) cdv))) :
    SSs (cxOf (L2.CX P w) P w K mg base N_law_refused_right "_law_refused_right" (defScope (top 43)) ((gs K).fa 30) cdv A outer s H E) (gs K) (defBody (top 43)) (b_law_refused_right (fns T d)) := by
  unfold b_law_refused_right
  exact sss_cons (ss_set 2 cf (se_bi cr_len (B.bl 5 _ rfl) (sa_cons (se_var 1) (sa_nil)))) (sss_cons (ss_set 3 cf (se_call 22 (IH 22 _ rfl) hr (sa_cons (se_var 0) (sa_cons (se_lst (sa_cons (se_bin o2_mulS (se_str [51]) (se_var 2)) (sa_cons (se_str []) (sa_cons (se_str [48, 48, 48, 48, 48]) (sa_cons (se_non) (sa_cons (se_int) (sa_cons (se_bl) (sa_cons (se_tup (sa_cons (se_str [48]) (sa_nil))) (sa_cons (se_lst (sa_cons (se_str [48, 48]) (sa_nil))) (sa_cons (se_bin o2_add (se_str [32]) (se_sl (se_var 1) (so_some (se_int)) (so_none))) (sa_cons (se_bin o2_mulS (se_str [120]) (se_var 2)) (sa_cons (se_dct0) (sa_cons (se_str [48, 49, 120, 50]) (sa_nil)))))))))))))) (sa_nil))))) (sss_cons (ss_set 4 cf (se_call 22 (IH 22 _ rfl) hr (sa_cons (se_var 0) (sa_cons (se_lst (sa_cons (se_var 3) (sa_cons (se_bin o2_add (se_var 1) (se_str [48])) (sa_cons (se_sl (se_var 1) (so_some (se_int)) (so_none)) (sa_cons (se_bin o2_mulS (se_str [48]) (se_bin o2_add (se_var 2) (se_int))) (sa_cons (se_tup (sa_cons (se_var 1) (sa_nil))) (sa_cons (se_non) (sa_nil)))))))) (sa_nil))))) (sss_cons (ss_for cf (si_range1 (B.bl 16 _ rfl) (sa_cons (se_int) (sa_nil))) (sg_name 5 cf) (sss_one (ss_if (st_not (st_tru (se_call 23 (IH 23 _ rfl) hr (sa_cons (se_lst (sa_cons (se_call 29 (IH 29 _ rfl) hr (sa_cons (se_var 5) (sa_cons (se_var 3) (sa_cons (se_non) (sa_cons (se_non) (sa_nil)))))) (sa_cons (se_call 29 (IH 29 _ rfl) hr (sa_cons (se_var 5) (sa_cons (se_var 1) (sa_cons (se_var 4) (sa_cons (se_non) (sa_nil)))))) (sa_nil)))) (sa_cons (se_lst (sa_cons (se_lst (sa_cons (se_str [99, 97, 114, 100]) (sa_cons (se_var 3) (sa_nil)))) (sa_cons (se_lst (sa_cons (se_str [99, 97, 114, 100]) (sa_cons (se_var 4) (sa_nil)))) (sa_nil)))) (sa_nil)))))) (sss_one (ss_ret (se_bl))) (sss_nil)))) (sss_one (ss_ret (se_call 23 (IH 23 _ rfl) hr (sa_cons (se_comp [("which", 5)] cf (si_seq (se_lst (sa_cons (se_int) (sa_cons (se_int) (sa_nil))))) (blkOk_by (by kernel_rfl)) (fun _ _ _ _ _ cf => sg_name 5 cf) (fun _ _ _ _ _ cf => sts_nil) (fun _ _ _ _ _ cf => se_call 29 (IH 29 _ rfl) hr (sa_cons (se_var 5) (sa_cons (se_var 1) (sa_cons (se_var 1) (sa_cons (se_var 4) (sa_nil))))))) (sa_cons (se_bin o2_mul (se_lst (sa_cons (se_lst (sa_cons (se_str [99, 97, 114, 100]) (sa_cons (se_var 4) (sa_nil)))) (sa_nil))) (se_int)) (sa_nil)))))))))
theorem d_law_right (cdv : Value) (A : Around) (outer : List PySem.Env) (s : Shared) (H : Hp) (E : XK) (cf : Cfg (cxOf (L2.CX P w) P w K mg base N_law_right "_law_right" (defScope (top 44)) ((gs K).fa 31) cdv A outer s H E)) (hr : Room (d + 2) (A.deeper (envOfC "_law_right" (defScope (top 44)) s.heap.objs.size ((gs K).fa 31) cdv))) :
    SSs (cxOf (L2.CX P w) P w K mg base N_law_right "_law_right" (defScope (top 44)) ((gs K).fa 31) cdv A outer s H E) (gs K) (defBody (top 44)) (b_law_right (fns T d)) := by
  unfold b_law_right
  exact sss_cons (ss_for cf (si_seq (se_lst (sa_cons (se_int) (sa_cons (se_int) (sa_cons (se_int) (sa_cons (se_int) (sa_nil))))))) (sg_name 1 cf) (sss_one (ss_for cf (si_range1 (B.bl 16 _ rfl) (sa_cons (se_int) (sa_nil))) (sg_name 2 cf) (sss_cons (ss_par3 3 4 5 cf (sa_cons (se_call 26 (IH 26 _ rfl) hr (sa_cons (se_var 0) (sa_cons (se_var 1) (sa_nil)))) (sa_cons (se_call 26 (IH 26 _ rfl) hr (sa_cons (se_var 0) (sa_cons (se_var 1) (sa_nil)))) (sa_cons (se_call 26 (IH 26 _ rfl) hr (sa_cons (se_var 0) (sa_cons (se_var 1) (sa_nil)))) (sa_nil))))) (sss_cons (ss_if (st_w (sw_or (st_not (st_tru (se_call 27 (IH 27 _ rfl) hr (sa_cons (se_var 3) (sa_cons (se_var 4) (sa_cons (se_var 5) (sa_nil))))))) (sw_or (st_not (st_tru (se_call 28 (IH 28 _ rfl) hr (sa_cons (se_var 3) (sa_cons (se_var 4) (sa_cons (se_var 5) (sa_nil))))))) (sw_or1 (st_not (st_tru (se_call 28 (IH 28 _ rfl) hr (sa_cons (se_var 3) (sa_cons (se_var 4) (sa_cons (se_call 25 (IH 25 _ rfl) hr (sa_cons (se_var 3) (sa_cons (se_var 4) (sa_nil)))) (sa_nil))))))))))) (sss_one (ss_ret (se_bl))) (sss_nil)) (sss_one (ss_if (st_w (sw_or (st_not (st_tru (se_call 28 (IH 28 _ rfl) hr (sa_cons (se_var 3) (sa_cons (se_var 3) (sa_cons (se_var 5) (sa_nil))))))) (sw_or (st_not (st_tru (se_call 28 (IH 28 _ rfl) hr (sa_cons (se_var 3) (sa_cons (se_var 3) (sa_cons (se_var 3) (sa_nil))))))) (sw_or1 (st_not (st_tru (se_call 30 (IH 30 _ rfl) hr (sa_cons (se_var 0) (sa_cons (se_var 3) (sa_nil)))))))))) (sss_one (ss_ret (se_bl))) (sss_nil)))))))) (sss_cons (ss_for cf (si_seq (se_lst (sa_cons (se_int) (sa_cons (se_int) (sa_nil))))) (sg_name 1 cf) (sss_cons (ss_set 6 cf (se_call 26 (IH 26 _ rfl) hr (sa_cons (se_var 0) (sa_cons (se_var 1) (sa_nil))))) (sss_one (ss_if (st_cmp (o2_ne (by have := cf.un; omega)) (se_comp [("one", 3)] cf (si_seq (se_call 24 (IH 24 _ rfl) hr (sa_cons (se_var 1) (sa_nil)))) (blkOk_by (by kernel_rfl)) (fun _ _ _ _ _ cf => sg_name 3 cf) (fun _ _ _ _ _ cf => sts_one (st_cmp (o2_ne (by have := cf.un; omega)) (se_comp [("other", 4)] cf (si_seq (se_call 24 (IH 24 _ rfl) hr (sa_cons (se_var 1) (sa_nil)))) (blkOk_by (by kernel_rfl)) (fun _ _ _ _ _ cf => sg_name 4 cf) (fun _ _ _ _ _ cf => sts_one (st_not (st_tru (se_call 27 (IH 27 _ rfl) hr (sa_cons (se_var 3) (sa_cons (se_var 4) (sa_cons (se_var 6) (sa_nil)))))))) (fun _ _ _ _ _ cf => se_var 4)) (se_lst (sa_nil)))) (fun _ _ _ _ _ cf => se_var 3)) (se_lst (sa_nil))) (sss_one (ss_ret (se_bl))) (sss_nil))))) (sss_one (ss_ret (se_bl))))
theorem d_law (cdv : Value) (A : Around) (outer : List PySem.Env) (s : Shared) (H : Hp) (E : XK) (cf : Cfg (cxOf (L2.CX P w) P w K mg base N_law "law" (defScope (top 45)) ((gs K).fa 32) cdv A outer s H E)) (hr : Room (d + 2) (A.deeper (envOfC "law" (defScope (top 45)) s.heap.objs.size ((gs K).fa 32) cdv))) :
    SSs (cxOf (L2.CX P w) P w K mg base N_law "law" (defScope (top 45)) ((gs K).fa 32) cdv A outer s H E) (gs K) (defBody (top 45)) (b_law (fns T d)) := by
  unfold b_law
  exact sss_one (ss_ret (se_bi (cr_allW cf.calm) (B.bl 4 _ rfl) (sa_cons (se_comp [("turn", 1)] cf (si_range1 (B.bl 16 _ rfl) (sa_cons (se_bi (cr_max2 cf.calm) (B.bl 17 _ rfl) (sa_cons (se_int) (sa_cons (se_bi (cr_min2 cf.calm) (B.bl 9 _ rfl) (sa_cons (se_bi cr_len (B.bl 5 _ rfl) (sa_cons (se_var 0) (sa_nil))) (sa_cons (se_int) (sa_nil)))) (sa_nil)))) (sa_nil))) (blkOk_by (by kernel_rfl)) (fun _ _ _ _ _ cf => sg_name 1 cf) (fun _ _ _ _ _ cf => sts_nil) (fun _ _ _ _ _ cf => se_call 31 (IH 31 _ rfl) hr (sa_cons (se_call 20 (IH 20 _ rfl) hr (sa_cons (se_var 0) (sa_cons (se_var 1) (sa_nil)))) (sa_nil)))) (sa_nil))))
theorem step : AllF P w K mg base (gs K) T D (d + 1) := by
  intro f r h
  obtain ⟨fd, ft⟩ := IH f r h
  refine ⟨fd, ?_⟩
  match f, h with
  | 0, h =>
    have e : r_is_whole = r := Option.some.inj h
    subst e
    exact fn_step (N := N_is_whole) ft rfl rfl rfl s_is_whole (d_is_whole B IH)
  | 1, h =>
    have e : r_is_between = r := Option.some.inj h
    subst e
    exact fn_step (N := N_is_between) ft rfl rfl rfl s_is_between (d_is_between B IH)
  | 2, h =>
    have e : r_is_text_of = r := Option.some.inj h
    subst e
    exact fn_step (N := N_is_text_of) ft rfl rfl rfl s_is_text_of (d_is_text_of B IH)
  | 3, h =>
    have e : r_is_mark_number = r := Option.some.inj h
    subst e
    exact fn_step (N := N_is_mark_number) ft rfl rfl rfl s_is_mark_number (d_is_mark_number B IH)
  | 4, h =>
    have e : r_is_card_of = r := Option.some.inj h
    subst e
    exact fn_step (N := N_is_card_of) ft rfl rfl rfl s_is_card_of (d_is_card_of B IH)
  | 5, h =>
    have e : r_is_any_card = r := Option.some.inj h
    subst e
    exact fn_step (N := N_is_any_card) ft rfl rfl rfl s_is_any_card (d_is_any_card B IH)
  | 6, h =>
    have e : r_sorts_of = r := Option.some.inj h
    subst e
    exact fn_step (N := N_sorts_of) ft rfl rfl rfl s_sorts_of (d_sorts_of B IH)
  | 7, h =>
    have e : r_card_of_sorts = r := Option.some.inj h
    subst e
    exact fn_step (N := N_card_of_sorts) ft rfl rfl rfl s_card_of_sorts (d_card_of_sorts B IH)
  | 8, h =>
    have e : r_third_of = r := Option.some.inj h
    subst e
    exact fn_step (N := N_third_of) ft rfl rfl rfl s_third_of (d_third_of B IH)
  | 9, h =>
    have e : r_check_marks = r := Option.some.inj h
    subst e
    exact fn_step (N := N_check_marks) ft rfl rfl rfl s_check_marks (d_check_marks B IH)
  | 10, h =>
    have e : r_check_card = r := Option.some.inj h
    subst e
    exact fn_step (N := N_check_card) ft rfl rfl rfl s_check_card (d_check_card B IH)
  | 11, h =>
    have e : r_check_any_card = r := Option.some.inj h
    subst e
    exact fn_step (N := N_check_any_card) ft rfl rfl rfl s_check_any_card (d_check_any_card B IH)
  | 12, h =>
    have e : r_check_two_cards = r := Option.some.inj h
    subst e
    exact fn_step (N := N_check_two_cards) ft rfl rfl rfl s_check_two_cards (d_check_two_cards B IH)
  | 13, h =>
    have e : r_check_three_cards = r := Option.some.inj h
    subst e
    exact fn_step (N := N_check_three_cards) ft rfl rfl rfl s_check_three_cards (d_check_three_cards B IH)
  | 14, h =>
    have e : r_is_lot_by = r := Option.some.inj h
    subst e
    exact fn_step (N := N_is_lot_by) ft rfl rfl rfl s_is_lot_by (d_is_lot_by B IH)
  | 15, h =>
    have e : r_odd_mark_of = r := Option.some.inj h
    subst e
    exact fn_step (N := N_odd_mark_of) ft rfl rfl rfl s_odd_mark_of (d_odd_mark_of B IH)
  | 16, h =>
    have e : r_third = r := Option.some.inj h
    subst e
    exact fn_step (N := N_third) ft rfl rfl rfl s_third (d_third B IH)
  | 17, h =>
    have e : r_is_lot = r := Option.some.inj h
    subst e
    exact fn_step (N := N_is_lot) ft rfl rfl rfl s_is_lot (d_is_lot B IH)
  | 18, h =>
    have e : r_odd_mark = r := Option.some.inj h
    subst e
    exact fn_step (N := N_odd_mark) ft rfl rfl rfl s_odd_mark (d_odd_mark B IH)
  | 19, h =>
    have e : r_is_card = r := Option.some.inj h
    subst e
    exact fn_step (N := N_is_card) ft rfl rfl rfl s_is_card (d_is_card B IH)
  | 20, h =>
    have e : r_law_well = r := Option.some.inj h
    subst e
    exact fn_step (N := N_law_well) ft rfl rfl rfl s_law_well (d_law_well B IH)
  | 21, h =>
    have e : r_law_take = r := Option.some.inj h
    subst e
    exact fn_step (N := N_law_take) ft rfl rfl rfl s_law_take (d_law_take B IH)
  | 22, h =>
    have e : r_law_pick = r := Option.some.inj h
    subst e
    exact fn_step (N := N_law_pick) ft rfl rfl rfl s_law_pick (d_law_pick B IH)
  | 23, h =>
    have e : r_law_is = r := Option.some.inj h
    subst e
    exact fn_step (N := N_law_is) ft rfl rfl rfl s_law_is (d_law_is B IH)
  | 24, h =>
    have e : r_law_deck = r := Option.some.inj h
    subst e
    exact fn_step (N := N_law_deck) ft rfl rfl rfl s_law_deck (d_law_deck B IH)
  | 25, h =>
    have e : r_law_third = r := Option.some.inj h
    subst e
    exact fn_step (N := N_law_third) ft rfl rfl rfl s_law_third (d_law_third B IH)
  | 26, h =>
    have e : r_law_drawn_card = r := Option.some.inj h
    subst e
    exact fn_step (N := N_law_drawn_card) ft rfl rfl rfl s_law_drawn_card (d_law_drawn_card B IH)
  | 27, h =>
    have e : r_law_pair_right = r := Option.some.inj h
    subst e
    exact fn_step (N := N_law_pair_right) ft rfl rfl rfl s_law_pair_right (d_law_pair_right B IH)
  | 28, h =>
    have e : r_law_three_right = r := Option.some.inj h
    subst e
    exact fn_step (N := N_law_three_right) ft rfl rfl rfl s_law_three_right (d_law_three_right B IH)
  | 29, h =>
    have e : r_law_caught = r := Option.some.inj h
    subst e
    exact fn_step (N := N_law_caught) ft rfl rfl rfl s_law_caught (d_law_caught B IH)
  | 30, h =>
    have e : r_law_refused_right = r := Option.some.inj h
    subst e
    exact fn_step (N := N_law_refused_right) ft rfl rfl rfl s_law_refused_right (d_law_refused_right B IH)
  | 31, h =>
    have e : r_law_right = r := Option.some.inj h
    subst e
    exact fn_step (N := N_law_right) ft rfl rfl rfl s_law_right (d_law_right B IH)
  | 32, h =>
    have e : r_law = r := Option.some.inj h
    subst e
    exact fn_step (N := N_law) ft rfl rfl rfl s_law (d_law B IH)
  | n + 33, h => exact absurd h (by simp [D])
end
end Lw
namespace Lw
open PySem PySem.Spec PyProof.Rows L2 Mp
theorem all {P : Program} {w : World} {K : PySem.W.Frag} {mg : Str → Option Value} {base : Heap} (B : Fx K mg) (h0 : AllF P w K mg base (gs K) T D 0) : ∀ d, AllF P w K mg base (gs K) T D d
  | 0 => h0
  | d + 1 => step B (all B h0 d)
def fn : List He.DefD := (D.map fun r => ⟨(r.x, none), r.x, r.x, defArgs r.st, defBody r.st, defScope r.st, [], []⟩) ++ [⟨("InvalidNumber", some "__init__"), "__init__", "InvalidNumber.__init__", defArgs i_InvalidNumber, defBody i_InvalidNumber, defScope i_InvalidNumber, [], []⟩, ⟨("InvalidCard", some "__init__"), "__init__", "InvalidCard.__init__", defArgs i_InvalidCard, defBody i_InvalidCard, defScope i_InvalidCard, [], []⟩]
def fa1 : List He.Fa := D.map fun r => .glo r.x
def fa2 : List He.Fa := BL.map .free
def fa3 : List He.Fa := [.int "MOST_MARKS" (4), .str "SORTS" "012"] ++ [.glo "InvalidNumber", .glo "InvalidCard", .glo "ThreeError"]
def fa : List He.Fa := fa1 ++ (fa2 ++ fa3)
def ex (K : PySem.W.Frag) : Bool := true && (List.range 2).all (fun c => errB K (er0 c).1 (er0 c).2) && (List.range 2).all (fun c => decide (PySem.W.exmOne K (.ref (He.ga K (er0 c).1)) (.ref (He.ga K "ThreeError")) = some true)) && (List.range 2).all (fun c => decide (PySem.W.kitOne K (.ref (He.ga K (er0 c).1)) (.ref (He.ga K "InvalidCard")) = some (isr_InvalidCard c)))
def loose0 : List Str := (["is_whole", "is_between", "is_text_of", "SORTS", "MOST_MARKS", "is_mark_number", "is_card_of", "is_any_card", "sorts_of", "card_of_sorts", "third_of", "ThreeError", "InvalidNumber", "InvalidCard", "check_marks", "check_card", "check_any_card", "check_two_cards", "check_three_cards", "is_lot_by", "odd_mark_of", "third", "is_lot", "odd_mark", "is_card", "_law_well", "_law_take", "_law_pick", "_law_is", "_law_deck", "_law_third", "_law_drawn_card", "_law_pair_right", "_law_three_right", "_law_caught"] : List String).map Str.ofString
def loose1 : List Str := (["_law_refused_right", "_law_right"] : List String).map Str.ofString
def loose : List Str := loose0 ++ loose1
abbrev Rr : PySem.W.OpenRow := PySem.W.OpenLaw.row PySem.Challenge.rw_threealike_k04_whole_thirds_of_cards
abbrev hk : PySem.W.Hook := hookM 5 fa fn ex
def ob (s : PySem.W.SharedT) : He.AlD × Bool := obM 5 fa fn ex (HandSHeadRun.getT s)
theorem run (w : World) : HandSHeadRun.RunEq Rr (PySem.W.view Rr.prog [45]) hk ob 30000 loose w := by
  intro os
  kernel_rfl
end Lw

set_option linter.all false
/-! Mp: a small pure reading of the programs: values, stores, what expressions and statements do. -/
namespace Mp
/-! data: of depth at most k, of None, truths, ints, texts, tuples, lists -/
/-! expressions -/
def mStuck : ME := fun _ _ => .stuck
def mTAnd (f g : MT) : MT := fun η S => (f η S).bind fun b S1 => if b = true then g η S1 else .ok false S1
def mOr (f g : ME) : ME := fun η S => (f η S).bind fun x S1 => (rTruth x S1).bind fun b S2 => if b = true then .ok x S2 else g η S2
/-- a new list of the store -/
def mLstM (g : MA) : ME := fun η S => (g η S).bind fun xs S1 => sized xs.length (.ok (.ref S1.length) (S1 ++ [.lst xs]))
/-! operators -/
def opNeg : W → Store → Option W := fun x _ => match x with
  | .int i => some (.int (-i))
  | _ => none
def opNotIn : O2 := fun x y S => match opIn x y S with
  | some (.bl b) => some (.bl (!b))
  | _ => none
def opNotN : W → Store → Option W := fun x _ => match x with
  | .non => some (.bl false)
  | _ => some (.bl true)
/-! subscripts -/
/-! built-in functions, by their values -/
def numF : Nat → Nat → List Nat
  | 0, _ => []
  | f + 1, n => if n < 10 then [48 + n] else numF f (n / 10) ++ [48 + n % 10]
def numW (n : Nat) : List Nat := numF (n + 1) n
def baStr : OA := fun xs _ => match xs with
  | [.int i] => if 0 ≤ i ∧ i.natAbs.log2 < 1920 then some (.str (numW i.natAbs)) else none
  | _ => none
def baGcd : OA := fun xs _ => match xs with
  | [.int a, .int b] => some (.int (Nat.gcd a.natAbs b.natAbs))
  | _ => none
def falling (n : Int) (k : Nat) : Int := (List.range k).foldl (fun (p : Int) (i : Nat) => p * (n - (i : Int))) 1
def combW (a b : Int) : Int := if b > a then 0 else falling a (min b (a - b)).toNat / falling (min b (a - b)) (min b (a - b)).toNat
def baComb : OA := fun xs _ => match xs with
  | [.int a, .int b] => if 0 ≤ a ∧ 0 ≤ b ∧ a ≤ 18000 then some (.int (combW a b)) else none
  | _ => none
def baAny : OA := fun xs S => match xs with
  | [x] => (lstOf S x).bind fun xs => (bls xs).map fun bs => .bl (bs.any id)
  | _ => none
def baList : OA := fun xs S => match xs with
  | [.tup xs] => some (.lst xs)
  | [x] => (lstOf S x).map fun xs => .lst xs
  | _ => none
/-! statements -/
def sRetN : MS := fun _ S => .ret .non S
def sStuck : MS := fun _ _ => .stuck
def sBreak : MS := fun η S => .bk η S
def sCont : MS := fun η S => .ct η S
/-! targets -/
/-! loops -/
def whileL (c : MT) (b : MS) : Nat → Env → Store → RS
  | 0, _, _ => .stuck
  | n + 1, η, S => (c η S).toS η fun t S1 => if t = true then (match b η S1 with
      | .nx η2 S2 => whileL c b n η2 S2
      | .ct η2 S2 => whileL c b n η2 S2
      | .bk η2 S2 => .nx η2 S2
      | r => r) else .nx η S1
def sWhile (n : Nat) (c : MT) (b : MS) : MS := fun η S => whileL c b n η S
/-! comprehensions: names of their own are wiped ahead -/
/-! calls of the program's own functions -/
/-- keywords: the arguments in the order of the text, then set in the order of the parameters -/
def mCallP (φ : Fns) (f : Nat) (perm : List Nat) (g : MA) : ME := fun η S => (g η S).bind fun ws S1 => φ f (perm.map fun i => ws.getD i .non) S1
end Mp
set_option Elab.async false
set_option linter.all false
set_option maxRecDepth 100000
set_option maxHeartbeats 4000000
/-! Mp: the pure reading stands over the hand layer. -/
namespace Mp
open PySem PySem.Spec PyProof.Rows L2
section
variable {K : PySem.W.Frag} {G : Gs} {γ γ' : Ga} {H H' : Hp}
/-! the same, what is being built may change -/
/-! values without a name of the store -/
end
section
variable {K : PySem.W.Frag} {G : Gs} {γ γ' : Ga} {H H' : Hp} {S : Store} {η : Env} {σ : L2.St}
end
/-! ### ends -/
section
variable {K : PySem.W.Frag} {G : Gs} {γ γ1 : Ga} {H H1 : Hp} {wx : Wx} {α β α' β' : Type} {rel : Rel α β} {rel' : Rel α' β'}
end
/-! ### the judgements -/
end Mp
set_option Elab.async false
set_option linter.all false
set_option maxRecDepth 100000
set_option maxHeartbeats 4000000
/-! Mp: operators. -/
namespace Mp
open PySem PySem.Spec PyProof.Rows L2
section
variable {K : PySem.W.Frag} {G : Gs} {γ γ' : Ga} {H H' : Hp} {S : Store}
end
/-! operators by their values -/
section
variable {X : Cx} {G : Gs}
end
end Mp
set_option Elab.async false
set_option linter.all false
set_option maxRecDepth 100000
set_option maxHeartbeats 4000000
/-! Mp: expressions. -/
namespace Mp
open PySem PySem.Spec PyProof.Rows L2
section
variable {K : PySem.W.Frag} {G : Gs} {γ : Ga} {H : Hp} {S : Store} {wx : Wx} {α : Type}
/-- an operator of one value -/
def ruOf (K : PySem.W.Frag) (G : Gs) (o : W → Store → Option W) : V → Hp → VK → Prop := fun x H Q => ∃ wx S γ w, Rep K G γ H wx x ∧ StoreOk K G γ H S ∧ o wx S = some w ∧
  ∀ v γ' H', Ext γ H γ' H' → Rep K G γ' H' w v → StoreOk K G γ' H' S → Q v H'
end
section
variable {X : Cx} {G : Gs} {x : Str} {pos p : Pos} {a b c : Expr} {es rest : List Expr} {f g h : ME} {ga : MA} {t u : MT} {o o' : O2}
/-! tests -/
def mTChain (o o' : O2) (f g h : ME) : MT := fun η S => (f η S).bind fun x S1 => (g η S1).bind fun y S2 => match o x y S2 with
  | some (.bl true) => (h η S2).bind fun y' S4 => (match o' y y' S4 with
    | some (.bl b) => .ok b S4
    | _ => .stuck)
  | some (.bl false) => .ok false S2
  | _ => .stuck
/-! lists of expressions -/
end
end Mp
set_option Elab.async false
set_option linter.all false
set_option maxRecDepth 100000
set_option maxHeartbeats 4000000
/-! Mp: statements, targets, loops. -/
namespace Mp
open PySem PySem.Spec PyProof.Rows L2
section
variable {K : PySem.W.Frag} {G : Gs} {Wi : WX} {γ γ1 : Ga} {H H1 : Hp} {D : Ends}
end
section
variable {X : Cx} {G : Gs} {x : Str} {pos p : Pos} {a b c e : Expr} {es rest : List Expr} {f h : ME} {g : MG} {gs : MGs} {ga : MA} {t : MT} {st : Stmt} {sts : List Stmt} {m n : MS} {is js : List Nat}
/-! targets -/
/-- a, b = x, y: plain names -/
def sPar (i j : Nat) (g : MA) : MS := fun η S => (g η S).toS η fun ws S1 => match ws with
  | [w, u] => .nx ((η.set i (some w)).set j (some u)) S1
  | _ => .stuck
end
end Mp
set_option Elab.async false
set_option linter.all false
set_option maxRecDepth 100000
set_option maxHeartbeats 4000000
/-! Mp: what is walked; for, while, comprehensions. -/
namespace Mp
open PySem PySem.Spec PyProof.Rows L2
section
variable {K : PySem.W.Frag} {G : Gs} {γ : Ga} {H : Hp} {S : Store}
end
section
variable {X : Cx} {G : Gs} {tg a b e : Expr} {pos p : Pos} {f h : ME} {g : MG} {ga : MA} {t : MT} {m : MS} {it : MI} {is own : List Nat}
def rng2 : List W → Option (List W)
  | [.int i, .int j] => if -4611686018427387904 ≤ i ∧ i < 4611686018427387904 ∧ -4611686018427387904 ≤ j ∧ j < 4611686018427387904 then some (rangeW i (j - i).toNat) else none
  | _ => none
/-! loops -/
end
/-! comprehensions -/
section
variable {K : PySem.W.Frag} {G : Gs} {γ : Ga} {H : Hp} {S : Store} {D : Addr} {o : HO}
end
section
variable {X : Cx} {G : Gs} {tg iter elt : Expr} {ifs : List Expr} {scope : Scope} {f : ME} {g : MG} {t : MT} {it : MI} {is : List Nat} {own : List (Str × Nat)} {pos : Pos}
end
end Mp
set_option Elab.async false
set_option linter.all false
set_option maxRecDepth 100000
set_option maxHeartbeats 4000000
/-! Mp: functions, calls. -/
namespace Mp
open PySem PySem.Spec PyProof.Rows L2
section
variable {K : PySem.W.Frag} {G : Gs} {γ γ' : Ga} {H H' : Hp} {S S' : Store} {D : Ends} {Q : VK} {E : XK}
end
section
variable {K : PySem.W.Frag} {G : Gs} {γ γ' : Ga} {H H' : Hp} {S S' : Store} {Q : VK} {E : XK}
end
/-! a function of the text -/
section
variable {X : Cx} {G : Gs} {d f : Nat} {r : FnR} {φ : Fns} {x : Str} {p pos : Pos} {e : Expr} {es : List Expr} {ga : MA}
end
/-! calls without places, with keywords -/
section
variable {X : Cx} {k : Nat} {f : Addr} {fd : FuncData} {ps ks : List Str} {sp : Sp} {E : L2.St → XK} {x : Str} {p pos : Pos} {kws : List Keyword} {e : Expr} {es : List Expr} {t tk : TA}
def tCallP (sp : Sp) (perm : List Nat) (E : L2.St → XK) (t tk : TA) : TE := fun σ H Q => t σ H fun vs H1 => tk σ H1 fun zs H2 => sp (perm.map fun i => (vs ++ zs).getD i .non) H2 Q (E σ)
end
section
variable {X : Cx} {G : Gs} {d f : Nat} {r : FnR} {φ : Fns} {x : Str} {p pos : Pos} {e : Expr} {es : List Expr} {ga gk : MA} {kws : List Keyword} {f' : ME}
end
end Mp
set_option Elab.async false
set_option linter.all false
set_option maxRecDepth 100000
set_option maxHeartbeats 4000000
/-! Mp: subscripts, slices, built-in functions. -/
namespace Mp
open PySem PySem.Spec PyProof.Rows L2
section
variable {K : PySem.W.Frag} {G : Gs} {γ γ' : Ga} {H H' : Hp} {S : Store}
end
section
variable {X : Cx} {G : Gs}
variable {a b e : Expr} {es : List Expr} {f g : ME} {ga : MA} {pos p p2 p3 : Pos} {x : Str} {lo hi : Option Expr} {ml mh : MO} {o : OA}
/-! built-in functions -/
/-! isinstance of a built-in type -/
/-! texts joined -/
/-! in, not in -/
end
end Mp
set_option Elab.async false
set_option linter.all false
set_option maxRecDepth 100000
set_option maxHeartbeats 4000000
/-! Mp: the program's functions, to a depth; the law's end. -/
namespace Mp
open PySem PySem.Spec PyProof.Rows L2
section
variable {P : Program} {w : World} {K : PySem.W.Frag} {mg : Str → Option Value} {base : Heap} {G : Gs} {T : List Mp.Fun} {D : List FnR} {d f : Nat} {r : FnR} {fd : FuncData}
theorem ft_zero (hgl : mg r.x = some (.ref (G.fa f))) (F : FunD K r.x r.x (defArgs r.st) (defBody r.st) (defScope r.st) [] [] (G.fa f) fd) (b : Binds K fd r.ps []) : FT P w K mg base G 0 (fns T 0 f) f r fd where
  ok := ⟨fun vs H Q E h => h.1, fun A outer s H args us vs Q E hr he hb hv h => by
    obtain ⟨_, ws, S, γ, _, _, q⟩ := h
    exact q.elim⟩
  gl := hgl
  F := F
  b := b
  len := fun ws S h => absurd rfl h
/-- what a called def lets out where nothing is wished -/
theorem noexc_fn {k : Nat} {fa : Addr} {ps : List Str} {sp : Sp} (F : FnOk P w K mg base (L2.CX P w) k fa fd ps sp) : FnOk P w K mg base CX0 k fa fd ps (fun vs H Q _ => sp vs H Q fun _ _ _ => False) :=
  ⟨fun vs H Q E h => F.len vs H Q _ h, fun A outer s H args us vs Q E hr he hb hv h => codeAny_mono (F.run A outer s H args us vs Q _ hr he hb hv h) fun r s' z => by
    cases r with
    | ok fl => cases fl <;> exact z
    | error e =>
      obtain ⟨_, _, _, _, _, _, _, _, _, _, _, _, z⟩ := z
      exact z.elim⟩
theorem reps_ints {γ : Ga} {H : Hp} : ∀ ns : List Int, Reps K G γ H (ns.map W.int) (ns.map V.int)
  | [] => .nil
  | n :: ns => .cons (.int n) (reps_ints ns)
/-- the law's promise at the script -/
theorem law_sp {a : Addr} {ns : List Int} {H : Hp} {φ : List W → Store → R W} (ho : Only H) (hs : SqL K H a (ns.map V.int)) (h : ∃ S, φ [.scr (ns.map .int)] [] = .ok (.bl true) S) : spF K G 1 φ [.ref a] H (fun v _ => v = .bl true) fun _ _ _ => False := by
  obtain ⟨S, h⟩ := h
  refine ⟨rfl, [.scr (ns.map .int)], [], ⟨[], []⟩, .one (.scr ?_ (reps_ints ns)), ⟨rfl, List.nodup_nil, fun i c a hc _ => (by simp at hc), fun a ha => (by simp at ha)⟩, ?_⟩
  · rcases hs with (hs | ⟨o, hs⟩) | hs
    · rcases ho a with z | ⟨o, xs, z⟩
      · rw [z] at hs; cases hs
      · rw [z] at hs; cases hs
    · exact .inl ⟨⟨o, hs⟩, by simp, by simp⟩
    · exact .inr hs
  · rw [h]
    intro v γ' H' _ r _
    cases r
    rfl
end
/-! the head's facts -/
theorem obM_eq {n : Nat} {fa : List He.Fa} {fn : List He.DefD} {ex : PySem.W.Frag → Bool} {g : Addr → Option Obj} {s : Shared} (h : ∀ a, g a = s.heap.get? a) : obM n fa fn ex g = (hookM n fa fn ex).obs s := by
  have e : g = s.heap.get? := funext h
  rw [e] <;> rfl
/-- a name that the module binds to a built-in -/
def bltB (K : PySem.W.Frag) (x : Str) (id : String) : Bool := He.eqO (PySem.W.nsIn K mainGlobals x) (some (some (.builtin id)))
end Mp
namespace Mp
open PySem PySem.Spec PyProof.Rows L2
section
variable {P : Program} {w : World} {K : PySem.W.Frag} {mg : Str → Option Value} {base : Heap} {G : Gs} {φ : List W → Store → R W} {d f : Nat} {r : FnR}
end
end Mp
namespace Mp
open PySem PySem.Spec PyProof.Rows L2
theorem same_fd {K : PySem.W.Frag} {x q x' q' : Str} {pa pa' : Arguments} {bo bo' : List Stmt} {sc sc' : Scope} {dv dv' : List V} {kw kw' : List (Str × V)} {f : Addr} {fd fd' : FuncData} (F : FunD K x q pa bo sc dv kw f fd) (F' : FunD K x' q' pa' bo' sc' dv' kw' f fd') : fd' = fd := by
  obtain ⟨oc, od, dV, kV, doc, pm, an, cdv, ct, osl, e1, lk, _⟩ := F.ex
  obtain ⟨oc', od', dV', kV', doc', pm', an', cdv', ct', osl', e1', lk', _⟩ := F'.ex
  rw [lk] at lk'
  cases lk'
  rfl
end Mp
set_option Elab.async false
set_option linter.all false
set_option maxRecDepth 100000
set_option maxHeartbeats 4000000
/-! Mp: pure laws: runs of the law's draws. -/
namespace Mp
def wellB (φ : Fns) : MS := sSeq (sSet 2 (mIf (mTCmp opLt (mVar 1) (mBi baLen (maCons (mVar 0) (maNil)))) (mBi baInt (maCons (mBin opIx (mVar 0) (mVar 1)) (maNil))) (mBin opAdd (mBin opAdd (mBin opMul (mC (.int 7919)) (mVar 1)) (mBin opMod (mBi baInt (maCons (mBi baSum (maCons (mSl (mVar 0) (moNone) (moSome (mC (.int 3)))) (maNil))) (maNil))) (mC (.int 1000003)))) (mC (.int 29))))) (sSeq (sSet 3 (mBin opAdd (mC (.int 40127)) (mBin opMul (mC (.int 977)) (mVar 1)))) (sSeq (sFor (miSeq (mBin opAdd (mSl (mVar 0) (moNone) (moSome (mC (.int 6)))) (mLst (maCons (mVar 2) (maNil))))) (gVar 4) (sSet 3 (mBin opMod (mBi baInt (maCons (mBin opAdd (mBin opAdd (mBin opMul (mVar 3) (mC (.int 48271))) (mBin opMod (mBi baInt (maCons (mVar 4) (maNil))) (mC (.int 2147483399)))) (mC (.int 53))) (maNil))) (mC (.int 2147483563))))) (sRet (mLstS (maCons (mIf (mTOr (mTCmp opLt (mVar 2) (mC (.int 0))) (mTCmp opGe (mVar 2) (mBin opPow (mC (.int 10)) (mC (.int 17))))) (mBi baAbs (maCons (mVar 2) (maNil))) (mC (.int 0))) (maCons (mVar 3) (maCons (mC (.int 0)) (maNil))))))))
def takeB (φ : Fns) : MS := sSeq (sIf (mTCmp opGt (mBin opIx (mVar 0) (mC (.int 0))) (mC (.int 0))) (sSeq (sAsg (mBi baDivmod (maCons (mBin opIx (mVar 0) (mC (.int 0))) (maCons (mVar 1) (maNil)))) (gTupW (gsCons (gIdx (mVar 0) (mC (.int 0))) (gsCons (gVar 2) (gsNil))))) (sRet (mVar 2))) (sNx)) (sSeq (sAsg (mBin opAdd (mBin opIx (mVar 0) (mC (.int 2))) (mC (.int 1))) (gIdx (mVar 0) (mC (.int 2)))) (sSeq (sSet 3 (mBin opAdd (mBin opMod (mBi baInt (maCons (mBin opIx (mVar 0) (mC (.int 1))) (maNil))) (mC (.int 28657))) (mC (.int 40009)))) (sSeq (sAsg (mBin opMod (mBi baInt (maCons (mBin opAdd (mBin opAdd (mBin opMul (mBin opIx (mVar 0) (mC (.int 1))) (mVar 3)) (mBin opMul (mC (.int 50023)) (mBin opIx (mVar 0) (mC (.int 2))))) (mC (.int 17))) (maNil))) (mC (.int 2147483563))) (gIdx (mVar 0) (mC (.int 1)))) (sRet (mBin opMod (mBi baInt (maCons (mBin opDiv (mBin opIx (mVar 0) (mC (.int 1))) (mC (.int 83))) (maNil))) (mVar 1))))))
theorem sSeq_ret {f g : MS} {η : Env} {w : W} {S S1 : Store} (h : f η S = .ret w S1) : sSeq f g η S = .ret w S1 := by
  unfold sSeq
  rw [h] <;> rfl
theorem sSet_ok {f : ME} {η : Env} {S S1 : Store} {i : Nat} {w : W} (h : f η S = .ok w S1) : sSet i f η S = .nx (η.set i (some w)) S1 := by
  unfold sSet
  rw [h] <;> rfl
theorem sFor_ok {it : MI} {g : MG} {b : MS} {η : Env} {S S1 : Store} {xs : List W} (h : it η S = .ok xs S1) : sFor it g b η S = forL g b xs η S1 := by
  unfold sFor
  rw [h] <;> rfl
theorem Nx.eq {f : MS} {η η1 : Env} {S S1 : Store} {P : Env → Store → Prop} (h : f η S = .nx η1 S1) (k : P η1 S1) : Nx (f η S) P := ⟨_, _, h, k⟩
theorem forL_nx {g : MG} {b : MS} {η η1 η2 : Env} {S S1 S2 : Store} {x : W} {r : List W} (hg : g x η S = some (η1, S1)) (hb : b η1 S1 = .nx η2 S2) : forL g b (x :: r) η S = forL g b r η2 S2 := by
  conv => lhs; unfold forL
  simp only [hg, hb]
/-- a loop that keeps an invariant -/
theorem forL_inv {g : MG} {b : MS} (I : Env → Store → Prop) : ∀ (xs : List W), (∀ x, x ∈ xs → ∀ η S, I η S → ∃ η1 S1 η2 S2, g x η S = some (η1, S1) ∧ b η1 S1 = .nx η2 S2 ∧ I η2 S2) → ∀ η S, I η S → ∃ η' S', forL g b xs η S = .nx η' S' ∧ I η' S'
  | [], _, η, S, hi => ⟨η, S, rfl, hi⟩
  | x :: r, h, η, S, hi => by
    obtain ⟨η1, S1, η2, S2, e1, e2, i2⟩ := h x (List.mem_cons_self ..) η S hi
    rw [forL_nx e1 e2]
    exact forL_inv I r (fun y hy => h y (List.mem_cons_of_mem _ hy)) η2 S2 i2
theorem intsOf_map : ∀ ns : List Int, intsOf (ns.map W.int) = some ns
  | [] => rfl
  | n :: r => by
    show (intsOf (r.map W.int)).map (n :: ·) = _
    rw [intsOf_map r] <;> rfl
theorem cutW_map {α β : Type} (f : α → β) (xs : List α) (lo hi : Option Int) : cutW (xs.map f) lo hi = (cutW xs lo hi).map f := by
  unfold cutW
  rw [List.length_map, List.map_take, List.map_drop]
theorem cutW_le {α : Type} (xs : List α) (lo hi : Option Int) : (cutW xs lo hi).length ≤ xs.length := by
  unfold cutW
  rw [List.length_take, List.length_drop]
  omega
theorem mulOk_r {i j : Int} (h : j.natAbs < 18446744073709551616) : mulOk i j = true := by
  unfold mulOk
  rw [decide_eq_true h, Bool.or_true]
theorem mulOk_l {i j : Int} (h : i.natAbs < 18446744073709551616) : mulOk i j = true := by
  unfold mulOk
  rw [decide_eq_true h, Bool.true_or]
theorem opMul_l {i j : Int} {S : Store} (h : i.natAbs < 18446744073709551616) : opMul (.int i) (.int j) S = some (.int (i * j)) := if_pos (mulOk_l h)
theorem opMul_r {i j : Int} {S : Store} (h : j.natAbs < 18446744073709551616) : opMul (.int i) (.int j) S = some (.int (i * j)) := if_pos (mulOk_r h)
theorem opMod_ok {i j : Int} {S : Store} (h : 0 < j) : opMod (.int i) (.int j) S = some (.int (i % j)) := if_pos h
theorem opDiv_ok {i j : Int} {S : Store} (h : 0 < j ∧ j.natAbs.log2 < 9000) : opDiv (.int i) (.int j) S = some (.int (i / j)) := if_pos h
theorem mBin_ok {o : O2} {f g : ME} {η : Env} {S S1 S2 : Store} {x y z : W} (hf : f η S = .ok x S1) (hg : g η S1 = .ok y S2) (h : o x y S2 = some z) : mBin o f g η S = .ok z S2 := by
  unfold mBin
  rw [hf]
  show (g η S1).bind _ = _
  rw [hg]
  show rOpt (o x y S2) S2 = _
  rw [h] <;> rfl
theorem mBi1_ok {o : OA} {f : ME} {η : Env} {S S1 : Store} {x z : W} (hf : f η S = .ok x S1) (h : o [x] S1 = some z) : mBi o (maCons f maNil) η S = .ok z S1 := by
  unfold mBi maCons
  rw [hf]
  show rOpt (o [x] S1) S1 = _
  rw [h] <;> rfl
theorem mVar_ok {i : Nat} {η : Env} {S : Store} {w : W} (h : η[i]? = some (some w)) : mVar i η S = .ok w S := by
  unfold mVar
  rw [h]
theorem mC_ok {w : W} {η : Env} {S : Store} : mC w η S = .ok w S := rfl
theorem mIf_t {c : MT} {f g : ME} {η : Env} {S S1 : Store} (h : c η S = .ok true S1) : mIf c f g η S = f η S1 := by
  unfold mIf
  rw [h] <;> rfl
theorem mIf_f {c : MT} {f g : ME} {η : Env} {S S1 : Store} (h : c η S = .ok false S1) : mIf c f g η S = g η S1 := by
  unfold mIf
  rw [h] <;> rfl
theorem maNil_ok {η : Env} {S : Store} : maNil η S = .ok [] S := rfl
theorem maCons_ok {f : ME} {g : MA} {η : Env} {S S1 S2 : Store} {x : W} {xs : List W} (hf : f η S = .ok x S1) (hg : g η S1 = .ok xs S2) : maCons f g η S = .ok (x :: xs) S2 := by
  unfold maCons
  rw [hf]
  show (g η S1).bind _ = _
  rw [hg] <;> rfl
theorem mBi_ok {o : OA} {g : MA} {η : Env} {S S1 : Store} {xs : List W} {z : W} (hf : g η S = .ok xs S1) (h : o xs S1 = some z) : mBi o g η S = .ok z S1 := by
  unfold mBi
  rw [hf]
  show rOpt (o xs S1) S1 = _
  rw [h] <;> rfl
theorem mUn_ok {o : W → Store → Option W} {f : ME} {η : Env} {S S1 : Store} {x z : W} (hf : f η S = .ok x S1) (h : o x S1 = some z) : mUn o f η S = .ok z S1 := by
  unfold mUn
  rw [hf]
  show rOpt (o x S1) S1 = _
  rw [h] <;> rfl
theorem mTup_ok {g : MA} {η : Env} {S S1 : Store} {xs : List W} (hf : g η S = .ok xs S1) (h : xs.length ≤ bigLine) : mTup g η S = .ok (.tup xs) S1 := by
  unfold mTup
  rw [hf]
  exact if_pos h
theorem mLst_ok {g : MA} {η : Env} {S S1 : Store} {xs : List W} (hf : g η S = .ok xs S1) (h : xs.length ≤ bigLine) : mLst g η S = .ok (.lst xs) S1 := by
  unfold mLst
  rw [hf]
  exact if_pos h
theorem mLstS_ok {g : MA} {η : Env} {S S1 : Store} {xs : List W} (hf : g η S = .ok xs S1) (hp : pures xs = true) (h : xs.length ≤ bigLine) : mLstS g η S = .ok (.ref S1.length) (S1 ++ [.lst xs]) := by
  unfold mLstS
  rw [hf]
  show (if pures xs = true then _ else _) = _
  rw [if_pos hp]
  exact if_pos h
theorem mCall_ok {φ : Fns} {f : Nat} {g : MA} {η : Env} {S S1 S2 : Store} {xs : List W} {z : W} (hf : g η S = .ok xs S1) (h : φ f xs S1 = .ok z S2) : mCall φ f g η S = .ok z S2 := by
  unfold mCall
  rw [hf]
  exact h
theorem mTru_ok {f : ME} {η : Env} {S S1 : Store} {x : W} {b : Bool} (hf : f η S = .ok x S1) (h : truthy S1 x = some b) : mTru f η S = .ok b S1 := by
  unfold mTru
  rw [hf]
  show rOpt (truthy S1 x) S1 = _
  rw [h] <;> rfl
theorem mTNot_ok {f : MT} {η : Env} {S S1 : Store} {b : Bool} (hf : f η S = .ok b S1) : mTNot f η S = .ok (!b) S1 := by
  unfold mTNot
  rw [hf] <;> rfl
theorem mTAnd_t {f g : MT} {η : Env} {S S1 : Store} (hf : f η S = .ok true S1) : mTAnd f g η S = g η S1 := by
  unfold mTAnd
  rw [hf] <;> rfl
theorem mTAnd_f {f g : MT} {η : Env} {S S1 : Store} (hf : f η S = .ok false S1) : mTAnd f g η S = .ok false S1 := by
  unfold mTAnd
  rw [hf] <;> rfl
theorem mTOr_t {f g : MT} {η : Env} {S S1 : Store} (hf : f η S = .ok true S1) : mTOr f g η S = .ok true S1 := by
  unfold mTOr
  rw [hf] <;> rfl
theorem mTOr_f {f g : MT} {η : Env} {S S1 : Store} (hf : f η S = .ok false S1) : mTOr f g η S = g η S1 := by
  unfold mTOr
  rw [hf] <;> rfl
theorem mTCmp_ok {o : O2} {f g : ME} {η : Env} {S S1 S2 : Store} {x y : W} {b : Bool} (hf : f η S = .ok x S1) (hg : g η S1 = .ok y S2) (h : o x y S2 = some (.bl b)) : mTCmp o f g η S = .ok b S2 := by
  unfold mTCmp
  rw [hf]
  show (g η S1).bind _ = _
  rw [hg]
  show (match o x y S2 with | some (.bl b) => R.ok b S2 | _ => .stuck) = _
  rw [h]
theorem sIf_t {c : MT} {f g : MS} {η : Env} {S S1 : Store} (h : c η S = .ok true S1) : sIf c f g η S = f η S1 := by
  unfold sIf
  rw [h] <;> rfl
theorem sIf_f {c : MT} {f g : MS} {η : Env} {S S1 : Store} (h : c η S = .ok false S1) : sIf c f g η S = g η S1 := by
  unfold sIf
  rw [h] <;> rfl
theorem sIf_n {c : MT} {f : MS} {η : Env} {S S1 : Store} (h : c η S = .ok false S1) : sIf c f sNx η S = .nx η S1 := sIf_f h
theorem sRet_ok {f : ME} {η : Env} {S S1 : Store} {w : W} (h : f η S = .ok w S1) : sRet f η S = .ret w S1 := by
  unfold sRet
  rw [h] <;> rfl
theorem sAsg_ok {f : ME} {g : MG} {η η2 : Env} {S S1 S2 : Store} {w : W} (h : f η S = .ok w S1) (hg : g w η S1 = some (η2, S2)) : sAsg f g η S = .nx η2 S2 := by
  unfold sAsg
  rw [h]
  show optS (g w η S1) = _
  rw [hg] <;> rfl
theorem gIdx_ok {o i : ME} {w ow iw : W} {η : Env} {S S1 S2 S3 : Store} (ho : o η S = .ok ow S1) (hi : i η S1 = .ok iw S2) (h : setAt ow iw w S2 = some S3) : gIdx o i w η S = some (η, S3) := by
  unfold gIdx
  rw [ho]
  show (match i η S1 with | .ok iw S2 => (setAt ow iw w S2).map fun S3 => (η, S3) | _ => none) = _
  rw [hi]
  show (setAt ow iw w S2).map _ = _
  rw [h] <;> rfl
theorem gsCons_ok {g : MG} {gs : MGs} {w : W} {r : List W} {η η1 : Env} {S S1 : Store} {z : Option (Env × Store)} (h : g w η S = some (η1, S1)) (h2 : gs r η1 S1 = z) : gsCons g gs (w :: r) η S = z := by
  unfold gsCons
  show (g w η S).bind _ = _
  rw [h]
  exact h2
theorem opIx_ref {S : Store} {i : Nat} {k : Int} {xs : List W} {w : W} (hs : S[i]? = some (.lst xs)) (h : atW xs k = some w) : opIx (.ref i) (.int k) S = some w := by
  show (lstOf S (.ref i)).bind _ = _
  rw [show lstOf S (.ref i) = some xs from by show (match S[i]? with | some (.lst xs) => some xs | _ => none) = _; rw [hs]]
  exact h
theorem setAt_ref {S : Store} {i : Nat} {k : Int} {xs : List W} {w : W} (hs : S[i]? = some (.lst xs)) (h : 0 ≤ k ∧ k < xs.length) (hp : w.pure = true) : setAt (.ref i) (.int k) w S = some (S.set i (.lst (xs.set k.toNat w))) := by
  show (match S[i]? with
    | some (.lst xs) => if 0 ≤ k ∧ k < xs.length then (if w.pure then some (S.set i (.lst (xs.set k.toNat w))) else none)
        else if k < 0 ∧ -(xs.length : Int) ≤ k then (if w.pure then some (S.set i (.lst (xs.set (k + xs.length).toNat w))) else none) else none
    | _ => none) = _
  rw [hs]
  show (if _ then _ else _) = _
  rw [if_pos h, if_pos hp]
theorem take_ok {φ : Fns} {S : Store} {i : Nat} {n : Int} (hw : Well S i) (h0 : 0 < n) (h1 : n.natAbs.log2 < 9000) :
    ∃ v : Int, 0 ≤ v ∧ v < n ∧ ∃ S', takeB φ [some (.ref i), some (.int n), none, none] S = .ret (.int v) S' ∧ Well S' i ∧ S'.length = S.length ∧ ∀ j, j ≠ i → S'[j]? = S[j]? := by
  obtain ⟨a, b, c, ha, hb, hs⟩ := hw
  have hi : i < S.length := (List.getElem?_eq_some_iff.mp hs).1
  have ix : ∀ {η : Env} {S : Store} {a b c : Int} (_ : S[i]? = some (.lst [.int a, .int b, .int c])) (k : Int) (w : W), η[0]? = some (some (.ref i)) → atW [.int a, .int b, .int c] k = some w → mBin opIx (mVar 0) (mC (.int k)) η S = .ok w S := fun hs k w h0 h => mBin_ok (mVar_ok h0) rfl (opIx_ref hs h)
  have tst : ∀ η : Env, η[0]? = some (some (.ref i)) → (mTCmp opGt (mBin opIx (mVar 0) (mC (.int 0))) (mC (.int 0))) η S = .ok (decide (0 < a)) S := fun η e => mTCmp_ok (ix hs 0 _ e rfl) rfl rfl
  unfold takeB
  by_cases c0 : 0 < a
  · refine ⟨a % n, Int.emod_nonneg _ (by omega), Int.emod_lt_of_pos _ h0, S.set i (.lst [.int (a / n), .int b, .int c]), ?_, ⟨_, _, _, Int.ediv_nonneg ha (by omega), hb, List.getElem?_set_self hi⟩, List.length_set, fun j hj => List.getElem?_set_ne (Ne.symm hj)⟩
    refine sSeq_ret ?_
    rw [sIf_t ((tst _ rfl).trans (by rw [decide_eq_true c0]))]
    refine (sSeq_nx (η1 := [some (.ref i), some (.int n), some (.int (a % n)), none]) (S1 := S.set i (.lst [.int (a / n), .int b, .int c])) (sAsg_ok (S1 := S) (w := .tup [.int (a / n), .int (a % n)]) (mBi_ok (maCons_ok (ix hs 0 _ rfl rfl) (maCons_ok (mVar_ok rfl) rfl)) (if_pos ⟨h0, h1⟩)) (gsCons_ok (gIdx_ok rfl rfl (setAt_ref hs ⟨by decide, by show (_ : Int) < 3; decide⟩ rfl)) (gsCons_ok rfl rfl)))).trans ?_
    rfl
  · have S1 : ∃ S1, S1 = S.set i (.lst [.int a, .int b, .int (c + 1)]) := ⟨_, rfl⟩
    obtain ⟨S1, e1⟩ := S1
    have hs1 : S1[i]? = some (.lst [.int a, .int b, .int (c + 1)]) := by rw [e1, List.getElem?_set_self hi]
    have hd : ∃ d : Int, d = (b * (b % 28657 + 40009) + 50023 * (c + 1) + 17) % 2147483563 := ⟨_, rfl⟩
    obtain ⟨d, ed⟩ := hd
    have d0 : 0 ≤ d := by rw [ed]; exact Int.emod_nonneg _ (by decide)
    have S2 : ∃ S2, S2 = S1.set i (.lst [.int a, .int d, .int (c + 1)]) := ⟨_, rfl⟩
    obtain ⟨S2, e2⟩ := S2
    have hi1 : i < S1.length := (List.getElem?_eq_some_iff.mp hs1).1
    have hs2 : S2[i]? = some (.lst [.int a, .int d, .int (c + 1)]) := by rw [e2, List.getElem?_set_self hi1]
    refine ⟨(d / 83) % n, Int.emod_nonneg _ (by omega), Int.emod_lt_of_pos _ h0, S2, ?_, ⟨_, _, _, ha, d0, hs2⟩, by rw [e2, e1, List.length_set, List.length_set], fun j hj => by rw [e2, e1, List.getElem?_set_ne (Ne.symm hj), List.getElem?_set_ne (Ne.symm hj)]⟩
    refine (sSeq_nx (η1 := [some (.ref i), some (.int n), none, none]) (S1 := S) (sIf_n ((tst [some (.ref i), some (.int n), none, none] rfl).trans (by rw [decide_eq_false c0])))).trans ?_
    refine (sSeq_nx (η1 := [some (.ref i), some (.int n), none, none]) (S1 := S1) (sAsg_ok (S1 := S) (w := .int (c + 1)) (mBin_ok (ix hs 2 _ rfl rfl) rfl rfl) (gIdx_ok rfl rfl (by rw [e1]; exact setAt_ref hs ⟨by decide, by show (_ : Int) < 3; decide⟩ rfl)))).trans ?_
    refine (sSeq_nx (sSet_ok (η := [some (.ref i), some (.int n), none, none]) (mBin_ok (mBin_ok (mBi1_ok (ix hs1 1 _ rfl rfl) rfl) rfl (opMod_ok (by decide))) rfl rfl))).trans ?_
    refine (sSeq_nx (η1 := [some (.ref i), some (.int n), none, some (.int (b % 28657 + 40009))]) (S1 := S2) (sAsg_ok (S1 := S1) (w := .int d) (mBin_ok (mBi1_ok (mBin_ok (mBin_ok (mBin_ok (ix hs1 1 _ rfl rfl) rfl (opMul_r (by
        have := Int.emod_nonneg b (show (28657 : Int) ≠ 0 by decide)
        have := Int.emod_lt_of_pos b (show (0 : Int) < 28657 by decide)
        omega))) (mBin_ok rfl (ix hs1 2 _ rfl rfl) (opMul_l (by decide))) rfl) rfl rfl) rfl) rfl (by rw [ed]; exact opMod_ok (by decide))) (gIdx_ok rfl rfl (by rw [e2]; exact setAt_ref hs1 ⟨by decide, by show (_ : Int) < 3; decide⟩ rfl)))).trans ?_
    exact sRet_ok (mBin_ok (mBi1_ok (mBin_ok (ix hs2 1 _ rfl rfl) rfl (opDiv_ok (by decide))) rfl) rfl (opMod_ok h0))
theorem fns_eq {T : List Fun} {d k : Nat} {F : Fun} {ws : List W} {S : Store} (h : T[k]? = some F) (hl : ws.length = F.np) (hf : F.fr = false := by rfl) : fns T (d + 1) k ws S = finS F.keep S.length (F.body (fns T d) (ws.map some ++ List.replicate (F.nv - F.np) none) S) := by
  show (match T[k]? with
    | some F => runF F (fns T d) ws S
    | none => .stuck) = _
  rw [h]
  refine (if_pos hl).trans (if_neg ?_)
  rw [hf]
  decide
theorem fns_fr {T : List Fun} {d k : Nat} {F : Fun} {ws : List W} {S : Store} (h : T[k]? = some F) (hl : ws.length = F.np) (hp : pures ws = true) (hf : F.fr = true := by rfl) : fns T (d + 1) k ws S = (finS false 0 (F.body (fns T d) (ws.map some ++ List.replicate (F.nv - F.np) none) [])).frame S := by
  show (match T[k]? with
    | some F => runF F (fns T d) ws S
    | none => .stuck) = _
  rw [h]
  exact (if_pos hl).trans ((if_pos hf).trans (if_pos hp))
/-- what a framed function gives at one store it gives at any -/
theorem fr_any {T : List Fun} {d k : Nat} {F : Fun} {ws : List W} {S0 S1 S : Store} {w : W} (h : T[k]? = some F) (e : fns T d k ws S0 = .ok w S1) (hf : F.fr = true := by rfl) : fns T d k ws S = .ok w S := by
  cases d with
  | zero => cases e
  | succ d =>
    have e : (match T[k]? with
      | some F => runF F (fns T d) ws S0
      | none => .stuck) = .ok w S1 := e
    show (match T[k]? with
      | some F => runF F (fns T d) ws S
      | none => .stuck) = _
    rw [h] at e ⊢
    have e : runF F (fns T d) ws S0 = .ok w S1 := e
    show runF F (fns T d) ws S = _
    unfold runF at e ⊢
    split at e
    · rename_i hl
      rw [if_pos hl, if_pos hf]
      split at e
      · rename_i hp
        rw [if_pos hp]
        cases eb : finS false 0 (F.body (fns T d) (ws.map some ++ List.replicate (F.nv - F.np) none) []) with
        | stuck => rw [eb] at e; cases e
        | exc c x S2 =>
          rw [eb] at e
          have e : (if x.pure = true then R.exc c x S0 else .stuck) = .ok w S1 := e
          split at e <;> cases e
        | ok v S2 =>
          rw [eb] at e
          have e : (if v.pure = true then R.ok v S0 else .stuck) = .ok w S1 := e
          split at e
          · rename_i pv
            cases e
            exact if_pos pv
          · cases e
      · cases e
    · cases e
theorem take_callW {T : List Fun} {d k : Nat} {S : Store} {i : Nat} {n : Int} (h : T[k]? = some ⟨2, 4, false, false, takeB⟩) (hw : Well S i) (h0 : 0 < n) (h1 : n.natAbs.log2 < 9000) :
    ∃ v : Int, 0 ≤ v ∧ v < n ∧ ∃ S', fns T (d + 1) k [.ref i, .int n] S = .ok (.int v) S' ∧ Well S' i ∧ S'.length = S.length ∧ ∀ j, j ≠ i → S'[j]? = S[j]? := by
  obtain ⟨v, v0, v1, S', e, w, l, o⟩ := take_ok (φ := fns T d) hw h0 h1
  refine ⟨v, v0, v1, S', ?_, w, l, o⟩
  rw [fns_eq h rfl]
  refine (congrArg (finS false S.length) e).trans ?_
  show R.ok _ (S'.take S.length) = _
  rw [List.take_of_length_le (by omega)]
theorem log_small {n : Int} (h0 : 0 < n) (h1 : n < 1073741824) : n.natAbs.log2 < 9000 := by
  have : n.natAbs.log2 < 30 := (Nat.log2_lt (by omega)).mpr (by omega)
  omega
theorem take_call {T : List Fun} {d k : Nat} {S : Store} {i : Nat} {n : Int} (h : T[k]? = some ⟨2, 4, false, false, takeB⟩) (hw : Well S i) (h0 : 0 < n) (h1 : n < 1073741824) :
    ∃ v : Int, 0 ≤ v ∧ v < n ∧ ∃ S', fns T (d + 1) k [.ref i, .int n] S = .ok (.int v) S' ∧ Well S' i ∧ S'.length = S.length ∧ ∀ j, j ≠ i → S'[j]? = S[j]? := take_callW h hw h0 (log_small h0 h1)
theorem mem_range {x : W} {a : Int} {n : Nat} (h : x ∈ rangeW a n) : ∃ t : Nat, t < n ∧ x = .int (a + t) := by
  obtain ⟨t, ht, rfl⟩ := List.mem_map.mp h
  exact ⟨t, List.mem_range.mp ht, rfl⟩
theorem pures_ints : ∀ ns : List Int, pures (ns.map W.int) = true
  | [] => rfl
  | n :: r => by
    show (true && pures (r.map W.int)) = true
    rw [pures_ints r] <;> rfl
theorem law_end {T : List Fun} {d k nv : Nat} {b : Fns → MS} {ns : List Int} (h : T[k]? = some ⟨1, nv, false, true, b⟩) (e : Rt (b (fns T d) (some (.scr (ns.map .int)) :: List.replicate (nv - 1) none) []) (.bl true)) : ∃ S, fns T (d + 1) k [.scr (ns.map .int)] [] = .ok (.bl true) S := by
  obtain ⟨S, e⟩ := e
  refine ⟨[], ?_⟩
  rw [fns_fr h rfl (by show (pures (ns.map W.int) && true) = true; rw [pures_ints]; rfl)]
  exact (congrArg (fun z => R.frame [] (finS false 0 z)) e).trans rfl
end Mp
set_option Elab.async false
set_option linter.all false
set_option maxRecDepth 100000
set_option maxHeartbeats 4000000
/-! Mp: zip, enumerate. -/
namespace Mp
open PySem PySem.Spec PyProof.Rows L2 RZ
def zipW : List W → Option (List W)
  | [.lst xs, .lst ys] => some (pairsW xs ys)
  | [.tup xs, .tup ys] => some (pairsW xs ys)
  | _ => none
def enumW : List W → Option (List W)
  | [.lst xs] => some (enumL 0 xs)
  | _ => none
section
variable {K : PySem.W.Frag} {G : Gs} {γ : Ga} {H : Hp} {S : Store}
end
section
variable {X : Cx} {G : Gs} {a b e : Expr} {pos p tpos : Pos} {ga : MA} {elts : List Expr} {kk : Nat}
end
end Mp
set_option Elab.async false
set_option linter.all false
set_option maxRecDepth 100000
set_option maxHeartbeats 4000000
/-! Mp: comprehensions of two fors. -/
namespace Mp
open PySem PySem.Spec PyProof.Rows L2
def compL2 (g : MG) (t : MT) (it1 : MI) (g1 : MG) (t1 : MT) (e : ME) (vs1 : List Nat) (η : Env) : List W → Store → List W → R (List W)
  | [], S, acc => .ok acc S
  | x :: r, S, acc => match g x η S with
    | none => .stuck
    | some (η1, S1) => (t η1 S1).bind fun b S2 => if b = true then (it1 η1 S2).bind fun ys S3 => (compL g1 t1 e (wipeE η1 vs1) ys S3 acc).bind fun acc' S4 => compL2 g t it1 g1 t1 e vs1 η r S4 acc' else compL2 g t it1 g1 t1 e vs1 η r S2 acc
def mComp2 (it : MI) (own : List Nat) (g : MG) (t : MT) (it1 : MI) (vs1 : List Nat) (g1 : MG) (t1 : MT) (e : ME) : ME := fun η S => (it η S).bind fun xs S1 => (noexc (compL2 g t it1 g1 t1 e vs1 (wipeE η own) xs S1 [])).bind fun ws S2 => .ok (.lst ws) S2
section
variable {X : Cx} {G : Gs} {tg iter elt : Expr} {ifs : List Expr} {scope : Scope} {f : ME} {g g1 : MG} {t t1 : MT} {it it1 : MI} {is is1 : List Nat} {own : List (Str × Nat)} {pos : Pos}
theorem ExtW.busy {γ γ' : Ga} {H H' : Hp} {D : Addr} {o : HO} (e : ExtW γ H γ' H') (h : D ∈ γ.β) : ExtW γ H γ' (L2.upd H' D o) :=
  ⟨e.pre, e.bsub, e.bnew, fun a u q n => by rw [upd_ne (n.ne h)]; exact e.keep a u q n, e.new, fun a u q => by
    by_cases z : a = D
    · exact ⟨_, by rw [z]; exact upd_same⟩
    · obtain ⟨u', q'⟩ := e.dom a u q
      exact ⟨u', by rw [upd_ne z]; exact q'⟩⟩
variable {tg1 iter1 : Expr} {ifs1 : List Expr}
end
end Mp
set_option Elab.async false
set_option linter.all false
set_option maxRecDepth 100000
set_option maxHeartbeats 4000000
/-! Mp: methods. -/
namespace Mp
open PySem PySem.Spec PyProof.Rows L2
def omAppend : OM := fun x ws S => match x, ws with
  | .ref i, [w] => (match S[i]? with
    | some (.lst xs) => if w.pure = true ∧ xs.length + 1 ≤ bigLine then some (.non, S.set i (.lst (xs ++ [w]))) else none
    | _ => none)
  | _, _ => none
def omExtend : OM := fun x ws S => match x, ws with
  | .ref i, [w] => (match S[i]?, lstOf S w with
    | some (.lst xs), some ys => if pures ys = true ∧ xs.length + ys.length ≤ bigLine then some (.non, S.set i (.lst (xs ++ ys))) else none
    | _, _ => none)
  | _, _ => none
def omPopAt : OM := fun x ws S => match x, ws with
  | .ref i, [.int k] => (match S[i]? with
    | some (.lst xs) => if 0 ≤ k ∧ k < xs.length ∧ k < 9223372036854775808 then (xs[k.toNat]?).map fun w => (w, S.set i (.lst (xs.eraseIdx k.toNat))) else none
    | _ => none)
  | _, _ => none
def omPop : OM := fun x ws S => match x, ws with
  | .ref i, [] => (match S[i]? with
    | some (.lst xs) => (xs[xs.length - 1]?).map fun w => (w, S.set i (.lst xs.dropLast))
    | _ => none)
  | _, _ => none
theorem pures_get : ∀ {xs : List W} {i : Nat} {w : W}, pures xs = true → xs[i]? = some w → w.pure = true
  | [], i, w, _, h => by simp at h
  | x :: r, 0, w, h, e => by
    rw [pures, Bool.and_eq_true] at h
    have : x = w := by simpa using e
    rw [← this]
    exact h.1
  | x :: r, i + 1, w, h, e => by
    rw [pures, Bool.and_eq_true] at h
    exact pures_get h.2 (i := i) (by simpa using e)
section
variable {X : Cx} {G : Gs} {a e : Expr} {es : List Expr} {apos cpos : Pos} {f : ME} {ga : MA} {T id : String} {name : Str} {o : OM} {c : Nat}
end
end Mp
set_option Elab.async false
set_option linter.all false
set_option maxRecDepth 100000
set_option maxHeartbeats 4000000
/-! Mp: sorted, of texts, of ints. -/
namespace Mp
open PySem PySem.Spec PyProof.Rows L2
def ltN : List Nat → List Nat → Bool
  | [], [] => false
  | [], _ :: _ => true
  | _ :: _, [] => false
  | a :: r, b :: t => decide (a < b) || (a == b && ltN r t)
def insN (x : List Nat) : List (List Nat) → List (List Nat)
  | [] => [x]
  | y :: r => if ltN y x = true then y :: insN x r else x :: y :: r
def sortN : List (List Nat) → List (List Nat)
  | [] => []
  | x :: r => insN x (sortN r)
abbrev AscN (l : List (List Nat)) : Prop := l.Pairwise fun a b => ltN b a = false
def insZ (x : Int) : List Int → List Int
  | [] => [x]
  | y :: r => if y < x then y :: insZ x r else x :: y :: r
def sortZ : List Int → List Int
  | [] => []
  | x :: r => insZ x (sortZ r)
section
variable {prog : Program} {w : World} {A : Around} {E : Value → Shared → Prop} {s : Shared}
end
def isTup : W → Bool
  | .tup _ => true
  | _ => false
def sortedRes (t : Bool) (ys : List W) : Option W := match strsOf ys with
  | some zs => some (.lst ((sortN zs).map .str))
  | none => if t = true then none else (intsOf ys).map fun ns => .lst ((sortZ ns).map .int)
def baSorted : OA := fun xs S => match xs with
  | [x] => (seqOf S x).bind (sortedRes (isTup x))
  | _ => none
section
variable {X : Cx} {G : Gs}
end
end Mp
set_option Elab.async false
set_option linter.all false
set_option maxRecDepth 100000
set_option maxHeartbeats 4000000
/-! Mp: three at once; comprehensions whose list changes later. -/
namespace Mp
open PySem PySem.Spec PyProof.Rows L2
section
variable {X : Cx} {G : Gs} {a b c : Expr} {ga : MA} {pos : Pos}
end
def mCompS (it : MI) (own : List Nat) (g : MG) (t : MT) (e : ME) : ME := fun η S => (it η S).bind fun xs S1 => (noexc (compL g t e (wipeE η own) xs S1 [])).bind fun ws S2 => if pures ws = true then .ok (.ref S2.length) (S2 ++ [.lst ws]) else .stuck
section
variable {X : Cx} {G : Gs} {tg iter elt : Expr} {ifs : List Expr} {scope : Scope} {f : ME} {g : MG} {t : MT} {it : MI} {is : List Nat} {own : List (Str × Nat)} {pos : Pos}
end
end Mp
set_option Elab.async false
set_option linter.all false
set_option maxRecDepth 100000
set_option maxHeartbeats 4000000
/-! Mp: a list of the store is walked: each turn reads it anew. -/
namespace Mp
open PySem PySem.Spec PyProof.Rows L2
def itemR (r i : Nat) (S : Store) : Option (Option W) := match S[r]? with
  | some (.lst xs) => some xs[i]?
  | _ => none
def forR (g : MG) (b : MS) (r : Nat) : Nat → Nat → Env → Store → RS
  | 0, _, _, _ => .stuck
  | n + 1, i, η, S => match itemR r i S with
    | none => .stuck
    | some none => .nx η S
    | some (some x) => (match g x η S with
      | none => .stuck
      | some (η1, S1) => (match b η1 S1 with
        | .nx η2 S2 => forR g b r n (i + 1) η2 S2
        | .ct η2 S2 => forR g b r n (i + 1) η2 S2
        | .bk η2 S2 => .nx η2 S2
        | r => r))
def refI : W → Option Nat
  | .ref r => some r
  | _ => none
def forD (g : MG) (b : MS) (η : Env) (w : W) (S : Store) : RS := match refI w with
  | some r => forR g b r 1000000 0 η S
  | none => (match seqI w with
    | some xs => forL g b xs η S
    | none => .stuck)
def sForD (f : ME) (g : MG) (b : MS) : MS := fun η S => (f η S).toS η (forD g b η)
def compR (g : MG) (t : MT) (e : ME) (η : Env) (r : Nat) : Nat → Nat → Store → List W → R (List W)
  | 0, _, _, _ => .stuck
  | n + 1, i, S, acc => match itemR r i S with
    | none => .stuck
    | some none => .ok acc S
    | some (some x) => (match g x η S with
      | none => .stuck
      | some (η1, S1) => (t η1 S1).bind fun b S2 => if b = true then (e η1 S2).bind fun w S3 => sized (acc.length + 1) (compR g t e η r n (i + 1) S3 (acc ++ [w])) else compR g t e η r n (i + 1) S2 acc)
def compD (g : MG) (t : MT) (e : ME) (η : Env) (w : W) (S : Store) : R (List W) := match refI w with
  | some r => compR g t e η r 1000000 0 S []
  | none => (match seqI w with
    | some xs => compL g t e η xs S []
    | none => .stuck)
/-- a comprehension over a list, a tuple, a text; keep: the list changes later -/
def mCompD (keep : Bool) (f : ME) (own : List Nat) (g : MG) (t : MT) (e : ME) : ME := fun η S => (f η S).bind fun w S1 => (noexc (compD g t e (wipeE η own) w S1)).bind fun ws S2 => if keep = true then (if pures ws = true then .ok (.ref S2.length) (S2 ++ [.lst ws]) else .stuck) else .ok (.lst ws) S2
section
variable {K : PySem.W.Frag} {G : Gs} {γ : Ga} {H : Hp} {S : Store}
end
section
variable {X : Cx} {G : Gs} {tg a : Expr} {pos : Pos} {f : ME} {g : MG} {m : MS} {is : List Nat}
end
section
variable {X : Cx} {G : Gs} {tg iter elt : Expr} {ifs : List Expr} {scope : Scope} {f e : ME} {g : MG} {t : MT} {is : List Nat} {own : List (Str × Nat)} {pos : Pos}
end
end Mp
set_option Elab.async false
set_option linter.all false
set_option maxRecDepth 100000
set_option maxHeartbeats 4000000
/-! Mp: a sum of lists that changes later. -/
namespace Mp
open PySem PySem.Spec PyProof.Rows L2
def mAddS (f g : ME) : ME := fun η S => (f η S).bind fun x S1 => (g η S1).bind fun y S2 => match lstOf S2 x, lstOf S2 y with
  | some a, some b => if a.length + b.length ≤ bigLine ∧ pures (a ++ b) = true then .ok (.ref S2.length) (S2 ++ [.lst (a ++ b)]) else .stuck
  | _, _ => .stuck
section
variable {X : Cx} {G : Gs} {a b : Expr} {pos : Pos} {f g : ME}
end
end Mp
set_option Elab.async false
set_option linter.all false
set_option maxRecDepth 100000
set_option maxHeartbeats 4000000
/-! Mp: enumerate of tuples. -/
namespace Mp
open PySem PySem.Spec PyProof.Rows L2
section
variable {X : Cx} {G : Gs} {a : Expr} {pos p tpos : Pos} {ga : MA} {elts : List Expr} {kk : Nat}
end
end Mp
set_option Elab.async false
set_option linter.all false
set_option maxRecDepth 100000
set_option maxHeartbeats 4000000
/-! Mp: tuples compared. -/
namespace Mp
open PySem PySem.Spec PyProof.Rows L2
section
variable {X : Cx} {G : Gs}
def opLt2 : O2 := opCmp2 (fun i j => decide (i < j)) (fun a b => decide (a < b)) fun m n => decide (m < n)
def opGt2 : O2 := opCmp2 (fun i j => decide (j < i)) (fun a b => decide (b < a)) fun m n => decide (m > n)
def opGe2 : O2 := opCmp2 (fun i j => decide (j ≤ i)) (fun a b => !decide (a < b)) fun m n => decide (m ≥ n)
end
end Mp
set_option Elab.async false
set_option linter.all false
set_option maxRecDepth 100000
set_option maxHeartbeats 4000000
/-! Mp: is True, is False. -/
namespace Mp
open PySem PySem.Spec PyProof.Rows L2
def opNotIsB : O2 := fun x y S => match opIsB x y S with
  | some (.bl b) => some (.bl (!b))
  | _ => none
section
variable {X : Cx} {G : Gs}
end
/-! bits of naturals -/
def opXor : O2 := fun x y _ => match x, y with
  | .int i, .int j => if 0 ≤ i ∧ 0 ≤ j then some (.int ((i.toNat ^^^ j.toNat : Nat) : Int)) else none
  | _, _ => none
def opAnd : O2 := fun x y _ => match x, y with
  | .int i, .int j => if 0 ≤ i ∧ 0 ≤ j then some (.int ((i.toNat &&& j.toNat : Nat) : Int)) else none
  | _, _ => none
def opShl : O2 := fun x y _ => match x, y with
  | .int i, .int j => if 0 ≤ j ∧ j ≤ 1000000 ∧ i.natAbs < 18446744073709551616 then some (.int (i * 2 ^ j.toNat)) else none
  | _, _ => none
def opShr : O2 := fun x y _ => match x, y with
  | .int i, .int j => if 0 ≤ j ∧ j ≤ 100000 then some (.int (i / 2 ^ j.toNat)) else none
  | _, _ => none
section
variable {X : Cx} {G : Gs}
end
/-! tuples of the module -/
mutual
def cW (K : PySem.W.Frag) : W → Value → Bool
  | .non, .none => true
  | .bl b, .bool c => b == c
  | .int i, .int j _ => decide (i = j)
  | .str s, .str x _ => decide (x = ⟨s.toArray⟩) && (s.all (fun c => decide (c < 0x110000)) && decide (s.length ≤ 16777216))
  | .tup xs, .ref a => (match K.lookup a with
    | some ⟨.type c, _, .seq its _, _⟩ => decide (c = "tuple") && (decide (its.size ≤ 16777216) && cWs K xs its.toList)
    | _ => false)
  | _, _ => false
def cWs (K : PySem.W.Frag) : List W → List Value → Bool
  | [], [] => true
  | w :: ws, v :: vs => cW K w v && cWs K ws vs
  | _, _ => false
end
mutual
theorem cW_ok {K : PySem.W.Frag} {G : Gs} : ∀ {w : W} {u : Value}, cW K w u = true → ∃ v, L2.RelV v u ∧ ∀ γ H, Rep K G γ H w v
  | .non, .none, _ => ⟨.non, rfl, fun _ _ => .non⟩
  | .bl b, .bool c, h => by
    have e : b = c := by simpa [cW] using h
    subst e
    exact ⟨.bl b, rfl, fun _ _ => .bl b⟩
  | .int i, .int j t, h => by
    have e : i = j := by simpa [cW] using h
    subst e
    exact ⟨.int i, ⟨t, rfl⟩, fun _ _ => .int i⟩
  | .str s, .str x t, h => by
    have h : (decide (x = ⟨s.toArray⟩) && (s.all (fun c => decide (c < 0x110000)) && decide (s.length ≤ 16777216))) = true := h
    rw [Bool.and_eq_true, Bool.and_eq_true, decide_eq_true_eq, decide_eq_true_eq] at h
    refine ⟨.str ⟨s.toArray⟩, ⟨t, by rw [h.1]⟩, fun _ _ => .str s (fun c hc => of_decide_eq_true (List.all_eq_true.mp h.2.1 c hc)) (by rw [sizeLine_eq]; exact h.2.2)⟩
  | .tup xs, .ref a, h => by
    have h : (match K.lookup a with
      | some ⟨.type c, _, .seq its _, _⟩ => decide (c = "tuple") && (decide (its.size ≤ 16777216) && cWs K xs its.toList)
      | _ => false) = true := h
    split at h
    · rename_i c dd its n sl e
      rw [Bool.and_eq_true, Bool.and_eq_true, decide_eq_true_eq, decide_eq_true_eq] at h
      obtain ⟨vs, r1, r2⟩ := cWs_ok (G := G) h.2.2
      exact ⟨.ref a, rfl, fun γ H => .tup (.inr ⟨_, its, n, e, congrArg Value.type h.1, rfl, by rw [sizeLine_eq]; exact h.2.1, r1⟩) (r2 γ H)⟩
    · cases h
theorem cWs_ok {K : PySem.W.Frag} {G : Gs} : ∀ {ws : List W} {us : List Value}, cWs K ws us = true → ∃ vs, L2.Vals vs us ∧ ∀ γ H, Reps K G γ H ws vs
  | [], [], _ => ⟨[], .nil, fun _ _ => .nil⟩
  | w :: ws, u :: us, h => by
    have h : (cW K w u && cWs K ws us) = true := h
    rw [Bool.and_eq_true] at h
    obtain ⟨v, a1, a2⟩ := cW_ok (G := G) h.1
    obtain ⟨vs, b1, b2⟩ := cWs_ok (G := G) h.2
    exact ⟨v :: vs, .cons a1 b1, fun γ H => .cons (a2 γ H) (b2 γ H)⟩
end
def conB (K : PySem.W.Frag) (x : Str) (w : W) : Bool := match PySem.W.nsIn K mainGlobals x with
  | some (some u) => cW K w u
  | _ => false
section
variable {X : Cx} {G : Gs} {x : Str} {pos : Pos}
end
end Mp
set_option Elab.async false
set_option linter.all false
set_option maxRecDepth 100000
set_option maxHeartbeats 4000000
/-! Mp: list(..) that changes later. -/
namespace Mp
open PySem PySem.Spec PyProof.Rows L2
def mListSt (ga : MA) : ME := fun η S => (ga η S).bind fun ws S1 => match ws with
  | [x] => (match seqOf S1 x with
    | some xs => if pures xs = true then .ok (.ref S1.length) (S1 ++ [.lst xs]) else .stuck
    | none => .stuck)
  | _ => .stuck
section
variable {X : Cx} {G : Gs} {e : Expr} {es : List Expr} {ga : MA} {p pos : Pos}
end
end Mp
set_option Elab.async false
set_option linter.all false
set_option maxRecDepth 100000
set_option maxHeartbeats 4000000
/-! Mp: dicts whose keys are ints and texts. -/
namespace Mp
open PySem PySem.Spec PyProof.Rows L2
def lookKey (k : W) : List W → List W → Option W
  | x :: xs, v :: vs => if keqW x k = true then some v else lookKey k xs vs
  | _, _ => none
def setKey (k v : W) : List W → List W → List W
  | x :: xs, u :: us => (if keqW x k = true then v else u) :: setKey k v xs us
  | _, _ => []
def putKs (k : W) (ks : List W) : List W := if hasKey k ks = true then ks else ks ++ [k]
def putVs (k v : W) (ks vs : List W) : List W := if hasKey k ks = true then setKey k v ks vs else vs ++ [v]
section
variable {K : PySem.W.Frag} {G : Gs} {γ : Ga} {H : Hp} {S : Store}
end
def opNotInD : O2 := fun x y S => match dctOf S y with
  | some (.bl false :: ks, _) => if isKey x = true then some (.bl (!hasKey x ks)) else none
  | some _ => none
  | none => opNotIn x y S
section
variable {X : Cx} {G : Gs}
end
end Mp
set_option Elab.async false
set_option linter.all false
set_option maxRecDepth 100000
set_option maxHeartbeats 4000000
/-! Mp: dict comprehensions. -/
namespace Mp
open PySem PySem.Spec PyProof.Rows L2
def dcompL (g : MG) (t : MT) (ek ev : ME) (η : Env) : List W → Store → List W → List W → R (List W × List W)
  | [], S, ks, vs => .ok (ks, vs) S
  | x :: r, S, ks, vs => match g x η S with
    | none => .stuck
    | some (η1, S1) => (t η1 S1).bind fun b S2 => if b = true then (ek η1 S2).bind fun k S3 => (ev η1 S3).bind fun w S4 => if isKey k = true then sized (ks.length + 1) (dcompL g t ek ev η r S4 (putKs k ks) (putVs k w ks vs)) else .stuck else dcompL g t ek ev η r S2 ks vs
def mDComp (it : MI) (own : List Nat) (g : MG) (t : MT) (ek ev : ME) : ME := fun η S => (it η S).bind fun xs S1 => (noexc (dcompL g t ek ev (wipeE η own) xs S1 [] [])).bind fun p S2 => .ok (.dct (.bl false :: p.1) p.2) S2
section
variable {X : Cx} {G : Gs} {tg iter kx vx : Expr} {ifs : List Expr} {scope : Scope} {f fk : ME} {g : MG} {t : MT} {it : MI} {is : List Nat} {own : List (Str × Nat)} {pos : Pos}
end
end Mp
set_option Elab.async false
set_option linter.all false
set_option maxRecDepth 100000
set_option maxHeartbeats 4000000
/-! Mp: count, lists by a number into the store. -/
namespace Mp
open PySem PySem.Spec PyProof.Rows L2
def omCountI : OM := fun x ws S => match lstOf S x, ws with
  | some xs, [.int k] => (intsOf xs).map fun ns => (.int (ns.count k : Nat), S)
  | _, _ => none
def mMulS (f g : ME) : ME := fun η S => (f η S).bind fun x S1 => (g η S1).bind fun y S2 => match lstOf S2 x, y with
  | some xs, .int k => if -9223372036854775808 ≤ k ∧ k < 9223372036854775808 ∧ xs.length * k.toNat ≤ bigLine ∧ pures (List.replicate k.toNat xs).flatten = true then .ok (.ref S2.length) (S2 ++ [.lst (List.replicate k.toNat xs).flatten]) else .stuck
  | _, _ => .stuck
section
variable {X : Cx} {G : Gs} {a b : Expr} {pos : Pos} {f g : ME}
end
def baSumT : OA := fun xs S => match xs with
  | [.tup ys] => (intsOf ys).map fun ns => .int ns.sum
  | xs => baSum xs S
end Mp
set_option Elab.async false
set_option linter.all false
set_option maxRecDepth 100000
set_option maxHeartbeats 4000000
/-! Mp: stars in displays, ranges downwards, ranges as lists and tuples, lists backwards, min and max of lists of ints. -/
namespace Mp
open PySem PySem.Spec PyProof.Rows L2
def maStar (f : ME) (g : MA) : MA := fun η S => (f η S).bind fun x S1 => match seqOf S1 x with
  | some xs => (g η S1).bind fun ys S2 => .ok (xs ++ ys) S2
  | none => .stuck
def rangeD (hi : Int) (n : Nat) : List W := (List.range n).map fun (i : Nat) => W.int (hi + i * (-1))
def rng3 : List W → Option (List W)
  | [.int i, .int j, .int k] => if k = -1 ∧ -4611686018427387904 ≤ i ∧ i < 4611686018427387904 ∧ -4611686018427387904 ≤ j ∧ j < 4611686018427387904 then some (rangeD i (i - j).toNat) else none
  | _ => none
def mRevL (f : ME) : ME := fun η S => (f η S).bind fun x S1 => match lstOf S1 x with
  | some xs => .ok (.lst xs.reverse) S1
  | none => .stuck
/-- a range as a list (0), a list of the store (1), a tuple (2) -/
def rgOut (m : Nat) (a b : Int) (S : Store) : R W := if 0 ≤ a ∧ a ≤ 1000000 ∧ 0 ≤ b ∧ b ≤ 1000000 then (match m with
  | 0 => .ok (.lst (rangeW a (b - a).toNat)) S
  | 1 => .ok (.ref S.length) (S ++ [.lst (rangeW a (b - a).toNat)])
  | _ => .ok (.tup (rangeW a (b - a).toNat)) S) else .stuck
def mRg1 (m : Nat) (f : ME) : ME := fun η S => (f η S).bind fun x S1 => match x with
  | .int n => rgOut m 0 n S1
  | _ => .stuck
def mRg2 (m : Nat) (f g : ME) : ME := fun η S => (f η S).bind fun x S1 => (g η S1).bind fun y S2 => match x, y with
  | .int i, .int j => rgOut m i j S2
  | _, _ => .stuck
def maxZ : Int → List Int → Int
  | m, [] => m
  | m, x :: r => maxZ (if m < x then x else m) r
def baMinL : OA := fun xs S => match xs with
  | [x] => (lstOf S x).bind fun ys => (intsOf ys).bind fun ns => match ns with
    | [] => none
    | n :: r => some (.int (minZ n r))
  | xs => baMin2 xs S
def baMaxL : OA := fun xs S => match xs with
  | [x] => (lstOf S x).bind fun ys => (intsOf ys).bind fun ns => match ns with
    | [] => none
    | n :: r => some (.int (maxZ n r))
  | xs => baMax2 xs S
section
variable {K : PySem.W.Frag} {G : Gs} {γ : Ga} {H : Hp} {S : Store}
end
section
variable {X : Cx} {G : Gs} {a b c e : Expr} {es : List Expr} {pos p p1 p2 p3 : Pos} {f g h : ME} {ga : MA} {tg : Expr}
end
end Mp
set_option Elab.async false
set_option linter.all false
set_option maxRecDepth 100000
set_option maxHeartbeats 4000000
/-! Mp: dicts of the store. -/
namespace Mp
open PySem PySem.Spec PyProof.Rows L2
section
variable {K : PySem.W.Frag} {G : Gs} {γ γ' : Ga} {H H' : Hp} {S : Store}
def setAtD (o i w : W) (S : Store) : Option Store := match dctOf S o, o with
  | some (.bl false :: ks, vs), .ref r => if isKey i = true ∧ w.pure = true ∧ ks.length + 1 ≤ bigLine then some (S.set r (.dct (.bl false :: putKs i ks) (putVs i w ks vs))) else none
  | some _, _ => none
  | none, _ => setAt o i w S
def gIdxD (o i : ME) : MG := fun w η S => match o η S with
  | .ok ow S1 => (match i η S1 with
    | .ok iw S2 => (setAtD ow iw w S2).map fun S3 => (η, S3)
    | _ => none)
  | _ => none
end
/-- {} into the store -/
def mDctS : ME := fun _ S => .ok (.ref S.length) (S ++ [.dct [.bl false] []])
def omGet2 : OM := fun x ws S => match dctOf S x, ws with
  | some (.bl false :: ks, vs), [k, d] => if isKey k = true then some ((lookKey k ks vs).getD d, S) else none
  | _, _ => none
def omGet1 : OM := fun x ws S => match dctOf S x, ws with
  | some (.bl false :: ks, vs), [k] => if isKey k = true then some ((lookKey k ks vs).getD .non, S) else none
  | _, _ => none
/-- d[k] of a dict -/
def opIxD : O2 := fun x y S => match dctOf S x with
  | some (.bl false :: ks, vs) => if isKey y = true then lookKey y ks vs else none
  | _ => none
section
variable {X : Cx} {G : Gs} {a b : Expr} {pos : Pos} {f g fo fi : ME}
end
end Mp
set_option Elab.async false
set_option linter.all false
set_option maxRecDepth 100000
set_option maxHeartbeats 4000000
/-! Mp: own exceptions with one field: made, raised. -/
namespace Mp
open PySem PySem.Spec PyProof.Rows L2
section
variable {X : Cx} {G : Gs} {c : Nat} {e : Expr} {f : ME} {x : Str} {p pos pos2 : Pos}
end
end Mp
set_option Elab.async false
set_option linter.all false
set_option maxRecDepth 100000
set_option maxHeartbeats 4000000
/-! Mp: try .. except .. as. -/
namespace Mp
open PySem PySem.Spec PyProof.Rows L2
section
variable {K : PySem.W.Frag} {G G' : Gs} {γ : Ga} {H : Hp}
end
section
variable {X : Cx} {G : Gs} {i : Nat} {xn n : Str} {ce : Value} {body suite : List Stmt} {b₀ : Stmt} {np pos pos' : Pos} {b h : MS}
end
end Mp
set_option Elab.async false
set_option linter.all false
set_option maxRecDepth 100000
set_option maxHeartbeats 4000000
/-! Mp: isinstance(e, C) and e.f of the exception that is handled. -/
namespace Mp
open PySem PySem.Spec PyProof.Rows L2
section
variable {X : Cx} {G : Gs} {a d C : Addr} {c : Nat} {oe : Obj} {pn : List (Addr × Obj)}
variable {e : Expr} {f : ME} {x n : Str} {p p2 pos : Pos}
end
end Mp
set_option Elab.async false
set_option linter.all false
set_option maxRecDepth 100000
set_option maxHeartbeats 4000000
/-! Mp: what the head says of own exceptions; calls without arguments. -/
namespace Mp
open PySem PySem.Spec PyProof.Rows L2
theorem errF_of {P : Program} {w : World} {K : PySem.W.Frag} {mg : Str → Option Value} {base : Heap} {x f qual : Str} {params : Arguments} {body : List Stmt} {scope : Scope} {fd : FuncData} (h : errB K x f = true) (gl : mg x = some (.ref (He.ga K x)))
    (F : FunD K "__init__" qual params body scope [] [] (He.ma K (He.ga K x) "__init__") fd) (S : FnScope ["self", f] ["self", f] scope) (hb : Binds K fd ["self", f] [])
    (hp : ∀ (cdv : Value) (A : Around) (outer : List PySem.Env) (s : Shared) (H : Hp) (E : XK), PSs (cxOf (L2.CX P w) P w K mg base ["self", f] qual scope (He.ma K (He.ga K x) "__init__") cdv A outer s H E) body (tOst K f (tVar 0) (tVar 1))) :
    ErrF P w K mg base (He.ga K x) x f := by
  unfold errB at h
  simp only [Bool.and_eq_true, decide_eq_true_eq] at h
  obtain ⟨h0, h1, h2, h3, h4, h5, h6, h7, h8, h9, h10, h11, h12, h13, h14⟩ := h
  have O : OexC K (He.ga K x) := by
    refine ⟨?_, He.eqO_ok h1, h2, h3, h4⟩
    cases e : List.lookup (He.ga K x) K with
    | none => rw [e] at h0; cases h0
    | some o =>
      rw [e] at h0
      obtain ⟨nm, q, N, bs, bm, sn, sub, ab, col, dd, k0, k1, k2, k3, k5, rfl, hr⟩ := excObjB_ok h0
      exact ⟨nm, q, N, bs, bm, sn, sub, ab, col, dd, k0, k1, k2, k3, k5, rfl, hr⟩
  have no := He.eqO_ok h12
  refine ⟨gl, O, ⟨He.eqO_ok h5, He.eqO_ok h6, h2, h7⟩, ⟨He.eqO_ok h5, He.eqO_ok h6, h2, h7, He.eqO_ok h8, He.eqO_ok h9, h10, h11⟩, no, _, fd, He.eqO_ok h13, h14, ?_, hb⟩
  refine noexc_fn (sp := spI (He.ga K x) f) (F.ok S (fun vs H Q E q => ?_) fun cdv A outer s H vs Q E hr q => ⟨_, hp cdv A outer s H E, ?_⟩)
  · obtain ⟨a, v, rfl, _⟩ := q
    rfl
  · obtain ⟨a, v, rfl, ha, k⟩ := q
    exact ⟨v, rfl, .ref a, rfl, a, _, rfl, O, no, .inl ⟨ha, fun dx hd hn => k dx hd hn⟩⟩
/-- a call without arguments -/
def mCall0 (φ : Fns) (f : Nat) : ME := fun _ S => noexc (φ f [] S)
section
variable {X : Cx} {G : Gs} {d f : Nat} {r : FnR} {φ : Fns} {x : Str} {p pos : Pos}
end
end Mp
set_option Elab.async false
set_option linter.all false
set_option maxRecDepth 100000
set_option maxHeartbeats 4000000
/-! Mp: list.count of truths, list.index of flat things; names set in a suite. -/
namespace Mp
open PySem PySem.Spec PyProof.Rows L2
def omCountB : OM := fun x ws S => match lstOf S x, ws with
  | some xs, [.bl k] => (bls xs).map fun bs => (.int (bs.count k : Nat), S)
  | _, _ => none
def omIndexF : OM := fun x ws S => match lstOf S x, ws with
  | some xs, [y] => if flat y = true ∧ xs.all flat = true then (xs.findIdx? fun z => eqW z y).map fun j => (.int (j : Nat), S) else none
  | _, _ => none
section
variable {X : Cx} {G : Gs}
variable {a : Expr} {f : ME} {x : Str} {p pos : Pos}
end
end Mp
namespace Mp
theorem all_ix {n : Nat} {p : Nat → Bool} (hn : 0 < n) (h : (List.range n).all p = true) (c : Nat) : p (ixN n c) = true := by
  refine List.all_eq_true.mp h _ (List.mem_range.mpr ?_)
  unfold ixN
  split <;> omega
end Mp
set_option Elab.async false
set_option linter.all false
set_option maxRecDepth 100000
set_option maxHeartbeats 4000000
/-! Mp: sets of texts or of ints, made of a list or a tuple and at once counted or sorted. -/
namespace Mp
open PySem PySem.Spec PyProof.Rows L2
/-! ### the plain part -/
section
variable {α β : Type} [DecidableEq α] [DecidableEq β]
end
/-! ### the set of keys at an address -/
section
variable {P : Program} {w : World} {A : Around} {E : Value → Shared → Prop} {s : Shared} {a : Addr} {ks : List Key}
end
/-! ### counted, sorted -/
section
variable {P : Program} {w : World} {A : Around} {E : Value → Shared → Prop} {s : Shared} {a : Addr} {ks : List Key}
end
end Mp
set_option Elab.async false
set_option linter.all false
set_option maxRecDepth 100000
set_option maxHeartbeats 4000000
/-! Mp: len(set(..)), sorted(set(..)). -/
namespace Mp
open PySem PySem.Spec PyProof.Rows L2
def sorSetR (ys : List W) : Option W := match strsOf ys with
  | some zs => if zs.length < 4000 then some (.lst ((sortN (ddup zs)).map .str)) else none
  | none => match intsOf ys with
    | some ns => if ns.length < 4000 then some (.lst ((sortZ (ddup ns)).map .int)) else none
    | none => none
section
variable {X : Cx} {G : Gs} {a : Expr} {f : ME} {p p2 q pos : Pos}
end
end Mp
set_option Elab.async false
set_option linter.all false
set_option maxRecDepth 100000
set_option maxHeartbeats 4000000
/-! Mp: zip of two or three lists, tuples, texts in any mix. -/
namespace Mp
open PySem PySem.Spec PyProof.Rows L2
namespace Sr
section
variable {X : Cx} {pins : List (Addr × Obj)} {σ : L2.St} {H : Hp} {s : Shared} {r : Sr} {xs ys : List V}
end
/-- how it begins -/
def pre (s : Shared) : Sr → Heap → Prop
  | L a, h => ∃ items, h.IsList a items
  | T a, h => ∃ items, h.IsTuple a items
  | S _, _ => True
end Sr
def Iz3 (K : PySem.W.Frag) (r1 r2 r3 : Sr) : It :=
  ⟨fun i H => ∃ (l1 : List V) (l2 : List V) (l3 : List V) (x1 : V) (x2 : V) (x3 : V), r1.has K H l1 ∧ r2.has K H l2 ∧ r3.has K H l3 ∧ l1[i]? = some x1 ∧ l2[i]? = some x2 ∧ l3[i]? = some x3,
    fun i H v H' => ∃ T x1 x2 x3, v = .ref T ∧ H T = none ∧ H' = upd H T (.tup [x1, x2, x3]) ∧ (∀ l, r1.has K H l → l[i]? = some x1) ∧ (∀ l, r2.has K H l → l[i]? = some x2) ∧ (∀ l, r3.has K H l → l[i]? = some x3),
    fun i H => ∃ (l1 : List V) (l2 : List V) (l3 : List V), r1.has K H l1 ∧ r2.has K H l2 ∧ r3.has K H l3 ∧ i ≤ l1.length ∧ i ≤ l2.length ∧ i ≤ l3.length ∧ (i = l1.length ∨ i = l2.length ∨ i = l3.length)⟩
def iZ3 (K : PySem.W.Frag) (ta : TA) : TI := fun σ H R => ta σ H fun vs H1 => ∃ (r1 : Sr) (r2 : Sr) (r3 : Sr) (l1 : List V) (l2 : List V) (l3 : List V), vs = [r1.val, r2.val, r3.val] ∧ r1.has K H1 l1 ∧ r2.has K H1 l2 ∧ r3.has K H1 l3 ∧ R (Iz3 K r1 r2 r3) H1
end Mp
set_option Elab.async false
set_option linter.all false
set_option maxRecDepth 100000
set_option maxHeartbeats 4000000
/-! Mp: zip of two or three lists, tuples, texts. -/
namespace Mp
open PySem PySem.Spec PyProof.Rows L2
def zipG3 : List W → Option (List W)
  | [w1, w2, w3] => (match seqI w1, seqI w2, seqI w3 with
    | some x1, some x2, some x3 => some (tupsW3 x1 x2 x3)
    | _, _, _ => none)
  | _ => none
end Mp
set_option Elab.async false
set_option linter.all false
set_option maxRecDepth 100000
set_option maxHeartbeats 4000000
/-! Mp: zip's next while the tuple given out before is alive, three iterators of any kind. -/
namespace PySem
open Sem (wp)
section
variable {prog : Program} {w : World} {A : Around} {E : Value → Shared → Prop} {s : Shared} {z TI TO T i1 i2 i3 : Addr} {fp1 fp2 fp3 : List Addr} {n1 n2 n3 i : Nat} {P1 P2 P3 : Nat → Value → Prop} {St1 St2 St3 : Nat → Heap → Prop}
/-! the tuple given out before is gone (turned from KE.GoesZip's zipD3_next_item) -/
end
end PySem
namespace Mp
open PySem PySem.Spec PyProof.Rows L2
namespace Sr
section
variable {X : Cx} {pins : List (Addr × Obj)} {σ : L2.St} {H : Hp} {s : Shared} {r : Sr} {xs ys : List V}
end
end Sr
end Mp
set_option Elab.async false
set_option linter.all false
set_option maxRecDepth 100000
set_option maxHeartbeats 4000000
/-! Mp: enumerate(zip(a, b, c)) walked, the zip's tuple kept. -/
namespace Mp
open PySem PySem.Spec PyProof.Rows L2
end Mp
set_option Elab.async false
set_option linter.all false
set_option maxRecDepth 100000
set_option maxHeartbeats 4000000
/-! Mp: enumerate of a zip made. -/
namespace PySem
open Sem (wp)
section
variable {prog : Program} {w : World} {A : Around} {E : Value → Shared → Prop} {s : Shared}
end
end PySem
set_option Elab.async false
set_option linter.all false
set_option maxRecDepth 100000
set_option maxHeartbeats 4000000
/-! Mp: enumerate(zip(a, b, c)), one target for the zip's tuple. -/
namespace Mp
open PySem PySem.Spec PyProof.Rows L2
end Mp
set_option Elab.async false
set_option linter.all false
set_option maxRecDepth 100000
set_option maxHeartbeats 4000000
/-! Mp: min(list, default=None) of ints. -/
namespace PySem
open Sem (wp)
section
variable {prog : Program} {w : World} {A : Around} {R : Result → Shared → Prop} {I : Addr} {fp wr : List Addr} {n : Nat} {P : Nat → Value → Prop} {St : Nat → Heap → Prop} {d : Value}
end
section
variable {prog : Program} {w : World} {A : Around} {E : Value → Shared → Prop} {s : Shared} {l : Addr} {xs : Array (Int × Tok)} {d : Value}
end
end PySem
namespace Mp
open PySem PySem.Spec PyProof.Rows L2
end Mp
set_option Elab.async false
set_option linter.all false
set_option maxRecDepth 100000
set_option maxHeartbeats 4000000
/-! Mp: the other two forms of the law's well. -/
namespace Mp
open PySem PySem.Spec
def wellBB (φ : Fns) : MS := sSeq (sSet 2 (mIf (mTCmp opLt (mVar 1) (mBi baLen (maCons (mVar 0) (maNil)))) (mBi baInt (maCons (mBin opIx (mVar 0) (mVar 1)) (maNil))) (mBin opAdd (mBin opAdd (mBin opMul (mC (.int 9311)) (mVar 1)) (mBin opMod (mBi baInt (maCons (mBi baSum (maCons (mSl (mVar 0) (moNone) (moSome (mC (.int 2)))) (maNil))) (maNil))) (mC (.int 1000003)))) (mC (.int 71))))) (sSeq (sSet 3 (mBin opAdd (mC (.int 50021)) (mBin opMul (mC (.int 1013)) (mVar 1)))) (sSeq (sFor (miSeq (mBin opAdd (mSl (mVar 0) (moNone) (moSome (mC (.int 5)))) (mLst (maCons (mVar 2) (maNil))))) (gVar 4) (sSet 3 (mBin opMod (mBi baInt (maCons (mBin opAdd (mBin opAdd (mBin opMul (mVar 3) (mC (.int 45013))) (mBin opMod (mBi baInt (maCons (mVar 4) (maNil))) (mC (.int 2147483399)))) (mC (.int 37))) (maNil))) (mC (.int 2147483563))))) (sRet (mLstS (maCons (mIf (mTOr (mTCmp opLt (mVar 2) (mC (.int 0))) (mTCmp opGe (mVar 2) (mBin opPow (mC (.int 10)) (mC (.int 17))))) (mBi baAbs (maCons (mVar 2) (maNil))) (mC (.int 0))) (maCons (mVar 3) (maCons (mC (.int 0)) (maNil))))))))
def wellBA (φ : Fns) : MS := sSeq (sSet 2 (mIf (mTCmp opLt (mVar 1) (mBi baLen (maCons (mVar 0) (maNil)))) (mBi baInt (maCons (mBin opIx (mVar 0) (mVar 1)) (maNil))) (mBin opAdd (mBin opAdd (mBin opMul (mC (.int 9311)) (mVar 1)) (mBin opMod (mBi baInt (maCons (mBi baSum (maCons (mSl (mVar 0) (moNone) (moSome (mC (.int 2)))) (maNil))) (maNil))) (mC (.int 1000003)))) (mC (.int 71))))) (sSeq (sSet 3 (mBin opAdd (mC (.int 50021)) (mBin opMul (mC (.int 1013)) (mVar 1)))) (sSeq (sFor (miSeq (mBin opAdd (mSl (mVar 0) (moNone) (moSome (mC (.int 5)))) (mLst (maCons (mVar 2) (maNil))))) (gVar 4) (sSet 3 (mBin opMod (mBi baInt (maCons (mBin opAdd (mBin opAdd (mBin opMul (mVar 3) (mC (.int 45013))) (mBin opMod (mBi baInt (maCons (mVar 4) (maNil))) (mC (.int 2147483399)))) (mC (.int 37))) (maNil))) (mC (.int 2147483563))))) (sRet (mLstS (maCons (mIf (mTOr (mTCmp opLt (mVar 2) (mC (.int 0))) (mTCmp opGe (mVar 2) (mBin opPow (mC (.int 10)) (mC (.int 17))))) (mBin opMod (mBi baInt (maCons (mBi baAbs (maCons (mVar 2) (maNil))) (maNil))) (mBin opPow (mC (.int 10)) (mC (.int 60)))) (mC (.int 0))) (maCons (mVar 3) (maCons (mC (.int 0)) (maNil))))))))
theorem well_okA {φ : Fns} {ns : List Int} {t : Nat} {S : Store} (hl : ns.length ≤ 63) (ht : t ≤ 1000) :
    ∃ a b : Int, 0 ≤ a ∧ 0 ≤ b ∧ wellBA φ [some (.scr (ns.map .int)), some (.int t), none, none, none] S = .ret (.ref S.length) (S ++ [.lst [.int a, .int b, .int 0]]) := by
  unfold wellBA
  have h1 : ∃ o : Int, (mIf (mTCmp opLt (mVar 1) (mBi baLen (maCons (mVar 0) (maNil)))) (mBi baInt (maCons (mBin opIx (mVar 0) (mVar 1)) (maNil))) (mBin opAdd (mBin opAdd (mBin opMul (mC (.int 9311)) (mVar 1)) (mBin opMod (mBi baInt (maCons (mBi baSum (maCons (mSl (mVar 0) (moNone) (moSome (mC (.int 2)))) (maNil))) (maNil))) (mC (.int 1000003)))) (mC (.int 71)))) [some (.scr (ns.map .int)), some (.int t), none, none, none] S = .ok (.int o) S := by
    have hc : (mTCmp opLt (mVar 1) (mBi baLen (maCons (mVar 0) (maNil)))) [some (.scr (ns.map .int)), some (.int t), none, none, none] S = .ok (decide ((t : Int) < ((ns.map W.int).length : Int))) S := rfl
    unfold mIf
    rw [hc]
    by_cases lt : (t : Int) < ((ns.map W.int).length : Int)
    · have l2 : t < ns.length := by rw [List.length_map] at lt; omega
      refine ⟨ns[t], ?_⟩
      show (if decide ((t : Int) < ((ns.map W.int).length : Int)) = true then _ else _) = _
      rw [if_pos (decide_eq_true lt)]
      refine mBi1_ok (x := .int ns[t]) (S1 := S) (mBin_ok (S1 := S) (x := .scr (ns.map .int)) (y := .int t) rfl rfl ?_) rfl
      show atW (ns.map W.int) t = _
      unfold atW ixW
      rw [if_pos (by omega), if_pos lt]
      show (ns.map W.int)[((t : Int)).toNat]? = _
      rw [Int.toNat_natCast, List.getElem?_map, List.getElem?_eq_getElem l2] <;> rfl
    · refine ⟨9311 * t + (cutW ns none (some 2)).sum % 1000003 + 71, ?_⟩
      show (if decide ((t : Int) < ((ns.map W.int).length : Int)) = true then _ else _) = _
      rw [if_neg (by rw [decide_eq_true_eq]; exact lt)]
      refine mBin_ok (S1 := S) (mBin_ok (S1 := S) (mBin_ok (S1 := S) rfl rfl (opMul_l (by decide))) (mBin_ok (S1 := S) (mBi1_ok (S1 := S) (mBi1_ok (S1 := S) (x := .lst ((cutW ns none (some 2)).map .int)) (z := .int (cutW ns none (some 2)).sum) ?_ ?_) rfl) rfl (opMod_ok (by decide))) rfl) rfl rfl
      · show R.ok (W.lst (cutW (ns.map W.int) none (some 2))) S = _
        rw [cutW_map]
      · show (intsOf ((cutW ns none (some 2)).map W.int)).map (fun ns => W.int ns.sum) = _
        rw [intsOf_map] <;> rfl
  obtain ⟨o, h1⟩ := h1
  rw [sSeq_nx (sSet_ok h1)]
  have h2 : (sSet 3 (mBin opAdd (mC (.int 50021)) (mBin opMul (mC (.int 1013)) (mVar 1)))) ([some (.scr (ns.map .int)), some (.int t), none, none, none].set 2 (some (.int o))) S = .nx [some (.scr (ns.map .int)), some (.int t), some (.int o), some (.int (50021 + 1013 * t)), none] S :=
    sSet_ok (mBin_ok (S1 := S) rfl (mBin_ok (S1 := S) rfl rfl (opMul_l (by decide))) rfl)
  rw [sSeq_nx h2]
  have h3 : ∀ η S, η = [some (.scr (ns.map .int)), some (.int t), some (.int o), some (.int (50021 + 1013 * t)), none] → (miSeq (mBin opAdd (mSl (mVar 0) (moNone) (moSome (mC (.int 5)))) (mLst (maCons (mVar 2) (maNil))))) η S = .ok ((cutW ns none (some 5) ++ [o]).map .int) S := by
    rintro η S rfl
    unfold miSeq
    rw [mBin_ok (S1 := S) (S2 := S) (x := .lst ((cutW ns none (some 5)).map .int)) (y := .lst [.int o]) (z := .lst ((cutW ns none (some 5)).map .int ++ [.int o]))]
    · rw [List.map_append] <;> rfl
    · show R.ok (W.lst (cutW (ns.map W.int) none (some 5))) S = _
      rw [cutW_map]
    · rfl
    · show (if ((cutW ns none (some 5)).map W.int).length + 1 ≤ bigLine then _ else _) = _
      have := cutW_le ns none (some 5)
      rw [if_pos (by rw [List.length_map]; unfold bigLine; omega)]
  have h4 := forL_inv (g := gVar 4) (b := sSet 3 (mBin opMod (mBi baInt (maCons (mBin opAdd (mBin opAdd (mBin opMul (mVar 3) (mC (.int 45013))) (mBin opMod (mBi baInt (maCons (mVar 4) (maNil))) (mC (.int 2147483399)))) (mC (.int 37))) (maNil))) (mC (.int 2147483563))))
    (fun η S' => S' = S ∧ ∃ b : Int, 0 ≤ b ∧ ∃ w, η = [some (.scr (ns.map .int)), some (.int t), some (.int o), some (.int b), w]) ((cutW ns none (some 5) ++ [o]).map .int) (by
      intro x hx η S' hi
      obtain ⟨rfl, b, hb, w, rfl⟩ := hi
      obtain ⟨i, _, rfl⟩ := List.mem_map.mp hx
      exact ⟨_, _, _, _, rfl, sSet_ok (mBin_ok (S1 := S') (mBi1_ok (S1 := S') (mBin_ok (S1 := S') (mBin_ok (S1 := S') (mBin_ok (S1 := S') rfl rfl (opMul_r (by decide))) (mBin_ok (S1 := S') (mBi1_ok (S1 := S') rfl rfl) rfl (opMod_ok (by decide))) rfl) rfl rfl) rfl) rfl (opMod_ok (by decide))), rfl, _, Int.emod_nonneg _ (by decide), _, rfl⟩)
    [some (.scr (ns.map .int)), some (.int t), some (.int o), some (.int (50021 + 1013 * t)), none] S ⟨rfl, _, by omega, _, rfl⟩
  obtain ⟨η', S', h4, rfl, b, hb, w, rfl⟩ := h4
  rw [sSeq_nx ((sFor_ok (h3 _ S' rfl)).trans h4)]
  refine ⟨if o < 0 ∨ 100000000000000000 ≤ o then ((if o < 0 then -o else o) % 1000000000000000000000000000000000000000000000000000000000000) else 0, b, ?_, hb, ?_⟩
  · split
    · exact Int.emod_nonneg _ (by decide)
    · omega
  · have h5 : (mIf (mTOr (mTCmp opLt (mVar 2) (mC (.int 0))) (mTCmp opGe (mVar 2) (mBin opPow (mC (.int 10)) (mC (.int 17))))) (mBin opMod (mBi baInt (maCons (mBi baAbs (maCons (mVar 2) (maNil))) (maNil))) (mBin opPow (mC (.int 10)) (mC (.int 60)))) (mC (.int 0))) [some (.scr (ns.map .int)), some (.int t), some (.int o), some (.int b), w] S' = .ok (.int (if o < 0 ∨ 100000000000000000 ≤ o then ((if o < 0 then -o else o) % 1000000000000000000000000000000000000000000000000000000000000) else 0)) S' := by
      by_cases c1 : o < 0
      · rw [if_pos (.inl c1)]
        unfold mIf
        rw [show (mTOr (mTCmp opLt (mVar 2) (mC (.int 0))) (mTCmp opGe (mVar 2) (mBin opPow (mC (.int 10)) (mC (.int 17))))) [some (.scr (ns.map .int)), some (.int t), some (.int o), some (.int b), w] S' = .ok true S' from by
          show (if decide (o < 0) = true then R.ok true S' else _) = _
          rw [if_pos (decide_eq_true c1)]]
        rfl
      · have e : (mTOr (mTCmp opLt (mVar 2) (mC (.int 0))) (mTCmp opGe (mVar 2) (mBin opPow (mC (.int 10)) (mC (.int 17))))) [some (.scr (ns.map .int)), some (.int t), some (.int o), some (.int b), w] S' = .ok (decide (100000000000000000 ≤ o)) S' := by
          show (if decide (o < 0) = true then R.ok true S' else R.ok (decide ((10 : Int) ^ (17 : Nat) ≤ o)) S') = _
          rw [if_neg (by rw [decide_eq_true_eq]; exact c1)] <;> rfl
        unfold mIf
        rw [e]
        by_cases c2 : 100000000000000000 ≤ o
        · rw [if_pos (.inr c2)]
          show (if decide (100000000000000000 ≤ o) = true then _ else _) = _
          rw [if_pos (decide_eq_true c2)] <;> rfl
        · rw [if_neg (by rintro (z | z) <;> contradiction)]
          show (if decide (100000000000000000 ≤ o) = true then _ else _) = _
          rw [if_neg (by rw [decide_eq_true_eq]; exact c2)] <;> rfl
    exact sRet_ok (mLstS_ok (S1 := S') (maCons_ok h5 (maCons_ok (S1 := S') (x := .int b) rfl (maCons_ok (S1 := S') rfl rfl))) rfl (by show 3 ≤ bigLine; decide))
theorem well_callA {T : List Fun} {d k : Nat} {ns : List Int} {t : Nat} {S : Store} (h : T[k]? = some ⟨2, 5, true, false, wellBA⟩) (hl : ns.length ≤ 63) (ht : t ≤ 1000) :
    ∃ a b : Int, 0 ≤ a ∧ 0 ≤ b ∧ fns T (d + 1) k [.scr (ns.map .int), .int t] S = .ok (.ref S.length) (S ++ [.lst [.int a, .int b, .int 0]]) := by
  obtain ⟨a, b, ha, hb, e⟩ := well_okA (φ := fns T d) (S := S) hl ht
  refine ⟨a, b, ha, hb, ?_⟩
  rw [fns_eq h rfl]
  refine (congrArg (finS true S.length) e).trans ?_
  unfold finS fin
  show (if S.length < S.length then _ else (match (S ++ [Cell.lst [.int a, .int b, .int 0]])[S.length]? with
      | some (Cell.lst xs) => if pures xs = true then (if true = true then R.ok (W.ref S.length) ((S ++ [Cell.lst [.int a, .int b, .int 0]]).take S.length ++ [Cell.lst xs]) else .ok (W.lst xs) ((S ++ [Cell.lst [.int a, .int b, .int 0]]).take S.length)) else .stuck
      | _ => .stuck)) = _
  rw [if_neg (Nat.lt_irrefl _), List.getElem?_append_right (Nat.le_refl _), Nat.sub_self]
  show R.ok _ _ = _
  rw [List.take_left']
  rfl
end Mp
namespace Mp
open PySem PySem.Spec PyProof.Rows L2
end Mp
set_option Elab.async false
set_option linter.all false
set_option maxRecDepth 100000
set_option maxHeartbeats 4000000
/-! Mp: one sign by a number. -/
namespace Mp
open PySem PySem.Spec PyProof.Rows L2
end Mp
set_option Elab.async false
set_option linter.all false
set_option maxRecDepth 100000
set_option maxHeartbeats 4000000
namespace Lw
open Mp
/-! the functions -/
end Lw
namespace Lw
open PySem PySem.Spec PyProof.Rows L2 Mp
theorem s_i_InvalidNumber : FnScope ["self", "given"] ["self", "given"] (defScope i_InvalidNumber) := ⟨rfl, rfl, rfl, by decide +kernel, rfl, by decide +kernel, by decide +kernel⟩
theorem s_i_InvalidCard : FnScope ["self", "given"] ["self", "given"] (defScope i_InvalidCard) := ⟨rfl, rfl, rfl, by decide +kernel, rfl, by decide +kernel, by decide +kernel⟩
section
variable {P : Program} {w : World} {K : PySem.W.Frag} {mg : Str → Option Value} {base : Heap} {d : Nat} (B : Fx K mg) (IH : AllF P w K mg base (gs K) T D d)
include B IH
end
/-! the head -/
theorem ob_eq (s : PySem.W.SharedT) : ob s = hk.obs s.abs := obM_eq (HandSHeadRun.getT_eq s)
theorem eb_of {K : PySem.W.Frag} (e : ex K = true) (c : Nat) : errB K (er c).1 (er c).2 = true := all_ix (n := 2) (p := fun c => errB K (er0 c).1 (er0 c).2) (by decide) (by
    have z := e
    simp only [ex, Bool.and_eq_true] at z
    simp only [z]) c
theorem facts {K : PySem.W.Frag} {h : Heap} {mg : Str → Option Value} (X : K.In h) (G : h.Ns mainGlobals mg) (c : He.SaysD fa fn K) (e : ex K = true) : Fx K mg where
  bl := fun i x hx => by
    have hi : i < BL.length := (List.getElem?_eq_some_iff.mp hx).1
    refine He.free_ok X G (c.fact (33 + i) ?_)
    rw [show fa = fa1 ++ (fa2 ++ fa3) from rfl, List.getElem?_append_right (show fa1.length ≤ 33 + i from Nat.le_add_right _ i), show 33 + i - fa1.length = i from Nat.add_sub_cancel_left _ i, List.getElem?_append_left (by show i < (BL.map _).length; rw [List.length_map]; exact hi)]
    show (BL.map He.Fa.free)[i]? = _
    rw [List.getElem?_map, hx]
    rfl
  c_MOST_MARKS := He.int_ok X G (c.fact 51 (f := .int "MOST_MARKS" (4)) rfl)
  c_SORTS := He.str_ok X G (c.fact 52 (f := .str "SORTS" "012") rfl)
  er_InvalidNumber := fun P w base => by
    obtain ⟨fd, F⟩ := c.def_ 33 (d := ⟨("InvalidNumber", some "__init__"), "__init__", "InvalidNumber.__init__", defArgs i_InvalidNumber, defBody i_InvalidNumber, defScope i_InvalidNumber, [], []⟩) rfl
    exact errF_of (eb_of e 0) (He.glo_ok X G (c.fact 53 (f := .glo "InvalidNumber") rfl)) F s_i_InvalidNumber (FunD.bindsN F fun _ _ _ _ _ _ us hl => match us, hl with | [_, _], _ => rfl) (fun cdv A outer s H E => pss_one (ps_ost (pv 0) (pv 1)))
  er_InvalidCard := fun P w base => by
    obtain ⟨fd, F⟩ := c.def_ 34 (d := ⟨("InvalidCard", some "__init__"), "__init__", "InvalidCard.__init__", defArgs i_InvalidCard, defBody i_InvalidCard, defScope i_InvalidCard, [], []⟩) rfl
    exact errF_of (eb_of e 1) (He.glo_ok X G (c.fact 54 (f := .glo "InvalidCard") rfl)) F s_i_InvalidCard (FunD.bindsN F fun _ _ _ _ _ _ us hl => match us, hl with | [_, _], _ => rfl) (fun cdv A outer s H E => pss_one (ps_ost (pv 0) (pv 1)))
  eb := eb_of e
  gl_InvalidCard := He.glo_ok X G (c.fact 54 (f := .glo "InvalidCard") rfl)
  gl_ThreeError := He.glo_ok X G (c.fact 55 (f := .glo "ThreeError") rfl)
  te_ThreeError := fun cc => of_decide_eq_true (all_ix (n := 2) (p := fun c => decide (PySem.W.exmOne K (.ref (He.ga K (er0 c).1)) (.ref (He.ga K "ThreeError")) = some true)) (by decide) (by
    have z := e
    simp only [ex, Bool.and_eq_true] at z
    simp only [z]) cc)
  ki_InvalidCard := fun cc => of_decide_eq_true (all_ix (n := 2) (p := fun c => decide (PySem.W.kitOne K (.ref (He.ga K (er0 c).1)) (.ref (He.ga K "InvalidCard")) = some (isr_InvalidCard c))) (by decide) (by
    have z := e
    simp only [ex, Bool.and_eq_true] at z
    simp only [z]) cc)
  xf_given := fun cc h => by
    have z : (!flr_given (ixN 2 cc) || decide ((er cc).2 = "given")) = true := all_ix (n := 2) (p := fun i => !flr_given i || decide ((er0 i).2 = "given")) (by decide) (by decide +kernel) cc
    have h : flr_given (ixN 2 cc) = true := h
    rw [h, Bool.not_true, Bool.false_or] at z
    have e2 : (er cc).2 = "given" := of_decide_eq_true z
    have ff := errB_facts (eb_of e cc)
    have f4 := ff.2.2.2
    rw [e2] at f4
    exact ⟨ff.2.1, f4, e2⟩
theorem base0 {P : Program} {w : World} {K : PySem.W.Frag} {h : Heap} {mg : Str → Option Value} {base : Heap} (X : K.In h) (G : h.Ns mainGlobals mg) (c : He.SaysD fa fn K) : AllF P w K mg base (gs K) T D 0 := by
  intro f r hr
  match f, hr with
  | 0, hr =>
    have e : r_is_whole = r := Option.some.inj hr
    subst e
    obtain ⟨fd, F⟩ := c.def_ 0 (d := ⟨(r_is_whole.x, none), r_is_whole.x, r_is_whole.x, defArgs r_is_whole.st, defBody r_is_whole.st, defScope r_is_whole.st, [], []⟩) rfl
    exact ⟨fd, ft_zero (f := 0) (He.glo_ok X G (c.fact 0 (f := .glo r_is_whole.x) rfl)) F (FunD.bindsN F fun _ _ _ _ _ _ us hl => match us, hl with | [_], _ => rfl)⟩
  | 1, hr =>
    have e : r_is_between = r := Option.some.inj hr
    subst e
    obtain ⟨fd, F⟩ := c.def_ 1 (d := ⟨(r_is_between.x, none), r_is_between.x, r_is_between.x, defArgs r_is_between.st, defBody r_is_between.st, defScope r_is_between.st, [], []⟩) rfl
    exact ⟨fd, ft_zero (f := 1) (He.glo_ok X G (c.fact 1 (f := .glo r_is_between.x) rfl)) F (FunD.bindsN F fun _ _ _ _ _ _ us hl => match us, hl with | [_, _, _], _ => rfl)⟩
  | 2, hr =>
    have e : r_is_text_of = r := Option.some.inj hr
    subst e
    obtain ⟨fd, F⟩ := c.def_ 2 (d := ⟨(r_is_text_of.x, none), r_is_text_of.x, r_is_text_of.x, defArgs r_is_text_of.st, defBody r_is_text_of.st, defScope r_is_text_of.st, [], []⟩) rfl
    exact ⟨fd, ft_zero (f := 2) (He.glo_ok X G (c.fact 2 (f := .glo r_is_text_of.x) rfl)) F (FunD.bindsN F fun _ _ _ _ _ _ us hl => match us, hl with | [_, _], _ => rfl)⟩
  | 3, hr =>
    have e : r_is_mark_number = r := Option.some.inj hr
    subst e
    obtain ⟨fd, F⟩ := c.def_ 3 (d := ⟨(r_is_mark_number.x, none), r_is_mark_number.x, r_is_mark_number.x, defArgs r_is_mark_number.st, defBody r_is_mark_number.st, defScope r_is_mark_number.st, [], []⟩) rfl
    exact ⟨fd, ft_zero (f := 3) (He.glo_ok X G (c.fact 3 (f := .glo r_is_mark_number.x) rfl)) F (FunD.bindsN F fun _ _ _ _ _ _ us hl => match us, hl with | [_], _ => rfl)⟩
  | 4, hr =>
    have e : r_is_card_of = r := Option.some.inj hr
    subst e
    obtain ⟨fd, F⟩ := c.def_ 4 (d := ⟨(r_is_card_of.x, none), r_is_card_of.x, r_is_card_of.x, defArgs r_is_card_of.st, defBody r_is_card_of.st, defScope r_is_card_of.st, [], []⟩) rfl
    exact ⟨fd, ft_zero (f := 4) (He.glo_ok X G (c.fact 4 (f := .glo r_is_card_of.x) rfl)) F (FunD.bindsN F fun _ _ _ _ _ _ us hl => match us, hl with | [_, _], _ => rfl)⟩
  | 5, hr =>
    have e : r_is_any_card = r := Option.some.inj hr
    subst e
    obtain ⟨fd, F⟩ := c.def_ 5 (d := ⟨(r_is_any_card.x, none), r_is_any_card.x, r_is_any_card.x, defArgs r_is_any_card.st, defBody r_is_any_card.st, defScope r_is_any_card.st, [], []⟩) rfl
    exact ⟨fd, ft_zero (f := 5) (He.glo_ok X G (c.fact 5 (f := .glo r_is_any_card.x) rfl)) F (FunD.bindsN F fun _ _ _ _ _ _ us hl => match us, hl with | [_], _ => rfl)⟩
  | 6, hr =>
    have e : r_sorts_of = r := Option.some.inj hr
    subst e
    obtain ⟨fd, F⟩ := c.def_ 6 (d := ⟨(r_sorts_of.x, none), r_sorts_of.x, r_sorts_of.x, defArgs r_sorts_of.st, defBody r_sorts_of.st, defScope r_sorts_of.st, [], []⟩) rfl
    exact ⟨fd, ft_zero (f := 6) (He.glo_ok X G (c.fact 6 (f := .glo r_sorts_of.x) rfl)) F (FunD.bindsN F fun _ _ _ _ _ _ us hl => match us, hl with | [_], _ => rfl)⟩
  | 7, hr =>
    have e : r_card_of_sorts = r := Option.some.inj hr
    subst e
    obtain ⟨fd, F⟩ := c.def_ 7 (d := ⟨(r_card_of_sorts.x, none), r_card_of_sorts.x, r_card_of_sorts.x, defArgs r_card_of_sorts.st, defBody r_card_of_sorts.st, defScope r_card_of_sorts.st, [], []⟩) rfl
    exact ⟨fd, ft_zero (f := 7) (He.glo_ok X G (c.fact 7 (f := .glo r_card_of_sorts.x) rfl)) F (FunD.bindsN F fun _ _ _ _ _ _ us hl => match us, hl with | [_], _ => rfl)⟩
  | 8, hr =>
    have e : r_third_of = r := Option.some.inj hr
    subst e
    obtain ⟨fd, F⟩ := c.def_ 8 (d := ⟨(r_third_of.x, none), r_third_of.x, r_third_of.x, defArgs r_third_of.st, defBody r_third_of.st, defScope r_third_of.st, [], []⟩) rfl
    exact ⟨fd, ft_zero (f := 8) (He.glo_ok X G (c.fact 8 (f := .glo r_third_of.x) rfl)) F (FunD.bindsN F fun _ _ _ _ _ _ us hl => match us, hl with | [_, _], _ => rfl)⟩
  | 9, hr =>
    have e : r_check_marks = r := Option.some.inj hr
    subst e
    obtain ⟨fd, F⟩ := c.def_ 9 (d := ⟨(r_check_marks.x, none), r_check_marks.x, r_check_marks.x, defArgs r_check_marks.st, defBody r_check_marks.st, defScope r_check_marks.st, [], []⟩) rfl
    exact ⟨fd, ft_zero (f := 9) (He.glo_ok X G (c.fact 9 (f := .glo r_check_marks.x) rfl)) F (FunD.bindsN F fun _ _ _ _ _ _ us hl => match us, hl with | [_], _ => rfl)⟩
  | 10, hr =>
    have e : r_check_card = r := Option.some.inj hr
    subst e
    obtain ⟨fd, F⟩ := c.def_ 10 (d := ⟨(r_check_card.x, none), r_check_card.x, r_check_card.x, defArgs r_check_card.st, defBody r_check_card.st, defScope r_check_card.st, [], []⟩) rfl
    exact ⟨fd, ft_zero (f := 10) (He.glo_ok X G (c.fact 10 (f := .glo r_check_card.x) rfl)) F (FunD.bindsN F fun _ _ _ _ _ _ us hl => match us, hl with | [_, _], _ => rfl)⟩
  | 11, hr =>
    have e : r_check_any_card = r := Option.some.inj hr
    subst e
    obtain ⟨fd, F⟩ := c.def_ 11 (d := ⟨(r_check_any_card.x, none), r_check_any_card.x, r_check_any_card.x, defArgs r_check_any_card.st, defBody r_check_any_card.st, defScope r_check_any_card.st, [], []⟩) rfl
    exact ⟨fd, ft_zero (f := 11) (He.glo_ok X G (c.fact 11 (f := .glo r_check_any_card.x) rfl)) F (FunD.bindsN F fun _ _ _ _ _ _ us hl => match us, hl with | [_], _ => rfl)⟩
  | 12, hr =>
    have e : r_check_two_cards = r := Option.some.inj hr
    subst e
    obtain ⟨fd, F⟩ := c.def_ 12 (d := ⟨(r_check_two_cards.x, none), r_check_two_cards.x, r_check_two_cards.x, defArgs r_check_two_cards.st, defBody r_check_two_cards.st, defScope r_check_two_cards.st, [], []⟩) rfl
    exact ⟨fd, ft_zero (f := 12) (He.glo_ok X G (c.fact 12 (f := .glo r_check_two_cards.x) rfl)) F (FunD.bindsN F fun _ _ _ _ _ _ us hl => match us, hl with | [_, _], _ => rfl)⟩
  | 13, hr =>
    have e : r_check_three_cards = r := Option.some.inj hr
    subst e
    obtain ⟨fd, F⟩ := c.def_ 13 (d := ⟨(r_check_three_cards.x, none), r_check_three_cards.x, r_check_three_cards.x, defArgs r_check_three_cards.st, defBody r_check_three_cards.st, defScope r_check_three_cards.st, [], []⟩) rfl
    exact ⟨fd, ft_zero (f := 13) (He.glo_ok X G (c.fact 13 (f := .glo r_check_three_cards.x) rfl)) F (FunD.bindsN F fun _ _ _ _ _ _ us hl => match us, hl with | [_, _, _], _ => rfl)⟩
  | 14, hr =>
    have e : r_is_lot_by = r := Option.some.inj hr
    subst e
    obtain ⟨fd, F⟩ := c.def_ 14 (d := ⟨(r_is_lot_by.x, none), r_is_lot_by.x, r_is_lot_by.x, defArgs r_is_lot_by.st, defBody r_is_lot_by.st, defScope r_is_lot_by.st, [], []⟩) rfl
    exact ⟨fd, ft_zero (f := 14) (He.glo_ok X G (c.fact 14 (f := .glo r_is_lot_by.x) rfl)) F (FunD.bindsN F fun _ _ _ _ _ _ us hl => match us, hl with | [_, _, _], _ => rfl)⟩
  | 15, hr =>
    have e : r_odd_mark_of = r := Option.some.inj hr
    subst e
    obtain ⟨fd, F⟩ := c.def_ 15 (d := ⟨(r_odd_mark_of.x, none), r_odd_mark_of.x, r_odd_mark_of.x, defArgs r_odd_mark_of.st, defBody r_odd_mark_of.st, defScope r_odd_mark_of.st, [], []⟩) rfl
    exact ⟨fd, ft_zero (f := 15) (He.glo_ok X G (c.fact 15 (f := .glo r_odd_mark_of.x) rfl)) F (FunD.bindsN F fun _ _ _ _ _ _ us hl => match us, hl with | [_, _, _], _ => rfl)⟩
  | 16, hr =>
    have e : r_third = r := Option.some.inj hr
    subst e
    obtain ⟨fd, F⟩ := c.def_ 16 (d := ⟨(r_third.x, none), r_third.x, r_third.x, defArgs r_third.st, defBody r_third.st, defScope r_third.st, [], []⟩) rfl
    exact ⟨fd, ft_zero (f := 16) (He.glo_ok X G (c.fact 16 (f := .glo r_third.x) rfl)) F (FunD.bindsN F fun _ _ _ _ _ _ us hl => match us, hl with | [_, _], _ => rfl)⟩
  | 17, hr =>
    have e : r_is_lot = r := Option.some.inj hr
    subst e
    obtain ⟨fd, F⟩ := c.def_ 17 (d := ⟨(r_is_lot.x, none), r_is_lot.x, r_is_lot.x, defArgs r_is_lot.st, defBody r_is_lot.st, defScope r_is_lot.st, [], []⟩) rfl
    exact ⟨fd, ft_zero (f := 17) (He.glo_ok X G (c.fact 17 (f := .glo r_is_lot.x) rfl)) F (FunD.bindsN F fun _ _ _ _ _ _ us hl => match us, hl with | [_, _, _], _ => rfl)⟩
  | 18, hr =>
    have e : r_odd_mark = r := Option.some.inj hr
    subst e
    obtain ⟨fd, F⟩ := c.def_ 18 (d := ⟨(r_odd_mark.x, none), r_odd_mark.x, r_odd_mark.x, defArgs r_odd_mark.st, defBody r_odd_mark.st, defScope r_odd_mark.st, [], []⟩) rfl
    exact ⟨fd, ft_zero (f := 18) (He.glo_ok X G (c.fact 18 (f := .glo r_odd_mark.x) rfl)) F (FunD.bindsN F fun _ _ _ _ _ _ us hl => match us, hl with | [_, _, _], _ => rfl)⟩
  | 19, hr =>
    have e : r_is_card = r := Option.some.inj hr
    subst e
    obtain ⟨fd, F⟩ := c.def_ 19 (d := ⟨(r_is_card.x, none), r_is_card.x, r_is_card.x, defArgs r_is_card.st, defBody r_is_card.st, defScope r_is_card.st, [], []⟩) rfl
    exact ⟨fd, ft_zero (f := 19) (He.glo_ok X G (c.fact 19 (f := .glo r_is_card.x) rfl)) F (FunD.bindsN F fun _ _ _ _ _ _ us hl => match us, hl with | [_, _], _ => rfl)⟩
  | 20, hr =>
    have e : r_law_well = r := Option.some.inj hr
    subst e
    obtain ⟨fd, F⟩ := c.def_ 20 (d := ⟨(r_law_well.x, none), r_law_well.x, r_law_well.x, defArgs r_law_well.st, defBody r_law_well.st, defScope r_law_well.st, [], []⟩) rfl
    exact ⟨fd, ft_zero (f := 20) (He.glo_ok X G (c.fact 20 (f := .glo r_law_well.x) rfl)) F (FunD.bindsN F fun _ _ _ _ _ _ us hl => match us, hl with | [_, _], _ => rfl)⟩
  | 21, hr =>
    have e : r_law_take = r := Option.some.inj hr
    subst e
    obtain ⟨fd, F⟩ := c.def_ 21 (d := ⟨(r_law_take.x, none), r_law_take.x, r_law_take.x, defArgs r_law_take.st, defBody r_law_take.st, defScope r_law_take.st, [], []⟩) rfl
    exact ⟨fd, ft_zero (f := 21) (He.glo_ok X G (c.fact 21 (f := .glo r_law_take.x) rfl)) F (FunD.bindsN F fun _ _ _ _ _ _ us hl => match us, hl with | [_, _], _ => rfl)⟩
  | 22, hr =>
    have e : r_law_pick = r := Option.some.inj hr
    subst e
    obtain ⟨fd, F⟩ := c.def_ 22 (d := ⟨(r_law_pick.x, none), r_law_pick.x, r_law_pick.x, defArgs r_law_pick.st, defBody r_law_pick.st, defScope r_law_pick.st, [], []⟩) rfl
    exact ⟨fd, ft_zero (f := 22) (He.glo_ok X G (c.fact 22 (f := .glo r_law_pick.x) rfl)) F (FunD.bindsN F fun _ _ _ _ _ _ us hl => match us, hl with | [_, _], _ => rfl)⟩
  | 23, hr =>
    have e : r_law_is = r := Option.some.inj hr
    subst e
    obtain ⟨fd, F⟩ := c.def_ 23 (d := ⟨(r_law_is.x, none), r_law_is.x, r_law_is.x, defArgs r_law_is.st, defBody r_law_is.st, defScope r_law_is.st, [], []⟩) rfl
    exact ⟨fd, ft_zero (f := 23) (He.glo_ok X G (c.fact 23 (f := .glo r_law_is.x) rfl)) F (FunD.bindsN F fun _ _ _ _ _ _ us hl => match us, hl with | [_, _], _ => rfl)⟩
  | 24, hr =>
    have e : r_law_deck = r := Option.some.inj hr
    subst e
    obtain ⟨fd, F⟩ := c.def_ 24 (d := ⟨(r_law_deck.x, none), r_law_deck.x, r_law_deck.x, defArgs r_law_deck.st, defBody r_law_deck.st, defScope r_law_deck.st, [], []⟩) rfl
    exact ⟨fd, ft_zero (f := 24) (He.glo_ok X G (c.fact 24 (f := .glo r_law_deck.x) rfl)) F (FunD.bindsN F fun _ _ _ _ _ _ us hl => match us, hl with | [_], _ => rfl)⟩
  | 25, hr =>
    have e : r_law_third = r := Option.some.inj hr
    subst e
    obtain ⟨fd, F⟩ := c.def_ 25 (d := ⟨(r_law_third.x, none), r_law_third.x, r_law_third.x, defArgs r_law_third.st, defBody r_law_third.st, defScope r_law_third.st, [], []⟩) rfl
    exact ⟨fd, ft_zero (f := 25) (He.glo_ok X G (c.fact 25 (f := .glo r_law_third.x) rfl)) F (FunD.bindsN F fun _ _ _ _ _ _ us hl => match us, hl with | [_, _], _ => rfl)⟩
  | 26, hr =>
    have e : r_law_drawn_card = r := Option.some.inj hr
    subst e
    obtain ⟨fd, F⟩ := c.def_ 26 (d := ⟨(r_law_drawn_card.x, none), r_law_drawn_card.x, r_law_drawn_card.x, defArgs r_law_drawn_card.st, defBody r_law_drawn_card.st, defScope r_law_drawn_card.st, [], []⟩) rfl
    exact ⟨fd, ft_zero (f := 26) (He.glo_ok X G (c.fact 26 (f := .glo r_law_drawn_card.x) rfl)) F (FunD.bindsN F fun _ _ _ _ _ _ us hl => match us, hl with | [_, _], _ => rfl)⟩
  | 27, hr =>
    have e : r_law_pair_right = r := Option.some.inj hr
    subst e
    obtain ⟨fd, F⟩ := c.def_ 27 (d := ⟨(r_law_pair_right.x, none), r_law_pair_right.x, r_law_pair_right.x, defArgs r_law_pair_right.st, defBody r_law_pair_right.st, defScope r_law_pair_right.st, [], []⟩) rfl
    exact ⟨fd, ft_zero (f := 27) (He.glo_ok X G (c.fact 27 (f := .glo r_law_pair_right.x) rfl)) F (FunD.bindsN F fun _ _ _ _ _ _ us hl => match us, hl with | [_, _, _], _ => rfl)⟩
  | 28, hr =>
    have e : r_law_three_right = r := Option.some.inj hr
    subst e
    obtain ⟨fd, F⟩ := c.def_ 28 (d := ⟨(r_law_three_right.x, none), r_law_three_right.x, r_law_three_right.x, defArgs r_law_three_right.st, defBody r_law_three_right.st, defScope r_law_three_right.st, [], []⟩) rfl
    exact ⟨fd, ft_zero (f := 28) (He.glo_ok X G (c.fact 28 (f := .glo r_law_three_right.x) rfl)) F (FunD.bindsN F fun _ _ _ _ _ _ us hl => match us, hl with | [_, _, _], _ => rfl)⟩
  | 29, hr =>
    have e : r_law_caught = r := Option.some.inj hr
    subst e
    obtain ⟨fd, F⟩ := c.def_ 29 (d := ⟨(r_law_caught.x, none), r_law_caught.x, r_law_caught.x, defArgs r_law_caught.st, defBody r_law_caught.st, defScope r_law_caught.st, [], []⟩) rfl
    exact ⟨fd, ft_zero (f := 29) (He.glo_ok X G (c.fact 29 (f := .glo r_law_caught.x) rfl)) F (FunD.bindsN F fun _ _ _ _ _ _ us hl => match us, hl with | [_, _, _, _], _ => rfl)⟩
  | 30, hr =>
    have e : r_law_refused_right = r := Option.some.inj hr
    subst e
    obtain ⟨fd, F⟩ := c.def_ 30 (d := ⟨(r_law_refused_right.x, none), r_law_refused_right.x, r_law_refused_right.x, defArgs r_law_refused_right.st, defBody r_law_refused_right.st, defScope r_law_refused_right.st, [], []⟩) rfl
    exact ⟨fd, ft_zero (f := 30) (He.glo_ok X G (c.fact 30 (f := .glo r_law_refused_right.x) rfl)) F (FunD.bindsN F fun _ _ _ _ _ _ us hl => match us, hl with | [_, _], _ => rfl)⟩
  | 31, hr =>
    have e : r_law_right = r := Option.some.inj hr
    subst e
    obtain ⟨fd, F⟩ := c.def_ 31 (d := ⟨(r_law_right.x, none), r_law_right.x, r_law_right.x, defArgs r_law_right.st, defBody r_law_right.st, defScope r_law_right.st, [], []⟩) rfl
    exact ⟨fd, ft_zero (f := 31) (He.glo_ok X G (c.fact 31 (f := .glo r_law_right.x) rfl)) F (FunD.bindsN F fun _ _ _ _ _ _ us hl => match us, hl with | [_], _ => rfl)⟩
  | 32, hr =>
    have e : r_law = r := Option.some.inj hr
    subst e
    obtain ⟨fd, F⟩ := c.def_ 32 (d := ⟨(r_law.x, none), r_law.x, r_law.x, defArgs r_law.st, defBody r_law.st, defScope r_law.st, [], []⟩) rfl
    exact ⟨fd, ft_zero (f := 32) (He.glo_ok X G (c.fact 32 (f := .glo r_law.x) rfl)) F (FunD.bindsN F fun _ _ _ _ _ _ us hl => match us, hl with | [_], _ => rfl)⟩
  | n + 33, hr => exact absurd hr (by simp [D])
def law (d : Nat) : List W → Store → R W := fns T d 32
end Lw
/-! k63, k60 ..: sums of numbers without carry, plainly: leads, what they span. -/
namespace C63
def stp (x l : Nat) : Nat := if x ^^^ l < x then x ^^^ l else x
def red : List Nat → Nat → Nat
  | [], x => x
  | l :: L, x => red L (stp x l)
def inSp : List Nat → Nat → Prop
  | [], y => y = 0
  | l :: L, y => inSp L y ∨ inSp L (y ^^^ l)
def Good (L : List Nat) : Prop := (∀ l ∈ L, l ≠ 0) ∧ L.Pairwise fun a b => b.testBit a.log2 = false
theorem Good.tail {l : Nat} {L : List Nat} (h : Good (l :: L)) : Good L := ⟨fun x hx => h.1 x (List.mem_cons_of_mem _ hx), (List.pairwise_cons.mp h.2).2⟩
/-- two ways that go along -/
def Same (L M : List Nat) : Prop := Good L ∧ Good M ∧ L.length = M.length ∧ ∀ y, inSp L y ↔ inSp M y
end C63
namespace Lw
open Mp C63
def isStr (r : R W) (s : List Nat) : Bool := match r with
  | .ok (.str t) [] => decide (t = s)
  | _ => false
def isInt (r : R W) (i : Int) : Bool := match r with
  | .ok (.int j) [] => decide (j = i)
  | _ => false
def isTrue (r : R W) : Bool := match r with
  | .ok (.bl true) [] => true
  | _ => false
theorem miRng_ok {o : List W → Option (List W)} {ga : MA} {η : Env} {S S1 : Store} {ws xs : List W} (h : ga η S = .ok ws S1) (k : o ws = some xs) : miRng o ga η S = .ok xs S1 := by
  unfold miRng
  rw [h]
  show rOpt (o ws) S1 = _
  rw [k] <;> rfl
theorem fr_ret {T : List Fun} {d k np nv : Nat} {b : Fns → MS} {ws : List W} {η : Env} {S S' : Store} {w : W} (h : T[k]? = some ⟨np, nv, false, true, b⟩) (hl : ws.length = np) (hp : pures ws = true) (hη : ws.map some ++ List.replicate (nv - np) none = η) (e : b (fns T d) η [] = .ret w S') (pw : w.pure = true) : fns T (d + 1) k ws S = .ok w S := by
  rw [fns_fr h hl hp rfl]
  show R.frame S (finS false 0 (b (fns T d) (ws.map some ++ List.replicate (nv - np) none) [])) = _
  rw [hη, e]
  show R.frame S (fin false 0 w S') = _
  unfold fin
  rw [if_pos pw]
  exact if_pos pw
theorem mMeth_ok {c : Nat} {o : OM} {f : ME} {ga : MA} {η : Env} {S S1 S2 S3 : Store} {x w : W} {ws : List W} (hf : f η S = .ok x S1) (hr : recOk c S1 x = true) (hg : ga η S1 = .ok ws S2) (ho : o x ws S2 = some (w, S3)) : mMeth c o f ga η S = .ok w S3 := by
  unfold mMeth
  rw [hf]
  show (if recOk c S1 x = true then (ga η S1).bind fun ws S2 => rOM (o x ws S2) else .stuck) = _
  rw [if_pos hr, hg]
  show rOM (o x ws S2) = _
  rw [ho] <;> rfl
theorem rng1_nat {b : Nat} (hb : b < 1000000) : rng1 [.int (b : Int)] = some (rangeW 0 b) := by
  show (if -4611686018427387904 ≤ (b : Int) ∧ (b : Int) < 4611686018427387904 then some (rangeW 0 ((b : Int)).toNat) else none) = _
  rw [if_pos ⟨by omega, by omega⟩, Int.toNat_natCast]
theorem sDrop_ok {f : ME} {η : Env} {S S1 : Store} {w : W} (h : f η S = .ok w S1) : sDrop f η S = .nx η S1 := by
  unfold sDrop
  rw [h] <;> rfl
theorem mAnd_t {f g : ME} {η : Env} {S S1 : Store} {x : W} (h : f η S = .ok x S1) (ht : truthy S1 x = some true) : mAnd f g η S = g η S1 := by
  unfold mAnd
  rw [h]
  show (rTruth x S1).bind _ = _
  unfold rTruth
  rw [ht]
  rfl
theorem fr_non {T : List Fun} {d k np nv : Nat} {b : Fns → MS} {ws : List W} {η η' : Env} {S S' : Store} (h : T[k]? = some ⟨np, nv, false, true, b⟩) (hl : ws.length = np) (hp : pures ws = true) (hη : ws.map some ++ List.replicate (nv - np) none = η) (e : b (fns T d) η [] = .nx η' S') : fns T (d + 1) k ws S = .ok .non S := by
  rw [fns_fr h hl hp rfl]
  show R.frame S (finS false 0 (b (fns T d) (ws.map some ++ List.replicate (nv - np) none) [])) = _
  rw [hη, e]
  rfl
theorem comp_gen {it : MI} {own : List Nat} {g : MG} {t : MT} {e : ME} {η : Env} {S : Store} {α : Type} {u v : α → W} {l : List α} (hi : it η S = .ok (l.map u) S) (h : ∀ i, i ∈ l → ∃ η1, g (u i) (wipeE η own) S = some (η1, S) ∧ t η1 S = .ok true S ∧ e η1 S = .ok (v i) S) (hl : l.length ≤ bigLine) : mComp it own g t e η S = .ok (.lst (l.map v)) S := by
  unfold mComp
  rw [hi]
  show (noexc (compL g t e (wipeE η own) (l.map u) S [])).bind (fun ws S2 => R.ok (W.lst ws) S2) = _
  have key : ∀ (xs : List α) (acc : List W), (∀ i, i ∈ xs → ∃ η1, g (u i) (wipeE η own) S = some (η1, S) ∧ t η1 S = .ok true S ∧ e η1 S = .ok (v i) S) → acc.length + xs.length ≤ bigLine → compL g t e (wipeE η own) (xs.map u) S acc = .ok (acc ++ xs.map v) S := by
    intro xs
    induction xs with
    | nil =>
      intro acc _ _
      show R.ok acc S = _
      rw [List.map_nil, List.append_nil]
    | cons x r ih =>
      intro acc h hl
      obtain ⟨η1, h1, h2, h3⟩ := h x (List.mem_cons_self ..)
      rw [List.map_cons]
      unfold compL
      simp only [h1, h2, h3, R.bind]
      rw [if_pos True.intro]
      unfold sized
      rw [if_pos (by rw [List.length_cons] at hl; omega), ih (acc ++ [v x]) (fun y hy => h y (List.mem_cons_of_mem _ hy)) (by rw [List.length_append, List.length_singleton]; rw [List.length_cons] at hl; omega), List.append_assoc] <;> rfl
  rw [key l [] h (by simpa using hl), List.nil_append] <;> rfl
theorem nf_call {T : List Fun} {d k np nv : Nat} {keep : Bool} {b : Fns → MS} {ws : List W} {η : Env} {S : Store} (h : T[k]? = some ⟨np, nv, keep, false, b⟩) (hl : ws.length = np) (hη : ws.map some ++ List.replicate (nv - np) none = η) : fns T (d + 1) k ws S = finS keep S.length (b (fns T d) η S) := by
  subst hη
  exact fns_eq h hl
theorem mCallK_ok {φ : Fns} {f : Nat} {perm : List Nat} {gk : MA} {η : Env} {S S1 S2 : Store} {ws zs : List W} {w : W} (hg : gk η S = .ok ws S1) (hp : perm.all (fun i => decide (i < ws.length)) = true) (hz : (perm.map fun i => ws.getD i .non) = zs) (h : φ f zs S1 = .ok w S2) : mCallK φ f perm gk η S = .ok w S2 := by
  unfold mCallK
  rw [hg]
  show (if _ then _ else _) = _
  rw [if_pos hp, hz]
  exact h
theorem mOr_t {f g : ME} {η : Env} {S S1 : Store} {x : W} (h : f η S = .ok x S1) (ht : truthy S1 x = some true) : mOr f g η S = .ok x S1 := by
  unfold mOr
  rw [h]
  show (rTruth x S1).bind _ = _
  unfold rTruth
  rw [ht]
  rfl
theorem mOr_f {f g : ME} {η : Env} {S S1 : Store} {x : W} (h : f η S = .ok x S1) (ht : truthy S1 x = some false) : mOr f g η S = g η S1 := by
  unfold mOr
  rw [h]
  show (rTruth x S1).bind _ = _
  unfold rTruth
  rw [ht]
  rfl
theorem strsOf_inv : ∀ {xs : List W} {zs : List (List Nat)}, strsOf xs = some zs → xs = zs.map .str
  | [], zs, h => by
    cases h
    rfl
  | .str s :: r, zs, h => by
    have h : (strsOf r).map (s :: ·) = some zs := h
    cases e : strsOf r with
    | none =>
      rw [e] at h
      cases h
    | some ys =>
      rw [e] at h
      cases h
      rw [strsOf_inv e] <;> rfl
  | .non :: r, zs, h => by cases h
  | .bl _ :: r, zs, h => by cases h
  | .int _ :: r, zs, h => by cases h
  | .tup _ :: r, zs, h => by cases h
  | .lst _ :: r, zs, h => by cases h
  | .scr _ :: r, zs, h => by cases h
  | .dct _ _ :: r, zs, h => by cases h
  | .ref _ :: r, zs, h => by cases h
  | .fn _ :: r, zs, h => by cases h
  | .cls _ :: r, zs, h => by cases h
  | .exc _ _ :: r, zs, h => by cases h
end Lw
namespace Lw
open Mp
/-! an evaluator by tactics: walk_at "mev" proves f η S = .ok ?w ?S', walk_at "mst" a statement's end -/
theorem mNot_ev {f : ME} {η : Env} {S S1 : Store} {x : W} {b : Bool} (h : f η S = .ok x S1) (ht : truthy S1 x = some b) : mNot f η S = .ok (.bl (!b)) S1 := by
  unfold mNot
  rw [h]
  show (rOpt (truthy S1 x) S1).bind _ = _
  rw [ht] <;> rfl
theorem mAnd_tE {f g : ME} {η : Env} {S S1 : Store} {x : W} {r : R W} (h : f η S = .ok x S1) (ht : truthy S1 x = some true) (k : g η S1 = r) : mAnd f g η S = r := (mAnd_t h ht).trans k
theorem mAnd_fE {f g : ME} {η : Env} {S S1 : Store} {x : W} (h : f η S = .ok x S1) (ht : truthy S1 x = some false) : mAnd f g η S = .ok x S1 := by
  unfold mAnd
  rw [h]
  show (rOpt (truthy S1 x) S1).bind _ = _
  rw [ht] <;> rfl
theorem mOr_fE {f g : ME} {η : Env} {S S1 : Store} {x : W} {r : R W} (h : f η S = .ok x S1) (ht : truthy S1 x = some false) (k : g η S1 = r) : mOr f g η S = r := (mOr_f h ht).trans k
theorem mIf_tE {c : MT} {f g : ME} {η : Env} {S S1 : Store} {r : R W} (h : c η S = .ok true S1) (k : f η S1 = r) : mIf c f g η S = r := (mIf_t h).trans k
theorem mIf_fE {c : MT} {f g : ME} {η : Env} {S S1 : Store} {r : R W} (h : c η S = .ok false S1) (k : g η S1 = r) : mIf c f g η S = r := (mIf_f h).trans k
theorem mTAnd_tE {f g : MT} {η : Env} {S S1 : Store} {r : R Bool} (h : f η S = .ok true S1) (k : g η S1 = r) : mTAnd f g η S = r := (mTAnd_t h).trans k
theorem mTOr_fE {f g : MT} {η : Env} {S S1 : Store} {r : R Bool} (h : f η S = .ok false S1) (k : g η S1 = r) : mTOr f g η S = r := (mTOr_f h).trans k
theorem mTNot_tE {f : MT} {η : Env} {S S1 : Store} (h : f η S = .ok true S1) : mTNot f η S = .ok false S1 := mTNot_ok h
theorem mTNot_fE {f : MT} {η : Env} {S S1 : Store} (h : f η S = .ok false S1) : mTNot f η S = .ok true S1 := mTNot_ok h
theorem mTUn_ev {o : W → Store → Option W} {f : ME} {η : Env} {S S1 : Store} {x : W} {b : Bool} (h : f η S = .ok x S1) (k : o x S1 = some (.bl b)) : mTUn o f η S = .ok b S1 := by
  unfold mTUn
  rw [h]
  show (match o x S1 with
    | some (.bl b) => R.ok b S1
    | _ => .stuck) = _
  rw [k]
theorem mSl_ev {f : ME} {lo hi : MO} {η : Env} {S S1 S2 S3 : Store} {x z : W} {l h : Option Int} (hf : f η S = .ok x S1) (hl : lo η S1 = .ok l S2) (hh : hi η S2 = .ok h S3) (k : opSl x l h S3 = some z) : mSl f lo hi η S = .ok z S3 := by
  unfold mSl
  rw [hf]
  show (lo η S1).bind _ = _
  rw [hl]
  show (hi η S2).bind _ = _
  rw [hh]
  show rOpt (opSl x l h S3) S3 = _
  rw [k] <;> rfl
theorem moSome_ev {f : ME} {η : Env} {S S1 : Store} {i : Int} (h : f η S = .ok (.int i) S1) : moSome f η S = .ok (some i) S1 := by
  unfold moSome
  rw [h] <;> rfl
theorem moNone_ev {η : Env} {S : Store} : moNone η S = .ok none S := rfl
theorem mJoin_ev {f g : ME} {η : Env} {S S1 S2 : Store} {a : List Nat} {y z : W} (hf : f η S = .ok (.str a) S1) (hg : g η S1 = .ok y S2) (h : opJoin (.str a) y S2 = some z) : mJoin f g η S = .ok z S2 := by
  unfold mJoin
  rw [hf]
  show (g η S1).bind _ = _
  rw [hg]
  show rOpt (opJoin (.str a) y S2) S2 = _
  rw [h] <;> rfl
theorem miSeq_ev {f : ME} {η : Env} {S S1 : Store} {x : W} {xs : List W} (h : f η S = .ok x S1) (k : seqI x = some xs) : miSeq f η S = .ok xs S1 := by
  unfold miSeq
  rw [h]
  show rOpt (seqI x) S1 = _
  rw [k] <;> rfl
theorem miAll_ev {o : List W → Option (List W)} {ga : MA} {η : Env} {S S1 : Store} {ws xs : List W} (h : ga η S = .ok ws S1) (k : o ws = some xs) : miAll o ga η S = .ok xs S1 := by
  unfold miAll
  rw [h]
  show rOpt (o ws) S1 = _
  rw [k] <;> rfl
theorem rng1_ev {b : Nat} (hb : b < 1000000) : rng1 [.int (b : Int)] = some ((List.range b).map fun (i : Nat) => W.int i) := by
  rw [rng1_nat hb]
  unfold rangeW
  rw [List.map_congr_left (g := fun (i : Nat) => W.int i) fun i _ => by rw [Int.zero_add]]
theorem sSet_ev {i : Nat} {f : ME} {η η1 : Env} {S S1 : Store} {w : W} (h : f η S = .ok w S1) (e : η.set i (some w) = η1) : sSet i f η S = .nx η1 S1 := (sSet_ok h).trans (by rw [e])
theorem sIf_tE {c : MT} {f g : MS} {η : Env} {S S1 : Store} {r : RS} (h : c η S = .ok true S1) (k : f η S1 = r) : sIf c f g η S = r := (sIf_t h).trans k
theorem sIf_fE {c : MT} {f g : MS} {η : Env} {S S1 : Store} {r : RS} (h : c η S = .ok false S1) (k : g η S1 = r) : sIf c f g η S = r := (sIf_f h).trans k
theorem sNx_ev {η : Env} {S : Store} : sNx η S = .nx η S := rfl
theorem sSeq_nE {f g : MS} {η η1 : Env} {S S1 : Store} {r : RS} (h : f η S = .nx η1 S1) (k : g η1 S1 = r) : sSeq f g η S = r := (sSeq_nx h).trans k
theorem sSeq_rE {f g : MS} {η : Env} {S S1 : Store} {w : W} (h : f η S = .ret w S1) : sSeq f g η S = .ret w S1 := sSeq_ret h
theorem sPar_ev {i j : Nat} {g : MA} {η η1 : Env} {S S1 : Store} {a b : W} (h : g η S = .ok [a, b] S1) (e : (η.set i (some a)).set j (some b) = η1) : sPar i j g η S = .nx η1 S1 := by
  unfold sPar
  rw [h]
  show RS.nx _ S1 = _
  rw [e]
theorem mTup_ev {g : MA} {η : Env} {S S1 : Store} {xs : List W} (hf : g η S = .ok xs S1) (h : xs.length ≤ bigLine) : mTup g η S = .ok (.tup xs) S1 := mTup_ok hf h
end Lw
namespace Lw
open Mp
theorem mTNot_tt {f : ME} {η : Env} {S S1 : Store} (h : f η S = .ok (.bl true) S1) : mTNot (mTru f) η S = .ok false S1 := mTNot_ok (b := true) (mTru_ok h rfl)
theorem mSet_ev {o : List W → Option W} {f : ME} {η : Env} {S S1 : Store} {x w : W} {ys : List W} (h : f η S = .ok x S1) (e : seqOf S1 x = some ys) (k : o ys = some w) : mSet o f η S = .ok w S1 := by
  unfold mSet
  rw [h]
  show rOpt ((seqOf S1 x).bind o) S1 = _
  rw [e]
  show rOpt (o ys) S1 = _
  rw [k] <;> rfl
theorem mCallK2 {φ : Fns} {f : Nat} {gk : MA} {η : Env} {S S1 S2 : Store} {a b w : W} (hg : gk η S = .ok [a, b] S1) (h : φ f [b, a] S1 = .ok w S2) : mCallK φ f [1, 0] gk η S = .ok w S2 := mCallK_ok hg rfl rfl h
theorem sPar3_ev {i j l : Nat} {g : MA} {η η1 : Env} {S S1 : Store} {a b c : W} (h : g η S = .ok [a, b, c] S1) (e : (((η.set i (some a)).set j (some b)).set l (some c)) = η1) : sPar3 i j l g η S = .nx η1 S1 := by
  unfold sPar3
  rw [h]
  show RS.nx _ S1 = _
  rw [e]
end Lw
local macro_rules | `(tactic| walk_at "mop") => `(tactic| first   | with_reducible assumption   | exact Mp.opMod_ok (by decide) | exact Mp.opMod_ok (by omega) | exact Mp.opMul_l (by decide) | exact Mp.opMul_r (by decide) | exact Mp.opDiv_ok (by decide)   | rfl   | fail "mop")
local macro_rules | `(tactic| walk_at "mlen") => `(tactic| first | exact Nat.le_of_ble_eq_true rfl | (simp only [List.length_map, List.length_range, List.length_cons, List.length_nil, List.length_append]; unfold Mp.bigLine; omega))
local macro_rules | `(tactic| walk_at "mev") => `(tactic| first   | with_reducible assumption   | ((with_reducible apply Mp.mVar_ok); rfl)   | with_reducible exact Mp.mC_ok   | with_reducible exact Mp.maNil_ok   | ((with_reducible apply Mp.maCons_ok); walk_at "mev"; walk_at "mev")   | ((with_reducible apply Mp.mBin_ok); walk_at "mev"; walk_at "mev"; walk_at "mop")   | ((with_reducible apply Mp.mUn_ok); walk_at "mev"; walk_at "mop")   | ((with_reducible apply Mp.mBi_ok); walk_at "mev"; walk_at "mop")   | ((with_reducible apply Lw.mTup_ev); walk_at "mev"; walk_at "mlen")   | ((with_reducible apply Mp.mLst_ok); walk_at "mev"; walk_at "mlen")   | ((with_reducible apply Mp.mCall_ok); walk_at "mev"; walk_at "mop")   | ((with_reducible apply Lw.mIf_tE); walk_at "mev"; walk_at "mev")   | ((with_reducible apply Lw.mIf_fE); walk_at "mev"; walk_at "mev")   | ((with_reducible apply Mp.mTCmp_ok); walk_at "mev"; walk_at "mev"; walk_at "mop")   | ((with_reducible apply Lw.mTUn_ev); walk_at "mev"; walk_at "mop")   | ((with_reducible apply Mp.mTru_ok); walk_at "mev"; walk_at "mop")   | ((with_reducible apply Lw.mTNot_tE); walk_at "mev")   | ((with_reducible apply Lw.mTNot_fE); walk_at "mev")   | ((with_reducible apply Mp.mTNot_ok); walk_at "mev")   | ((with_reducible apply Lw.mNot_ev); walk_at "mev"; walk_at "mop")   | ((with_reducible apply Lw.mSl_ev); walk_at "mev"; walk_at "mev"; walk_at "mev"; walk_at "mop")   | ((with_reducible apply Lw.moSome_ev); walk_at "mev")   | with_reducible exact Lw.moNone_ev   | ((with_reducible apply Lw.mJoin_ev); walk_at "mev"; walk_at "mev"; walk_at "mop")   | ((with_reducible apply Lw.miSeq_ev); walk_at "mev"; walk_at "mop")   | ((with_reducible apply Lw.miAll_ev); walk_at "mev"; walk_at "mop")   | ((with_reducible apply Lw.miRng_ok); walk_at "mev"; walk_at "mop")   | ((with_reducible apply Lw.mMeth_ok); walk_at "mev"; walk_at "mop"; walk_at "mev"; walk_at "mop")   | ((with_reducible apply Lw.mAnd_tE); walk_at "mev"; walk_at "mop"; walk_at "mev")   | ((with_reducible apply Lw.mAnd_fE); walk_at "mev"; walk_at "mop")   | ((with_reducible apply Lw.mOr_t); walk_at "mev"; walk_at "mop")   | ((with_reducible apply Lw.mOr_fE); walk_at "mev"; walk_at "mop"; walk_at "mev")   | ((with_reducible apply Lw.mTAnd_tE); walk_at "mev"; walk_at "mev")   | ((with_reducible apply Mp.mTAnd_f); walk_at "mev")   | ((with_reducible apply Mp.mTOr_t); walk_at "mev")   | ((with_reducible apply Lw.mTOr_fE); walk_at "mev"; walk_at "mev")   | fail "mev")
local macro_rules | `(tactic| walk_at "mset") => `(tactic| first | (simp only [List.set_cons_zero, List.set_cons_succ]; rfl) | rfl)
local macro_rules | `(tactic| walk_at "mst") => `(tactic| first   | with_reducible assumption   | ((with_reducible apply Lw.sSet_ev); walk_at "mev"; walk_at "mset")   | ((with_reducible apply Lw.sPar_ev); walk_at "mev"; walk_at "mset")   | ((with_reducible apply Mp.sRet_ok); walk_at "mev")   | ((with_reducible apply Lw.sDrop_ok); walk_at "mev")   | ((with_reducible apply Lw.sIf_tE); walk_at "mev"; walk_at "mst")   | ((with_reducible apply Lw.sIf_fE); walk_at "mev"; walk_at "mst")   | ((with_reducible apply Lw.sSeq_rE); walk_at "mst")   | ((with_reducible apply Lw.sSeq_nE); walk_at "mst"; walk_at "mst")   | ((with_reducible apply Mp.sAsg_ok); walk_at "mev"; rfl)   | with_reducible exact Lw.sNx_ev)
local macro_rules | `(tactic| walk_at "mev") => `(tactic| first | ((with_reducible apply Lw.mCallK2); walk_at "mev"; walk_at "mop") | ((with_reducible apply Lw.mSet_ev); walk_at "mev"; rfl; walk_at "mop"))
namespace Lw
open Mp
/-! general: a store kept but for the well; comprehensions that draw -/
def Kp (i : Nat) (S0 S : Store) : Prop := Well S i ∧ S.length = S0.length ∧ ∀ j, j ≠ i → S[j]? = S0[j]?
theorem Kp.refl {i : Nat} {S : Store} (h : Well S i) : Kp i S S := ⟨h, rfl, fun _ _ => rfl⟩
theorem Kp.next {i : Nat} {S0 S S' : Store} (k : Kp i S0 S) (h : Well S' i) (l : S'.length = S.length) (o : ∀ j, j ≠ i → S'[j]? = S[j]?) : Kp i S0 S' := ⟨h, l.trans k.2.1, fun j hj => (o j hj).trans (k.2.2 j hj)⟩
theorem Kp.trans {i : Nat} {S0 S S' : Store} (k : Kp i S0 S) (k2 : Kp i S S') : Kp i S0 S' := k.next k2.1 k2.2.1 k2.2.2
theorem nf_ret {T : List Fun} {d k np nv : Nat} {b : Fns → MS} {ws : List W} {η : Env} {S S' : Store} {w : W} (h : T[k]? = some ⟨np, nv, false, false, b⟩) (hl : ws.length = np) (hη : ws.map some ++ List.replicate (nv - np) none = η) (e : b (fns T d) η S = .ret w S') (pw : w.pure = true) (l : S'.length = S.length) : fns T (d + 1) k ws S = .ok w S' := by
  rw [nf_call (keep := false) h hl hη, e]
  show fin false S.length w S' = _
  unfold fin
  rw [if_pos pw, List.take_of_length_le (by omega)]
theorem comp_eff {it : MI} {own : List Nat} {g : MG} {e : ME} {η : Env} {S S0 : Store} {xs : List W} (I : Store → Prop) (P : W → Prop) (hi : it η S = .ok xs S0) (h0 : I S0) (h : ∀ x, x ∈ xs → ∀ S, I S → ∃ η1 y S', g x (wipeE η own) S = some (η1, S) ∧ e η1 S = .ok y S' ∧ P y ∧ I S') (hl : xs.length ≤ bigLine) :
    ∃ ys S', mComp it own g mtYes e η S = .ok (.lst ys) S' ∧ ys.length = xs.length ∧ (∀ y ∈ ys, P y) ∧ I S' := by
  have key : ∀ (xs : List W) (S : Store) (acc : List W), I S → (∀ x, x ∈ xs → ∀ S, I S → ∃ η1 y S', g x (wipeE η own) S = some (η1, S) ∧ e η1 S = .ok y S' ∧ P y ∧ I S') → acc.length + xs.length ≤ bigLine → ∃ ys S', compL g mtYes e (wipeE η own) xs S acc = .ok (acc ++ ys) S' ∧ ys.length = xs.length ∧ (∀ y ∈ ys, P y) ∧ I S' := by
    intro xs
    induction xs with
    | nil =>
      intro S acc h0 _ _
      exact ⟨[], S, by rw [List.append_nil] <;> rfl, rfl, (fun y hy => by cases hy), h0⟩
    | cons x r ih =>
      intro S acc h0 h hl
      rw [List.length_cons] at hl
      obtain ⟨η1, y, S', h1, h2, h3, h4⟩ := h x (List.mem_cons_self ..) S h0
      obtain ⟨ys, S'', e1, e2, e3, e4⟩ := ih S' (acc ++ [y]) h4 (fun z hz => h z (List.mem_cons_of_mem _ hz)) (by rw [List.length_append, List.length_singleton]; omega)
      refine ⟨y :: ys, S'', ?_, by rw [List.length_cons, List.length_cons, e2], fun z hz => ?_, e4⟩
      · unfold compL
        simp only [h1, mtYes, h2, R.bind]
        rw [if_pos True.intro]
        unfold sized
        rw [if_pos (by omega)]
        refine Eq.trans e1 ?_
        rw [List.append_assoc] <;> rfl
      · rcases List.mem_cons.mp hz with q | q
        · rw [q]; exact h3
        · exact e3 z q
  obtain ⟨ys, S', e1, e2, e3, e4⟩ := key xs S0 [] h0 h (by simpa using hl)
  refine ⟨ys, S', ?_, e2, e3, e4⟩
  unfold mComp
  rw [hi]
  show (noexc (compL g mtYes e (wipeE η own) xs S0 [])).bind (fun ws S2 => R.ok (W.lst ws) S2) = _
  rw [e1, List.nil_append] <;> rfl
end Lw
namespace Lw
open Mp
/-! cards: values of any kind, texts of signs, numbers of marks, hands -/
inductive Nv : W → Prop
  | non : Nv .non
  | bl (b : Bool) : Nv (.bl b)
  | int (i : Int) : Nv (.int i)
  | str (s : List Nat) : s.length ≤ 1000 → Nv (.str s)
  | tup (xs : List W) : (∀ x ∈ xs, Nv x) → xs.length ≤ 1000 → Nv (.tup xs)
  | lst (xs : List W) : (∀ x ∈ xs, Nv x) → xs.length ≤ 1000 → Nv (.lst xs)
  | dct (ks vs : List W) : pures ks = true → pures vs = true → Nv (.dct ks vs)
theorem pures_of : ∀ {xs : List W}, (∀ x ∈ xs, x.pure = true) → pures xs = true
  | [], _ => rfl
  | x :: r, h => by
    show (x.pure && pures r) = true
    rw [h x (List.mem_cons_self ..), pures_of fun y hy => h y (List.mem_cons_of_mem _ hy)] <;> rfl
theorem Nv.pure {w : W} (h : Nv w) : w.pure = true := by
  induction h with
  | tup xs _ _ ih => exact pures_of ih
  | lst xs _ _ ih => exact pures_of ih
  | dct ks vs h1 h2 =>
    show (pures ks && pures vs) = true
    rw [h1, h2] <;> rfl
  | _ => rfl
theorem Nv.mem {xs : List W} (h : Nv (.tup xs)) : ∀ x ∈ xs, Nv x := by
  cases h with
  | tup _ a _ => exact a
theorem Nv.len {xs : List W} (h : Nv (.tup xs)) : xs.length ≤ 1000 := by
  cases h with
  | tup _ _ a => exact a
def isI : W → Bool
  | .int _ => true
  | _ => false
def isBt (lo hi : Int) : W → Bool
  | .int i => decide (lo ≤ i) && decide (i ≤ hi)
  | _ => false
def isT (m : Nat) : W → Bool
  | .tup xs => decide (xs.length = m)
  | _ => false
def isDg (c : Nat) : Bool := decide (c ∈ [48, 49, 50])
def isCd (m : Nat) : W → Bool
  | .str s => s.all isDg && decide (s.length = m)
  | _ => false
def Cd (m : Nat) (s : List Nat) : Prop := s.length = m ∧ s.all isDg = true
def sOf : W → List Nat
  | .str s => s
  | _ => []
def ascC (l : List (List Nat)) : Bool := (l.zip l.tail).all fun p => decide (p.1 < p.2)
def isHd (m : Nat) : W → Bool
  | .tup ws => ws.all (isCd m) && ascC (ws.map sOf)
  | _ => false
def hW (h : List (List Nat)) : W := .tup (h.map .str)
structure Hd (m : Nat) (h : List (List Nat)) : Prop where
  cd : ∀ s ∈ h, Cd m s
  asc : h.Pairwise (· < ·)
theorem ascC_iff : ∀ {l : List (List Nat)}, ascC l = true ↔ l.Pairwise (· < ·)
  | [] => ⟨fun _ => .nil, fun _ => rfl⟩
  | [x] => ⟨fun _ => List.pairwise_singleton _ _, fun _ => rfl⟩
  | x :: y :: r => by
    have ih := ascC_iff (l := y :: r)
    have e : ascC (x :: y :: r) = (decide (x < y) && ascC (y :: r)) := rfl
    rw [e, Bool.and_eq_true, decide_eq_true_eq, ih]
    constructor
    · rintro ⟨h1, h2⟩
      refine List.pairwise_cons.mpr ⟨fun z hz => ?_, h2⟩
      rcases List.mem_cons.mp hz with e | e
      · rw [e]; exact h1
      · exact List.lt_trans h1 ((List.pairwise_cons.mp h2).1 z e)
    · intro h
      exact ⟨(List.pairwise_cons.mp h).1 y (List.mem_cons_self ..), (List.pairwise_cons.mp h).2⟩
theorem isCd_iff {m : Nat} {w : W} : isCd m w = true ↔ ∃ s, w = .str s ∧ Cd m s := by
  constructor
  · intro h
    cases w with
    | str s =>
      have h : (s.all isDg && decide (s.length = m)) = true := h
      rw [Bool.and_eq_true, decide_eq_true_eq] at h
      exact ⟨s, rfl, h.2, h.1⟩
    | _ => cases h
  · rintro ⟨s, rfl, h1, h2⟩
    show (s.all isDg && decide (s.length = m)) = true
    rw [h2, decide_eq_true h1] <;> rfl
theorem all_cd {m : Nat} : ∀ {ws : List W}, ws.all (isCd m) = true → ∃ h : List (List Nat), ws = h.map .str ∧ ∀ s ∈ h, Cd m s
  | [], _ => ⟨[], rfl, fun _ h => by cases h⟩
  | w :: r, h => by
    rw [List.all_cons, Bool.and_eq_true] at h
    obtain ⟨s, rfl, c⟩ := isCd_iff.mp h.1
    obtain ⟨l, e, k⟩ := all_cd h.2
    exact ⟨s :: l, by rw [e] <;> rfl, fun x hx => (List.mem_cons.mp hx).elim (fun z => z ▸ c) (k x)⟩
theorem sOf_map (h : List (List Nat)) : (h.map W.str).map sOf = h := by
  rw [List.map_map]
  exact (List.map_congr_left (g := fun x => x) fun _ _ => rfl).trans (List.map_id' h)
theorem isHd_iff {m : Nat} {v : W} : isHd m v = true ↔ ∃ h, v = hW h ∧ Hd m h := by
  constructor
  · intro h
    cases v with
    | tup ws =>
      have h : (ws.all (isCd m) && ascC (ws.map sOf)) = true := h
      rw [Bool.and_eq_true] at h
      obtain ⟨l, e, k⟩ := all_cd h.1
      refine ⟨l, by rw [e] <;> rfl, k, ?_⟩
      have h2 := h.2
      rw [e, sOf_map] at h2
      exact ascC_iff.mp h2
    | _ => cases h
  · rintro ⟨h, rfl, k⟩
    show ((h.map W.str).all (isCd m) && ascC ((h.map W.str).map sOf)) = true
    rw [sOf_map, ascC_iff.mpr k.asc, Bool.and_true]
    exact List.all_eq_true.mpr fun w hw => by
      obtain ⟨s, hs, rfl⟩ := List.mem_map.mp hw
      exact isCd_iff.mpr ⟨s, rfl, k.cd s hs⟩
theorem Cd.nv {m : Nat} {s : List Nat} (h : Cd m s) (hm : m ≤ 1000) : Nv (.str s) := .str s (by rw [h.1]; exact hm)
theorem Hd.nv {m : Nat} {h : List (List Nat)} (k : Hd m h) (hm : m ≤ 1000) (hl : h.length ≤ 1000) : Nv (hW h) := .tup _ (fun x hx => by
  obtain ⟨s, hs, rfl⟩ := List.mem_map.mp hx
  exact (k.cd s hs).nv hm) (by rw [List.length_map]; exact hl)
theorem bls_map {α : Type} (f : α → Bool) : ∀ l : List α, bls (l.map fun x => W.bl (f x)) = some (l.map f)
  | [] => rfl
  | x :: r => by
    show (bls (r.map fun x => W.bl (f x))).map (f x :: ·) = _
    rw [bls_map f r] <;> rfl
theorem all_map {α : Type} (f : α → Bool) (l : List α) {S : Store} : baAll [.lst (l.map fun x => W.bl (f x))] S = some (.bl (l.all f)) := by
  show (bls (l.map fun x => W.bl (f x))).map (fun bs => W.bl (bs.all id)) = _
  rw [bls_map]
  show some (W.bl ((l.map f).all id)) = _
  rw [List.all_map] <;> rfl
theorem any_map {α : Type} (f : α → Bool) (l : List α) {S : Store} : baAny [.lst (l.map fun x => W.bl (f x))] S = some (.bl (l.any f)) := by
  show (bls (l.map fun x => W.bl (f x))).map (fun bs => W.bl (bs.any id)) = _
  rw [bls_map]
  show some (W.bl ((l.map f).any id)) = _
  rw [List.any_map] <;> rfl
theorem int_eq (a b : Int) : (a == b) = decide (a = b) := by
  by_cases h : a = b
  · rw [decide_eq_true h]; exact beq_iff_eq.mpr h
  · rw [decide_eq_false h]; exact beq_eq_false_iff_ne.mpr h
theorem eq_int {a b : Int} {S : Store} : opEq (.int a) (.int b) S = some (.bl (decide (a = b))) := by
  show some (W.bl (a == b)) = _
  rw [int_eq]
theorem eq_len {a b : Nat} {S : Store} : opEq (.int (a : Int)) (.int (b : Int)) S = some (.bl (decide (a = b))) := by
  rw [eq_int, decide_eq_decide.mpr (show (a : Int) = (b : Int) ↔ a = b by omega)]
section
variable {d : Nat} {S : Store}
theorem whole_ok {x : W} (h : Nv x) : fns T (d + 1) 0 [x] S = .ok (.bl (isI x)) S :=
  fr_ret (η := [some x]) (b := b_is_whole) (nv := 1) (S' := []) rfl rfl (by show (x.pure && true) = true; rw [h.pure] <;> rfl) rfl (by cases h <;> rfl) rfl
theorem chain_le {f g h : ME} {η : Env} {a b c : Int} {S : Store} (hf : f η S = .ok (.int a) S) (hg : g η S = .ok (.int b) S) (hh : h η S = .ok (.int c) S) : mChain opLe2 opLe2 f g h η S = .ok (.bl (decide (a ≤ b) && decide (b ≤ c))) S := by
  unfold mChain
  simp only [hf, hg, hh, R.bind]
  have e : ∀ (i j : Int), opLe2 (.int i) (.int j) S = some (.bl (decide (i ≤ j))) := fun i j => rfl
  rw [e, e]
  cases decide (a ≤ b) <;> rfl
theorem btw_ok {x : W} {lo hi : Int} (h : Nv x) : fns T (d + 2) 1 [x, .int lo, .int hi] S = .ok (.bl (isBt lo hi x)) S := by
  refine fr_ret (η := [some x, some (.int lo), some (.int hi)]) (b := b_is_between) (nv := 3) (S' := []) rfl rfl (by show (x.pure && true) = true; rw [h.pure] <;> rfl) rfl ?_ rfl
  refine sRet_ok ?_
  have c1 := whole_ok (d := d) (S := []) h
  have c0 : (mCall (fns T (d + 1)) 0 (maCons (mVar 0) maNil)) [some x, some (.int lo), some (.int hi)] [] = .ok (.bl (isI x)) [] := by walk_at "mev"
  cases h with
  | int i => exact mAnd_tE (x := .bl true) (by walk_at "mev") rfl (chain_le (mVar_ok rfl) (mVar_ok rfl) (mVar_ok rfl))
  | _ => exact mAnd_fE c0 rfl
theorem in_dg (c : Nat) {S : Store} : opInD (.str [c]) (.str [48, 49, 50]) S = some (.bl (isDg c)) := rfl
def isTx : W → Bool
  | .str s => s.all isDg
  | _ => false
theorem text_ok {x : W} (h : Nv x) : fns T (d + 1) 2 [x, .str [48, 49, 50]] S = .ok (.bl (isTx x)) S := by
  refine fr_ret (η := [some x, some (.str [48, 49, 50]), none]) (b := b_is_text_of) (nv := 3) (S' := []) rfl rfl (by show (x.pure && true) = true; rw [h.pure] <;> rfl) rfl ?_ rfl
  refine sRet_ok ?_
  cases h with
  | str s hs =>
    exact mAnd_tE (x := .bl true) (S1 := []) rfl rfl (mBi_ok (maCons_ok (comp_gen (u := fun c => W.str [c]) (v := fun c => W.bl (isDg c)) (l := s) rfl (fun c hc => ⟨_, rfl, rfl, mBin_ok (S1 := []) (mVar_ok rfl) (mVar_ok rfl) (in_dg c)⟩) (by unfold bigLine; omega)) maNil_ok) (all_map isDg s))
  | _ => exact mAnd_fE (x := .bl false) (S1 := []) rfl rfl
theorem card_ok {x : W} {m : Nat} (h : Nv x) : fns T (d + 2) 4 [.int m, x] S = .ok (.bl (isCd m x)) S := by
  refine fr_ret (η := [some (.int m), some x]) (b := b_is_card_of) (nv := 2) (S' := []) rfl rfl (by show (true && (x.pure && true)) = true; rw [h.pure] <;> rfl) rfl ?_ rfl
  refine sRet_ok ?_
  have c1 := text_ok (d := d) (S := []) h
  have c0 : (mCall (fns T (d + 1)) 2 (maCons (mVar 1) (maCons (mC (.str [48, 49, 50])) maNil))) [some (.int m), some x] [] = .ok (.bl (isTx x)) [] := by walk_at "mev"
  cases h with
  | str s hs =>
    have c2 : fns T (d + 1) 2 [.str s, .str [48, 49, 50]] [] = .ok (.bl (s.all isDg)) [] := c1
    show _ = R.ok (W.bl (s.all isDg && decide (s.length = m))) []
    cases e : s.all isDg with
    | false =>
      rw [e] at c2
      exact mAnd_fE (x := .bl false) (by walk_at "mev") rfl
    | true =>
      rw [e] at c2
      exact mAnd_tE (x := .bl true) (by walk_at "mev") rfl (mBin_ok (mBi_ok (maCons_ok (mVar_ok rfl) maNil_ok) rfl) (mVar_ok rfl) eq_len)
  | _ => exact mAnd_fE c0 rfl
theorem anycard_ok {x : W} (h : Nv x) : fns T (d + 4) 5 [x] S = .ok (.bl (isTx x && isBt 1 4 (.int (sOf x).length))) S := by
  refine fr_ret (η := [some x]) (b := b_is_any_card) (nv := 1) (S' := []) rfl rfl (by show (x.pure && true) = true; rw [h.pure] <;> rfl) rfl ?_ rfl
  refine sRet_ok ?_
  have c1 := text_ok (d := d + 2) (S := []) h
  have c0 : (mCall (fns T (d + 3)) 2 (maCons (mVar 0) (maCons (mC (.str [48, 49, 50])) maNil))) [some x] [] = .ok (.bl (isTx x)) [] := by walk_at "mev"
  cases h with
  | str s hs =>
    have c2 : fns T (d + 3) 2 [.str s, .str [48, 49, 50]] [] = .ok (.bl (s.all isDg)) [] := c1
    have c3 : fns T (d + 3) 3 [.int s.length] [] = .ok (.bl (isBt 1 4 (.int s.length))) [] := by
      refine fr_ret (η := [some (.int s.length)]) (b := b_is_mark_number) (nv := 1) (S' := []) rfl rfl rfl rfl ?_ rfl
      have := btw_ok (d := d) (x := .int s.length) (lo := 1) (hi := 4) (S := []) (.int _)
      exact sRet_ok (by walk_at "mev")
    show _ = R.ok (W.bl (s.all isDg && isBt 1 4 (.int s.length))) []
    cases e : s.all isDg with
    | false =>
      rw [e] at c2
      exact mAnd_fE (x := .bl false) (by walk_at "mev") rfl
    | true =>
      rw [e] at c2
      have el : baLen [.str s] [] = some (.int s.length) := rfl
      exact mAnd_tE (x := .bl true) (by walk_at "mev") rfl (by rw [Bool.true_and]; walk_at "mev")
  | _ => exact mAnd_fE c0 rfl
theorem mark_ok {x : W} (h : Nv x) : fns T (d + 3) 3 [x] S = .ok (.bl (isBt 1 4 x)) S := by
  refine fr_ret (η := [some x]) (b := b_is_mark_number) (nv := 1) (S' := []) rfl rfl (by show (x.pure && true) = true; rw [h.pure] <;> rfl) rfl ?_ rfl
  have := btw_ok (d := d) (lo := 1) (hi := 4) (S := []) h
  exact sRet_ok (by walk_at "mev")
theorem cut_tl {α : Type} (f : List α) : cutW f (some 1) none = f.tail := by
  cases f with
  | nil => rfl
  | cons x r =>
    show ((x :: r).drop (min 1 (r.length + 1))).take ((r.length + 1) - min 1 (r.length + 1)) = r
    rw [Nat.min_eq_left (by omega)]
    exact List.take_of_length_le (by simp)
end
end Lw
namespace Lw
open Mp C63
/-! decks, thirds -/
theorem comp_flt {it : MI} {own : List Nat} {g : MG} {t : MT} {e : ME} {η : Env} {S : Store} {α : Type} {u v : α → W} {P : α → Bool} {l : List α} (hi : it η S = .ok (l.map u) S) (h : ∀ i, i ∈ l → ∃ η1, g (u i) (wipeE η own) S = some (η1, S) ∧ t η1 S = .ok (P i) S ∧ (P i = true → e η1 S = .ok (v i) S)) (hl : l.length ≤ bigLine) : mComp it own g t e η S = .ok (.lst ((l.filter P).map v)) S := by
  unfold mComp
  rw [hi]
  show (noexc (compL g t e (wipeE η own) (l.map u) S [])).bind (fun ws S2 => R.ok (W.lst ws) S2) = _
  have key : ∀ (xs : List α) (acc : List W), (∀ i, i ∈ xs → ∃ η1, g (u i) (wipeE η own) S = some (η1, S) ∧ t η1 S = .ok (P i) S ∧ (P i = true → e η1 S = .ok (v i) S)) → acc.length + xs.length ≤ bigLine → compL g t e (wipeE η own) (xs.map u) S acc = .ok (acc ++ (xs.filter P).map v) S := by
    intro xs
    induction xs with
    | nil =>
      intro acc _ _
      show R.ok acc S = _
      rw [List.filter_nil, List.map_nil, List.append_nil]
    | cons x r ih =>
      intro acc h hl
      rw [List.length_cons] at hl
      obtain ⟨η1, h1, h2, h3⟩ := h x (List.mem_cons_self ..)
      have h' : ∀ i, i ∈ r → ∃ η1, g (u i) (wipeE η own) S = some (η1, S) ∧ t η1 S = .ok (P i) S ∧ (P i = true → e η1 S = .ok (v i) S) := fun y hy => h y (List.mem_cons_of_mem _ hy)
      rw [List.map_cons]
      unfold compL
      cases hp : P x with
      | true =>
        rw [hp] at h2
        simp only [h1, h2, h3 hp, R.bind]
        rw [if_pos True.intro]
        unfold sized
        rw [if_pos (by omega), ih (acc ++ [v x]) h' (by rw [List.length_append, List.length_singleton]; omega), List.append_assoc, List.filter_cons, if_pos hp] <;> rfl
      | false =>
        rw [hp] at h2
        simp only [h1, h2, R.bind]
        rw [if_neg (by decide), ih acc h' (by omega), List.filter_cons, if_neg (by rw [hp]; decide)]
  rw [key l [] h (by simpa using hl), List.nil_append] <;> rfl
def cardsD : Nat → List (List Nat)
  | 0 => [[]]
  | m + 1 => (cardsD m).flatMap fun t => [t ++ [48], t ++ [49], t ++ [50]]
theorem mem_cardsD : ∀ {m : Nat} {t : List Nat}, t ∈ cardsD m ↔ t.length = m ∧ t.all isDg = true
  | 0, t => by
    show t ∈ [[]] ↔ _
    rw [List.mem_singleton]
    constructor
    · rintro rfl
      exact ⟨rfl, rfl⟩
    · rintro ⟨h, _⟩
      exact List.eq_nil_of_length_eq_zero h
  | m + 1, t => by
    show t ∈ (cardsD m).flatMap _ ↔ _
    rw [List.mem_flatMap]
    constructor
    · rintro ⟨s, hs, ht⟩
      have q := mem_cardsD.mp hs
      simp only [List.mem_cons, List.not_mem_nil, or_false] at ht
      rcases ht with rfl | rfl | rfl <;> (refine ⟨by rw [List.length_append, q.1] <;> rfl, ?_⟩; rw [List.all_append, q.2] <;> rfl)
    · rintro ⟨hl, ha⟩
      have hne : t ≠ [] := fun z => by rw [z] at hl; cases hl
      obtain ⟨s, c, rfl⟩ : ∃ s c, t = s ++ [c] := ⟨t.dropLast, t.getLast hne, (List.dropLast_concat_getLast hne).symm⟩
      rw [List.all_append, Bool.and_eq_true] at ha
      rw [List.length_append, List.length_singleton] at hl
      refine ⟨s, mem_cardsD.mpr ⟨by omega, ha.1⟩, ?_⟩
      have hc : c ∈ [48, 49, 50] := by
        have z := ha.2
        rw [List.all_cons, Bool.and_eq_true] at z
        exact of_decide_eq_true z.1
      simp only [List.mem_cons, List.not_mem_nil, or_false] at hc ⊢
      rcases hc with rfl | rfl | rfl
      · exact .inl rfl
      · exact .inr (.inl rfl)
      · exact .inr (.inr rfl)
theorem cardsD_len : ∀ m, (cardsD m).length = 3 ^ m
  | 0 => rfl
  | m + 1 => by
    show ((cardsD m).flatMap _).length = _
    have e : ∀ l : List (List Nat), (l.flatMap fun t => [t ++ [48], t ++ [49], t ++ [50]]).length = 3 * l.length := by
      intro l
      induction l with
      | nil => rfl
      | cons a r ih =>
        rw [List.flatMap_cons, List.length_append, ih]
        simp only [List.length_cons, List.length_nil]
        omega
    rw [e, cardsD_len m, Nat.pow_succ, Nat.mul_comm]
theorem mem_deck {m : Nat} {s : List Nat} : s ∈ cardsD m ↔ Cd m s := mem_cardsD
theorem deck_len {m : Nat} (h : m ≤ 4) : (cardsD m).length ≤ 81 := by
  have : m = 0 ∨ m = 1 ∨ m = 2 ∨ m = 3 ∨ m = 4 := by omega
  rw [cardsD_len]
  rcases this with rfl | rfl | rfl | rfl | rfl <;> decide
def isDeck (r : R W) (D : List (List Nat)) : Bool := match r with
  | .ok (.lst xs) [] => (match strsOf xs with
    | some zs => decide (zs = D)
    | none => false)
  | _ => false
def isDeckT (r : R W) (D : List (List Nat)) : Bool := match r with
  | .ok (.tup xs) [] => (match strsOf xs with
    | some zs => decide (zs = D)
    | none => false)
  | _ => false
theorem isDeckT_ok {r : R W} {D : List (List Nat)} (h : isDeckT r D = true) : r = .ok (.tup (D.map .str)) [] := by
  unfold isDeckT at h
  split at h
  · split at h
    · rename_i xs zs e
      have e2 := of_decide_eq_true h
      subst e2
      rw [strsOf_inv e]
    · cases h
  · cases h
theorem strsOf_map : ∀ l : List (List Nat), strsOf (l.map W.str) = some l
  | [] => rfl
  | x :: r => by
    show (strsOf (r.map W.str)).map (x :: ·) = _
    rw [strsOf_map r] <;> rfl
theorem join_ok {g : ME} {η : Env} {S S' : Store} {L : List Nat} (h : g η S = .ok (.lst (L.map fun c => .str [c])) S') (hl : L.length ≤ 1000) : mJoin (mC (.str [])) g η S = .ok (.str L) S' := by
  unfold mJoin
  show ((g η S).bind fun y S2 => rOpt (opJoin (.str []) y S2) S2) = _
  rw [h]
  show rOpt (opJoin (.str []) (.lst (L.map fun c => .str [c])) S') S' = _
  have e1 : (L.map fun c => W.str [c]) = (L.map fun c => [c]).map W.str := by rw [List.map_map] <;> rfl
  have e2 : ∀ L : List Nat, joinW [] (L.map fun c => [c]) = L := fun L => by
    induction L with
    | nil => rfl
    | cons x r ih =>
      cases r with
      | nil => rfl
      | cons y s =>
        show [x] ++ [] ++ joinW [] ((y :: s).map fun c => [c]) = _
        rw [ih] <;> rfl
  have e3 : ∀ L : List Nat, ((L.map fun c => [c]).map (·.length)).sum = L.length := fun L => by
    induction L with
    | nil => rfl
    | cons x r ih =>
      rw [List.map_cons, List.map_cons, List.sum_cons, ih]
      simp only [List.length_cons, List.length_nil]
      omega
  show rOpt ((strsOf (L.map fun c => W.str [c])).bind (fun zs => if (zs.map (·.length)).sum + zs.length * ([] : List Nat).length ≤ bigLine then some (W.str (joinW [] zs)) else none)) S' = _
  rw [e1, strsOf_map]
  show rOpt (if ((L.map fun c => [c]).map (·.length)).sum + (L.map fun c => [c]).length * 0 ≤ bigLine then some (W.str (joinW [] (L.map fun c => [c]))) else none) S' = _
  rw [e3, e2, if_pos (by unfold bigLine; omega)] <;> rfl
theorem dig_val {c : Nat} (h : isDg c = true) : c = 48 ∨ c = 49 ∨ c = 50 := by
  have z := of_decide_eq_true h
  simp only [List.mem_cons, List.not_mem_nil, or_false] at z
  exact z
def dv (c : Nat) : Int := ((c - 48 : Nat) : Int)
def t3 (a b : Nat) : Nat := 48 + (6 - (a - 48) - (b - 48)) % 3
def thr (a b : List Nat) : List Nat := (a.zip b).map fun p => t3 p.1 p.2
theorem t3_dg (a b : Nat) : isDg (t3 a b) = true := by
  have : (6 - (a - 48) - (b - 48)) % 3 < 3 := Nat.mod_lt _ (by decide)
  unfold t3
  generalize (6 - (a - 48) - (b - 48)) % 3 = x at this ⊢
  have : x = 0 ∨ x = 1 ∨ x = 2 := by omega
  rcases this with rfl | rfl | rfl <;> rfl
theorem thr_cd {m : Nat} {a b : List Nat} (ha : Cd m a) (hb : Cd m b) : Cd m (thr a b) := by
  refine ⟨by unfold thr; rw [List.length_map, List.length_zip, ha.1, hb.1, Nat.min_self], ?_⟩
  unfold thr
  rw [List.all_map]
  exact List.all_eq_true.mpr fun p _ => t3_dg _ _
theorem t3_comm (a b : Nat) (ha : isDg a = true) (hb : isDg b = true) : t3 a b = t3 b a := by
  rcases dig_val ha with rfl | rfl | rfl <;> rcases dig_val hb with rfl | rfl | rfl <;> rfl
theorem t3_inv (a b : Nat) (ha : isDg a = true) (hb : isDg b = true) : t3 a (t3 a b) = b := by
  rcases dig_val ha with rfl | rfl | rfl <;> rcases dig_val hb with rfl | rfl | rfl <;> rfl
theorem thr_comm : ∀ {m : Nat} {a b : List Nat}, Cd m a → Cd m b → thr a b = thr b a
  | _, [], [], _, _ => rfl
  | _, [], _ :: _, _, _ => rfl
  | _, _ :: _, [], _, _ => rfl
  | 0, x :: a, y :: b, ha, _ => by cases ha.1
  | m + 1, x :: a, y :: b, ha, hb => by
    have h1 := ha.2
    have h2 := hb.2
    rw [List.all_cons, Bool.and_eq_true] at h1 h2
    have l1 : a.length + 1 = m + 1 := ha.1
    have l2 : b.length + 1 = m + 1 := hb.1
    show t3 x y :: thr a b = t3 y x :: thr b a
    rw [t3_comm x y h1.1 h2.1, thr_comm (m := m) ⟨by omega, h1.2⟩ ⟨by omega, h2.2⟩]
theorem thr_inv : ∀ {m : Nat} {a b : List Nat}, Cd m a → Cd m b → thr a (thr a b) = b
  | _, [], [], _, _ => rfl
  | 0, _, y :: b, _, hb => by cases hb.1
  | 0, x :: a, _, ha, _ => by cases ha.1
  | m + 1, [], _, ha, _ => by cases ha.1
  | m + 1, _ :: _, [], _, hb => by cases hb.1
  | m + 1, x :: a, y :: b, ha, hb => by
    have h1 := ha.2
    have h2 := hb.2
    rw [List.all_cons, Bool.and_eq_true] at h1 h2
    have l1 : a.length + 1 = m + 1 := ha.1
    have l2 : b.length + 1 = m + 1 := hb.1
    show t3 x (t3 x y) :: thr a (thr a b) = y :: b
    rw [t3_inv x y h1.1 h2.1, thr_inv (m := m) ⟨by omega, h1.2⟩ ⟨by omega, h2.2⟩]
theorem thr_self : ∀ {m : Nat} {a : List Nat}, Cd m a → thr a a = a
  | 0, [], _ => rfl
  | 0, x :: a, ha => by cases ha.1
  | m + 1, [], ha => by cases ha.1
  | m + 1, x :: a, ha => by
    have h1 := ha.2
    rw [List.all_cons, Bool.and_eq_true] at h1
    have l1 : a.length + 1 = m + 1 := ha.1
    show t3 x x :: thr a a = x :: a
    rw [thr_self (m := m) ⟨by omega, h1.2⟩]
    rcases dig_val h1.1 with rfl | rfl | rfl <;> rfl
/-- the third of two unlike cards is neither -/
theorem thr_ne {m : Nat} {a b : List Nat} (ha : Cd m a) (hb : Cd m b) (h : a ≠ b) : thr a b ≠ a ∧ thr a b ≠ b := by
  constructor
  · intro e
    have q := thr_inv ha hb
    rw [e, thr_self ha] at q
    exact h q
  · intro e
    have q := thr_inv hb ha
    rw [thr_comm hb ha, e, thr_self hb] at q
    exact h q.symm
end Lw
namespace Lw
open Mp C63
section
variable {d : Nat} {S : Store}
theorem pures_map' {α : Type} (f : α → W) (h : ∀ a, (f a).pure = true) : ∀ l : List α, pures (l.map f) = true
  | [] => rfl
  | x :: r => by
    show ((f x).pure && pures (r.map f)) = true
    rw [h x, pures_map' f h r] <;> rfl
theorem pairs_fg {α β : Type} (f : α → W) (g : β → W) (a : List α) (b : List β) : tupsW2 (a.map f) (b.map g) = (a.zip b).map fun p => W.tup [f p.1, g p.2] := by
  unfold tupsW2 pairsW
  rw [List.zip_map, List.map_map] <;> rfl
theorem idx012 {c : Nat} (h : isDg c = true) : omIndex012 (.str [48, 49, 50]) [.str [c]] S = some (.int (dv c), S) := by
  rcases dig_val h with rfl | rfl | rfl <;> rfl
theorem sorts_ok {s : List Nat} (h : s.all isDg = true) (hl : s.length ≤ 1000) : fns T (d + 1) 6 [.str s] S = .ok (.lst (s.map fun c => .int (dv c))) S := by
  refine fr_ret (η := [some (.str s), none]) (b := b_sorts_of) (nv := 2) (S' := []) rfl rfl rfl rfl ?_ (pures_map' _ (fun _ => rfl) _)
  unfold b_sorts_of
  exact sRet_ok (comp_gen (u := fun c => W.str [c]) (v := fun c => W.int (dv c)) (l := s) rfl (fun c hc => ⟨_, rfl, rfl, mMeth_ok (S1 := []) mC_ok rfl (maCons_ok (mVar_ok rfl) maNil_ok) (idx012 (List.all_eq_true.mp h c hc))⟩) (by unfold bigLine; omega))
theorem ix012 {x : Int} (h0 : 0 ≤ x) (h3 : x < 3) : opIx (.str [48, 49, 50]) (.int x) S = some (.str [48 + x.toNat]) := by
  have : x = 0 ∨ x = 1 ∨ x = 2 := by omega
  rcases this with rfl | rfl | rfl <;> rfl
theorem cos_ok {α : Type} {f : α → Int} {L : List α} (hl : L.length ≤ 1000) : fns T (d + 1) 7 [.lst (L.map fun a => .int (f a))] S = .ok (.str (L.map fun a => 48 + (f a % 3).toNat)) S := by
  refine fr_ret (η := [some (.lst (L.map fun a => .int (f a))), none]) (b := b_card_of_sorts) (nv := 2) (S' := []) rfl rfl (by show (pures (L.map fun a => W.int (f a)) && true) = true; rw [pures_map' _ fun _ => rfl] <;> rfl) rfl ?_ rfl
  unfold b_card_of_sorts
  refine sRet_ok (join_ok (L := L.map fun a => 48 + (f a % 3).toNat) ?_ (by rw [List.length_map]; exact hl))
  rw [List.map_map]
  have e3 : ∀ {η : Env} {S : Store}, (mBi baLen (maCons (mC (.str [48, 49, 50])) (maNil))) η S = .ok (.int 3) S := fun {η S} => rfl
  exact comp_gen (u := fun a => W.int (f a)) (v := fun a => W.str [48 + (f a % 3).toNat]) (l := L) rfl (fun a ha => ⟨_, rfl, rfl, mBin_ok mC_ok (mBin_ok (mVar_ok rfl) e3 (opMod_ok (by decide))) (ix012 (Int.emod_nonneg _ (by decide)) (Int.emod_lt_of_pos _ (by decide)))⟩) (by unfold bigLine; omega)
theorem thr_num {c e : Nat} (hc : isDg c = true) (he : isDg e = true) : 48 + ((0 - dv c - dv e) % 3).toNat = t3 c e := by
  rcases dig_val hc with rfl | rfl | rfl <;> rcases dig_val he with rfl | rfl | rfl <;> rfl
theorem third_ok {m : Nat} {a b : List Nat} (hm : m ≤ 1000) (ha : Cd m a) (hb : Cd m b) : fns T (d + 2) 8 [.str a, .str b] S = .ok (.str (thr a b)) S := by
  refine fr_ret (η := [some (.str a), some (.str b), none, none]) (b := b_third_of) (nv := 4) (S' := []) rfl rfl rfl rfl ?_ rfl
  unfold b_third_of
  have s1 := sorts_ok (d := d) (S := []) ha.2 (by rw [ha.1]; exact hm)
  have s2 := sorts_ok (d := d) (S := []) hb.2 (by rw [hb.1]; exact hm)
  have ez : zipG2 [.lst (a.map fun c => .int (dv c)), .lst (b.map fun c => .int (dv c))] = some ((a.zip b).map fun p => W.tup [.int (dv p.1), .int (dv p.2)]) := by
    show some (tupsW2 _ _) = _
    rw [pairs_fg]
  have ec := comp_gen (S := []) (it := miAll zipG2 (maCons (mCall (fns T (d + 1)) 6 (maCons (mVar 0) (maNil))) (maCons (mCall (fns T (d + 1)) 6 (maCons (mVar 1) (maNil))) (maNil)))) (own := [2, 3]) (g := gTupW (gsCons (gVar 2) (gsCons (gVar 3) (gsNil)))) (t := mtYes) (e := mBin opSub (mBin opSub (mC (.int 0)) (mVar 2)) (mVar 3)) (η := [some (.str a), some (.str b), none, none]) (u := fun p : Nat × Nat => W.tup [.int (dv p.1), .int (dv p.2)]) (v := fun p => W.int (0 - dv p.1 - dv p.2)) (l := a.zip b) (by walk_at "mev") (fun p hp => ⟨_, rfl, rfl, mBin_ok (mBin_ok mC_ok (mVar_ok rfl) rfl) (mVar_ok rfl) rfl⟩) (by rw [List.length_zip, ha.1, hb.1]; unfold bigLine; omega)
  have ek := cos_ok (d := d) (S := []) (f := fun p : Nat × Nat => 0 - dv p.1 - dv p.2) (L := a.zip b) (by rw [List.length_zip, ha.1, hb.1]; omega)
  have et : ((a.zip b).map fun p => 48 + ((0 - dv p.1 - dv p.2) % 3).toNat) = thr a b := List.map_congr_left fun p hp => by
    have z := List.of_mem_zip (a := p.1) (b := p.2) hp
    exact thr_num (List.all_eq_true.mp ha.2 _ z.1) (List.all_eq_true.mp hb.2 _ z.2)
  rw [et] at ek
  exact sRet_ok (mCall_ok (maCons_ok ec maNil_ok) ek)
theorem int_dg {c : Nat} (h : isDg c = true) : baInt [.str [c]] S = some (.int (dv c)) := by
  rcases dig_val h with z | z | z <;> rw [z] <;> rfl
theorem ix_chr {s : List Nat} {i : Nat} (h : i < s.length) : opIx (.str s) (.int i) S = some (.str [s[i]]) := by
  show ((ixW s.length i).bind fun j => s[j]?.map fun c => W.str [c]) = _
  unfold ixW
  rw [if_pos (by omega), if_pos (by omega)]
  show s[((i : Int)).toNat]?.map _ = _
  rw [Int.toNat_natCast, List.getElem?_eq_getElem h] <;> rfl
theorem thr_num6 {c e : Nat} (hc : isDg c = true) (he : isDg e = true) : 48 + ((6 - dv c - dv e) % 3).toNat = t3 c e := by
  rcases dig_val hc with rfl | rfl | rfl <;> rcases dig_val he with rfl | rfl | rfl <;> rfl
theorem lthird_ok {m : Nat} {a b : List Nat} (hm : m ≤ 1000) (ha : Cd m a) (hb : Cd m b) : fns T (d + 1) 25 [.str a, .str b] S = .ok (.str (thr a b)) S := by
  refine fr_ret (η := [some (.str a), some (.str b), none]) (b := b_law_third) (nv := 3) (S' := []) rfl rfl rfl rfl ?_ rfl
  unfold b_law_third
  refine sRet_ok (join_ok (L := thr a b) ?_ (by rw [(thr_cd ha hb).1]; exact hm))
  have el : (thr a b).map (fun c => W.str [c]) = (List.range m).map fun i => W.str [48 + ((6 - dv (a.getD i 48) - dv (b.getD i 48)) % 3).toNat] := by
    refine List.ext_getElem (by rw [List.length_map, (thr_cd ha hb).1, List.length_map, List.length_range]) fun i h1 h2 => ?_
    rw [List.length_map, (thr_cd ha hb).1] at h1
    have q1 : i < a.length := by rw [ha.1]; exact h1
    have q2 : i < b.length := by rw [hb.1]; exact h1
    rw [List.getElem_map, List.getElem_map, List.getElem_range]
    unfold thr
    rw [List.getElem_map, List.getElem_zip, List.getD_eq_getElem?_getD, List.getElem?_eq_getElem q1, List.getD_eq_getElem?_getD, List.getElem?_eq_getElem q2]
    show W.str [t3 a[i] b[i]] = W.str [48 + ((6 - dv a[i] - dv b[i]) % 3).toNat]
    rw [thr_num6 (List.all_eq_true.mp ha.2 _ (List.getElem_mem q1)) (List.all_eq_true.mp hb.2 _ (List.getElem_mem q2))]
  rw [el]
  have eR : rng1 [.int a.length] = some ((List.range m).map fun (i : Nat) => W.int i) := by rw [ha.1]; exact rng1_ev (by omega)
  have e0 : baLen [.str a] ([] : Store) = some (.int a.length) := rfl
  refine comp_gen (u := fun i : Nat => W.int i) (v := fun i => W.str [48 + ((6 - dv (a.getD i 48) - dv (b.getD i 48)) % 3).toNat]) (l := List.range m) (by walk_at "mev") (fun i hi => ?_) (by rw [List.length_range]; unfold bigLine; omega)
  have hi := List.mem_range.mp hi
  have q1 : i < a.length := by rw [ha.1]; exact hi
  have q2 : i < b.length := by rw [hb.1]; exact hi
  have w1 : a.getD i 48 = a[i] := by rw [List.getD_eq_getElem?_getD, List.getElem?_eq_getElem q1] <;> rfl
  have w2 : b.getD i 48 = b[i] := by rw [List.getD_eq_getElem?_getD, List.getElem?_eq_getElem q2] <;> rfl
  rw [w1, w2]
  have o1 := ix_chr (S := []) q1
  have o2 := ix_chr (S := []) q2
  have n1 := int_dg (S := []) (List.all_eq_true.mp ha.2 _ (List.getElem_mem q1))
  have n2 := int_dg (S := []) (List.all_eq_true.mp hb.2 _ (List.getElem_mem q2))
  have r1 := ix012 (S := []) (x := (6 - dv a[i] - dv b[i]) % 3) (Int.emod_nonneg _ (by decide)) (Int.emod_lt_of_pos _ (by decide))
  refine ⟨_, rfl, rfl, mBin_ok mC_ok (mBin_ok (mBi_ok (maCons_ok (mBin_ok (mBin_ok mC_ok (mBi_ok (maCons_ok (mBin_ok (mVar_ok rfl) (mVar_ok rfl) o1) maNil_ok) n1) rfl) (mBi_ok (maCons_ok (mBin_ok (mVar_ok rfl) (mVar_ok rfl) o2) maNil_ok) n2) rfl) maNil_ok) rfl) mC_ok (opMod_ok (by decide))) r1⟩
end
end Lw
namespace Lw
open Mp C63
/-! pairs, lots, the cards that complete -/
def P2 {α : Type} : List α → List (α × α)
  | [] => []
  | x :: r => r.map (fun y => (x, y)) ++ P2 r
/-! dicts of texts -/
def addS : List (List Nat) → List (List Nat) → List (List Nat)
  | acc, [] => acc
  | acc, x :: r => addS (if x ∈ acc then acc else acc ++ [x]) r
def dW (l : List (List Nat)) : W := .dct (.bl false :: l.map .str) (l.map fun _ => .bl true)
/-! the program -/
def lotW (p : List Nat × List Nat) : W := .tup [.str p.1, .str p.2, .str (thr p.1 p.2)]
def lotP (h : List (List Nat)) : List (List Nat × List Nat) := (P2 h).filter fun p => decide (p.2 < thr p.1 p.2) && decide (thr p.1 p.2 ∈ h)
def compl (m : Nat) (h : List (List Nat)) : List (List Nat) := ((cardsD m).filter fun c => !decide (c ∈ h)).filter fun c => decide (c ∈ addS [] ((P2 h).map fun p => thr p.1 p.2))
section
variable {d m : Nat} {h : List (List Nat)} {S : Store}
theorem okDs_f {α : Type} (k : Nat) (f : α → W) (h : ∀ a, okD (f a) k = true) : ∀ l : List α, okDs (l.map f) k = true
  | [] => rfl
  | x :: r => by
    show (okD (f x) k && okDs (r.map f) k) = true
    rw [h x, okDs_f k f h r] <;> rfl
theorem eq_nilL {α : Type} (f : α → W) (hf : ∀ a, okD (f a) 29 = true) (l : List α) {S : Store} : opEq (.lst (l.map f)) (.lst []) S = some (.bl (decide (l = []))) := by
  have e1 : okD (.lst (l.map f)) 30 = true := by
    show (decide (0 < 30) && okDs (l.map f) 29) = true
    rw [okDs_f 29 f hf l] <;> rfl
  show (if okD (.lst (l.map f)) 30 = true ∧ okD (.lst []) 30 = true then some (W.bl (eqW (.lst (l.map f)) (.lst []))) else none) = _
  rw [if_pos ⟨e1, rfl⟩]
  cases l <;> rfl
end
end Lw
namespace Lw
open Mp C63
/-! plain values by depth; the law's own looks -/
inductive Nz : Nat → W → Prop
  | non {k : Nat} : Nz k .non
  | bl {k : Nat} (b : Bool) : Nz k (.bl b)
  | int {k : Nat} (i : Int) : Nz k (.int i)
  | str {k : Nat} (s : List Nat) : s.length ≤ 1000 → Nz k (.str s)
  | tup {k : Nat} (xs : List W) : (∀ x ∈ xs, Nz k x) → xs.length ≤ 1000 → Nz (k + 1) (.tup xs)
  | lst {k : Nat} (xs : List W) : (∀ x ∈ xs, Nz k x) → xs.length ≤ 1000 → Nz (k + 1) (.lst xs)
theorem Nz.up {k : Nat} {w : W} (h : Nz k w) : ∀ j, k ≤ j → Nz j w := by
  induction h with
  | non => exact fun _ _ => .non
  | bl b => exact fun _ _ => .bl b
  | int i => exact fun _ _ => .int i
  | str s h => exact fun _ _ => .str s h
  | tup xs _ l ih =>
    intro j hj
    obtain ⟨j, rfl⟩ : ∃ i, j = i + 1 := ⟨j - 1, by omega⟩
    exact .tup xs (fun x hx => ih x hx j (by omega)) l
  | lst xs _ l ih =>
    intro j hj
    obtain ⟨j, rfl⟩ : ∃ i, j = i + 1 := ⟨j - 1, by omega⟩
    exact .lst xs (fun x hx => ih x hx j (by omega)) l
theorem Nz.nv {k : Nat} {w : W} (h : Nz k w) : Nv w := by
  induction h with
  | non => exact .non
  | bl b => exact .bl b
  | int i => exact .int i
  | str s h => exact .str s h
  | tup xs _ l ih => exact .tup xs ih l
  | lst xs _ l ih => exact .lst xs ih l
theorem okDs_all {k : Nat} : ∀ {xs : List W}, (∀ x ∈ xs, okD x k = true) → okDs xs k = true
  | [], _ => rfl
  | x :: r, h => by
    show (okD x k && okDs r k) = true
    rw [h x (List.mem_cons_self ..), okDs_all fun y hy => h y (List.mem_cons_of_mem _ hy)] <;> rfl
theorem Nz.okD {k : Nat} {w : W} (h : Nz k w) : ∀ j, k ≤ j → Mp.okD w j = true := by
  induction h with
  | tup xs _ l ih =>
    intro j hj
    show (decide (0 < j) && okDs xs (j - 1)) = true
    rw [decide_eq_true (by omega), okDs_all fun x hx => ih x hx (j - 1) (by omega)] <;> rfl
  | lst xs _ l ih =>
    intro j hj
    show (decide (0 < j) && okDs xs (j - 1)) = true
    rw [decide_eq_true (by omega), okDs_all fun x hx => ih x hx (j - 1) (by omega)] <;> rfl
  | _ => exact fun _ _ => rfl
def Vw (w : W) : Prop := Nz 6 w ∨ w = .dct [.bl false] [] ∨ ∃ k i, w = .dct [.bl false, .str k] [.int i]
theorem Vw.nv {w : W} (h : Vw w) : Nv w := by
  rcases h with h | rfl | ⟨k, i, rfl⟩
  · exact h.nv
  · exact .dct _ _ rfl rfl
  · exact .dct _ _ rfl rfl
theorem atW_get {xs : List W} {a : Nat} (h : a < xs.length) : atW xs (a : Int) = some xs[a] := by
  unfold atW ixW
  rw [if_pos (by omega), if_pos (by omega)]
  show xs[((a : Int)).toNat]? = _
  rw [Int.toNat_natCast, List.getElem?_eq_getElem h]
theorem all_trues {S : Store} {α : Type} (l : List α) : baAll [.lst (l.map fun _ => W.bl true)] S = some (.bl true) := by
  rw [all_map (fun _ => true) l, List.all_eq_true.mpr fun _ _ => rfl]
theorem enumL_rng : ∀ (xs : List W) (s : Nat), enumL (s : Int) xs = (List.range xs.length).map fun i => W.tup [.int ((s + i : Nat) : Int), xs.getD i .non]
  | [], s => rfl
  | x :: r, s => by
    show W.tup [.int s, x] :: enumL ((s : Int) + 1) r = _
    rw [show ((s : Int) + 1) = ((s + 1 : Nat) : Int) by omega, enumL_rng r (s + 1), List.length_cons, List.range_succ_eq_map, List.map_cons, List.map_map]
    have q : ((List.range r.length).map fun i => W.tup [.int ((s + 1 + i : Nat) : Int), r.getD i .non]) = (List.range r.length).map fun i => W.tup [.int ((s + (i + 1) : Nat) : Int), r.getD i .non] := List.map_congr_left fun i _ => by rw [show s + 1 + i = s + (i + 1) by omega]
    rw [q] <;> rfl
section
variable {d m : Nat} {S : Store}
theorem is_tup {xs : List W} (hl : xs.length ≤ 1000) (hp : pures xs = true) (h : ∀ x ∈ xs, ∀ S, fns T (d + 1) 23 [x, x] S = .ok (.bl true) S) : fns T (d + 2) 23 [.tup xs, .tup xs] S = .ok (.bl true) S := by
  refine fr_ret (η := [some (.tup xs), some (.tup xs), none, none]) (b := b_law_is) (nv := 4) (S' := []) rfl rfl (by show (pures xs && (pures xs && true)) = true; rw [hp] <;> rfl) rfl ?_ rfl
  have hc : (mBi baAll (maCons (mComp (miAll enumW2 (maCons (mVar 1) (maNil))) [2, 3] (gTupW (gsCons (gVar 2) (gsCons (gVar 3) (gsNil)))) (mtYes) (mCall (fns T (d + 1)) 23 (maCons (mBin opIx (mVar 0) (mVar 2)) (maCons (mVar 3) (maNil))))) (maNil))) [some (.tup xs), some (.tup xs), none, none] [] = .ok (.bl true) [] := by
    have ee : enumW2 [.tup xs] = some ((List.range xs.length).map fun i => W.tup [.int ((0 + i : Nat) : Int), xs.getD i .non]) := by
      show some (enumL ((0 : Nat) : Int) xs) = _
      rw [enumL_rng]
    refine mBi_ok (maCons_ok (comp_gen (u := fun i : Nat => W.tup [.int ((0 + i : Nat) : Int), xs.getD i .non]) (v := fun _ => .bl true) (l := List.range xs.length) (by walk_at "mev") (fun i hi => ?_) (by rw [List.length_range]; unfold bigLine; omega)) maNil_ok) (all_trues _)
    have hi := List.mem_range.mp hi
    have ix := atW_get (xs := xs) hi
    have eg : xs.getD i .non = xs[i] := by rw [List.getD_eq_getElem?_getD, List.getElem?_eq_getElem hi] <;> rfl
    rw [eg, Nat.zero_add]
    exact ⟨_, rfl, rfl, mCall_ok (maCons_ok (mBin_ok (mVar_ok rfl) (mVar_ok rfl) ix) (maCons_ok (mVar_ok rfl) maNil_ok)) (h _ (List.getElem_mem hi) [])⟩
  have t0 : (mTOr (mTNot (mTru (mUn (opIsi 4) (mVar 0)))) (mTCmp opNe (mBi baLen (maCons (mVar 0) (maNil))) (mBi baLen (maCons (mVar 1) (maNil))))) [some (.tup xs), some (.tup xs), none, none] [] = .ok false [] := by
    refine mTOr_fE (S1 := []) rfl (mTCmp_ok (S1 := []) (x := .int xs.length) (y := .int xs.length) rfl rfl ?_)
    show some (W.bl (!((xs.length : Int) == (xs.length : Int)))) = _
    rw [beq_self_eq_true] <;> rfl
  exact sSeq_rE (sIf_tE (S1 := []) rfl (sSeq_nE (sIf_fE t0 sNx_ev) (sRet_ok hc)))
theorem is_lst {xs : List W} (hp : pures xs = true) (h : ∀ S, fns T (d + 1) 23 [.tup xs, .tup xs] S = .ok (.bl true) S) : fns T (d + 2) 23 [.lst xs, .lst xs] S = .ok (.bl true) S := by
  refine fr_ret (η := [some (.lst xs), some (.lst xs), none, none]) (b := b_law_is) (nv := 4) (S' := []) rfl rfl (by show (pures xs && (pures xs && true)) = true; rw [hp] <;> rfl) rfl ?_ rfl
  refine sSeq_nE (S1 := []) (η1 := [some (.lst xs), some (.lst xs), none, none]) rfl (sSeq_rE (sIf_tE (S1 := []) rfl (sRet_ok (mAnd_tE (x := .bl true) (S1 := []) rfl rfl (mCall_ok (maCons_ok (S1 := []) (x := .tup xs) rfl (maCons_ok (S1 := []) (x := .tup xs) rfl maNil_ok)) (h []))))))
theorem is_base {w : W} (h : Nz 0 w) : fns T (d + 1) 23 [w, w] S = .ok (.bl true) S := by
  refine fr_ret (η := [some w, some w, none, none]) (b := b_law_is) (nv := 4) (S' := []) rfl rfl (by show (w.pure && (w.pure && true)) = true; rw [h.nv.pure] <;> rfl) rfl ?_ rfl
  cases h with
  | non => rfl
  | bl b => cases b <;> rfl
  | int i =>
    have z : b_law_is (fns T d) [some (.int i), some (.int i), none, none] [] = .ret (.bl (i == i)) [] := rfl
    rw [z, beq_self_eq_true]
  | str s =>
    have z : b_law_is (fns T d) [some (.str s), some (.str s), none, none] [] = .ret (.bl (s == s)) [] := rfl
    rw [z, beq_self_eq_true]
theorem Nz.pures {k : Nat} {xs : List W} (h : ∀ x ∈ xs, Nz k x) : Mp.pures xs = true := pures_of fun x hx => (h x hx).nv.pure
theorem is_refl : ∀ (k : Nat) {w : W}, Nz k w → ∀ (d : Nat) (S : Store), fns T (d + (2 * k + 1)) 23 [w, w] S = .ok (.bl true) S
  | 0, w, h, d, S => is_base h
  | k + 1, w, h, d, S => by
    have ih : ∀ {w : W}, Nz k w → ∀ (d : Nat) (S : Store), fns T (d + (2 * k + 1)) 23 [w, w] S = .ok (.bl true) S := fun hw => is_refl k hw
    have e : d + (2 * (k + 1) + 1) = (d + (2 * k + 1)) + 2 := by omega
    rw [e]
    cases h with
    | non => exact is_base .non
    | bl b => exact is_base (.bl b)
    | int i => exact is_base (.int i)
    | str s h => exact is_base (.str s h)
    | tup xs hx hl =>
      exact is_tup hl (Nz.pures hx) fun x hx' S => by
        have := ih (hx x hx') (d + 1) S
        rw [show d + 1 + (2 * k + 1) = d + (2 * k + 1) + 1 by omega] at this
        exact this
    | lst xs hx hl =>
      exact is_lst (Nz.pures hx) fun S => by
        have : fns T (d + 2 * k + 2) 23 [.tup xs, .tup xs] S = .ok (.bl true) S := is_tup hl (Nz.pures hx) fun x hx' S => by
          have := ih (hx x hx') d S
          rw [show d + (2 * k + 1) = d + 2 * k + 1 by omega] at this
          exact this
        rw [show d + (2 * k + 1) + 1 = d + 2 * k + 2 by omega]
        exact this
theorem is_at {k D : Nat} {w : W} (h : Nz k w) (hd : 2 * k + 1 ≤ D) (S : Store) : fns T D 23 [w, w] S = .ok (.bl true) S := by
  obtain ⟨d, rfl⟩ : ∃ d, D = d + (2 * k + 1) := ⟨D - (2 * k + 1), by omega⟩
  exact is_refl k h d S
theorem ne_nilW {xs : List W} (h : okDs xs 29 = true) {S : Store} : opNe (.lst xs) (.lst []) S = some (.bl (!decide (xs = []))) := by
  have e1 : okD (.lst xs) 30 = true := by
    show (decide (0 < 30) && okDs xs 29) = true
    rw [h] <;> rfl
  show (if okD (.lst xs) 30 = true ∧ okD (.lst []) 30 = true then some (W.bl (!eqW (.lst xs) (.lst []))) else none) = _
  rw [if_pos ⟨e1, rfl⟩]
  cases xs <;> rfl
end
end Lw
namespace Lw
open Mp C63
/-! what is refused -/
theorem fr_exc {T : List Fun} {d k np nv c : Nat} {b : Fns → MS} {ws : List W} {η η' : Env} {S S' : Store} {x : W} (h : T[k]? = some ⟨np, nv, false, true, b⟩) (hl : ws.length = np) (hp : pures ws = true) (hη : ws.map some ++ List.replicate (nv - np) none = η) (e : b (fns T d) η [] = .exc c x η' S') (px : x.pure = true) : fns T (d + 1) k ws S = .exc c x S := by
  rw [fns_fr h hl hp rfl]
  show R.frame S (finS false 0 (b (fns T d) (ws.map some ++ List.replicate (nv - np) none) [])) = _
  rw [hη, e]
  show R.frame S (if x.pure = true then R.exc c x (S'.take 0) else R.stuck) = _
  rw [if_pos px]
  exact if_pos px
theorem fr_excS {T : List Fun} {d k np nv c : Nat} {b : Fns → MS} {ws : List W} {η : Env} {S S' : Store} {x : W} (h : T[k]? = some ⟨np, nv, false, true, b⟩) (hl : ws.length = np) (hp : pures ws = true) (hη : ws.map some ++ List.replicate (nv - np) none = η) (e : b (fns T d) η [] = .exc c x η S') (px : x.pure = true) : fns T (d + 1) k ws S = .exc c x S := fr_exc h hl hp hη e px
theorem fr_nonS {T : List Fun} {d k np nv : Nat} {b : Fns → MS} {ws : List W} {η : Env} {S S' : Store} (h : T[k]? = some ⟨np, nv, false, true, b⟩) (hl : ws.length = np) (hp : pures ws = true) (hη : ws.map some ++ List.replicate (nv - np) none = η) (e : b (fns T d) η [] = .nx η S') : fns T (d + 1) k ws S = .ok .non S := fr_non h hl hp hη e
theorem mCall_exc {φ : Fns} {f c : Nat} {g : MA} {η : Env} {S S1 S2 : Store} {ws : List W} {x : W} (hg : g η S = .ok ws S1) (h : φ f ws S1 = .exc c x S2) : mCall φ f g η S = .exc c x S2 := by
  unfold mCall
  rw [hg]
  exact h
theorem sDrop_exc {c : Nat} {f : ME} {η : Env} {S S1 : Store} {x : W} (h : f η S = .exc c x S1) : sDrop f η S = .exc c x η S1 := by
  unfold sDrop
  rw [h] <;> rfl
theorem sSeq_exc {c : Nat} {f g : MS} {η η1 : Env} {S S1 : Store} {x : W} (h : f η S = .exc c x η1 S1) : sSeq f g η S = .exc c x η1 S1 := by
  unfold sSeq
  rw [h] <;> rfl
theorem sRaise_ev {c : Nat} {f : ME} {η : Env} {S S1 : Store} {w : W} (h : f η S = .ok w S1) : sRaise c f η S = .exc c w η S1 := by
  unfold sRaise
  rw [h] <;> rfl
section
variable {d m : Nat} {S : Store}
theorem ckm_ok {x : W} (h : Nv x) (k : isBt 1 4 x = true) : fns T (d + 4) 9 [x] S = .ok .non S := by
  refine fr_nonS (η := [some x]) (b := b_check_marks) (nv := 1) (S' := []) rfl rfl (by show (x.pure && true) = true; rw [h.pure] <;> rfl) rfl ?_
  have q := mark_ok (d := d) (S := []) h
  rw [k] at q
  exact sIf_fE (mTNot_tt (mCall_ok (maCons_ok (mVar_ok rfl) maNil_ok) q)) sNx_ev
theorem bt_m (h1 : 1 ≤ m) (h4 : m ≤ 4) : isBt 1 4 (.int m) = true := by
  show (decide ((1 : Int) ≤ m) && decide ((m : Int) ≤ 4)) = true
  rw [decide_eq_true (by omega), decide_eq_true (by omega)] <;> rfl
/-- what a hand is, for the calls -/
structure Hn (m : Nat) (h : List (List Nat)) : Prop where
  m1 : 1 ≤ m
  m4 : m ≤ 4
  hd : Hd m h
  len : h.length ≤ 22
theorem Hn.nv {h : List (List Nat)} (k : Hn m h) : Nv (hW h) := k.hd.nv (by have := k.m4; omega) (by have := k.len; omega)
theorem Hn.is {h : List (List Nat)} (k : Hn m h) : isHd m (hW h) = true := isHd_iff.mpr ⟨h, rfl, k.hd⟩
def wFree : List Nat := [102, 114, 101, 101]
def wHolds : List Nat := [104, 111, 108, 100, 115]
def claimW (z : List Nat) (m : Nat) (h : List (List Nat)) : W := .tup [.str z, .int m, hW h]
def certW (m : Nat) (h : List (List Nat)) : W := match lotP h with
  | [] => .tup [claimW wFree m h, .tup []]
  | p :: _ => .tup [claimW wHolds m h, lotW p]
theorem anyc_cd {s : List Nat} (h1 : 1 ≤ m) (h4 : m ≤ 4) (h : Cd m s) : fns T (d + 4) 5 [.str s] S = .ok (.bl true) S := by
  have q := anycard_ok (d := d) (S := S) (x := .str s) (.str _ (by have := h.1; omega))
  have e : (isTx (.str s) && isBt 1 4 (.int (sOf (.str s)).length)) = true := by
    show (s.all isDg && isBt 1 4 (.int (s.length : Nat))) = true
    rw [h.2, h.1, bt_m h1 h4] <;> rfl
  rw [e] at q
  exact q
theorem pthird_ok {a b : List Nat} (h1 : 1 ≤ m) (h4 : m ≤ 4) (ha : Cd m a) (hb : Cd m b) : fns T (d + 7) 16 [.str a, .str b] S = .ok (.str (thr a b)) S := by
  refine fr_ret (η := [some (.str a), some (.str b)]) (b := b_third) (nv := 2) (S' := []) rfl rfl rfl rfl ?_ rfl
  have c1 : fns T (d + 5) 11 [.str a] [] = .ok .non [] := by
    refine fr_nonS (η := [some (.str a)]) (b := b_check_any_card) (nv := 1) (S' := []) rfl rfl rfl rfl ?_
    exact sIf_fE (mTNot_tt (mCall_ok (maCons_ok (mVar_ok rfl) maNil_ok) (anyc_cd h1 h4 ha))) sNx_ev
  have q := card_ok (d := d + 2) (m := m) (S := []) (x := .str b) (.str _ (by have := hb.1; omega))
  rw [isCd_iff.mpr ⟨b, rfl, hb⟩] at q
  have c2 : fns T (d + 5) 10 [.int m, .str b] [] = .ok .non [] := by
    refine fr_nonS (η := [some (.int m), some (.str b)]) (b := b_check_card) (nv := 2) (S' := []) rfl rfl rfl rfl ?_
    exact sIf_fE (mTNot_tt (mCall_ok (maCons_ok (mVar_ok rfl) (maCons_ok (mVar_ok rfl) maNil_ok)) q)) sNx_ev
  have el : baLen [.str a] ([] : Store) = some (.int m) := by
    show some (W.int (a.length : Nat)) = _
    rw [ha.1]
  have c3 : fns T (d + 6) 12 [.str a, .str b] [] = .ok .non [] := by
    refine fr_nonS (η := [some (.str a), some (.str b)]) (b := b_check_two_cards) (nv := 2) (S' := []) rfl rfl rfl rfl ?_
    exact sSeq_nE (sDrop_ok (mCall_ok (maCons_ok (mVar_ok rfl) maNil_ok) c1)) (sDrop_ok (mCall_ok (maCons_ok (mBi_ok (maCons_ok (mVar_ok rfl) maNil_ok) el) (maCons_ok (mVar_ok rfl) maNil_ok)) c2))
  exact sSeq_nE (sDrop_ok (mCall_ok (maCons_ok (mVar_ok rfl) (maCons_ok (mVar_ok rfl) maNil_ok)) c3)) (sRet_ok (mCall_ok (maCons_ok (mVar_ok rfl) (maCons_ok (mVar_ok rfl) maNil_ok)) (third_ok (d := d + 4) (by omega) ha hb)))
end
end Lw
namespace Lw
open Mp C63
/-! draws: one of some, a shuffled deck, a drawn hand -/
section
variable {d m i : Nat}
theorem take6 {S : Store} {n : Int} (hw : Well S i) (h0 : 0 < n) (h1 : n < 1073741824) : ∃ v : Nat, (v : Int) < n ∧ ∃ S', fns T (d + 1) 21 [.ref i, .int n] S = .ok (.int v) S' ∧ Kp i S S' := by
  obtain ⟨v, v0, v1, S', e, w, l, o⟩ := take_call (T := T) (d := d) (k := 21) rfl hw h0 h1
  refine ⟨v.toNat, by omega, S', ?_, w, l, o⟩
  rw [show ((v.toNat : Nat) : Int) = v by omega]
  exact e
theorem pick6 {S : Store} {v : W} {ws : List W} (hv : v = .tup ws ∨ v = .lst ws) (hw : Well S i) (h0 : 0 < ws.length) (h1 : ws.length ≤ 1000) (hp : pures ws = true) : ∃ w, w ∈ ws ∧ ∃ S', fns T (d + 2) 22 [.ref i, v] S = .ok w S' ∧ Kp i S S' := by
  obtain ⟨k, k1, S', e, kp⟩ := take6 (d := d) (n := (ws.length : Int)) hw (by omega) (by omega)
  have hk : k < ws.length := by omega
  have pw : ws[k].pure = true := pures_get hp (List.getElem?_eq_getElem hk)
  refine ⟨ws[k], List.getElem_mem hk, S', ?_, kp⟩
  refine nf_ret (η := [some (.ref i), some v]) (b := b_law_pick) (np := 2) (nv := 2) rfl rfl rfl ?_ pw kp.2.1
  have el : ∀ S : Store, baLen [v] S = some (.int ws.length) := fun S => by
    rcases hv with rfl | rfl <;> rfl
  have ex : ∀ S : Store, opIx v (.int k) S = some ws[k] := fun S => by
    have := atW_get hk
    rcases hv with rfl | rfl <;> exact this
  exact sRet_ok (mBin_ok (S1 := S) (mVar_ok rfl) (mCall_ok (S1 := S) (maCons_ok (mVar_ok rfl) (maCons_ok (mBi_ok (maCons_ok (mVar_ok rfl) maNil_ok) (el S)) maNil_ok)) e) (ex S'))
def shE (i L : Nat) (s : W) (l : List (List Nat)) (a b : Option W) : Env := [some (.ref i), some s, some (.lst (l.map .str)), some (.ref L), a, b]
structure Shf (i L : Nat) (S0 S : Store) (f : List (List Nat)) : Prop where
  w : Well S i
  len : S.length = L + 1
  o : ∀ j, j < L → j ≠ i → S[j]? = S0[j]?
  c : S[L]? = some (.lst (f.map .str))
theorem Shf.kp {L : Nat} {S0 S S' : Store} {f : List (List Nat)} (h : Shf i L S0 S f) (hi : i < L) (k : Kp i S S') : Shf i L S0 S' f :=
  ⟨k.1, k.2.1.trans h.len, fun j hj hn => (k.2.2 j hn).trans (h.o j hj hn), (k.2.2 L (by omega)).trans h.c⟩
end
end Lw
namespace Lw
open Mp C63
/-! thirds, lots of three cards, marks at which just two are alike: plain -/
def kd (a b c : Nat) : Nat := (ddup [[a], [b], [c]]).length
def twoL (m : Nat) (a b c : List Nat) : List Nat := (List.range m).filter fun i => decide (kd (a.getD i 48) (b.getD i 48) (c.getD i 48) = 2)
def oddW : List Nat → W
  | [] => .non
  | i :: _ => .int (i : Nat)
theorem kd_t3 {a b c : Nat} (ha : isDg a = true) (hb : isDg b = true) (hc : isDg c = true) : t3 a b = c ↔ kd a b c ≠ 2 := by
  rcases dig_val ha with rfl | rfl | rfl <;> rcases dig_val hb with rfl | rfl | rfl <;> rcases dig_val hc with rfl | rfl | rfl <;> decide
theorem kd_rot {a b c : Nat} (ha : isDg a = true) (hb : isDg b = true) (hc : isDg c = true) : kd c a b = kd a b c ∧ kd b a c = kd a b c := by
  rcases dig_val ha with rfl | rfl | rfl <;> rcases dig_val hb with rfl | rfl | rfl <;> rcases dig_val hc with rfl | rfl | rfl <;> decide
theorem get_dg {m : Nat} {s : List Nat} (h : Cd m s) {i : Nat} (hi : i < m) : isDg (s.getD i 48) = true := by
  have q : i < s.length := by rw [h.1]; exact hi
  rw [List.getD_eq_getElem?_getD, List.getElem?_eq_getElem q]
  exact List.all_eq_true.mp h.2 _ (List.getElem_mem q)
theorem thr_get {m : Nat} {a b : List Nat} (ha : Cd m a) (hb : Cd m b) {i : Nat} (hi : i < m) : (thr a b).getD i 48 = t3 (a.getD i 48) (b.getD i 48) := by
  have q1 : i < a.length := by rw [ha.1]; exact hi
  have q2 : i < b.length := by rw [hb.1]; exact hi
  have hz : i < (a.zip b).length := by rw [List.length_zip, ha.1, hb.1]; omega
  have e : (thr a b)[i]? = some (t3 a[i] b[i]) := by
    unfold thr
    rw [List.getElem?_map, List.getElem?_eq_getElem hz, List.getElem_zip] <;> rfl
  rw [List.getD_eq_getElem?_getD, e, List.getD_eq_getElem?_getD, List.getElem?_eq_getElem q1, List.getD_eq_getElem?_getD, List.getElem?_eq_getElem q2] <;> rfl
theorem ext_get {m : Nat} {a b : List Nat} (ha : Cd m a) (hb : Cd m b) (h : ∀ i, i < m → a.getD i 48 = b.getD i 48) : a = b := by
  refine List.ext_getElem (by rw [ha.1, hb.1]) fun i h1 h2 => ?_
  have := h i (by rw [← ha.1]; exact h1)
  rw [List.getD_eq_getElem?_getD, List.getElem?_eq_getElem h1, List.getD_eq_getElem?_getD, List.getElem?_eq_getElem h2] at this
  exact this
theorem thr_two {m : Nat} {a b c : List Nat} (ha : Cd m a) (hb : Cd m b) (hc : Cd m c) : thr a b = c ↔ twoL m a b c = [] := by
  unfold twoL
  rw [List.filter_eq_nil_iff]
  constructor
  · intro e i hi
    have hi := List.mem_range.mp hi
    have := (kd_t3 (get_dg ha hi) (get_dg hb hi) (get_dg hc hi)).mp (by rw [← thr_get ha hb hi, e])
    rw [decide_eq_false this]
    decide
  · intro h
    refine ext_get (thr_cd ha hb) hc fun i hi => ?_
    rw [thr_get ha hb hi]
    refine (kd_t3 (get_dg ha hi) (get_dg hb hi) (get_dg hc hi)).mpr fun z => h i (List.mem_range.mpr hi) (decide_eq_true z)
theorem two_rot {m : Nat} {a b c : List Nat} (ha : Cd m a) (hb : Cd m b) (hc : Cd m c) : twoL m c a b = twoL m a b c ∧ twoL m b a c = twoL m a b c := by
  constructor
  · refine List.filter_congr fun i hi => ?_
    have hi := List.mem_range.mp hi
    rw [(kd_rot (get_dg ha hi) (get_dg hb hi) (get_dg hc hi)).1]
  · refine List.filter_congr fun i hi => ?_
    have hi := List.mem_range.mp hi
    rw [(kd_rot (get_dg ha hi) (get_dg hb hi) (get_dg hc hi)).2]
/-- three cards are a lot -/
def lotB (a b c : List Nat) : Bool := !decide (a = b) && decide (thr a b = c)
theorem lotB_two {m : Nat} {a b c : List Nat} (ha : Cd m a) (hb : Cd m b) (hc : Cd m c) : lotB a b c = (decide (twoL m a b c = []) && !decide (a = b)) := by
  unfold lotB
  rw [Bool.and_comm, decide_eq_decide.mpr (thr_two ha hb hc)]
theorem lotB_rot {m : Nat} {a b c : List Nat} (ha : Cd m a) (hb : Cd m b) (hc : Cd m c) : lotB c a b = lotB a b c ∧ lotB b a c = lotB a b c := by
  constructor
  · rw [Bool.eq_iff_iff]
    unfold lotB
    rw [Bool.and_eq_true, Bool.and_eq_true, Bool.not_eq_true', Bool.not_eq_true', decide_eq_false_iff_not, decide_eq_false_iff_not, decide_eq_true_eq, decide_eq_true_eq]
    constructor
    · rintro ⟨n, e⟩
      have nn := thr_ne hc ha n
      refine ⟨fun z => nn.2 (e.trans z.symm), ?_⟩
      rw [← e, thr_comm hc ha]
      exact thr_inv ha hc
    · rintro ⟨n, e⟩
      have nn := thr_ne ha hb n
      rw [e] at nn
      refine ⟨nn.1, ?_⟩
      rw [← e, thr_comm (thr_cd ha hb) ha]
      exact thr_inv ha hb
  · unfold lotB
    rw [thr_comm hb ha]
    have : decide (b = a) = decide (a = b) := decide_eq_decide.mpr ⟨Eq.symm, Eq.symm⟩
    rw [this]
/-! shifts -/
def s3 (a b : Nat) : Nat := 48 + ((a - 48) + (b - 48)) % 3
def shf (a b : List Nat) : List Nat := (a.zip b).map fun p => s3 p.1 p.2
theorem s3_dg (a b : Nat) : isDg (s3 a b) = true := by
  have : ((a - 48) + (b - 48)) % 3 < 3 := Nat.mod_lt _ (by decide)
  unfold s3
  generalize ((a - 48) + (b - 48)) % 3 = x at this ⊢
  have : x = 0 ∨ x = 1 ∨ x = 2 := by omega
  rcases this with rfl | rfl | rfl <;> rfl
theorem shf_cd {m : Nat} {a b : List Nat} (ha : Cd m a) (hb : Cd m b) : Cd m (shf a b) := by
  refine ⟨by unfold shf; rw [List.length_map, List.length_zip, ha.1, hb.1, Nat.min_self], ?_⟩
  unfold shf
  rw [List.all_map]
  exact List.all_eq_true.mpr fun p _ => s3_dg _ _
theorem shf_get {m : Nat} {a b : List Nat} (ha : Cd m a) (hb : Cd m b) {i : Nat} (hi : i < m) : (shf a b).getD i 48 = s3 (a.getD i 48) (b.getD i 48) := by
  have q1 : i < a.length := by rw [ha.1]; exact hi
  have q2 : i < b.length := by rw [hb.1]; exact hi
  have hz : i < (a.zip b).length := by rw [List.length_zip, ha.1, hb.1]; omega
  have e : (shf a b)[i]? = some (s3 a[i] b[i]) := by
    unfold shf
    rw [List.getElem?_map, List.getElem?_eq_getElem hz, List.getElem_zip] <;> rfl
  rw [List.getD_eq_getElem?_getD, e, List.getD_eq_getElem?_getD, List.getElem?_eq_getElem q1, List.getD_eq_getElem?_getD, List.getElem?_eq_getElem q2] <;> rfl
theorem s3_t3 {a b c : Nat} (ha : isDg a = true) (hb : isDg b = true) (hc : isDg c = true) : t3 (s3 a c) (s3 b c) = s3 (t3 a b) c := by
  rcases dig_val ha with rfl | rfl | rfl <;> rcases dig_val hb with rfl | rfl | rfl <;> rcases dig_val hc with rfl | rfl | rfl <;> rfl
theorem thr_shf {m : Nat} {a b c : List Nat} (ha : Cd m a) (hb : Cd m b) (hc : Cd m c) : thr (shf a c) (shf b c) = shf (thr a b) c :=
  ext_get (thr_cd (shf_cd ha hc) (shf_cd hb hc)) (shf_cd (thr_cd ha hb) hc) fun i hi => by
    rw [thr_get (shf_cd ha hc) (shf_cd hb hc) hi, shf_get ha hc hi, shf_get hb hc hi, shf_get (thr_cd ha hb) hc hi, thr_get ha hb hi]
    exact s3_t3 (get_dg ha hi) (get_dg hb hi) (get_dg hc hi)
/-! the program's calls -/
section
variable {d m : Nat} {a b c : List Nat} {S : Store}
theorem eq_str {a b : List Nat} {S : Store} : opEq (.str a) (.str b) S = some (.bl (decide (a = b))) := by
  show some (W.bl (a == b)) = _
  by_cases z : a = b
  · rw [z, decide_eq_true rfl, beq_self_eq_true]
  · rw [decide_eq_false z, beq_eq_false_iff_ne.mpr z]
theorem ne_str {a b : List Nat} {S : Store} : opNe (.str a) (.str b) S = some (.bl (!decide (a = b))) := by
  show some (W.bl (!(a == b))) = _
  by_cases z : a = b
  · rw [z, decide_eq_true rfl, beq_self_eq_true]
  · rw [decide_eq_false z, beq_eq_false_iff_ne.mpr z]
theorem lotb_ok (h4 : m ≤ 4) (ha : Cd m a) (hb : Cd m b) : fns T (d + 3) 14 [.str a, .str b, .str c] S = .ok (.bl (lotB a b c)) S := by
  refine fr_ret (η := [some (.str a), some (.str b), some (.str c)]) (b := b_is_lot_by) (nv := 3) (S' := []) rfl rfl rfl rfl ?_ rfl
  have q := ne_str (a := a) (b := b) (S := [])
  refine sRet_ok ?_
  unfold lotB
  by_cases e : a = b
  · rw [decide_eq_true e] at q
    rw [decide_eq_true e]
    exact mAnd_fE (mBin_ok (mVar_ok rfl) (mVar_ok rfl) q) rfl
  · rw [decide_eq_false e] at q
    rw [decide_eq_false e]
    exact mAnd_tE (mBin_ok (mVar_ok rfl) (mVar_ok rfl) q) rfl (mBin_ok (mCall_ok (maCons_ok (mVar_ok rfl) (maCons_ok (mVar_ok rfl) maNil_ok)) (third_ok (d := d) (by omega) ha hb)) (mVar_ok rfl) eq_str)
theorem len_str {m : Nat} {a : List Nat} {S : Store} (h : a.length = m) : baLen [.str a] S = some (.int m) := by
  show some (W.int (a.length : Nat)) = _
  rw [h]
theorem ckc_ok (h4 : m ≤ 4) (hb : Cd m b) : fns T (d + 5) 10 [.int m, .str b] S = .ok .non S := by
  refine fr_nonS (η := [some (.int m), some (.str b)]) (b := b_check_card) (nv := 2) (S' := []) rfl rfl rfl rfl ?_
  have q := card_ok (d := d + 2) (m := m) (S := []) (x := .str b) (.str _ (by have := hb.1; omega))
  rw [isCd_iff.mpr ⟨b, rfl, hb⟩] at q
  exact sIf_fE (mTNot_tt (mCall_ok (maCons_ok (mVar_ok rfl) (maCons_ok (mVar_ok rfl) maNil_ok)) q)) sNx_ev
theorem ckc_no {x : W} (hx : Nv x) (h : isCd m x = false) : fns T (d + 5) 10 [.int m, x] S = .exc 1 x S := by
  refine fr_excS (η := [some (.int m), some x]) (b := b_check_card) (nv := 2) (S' := []) rfl rfl (by show (true && (x.pure && true)) = true; rw [hx.pure] <;> rfl) rfl ?_ hx.pure
  have q := card_ok (d := d + 2) (m := m) (S := []) hx
  rw [h] at q
  exact sIf_tE (mTNot_ok (b := false) (mTru_ok (mCall_ok (maCons_ok (mVar_ok rfl) (maCons_ok (mVar_ok rfl) maNil_ok)) q) rfl)) (sRaise_ev (mVar_ok rfl))
def anyB (x : W) : Bool := isTx x && isBt 1 4 (.int (sOf x).length)
theorem cka_ok (h1 : 1 ≤ m) (h4 : m ≤ 4) (ha : Cd m a) : fns T (d + 5) 11 [.str a] S = .ok .non S := by
  refine fr_nonS (η := [some (.str a)]) (b := b_check_any_card) (nv := 1) (S' := []) rfl rfl rfl rfl ?_
  exact sIf_fE (mTNot_tt (mCall_ok (maCons_ok (mVar_ok rfl) maNil_ok) (anyc_cd h1 h4 ha))) sNx_ev
theorem cka_no {x : W} (hx : Nv x) (h : anyB x = false) : fns T (d + 5) 11 [x] S = .exc 1 x S := by
  refine fr_excS (η := [some x]) (b := b_check_any_card) (nv := 1) (S' := []) rfl rfl (by show (x.pure && true) = true; rw [hx.pure] <;> rfl) rfl ?_ hx.pure
  have q := anycard_ok (d := d) (S := []) hx
  have h : (isTx x && isBt 1 4 (.int (sOf x).length)) = false := h
  rw [h] at q
  exact sIf_tE (mTNot_ok (b := false) (mTru_ok (mCall_ok (maCons_ok (mVar_ok rfl) maNil_ok) q) rfl)) (sRaise_ev (mVar_ok rfl))
theorem ck2_ok (h1 : 1 ≤ m) (h4 : m ≤ 4) (ha : Cd m a) (hb : Cd m b) : fns T (d + 6) 12 [.str a, .str b] S = .ok .non S := by
  refine fr_nonS (η := [some (.str a), some (.str b)]) (b := b_check_two_cards) (nv := 2) (S' := []) rfl rfl rfl rfl ?_
  exact sSeq_nE (sDrop_ok (mCall_ok (maCons_ok (mVar_ok rfl) maNil_ok) (cka_ok h1 h4 ha))) (sDrop_ok (mCall_ok (maCons_ok (mBi_ok (maCons_ok (mVar_ok rfl) maNil_ok) (len_str ha.1)) (maCons_ok (mVar_ok rfl) maNil_ok)) (ckc_ok h4 hb)))
theorem ck2_no1 {x y : W} (hx : Nv x) (hy : Nv y) (h : anyB x = false) : fns T (d + 6) 12 [x, y] S = .exc 1 x S := by
  refine fr_excS (η := [some x, some y]) (b := b_check_two_cards) (nv := 2) (S' := []) rfl rfl (by show (x.pure && (y.pure && true)) = true; rw [hx.pure, hy.pure] <;> rfl) rfl ?_ hx.pure
  exact sSeq_exc (sDrop_exc (mCall_exc (maCons_ok (mVar_ok rfl) maNil_ok) (cka_no hx h)))
theorem ck2_no2 {y : W} (h1 : 1 ≤ m) (h4 : m ≤ 4) (ha : Cd m a) (hy : Nv y) (h : isCd m y = false) : fns T (d + 6) 12 [.str a, y] S = .exc 1 y S := by
  refine fr_excS (η := [some (.str a), some y]) (b := b_check_two_cards) (nv := 2) (S' := []) rfl rfl (by show (true && (y.pure && true)) = true; rw [hy.pure] <;> rfl) rfl ?_ hy.pure
  exact sSeq_nE (sDrop_ok (mCall_ok (maCons_ok (mVar_ok rfl) maNil_ok) (cka_ok h1 h4 ha))) (sDrop_exc (mCall_exc (maCons_ok (mBi_ok (maCons_ok (mVar_ok rfl) maNil_ok) (len_str ha.1)) (maCons_ok (mVar_ok rfl) maNil_ok)) (ckc_no hy h)))
theorem ck3_ok (h1 : 1 ≤ m) (h4 : m ≤ 4) (ha : Cd m a) (hb : Cd m b) (hc : Cd m c) : fns T (d + 7) 13 [.str a, .str b, .str c] S = .ok .non S := by
  refine fr_nonS (η := [some (.str a), some (.str b), some (.str c)]) (b := b_check_three_cards) (nv := 3) (S' := []) rfl rfl rfl rfl ?_
  exact sSeq_nE (sDrop_ok (mCall_ok (maCons_ok (mVar_ok rfl) (maCons_ok (mVar_ok rfl) maNil_ok)) (ck2_ok h1 h4 ha hb))) (sDrop_ok (mCall_ok (maCons_ok (mBi_ok (maCons_ok (mVar_ok rfl) maNil_ok) (len_str ha.1)) (maCons_ok (mVar_ok rfl) maNil_ok)) (ckc_ok (d := d + 1) h4 hc)))
theorem ck3_no {x y z v : W} (hx : Nv x) (hy : Nv y) (hz : Nv z) (hv : Nv v) (h : ∀ S, fns T (d + 6) 12 [x, y] S = .exc 1 v S) : fns T (d + 7) 13 [x, y, z] S = .exc 1 v S := by
  refine fr_excS (η := [some x, some y, some z]) (b := b_check_three_cards) (nv := 3) (S' := []) rfl rfl (by show (x.pure && (y.pure && (z.pure && true))) = true; rw [hx.pure, hy.pure, hz.pure] <;> rfl) rfl ?_ hv.pure
  exact sSeq_exc (sDrop_exc (mCall_exc (maCons_ok (mVar_ok rfl) (maCons_ok (mVar_ok rfl) maNil_ok)) (h [])))
theorem ck3_no3 {z : W} (h1 : 1 ≤ m) (h4 : m ≤ 4) (ha : Cd m a) (hb : Cd m b) (hz : Nv z) (h : isCd m z = false) : fns T (d + 7) 13 [.str a, .str b, z] S = .exc 1 z S := by
  refine fr_excS (η := [some (.str a), some (.str b), some z]) (b := b_check_three_cards) (nv := 3) (S' := []) rfl rfl (by show (true && (true && (z.pure && true))) = true; rw [hz.pure] <;> rfl) rfl ?_ hz.pure
  exact sSeq_nE (sDrop_ok (mCall_ok (maCons_ok (mVar_ok rfl) (maCons_ok (mVar_ok rfl) maNil_ok)) (ck2_ok h1 h4 ha hb))) (sDrop_exc (mCall_exc (maCons_ok (mBi_ok (maCons_ok (mVar_ok rfl) maNil_ok) (len_str ha.1)) (maCons_ok (mVar_ok rfl) maNil_ok)) (ckc_no (d := d + 1) hz h)))
theorem plot_ok (h1 : 1 ≤ m) (h4 : m ≤ 4) (ha : Cd m a) (hb : Cd m b) (hc : Cd m c) : fns T (d + 8) 17 [.str a, .str b, .str c] S = .ok (.bl (lotB a b c)) S := by
  refine fr_ret (η := [some (.str a), some (.str b), some (.str c)]) (b := b_is_lot) (nv := 3) (S' := []) rfl rfl rfl rfl ?_ rfl
  exact sSeq_nE (sDrop_ok (mCall_ok (maCons_ok (mVar_ok rfl) (maCons_ok (mVar_ok rfl) (maCons_ok (mVar_ok rfl) maNil_ok))) (ck3_ok h1 h4 ha hb hc))) (sRet_ok (mCall_ok (maCons_ok (mVar_ok rfl) (maCons_ok (mVar_ok rfl) (maCons_ok (mVar_ok rfl) maNil_ok))) (lotb_ok (d := d + 4) h4 ha hb)))
theorem odd_pure : ∀ l : List Nat, (oddW l).pure = true
  | [] => rfl
  | _ :: _ => rfl
theorem podd_ok (h1 : 1 ≤ m) (h4 : m ≤ 4) (ha : Cd m a) (hb : Cd m b) (hc : Cd m c) (ho : ∀ S, fns T (d + 7) 15 [.str a, .str b, .str c] S = .ok (oddW (twoL m a b c)) S) : fns T (d + 8) 18 [.str a, .str b, .str c] S = .ok (oddW (twoL m a b c)) S := by
  refine fr_ret (η := [some (.str a), some (.str b), some (.str c)]) (b := b_odd_mark) (nv := 3) (S' := []) rfl rfl rfl rfl ?_ (odd_pure _)
  exact sSeq_nE (sDrop_ok (mCall_ok (maCons_ok (mVar_ok rfl) (maCons_ok (mVar_ok rfl) (maCons_ok (mVar_ok rfl) maNil_ok))) (ck3_ok h1 h4 ha hb hc))) (sRet_ok (mCall_ok (maCons_ok (mVar_ok rfl) (maCons_ok (mVar_ok rfl) (maCons_ok (mVar_ok rfl) maNil_ok))) (ho [])))
end
end Lw
namespace Lw
open Mp C63
/-! the law: two cards, three cards -/
section
variable {d m : Nat} {a b c : List Nat} {S : Store}
theorem nz_cd {k : Nat} (h4 : m ≤ 4) (h : Cd m a) : Nz k (.str a) := .str _ (by have := h.1; omega)
theorem nz_c {k : Nat} {x : W} {l : List W} (hx : Nz k x) (hl : ∀ p ∈ l, Nz k p) : ∀ p ∈ x :: l, Nz k p := fun p hp => by
  rcases List.mem_cons.mp hp with e | e
  · rw [e]; exact hx
  · exact hl p e
theorem nz_n {k : Nat} : ∀ p ∈ ([] : List W), Nz k p := fun p hp => by cases hp
theorem piscard_ok (h1 : 1 ≤ m) (h4 : m ≤ 4) (ha : Cd m a) : fns T (d + 6) 19 [.int m, .str a] S = .ok (.bl true) S := by
  refine fr_ret (η := [some (.int m), some (.str a)]) (b := b_is_card) (nv := 2) (S' := []) rfl rfl rfl rfl ?_ rfl
  have q := card_ok (d := d + 3) (m := m) (S := []) (x := .str a) (.str _ (by have := ha.1; omega))
  rw [isCd_iff.mpr ⟨a, rfl, ha⟩] at q
  exact sSeq_nE (sDrop_ok (mCall_ok (maCons_ok (mVar_ok rfl) maNil_ok) (ckm_ok (d := d + 1) (.int _) (bt_m h1 h4)))) (sRet_ok (mCall_ok (maCons_ok (mVar_ok rfl) (maCons_ok (mVar_ok rfl) maNil_ok)) q))
theorem chr_at (ha : Cd m a) {i : Nat} (hi : i < m) {S : Store} : opIx (.str a) (.int i) S = some (.str [a.getD i 48]) := by
  have q : i < a.length := by rw [ha.1]; exact hi
  rw [ix_chr q, List.getD_eq_getElem?_getD, List.getElem?_eq_getElem q] <;> rfl
theorem int_at (ha : Cd m a) {i : Nat} (hi : i < m) {S : Store} : baInt [.str [a.getD i 48]] S = some (.int (dv (a.getD i 48))) := int_dg (get_dg ha hi)
theorem sum3 {x y z : Nat} (hx : isDg x = true) (hy : isDg y = true) (hz : isDg z = true) : t3 x y = z → (dv x + dv y + dv z) % 3 = 0 := by
  rcases dig_val hx with rfl | rfl | rfl <;> rcases dig_val hy with rfl | rfl | rfl <;> rcases dig_val hz with rfl | rfl | rfl <;> decide
theorem shf_num {x y : Nat} (hx : isDg x = true) (hy : isDg y = true) : 48 + ((dv x + dv y) % 3).toNat = s3 x y := by
  rcases dig_val hx with rfl | rfl | rfl <;> rcases dig_val hy with rfl | rfl | rfl <;> rfl
theorem thr_back (ha : Cd m a) (hb : Cd m b) : thr (thr a b) b = a := by
  rw [thr_comm (thr_cd ha hb) hb, thr_comm ha hb]
  exact thr_inv hb ha
def pE (a b c due : List Nat) (m : Nat) (t s w x : Option W) : Env := [some (.str a), some (.str b), some (.str c), some (.str due), some (.int m), t, s, w, x]
theorem pair_shift (h4 : m ≤ 4) {x : List Nat} (hx : Cd m x) (hc : Cd m c) {due : List Nat} {t s w : Option W} : (mJoin (mC (.str [])) (mComp (miRng rng1 (maCons (mVar 4) (maNil))) [7] (gVar 7) (mtYes) (mBin opIx (mC (.str [48, 49, 50])) (mBin opMod (mBi baInt (maCons (mBin opAdd (mBi baInt (maCons (mBin opIx (mVar 8) (mVar 7)) (maNil))) (mBi baInt (maCons (mBin opIx (mVar 2) (mVar 7)) (maNil)))) (maNil))) (mC (.int 3)))))) (pE a b c due m t s w (some (.str x))) S = .ok (.str (shf x c)) S := by
  refine join_ok (L := shf x c) ?_ (by rw [(shf_cd hx hc).1]; omega)
  have el : (shf x c).map (fun c => W.str [c]) = (List.range m).map fun i => W.str [s3 (x.getD i 48) (c.getD i 48)] := by
    refine List.ext_getElem (by rw [List.length_map, (shf_cd hx hc).1, List.length_map, List.length_range]) fun i h1 h2 => ?_
    rw [List.length_map, (shf_cd hx hc).1] at h1
    have := shf_get hx hc h1
    have q : i < (shf x c).length := by rw [(shf_cd hx hc).1]; exact h1
    rw [List.getD_eq_getElem?_getD, List.getElem?_eq_getElem q] at this
    rw [List.getElem_map, List.getElem_map, List.getElem_range]
    exact congrArg (fun z => W.str [z]) this
  rw [el]
  refine comp_gen (u := fun i : Nat => W.int i) (v := fun i => W.str [s3 (x.getD i 48) (c.getD i 48)]) (l := List.range m) (miRng_ok (maCons_ok (mVar_ok rfl) maNil_ok) (rng1_ev (by omega))) (fun i hi => ?_) (by rw [List.length_range]; unfold bigLine; omega)
  have hi := List.mem_range.mp hi
  have r1 := ix012 (S := S) (x := (dv (x.getD i 48) + dv (c.getD i 48)) % 3) (Int.emod_nonneg _ (by decide)) (Int.emod_lt_of_pos _ (by decide))
  rw [shf_num (get_dg hx hi) (get_dg hc hi)] at r1
  exact ⟨_, rfl, rfl, mBin_ok mC_ok (mBin_ok (mBi_ok (maCons_ok (mBin_ok (mBi_ok (maCons_ok (mBin_ok (mVar_ok rfl) (mVar_ok rfl) (chr_at hx hi)) maNil_ok) (int_at hx hi)) (mBi_ok (maCons_ok (mBin_ok (mVar_ok rfl) (mVar_ok rfl) (chr_at hc hi)) maNil_ok) (int_at hc hi)) rfl) maNil_ok) rfl) mC_ok (opMod_ok (by decide))) r1⟩
theorem pair_ok (h1 : 1 ≤ m) (h4 : m ≤ 4) (ha : Cd m a) (hb : Cd m b) (hc : Cd m c) : fns T (d + 9) 27 [.str a, .str b, .str c] S = .ok (.bl true) S := by
  have hd := thr_cd ha hb
  refine fr_ret (η := [some (.str a), some (.str b), some (.str c), none, none, none, none, none, none]) (b := b_law_pair_right) (nv := 9) (S' := []) rfl rfl rfl rfl ?_ rfl
  let E := pE a b c (thr a b) m
  have s1 : sAsg (mTup (maCons (mCall (fns T (d + 8)) 25 (maCons (mVar 0) (maCons (mVar 1) (maNil)))) (maCons (mBi baLen (maCons (mVar 0) (maNil))) (maNil)))) (gTupW (gsCons (gVar 3) (gsCons (gVar 4) (gsNil)))) [some (.str a), some (.str b), some (.str c), none, none, none, none, none, none] [] = .nx (E none none none none) [] :=
    sAsg_ok (mTup_ok (maCons_ok (mCall_ok (maCons_ok (mVar_ok rfl) (maCons_ok (mVar_ok rfl) maNil_ok)) (lthird_ok (d := d + 7) (by omega) ha hb)) (maCons_ok (mBi_ok (maCons_ok (mVar_ok rfl) maNil_ok) (len_str ha.1)) maNil_ok)) (by show 2 ≤ bigLine; decide)) rfl
  have tab := pthird_ok (d := d + 1) (S := []) h1 h4 ha hb
  have tba := pthird_ok (d := d + 1) (S := []) h1 h4 hb ha
  rw [thr_comm hb ha] at tba
  have tad := pthird_ok (d := d + 1) (S := []) h1 h4 ha hd
  rw [thr_inv ha hb] at tad
  have tdb := pthird_ok (d := d + 1) (S := []) h1 h4 hd hb
  rw [thr_back ha hb] at tdb
  have taa := pthird_ok (d := d + 1) (S := []) h1 h4 ha ha
  rw [thr_self ha] at taa
  have tc := piscard_ok (d := d + 2) (S := []) h1 h4 hd
  let told : W := .lst [.str (thr a b), .str (thr a b), .str (thr a b), .str b, .str a, .bl true, .str a]
  have s2 : sSet 5 (mLst (maCons (mCall (fns T (d + 8)) 16 (maCons (mVar 0) (maCons (mVar 1) (maNil)))) (maCons (mCallK (fns T (d + 8)) 16 [1, 0] (maCons (mVar 1) (maCons (mVar 0) (maNil)))) (maCons (mCall (fns T (d + 8)) 16 (maCons (mVar 1) (maCons (mVar 0) (maNil)))) (maCons (mCall (fns T (d + 8)) 16 (maCons (mVar 0) (maCons (mVar 3) (maNil)))) (maCons (mCall (fns T (d + 8)) 16 (maCons (mVar 3) (maCons (mVar 1) (maNil)))) (maCons (mCall (fns T (d + 8)) 19 (maCons (mVar 4) (maCons (mVar 3) (maNil)))) (maCons (mCall (fns T (d + 8)) 16 (maCons (mVar 0) (maCons (mVar 0) (maNil)))) (maNil))))))))) (E none none none none) [] = .nx (E (some told) none none none) [] :=
    sSet_ev (mLst_ok (maCons_ok (mCall_ok (maCons_ok (mVar_ok rfl) (maCons_ok (mVar_ok rfl) maNil_ok)) tab) (maCons_ok (mCallK2 (maCons_ok (mVar_ok rfl) (maCons_ok (mVar_ok rfl) maNil_ok)) tab) (maCons_ok (mCall_ok (maCons_ok (mVar_ok rfl) (maCons_ok (mVar_ok rfl) maNil_ok)) tba) (maCons_ok (mCall_ok (maCons_ok (mVar_ok rfl) (maCons_ok (mVar_ok rfl) maNil_ok)) tad) (maCons_ok (mCall_ok (maCons_ok (mVar_ok rfl) (maCons_ok (mVar_ok rfl) maNil_ok)) tdb) (maCons_ok (mCall_ok (maCons_ok (mVar_ok rfl) (maCons_ok (mVar_ok rfl) maNil_ok)) tc) (maCons_ok (mCall_ok (maCons_ok (mVar_ok rfl) (maCons_ok (mVar_ok rfl) maNil_ok)) taa) maNil_ok))))))) (by show 7 ≤ bigLine; decide)) rfl
  have nt : Nz 1 told := .lst _ (nz_c (nz_cd h4 hd) (nz_c (nz_cd h4 hd) (nz_c (nz_cd h4 hd) (nz_c (nz_cd h4 hb) (nz_c (nz_cd h4 ha) (nz_c (.bl _) (nz_c (nz_cd h4 ha) nz_n))))))) (by show 7 ≤ 1000; decide)
  have t3 : (mTNot (mTru (mCall (fns T (d + 8)) 23 (maCons (mVar 5) (maCons (mLst (maCons (mVar 3) (maCons (mVar 3) (maCons (mVar 3) (maCons (mVar 1) (maCons (mVar 0) (maCons (mC (.bl true)) (maCons (mVar 0) (maNil))))))))) (maNil)))))) (E (some told) none none none) [] = .ok false [] :=
    mTNot_tt (mCall_ok (maCons_ok (mVar_ok rfl) (maCons_ok (x := told) (S1 := []) rfl maNil_ok)) (is_at nt (by omega) []))
  have ef := comp_flt (S := []) (it := miRng rng1 (maCons (mVar 4) (maNil))) (own := [7]) (g := gVar 7) (t := mTCmp opNe (mBin opMod (mBi baInt (maCons (mBin opAdd (mBin opAdd (mBi baInt (maCons (mBin opIx (mVar 0) (mVar 7)) (maNil))) (mBi baInt (maCons (mBin opIx (mVar 1) (mVar 7)) (maNil)))) (mBi baInt (maCons (mBin opIx (mVar 3) (mVar 7)) (maNil)))) (maNil))) (mC (.int 3))) (mC (.int 0))) (e := mVar 7) (η := E (some told) none none none) (u := fun i : Nat => W.int i) (v := fun i : Nat => W.int i) (P := fun _ => false) (l := List.range m) (miRng_ok (maCons_ok (mVar_ok rfl) maNil_ok) (rng1_ev (by omega))) (fun i hi => by
    have hi := List.mem_range.mp hi
    have z := sum3 (get_dg ha hi) (get_dg hb hi) (get_dg hd hi) (thr_get ha hb hi).symm
    refine ⟨_, rfl, mTCmp_ok (mBin_ok (mBi_ok (maCons_ok (mBin_ok (mBin_ok (mBi_ok (maCons_ok (mBin_ok (mVar_ok rfl) (mVar_ok rfl) (chr_at ha hi)) maNil_ok) (int_at ha hi)) (mBi_ok (maCons_ok (mBin_ok (mVar_ok rfl) (mVar_ok rfl) (chr_at hb hi)) maNil_ok) (int_at hb hi)) rfl) (mBi_ok (maCons_ok (mBin_ok (mVar_ok rfl) (mVar_ok rfl) (chr_at hd hi)) maNil_ok) (int_at hd hi)) rfl) maNil_ok) rfl) mC_ok (opMod_ok (by decide))) mC_ok ?_, fun q => by cases q⟩
    rw [z]
    rfl) (by rw [List.length_range]; unfold bigLine; omega)
  have t4 : (mTCmp opNe (mComp (miRng rng1 (maCons (mVar 4) (maNil))) [7] (gVar 7) (mTCmp opNe (mBin opMod (mBi baInt (maCons (mBin opAdd (mBin opAdd (mBi baInt (maCons (mBin opIx (mVar 0) (mVar 7)) (maNil))) (mBi baInt (maCons (mBin opIx (mVar 1) (mVar 7)) (maNil)))) (mBi baInt (maCons (mBin opIx (mVar 3) (mVar 7)) (maNil)))) (maNil))) (mC (.int 3))) (mC (.int 0))) (mVar 7)) (mLst (maNil))) (E (some told) none none none) [] = .ok false [] := by
    have en : (List.range m).filter (fun _ => false) = [] := List.filter_eq_nil_iff.mpr fun _ _ => by decide
    rw [en] at ef
    exact mTCmp_ok ef (mLst_ok maNil_ok (Nat.zero_le _)) rfl
  let sh : W := .lst [.str (shf a c), .str (shf b c), .str (shf (thr a b) c)]
  have cs := comp_gen (S := []) (it := miSeq (mLst (maCons (mVar 0) (maCons (mVar 1) (maCons (mVar 3) (maNil)))))) (own := [8]) (g := gVar 8) (t := mtYes) (e := mJoin (mC (.str [])) (mComp (miRng rng1 (maCons (mVar 4) (maNil))) [7] (gVar 7) (mtYes) (mBin opIx (mC (.str [48, 49, 50])) (mBin opMod (mBi baInt (maCons (mBin opAdd (mBi baInt (maCons (mBin opIx (mVar 8) (mVar 7)) (maNil))) (mBi baInt (maCons (mBin opIx (mVar 2) (mVar 7)) (maNil)))) (maNil))) (mC (.int 3)))))) (η := E (some told) none none none) (u := W.str) (v := fun x => .str (shf x c)) (l := [a, b, thr a b]) rfl (fun x hx => by
    have hx2 : Cd m x := by
      simp only [List.mem_cons, List.not_mem_nil, or_false] at hx
      rcases hx with rfl | rfl | rfl
      · exact ha
      · exact hb
      · exact hd
    exact ⟨pE a b c (thr a b) m (some told) none none (some (.str x)), rfl, rfl, pair_shift h4 hx2 hc⟩) (by show 3 ≤ bigLine; decide)
  have s5 : sSet 6 _ (E (some told) none none none) [] = .nx (E (some told) (some sh) none none) [] := sSet_ev cs rfl
  have tsh := pthird_ok (d := d + 1) (S := []) h1 h4 (shf_cd ha hc) (shf_cd hb hc)
  rw [thr_shf ha hb hc] at tsh
  have tl := plot_ok (d := d) (S := []) h1 h4 ha hb hd
  have elb : lotB a b (thr a b) = !decide (a = b) := by
    unfold lotB
    rw [decide_eq_true (rfl : thr a b = thr a b), Bool.and_true]
  rw [elb] at tl
  have i0 : opIx sh (.int 0) ([] : Store) = some (.str (shf a c)) := rfl
  have i1 : opIx sh (.int 1) ([] : Store) = some (.str (shf b c)) := rfl
  have i2 : opIx sh (.int 2) ([] : Store) = some (.str (shf (thr a b) c)) := rfl
  have n2 : Nz 1 (.lst [.str (shf (thr a b) c), .bl (!decide (a = b))]) := .lst _ (nz_c (nz_cd h4 (shf_cd hd hc)) (nz_c (.bl _) nz_n)) (by show 2 ≤ 1000; decide)
  exact sSeq_nE s1 (sSeq_nE s2 (sSeq_nE (sIf_fE (f := sRet (mC (.bl false))) t3 sNx_ev) (sSeq_nE (sIf_fE (f := sRet (mC (.bl false))) t4 sNx_ev) (sSeq_nE s5 (sRet_ok (mCall_ok (maCons_ok (mLst_ok (maCons_ok (mCall_ok (maCons_ok (mBin_ok (mVar_ok rfl) mC_ok i0) (maCons_ok (mBin_ok (mVar_ok rfl) mC_ok i1) maNil_ok)) tsh) (maCons_ok (mCall_ok (maCons_ok (mVar_ok rfl) (maCons_ok (mVar_ok rfl) (maCons_ok (mVar_ok rfl) maNil_ok))) tl) maNil_ok)) (by show 2 ≤ bigLine; decide)) (maCons_ok (mLst_ok (maCons_ok (mBin_ok (mVar_ok rfl) mC_ok i2) (maCons_ok (mBin_ok (mVar_ok rfl) (mVar_ok rfl) ne_str) maNil_ok)) (by show 2 ≤ bigLine; decide)) maNil_ok)) (is_at n2 (by omega) [])))))))
end
end Lw
namespace Lw
open Mp C63
/-! the law: whether it is told of three cards -/
section
variable {d m : Nat} {a b c : List Nat} {S : Store}
theorem kind_set {x y z : Nat} : lenSetR [.str [x], .str [y], .str [z]] = some (.int (kd x y z : Nat)) := by
  show (if ([[x], [y], [z]] : List (List Nat)).length < 4000 then some (W.int ((ddup [[x], [y], [z]]).length : Nat)) else none) = _
  rw [if_pos (by show 3 < 4000; decide)] <;> rfl
def tE (a b c : List Nat) (v3 v4 v5 v6 v7 v8 v9 v10 : Option W) : Env := [some (.str a), some (.str b), some (.str c), v3, v4, v5, v6, v7, v8, v9, v10]
theorem ne_nilN (l : List Nat) {S : Store} : opNe (.lst (l.map fun (i : Nat) => W.int i)) (.lst []) S = some (.bl (!decide (l = []))) := by
  rw [ne_nilW (okDs_f 29 (fun (i : Nat) => W.int i) (fun _ => rfl) l)]
  cases l <;> rfl
theorem nz_odd (l : List Nat) : Nz 1 (oddW l) := by
  cases l with
  | nil => exact .non
  | cons i r => exact .int _
theorem mCallK3 {φ : Fns} {f : Nat} {gk : MA} {η : Env} {S S1 S2 : Store} {a b c w : W} (hg : gk η S = .ok [a, b, c] S1) (h : φ f [c, b, a] S1 = .ok w S2) : mCallK φ f [2, 1, 0] gk η S = .ok w S2 := mCallK_ok hg rfl rfl h
/-- what is asked of the program's odd_mark_of -/
def OddOk (d : Nat) : Prop := ∀ (m : Nat) (a b c : List Nat) (S : Store), 1 ≤ m → m ≤ 4 → Cd m a → Cd m b → Cd m c → fns T (d + 7) 15 [.str a, .str b, .str c] S = .ok (oddW (twoL m a b c)) S
theorem three_ok (ho : OddOk d) (h1 : 1 ≤ m) (h4 : m ≤ 4) (ha : Cd m a) (hb : Cd m b) (hc : Cd m c) : fns T (d + 9) 28 [.str a, .str b, .str c] S = .ok (.bl true) S := by
  refine fr_ret (η := tE a b c none none none none none none none none) (b := b_law_three_right) (nv := 11) (S' := []) rfl rfl rfl rfl ?_ rfl
  let tw := twoL m a b c
  let K : W := .lst ((List.range m).map fun i => .int (kd (a.getD i 48) (b.getD i 48) (c.getD i 48) : Nat))
  have s1 : sSet 3 (mComp (miRng rng1 (maCons (mBi baLen (maCons (mVar 0) (maNil))) (maNil))) [9] (gVar 9) (mtYes) (mSet lenSetR (mLst (maCons (mBin opIx (mVar 0) (mVar 9)) (maCons (mBin opIx (mVar 1) (mVar 9)) (maCons (mBin opIx (mVar 2) (mVar 9)) (maNil))))))) (tE a b c none none none none none none none none) [] = .nx (tE a b c (some K) none none none none none none none) [] := by
    refine sSet_ev (comp_gen (u := fun i : Nat => W.int i) (v := fun i => .int (kd (a.getD i 48) (b.getD i 48) (c.getD i 48) : Nat)) (l := List.range m) (miRng_ok (maCons_ok (mBi_ok (maCons_ok (mVar_ok rfl) maNil_ok) (len_str ha.1)) maNil_ok) (rng1_ev (by omega))) (fun i hi => ?_) (by rw [List.length_range]; unfold bigLine; omega)) rfl
    have hi := List.mem_range.mp hi
    exact ⟨_, rfl, rfl, mSet_ev (mLst_ok (maCons_ok (mBin_ok (mVar_ok rfl) (mVar_ok rfl) (chr_at ha hi)) (maCons_ok (mBin_ok (mVar_ok rfl) (mVar_ok rfl) (chr_at hb hi)) (maCons_ok (mBin_ok (mVar_ok rfl) (mVar_ok rfl) (chr_at hc hi)) maNil_ok))) (by show 3 ≤ bigLine; decide)) rfl kind_set⟩
  have s2 : sSet 4 (mComp (miRng rng1 (maCons (mBi baLen (maCons (mVar 0) (maNil))) (maNil))) [9] (gVar 9) (mTCmp opEq (mBin opIx (mVar 3) (mVar 9)) (mC (.int 2))) (mVar 9)) (tE a b c (some K) none none none none none none none) [] = .nx (tE a b c (some K) (some (.lst (tw.map fun (i : Nat) => W.int i))) none none none none none none) [] := by
    refine sSet_ev (comp_flt (u := fun i : Nat => W.int i) (v := fun i : Nat => W.int i) (P := fun i => decide (kd (a.getD i 48) (b.getD i 48) (c.getD i 48) = 2)) (l := List.range m) (miRng_ok (maCons_ok (mBi_ok (maCons_ok (mVar_ok rfl) maNil_ok) (len_str ha.1)) maNil_ok) (rng1_ev (by omega))) (fun i hi => ?_) (by rw [List.length_range]; unfold bigLine; omega)) rfl
    have hi := List.mem_range.mp hi
    have ix : opIx K (.int i) ([] : Store) = some (.int (kd (a.getD i 48) (b.getD i 48) (c.getD i 48) : Nat)) := by
      have := atW_get (xs := (List.range m).map fun i => W.int (kd (a.getD i 48) (b.getD i 48) (c.getD i 48) : Nat)) (a := i) (by rw [List.length_map, List.length_range]; exact hi)
      rw [List.getElem_map, List.getElem_range] at this
      exact this
    exact ⟨_, rfl, mTCmp_ok (mBin_ok (mVar_ok rfl) (mVar_ok rfl) ix) mC_ok (eq_len (b := 2)), fun _ => rfl⟩
  have en := eq_nilL (fun (i : Nat) => W.int i) (fun _ => rfl) tw (S := [])
  have nn := ne_nilN tw (S := [])
  let due : W := .bl (lotB a b c)
  have ed := lotB_two ha hb hc
  have s3 : sSet 5 (mAnd (mBin opEq (mVar 4) (mLst (maNil))) (mBin opNe (mVar 0) (mVar 1))) (tE a b c (some K) (some (.lst (tw.map fun (i : Nat) => W.int i))) none none none none none none) [] = .nx (tE a b c (some K) (some (.lst (tw.map fun (i : Nat) => W.int i))) (some due) none none none none none) [] := by
    have e1 : (mBin opEq (mVar 4) (mLst (maNil))) (tE a b c (some K) (some (.lst (tw.map fun (i : Nat) => W.int i))) none none none none none none) [] = .ok (.bl (decide (tw = []))) [] := mBin_ok (mVar_ok rfl) (mLst_ok maNil_ok (Nat.zero_le _)) en
    show _ = RS.nx (tE a b c (some K) _ (some (.bl (lotB a b c))) none none none none none) []
    rw [ed]
    cases e : decide (tw = []) with
    | false =>
      rw [e] at e1
      exact sSet_ev (mAnd_fE e1 rfl) rfl
    | true =>
      rw [e] at e1
      exact sSet_ev (mAnd_tE e1 rfl (mBin_ok (mVar_ok rfl) (mVar_ok rfl) ne_str)) rfl
  have s4 : sSet 6 (mIf (mTCmp opNe (mVar 4) (mLst (maNil))) (mBin opIx (mVar 4) (mC (.int 0))) (mC .non)) (tE a b c (some K) (some (.lst (tw.map fun (i : Nat) => W.int i))) (some due) none none none none none) [] = .nx (tE a b c (some K) (some (.lst (tw.map fun (i : Nat) => W.int i))) (some due) (some (oddW tw)) none none none none) [] := by
    generalize tw = l at nn ⊢
    have t : (mTCmp opNe (mVar 4) (mLst (maNil))) (tE a b c (some K) (some (.lst (l.map fun (i : Nat) => W.int i))) (some due) none none none none none) [] = .ok (!decide (l = [])) [] := mTCmp_ok (mVar_ok rfl) (mLst_ok maNil_ok (Nat.zero_le _)) nn
    cases l with
    | nil => exact sSet_ev (mIf_fE t mC_ok) rfl
    | cons i r =>
      have i0 : opIx (.lst ((i :: r).map fun (i : Nat) => W.int i)) (.int 0) ([] : Store) = some (.int (i : Nat)) := by
        have := atW_get (xs := (i :: r).map fun (i : Nat) => W.int i) (a := 0) (by rw [List.length_map, List.length_cons]; omega)
        exact this
      exact sSet_ev (mIf_tE t (mBin_ok (mVar_ok rfl) mC_ok i0)) rfl
  let rw4 (x y z : List Nat) : W := .tup [.str x, .str y, .str z]
  let rows : List W := [rw4 a b c, rw4 c a b, rw4 b a c, rw4 c b a]
  let E7 := tE a b c (some K) (some (.lst (tw.map fun (i : Nat) => W.int i))) (some due) (some (oddW tw)) (some (.lst rows))
  have ndo : Nz 2 (.lst [due, oddW tw]) := .lst _ (nz_c (.bl _) (nz_c (nz_odd tw) nz_n)) (by show 2 ≤ 1000; decide)
  have qd := is_at (D := d + 8) ndo (by omega) []
  have all4 : ∀ x y z : List Nat, rw4 x y z ∈ rows → Cd m x ∧ Cd m y ∧ Cd m z ∧ lotB x y z = lotB a b c ∧ twoL m x y z = tw := fun x y z hm => by
    have lr := lotB_rot ha hb hc
    have tr := two_rot ha hb hc
    simp only [rows, rw4, List.mem_cons, List.not_mem_nil, or_false, W.tup.injEq, List.cons.injEq, W.str.injEq, and_true] at hm
    rcases hm with ⟨rfl, rfl, rfl⟩ | ⟨rfl, rfl, rfl⟩ | ⟨rfl, rfl, rfl⟩ | ⟨rfl, rfl, rfl⟩
    · exact ⟨ha, hb, hc, rfl, rfl⟩
    · exact ⟨hc, ha, hb, lr.1, tr.1⟩
    · exact ⟨hb, ha, hc, lr.2, tr.2⟩
    · have lr2 := lotB_rot hb ha hc
      have tr2 := two_rot hb ha hc
      exact ⟨hc, hb, ha, lr2.1.trans lr.2, tr2.1.trans tr.2⟩
  have calls : ∀ x y z : List Nat, rw4 x y z ∈ rows → fns T (d + 8) 17 [.str x, .str y, .str z] [] = .ok due [] ∧ fns T (d + 8) 18 [.str x, .str y, .str z] [] = .ok (oddW tw) [] := fun x y z hm => by
    obtain ⟨hx, hy, hz, e1, e2⟩ := all4 x y z hm
    have p1 := plot_ok (d := d) (S := []) h1 h4 hx hy hz
    have p2 := podd_ok (d := d) (S := []) h1 h4 hx hy hz (fun S => ho m x y z S h1 h4 hx hy hz)
    rw [e1] at p1
    rw [e2] at p2
    exact ⟨p1, p2⟩
  have ef := comp_flt (S := []) (it := miSeq (mVar 7)) (own := [10]) (g := gVar 10) (t := mTNot (mTru (mCall (fns T (d + 8)) 23 (maCons (mLst (maCons (mCall (fns T (d + 8)) 17 (maCons (mBin opIx (mVar 10) (mC (.int 0))) (maCons (mBin opIx (mVar 10) (mC (.int 1))) (maCons (mBin opIx (mVar 10) (mC (.int 2))) (maNil))))) (maCons (mCall (fns T (d + 8)) 18 (maCons (mBin opIx (mVar 10) (mC (.int 0))) (maCons (mBin opIx (mVar 10) (mC (.int 1))) (maCons (mBin opIx (mVar 10) (mC (.int 2))) (maNil))))) (maNil)))) (maCons (mLst (maCons (mVar 5) (maCons (mVar 6) (maNil)))) (maNil)))))) (e := mVar 10) (η := E7 none none none) (u := fun w : W => w) (v := fun w => w) (P := fun _ => false) (l := rows) (by rw [List.map_id']; rfl) (fun w hw => by
    obtain ⟨x, y, z, rfl⟩ : ∃ x y z, w = rw4 x y z := by
      simp only [rows, List.mem_cons, List.not_mem_nil, or_false] at hw
      rcases hw with rfl | rfl | rfl | rfl <;> exact ⟨_, _, _, rfl⟩
    obtain ⟨p1, p2⟩ := calls x y z hw
    have j0 : opIx (rw4 x y z) (.int 0) ([] : Store) = some (.str x) := rfl
    have j1 : opIx (rw4 x y z) (.int 1) ([] : Store) = some (.str y) := rfl
    have j2 : opIx (rw4 x y z) (.int 2) ([] : Store) = some (.str z) := rfl
    have args : (maCons (mBin opIx (mVar 10) (mC (.int 0))) (maCons (mBin opIx (mVar 10) (mC (.int 1))) (maCons (mBin opIx (mVar 10) (mC (.int 2))) (maNil)))) (E7 none none (some (rw4 x y z))) [] = .ok [.str x, .str y, .str z] [] := maCons_ok (mBin_ok (mVar_ok rfl) mC_ok j0) (maCons_ok (mBin_ok (mVar_ok rfl) mC_ok j1) (maCons_ok (mBin_ok (mVar_ok rfl) mC_ok j2) maNil_ok))
    exact ⟨E7 none none (some (rw4 x y z)), rfl, mTNot_tt (mCall_ok (maCons_ok (mLst_ok (maCons_ok (mCall_ok args p1) (maCons_ok (mCall_ok args p2) maNil_ok)) (by show 2 ≤ bigLine; decide)) (maCons_ok (mLst_ok (maCons_ok (mVar_ok rfl) (maCons_ok (mVar_ok rfl) maNil_ok)) (by show 2 ≤ bigLine; decide)) maNil_ok)) qd), fun q => by cases q⟩) (by show 4 ≤ bigLine; decide)
  have en4 : rows.filter (fun _ => false) = [] := List.filter_eq_nil_iff.mpr fun _ _ => by decide
  rw [en4, List.map_nil] at ef
  have t6 := mTCmp_ok (o := opNe) (b := false) ef (mLst_ok (g := maNil) maNil_ok (Nat.zero_le _)) rfl
  obtain ⟨p1, p2⟩ := calls a b c (by simp [rows])
  have lt := lthird_ok (d := d + 7) (S := []) (by omega) ha hb
  have s8 : sSet 8 (mLst (maCons (mCallK (fns T (d + 8)) 17 [2, 1, 0] (maCons (mVar 2) (maCons (mVar 1) (maCons (mVar 0) (maNil))))) (maCons (mCallK (fns T (d + 8)) 18 [2, 1, 0] (maCons (mVar 2) (maCons (mVar 1) (maCons (mVar 0) (maNil))))) (maNil)))) (E7 none none none) [] = .nx (E7 (some (.lst [due, oddW tw])) none none) [] :=
    sSet_ev (mLst_ok (maCons_ok (mCallK3 (maCons_ok (mVar_ok rfl) (maCons_ok (mVar_ok rfl) (maCons_ok (mVar_ok rfl) maNil_ok))) p1) (maCons_ok (mCallK3 (maCons_ok (mVar_ok rfl) (maCons_ok (mVar_ok rfl) (maCons_ok (mVar_ok rfl) maNil_ok))) p2) maNil_ok)) (by show 2 ≤ bigLine; decide)) rfl
  have fin : (mAnd (mBin opNe (mVar 0) (mVar 1)) (mBin opEq (mCall (fns T (d + 8)) 25 (maCons (mVar 0) (maCons (mVar 1) (maNil)))) (mVar 2))) (E7 (some (.lst [due, oddW tw])) none none) [] = .ok due [] := by
    have q := ne_str (a := a) (b := b) (S := [])
    show _ = R.ok (W.bl (lotB a b c)) []
    unfold lotB
    by_cases e : a = b
    · rw [decide_eq_true e] at q
      rw [decide_eq_true e]
      exact mAnd_fE (mBin_ok (mVar_ok rfl) (mVar_ok rfl) q) rfl
    · rw [decide_eq_false e] at q
      rw [decide_eq_false e]
      exact mAnd_tE (mBin_ok (mVar_ok rfl) (mVar_ok rfl) q) rfl (mBin_ok (mCall_ok (maCons_ok (mVar_ok rfl) (maCons_ok (mVar_ok rfl) maNil_ok)) lt) (mVar_ok rfl) eq_str)
  have bb : ∀ x : Bool, opEq (.bl x) (.bl x) ([] : Store) = some (.bl true) := fun x => by cases x <;> rfl
  refine sSeq_nE s1 (sSeq_nE s2 (sSeq_nE s3 (sSeq_nE s4 (sSeq_nE (η1 := E7 none none none) (S1 := []) rfl (sSeq_nE (sIf_fE (f := sRet (mC (.bl false))) t6 sNx_ev) (sSeq_nE s8 (sRet_ok (mAnd_tE (mCall_ok (maCons_ok (mVar_ok rfl) (maCons_ok (mLst_ok (maCons_ok (mVar_ok rfl) (maCons_ok (mVar_ok rfl) maNil_ok)) (by show 2 ≤ bigLine; decide)) maNil_ok)) qd) rfl (mBin_ok (mVar_ok rfl) fin (bb _)))))))))) 
end
end Lw
namespace Lw
open Mp C63
/-! the law: what is refused, a round -/
theorem maCons_exc {f : ME} {g : MA} {η : Env} {S S1 : Store} {c : Nat} {x : W} (h : f η S = .exc c x S1) : maCons f g η S = .exc c x S1 := by
  unfold maCons
  rw [h] <;> rfl
theorem maCons_exc2 {f : ME} {g : MA} {η : Env} {S S1 S2 : Store} {c : Nat} {x w : W} (h : f η S = .ok w S1) (k : g η S1 = .exc c x S2) : maCons f g η S = .exc c x S2 := by
  unfold maCons
  rw [h]
  show (g η S1).bind _ = _
  rw [k] <;> rfl
theorem mLst_exc {g : MA} {η : Env} {S S1 : Store} {c : Nat} {x : W} (h : g η S = .exc c x S1) : mLst g η S = .exc c x S1 := by
  unfold mLst
  rw [h] <;> rfl
theorem sRet_exc {f : ME} {η : Env} {S S1 : Store} {c : Nat} {x : W} (h : f η S = .exc c x S1) : sRet f η S = .exc c x η S1 := by
  unfold sRet
  rw [h] <;> rfl
theorem envX_of {η : Env} (h : ∀ w, some w ∈ η → noX w = true) : envX η = true := by
  unfold envX
  rw [List.all_eq_true]
  intro o ho
  cases o with
  | none => rfl
  | some w => exact h w ho
theorem sTry_ret {j c : Nat} {b hh : MS} {η : Env} {S S2 : Store} {x w : W} (h : b η S = .exc c x η S) (e1 : envX η = true) (e2 : noX x = true) (k : hh (η.set j (some (.exc c x))) S = .ret w S2) (e3 : noX w = true) : sTry j b hh η S = .ret w S2 := by
  unfold sTry
  rw [h]
  show sCatch j hh c x η S = _
  unfold sCatch
  rw [if_pos ⟨e1, e2⟩, k]
  show (if noX w = true then _ else _) = _
  rw [if_pos e3]
def wCard : List Nat := [99, 97, 114, 100]
def Vz (w : W) : Prop := Nz 2 w ∨ w = .dct [.bl false] []
theorem Vz.nv {w : W} (h : Vz w) : Nv w := by
  rcases h with h | rfl
  · exact h.nv
  · exact .dct _ _ rfl rfl
theorem Vz.of {k : Nat} {w : W} (h : Nz k w) (hk : k ≤ 2) : Vz w := .inl (h.up 2 hk)
theorem vz_cons {x : W} {l : List W} (hx : Vz x) (hl : ∀ p ∈ l, Vz p) : ∀ p ∈ x :: l, Vz p := fun p hp => by
  rcases List.mem_cons.mp hp with e | e
  · rw [e]; exact hx
  · exact hl p e
theorem vz_nil : ∀ p ∈ ([] : List W), Vz p := fun p hp => by cases hp
section
variable {d m i : Nat} {a b c : List Nat}
theorem Vz.is {w : W} (h : Vz w) {D : Nat} (hD : 5 ≤ D) (S : Store) : fns T D 23 [w, w] S = .ok (.bl true) S := by
  rcases h with h | rfl
  · exact is_at h (by omega) S
  · obtain ⟨d, rfl⟩ : ∃ d, D = d + 1 := ⟨D - 1, by omega⟩
    exact fr_ret (η := [some (.dct [.bl false] []), some (.dct [.bl false] []), none, none]) (b := b_law_is) (nv := 4) (S' := []) rfl rfl rfl rfl rfl rfl
/-- the two cards are refused -/
def E2 (x y v : W) : Prop := ∀ (d : Nat) (S : Store), fns T (d + 6) 12 [x, y] S = .exc 1 v S
def E3 (x y z v : W) : Prop := ∀ (d : Nat) (S : Store), fns T (d + 7) 13 [x, y, z] S = .exc 1 v S
theorem E2.three {x y z v : W} (hx : Nv x) (hy : Nv y) (hz : Nv z) (hv : Nv v) (h : E2 x y v) : E3 x y z v := fun d S => ck3_no hx hy hz hv (h d)
theorem third_exc {x y v : W} {S : Store} (hx : Nv x) (hy : Nv y) (hv : Nv v) (h : E2 x y v) : fns T (d + 8) 16 [x, y] S = .exc 1 v S := by
  refine fr_excS (η := [some x, some y]) (b := b_third) (nv := 2) (S' := []) rfl rfl (by show (x.pure && (y.pure && true)) = true; rw [hx.pure, hy.pure] <;> rfl) rfl ?_ hv.pure
  exact sSeq_exc (sDrop_exc (mCall_exc (maCons_ok (mVar_ok rfl) (maCons_ok (mVar_ok rfl) maNil_ok)) (h (d + 1) [])))
theorem lot_exc {x y z v : W} {S : Store} (hx : Nv x) (hy : Nv y) (hz : Nv z) (hv : Nv v) (h : E3 x y z v) : fns T (d + 8) 17 [x, y, z] S = .exc 1 v S := by
  refine fr_excS (η := [some x, some y, some z]) (b := b_is_lot) (nv := 3) (S' := []) rfl rfl (by show (x.pure && (y.pure && (z.pure && true))) = true; rw [hx.pure, hy.pure, hz.pure] <;> rfl) rfl ?_ hv.pure
  exact sSeq_exc (sDrop_exc (mCall_exc (maCons_ok (mVar_ok rfl) (maCons_ok (mVar_ok rfl) (maCons_ok (mVar_ok rfl) maNil_ok))) (h d [])))
theorem odd_exc {x y z v : W} {S : Store} (hx : Nv x) (hy : Nv y) (hz : Nv z) (hv : Nv v) (h : E3 x y z v) : fns T (d + 8) 18 [x, y, z] S = .exc 1 v S := by
  refine fr_excS (η := [some x, some y, some z]) (b := b_odd_mark) (nv := 3) (S' := []) rfl rfl (by show (x.pure && (y.pure && (z.pure && true))) = true; rw [hx.pure, hy.pure, hz.pure] <;> rfl) rfl ?_ hv.pure
  exact sSeq_exc (sDrop_exc (mCall_exc (maCons_ok (mVar_ok rfl) (maCons_ok (mVar_ok rfl) (maCons_ok (mVar_ok rfl) maNil_ok))) (h d [])))
theorem caught_ok {w : Nat} {x y z v : W} {S : Store} (hx : Nv x) (hy : Nv y) (hz : Nv z) (hv : Nv v) (h2 : w = 0 → E2 x y v) (h3 : E3 x y z v) : fns T (d + 9) 29 [.int w, x, y, z] S = .ok (.lst [.str wCard, v]) S := by
  have pv := hv.pure
  have pr : (W.lst [.str wCard, v]).pure = true := by
    show (true && (v.pure && true)) = true
    rw [pv] <;> rfl
  let E : Option W → Env := fun e => [some (.int w), some x, some y, some z, e]
  refine fr_ret (η := E none) (b := b_law_caught) (nv := 5) (S' := []) rfl rfl (by show (true && (x.pure && (y.pure && (z.pure && true)))) = true; rw [hx.pure, hy.pure, hz.pure] <;> rfl) rfl ?_ pr
  have xe : envX (E none) = true := envX_of fun u hu => by
    simp only [E, List.mem_cons, List.not_mem_nil, or_false, Option.some.injEq] at hu
    rcases hu with rfl | rfl | rfl | rfl | hu
    · rfl
    · exact pure_noX hx.pure
    · exact pure_noX hy.pure
    · exact pure_noX hz.pure
    · cases hu
  have tw : ∀ k : Nat, (mTCmp opEq (mVar 0) (mC (.int (k : Int)))) (E none) [] = .ok (decide (w = k)) [] := fun k => mTCmp_ok (mVar_ok rfl) mC_ok eq_len
  have args3 : (maCons (mVar 1) (maCons (mVar 2) (maCons (mVar 3) (maNil)))) (E none) [] = .ok [x, y, z] [] := maCons_ok (mVar_ok rfl) (maCons_ok (mVar_ok rfl) (maCons_ok (mVar_ok rfl) maNil_ok))
  have eb : (mIf (mTCmp opEq (mVar 0) (mC (.int 0))) (mCall (fns T (d + 8)) 16 (maCons (mVar 1) (maCons (mVar 2) (maNil)))) (mIf (mTCmp opEq (mVar 0) (mC (.int 1))) (mCall (fns T (d + 8)) 17 (maCons (mVar 1) (maCons (mVar 2) (maCons (mVar 3) (maNil))))) (mCall (fns T (d + 8)) 18 (maCons (mVar 1) (maCons (mVar 2) (maCons (mVar 3) (maNil))))))) (E none) [] = .exc 1 v [] := by
    have t0 := tw 0
    have t1 := tw 1
    by_cases q : w = 0
    · rw [decide_eq_true q] at t0
      exact mIf_tE t0 (mCall_exc (maCons_ok (mVar_ok rfl) (maCons_ok (mVar_ok rfl) maNil_ok)) (third_exc hx hy hv (h2 q)))
    · rw [decide_eq_false q] at t0
      by_cases q1 : w = 1
      · rw [decide_eq_true q1] at t1
        exact mIf_fE t0 (mIf_tE t1 (mCall_exc args3 (lot_exc hx hy hz hv h3)))
      · rw [decide_eq_false q1] at t1
        exact mIf_fE t0 (mIf_fE t1 (mCall_exc args3 (odd_exc hx hy hz hv h3)))
  have sb : sRet (mLst (maCons (mC (.str [116, 111, 108, 100])) (maCons (mIf (mTCmp opEq (mVar 0) (mC (.int 0))) (mCall (fns T (d + 8)) 16 (maCons (mVar 1) (maCons (mVar 2) (maNil)))) (mIf (mTCmp opEq (mVar 0) (mC (.int 1))) (mCall (fns T (d + 8)) 17 (maCons (mVar 1) (maCons (mVar 2) (maCons (mVar 3) (maNil))))) (mCall (fns T (d + 8)) 18 (maCons (mVar 1) (maCons (mVar 2) (maCons (mVar 3) (maNil))))))) (maNil)))) (E none) [] = .exc 1 v (E none) [] := sRet_exc (mLst_exc (maCons_exc2 mC_ok (maCons_exc eb)))
  have t9 : (mTru (mIsX is_InvalidCard (mVar 4))) (E (some (.exc 1 v))) [] = .ok true [] := mTru_ok (x := .bl true) rfl rfl
  have sh : sRet (mLst (maCons (mIf (mTru (mIsX is_InvalidCard (mVar 4))) (mC (.str [99, 97, 114, 100])) (mC (.str [111, 100, 100]))) (maCons (mXF fl_given (mVar 4)) (maNil)))) ((E none).set 4 (some (.exc 1 v))) [] = .ret (.lst [.str wCard, v]) [] := sRet_ok (mLst_ok (maCons_ok (mIf_tE t9 mC_ok) (maCons_ok (S1 := []) (x := v) rfl maNil_ok)) (by show 2 ≤ bigLine; decide))
  exact sTry_ret sb xe (pure_noX pv) sh (pure_noX pr)
/-! what is none -/
theorem refused_ok (h1 : 1 ≤ m) (h4 : m ≤ 4) (ha : Cd m a) {S : Store} (hw : Well S i) : ∃ S', fns T (d + 11) 30 [.ref i, .str a] S = .ok (.bl true) S' ∧ Kp i S S' := by
  obtain ⟨c0, r0, ea⟩ : ∃ c r, a = c :: r := by
    cases a with
    | nil => have := ha.1; simp at this; omega
    | cons c r => exact ⟨c, r, rfl⟩
  have lr : r0.length + 1 = m := by have := ha.1; rw [ea] at this; exact this
  let e0 : Env := [some (.ref i), some (.str a), none, none, none, none]
  let E : Option W → Option W → Option W → Env := fun n o w => [some (.ref i), some (.str a), some (.int m), n, o, w]
  have rep : ∀ {c n : Nat}, 1 ≤ n → n ≤ 5 → ∀ S : Store, opMulS (.str [c]) (.int n) S = some (.str (List.replicate n c)) := fun {c n} h1 h5 S => by
    show (if (1 : Int) ≤ (n : Int) ∧ (n : Int) ≤ 1000 then some (W.str (List.replicate ((n : Int)).toNat c)) else none) = _
    rw [if_pos (by omega), Int.toNat_natCast]
  have sl : ∀ S : Store, opSl (.str a) (some 1) none S = some (.str r0) := fun S => by
    rw [ea]
    show some (W.str (cutW (c0 :: r0) (some 1) none)) = _
    rw [cut_tl] <;> rfl
  let N : List W := [.str (List.replicate m 51), .str [], .str [48, 48, 48, 48, 48], .non, .int 0, .bl true, .tup [.str [48]], .lst [.str [48, 48]], .str (32 :: r0), .str (List.replicate m 120), .dct [.bl false] [], .str [48, 49, 120, 50]]
  have rz : ∀ {c k : Nat}, Nz k (.str (List.replicate m c)) := .str _ (by rw [List.length_replicate]; omega)
  have vN : ∀ w ∈ N, Vz w := vz_cons (.of (k := 0) rz (by decide)) (vz_cons (.of (k := 0) (.str _ (by decide)) (by decide)) (vz_cons (.of (k := 0) (.str _ (by decide)) (by decide)) (vz_cons (.of (k := 0) .non (by decide)) (vz_cons (.of (k := 0) (.int _) (by decide)) (vz_cons (.of (k := 0) (.bl _) (by decide)) (vz_cons (.of (k := 1) (.tup _ (nz_c (.str _ (by decide)) nz_n) (by show 1 ≤ 1000; decide)) (by decide)) (vz_cons (.of (k := 1) (.lst _ (nz_c (.str _ (by decide)) nz_n) (by show 1 ≤ 1000; decide)) (by decide)) (vz_cons (.of (k := 0) (.str _ (by rw [List.length_cons]; omega)) (by decide)) (vz_cons (.of (k := 0) rz (by decide)) (vz_cons (.inr rfl) (vz_cons (.of (k := 0) (.str _ (by decide)) (by decide)) vz_nil)))))))))))
  have repNo : ∀ c : Nat, isDg c = false → (List.replicate m c).all isDg = false := fun c hc => by
    obtain ⟨k, rfl⟩ : ∃ k, m = k + 1 := ⟨m - 1, by omega⟩
    rw [List.replicate_succ, List.all_cons, hc, Bool.false_and]
  have nN : ∀ w ∈ N, anyB w = false := fun w hw => by
    simp only [N, List.mem_cons, List.not_mem_nil, or_false] at hw
    rcases hw with rfl | rfl | rfl | rfl | rfl | rfl | rfl | rfl | rfl | rfl | rfl | rfl
    · show ((List.replicate m 51).all isDg && _) = false
      rw [repNo 51 rfl, Bool.false_and]
    · rfl
    · rfl
    · rfl
    · rfl
    · rfl
    · rfl
    · rfl
    · rfl
    · show ((List.replicate m 120).all isDg && _) = false
      rw [repNo 120 rfl, Bool.false_and]
    · rfl
    · rfl
  obtain ⟨n, hn, S1, e1, k1⟩ := pick6 (d := d + 8) (v := .lst N) (.inr rfl) hw (by show 0 < 12; decide) (by show 12 ≤ 1000; decide) (pures_of fun w hw => (vN w hw).nv.pure)
  have vn := vN n hn
  have an := nN n hn
  let O : List W := [n, .str (a ++ [48]), .str r0, .str (List.replicate (m + 1) 48), .tup [.str a], .non]
  have vO : ∀ w ∈ O, Vz w := vz_cons vn (vz_cons (.of (k := 0) (.str _ (by rw [List.length_append, ha.1, List.length_singleton]; omega)) (by decide)) (vz_cons (.of (k := 0) (.str _ (by omega)) (by decide)) (vz_cons (.of (k := 0) (.str _ (by rw [List.length_replicate]; omega)) (by decide)) (vz_cons (.of (k := 1) (.tup _ (nz_c (nz_cd h4 ha) nz_n) (by show 1 ≤ 1000; decide)) (by decide)) (vz_cons (.of (k := 0) .non (by decide)) vz_nil)))))
  have cdN : ∀ w : W, anyB w = false → isCd m w = false := fun w hw => by
    cases e : isCd m w with
    | false => rfl
    | true =>
      obtain ⟨s, rfl, hs⟩ := isCd_iff.mp e
      have : anyB (.str s) = true := by
        show (s.all isDg && isBt 1 4 (.int (s.length : Nat))) = true
        rw [hs.2, hs.1, bt_m h1 h4] <;> rfl
      rw [this] at hw
      cases hw
  have lenNo : ∀ s : List Nat, s.length ≠ m → isCd m (.str s) = false := fun s hs => by
    show (s.all isDg && decide (s.length = m)) = false
    rw [decide_eq_false hs, Bool.and_false]
  have nO : ∀ w ∈ O, isCd m w = false := fun w hw => by
    simp only [O, List.mem_cons, List.not_mem_nil, or_false] at hw
    rcases hw with rfl | rfl | rfl | rfl | rfl | rfl
    · exact cdN _ an
    · exact lenNo _ (by rw [List.length_append, ha.1, List.length_singleton]; omega)
    · exact lenNo _ (by omega)
    · exact lenNo _ (by rw [List.length_replicate]; omega)
    · rfl
    · rfl
  obtain ⟨o, ho, S2, e2, k2⟩ := pick6 (d := d + 8) (v := .lst O) (.inr rfl) k1.1 (by show 0 < 6; decide) (by show 6 ≤ 1000; decide) (pures_of fun w hw => (vO w hw).nv.pure)
  have vo := vO o ho
  have co := nO o ho
  have na : Nv (.str a) := .str _ (by have := ha.1; omega)
  have E2n : E2 n .non n := fun d S => ck2_no1 vn.nv .non an
  have E2o : E2 (.str a) o o := fun d S => ck2_no2 h1 h4 ha vo.nv co
  have E3o : E3 (.str a) (.str a) o o := fun d S => ck3_no3 h1 h4 ha ha vo.nv co
  have cn : ∀ (w : Nat) (S : Store), fns T (d + 10) 29 [.int w, n, .non, .non] S = .ok (.lst [.str wCard, n]) S := fun w S => caught_ok (d := d + 1) vn.nv .non .non vn.nv (fun _ => E2n) (E2n.three vn.nv .non .non vn.nv)
  have ce : ∀ (w : Nat) (S : Store), fns T (d + 10) 29 [.int w, .str a, o, .non] S = .ok (.lst [.str wCard, o]) S := fun w S => caught_ok (d := d + 1) na vo.nv .non vo.nv (fun _ => E2o) (E2o.three na vo.nv .non vo.nv)
  have c3 : ∀ (w : Nat) (S : Store), w ≠ 0 → fns T (d + 10) 29 [.int w, .str a, .str a, o] S = .ok (.lst [.str wCard, o]) S := fun w S hw => caught_ok (d := d + 1) na na vo.nv vo.nv (fun z => absurd z hw) E3o
  let dn : W := .lst [.str wCard, n]
  let dd : W := .lst [.str wCard, o]
  have isL : ∀ (v : W), Vz v → ∀ (D : Nat), 7 ≤ D → ∀ S, fns T D 23 [.lst [.str wCard, v], .lst [.str wCard, v]] S = .ok (.bl true) S := fun v hv D hD S => by
    obtain ⟨e, rfl⟩ : ∃ e, D = e + 3 := ⟨D - 3, by omega⟩
    have pl : pures [.str wCard, v] = true := by
      show (true && (v.pure && true)) = true
      rw [hv.nv.pure] <;> rfl
    refine is_lst (d := e + 1) pl fun S => is_tup (d := e) (by show 2 ≤ 1000; decide) pl fun y hy S => ?_
    simp only [List.mem_cons, List.not_mem_nil, or_false] at hy
    rcases hy with rfl | rfl
    · exact is_at (k := 0) (.str _ (by decide)) (by omega) S
    · exact hv.is (by omega) S
  have pL : ∀ v : W, Vz v → (W.lst [.str wCard, v]).pure = true := fun v hv => by
    show (true && (v.pure && true)) = true
    rw [hv.nv.pure] <;> rfl
  have is2 : ∀ (x y : W), (∃ v, Vz v ∧ x = .lst [.str wCard, v]) → (∃ v, Vz v ∧ y = .lst [.str wCard, v]) → ∀ S, fns T (d + 10) 23 [.lst [x, y], .lst [x, y]] S = .ok (.bl true) S := fun x y ⟨v, hv, ex⟩ ⟨u, hu, ey⟩ S => by
    subst ex ey
    have pl : pures [W.lst [.str wCard, v], .lst [.str wCard, u]] = true := by
      show ((W.lst [.str wCard, v]).pure && ((W.lst [.str wCard, u]).pure && true)) = true
      rw [pL v hv, pL u hu] <;> rfl
    refine is_lst (d := d + 8) pl fun S => is_tup (d := d + 7) (by show 2 ≤ 1000; decide) pl fun y hy S => ?_
    simp only [List.mem_cons, List.not_mem_nil, or_false] at hy
    rcases hy with rfl | rfl
    · exact isL v hv _ (by omega) S
    · exact isL u hu _ (by omega) S
  have sN : sSet 3 (mCall (fns T (d + 10)) 22 (maCons (mVar 0) (maCons (mLst (maCons (mBin opMulS (mC (.str [51])) (mVar 2)) (maCons (mC (.str [])) (maCons (mC (.str [48, 48, 48, 48, 48])) (maCons (mC .non) (maCons (mC (.int 0)) (maCons (mC (.bl true)) (maCons (mTup (maCons (mC (.str [48])) (maNil))) (maCons (mLst (maCons (mC (.str [48, 48])) (maNil))) (maCons (mBin opAdd (mC (.str [32])) (mSl (mVar 1) (moSome (mC (.int 1))) (moNone))) (maCons (mBin opMulS (mC (.str [120])) (mVar 2)) (maCons (mDct0) (maCons (mC (.str [48, 49, 120, 50])) (maNil)))))))))))))) (maNil)))) (E none none none) S = .nx (E (some n) none none) S1 := by
    have ad : opAdd (.str [32]) (.str r0) S = some (.str (32 :: r0)) := by
      show (if ([32] : List Nat).length + r0.length ≤ bigLine then some (W.str ([32] ++ r0)) else none) = _
      rw [if_pos (by show 1 + r0.length ≤ bigLine; unfold bigLine; omega)] <;> rfl
    exact sSet_ev (mCall_ok (maCons_ok (mVar_ok rfl) (maCons_ok (mLst_ok (xs := N) (maCons_ok (mBin_ok mC_ok (mVar_ok rfl) (rep h1 (by omega) _)) (maCons_ok mC_ok (maCons_ok mC_ok (maCons_ok mC_ok (maCons_ok mC_ok (maCons_ok mC_ok (maCons_ok (mTup_ok (maCons_ok mC_ok maNil_ok) (by show 1 ≤ bigLine; decide)) (maCons_ok (mLst_ok (maCons_ok mC_ok maNil_ok) (by show 1 ≤ bigLine; decide)) (maCons_ok (mBin_ok mC_ok (mSl_ev (mVar_ok rfl) (moSome_ev mC_ok) moNone_ev (sl _)) ad) (maCons_ok (mBin_ok mC_ok (mVar_ok rfl) (rep h1 (by omega) _)) (maCons_ok (S1 := S) (x := .dct [.bl false] []) rfl (maCons_ok mC_ok maNil_ok)))))))))))) (by show 12 ≤ bigLine; decide)) maNil_ok)) e1) rfl
  have sO : sSet 4 (mCall (fns T (d + 10)) 22 (maCons (mVar 0) (maCons (mLst (maCons (mVar 3) (maCons (mBin opAdd (mVar 1) (mC (.str [48]))) (maCons (mSl (mVar 1) (moSome (mC (.int 1))) (moNone)) (maCons (mBin opMulS (mC (.str [48])) (mBin opAdd (mVar 2) (mC (.int 1)))) (maCons (mTup (maCons (mVar 1) (maNil))) (maCons (mC .non) (maNil)))))))) (maNil)))) (E (some n) none none) S1 = .nx (E (some n) (some o) none) S2 := by
    have ad : opAdd (.str a) (.str [48]) S1 = some (.str (a ++ [48])) := by
      show (if a.length + 1 ≤ bigLine then some (W.str (a ++ [48])) else none) = _
      rw [if_pos (by rw [ha.1]; unfold bigLine; omega)]
    exact sSet_ev (mCall_ok (maCons_ok (mVar_ok rfl) (maCons_ok (mLst_ok (xs := O) (maCons_ok (mVar_ok rfl) (maCons_ok (mBin_ok (mVar_ok rfl) mC_ok ad) (maCons_ok (mSl_ev (mVar_ok rfl) (moSome_ev mC_ok) moNone_ev (sl _)) (maCons_ok (mBin_ok (y := .int ((m + 1 : Nat) : Int)) mC_ok (mBin_ok (mVar_ok rfl) mC_ok rfl) (rep (by omega) (by omega) _)) (maCons_ok (mTup_ok (maCons_ok (mVar_ok rfl) maNil_ok) (by show 1 ≤ bigLine; decide)) (maCons_ok mC_ok maNil_ok)))))) (by show 6 ≤ bigLine; decide)) maNil_ok)) e2) rfl
  have body : ∀ (w : Nat), p_law_refused_right_4b (fns T (d + 10)) (E (some n) (some o) (some (.int w))) S2 = .nx (E (some n) (some o) (some (.int w))) S2 := fun w => by
    refine sIf_fE (f := sRet (mC (.bl false))) (mTNot_tt (mCall_ok (maCons_ok (mLst_ok (maCons_ok (mCall_ok (maCons_ok (mVar_ok rfl) (maCons_ok (mVar_ok rfl) (maCons_ok mC_ok (maCons_ok mC_ok maNil_ok)))) (cn w S2)) (maCons_ok (mCall_ok (maCons_ok (mVar_ok rfl) (maCons_ok (mVar_ok rfl) (maCons_ok (mVar_ok rfl) (maCons_ok mC_ok maNil_ok)))) (ce w S2)) maNil_ok)) (by show 2 ≤ bigLine; decide)) (maCons_ok (x := .lst [dn, dd]) (S1 := S2) rfl maNil_ok)) (is2 dn dd ⟨n, vn, rfl⟩ ⟨o, vo, rfl⟩ S2))) sNx_ev
  have s4 : p_law_refused_right_4 (fns T (d + 10)) (E (some n) (some o) none) S2 = .nx (E (some n) (some o) (some (.int ((2 : Nat) : Int)))) S2 := by
    unfold p_law_refused_right_4
    refine (sFor_ok (S1 := S2) (xs := [.int ((0 : Nat) : Int), .int ((1 : Nat) : Int), .int ((2 : Nat) : Int)]) rfl).trans ?_
    rw [forL_nx (η1 := E (some n) (some o) (some (.int ((0 : Nat) : Int)))) (S1 := S2) rfl (body 0), forL_nx (η1 := E (some n) (some o) (some (.int ((1 : Nat) : Int)))) (S1 := S2) rfl (body 1), forL_nx (η1 := E (some n) (some o) (some (.int ((2 : Nat) : Int)))) (S1 := S2) rfl (body 2)] <;> rfl
  have cl := comp_gen (S := S2) (it := miSeq (mLst (maCons (mC (.int 1)) (maCons (mC (.int 2)) (maNil))))) (own := [5]) (g := gVar 5) (t := mtYes) (e := mCall (fns T (d + 10)) 29 (maCons (mVar 5) (maCons (mVar 1) (maCons (mVar 1) (maCons (mVar 4) (maNil)))))) (η := E (some n) (some o) (some (.int ((2 : Nat) : Int)))) (u := fun (w : Nat) => W.int w) (v := fun _ => dd) (l := [1, 2]) rfl (fun w hw => ⟨E (some n) (some o) (some (.int w)), rfl, rfl, mCall_ok (maCons_ok (mVar_ok rfl) (maCons_ok (mVar_ok rfl) (maCons_ok (mVar_ok rfl) (maCons_ok (mVar_ok rfl) maNil_ok)))) (c3 w S2 (by
    simp only [List.mem_cons, List.not_mem_nil, or_false] at hw
    omega))⟩) (by show 2 ≤ bigLine; decide)
  have em : opMul (.lst [dd]) (.int 2) S2 = some (.lst [dd, dd]) := rfl
  have kk := k1.trans k2
  refine ⟨S2, ?_, kk⟩
  refine nf_ret (η := e0) (b := b_law_refused_right) (np := 2) (nv := 6) rfl rfl rfl ?_ rfl kk.2.1
  unfold b_law_refused_right
  exact sSeq_nE (η1 := E none none none) (S1 := S) (sSet_ev (mBi_ok (maCons_ok (mVar_ok rfl) maNil_ok) (len_str ha.1)) rfl) (sSeq_nE sN (sSeq_nE sO (sSeq_nE s4 (sRet_ok (mCall_ok (maCons_ok cl (maCons_ok (mBin_ok (mLst_ok (maCons_ok (x := dd) (S1 := S2) rfl maNil_ok) (by show 1 ≤ bigLine; decide)) mC_ok em) maNil_ok)) (is2 dd dd ⟨o, vo, rfl⟩ ⟨o, vo, rfl⟩ S2))))))
end
end Lw
namespace Lw
open Mp C63
/-! the law: a round -/
theorem c_deckL (d : Nat) : [1, 2, 3, 4].all (fun m => isDeckT (fns T (d + 1) 24 [.int ((m : Nat) : Int)] []) (cardsD m)) = true := by kernel_rfl
theorem deckL_ok {d m : Nat} {S : Store} (h1 : 1 ≤ m) (h4 : m ≤ 4) : fns T (d + 1) 24 [.int m] S = .ok (hW (cardsD m)) S := by
  have hm : m ∈ [1, 2, 3, 4] := by simp; omega
  exact fr_any rfl (isDeckT_ok (List.all_eq_true.mp (c_deckL d) m hm))
section
variable {d m i : Nat}
theorem chars_of : ∀ {ys : List W}, (∀ y ∈ ys, ∃ c, isDg c = true ∧ y = .str [c]) → ∃ L : List Nat, ys = L.map (fun c => .str [c]) ∧ L.all isDg = true
  | [], _ => ⟨[], rfl, rfl⟩
  | y :: r, h => by
    obtain ⟨c, hc, rfl⟩ := h y (List.mem_cons_self ..)
    obtain ⟨L, e, ha⟩ := chars_of fun z hz => h z (List.mem_cons_of_mem _ hz)
    exact ⟨c :: L, by rw [e] <;> rfl, by rw [List.all_cons, hc, ha] <;> rfl⟩
theorem card_draw {S : Store} (hw : Well S i) (h4 : m ≤ 4) : ∃ (c : List Nat) (S' : Store), fns T (d + 2) 26 [.ref i, .int m] S = .ok (.str c) S' ∧ Cd m c ∧ Kp i S S' := by
  obtain ⟨ys, S', e, l, p, k⟩ := comp_eff (it := miRng rng1 (maCons (mVar 1) (maNil))) (own := [2]) (g := gVar 2) (e := mBin opIx (mC (.str [48, 49, 50])) (mCall (fns T (d + 1)) 21 (maCons (mVar 0) (maCons (mC (.int 3)) (maNil))))) (η := [some (.ref i), some (.int m), none]) (S := S) (S0 := S) (xs := (List.range m).map fun (i : Nat) => W.int i) (fun S1 => Kp i S S1) (fun y => ∃ c, isDg c = true ∧ y = .str [c]) (miRng_ok (maCons_ok (mVar_ok rfl) maNil_ok) (rng1_ev (by omega))) (Kp.refl hw) (fun x hx S1 k1 => by
    obtain ⟨v, v1, S2, e2, k2⟩ := take6 (d := d) (n := 3) k1.1 (by decide) (by decide)
    have r := ix012 (S := S2) (x := (v : Int)) (by omega) v1
    refine ⟨[some (.ref i), some (.int m), some x], .str [48 + ((v : Int)).toNat], S2, rfl, mBin_ok mC_ok (mCall_ok (maCons_ok (mVar_ok rfl) (maCons_ok mC_ok maNil_ok)) e2) r, ⟨_, ?_, rfl⟩, k1.trans k2⟩
    have : v = 0 ∨ v = 1 ∨ v = 2 := by omega
    rcases this with rfl | rfl | rfl <;> rfl) (by unfold bigLine; rw [List.length_map, List.length_range]; omega)
  obtain ⟨L, eL, ha⟩ := chars_of p
  rw [List.length_map, List.length_range] at l
  have lL : L.length = m := by rw [← l, eL, List.length_map]
  refine ⟨L, S', ?_, ⟨lL, ha⟩, k⟩
  refine nf_ret (η := [some (.ref i), some (.int m), none]) (b := b_law_drawn_card) (np := 2) (nv := 3) rfl rfl rfl ?_ rfl k.2.1
  rw [eL] at e
  exact sRet_ok (join_ok e (by omega))
def roE (i : Nat) (a b c e f g : Option W) : Env := [some (.ref i), a, b, c, e, f, g]
def OddAll : Prop := ∀ d, OddOk d
theorem turn_ok (ho : OddAll) (h1 : 1 ≤ m) (h4 : m ≤ 4) {S : Store} (hw : Well S i) (t x y z g : Option W) : ∃ x' y' z' S', p_law_right_1b1b (fns T (d + 11)) (roE i (some (.int m)) t x y z g) S = .nx (roE i (some (.int m)) t x' y' z' g) S' ∧ Kp i S S' := by
  obtain ⟨a, S1, e1, ca, k1⟩ := card_draw (d := d + 9) (i := i) (m := m) hw h4
  obtain ⟨b, S2, e2, cb, k2⟩ := card_draw (d := d + 9) (i := i) (m := m) k1.1 h4
  obtain ⟨c, S3, e3, cc, k3⟩ := card_draw (d := d + 9) (i := i) (m := m) k2.1 h4
  obtain ⟨S4, e4, k4⟩ := refused_ok (d := d) (i := i) h1 h4 ca k3.1
  refine ⟨some (.str a), some (.str b), some (.str c), S4, ?_, ((k1.trans k2).trans k3).trans k4⟩
  have p := pair_ok (d := d + 2) (S := S3) h1 h4 ca cb cc
  have q1 := three_ok (d := d + 2) (S := S3) (ho _) h1 h4 ca cb cc
  have q2 := three_ok (d := d + 2) (S := S3) (ho _) h1 h4 ca cb (thr_cd ca cb)
  have q3 := three_ok (d := d + 2) (S := S3) (ho _) h1 h4 ca ca cc
  have q4 := three_ok (d := d + 2) (S := S3) (ho _) h1 h4 ca ca ca
  have lt := lthird_ok (d := d + 10) (S := S3) (by omega) ca cb
  unfold p_law_right_1b1b
  have draw : ∀ {η : Env} {S S' : Store} {x : List Nat}, η[0]? = some (some (.ref i)) → η[1]? = some (some (.int m)) → fns T (d + 11) 26 [.ref i, .int m] S = .ok (.str x) S' → (mCall (fns T (d + 11)) 26 (maCons (mVar 0) (maCons (mVar 1) (maNil)))) η S = .ok (.str x) S' := fun h0 h1 e => mCall_ok (maCons_ok (mVar_ok h0) (maCons_ok (mVar_ok h1) maNil_ok)) e
  refine sSeq_nE (sPar3_ev (η1 := roE i (some (.int m)) t (some (.str a)) (some (.str b)) (some (.str c)) g) (S1 := S3) (maCons_ok (draw rfl rfl e1) (maCons_ok (draw rfl rfl e2) (maCons_ok (draw rfl rfl e3) maNil_ok))) rfl) ?_
  refine sSeq_nE (sIf_fE (f := sRet (mC (.bl false))) (mTOr_fE (mTNot_tt (mCall_ok (maCons_ok (mVar_ok rfl) (maCons_ok (mVar_ok rfl) (maCons_ok (mVar_ok rfl) maNil_ok))) p)) (mTOr_fE (mTNot_tt (mCall_ok (maCons_ok (mVar_ok rfl) (maCons_ok (mVar_ok rfl) (maCons_ok (mVar_ok rfl) maNil_ok))) q1)) (mTNot_tt (mCall_ok (maCons_ok (mVar_ok rfl) (maCons_ok (mVar_ok rfl) (maCons_ok (mCall_ok (maCons_ok (mVar_ok rfl) (maCons_ok (mVar_ok rfl) maNil_ok)) lt) maNil_ok))) q2)))) sNx_ev) ?_
  exact sIf_fE (f := sRet (mC (.bl false))) (mTOr_fE (mTNot_tt (mCall_ok (maCons_ok (mVar_ok rfl) (maCons_ok (mVar_ok rfl) (maCons_ok (mVar_ok rfl) maNil_ok))) q3)) (mTOr_fE (mTNot_tt (mCall_ok (maCons_ok (mVar_ok rfl) (maCons_ok (mVar_ok rfl) (maCons_ok (mVar_ok rfl) maNil_ok))) q4)) (mTNot_tt (mCall_ok (maCons_ok (mVar_ok rfl) (maCons_ok (mVar_ok rfl) maNil_ok)) e4)))) sNx_ev
theorem turns_ok (ho : OddAll) (h1 : 1 ≤ m) (h4 : m ≤ 4) {g : Option W} : ∀ (ks : List Nat) (S : Store) (t x y z : Option W), Well S i → ∃ t' x' y' z' S', forL (gVar 2) (p_law_right_1b1b (fns T (d + 11))) (ks.map fun (k : Nat) => W.int k) (roE i (some (.int m)) t x y z g) S = .nx (roE i (some (.int m)) t' x' y' z' g) S' ∧ Kp i S S'
  | [], S, t, x, y, z, hw => ⟨t, x, y, z, S, rfl, .refl hw⟩
  | k :: r, S, t, x, y, z, hw => by
    obtain ⟨x1, y1, z1, S1, e1, k1⟩ := turn_ok (d := d) ho h1 h4 hw (some (.int (k : Nat))) x y z g
    obtain ⟨t', x', y', z', S', e, k'⟩ := turns_ok ho h1 h4 (g := g) r S1 (some (.int (k : Nat))) x1 y1 z1 k1.1
    refine ⟨t', x', y', z', S', ?_, k1.trans k'⟩
    rw [List.map_cons, forL_nx (η1 := roE i (some (.int m)) (some (.int (k : Nat))) x y z g) (S1 := S) rfl e1]
    exact e
theorem many_ok (ho : OddAll) : ∀ (ms : List Nat) (S : Store) (a t x y z : Option W), (∀ m ∈ ms, 1 ≤ m ∧ m ≤ 4) → Well S i → ∃ a' t' x' y' z' S', forL (gVar 1) (p_law_right_1b (fns T (d + 11))) (ms.map fun (k : Nat) => W.int k) (roE i a t x y z none) S = .nx (roE i a' t' x' y' z' none) S' ∧ Kp i S S'
  | [], S, a, t, x, y, z, _, hw => ⟨a, t, x, y, z, S, rfl, .refl hw⟩
  | m :: r, S, a, t, x, y, z, hm, hw => by
    have hh := hm m (List.mem_cons_self ..)
    obtain ⟨t1, x1, y1, z1, S1, e1, k1⟩ := turns_ok (d := d) (i := i) ho hh.1 hh.2 (g := none) [0, 1, 2, 3, 4, 5] S t x y z hw
    have s1 : p_law_right_1b (fns T (d + 11)) (roE i (some (.int m)) t x y z none) S = .nx (roE i (some (.int m)) t1 x1 y1 z1 none) S1 := by
      show p_law_right_1b1 _ _ _ = _
      unfold p_law_right_1b1
      exact (sFor_ok (S1 := S) (xs := ([0, 1, 2, 3, 4, 5] : List Nat).map fun (k : Nat) => W.int k) rfl).trans e1
    obtain ⟨a', t', x', y', z', S', e, k'⟩ := many_ok ho r S1 (some (.int m)) t1 x1 y1 z1 (fun k hk => hm k (List.mem_cons_of_mem _ hk)) k1.1
    refine ⟨a', t', x', y', z', S', ?_, k1.trans k'⟩
    rw [List.map_cons, forL_nx (η1 := roE i (some (.int m)) t x y z none) (S1 := S) rfl s1]
    exact e
/-- all pairs of a small deck -/
theorem all_pairs (h1 : 1 ≤ m) (h4 : m ≤ 4) {S : Store} (hw : Well S i) (t x y z g : Option W) : ∃ g' S', p_law_right_2b (fns T (d + 11)) (roE i (some (.int m)) t x y z g) S = .nx (roE i (some (.int m)) t x y z g') S' ∧ Kp i S S' := by
  obtain ⟨by_, S1, e1, cb, k1⟩ := card_draw (d := d + 9) (i := i) (m := m) hw h4
  have qd := fun S => deckL_ok (d := d + 10) (m := m) (S := S) h1 h4
  have ld := deck_len h4
  refine ⟨some (.str by_), S1, ?_, k1⟩
  have s1 : sSet 6 (mCall (fns T (d + 11)) 26 (maCons (mVar 0) (maCons (mVar 1) (maNil)))) (roE i (some (.int m)) t x y z g) S = .nx (roE i (some (.int m)) t x y z (some (.str by_))) S1 := sSet_ev (mCall_ok (maCons_ok (mVar_ok rfl) (maCons_ok (mVar_ok rfl) maNil_ok)) e1) rfl
  have inner : ∀ s ∈ cardsD m, (mComp (miSeq (mCall (fns T (d + 11)) 24 (maCons (mVar 1) (maNil)))) [4] (gVar 4) (mTNot (mTru (mCall (fns T (d + 11)) 27 (maCons (mVar 3) (maCons (mVar 4) (maCons (mVar 6) (maNil))))))) (mVar 4)) (roE i (some (.int m)) t (some (.str s)) y z (some (.str by_))) S1 = .ok (.lst []) S1 := fun s hs => by
    have q := comp_flt (S := S1) (it := miSeq (mCall (fns T (d + 11)) 24 (maCons (mVar 1) (maNil)))) (own := [4]) (g := gVar 4) (t := mTNot (mTru (mCall (fns T (d + 11)) 27 (maCons (mVar 3) (maCons (mVar 4) (maCons (mVar 6) (maNil))))))) (e := mVar 4) (η := roE i (some (.int m)) t (some (.str s)) y z (some (.str by_))) (u := W.str) (v := W.str) (P := fun _ => false) (l := cardsD m) (miSeq_ev (mCall_ok (maCons_ok (mVar_ok rfl) maNil_ok) (qd S1)) rfl) (fun o ho => ⟨roE i (some (.int m)) t (some (.str s)) (some (.str o)) z (some (.str by_)), rfl, mTNot_tt (mCall_ok (maCons_ok (mVar_ok rfl) (maCons_ok (mVar_ok rfl) (maCons_ok (mVar_ok rfl) maNil_ok))) (pair_ok (d := d + 2) h1 h4 (mem_deck.mp hs) (mem_deck.mp ho) cb)), fun q => by cases q⟩) (by unfold bigLine; omega)
    have e0 : (cardsD m).filter (fun _ => false) = [] := List.filter_eq_nil_iff.mpr fun _ _ => by decide
    rw [e0, List.map_nil] at q
    exact q
  have outer := comp_flt (S := S1) (it := miSeq (mCall (fns T (d + 11)) 24 (maCons (mVar 1) (maNil)))) (own := [3]) (g := gVar 3) (t := mTCmp opNe (mComp (miSeq (mCall (fns T (d + 11)) 24 (maCons (mVar 1) (maNil)))) [4] (gVar 4) (mTNot (mTru (mCall (fns T (d + 11)) 27 (maCons (mVar 3) (maCons (mVar 4) (maCons (mVar 6) (maNil))))))) (mVar 4)) (mLst (maNil))) (e := mVar 3) (η := roE i (some (.int m)) t x y z (some (.str by_))) (u := W.str) (v := W.str) (P := fun _ => false) (l := cardsD m) (miSeq_ev (mCall_ok (maCons_ok (mVar_ok rfl) maNil_ok) (qd S1)) rfl) (fun s hs => ⟨roE i (some (.int m)) t (some (.str s)) y z (some (.str by_)), rfl, mTCmp_ok (inner s hs) (mLst_ok maNil_ok (Nat.zero_le _)) rfl, fun q => by cases q⟩) (by unfold bigLine; omega)
  have e0 : (cardsD m).filter (fun _ => false) = [] := List.filter_eq_nil_iff.mpr fun _ _ => by decide
  rw [e0, List.map_nil] at outer
  exact sSeq_nE s1 (sIf_fE (f := sRet (mC (.bl false))) (mTCmp_ok (b := false) outer (mLst_ok maNil_ok (Nat.zero_le _)) rfl) sNx_ev)
theorem round_ok (ho : OddAll) {S : Store} (hw : Well S i) : ∃ S', fns T (d + 12) 31 [.ref i] S = .ok (.bl true) S' ∧ Kp i S S' := by
  obtain ⟨a, t, x, y, z, S1, e1, k1⟩ := many_ok (d := d) (i := i) ho [1, 2, 3, 4] S none none none none none (fun m hm => by
    simp only [List.mem_cons, List.not_mem_nil, or_false] at hm
    omega) hw
  obtain ⟨g1, S2, e2, k2⟩ := all_pairs (d := d) (i := i) (m := 1) (by decide) (by decide) k1.1 t x y z none
  obtain ⟨g2, S3, e3, k3⟩ := all_pairs (d := d) (i := i) (m := 2) (by decide) (by decide) k2.1 t x y z g1
  have kk := (k1.trans k2).trans k3
  refine ⟨S3, ?_, kk⟩
  refine nf_ret (η := roE i none none none none none none) (b := b_law_right) (np := 1) (nv := 7) rfl rfl rfl ?_ rfl kk.2.1
  unfold b_law_right
  refine sSeq_nE (η1 := roE i a t x y z none) (S1 := S1) ?_ (sSeq_nE (η1 := roE i (some (.int ((2 : Nat) : Int))) t x y z g2) (S1 := S3) ?_ (sRet_ok mC_ok))
  · unfold p_law_right_1
    exact (sFor_ok (S1 := S) (xs := ([1, 2, 3, 4] : List Nat).map fun (k : Nat) => W.int k) rfl).trans e1
  · unfold p_law_right_2
    refine (sFor_ok (S1 := S1) (xs := [.int ((1 : Nat) : Int), .int ((2 : Nat) : Int)]) rfl).trans ?_
    rw [forL_nx (η1 := roE i (some (.int ((1 : Nat) : Int))) t x y z none) (S1 := S1) rfl e2, forL_nx (η1 := roE i (some (.int ((2 : Nat) : Int))) t x y z g1) (S1 := S2) rfl e3] <;> rfl
theorem law_okF (φ : Fns) (ns : List Int) (hwell : ∀ (t : Nat) (S : Store), t ≤ 1000 → ∃ a b : Int, 0 ≤ a ∧ 0 ≤ b ∧ φ 20 [.scr (ns.map .int), .int t] S = .ok (.ref S.length) (S ++ [.lst [.int a, .int b, .int 0]])) (hround : ∀ (i : Nat) (S : Store), Well S i → ∃ S', φ 31 [.ref i] S = .ok (.bl true) S') : Rt (b_law φ [some (.scr (ns.map .int)), none] []) (.bl true) := by
  obtain ⟨q, hq, eq⟩ : ∃ q : Nat, q ≤ 1000 ∧ (miRng rng1 (maCons (mBi baMax2 (maCons (mC (.int 2)) (maCons (mBi baMin2 (maCons (mBi baLen (maCons (mVar 0) (maNil))) (maCons (mC (.int 3)) (maNil)))) (maNil)))) (maNil))) [some (.scr (ns.map .int)), none] [] = .ok ((List.range q).map fun (i : Nat) => W.int i) [] := by
    obtain ⟨q, hq, e⟩ : ∃ q : Nat, q ≤ 1000 ∧ (if (if (3 : Int) < ((ns.map W.int).length : Int) then (3 : Int) else ((ns.map W.int).length : Int)) > 2 then (if (3 : Int) < ((ns.map W.int).length : Int) then (3 : Int) else ((ns.map W.int).length : Int)) else 2) = (q : Int) := by
      refine ⟨(if (if (3 : Int) < ((ns.map W.int).length : Int) then (3 : Int) else ((ns.map W.int).length : Int)) > 2 then (if (3 : Int) < ((ns.map W.int).length : Int) then (3 : Int) else ((ns.map W.int).length : Int)) else 2).toNat, ?_, ?_⟩
      · split <;> split <;> omega
      · split <;> split <;> omega
    refine ⟨q, hq, miRng_ok (ws := [.int (q : Int)]) ?_ (rng1_ev (by omega))⟩
    rw [← e]
    rfl
  obtain ⟨ys, S', e, l, p, _⟩ := comp_eff (it := miRng rng1 (maCons (mBi baMax2 (maCons (mC (.int 2)) (maCons (mBi baMin2 (maCons (mBi baLen (maCons (mVar 0) (maNil))) (maCons (mC (.int 3)) (maNil)))) (maNil)))) (maNil))) (own := [1]) (g := gVar 1) (e := mCall φ 31 (maCons (mCall φ 20 (maCons (mVar 0) (maCons (mVar 1) (maNil)))) (maNil))) (η := [some (.scr (ns.map .int)), none]) (S := []) (S0 := []) (xs := (List.range q).map fun (i : Nat) => W.int i) (fun _ => True) (fun y => y = .bl true) eq True.intro (fun x hx S _ => by
    obtain ⟨t, ht, rfl⟩ := List.mem_map.mp hx
    have ht := List.mem_range.mp ht
    obtain ⟨a, b, ha, hb, ew⟩ := hwell t S (by omega)
    obtain ⟨S2, er⟩ := hround S.length (S ++ [.lst [.int a, .int b, .int 0]]) (Well.new ha hb)
    exact ⟨[some (.scr (ns.map .int)), some (.int t)], .bl true, S2, rfl, mCall_ok (S1 := S ++ [.lst [.int a, .int b, .int 0]]) (maCons_ok (S1 := S ++ [.lst [.int a, .int b, .int 0]]) (mCall_ok (S1 := S) (maCons_ok (S1 := S) (mVar_ok rfl) (maCons_ok (S1 := S) (mVar_ok rfl) rfl)) ew) rfl) er, rfl, True.intro⟩) (by unfold bigLine; rw [List.length_map, List.length_range]; omega)
  have ey : ys = ys.map fun _ => W.bl true := by
    conv => lhs; rw [← List.map_id ys]
    exact List.map_congr_left fun y hy => p y hy
  have ea : baAll [.lst ys] S' = some (.bl true) := by
    rw [ey, all_trues]
  exact ⟨S', sRet_ok (mBi_ok (maCons_ok e maNil_ok) ea)⟩
end
theorem law_ok (ho : OddAll) (ns : List Int) (hl : ns.length ≤ 63) : Rt (b_law (fns T 59) [some (.scr (ns.map .int)), none] []) (.bl true) :=
  law_okF (fns T 59) ns (fun t S ht => well_callA (T := T) (d := 58) (k := 20) (t := t) (S := S) (ns := ns) rfl hl ht) (fun i S hw => by
    obtain ⟨S', e, _⟩ := round_ok (d := 47) ho hw
    exact ⟨S', e⟩)
theorem main_of (ho : OddAll) (ns : List Int) (hl : ns.length ≤ 63) : ∃ S, law 60 [.scr (ns.map .int)] [] = .ok (.bl true) S := law_end (d := 59) (nv := 2) (b := b_law) rfl (law_ok ho ns hl)
end Lw
namespace Lw
open Mp C63
/-! odd_mark_of: the program's walk -/
theorem minZ_head {n : Int} {r : List Int} (h : ∀ x ∈ r, n ≤ x) : minZ n r = n := by
  obtain ⟨h1, h2, _⟩ := minZ_le r n
  rcases h1 with e | e
  · exact e
  · have := h _ e
    omega
theorem ints_map : ∀ l : List Nat, intsOf (l.map fun (i : Nat) => W.int i) = some (l.map fun (i : Nat) => (i : Int))
  | [] => rfl
  | i :: r => by
    show (intsOf (r.map fun (i : Nat) => W.int i)).map ((i : Int) :: ·) = _
    rw [ints_map r] <;> rfl
theorem minN_ok {l : List Nat} {S : Store} (h : l.Pairwise (· < ·)) : baMinN [.lst (l.map fun (i : Nat) => W.int i)] S = some (oddW l) := by
  show ((intsOf (l.map fun (i : Nat) => W.int i)).bind fun ns => match ns with
    | [] => some W.non
    | n :: r => some (.int (minZ n r))) = _
  rw [ints_map]
  cases l with
  | nil => rfl
  | cons i r =>
    show some (W.int (minZ (i : Int) (r.map fun (i : Nat) => (i : Int)))) = some (W.int (i : Nat))
    rw [minZ_head fun x hx => by
      obtain ⟨j, hj, rfl⟩ := List.mem_map.mp hx
      have := List.rel_of_pairwise_cons h hj
      omega]
theorem enumL_map {α : Type} (f : α → W) : ∀ (l : List α) (k : Nat), enumL (k : Int) (l.map f) = (l.zipIdx k).map fun p => .tup [.int (p.2 : Nat), f p.1]
  | [], _ => rfl
  | x :: r, k => by
    rw [List.map_cons, List.zipIdx_cons, List.map_cons]
    show _ :: enumL ((k : Int) + 1) (r.map f) = _
    have e : (k : Int) + 1 = ((k + 1 : Nat) : Int) := by omega
    rw [e, enumL_map f r (k + 1)]
def three (a b c : List Nat) (i : Nat) : W := .tup [.str [a.getD i 48], .str [b.getD i 48], .str [c.getD i 48]]
theorem zip3_range {a b c : List Nat} {m : Nat} (ha : a.length = m) (hb : b.length = m) (hc : c.length = m) : tupsW3 (a.map fun c => W.str [c]) (b.map fun c => W.str [c]) (c.map fun c => W.str [c]) = (List.range m).map (three a b c) := by
  apply List.ext_getElem?
  intro i
  by_cases hi : i < m
  · have h1 : a[i]? = some (a.getD i 48) := by rw [List.getD_eq_getElem?_getD, List.getElem?_eq_getElem (by omega)] <;> rfl
    have h2 : b[i]? = some (b.getD i 48) := by rw [List.getD_eq_getElem?_getD, List.getElem?_eq_getElem (by omega)] <;> rfl
    have h3 : c[i]? = some (c.getD i 48) := by rw [List.getD_eq_getElem?_getD, List.getElem?_eq_getElem (by omega)] <;> rfl
    rw [List.getElem?_map, List.getElem?_range hi]
    unfold tupsW3
    have z : ((a.map fun c => W.str [c]).zip ((b.map fun c => W.str [c]).zip (c.map fun c => W.str [c])))[i]? = some (W.str [a.getD i 48], (W.str [b.getD i 48], W.str [c.getD i 48])) := by
      rw [List.getElem?_zip_eq_some]
      refine ⟨by rw [List.getElem?_map, h1] <;> rfl, ?_⟩
      rw [List.getElem?_zip_eq_some]
      exact ⟨by rw [List.getElem?_map, h2] <;> rfl, by rw [List.getElem?_map, h3] <;> rfl⟩
    rw [List.getElem?_map, z] <;> rfl
  · rw [List.getElem?_eq_none (by rw [tupsW3_len, List.length_map, List.length_map, List.length_map]; omega), List.getElem?_eq_none (by rw [List.length_map, List.length_range]; omega)]
theorem enumZ3_ok {a b c : List Nat} {m : Nat} (h1 : 1 ≤ m) (ha : a.length = m) (hb : b.length = m) (hc : c.length = m) : enumZ3 [.str a, .str b, .str c] = some ((List.range m).map fun (i : Nat) => .tup [.int i, three a b c i]) := by
  show (if 0 < (a.map fun c => W.str [c]).length ∧ (b.map fun c => W.str [c]).length = (a.map fun c => W.str [c]).length ∧ (c.map fun c => W.str [c]).length = (a.map fun c => W.str [c]).length then some (enumL 0 (tupsW3 (a.map fun c => W.str [c]) (b.map fun c => W.str [c]) (c.map fun c => W.str [c]))) else none) = _
  rw [List.length_map, List.length_map, List.length_map, if_pos ⟨by omega, by omega, by omega⟩, zip3_range ha hb hc]
  have e := enumL_map (three a b c) (List.range m) 0
  have e0 : ((0 : Nat) : Int) = 0 := rfl
  rw [e0] at e
  rw [e]
  congr 1
  apply List.ext_getElem?
  intro i
  rw [List.getElem?_map, List.getElem?_map, List.getElem?_zipIdx]
  by_cases hi : i < m
  · rw [List.getElem?_range hi]
    show some (W.tup [.int ((0 + i : Nat) : Int), three a b c i]) = some (W.tup [.int (i : Nat), three a b c i])
    rw [Nat.zero_add]
  · rw [List.getElem?_eq_none (by rw [List.length_range]; omega)] <;> rfl
theorem odd_ok (d : Nat) : OddOk d := by
  intro m a b c S h1 h4 ha hb hc
  have pw : (twoL m a b c).Pairwise (· < ·) := List.Pairwise.filter _ List.pairwise_lt_range
  let E (v3 v4 v5 : Option W) : Env := [some (.str a), some (.str b), some (.str c), v3, v4, v5]
  have cp : (mComp (miAll enumZ3 (maCons (mVar 0) (maCons (mVar 1) (maCons (mVar 2) (maNil))))) [4, 5] (gTupW (gsCons (gVar 4) (gsCons (gVar 5) (gsNil)))) (mTCmp opEq (mSet lenSetR (mVar 5)) (mC (.int 2))) (mVar 4)) (E none none none) [] = .ok (.lst ((twoL m a b c).map fun (i : Nat) => W.int i)) [] := by
    refine comp_flt (u := fun i : Nat => .tup [.int i, three a b c i]) (v := fun (i : Nat) => W.int i) (P := fun i => decide (kd (a.getD i 48) (b.getD i 48) (c.getD i 48) = 2)) (l := List.range m) (miAll_ev (maCons_ok (mVar_ok rfl) (maCons_ok (mVar_ok rfl) (maCons_ok (mVar_ok rfl) maNil_ok))) (enumZ3_ok h1 ha.1 hb.1 hc.1)) (fun i hi => ?_) (by rw [List.length_range]; unfold bigLine; omega)
    exact ⟨E none (some (.int (i : Nat))) (some (three a b c i)), rfl, mTCmp_ok (mSet_ev (mVar_ok rfl) rfl kind_set) mC_ok (eq_len (b := 2)), fun _ => rfl⟩
  refine fr_ret (η := E none none none) (b := b_odd_mark_of) (nv := 6) (S' := []) rfl rfl rfl rfl ?_ (odd_pure _)
  exact sSeq_nE (sSet_ev (η1 := E (some (.lst ((twoL m a b c).map fun (i : Nat) => W.int i))) none none) cp rfl) (sRet_ok (mBi_ok (maCons_ok (mVar_ok rfl) maNil_ok) (minN_ok pw)))
theorem main (ns : List Int) (hl : ns.length ≤ 63) : ∃ S, law 60 [.scr (ns.map .int)] [] = .ok (.bl true) S := main_of odd_ok ns hl
end Lw
open PySem PySem.W PySem.Calls PyProof.Rows
theorem PySem.Challenge.cw_threealike_k04_whole_thirds_of_cards_holds : PySem.Challenge.rw_threealike_k04_whole_thirds_of_cards.Holds := by
  w_on; o_law
  refine HandSHeadRun.head_any (r := OpenLaw.row PySem.Challenge.rw_threealike_k04_whole_thirds_of_cards) (q := view (OpenLaw.row PySem.Challenge.rw_threealike_k04_whole_thirds_of_cards).prog [45]) (H := Lw.hk) (ob := Lw.ob) (M := 30000) (loose := Lw.loose) (d := HandSHeadRun.topDef (OpenLaw.row PySem.Challenge.rw_threealike_k04_whole_thirds_of_cards).prog 45) (kwd := []) Lw.ob_eq
    (by kernel_rfl) (fun s => by kernel_rfl) Lw.run (by kernel_rfl) (by kernel_rfl) (by kernel_rfl) (by rfl) (by first | assumption | decide +kernel) (by decide +kernel) ⟨rfl, rfl, rfl, rfl, rfl, by decide +kernel⟩ ?hw ?hc
  case hw => exact ⟨[.list []], by decide +kernel, by decide +kernel⟩
  case hc =>
    refine L2.walk_ofE (l := PySem.Challenge.rw_threealike_k04_whole_thirds_of_cards) (n := 63) (k := 60 + 2) (x := "script") (CX := L2.CX0) rfl (by decide) (by kernel_rfl) ⟨rfl, by decide, by decide⟩ ?F (fun _ _ _ _ z => z)
    intro w mg fa h Y G hmg0
    obtain ⟨K, KX, c, e⟩ := Y
    have hmg : mg ("law" : PySem.Str) = some (.ref fa) := by
      have e : (HandSHeadRun.topDef (OpenLaw.row PySem.Challenge.rw_threealike_k04_whole_thirds_of_cards).prog 45).name = ("law" : PySem.Str) := by kernel_rfl
      rw [← e]
      exact hmg0
    have B := Lw.facts KX G c e
    obtain ⟨fd, F⟩ := c.def_ 32 (d := ⟨(Lw.r_law.x, none), Lw.r_law.x, Lw.r_law.x, L2.defArgs Lw.r_law.st, L2.defBody Lw.r_law.st, L2.defScope Lw.r_law.st, [], []⟩) rfl
    have ea := hmg.symm.trans (He.glo_ok KX G (c.fact 32 (f := .glo "law") rfl))
    cases ea
    have b := L2.FunD.bindsA (ps := ["script"]) F fun _ _ _ _ _ _ us hl => match us, hl with | [_], _ => rfl
    refine ⟨K, fd, fun vs H Q _ => Mp.spF K (Lw.gs K) 1 (Lw.law 60) vs H Q fun _ _ _ => False, KX, fun s v => b s [v] rfl, fun H a ns hl ho hs => Mp.law_sp ho hs (Lw.main ns hl), fun base hb hg => ?_⟩
    obtain ⟨fd', ft⟩ := Lw.all (P := (PySem.Challenge.rw_threealike_k04_whole_thirds_of_cards).prog) (w := w) (base := base) B (Lw.base0 KX G c) 60 32 Lw.r_law rfl
    have ok := Mp.noexc_fn ft.ok
    have el := Mp.same_fd F ft.F
    subst el
    exact ok
#print axioms PySem.Challenge.cw_threealike_k04_whole_thirds_of_cards_holds
