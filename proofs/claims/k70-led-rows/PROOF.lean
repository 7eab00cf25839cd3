import PyProof.Rows.All
import Wide.All
import OpenK.AllK
import Wide.FinOn
import HandS.ForMost
import HandS.ForExc
import HandS.Defaults
import HandS.CallSlots
import HandS.Flow
import HandS.Gcd
import HandS.Zip
import HandS.Walk
import HandS.Deep
import HandS.IsInst
import HandS.Wide
import HandS.WideBits
import HandS.TupAny
import HandS.TupMul
import HandS.Head2
import HandS.HeadEnd
import HandS.HeadHook2
import HandS.Codes
import HandS.Head3
import HandS.Replace
import PyProof.Rows.SortShellAny
import HandS.SortInts
import HandS.Style
import PyProof.Draws
import HandS.TupLe
import PyProof.CallType
import PyProof.RangeIter
import HandS.DictComp
import HandS.SetFor
import HandS.Dict
import KE.KTupSum
import HandS.Star
import HandS.Conv
import HandS.Iter
import HandS.Small
import HandS.ExcInit
import HandS.ExcField
import HandS.ExcIs
import KE.KExcIs
import KE.KDictCopyH
import KE.KDictDisplayH
import KE.KDictWalk
import PyProof.DictCompW
import KE.SortData
import PyProof.StrOps2
import PySem.Challenge.RW_threealike_k70_whole_rows_led_by_dots
set_option linter.all false
set_option Elab.async false
set_option maxRecDepth 100000
set_option maxHeartbeats 4000000
namespace Mp
/-- values: lst a list that nobody changes, ref a list (dict, instance) of the store, scr the script -/
inductive W where
  | non | bl (b : Bool) | int (i : Int) | str (s : List Nat) | tup (xs : List W) | lst (xs : List W) | scr (xs : List W)
  | dct (ks vs : List W) | ref (i : Nat) | fn (f : Nat) | cls (c : Nat) | exc (c : Nat) (x : W)
  deriving Inhabited
mutual
def W.pure : W → Bool
  | .ref _ => false
  | .tup xs => pures xs
  | .lst xs => pures xs
  | .scr xs => pures xs
  | .dct ks vs => pures ks && pures vs
  | .exc _ _ => false
  | .non => true
  | .bl _ => true
  | .int _ => true
  | .str _ => true
  | .fn _ => true
  | .cls _ => true
def pures : List W → Bool
  | [] => true
  | x :: xs => x.pure && pures xs
end
inductive Cell where
  | lst (xs : List W) | dct (ks vs : List W) | ins (c : Nat) (fs : List (Nat × W))
  deriving Inhabited
abbrev Store := List Cell
inductive R (α : Type) where
  | ok (a : α) (S : Store)
  | exc (c : Nat) (x : W) (S : Store)
  | stuck
abbrev Env := List (Option W)
abbrev ME := Env → Store → R W
abbrev MT := Env → Store → R Bool
abbrev MA := Env → Store → R (List W)
abbrev MO := Env → Store → R (Option Int)
inductive RS where
  | nx (η : Env) (S : Store)
  | bk (η : Env) (S : Store)
  | ct (η : Env) (S : Store)
  | ret (w : W) (S : Store)
  | exc (c : Nat) (x : W) (η : Env) (S : Store)
  | stuck
abbrev MS := Env → Store → RS
abbrev MG := W → Env → Store → Option (Env × Store)
abbrev MGs := List W → Env → Store → Option (Env × Store)
/-- what is walked: its items -/
abbrev MI := Env → Store → R (List W)
abbrev Fns := Nat → List W → Store → R W
structure Fun where
  np : Nat
  nv : Nat
  keep : Bool := false
  fr : Bool := false
  body : Fns → MS
end Mp
namespace Mp
open PySem PySem.Spec PyProof.Rows L2
/-- where the functions, the classes stand; an error's attribute -/
structure Gs where
  fa : Nat → Addr
  ca : Nat → Addr
  nm : Nat → Str
  /-- the exception that is handled: its address, that of its dict, its class -/
  ea : Addr := 0
  ed : Addr := 0
  ec : Nat := 0
/-- the store's addresses; what is being built -/
structure Ga where
  ρ : List Addr
  β : List Addr
def Ga.Off (γ : Ga) (a : Addr) : Prop := a ∉ γ.ρ ∧ a ∉ γ.β
def FrT (K : PySem.W.Frag) (γ : Ga) (H : Hp) (a : Addr) (xs : List V) : Prop :=
  (Rd H a (.tup xs) ∧ γ.Off a) ∨ ∃ (o : Obj) (its : Array Value) (n : Nat), K.lookup a = some o ∧ o.cls = .type "tuple" ∧ o.data = .seq its n ∧ its.size ≤ sizeLine ∧ Vals xs its.toList
/-- the script -/
def FrS (K : PySem.W.Frag) (γ : Ga) (H : Hp) (a : Addr) (xs : List V) : Prop :=
  ((∃ o, H a = some (.frz o (.lst xs))) ∧ γ.Off a) ∨ ∃ (o : Obj) (its : Array Value) (n : Nat), K.lookup a = some o ∧ o.cls = .type "list" ∧ o.dict = none ∧ o.data = .seq its n ∧ its.size ≤ sizeLine ∧ Vals xs its.toList
/-- a key as a value; a dict whose keys are ints and texts (told by false ahead of the keys), or tuples of such (true) -/
def keyW : Key → W
  | .inl i => .int i
  | .inr s => .str s.cps.toList
def DctAt (H : Hp) (a : Addr) (ks : List W) (us : List V) : Prop :=
  (∃ kvs : List (Key × V), H a = some (.dK kvs) ∧ ks = .bl false :: kvs.map (fun p => keyW p.1) ∧ us = kvs.map (·.2)) ∨ ∃ kvs : List (List Key × V), H a = some (.dT kvs) ∧ ks = .bl true :: kvs.map (fun p => W.tup (p.1.map keyW)) ∧ us = kvs.map (·.2)
mutual
inductive Rep (K : PySem.W.Frag) (G : Gs) (γ : Ga) (H : Hp) : W → V → Prop
  | non : Rep K G γ H .non .non
  | bl (b : Bool) : Rep K G γ H (.bl b) (.bl b)
  | int (i : Int) : Rep K G γ H (.int i) (.int i)
  | str (s : List Nat) : (∀ c ∈ s, c < 0x110000) → s.length ≤ sizeLine → Rep K G γ H (.str s) (.str ⟨s.toArray⟩)
  | tup {a : Addr} {vs : List V} {xs : List W} : FrT K γ H a vs → Reps K G γ H xs vs → Rep K G γ H (.tup xs) (.ref a)
  | lst {a : Addr} {vs : List V} {xs : List W} : H a = some (.lst vs) → γ.Off a → Reps K G γ H xs vs → Rep K G γ H (.lst xs) (.ref a)
  | scr {a : Addr} {vs : List V} {xs : List W} : FrS K γ H a vs → Reps K G γ H xs vs → Rep K G γ H (.scr xs) (.ref a)
  | ref {i : Nat} {a : Addr} : γ.ρ[i]? = some a → Rep K G γ H (.ref i) (.ref a)
  | fn (f : Nat) : Rep K G γ H (.fn f) (.ref (G.fa f))
  | dct {a : Addr} {us : List V} {ks ws : List W} : DctAt H a ks us → γ.Off a → Reps K G γ H ws us → Rep K G γ H (.dct ks ws) (.ref a)
  | exc {x : W} {v : V} : H G.ed = some (.xd [(G.nm G.ec, v)]) → γ.Off G.ed → Rep K G γ H x v → Rep K G γ H (.exc G.ec x) (.ref G.ea)
inductive Reps (K : PySem.W.Frag) (G : Gs) (γ : Ga) (H : Hp) : List W → List V → Prop
  | nil : Reps K G γ H [] []
  | cons {w : W} {v : V} {ws : List W} {vs : List V} : Rep K G γ H w v → Reps K G γ H ws vs → Reps K G γ H (w :: ws) (v :: vs)
end
structure Ext (γ : Ga) (H : Hp) (γ' : Ga) (H' : Hp) : Prop where
  pre : γ.ρ <+: γ'.ρ
  bsub : ∀ a ∈ γ.β, a ∈ γ'.β
  bnew : ∀ a ∈ γ'.β, a ∈ γ.β ∨ H a = none
  keep : ∀ a o, H a = some o → a ∉ γ.ρ → H' a = some o
  new : ∀ a, a ∈ γ'.ρ → a ∉ γ.ρ → H a = none
  dom : ∀ a o, H a = some o → ∃ o', H' a = some o'
end Mp
namespace Mp
open PySem PySem.Spec PyProof.Rows L2
section
variable {K : PySem.W.Frag} {G : Gs} {γ γ' : Ga} {H H' : Hp}
structure ExtW (γ : Ga) (H : Hp) (γ' : Ga) (H' : Hp) : Prop where
  pre : γ.ρ <+: γ'.ρ
  bsub : ∀ a ∈ γ.β, a ∈ γ'.β
  bnew : ∀ a ∈ γ'.β, a ∈ γ.β ∨ H a = none
  keep : ∀ a o, H a = some o → γ.Off a → H' a = some o
  new : ∀ a, a ∈ γ'.ρ → a ∉ γ.ρ → H a = none
  dom : ∀ a o, H a = some o → ∃ o', H' a = some o'
theorem Reps.length : ∀ {ws : List W} {vs : List V}, Reps K G γ H ws vs → ws.length = vs.length
  | _, _, .nil => rfl
  | _, _, .cons _ t => by rw [List.length_cons, List.length_cons, Reps.length t]
theorem Reps.get : ∀ {ws : List W} {vs : List V}, Reps K G γ H ws vs → ∀ {i : Nat} {w : W}, ws[i]? = some w → ∃ v, vs[i]? = some v ∧ Rep K G γ H w v
  | _, _, .nil, _, _, h => by simp at h
  | _, _, .cons r t, 0, w, h => by
    simp at h
    subst h
    exact ⟨_, rfl, r⟩
  | _, _, .cons r t, i + 1, w, h => by
    obtain ⟨v, e, q⟩ := Reps.get t (i := i) (w := w) (by simpa using h)
    exact ⟨v, by simpa using e, q⟩
end
end Mp
namespace Mp
open PySem PySem.Spec PyProof.Rows L2
def CellOk (K : PySem.W.Frag) (G : Gs) (γ : Ga) (H : Hp) : Cell → Addr → Prop
  | .lst xs, a => pures xs = true ∧ ∃ vs, H a = some (.lst vs) ∧ Reps K G γ H xs vs
  | .dct ks ws, a => pures ks = true ∧ pures ws = true ∧ ∃ us, DctAt H a ks us ∧ Reps K G γ H ws us
  | .ins _ _, _ => False
structure StoreOk (K : PySem.W.Frag) (G : Gs) (γ : Ga) (H : Hp) (S : Store) : Prop where
  len : γ.ρ.length = S.length
  nd : γ.ρ.Nodup
  cell : ∀ (i : Nat) (c : Cell) (a : Addr), S[i]? = some c → γ.ρ[i]? = some a → CellOk K G γ H c a
  bt : ∀ a ∈ γ.β, a ∉ γ.ρ ∧ ∃ o, H a = some o ∧ ∀ xs, o ≠ .tup xs
def EnvOk (K : PySem.W.Frag) (G : Gs) (γ : Ga) (H : Hp) (η : Env) (σ : L2.St) : Prop := η.length = σ.length ∧ ∀ (i : Nat) (w : W), η[i]? = some (some w) → ∃ v, σ[i]? = some (some v) ∧ Rep K G γ H w v
/-- what an exception is wished to be -/
abbrev Wx := Value → Option Addr → Hp → Prop
abbrev Rel (α β : Type) := Ga → Hp → α → β → Prop
def Post {α β : Type} (K : PySem.W.Frag) (G : Gs) (rel : Rel α β) (wx : Wx) (γ : Ga) (H : Hp) (r : R α) (Q : β → Hp → Prop) : Prop := match r with
  | .ok w S' => ∀ v γ' H', Ext γ H γ' H' → rel γ' H' w v → StoreOk K G γ' H' S' → Q v H'
  | .exc c x S' => ∀ v d γ' H', Ext γ H γ' H' → Rep K G γ' H' x v → StoreOk K G γ' H' S' → H' d = some (.xd [(G.nm c, v)]) → γ'.Off d → wx (.ref (G.ca c)) (some d) H'
  | .stuck => False
abbrev relB : Rel Bool Bool := fun _ _ b c => b = c
def tOf (K : PySem.W.Frag) (G : Gs) (Wi : WX) (f : ME) : TE := fun σ H Q => ∃ η S γ, EnvOk K G γ H η σ ∧ StoreOk K G γ H S ∧ Post K G (Rep K G) (fun c d H' => Wi c d σ H') γ H (f η S) Q
def ttOf (K : PySem.W.Frag) (G : Gs) (Wi : WX) (f : MT) : TT := fun σ H Q => ∃ η S γ, EnvOk K G γ H η σ ∧ StoreOk K G γ H S ∧ Post K G relB (fun c d H' => Wi c d σ H') γ H (f η S) Q
def taOf (K : PySem.W.Frag) (G : Gs) (Wi : WX) (f : MA) : TA := fun σ H Q => ∃ η S γ, EnvOk K G γ H η σ ∧ StoreOk K G γ H S ∧ Post K G (Reps K G) (fun c d H' => Wi c d σ H') γ H (f η S) Q
structure SE (X : Cx) (G : Gs) (e : Expr) (f : ME) : Prop where
  run : ∀ Wi, Takes X Wi → PE X e (tOf X.K G Wi f)
structure ST (X : Cx) (G : Gs) (e : Expr) (f : MT) : Prop where
  run : ∀ Wi, Takes X Wi → PT X e (ttOf X.K G Wi f)
structure SW (X : Cx) (G : Gs) (e : Expr) (f : MT) : Prop where
  run : ∀ Wi, Takes X Wi → PW X e (ttOf X.K G Wi f)
structure SA (X : Cx) (G : Gs) (es : List Expr) (f : MA) : Prop where
  run : ∀ Wi, Takes X Wi → PA X es (taOf X.K G Wi f)
end Mp
namespace Mp
open PySem PySem.Spec PyProof.Rows L2
def PostS (K : PySem.W.Frag) (G : Gs) (Wi : WX) (γ : Ga) (H : Hp) (r : RS) (D : Ends) : Prop := match r with
  | .nx η' S' => ∀ σ' γ' H', Ext γ H γ' H' → EnvOk K G γ' H' η' σ' → StoreOk K G γ' H' S' → D.nx σ' H'
  | .bk η' S' => ∀ σ' γ' H', Ext γ H γ' H' → EnvOk K G γ' H' η' σ' → StoreOk K G γ' H' S' → D.bk σ' H'
  | .ct η' S' => ∀ σ' γ' H', Ext γ H γ' H' → EnvOk K G γ' H' η' σ' → StoreOk K G γ' H' S' → D.ct σ' H'
  | .ret w S' => ∀ v γ' H', Ext γ H γ' H' → Rep K G γ' H' w v → StoreOk K G γ' H' S' → D.rt v H'
  | .exc c x η' S' => ∀ v d σ' γ' H', Ext γ H γ' H' → EnvOk K G γ' H' η' σ' → Rep K G γ' H' x v → StoreOk K G γ' H' S' → H' d = some (.xd [(G.nm c, v)]) → γ'.Off d → Wi (.ref (G.ca c)) (some d) σ' H'
  | .stuck => False
def tsOf (K : PySem.W.Frag) (G : Gs) (Wi : WX) (f : MS) : TS := fun D σ H => ∃ η S γ, EnvOk K G γ H η σ ∧ StoreOk K G γ H S ∧ PostS K G Wi γ H (f η S) D
structure SS (X : Cx) (G : Gs) (e : Stmt) (f : MS) : Prop where
  run : ∀ Wi, Takes X Wi → PS X e (tsOf X.K G Wi f)
structure SSs (X : Cx) (G : Gs) (e : List Stmt) (f : MS) : Prop where
  run : ∀ Wi, Takes X Wi → PSs X e (tsOf X.K G Wi f)
/-- targets: is: the slots that may change -/
def tgOf (K : PySem.W.Frag) (G : Gs) (is : List Nat) (g : MG) : TG := fun v σ H Q => ∃ η S γ w η' S', EnvOk K G γ H η σ ∧ StoreOk K G γ H S ∧ Rep K G γ H w v ∧ g w η S = some (η', S') ∧
  ∀ σ' γ' H', Ext γ H γ' H' → EnvOk K G γ' H' η' σ' → StoreOk K G γ' H' S' → σ'.length = σ.length → (∀ i, i ∉ is → σ'[i]? = σ[i]?) → Q σ' H'
def tgsOf (K : PySem.W.Frag) (G : Gs) (is : List Nat) (g : MGs) : TGs := fun vs σ H Q => ∃ η S γ ws η' S', EnvOk K G γ H η σ ∧ StoreOk K G γ H S ∧ Reps K G γ H ws vs ∧ g ws η S = some (η', S') ∧
  ∀ σ' γ' H', Ext γ H γ' H' → EnvOk K G γ' H' η' σ' → StoreOk K G γ' H' S' → σ'.length = σ.length → (∀ i, i ∉ is → σ'[i]? = σ[i]?) → Q σ' H'
structure SG (X : Cx) (G : Gs) (e : Expr) (is : List Nat) (g : MG) : Prop where
  run : PG X e (tgOf X.K G is g)
structure SGs (X : Cx) (G : Gs) (e : List Expr) (is : List Nat) (g : MGs) : Prop where
  run : PGs X e (tgsOf X.K G is g)
end Mp
namespace Mp
open PySem PySem.Spec PyProof.Rows L2
/-- an iterator that gives the items xs, from γ0, H0 on -/
structure ItOk (K : PySem.W.Frag) (G : Gs) (J : It) (xs : List W) (γ0 : Ga) (H0 : Hp) : Prop where
  go : ∀ (i : Nat) γ H S, i < xs.length → ExtW γ0 H0 γ H → StoreOk K G γ H S → J.go i H
  stop : ∀ γ H S, ExtW γ0 H0 γ H → StoreOk K G γ H S → J.stop xs.length H
  yld : ∀ (i : Nat) (w : W) γ H S x H', xs[i]? = some w → ExtW γ0 H0 γ H → StoreOk K G γ H S → J.yld i H x H' → Ext γ H γ H' ∧ StoreOk K G γ H' S ∧ Rep K G γ H' w x
def PostI (K : PySem.W.Frag) (G : Gs) (wx : Wx) (γ : Ga) (H : Hp) (r : R (List W)) (Q : It → Hp → Prop) : Prop := match r with
  | .ok xs S' => ∀ J γ' H', Ext γ H γ' H' → StoreOk K G γ' H' S' → ItOk K G J xs γ' H' → Q J H'
  | .exc c x S' => ∀ v d γ' H', Ext γ H γ' H' → Rep K G γ' H' x v → StoreOk K G γ' H' S' → H' d = some (.xd [(G.nm c, v)]) → γ'.Off d → wx (.ref (G.ca c)) (some d) H'
  | .stuck => False
def tiOf (K : PySem.W.Frag) (G : Gs) (Wi : WX) (f : MI) : TI := fun σ H R => ∃ η S γ, EnvOk K G γ H η σ ∧ StoreOk K G γ H S ∧ PostI K G (fun c d H' => Wi c d σ H') γ H (f η S) R
structure SI (X : Cx) (G : Gs) (tg it : Expr) (f : MI) : Prop where
  run : ∀ Wi, Takes X Wi → PI X tg it (tiOf X.K G Wi f)
end Mp
namespace Mp
open PySem PySem.Spec PyProof.Rows L2
/-- a function's promise: what φ gives -/
def spF (K : PySem.W.Frag) (G : Gs) (np : Nat) (φ : List W → Store → R W) : Sp := fun vs H Q E => vs.length = np ∧ ∃ ws S γ, Reps K G γ H ws vs ∧ StoreOk K G γ H S ∧ Post K G (Rep K G) E γ H (φ ws S) Q
structure FnR where
  x : Str
  ps : List Str
  st : Stmt
structure FT (P : Program) (w : World) (K : PySem.W.Frag) (mg : Str → Option Value) (base : Heap) (G : Gs) (d : Nat) (φ : List W → Store → R W) (f : Nat) (r : FnR) (fd : FuncData) : Prop where
  ok : FnOk P w K mg base (L2.CX P w) (d + 2) (G.fa f) fd r.ps (spF K G r.ps.length φ)
  gl : mg r.x = some (.ref (G.fa f))
  F : FunD K r.x r.x (defArgs r.st) (defBody r.st) (defScope r.st) [] [] (G.fa f) fd
  b : Binds K fd r.ps []
  len : ∀ ws S, φ ws S ≠ .stuck → ws.length = r.ps.length
end Mp
namespace Mp
open PySem PySem.Spec PyProof.Rows L2
section
variable {X : Cx} {G : Gs}
variable {a b e : Expr} {es : List Expr} {f g : ME} {ga : MA} {pos p p2 p3 : Pos} {x : Str} {lo hi : Option Expr} {ml mh : MO} {o : OA}
def toOf (K : PySem.W.Frag) (G : Gs) (Wi : WX) (f : MO) : TO := fun σ H Q => ∃ η S γ, EnvOk K G γ H η σ ∧ StoreOk K G γ H S ∧ Post K G (fun _ _ a b => a = b) (fun c d H' => Wi c d σ H') γ H (f η S) Q
structure SO (X : Cx) (G : Gs) (e : Option Expr) (f : MO) : Prop where
  run : ∀ Wi, Takes X Wi → PO X e (toOf X.K G Wi f)
end
end Mp
namespace Mp
open PySem PySem.Spec PyProof.Rows L2
def hookM (n : Nat) (fa : List He.Fa) (fn : List He.DefD) (ex : PySem.W.Frag → Bool) : PySem.W.Hook where
  α := He.AlD × Bool
  obs := fun s => (He.obsDG n fa fn s.heap.get?, ex (He.frG s.heap.get? (He.asD s.heap.get? n)))
  val := fun _ => (He.valD fn, true)
  says := fun _ h => ∃ K : PySem.W.Frag, K.In h ∧ He.SaysD fa fn K ∧ ex K = true
  of := fun _ _ e => ⟨_, He.frG_in, congrArg Prod.fst e, congrArg Prod.snd e⟩
  keeps := fun _ _ _ ⟨K, hK, c⟩ k => ⟨K, PySem.W.Frag.In.keeps hK k, c⟩
def obM (n : Nat) (fa : List He.Fa) (fn : List He.DefD) (ex : PySem.W.Frag → Bool) (g : Addr → Option Obj) : He.AlD × Bool := (He.obsDG n fa fn g, ex (He.frG g (He.asD g n)))
end Mp
namespace Mp
open PySem PySem.Spec PyProof.Rows L2
/-- a name that the module binds to a built-in type -/
def bltTB (K : PySem.W.Frag) (x : Str) (id : String) : Bool := He.eqO (PySem.W.nsIn K mainGlobals x) (some (some (.type id)))
end Mp
namespace Lw
open PySem PySem.Spec PyProof.Rows L2 Mp
def top (i : Nat) : Stmt := PySem.Challenge.pw_threealike_k70_whole_rows_led_by_dots.main.body.getD i (.Pass ⟨0, 0, 0, 0⟩)
def r_is_whole : FnR := ⟨"is_whole", ["value"], top 2⟩
def r_is_between : FnR := ⟨"is_between", ["value", "low", "high"], top 3⟩
def r_is_text_of : FnR := ⟨"is_text_of", ["value", "signs"], top 4⟩
def r_check_size : FnR := ⟨"check_size", ["size", "low", "high"], top 10⟩
def r_is_dotted : FnR := ⟨"is_dotted", ["size", "value"], top 16⟩
def r_is_goal : FnR := ⟨"is_goal", ["size", "value"], top 17⟩
def r_first_wrong_dotted : FnR := ⟨"first_wrong_dotted", ["size", "value"], top 18⟩
def r_bits_of : FnR := ⟨"bits_of", ["card"], top 19⟩
def r_card_of : FnR := ⟨"card_of", ["size", "bits"], top 20⟩
def r_sum_of_bits : FnR := ⟨"sum_of_bits", ["some"], top 22⟩
def r_dot_sum_by : FnR := ⟨"dot_sum_by", ["size", "row"], top 23⟩
def r_sums_of_parts : FnR := ⟨"sums_of_parts", ["row"], top 24⟩
def r_parts_with : FnR := ⟨"parts_with", ["row", "bits"], top 25⟩
def r_dot_lots_by : FnR := ⟨"dot_lots_by", ["row"], top 26⟩
def r_fewest_lot_by : FnR := ⟨"fewest_lot_by", ["row"], top 27⟩
def r_dot_lots_by_size_by : FnR := ⟨"dot_lots_by_size_by", ["row"], top 28⟩
def r_freed : FnR := ⟨"freed", ["bits", "leads"], top 29⟩
def r_next_leads : FnR := ⟨"next_leads", ["leads", "bits"], top 30⟩
def r_least_base : FnR := ⟨"least_base", ["row"], top 31⟩
def r_rank_by : FnR := ⟨"rank_by", ["row"], top 32⟩
def r_bases_by : FnR := ⟨"bases_by", ["row"], top 33⟩
def r_dot_deck_by : FnR := ⟨"dot_deck_by", ["size"], top 34⟩
def r_dot_completing_by : FnR := ⟨"dot_completing_by", ["size", "row"], top 35⟩
def r_check_dots : FnR := ⟨"check_dots", ["size"], top 37⟩
def r_check_row : FnR := ⟨"check_row", ["size", "row"], top 38⟩
def r_dot_sum : FnR := ⟨"dot_sum", ["size", "row"], top 39⟩
def r_dot_lots : FnR := ⟨"dot_lots", ["size", "row"], top 40⟩
def r_fewest_lot : FnR := ⟨"fewest_lot", ["size", "row"], top 41⟩
def r_dot_lots_by_size : FnR := ⟨"dot_lots_by_size", ["size", "row"], top 42⟩
def r_rank : FnR := ⟨"rank", ["size", "row"], top 43⟩
def r_bases : FnR := ⟨"bases", ["size", "row"], top 44⟩
def r_base_count : FnR := ⟨"base_count", ["size", "row"], top 45⟩
def r_dot_completing : FnR := ⟨"dot_completing", ["size", "row"], top 46⟩
def r_certify_dots : FnR := ⟨"certify_dots", ["size", "row"], top 48⟩
def r_law_well : FnR := ⟨"_law_well", ["script", "turn"], top 50⟩
def r_law_take : FnR := ⟨"_law_take", ["well", "many"], top 51⟩
def r_law_same : FnR := ⟨"_law_same", ["told", "due"], top 53⟩
def r_law_card : FnR := ⟨"_law_card", ["number", "size"], top 54⟩
def r_law_number : FnR := ⟨"_law_number", ["card"], top 55⟩
def r_law_row : FnR := ⟨"_law_row", ["well", "size"], top 56⟩
def r_law_two : FnR := ⟨"_law_two", ["size"], top 57⟩
def r_law_reduced : FnR := ⟨"_law_reduced", ["numbers"], top 60⟩
def r_law_drawn : FnR := ⟨"_law_drawn", ["well", "size"], top 61⟩
def r_law_led : FnR := ⟨"_law_led", ["card", "leadings"], top 62⟩
def r_law_told : FnR := ⟨"_law_told", ["size", "row"], top 63⟩
def r_law_asked : FnR := ⟨"_law_asked", ["well", "size", "row"], top 64⟩
def r_law_beside : FnR := ⟨"_law_beside", ["well"], top 65⟩
def r_law : FnR := ⟨"law", ["script"], top 66⟩
def D : List FnR := [r_is_whole, r_is_between, r_is_text_of, r_check_size, r_is_dotted, r_is_goal, r_first_wrong_dotted, r_bits_of, r_card_of, r_sum_of_bits, r_dot_sum_by, r_sums_of_parts, r_parts_with, r_dot_lots_by, r_fewest_lot_by, r_dot_lots_by_size_by, r_freed, r_next_leads, r_least_base, r_rank_by, r_bases_by, r_dot_deck_by, r_dot_completing_by, r_check_dots, r_check_row, r_dot_sum, r_dot_lots, r_fewest_lot, r_dot_lots_by_size, r_rank, r_bases, r_base_count, r_dot_completing, r_certify_dots, r_law_well, r_law_take, r_law_same, r_law_card, r_law_number, r_law_row, r_law_two, r_law_reduced, r_law_drawn, r_law_led, r_law_told, r_law_asked, r_law_beside, r_law]
def BL : List Str := (["isinstance", "int", "bool", "str", "all", "len", "enumerate", "range", "sorted", "min", "tuple", "sum", "abs", "divmod", "list", "max"] : List String).map Str.ofString
def fn : List He.DefD := (D.map fun r => ⟨(r.x, none), r.x, r.x, defArgs r.st, defBody r.st, defScope r.st, [], []⟩)
def fa1 : List He.Fa := D.map fun r => .glo r.x
def fa2 : List He.Fa := BL.map .free
def fa3 : List He.Fa := [.str "DOT" "o", .str "POINT" ".", .int "LONGEST_ROW" (12), .int "MOST_DOTS" (6)]
def fa : List He.Fa := fa1 ++ (fa2 ++ fa3)
def ex (K : PySem.W.Frag) : Bool := bltTB K "combinations" "itertools.combinations"
def loose0 : List Str := (["combinations", "is_whole", "is_between", "is_text_of", "ThreeError", "InvalidSize", "InvalidRow", "check_size", "DOT", "POINT", "MOST_DOTS", "LONGEST_ROW", "is_dotted", "is_goal", "first_wrong_dotted", "bits_of", "card_of", "sum_of_bits", "dot_sum_by", "sums_of_parts", "parts_with", "dot_lots_by", "fewest_lot_by", "dot_lots_by_size_by", "freed", "next_leads", "least_base", "rank_by", "bases_by", "dot_deck_by", "dot_completing_by", "check_dots", "check_row", "dot_sum", "dot_lots"] : List String).map Str.ofString
def loose1 : List Str := (["fewest_lot", "dot_lots_by_size", "rank", "bases", "base_count", "dot_completing", "certify_dots", "_law_well", "_law_take", "_law_pick", "_law_same", "_law_card", "_law_number", "_law_row", "_law_two", "_law_sum", "_law_parts", "_law_reduced", "_law_drawn", "_law_led", "_law_told", "_law_asked", "_law_beside"] : List String).map Str.ofString
def loose : List Str := loose0 ++ loose1
abbrev Rr : PySem.W.OpenRow := PySem.W.OpenLaw.row PySem.Challenge.rw_threealike_k70_whole_rows_led_by_dots
abbrev hk : PySem.W.Hook := hookM 5 fa fn ex
def ob (s : PySem.W.SharedT) : He.AlD × Bool := obM 5 fa fn ex (HandSHeadRun.getT s)
theorem run (w : World) : HandSHeadRun.RunEqI Rr (PySem.W.view Rr.prog [0, 66]) hk ob 60000 loose w := by
  unfold HandSHeadRun.RunEqI
  kernel_rfl
end Lw

set_option linter.all false
/-! Mp: a small pure reading of the programs: values, stores, what expressions and statements do. -/
namespace Mp
/-! data: of depth at most k, of None, truths, ints, texts, tuples, lists -/
mutual
def okD : W → Nat → Bool
  | .non, _ => true
  | .bl _, _ => true
  | .int _, _ => true
  | .str _, _ => true
  | .tup xs, k => decide (0 < k) && okDs xs (k - 1)
  | .lst xs, k => decide (0 < k) && okDs xs (k - 1)
  | _, _ => false
def okDs : List W → Nat → Bool
  | [], _ => true
  | x :: xs, k => okD x k && okDs xs k
end
mutual
def eqW : W → W → Bool
  | .non, .non => true
  | .bl a, .bl b => a == b
  | .bl a, .int j => (if a then 1 else 0) == j
  | .int i, .bl b => i == (if b then 1 else 0)
  | .int i, .int j => i == j
  | .str x, .str y => x == y
  | .lst xs, .lst ys => eqWs xs ys
  | .tup xs, .tup ys => eqWs xs ys
  | _, _ => false
def eqWs : List W → List W → Bool
  | [], [] => true
  | x :: xs, y :: ys => eqW x y && eqWs xs ys
  | _, _ => false
end
def R.bind {α β : Type} : R α → (α → Store → R β) → R β
  | .ok a S, k => k a S
  | .exc c x S, _ => .exc c x S
  | .stuck, _ => .stuck
def bigLine : Nat := 16777216
/-! expressions -/
def mVar (i : Nat) : ME := fun η S => match η[i]? with
  | some (some w) => .ok w S
  | _ => .stuck
def mC (w : W) : ME := fun _ S => .ok w S
def mStuck : ME := fun _ _ => .stuck
def rOpt {α : Type} (o : Option α) (S : Store) : R α := match o with
  | some w => .ok w S
  | none => .stuck
abbrev O2 := W → W → Store → Option W
abbrev OA := List W → Store → Option W
def mBin (o : O2) (f g : ME) : ME := fun η S => (f η S).bind fun x S1 => (g η S1).bind fun y S2 => rOpt (o x y S2) S2
def mUn (o : W → Store → Option W) (f : ME) : ME := fun η S => (f η S).bind fun x S1 => rOpt (o x S1) S1
def truthy (S : Store) : W → Option Bool
  | .non => some false
  | .bl b => some b
  | .int i => some (i != 0)
  | .str s => some (!s.isEmpty)
  | .tup xs => some (!xs.isEmpty)
  | .lst xs => some (!xs.isEmpty)
  | .ref i => (match S[i]? with
    | some (.lst xs) => some (!xs.isEmpty)
    | _ => none)
  | _ => none
def rTruth (x : W) (S : Store) : R Bool := rOpt (truthy S x) S
/-- a value as a test -/
def mTru (f : ME) : MT := fun η S => (f η S).bind rTruth
def mTNot (f : MT) : MT := fun η S => (f η S).bind fun b S1 => .ok (!b) S1
def mTAnd (f g : MT) : MT := fun η S => (f η S).bind fun b S1 => if b = true then g η S1 else .ok false S1
def mTOr (f g : MT) : MT := fun η S => (f η S).bind fun b S1 => if b = true then .ok true S1 else g η S1
def mNot (f : ME) : ME := fun η S => (f η S).bind fun x S1 => (rTruth x S1).bind fun b S2 => .ok (.bl (!b)) S2
def mAnd (f g : ME) : ME := fun η S => (f η S).bind fun x S1 => (rTruth x S1).bind fun b S2 => if b = true then g η S2 else .ok x S2
def mOr (f g : ME) : ME := fun η S => (f η S).bind fun x S1 => (rTruth x S1).bind fun b S2 => if b = true then .ok x S2 else g η S2
def mIf (c : MT) (f g : ME) : ME := fun η S => (c η S).bind fun b S1 => if b = true then f η S1 else g η S1
def maNil : MA := fun _ S => .ok [] S
def maCons (f : ME) (g : MA) : MA := fun η S => (f η S).bind fun x S1 => (g η S1).bind fun xs S2 => .ok (x :: xs) S2
def sized (n : Nat) (r : R α) : R α := if n ≤ bigLine then r else .stuck
def mTup (g : MA) : ME := fun η S => (g η S).bind fun xs S1 => sized xs.length (.ok (.tup xs) S1)
def mLst (g : MA) : ME := fun η S => (g η S).bind fun xs S1 => sized xs.length (.ok (.lst xs) S1)
/-- a new list of the store -/
def mLstM (g : MA) : ME := fun η S => (g η S).bind fun xs S1 => sized xs.length (.ok (.ref S1.length) (S1 ++ [.lst xs]))
/-- a call of a built-in -/
def mBi (o : OA) (g : MA) : ME := fun η S => (g η S).bind fun xs S1 => rOpt (o xs S1) S1
/-- a chain a < b < c -/
def mChain (o o' : O2) (f g h : ME) : ME := fun η S => (f η S).bind fun x S1 => (g η S1).bind fun y S2 => match o x y S2 with
  | some (.bl true) => (h η S2).bind fun y' S4 => rOpt (o' y y' S4) S4
  | some (.bl false) => .ok (.bl false) S2
  | _ => .stuck
/-! operators -/
/-- a list, of the store or not -/
def lstOf (S : Store) : W → Option (List W)
  | .lst xs => some xs
  | .ref i => (match S[i]? with
    | some (.lst xs) => some xs
    | _ => none)
  | _ => none
def opAdd : O2 := fun x y S => match x, y with
  | .int i, .int j => some (.int (i + j))
  | .str a, .str b => if a.length + b.length ≤ bigLine then some (.str (a ++ b)) else none
  | .tup a, .tup b => if a.length + b.length ≤ bigLine then some (.tup (a ++ b)) else none
  | x, y => (match lstOf S x, lstOf S y with
    | some a, some b => if a.length + b.length ≤ bigLine then some (.lst (a ++ b)) else none
    | _, _ => none)
def opSub : O2 := fun x y _ => match x, y with
  | .int i, .int j => some (.int (i - j))
  | _, _ => none
def mulOk (i j : Int) : Bool := decide (i.natAbs < 18446744073709551616) || decide (j.natAbs < 18446744073709551616)
def opMul : O2 := fun x y S => match x, y with
  | .int i, .int j => if mulOk i j = true then some (.int (i * j)) else none
  | x, .int k => (match lstOf S x with
    | some xs => if -9223372036854775808 ≤ k ∧ k < 9223372036854775808 ∧ xs.length * k.toNat ≤ bigLine then some (.lst (List.replicate k.toNat xs).flatten) else none
    | none => none)
  | _, _ => none
def opDiv : O2 := fun x y _ => match x, y with
  | .int i, .int j => if 0 < j ∧ j.natAbs.log2 < 9000 then some (.int (i / j)) else none
  | _, _ => none
def opMod : O2 := fun x y _ => match x, y with
  | .int i, .int j => if 0 < j then some (.int (i % j)) else none
  | _, _ => none
def opPow : O2 := fun x y _ => match x, y with
  | .int i, .int j => if 0 ≤ j ∧ j ≤ 1000000 ∧ i.natAbs < 18446744073709551616 then some (.int (i ^ j.toNat)) else none
  | _, _ => none
def opNeg : W → Store → Option W := fun x _ => match x with
  | .int i => some (.int (-i))
  | _ => none
/-- a list of the store as a plain one -/
def plainL (S : Store) (w : W) : W := match lstOf S w with
  | some xs => .lst xs
  | none => w
def opEq : O2 := fun x y S => if okD (plainL S x) 30 = true ∧ okD (plainL S y) 30 = true then some (.bl (eqW (plainL S x) (plainL S y))) else none
def opNe : O2 := fun x y S => if okD (plainL S x) 30 = true ∧ okD (plainL S y) 30 = true then some (.bl (!eqW (plainL S x) (plainL S y))) else none
def opCmp (p : Int → Int → Bool) (q : List Nat → List Nat → Bool) : O2 := fun x y _ => match x, y with
  | .int i, .int j => some (.bl (p i j))
  | .str a, .str b => some (.bl (q a b))
  | _, _ => none
def opLt : O2 := opCmp (fun i j => decide (i < j)) fun a b => decide (a < b)
def opLe : O2 := opCmp (fun i j => decide (i ≤ j)) fun a b => !decide (b < a)
def opGt : O2 := opCmp (fun i j => decide (j < i)) fun a b => decide (b < a)
def opGe : O2 := opCmp (fun i j => decide (j ≤ i)) fun a b => !decide (a < b)
def flat : W → Bool
  | .non => true
  | .bl _ => true
  | .int _ => true
  | .str _ => true
  | _ => false
def inW (x : W) (ys : List W) : Bool := ys.any fun y => eqW y x
def seqOf (S : Store) : W → Option (List W)
  | .tup xs => some xs
  | w => lstOf S w
def opIn : O2 := fun x y S => match x, y with
  | .str [c], .str z => some (.bl (decide (c ∈ z)))
  | x, y => (match seqOf S y with
    | some ys => if flat x = true ∧ ys.all flat = true then some (.bl (inW x ys)) else
        (match lstOf S y with
        | some ys => if okD x 30 = true ∧ okDs ys 29 = true then some (.bl (inW x ys)) else none
        | none => none)
    | none => none)
def opNotIn : O2 := fun x y S => match opIn x y S with
  | some (.bl b) => some (.bl (!b))
  | _ => none
def opIsN : W → Store → Option W := fun x _ => match x with
  | .non => some (.bl true)
  | _ => some (.bl false)
def opNotN : W → Store → Option W := fun x _ => match x with
  | .non => some (.bl false)
  | _ => some (.bl true)
/-- kinds: 0 None, 1 bool, 2 int, 3 str, 4 tuple, 5 list, 6 dict -/
def kindOf (S : Store) : W → Option Nat
  | .non => some 0
  | .bl _ => some 1
  | .int _ => some 2
  | .str _ => some 3
  | .tup _ => some 4
  | .lst _ => some 5
  | .scr _ => some 5
  | .dct _ _ => some 6
  | .ref i => (match S[i]? with
    | some (.lst _) => some 5
    | some (.dct _ _) => some 6
    | _ => none)
  | _ => none
def isKind (k c : Nat) : Bool := k == c || (k == 1 && c == 2)
def opIsi (c : Nat) : W → Store → Option W := fun x S => (kindOf S x).map fun k => .bl (isKind k c)
/-! subscripts -/
def ixW (n : Nat) (i : Int) : Option Nat := if 0 ≤ i then (if i < n then some i.toNat else none) else if -(n : Int) ≤ i then some (i + n).toNat else none
def atW (xs : List W) (i : Int) : Option W := (ixW xs.length i).bind fun j => xs[j]?
def opIx : O2 := fun x y S => match x, y with
  | .str z, .int i => (ixW z.length i).bind fun j => z[j]?.map fun c => .str [c]
  | .tup xs, .int i => atW xs i
  | .scr xs, .int i => atW xs i
  | x, .int i => (lstOf S x).bind fun xs => atW xs i
  | _, _ => none
def sIxW (n d : Nat) : Option Int → Nat
  | none => d
  | some v => if v < 0 then (v + (n : Int)).toNat else min v.toNat n
def cutW {α : Type} (xs : List α) (lo hi : Option Int) : List α := (xs.drop (sIxW xs.length 0 lo)).take (sIxW xs.length xs.length hi - sIxW xs.length 0 lo)
def opSl (x : W) (lo hi : Option Int) (S : Store) : Option W := match x with
  | .str z => some (.str (cutW z lo hi))
  | .tup xs => some (.tup (cutW xs lo hi))
  | .scr xs => some (.lst (cutW xs lo hi))
  | x => (lstOf S x).map fun xs => .lst (cutW xs lo hi)
/-! built-in functions, by their values -/
def intsOf : List W → Option (List Int)
  | [] => some []
  | .int i :: r => (intsOf r).map (i :: ·)
  | _ => none
def bls : List W → Option (List Bool)
  | [] => some []
  | .bl i :: r => (bls r).map (i :: ·)
  | _ => none
def strsOf : List W → Option (List (List Nat))
  | [] => some []
  | .str i :: r => (strsOf r).map (i :: ·)
  | _ => none
def baLen : OA := fun xs S => match xs with
  | [.str z] => some (.int z.length)
  | [.tup xs] => some (.int xs.length)
  | [.scr xs] => some (.int xs.length)
  | [x] => (lstOf S x).map fun xs => .int xs.length
  | _ => none
def baAbs : OA := fun xs _ => match xs with
  | [.int i] => some (.int (if i < 0 then -i else i))
  | _ => none
def baMax2 : OA := fun xs _ => match xs with
  | [.int i, .int j] => some (.int (if j > i then j else i))
  | _ => none
def baMin2 : OA := fun xs _ => match xs with
  | [.int i, .int j] => some (.int (if j < i then j else i))
  | _ => none
def isDig (s : List Nat) : Bool := s.all fun c => decide (48 ≤ c) && decide (c ≤ 57)
def digW (s : List Nat) : Nat := s.foldl (fun acc c => acc * 10 + (c - 48)) 0
def numF : Nat → Nat → List Nat
  | 0, _ => []
  | f + 1, n => if n < 10 then [48 + n] else numF f (n / 10) ++ [48 + n % 10]
def numW (n : Nat) : List Nat := numF (n + 1) n
def baStr : OA := fun xs _ => match xs with
  | [.int i] => if 0 ≤ i ∧ i.natAbs.log2 < 1920 then some (.str (numW i.natAbs)) else none
  | _ => none
def baInt : OA := fun xs _ => match xs with
  | [.int i] => some (.int i)
  | [.bl b] => some (.int (if b then 1 else 0))
  | [.str s] => if isDig s = true ∧ s ≠ [] ∧ s.length ≤ 640 then some (.int (digW s)) else none
  | _ => none
def baDivmod : OA := fun xs _ => match xs with
  | [.int i, .int j] => if 0 < j ∧ j.natAbs.log2 < 9000 then some (.tup [.int (i / j), .int (i % j)]) else none
  | _ => none
def baGcd : OA := fun xs _ => match xs with
  | [.int a, .int b] => some (.int (Nat.gcd a.natAbs b.natAbs))
  | _ => none
def falling (n : Int) (k : Nat) : Int := (List.range k).foldl (fun (p : Int) (i : Nat) => p * (n - (i : Int))) 1
def combW (a b : Int) : Int := if b > a then 0 else falling a (min b (a - b)).toNat / falling (min b (a - b)) (min b (a - b)).toNat
def baComb : OA := fun xs _ => match xs with
  | [.int a, .int b] => if 0 ≤ a ∧ 0 ≤ b ∧ a ≤ 18000 then some (.int (combW a b)) else none
  | _ => none
def baSum : OA := fun xs S => match xs with
  | [.scr xs] => (intsOf xs).map fun ns => .int ns.sum
  | [x] => (lstOf S x).bind fun xs => (intsOf xs).map fun ns => .int ns.sum
  | _ => none
def baAll : OA := fun xs S => match xs with
  | [x] => (lstOf S x).bind fun xs => (bls xs).map fun bs => .bl (bs.all id)
  | _ => none
def baAny : OA := fun xs S => match xs with
  | [x] => (lstOf S x).bind fun xs => (bls xs).map fun bs => .bl (bs.any id)
  | _ => none
def baTuple : OA := fun xs S => match xs with
  | [.tup xs] => some (.tup xs)
  | [x] => (lstOf S x).map fun xs => .tup xs
  | _ => none
def baList : OA := fun xs S => match xs with
  | [.tup xs] => some (.lst xs)
  | [x] => (lstOf S x).map fun xs => .lst xs
  | _ => none
def joinW (sep : List Nat) : List (List Nat) → List Nat
  | [] => []
  | [x] => x
  | x :: r => x ++ sep ++ joinW sep r
def opJoin : O2 := fun x y S => match x with
  | .str a => (seqOf S y).bind fun ys => (strsOf ys).bind fun zs => if (zs.map (·.length)).sum + zs.length * a.length ≤ bigLine then some (.str (joinW a zs)) else none
  | _ => none
def moNone : MO := fun _ S => .ok none S
def moSome (f : ME) : MO := fun η S => (f η S).bind fun x S1 => match x with
  | .int i => .ok (some i) S1
  | _ => .stuck
def mSl (f : ME) (lo hi : MO) : ME := fun η S => (f η S).bind fun x S1 => (lo η S1).bind fun l S2 => (hi η S2).bind fun h S3 => rOpt (opSl x l h S3) S3
/-! statements -/
def R.toS {α : Type} (η : Env) (r : R α) (k : α → Store → RS) : RS := match r with
  | .ok a S => k a S
  | .exc c x S => .exc c x η S
  | .stuck => .stuck
def RS.next (r : RS) (k : MS) : RS := match r with
  | .nx η S => k η S
  | r => r
def sSeq (f g : MS) : MS := fun η S => (f η S).next g
def sNx : MS := fun η S => .nx η S
def sSet (i : Nat) (f : ME) : MS := fun η S => (f η S).toS η fun w S1 => .nx (η.set i (some w)) S1
def sRet (f : ME) : MS := fun η S => (f η S).toS η fun w S1 => .ret w S1
def sRetN : MS := fun _ S => .ret .non S
def sDrop (f : ME) : MS := fun η S => (f η S).toS η fun _ S1 => .nx η S1
def sIf (c : MT) (f g : MS) : MS := fun η S => (c η S).toS η fun b S1 => if b = true then f η S1 else g η S1
def sStuck : MS := fun _ _ => .stuck
def sBreak : MS := fun η S => .bk η S
def sCont : MS := fun η S => .ct η S
/-! targets -/
def gVar (i : Nat) : MG := fun w η S => some (η.set i (some w), S)
/-- o[i] = w for a list of the store -/
def setAt (o i w : W) (S : Store) : Option Store := match o, i with
  | .ref r, .int k => (match S[r]? with
    | some (.lst xs) => if 0 ≤ k ∧ k < xs.length then (if w.pure then some (S.set r (.lst (xs.set k.toNat w))) else none)
        else if k < 0 ∧ -(xs.length : Int) ≤ k then (if w.pure then some (S.set r (.lst (xs.set (k + xs.length).toNat w))) else none) else none
    | _ => none)
  | _, _ => none
def gsNil : MGs := fun ws η S => match ws with
  | [] => some (η, S)
  | _ => none
def gsCons (g : MG) (gs : MGs) : MGs := fun ws η S => match ws with
  | w :: r => (g w η S).bind fun (η1, S1) => gs r η1 S1
  | [] => none
def gTupW (gs : MGs) : MG := fun w η S => match w with
  | .tup xs => gs xs η S
  | _ => none
def gIdx (o i : ME) : MG := fun w η S => match o η S with
  | .ok ow S1 => (match i η S1 with
    | .ok iw S2 => (setAt ow iw w S2).map fun S3 => (η, S3)
    | _ => none)
  | _ => none
def optS (o : Option (Env × Store)) : RS := match o with
  | some (η, S) => .nx η S
  | none => .stuck
def sAsg (f : ME) (g : MG) : MS := fun η S => (f η S).toS η fun w S1 => optS (g w η S1)
/-! loops -/
def forL (g : MG) (b : MS) : List W → Env → Store → RS
  | [], η, S => .nx η S
  | x :: r, η, S => match g x η S with
    | none => .stuck
    | some (η1, S1) => (match b η1 S1 with
      | .nx η2 S2 => forL g b r η2 S2
      | .ct η2 S2 => forL g b r η2 S2
      | .bk η2 S2 => .nx η2 S2
      | r => r)
def sFor (it : MI) (g : MG) (b : MS) : MS := fun η S => (it η S).toS η fun xs S1 => forL g b xs η S1
def whileL (c : MT) (b : MS) : Nat → Env → Store → RS
  | 0, _, _ => .stuck
  | n + 1, η, S => (c η S).toS η fun t S1 => if t = true then (match b η S1 with
      | .nx η2 S2 => whileL c b n η2 S2
      | .ct η2 S2 => whileL c b n η2 S2
      | .bk η2 S2 => .nx η2 S2
      | r => r) else .nx η S1
def sWhile (n : Nat) (c : MT) (b : MS) : MS := fun η S => whileL c b n η S
/-! comprehensions: names of their own are wiped ahead -/
def wipeE (η : Env) : List Nat → Env
  | [] => η
  | i :: is => (wipeE η is).set i none
def compL (g : MG) (t : MT) (e : ME) (η : Env) : List W → Store → List W → R (List W)
  | [], S, acc => .ok acc S
  | x :: r, S, acc => match g x η S with
    | none => .stuck
    | some (η1, S1) => (t η1 S1).bind fun b S2 => if b = true then (e η1 S2).bind fun w S3 => sized (acc.length + 1) (compL g t e η r S3 (acc ++ [w])) else compL g t e η r S2 acc
def noexc (r : R α) : R α := match r with
  | .exc _ _ _ => .stuck
  | r => r
def mComp (it : MI) (own : List Nat) (g : MG) (t : MT) (e : ME) : ME := fun η S => (it η S).bind fun xs S1 => (noexc (compL g t e (wipeE η own) xs S1 [])).bind fun ws S2 => .ok (.lst ws) S2
def mtYes : MT := fun _ S => .ok true S
/-! calls of the program's own functions -/
def mCall (φ : Fns) (f : Nat) (g : MA) : ME := fun η S => (g η S).bind fun ws S1 => φ f ws S1
/-- keywords: the arguments in the order of the text, then set in the order of the parameters -/
def mCallP (φ : Fns) (f : Nat) (perm : List Nat) (g : MA) : ME := fun η S => (g η S).bind fun ws S1 => φ f (perm.map fun i => ws.getD i .non) S1
/-- a call's end: keep: a list of the store that is new may be handed on -/
def fin (keep : Bool) (n : Nat) (w : W) (S : Store) : R W := if w.pure = true then .ok w (S.take n) else match w with
  | .ref i => if i < n then .ok w (S.take n) else (match S[i]? with
    | some (.lst xs) => if pures xs = true then (if keep = true then .ok (.ref n) (S.take n ++ [.lst xs]) else .ok (.lst xs) (S.take n)) else .stuck
    | _ => .stuck)
  | _ => .stuck
def finS (keep : Bool) (n : Nat) : RS → R W
  | .ret w S => fin keep n w S
  | .nx _ S => .ok .non (S.take n)
  | .exc c x _ S => if x.pure = true then .exc c x (S.take n) else .stuck
  | _ => .stuck
/-- a call that neither sees nor changes the store -/
def R.frame (S : Store) : R W → R W
  | .ok w _ => if w.pure = true then .ok w S else .stuck
  | .exc c x _ => if x.pure = true then .exc c x S else .stuck
  | .stuck => .stuck
def runF (F : Fun) (φ : Fns) (ws : List W) (S : Store) : R W := if ws.length = F.np then (if F.fr = true then (if pures ws = true then (finS false 0 (F.body φ (ws.map some ++ List.replicate (F.nv - F.np) none) [])).frame S else .stuck) else finS F.keep S.length (F.body φ (ws.map some ++ List.replicate (F.nv - F.np) none) S)) else .stuck
/-- the functions, to a depth -/
def fns (T : List Fun) : Nat → Fns
  | 0, _, _, _ => .stuck
  | d + 1, f, ws, S => match T[f]? with
    | some F => runF F (fns T d) ws S
    | none => .stuck
end Mp
set_option Elab.async false
set_option linter.all false
set_option maxRecDepth 100000
set_option maxHeartbeats 4000000
/-! Mp: the pure reading stands over the hand layer. -/
namespace Mp
open PySem PySem.Spec PyProof.Rows L2
theorem FrT.sq {K : PySem.W.Frag} {γ : Ga} {H : Hp} {a : Addr} {xs : List V} (h : FrT K γ H a xs) : SqT K H a xs := h.elim (fun z => .inl z.1) .inr
theorem FrS.sq {K : PySem.W.Frag} {γ : Ga} {H : Hp} {a : Addr} {xs : List V} (h : FrS K γ H a xs) : SqL K H a xs := h.elim (fun z => .inl (.inr z.1)) .inr
theorem DctAt.keep {H H' : Hp} {a : Addr} {ks : List W} {us : List V} (d : DctAt H a ks us) (k : ∀ o, H a = Option.some o → H' a = Option.some o) : DctAt H' a ks us := d.elim (fun ⟨kvs, h, e⟩ => .inl ⟨kvs, k _ h, e⟩) fun ⟨kvs, h, e⟩ => .inr ⟨kvs, k _ h, e⟩
theorem DctAt.someN {H : Hp} {a : Addr} {ks : List W} {us : List V} (d : DctAt H a ks us) : ∃ o, H a = Option.some o ∧ ∀ xs, o ≠ .tup xs := d.elim (fun ⟨_, h, _⟩ => ⟨_, h, fun _ z => nomatch z⟩) fun ⟨_, h, _⟩ => ⟨_, h, fun _ z => nomatch z⟩
theorem DctAt.some {H : Hp} {a : Addr} {ks : List W} {us : List V} (d : DctAt H a ks us) : ∃ o, H a = Option.some o := d.elim (fun ⟨_, h, _⟩ => ⟨_, h⟩) fun ⟨_, h, _⟩ => ⟨_, h⟩
theorem Ext.refl {γ : Ga} {H : Hp} : Ext γ H γ H := ⟨List.prefix_refl _, fun _ h => h, fun _ h => .inl h, fun _ _ e _ => e, fun _ h1 h2 => absurd h1 h2, fun _ o e => ⟨o, e⟩⟩
theorem Ext.off {γ γ' : Ga} {H H' : Hp} (e : Ext γ H γ' H') {a : Addr} {o : HO} (h : H a = some o) (f : γ.Off a) : γ'.Off a := by
  refine ⟨fun z => ?_, fun z => ?_⟩
  · have q := e.new a z f.1
    rw [h] at q
    cases q
  · rcases e.bnew a z with q | q
    · exact f.2 q
    · rw [h] at q
      cases q
theorem Ext.trans {γ γ1 γ2 : Ga} {H H1 H2 : Hp} (e : Ext γ H γ1 H1) (e2 : Ext γ1 H1 γ2 H2) : Ext γ H γ2 H2 := by
  have nn : ∀ {a : Addr}, H1 a = none → H a = none := fun {a} q => by
    cases z : H a with
    | none => rfl
    | some o =>
      obtain ⟨o', z'⟩ := e.dom a o z
      rw [q] at z'
      cases z'
  refine ⟨e.pre.trans e2.pre, fun a h => e2.bsub a (e.bsub a h), fun a h => ?_, fun a o h n => ?_, fun a h n => ?_, fun a o h => ?_⟩
  · rcases e2.bnew a h with q | q
    · exact e.bnew a q
    · exact .inr (nn q)
  · have n1 : a ∉ γ1.ρ := fun z => by
      have q := e.new a z n
      rw [h] at q
      cases q
    exact e2.keep a o (e.keep a o h n) n1
  · by_cases h1 : a ∈ γ1.ρ
    · exact e.new a h1 n
    · exact nn (e2.new a h h1)
  · obtain ⟨o1, h1⟩ := e.dom a o h
    exact e2.dom a o1 h1
section
variable {K : PySem.W.Frag} {G : Gs} {γ γ' : Ga} {H H' : Hp}
theorem Ext.rd (e : Ext γ H γ' H') {a : Addr} {u : HO} (h : Rd H a u) (f : γ.Off a) : Rd H' a u ∧ γ'.Off a := by
  rcases h with h | ⟨o, h⟩
  · exact ⟨.inl (e.keep _ _ h f.1), e.off h f⟩
  · exact ⟨.inr ⟨o, e.keep _ _ h f.1⟩, e.off h f⟩
theorem FrT.mono (e : Ext γ H γ' H') {a : Addr} {xs : List V} (h : FrT K γ H a xs) : FrT K γ' H' a xs := by
  rcases h with ⟨h, f⟩ | h
  · exact .inl (e.rd h f)
  · exact .inr h
theorem FrS.mono (e : Ext γ H γ' H') {a : Addr} {xs : List V} (h : FrS K γ H a xs) : FrS K γ' H' a xs := by
  rcases h with ⟨⟨o, h⟩, f⟩ | h
  · exact .inl ⟨⟨o, e.keep _ _ h f.1⟩, e.off h f⟩
  · exact .inr h
mutual
theorem Rep.mono (e : Ext γ H γ' H') : ∀ {w : W} {v : V}, Rep K G γ H w v → Rep K G γ' H' w v
  | _, _, .non => .non
  | _, _, .bl b => .bl b
  | _, _, .int i => .int i
  | _, _, .str s h1 h2 => .str s h1 h2
  | _, _, .tup h r => .tup (h.mono e) (Reps.mono e r)
  | _, _, .lst h f r => .lst (e.keep _ _ h f.1) (e.off h f) (Reps.mono e r)
  | _, _, .scr h r => .scr (h.mono e) (Reps.mono e r)
  | _, _, .ref h => .ref (by
      obtain ⟨t, q⟩ := e.pre
      rw [← q]
      rw [List.getElem?_append_left (List.getElem?_eq_some_iff.mp h).1]
      exact h)
  | _, _, .fn f => .fn f
  | _, _, .dct d f r => .dct (d.keep fun o h => e.keep _ _ h f.1) (e.off d.some.choose_spec f) (Reps.mono e r)
  | _, _, .exc h f r => .exc (e.keep _ _ h f.1) (e.off h f) (Rep.mono e r)
theorem Reps.mono (e : Ext γ H γ' H') : ∀ {ws : List W} {vs : List V}, Reps K G γ H ws vs → Reps K G γ' H' ws vs
  | _, _, .nil => .nil
  | _, _, .cons r t => .cons (Rep.mono e r) (Reps.mono e t)
end
/-! the same, what is being built may change -/
theorem Ext.w (e : Ext γ H γ' H') : ExtW γ H γ' H' := ⟨e.pre, e.bsub, e.bnew, fun a o h f => e.keep a o h f.1, e.new, e.dom⟩
theorem ExtW.off (e : ExtW γ H γ' H') {a : Addr} {o : HO} (h : H a = some o) (f : γ.Off a) : γ'.Off a := by
  refine ⟨fun z => ?_, fun z => ?_⟩
  · have q := e.new a z f.1
    rw [h] at q
    cases q
  · rcases e.bnew a z with q | q
    · exact f.2 q
    · rw [h] at q
      cases q
theorem ExtW.trans {γ1 : Ga} {H1 : Hp} (e : ExtW γ H γ1 H1) (e2 : ExtW γ1 H1 γ' H') : ExtW γ H γ' H' := by
  have nn : ∀ {a : Addr}, H1 a = none → H a = none := fun {a} q => by
    cases z : H a with
    | none => rfl
    | some o =>
      obtain ⟨o', z'⟩ := e.dom a o z
      rw [q] at z'
      cases z'
  refine ⟨e.pre.trans e2.pre, fun a h => e2.bsub a (e.bsub a h), fun a h => ?_, fun a o h n => e2.keep a o (e.keep a o h n) (e.off h n), fun a h n => ?_, fun a o h => ?_⟩
  · rcases e2.bnew a h with q | q
    · exact e.bnew a q
    · exact .inr (nn q)
  · by_cases h1 : a ∈ γ1.ρ
    · exact e.new a h1 n
    · exact nn (e2.new a h h1)
  · obtain ⟨o1, h1⟩ := e.dom a o h
    exact e2.dom a o1 h1
theorem ExtW.rd (e : ExtW γ H γ' H') {a : Addr} {u : HO} (h : Rd H a u) (f : γ.Off a) : Rd H' a u ∧ γ'.Off a := by
  rcases h with h | ⟨o, h⟩
  · exact ⟨.inl (e.keep _ _ h f), e.off h f⟩
  · exact ⟨.inr ⟨o, e.keep _ _ h f⟩, e.off h f⟩
theorem FrT.monoW (e : ExtW γ H γ' H') {a : Addr} {xs : List V} (h : FrT K γ H a xs) : FrT K γ' H' a xs := by
  rcases h with ⟨h, f⟩ | h
  · exact .inl (e.rd h f)
  · exact .inr h
theorem FrS.monoW (e : ExtW γ H γ' H') {a : Addr} {xs : List V} (h : FrS K γ H a xs) : FrS K γ' H' a xs := by
  rcases h with ⟨⟨o, h⟩, f⟩ | h
  · exact .inl ⟨⟨o, e.keep _ _ h f⟩, e.off h f⟩
  · exact .inr h
mutual
theorem Rep.monoW (e : ExtW γ H γ' H') : ∀ {w : W} {v : V}, Rep K G γ H w v → Rep K G γ' H' w v
  | _, _, .non => .non
  | _, _, .bl b => .bl b
  | _, _, .int i => .int i
  | _, _, .str s h1 h2 => .str s h1 h2
  | _, _, .tup h r => .tup (h.monoW e) (Reps.monoW e r)
  | _, _, .lst h f r => .lst (e.keep _ _ h f) (e.off h f) (Reps.monoW e r)
  | _, _, .scr h r => .scr (h.monoW e) (Reps.monoW e r)
  | _, _, .ref h => .ref (by
      obtain ⟨t, q⟩ := e.pre
      rw [← q]
      rw [List.getElem?_append_left (List.getElem?_eq_some_iff.mp h).1]
      exact h)
  | _, _, .fn f => .fn f
  | _, _, .dct d f r => .dct (d.keep fun o h => e.keep _ _ h f) (e.off d.some.choose_spec f) (Reps.monoW e r)
  | _, _, .exc h f r => .exc (e.keep _ _ h f) (e.off h f) (Rep.monoW e r)
theorem Reps.monoW (e : ExtW γ H γ' H') : ∀ {ws : List W} {vs : List V}, Reps K G γ H ws vs → Reps K G γ' H' ws vs
  | _, _, .nil => .nil
  | _, _, .cons r t => .cons (Rep.monoW e r) (Reps.monoW e t)
end
/-! values without a name of the store -/
mutual
theorem Rep.less {γ' : Ga} (f : ∀ a o, H a = some o → γ.Off a → γ'.Off a) : ∀ {w : W} {v : V}, w.pure = true → Rep K G γ H w v → Rep K G γ' H w v
  | _, _, _, .non => .non
  | _, _, _, .bl b => .bl b
  | _, _, _, .int i => .int i
  | _, _, _, .str s h1 h2 => .str s h1 h2
  | _, _, p, .tup h r => .tup (by
      rcases h with ⟨h, q⟩ | h
      · refine .inl ⟨h, ?_⟩
        rcases h with h | ⟨o, h⟩
        · exact f _ _ h q
        · exact f _ _ h q
      · exact .inr h) (Reps.less f (by simpa [W.pure] using p) r)
  | _, _, p, .lst h q r => .lst h (f _ _ h q) (Reps.less f (by simpa [W.pure] using p) r)
  | _, _, p, .scr h r => .scr (by
      rcases h with ⟨⟨o, h⟩, q⟩ | h
      · exact .inl ⟨⟨o, h⟩, f _ _ h q⟩
      · exact .inr h) (Reps.less f (by simpa [W.pure] using p) r)
  | _, _, p, .ref h => by simp [W.pure] at p
  | _, _, _, .fn f => .fn f
  | _, _, p, .dct d q r => .dct d (f _ _ d.some.choose_spec q) (Reps.less f (by
      rw [W.pure, Bool.and_eq_true] at p
      exact p.2) r)
theorem Reps.less {γ' : Ga} (f : ∀ a o, H a = some o → γ.Off a → γ'.Off a) : ∀ {ws : List W} {vs : List V}, pures ws = true → Reps K G γ H ws vs → Reps K G γ' H ws vs
  | _, _, _, .nil => .nil
  | _, _, p, .cons r t => by
    rw [pures, Bool.and_eq_true] at p
    exact .cons (Rep.less f p.1 r) (Reps.less f p.2 t)
end
theorem Reps.append : ∀ {ws ws' : List W} {vs vs' : List V}, Reps K G γ H ws vs → Reps K G γ H ws' vs' → Reps K G γ H (ws ++ ws') (vs ++ vs')
  | _, _, _, _, .nil, q => q
  | _, _, _, _, .cons r t, q => .cons r (Reps.append t q)
theorem Reps.one {w : W} {v : V} (r : Rep K G γ H w v) : Reps K G γ H [w] [v] := .cons r .nil
theorem Reps.take : ∀ {ws : List W} {vs : List V} (n : Nat), Reps K G γ H ws vs → Reps K G γ H (ws.take n) (vs.take n)
  | _, _, 0, _ => .nil
  | _, _, _ + 1, .nil => .nil
  | _, _, n + 1, .cons r t => .cons r (Reps.take n t)
theorem Reps.drop : ∀ {ws : List W} {vs : List V} (n : Nat), Reps K G γ H ws vs → Reps K G γ H (ws.drop n) (vs.drop n)
  | _, _, 0, r => r
  | _, _, _ + 1, .nil => .nil
  | _, _, n + 1, .cons r t => Reps.drop n t
theorem Reps.set {w : W} {v : V} (r : Rep K G γ H w v) : ∀ {ws : List W} {vs : List V} (i : Nat), Reps K G γ H ws vs → Reps K G γ H (ws.set i w) (vs.set i v)
  | _, _, _, .nil => .nil
  | _, _, 0, .cons _ t => .cons r t
  | _, _, i + 1, .cons q t => .cons q (Reps.set r i t)
theorem Reps.erase : ∀ {ws : List W} {vs : List V} (i : Nat), Reps K G γ H ws vs → Reps K G γ H (ws.eraseIdx i) (vs.eraseIdx i)
  | _, _, _, .nil => .nil
  | _, _, 0, .cons _ t => t
  | _, _, i + 1, .cons r t => .cons r (Reps.erase i t)
theorem Reps.rev : ∀ {ws : List W} {vs : List V}, Reps K G γ H ws vs → Reps K G γ H ws.reverse vs.reverse
  | _, _, .nil => .nil
  | _, _, .cons r t => by
    rw [List.reverse_cons, List.reverse_cons]
    exact Reps.append (Reps.rev t) (.one r)
end
theorem CellOk.to {K : PySem.W.Frag} {G : Gs} {γ γ' : Ga} {H H' : Hp} {c : Cell} {a : Addr} (q : CellOk K G γ H c a) (k : ∀ o, H a = some o → H' a = some o) (m : ∀ {ws : List W} {vs : List V}, pures ws = true → Reps K G γ H ws vs → Reps K G γ' H' ws vs) : CellOk K G γ' H' c a := by
  cases c with
  | lst xs =>
    obtain ⟨p, vs, hv, r⟩ := q
    exact ⟨p, vs, k _ hv, m p r⟩
  | dct ks ws =>
    obtain ⟨p0, p, us, d, r⟩ := q
    exact ⟨p0, p, us, d.keep k, m p r⟩
  | ins _ _ => exact q.elim
section
variable {K : PySem.W.Frag} {G : Gs} {γ γ' : Ga} {H H' : Hp} {S : Store} {η : Env} {σ : L2.St}
theorem EnvOk.mono (e : Ext γ H γ' H') (h : EnvOk K G γ H η σ) : EnvOk K G γ' H' η σ := ⟨h.1, fun i w q => by
  obtain ⟨v, e1, r⟩ := h.2 i w q
  exact ⟨v, e1, r.mono e⟩⟩
theorem StoreOk.tracked0 (s : StoreOk K G γ H S) {a : Addr} (h : a ∈ γ.ρ) : ∃ o, H a = some o ∧ ∀ xs, o ≠ .tup xs := by
  obtain ⟨i, hi, e⟩ := List.mem_iff_getElem.mp h
  have hs : i < S.length := by rw [← s.len]; exact hi
  have q := s.cell i S[i] a (List.getElem?_eq_getElem hs) (by rw [← e]; exact List.getElem?_eq_getElem hi)
  cases hc : S[i] with
  | lst xs => rw [hc] at q; obtain ⟨_, vs, hv, _⟩ := q; exact ⟨_, hv, fun _ z => nomatch z⟩
  | dct _ _ => rw [hc] at q; obtain ⟨_, _, us, d, _⟩ := q; exact d.someN
  | ins _ _ => rw [hc] at q; exact q.elim
theorem StoreOk.tracked (s : StoreOk K G γ H S) {a : Addr} (h : a ∈ γ.ρ) : ∃ o, H a = some o := let ⟨o, e, _⟩ := s.tracked0 h; ⟨o, e⟩
theorem StoreOk.fresh (s : StoreOk K G γ H S) {p : Addr} (h : H p = none) : γ.Off p := by
  refine ⟨fun z => ?_, fun z => ?_⟩
  · obtain ⟨o, e⟩ := s.tracked z
    rw [h] at e
    cases e
  · obtain ⟨_, o, e, _⟩ := s.bt p z
    rw [h] at e
    cases e
/-- a new object beside -/
theorem Ext.upd (s : StoreOk K G γ H S) {p : Addr} {o : HO} (h : H p = none) : Ext γ H γ (L2.upd H p o) :=
  ⟨List.prefix_refl _, fun _ h => h, fun _ h => .inl h, fun a u e _ => by rw [upd_ne (ne_of_none e h)]; exact e, fun _ h1 h2 => absurd h1 h2, fun a u e => ⟨u, by rw [upd_ne (ne_of_none e h)]; exact e⟩⟩
theorem StoreOk.upd (s : StoreOk K G γ H S) {p : Addr} {o : HO} (h : H p = none) : StoreOk K G γ (L2.upd H p o) S := by
  have e := Ext.upd (K := K) (G := G) s (o := o) h
  refine ⟨s.len, s.nd, fun i c a hc ha => ?_, fun a ha => ⟨(s.bt a ha).1, ?_⟩⟩
  · have q := s.cell i c a hc ha
    have mem : a ∈ γ.ρ := List.mem_of_getElem? ha
    cases c with
    | lst xs =>
      obtain ⟨p1, vs, hv, r⟩ := q
      exact ⟨p1, vs, by rw [upd_ne (ne_of_none hv h)]; exact hv, r.mono e⟩
    | dct _ _ => exact q.to (fun o e' => by rw [upd_ne (ne_of_none e' h)]; exact e') fun _ r => r.mono e
    | ins _ _ => exact q.elim
  · obtain ⟨o', q, nt⟩ := (s.bt a ha).2
    exact ⟨o', by rw [upd_ne (ne_of_none q h)]; exact q, nt⟩
/-- a new list of the store -/
def Ga.push (γ : Ga) (p : Addr) : Ga := ⟨γ.ρ ++ [p], γ.β⟩
theorem Ext.push (s : StoreOk K G γ H S) {p : Addr} {o : HO} (h : H p = none) : Ext γ H (γ.push p) (L2.upd H p o) :=
  ⟨List.prefix_append _ _, fun _ h => h, fun _ h => .inl h, fun a u e _ => by rw [upd_ne (ne_of_none e h)]; exact e, fun a h1 h2 => by
    rcases List.mem_append.mp h1 with z | z
    · exact absurd z h2
    · have z' : a = p := by simpa using z
      rw [z']; exact h, fun a u e => ⟨u, by rw [upd_ne (ne_of_none e h)]; exact e⟩⟩
theorem StoreOk.push (s : StoreOk K G γ H S) {p : Addr} {xs : List W} {vs : List V} (h : H p = none) (hp : pures xs = true) (r : Reps K G γ H xs vs) : StoreOk K G (γ.push p) (L2.upd H p (.lst vs)) (S ++ [.lst xs]) := by
  have e := Ext.push (K := K) (G := G) s (o := .lst vs) h
  have off := s.fresh h
  refine ⟨by simp [Ga.push, s.len], ?_, fun i c a hc ha => ?_, fun a ha => ?_⟩
  · show (γ.ρ ++ [p]).Nodup
    rw [List.nodup_append]
    exact ⟨s.nd, by simp, fun a ha b hb => by
      have z : b = p := by simpa using hb
      rw [z]
      rintro rfl
      exact off.1 ha⟩
  · by_cases hi : i < S.length
    · rw [List.getElem?_append_left hi] at hc
      have hi' : i < γ.ρ.length := by rw [s.len]; exact hi
      have ha' : γ.ρ[i]? = some a := by
        have z : (γ.ρ ++ [p])[i]? = some a := ha
        rwa [List.getElem?_append_left hi'] at z
      have q := s.cell i c a hc ha'
      cases c with
      | lst ys =>
        obtain ⟨p1, us, hv, r'⟩ := q
        exact ⟨p1, us, by rw [upd_ne (ne_of_none hv h)]; exact hv, r'.mono e⟩
      | dct _ _ => exact q.to (fun o e' => by rw [upd_ne (ne_of_none e' h)]; exact e') fun _ r => r.mono e
      | ins _ _ => exact q.elim
    · have hlt := (List.getElem?_eq_some_iff.mp hc).1
      rw [List.length_append, List.length_singleton] at hlt
      have ei : i = S.length := by omega
      subst ei
      rw [List.getElem?_append_right (Nat.le_refl _), Nat.sub_self] at hc
      have hc' : Cell.lst xs = c := by simpa using hc
      subst hc'
      have ha' : p = a := by
        have z : (γ.ρ ++ [p])[S.length]? = some a := ha
        rw [← s.len, List.getElem?_append_right (Nat.le_refl _), Nat.sub_self] at z
        simpa using z
      subst ha'
      exact ⟨hp, vs, upd_same, r.mono e⟩
  · obtain ⟨n, o, q, nt⟩ := s.bt a ha
    refine ⟨fun z => ?_, o, by rw [upd_ne (ne_of_none q h)]; exact q, nt⟩
    rcases List.mem_append.mp z with z | z
    · exact n z
    · have z' : a = p := by simpa using z
      rw [z', h] at q
      cases q
/-- a list of the store is changed -/
theorem StoreOk.write (s : StoreOk K G γ H S) {i : Nat} {a : Addr} {xs ys : List W} {us : List V} (hc : S[i]? = some (.lst xs)) (ha : γ.ρ[i]? = some a) (hp : pures ys = true) (r : Reps K G γ H ys us) :
    Ext γ H γ (L2.upd H a (.lst us)) ∧ StoreOk K G γ (L2.upd H a (.lst us)) (S.set i (.lst ys)) := by
  have mem : a ∈ γ.ρ := List.mem_of_getElem? ha
  have e : Ext γ H γ (L2.upd H a (.lst us)) := ⟨List.prefix_refl _, fun _ h => h, fun _ h => .inl h, fun b u q n => by
    have z : b ≠ a := fun z => n (by rw [z]; exact mem)
    rw [upd_ne z]; exact q, fun _ h1 h2 => absurd h1 h2, fun b u q => by
    by_cases z : b = a
    · exact ⟨_, by rw [z]; exact upd_same⟩
    · exact ⟨u, by rw [upd_ne z]; exact q⟩⟩
  refine ⟨e, by rw [List.length_set]; exact s.len, s.nd, fun j c b hc' hb => ?_, fun b hb => ?_⟩
  · by_cases hj : i = j
    · subst hj
      rw [List.getElem?_set_self (List.getElem?_eq_some_iff.mp hc).1] at hc'
      have z : Cell.lst ys = c := Option.some.inj hc'
      subst z
      rw [ha] at hb
      cases hb
      exact ⟨hp, us, upd_same, r.mono e⟩
    · rw [List.getElem?_set_ne hj] at hc'
      have q := s.cell j c b hc' hb
      have hne : b ≠ a := fun z => by
        rw [z] at hb
        obtain ⟨h1, e1⟩ := List.getElem?_eq_some_iff.mp ha
        obtain ⟨h2, e2⟩ := List.getElem?_eq_some_iff.mp hb
        exact hj ((List.getElem_inj s.nd).mp (e1.trans e2.symm))
      cases c with
      | lst zs =>
        obtain ⟨p1, vs, hv, r'⟩ := q
        exact ⟨p1, vs, by rw [upd_ne hne]; exact hv, r'.mono e⟩
      | dct _ _ => exact q.to (fun o e' => by rw [upd_ne hne]; exact e') fun _ r => r.mono e
      | ins _ _ => exact q.elim
  · obtain ⟨n, o, q, nt⟩ := s.bt b hb
    exact ⟨n, o, by rw [upd_ne (fun z => n (by rw [z]; exact mem))]; exact q, nt⟩
end
/-! ### ends -/
section
variable {K : PySem.W.Frag} {G : Gs} {γ γ1 : Ga} {H H1 : Hp} {wx : Wx} {α β α' β' : Type} {rel : Rel α β} {rel' : Rel α' β'}
theorem Post.base {r : R α} {Q : β → Hp → Prop} (e : Ext γ H γ1 H1) (h : Post K G rel wx γ H r Q) : Post K G rel wx γ1 H1 r Q := by
  cases r with
  | ok w S' => exact fun v γ' H' e' q s => h v γ' H' (e.trans e') q s
  | exc c x S' => exact fun v d γ' H' e' q s hd ho => h v d γ' H' (e.trans e') q s hd ho
  | stuck => exact h
theorem Post.seq {r : R α} {k : α → Store → R α'} {Q : β' → Hp → Prop} (h : Post K G rel' wx γ H (r.bind k) Q) :
    Post K G rel wx γ H r fun v H1 => ∃ w S1 γ1, Ext γ H γ1 H1 ∧ rel γ1 H1 w v ∧ StoreOk K G γ1 H1 S1 ∧ Post K G rel' wx γ1 H1 (k w S1) Q := by
  cases r with
  | ok w S' => exact fun v γ' H' e q s => ⟨w, S', γ', e, q, s, Post.base e h⟩
  | exc c x S' => exact h
  | stuck => exact h
theorem Post.imp {r : R α} {Q Q' : β → Hp → Prop} (h : Post K G rel wx γ H r Q) (i : ∀ v H', Q v H' → Q' v H') : Post K G rel wx γ H r Q' := by
  cases r with
  | ok w S' => exact fun v γ' H' e q s => i _ _ (h v γ' H' e q s)
  | exc c x S' => exact h
  | stuck => exact h
end
/-! ### the judgements -/
theorem _root_.L2.PE.imp {X : Cx} {e : Expr} {t t' : TE} (h : PE X e t) (i : ∀ σ H Q, t' σ H Q → t σ H Q) : PE X e t' := ⟨fun pins s σ H Q I q => h.run pins s σ H Q I (i _ _ _ q)⟩
theorem _root_.L2.PT.imp {X : Cx} {e : Expr} {t t' : TT} (h : PT X e t) (i : ∀ σ H Q, t' σ H Q → t σ H Q) : PT X e t' := ⟨fun pins s σ H Q I q => h.run pins s σ H Q I (i _ _ _ q)⟩
theorem _root_.L2.PW.imp {X : Cx} {e : Expr} {t t' : TT} (h : PW X e t) (i : ∀ σ H Q, t' σ H Q → t σ H Q) : PW X e t' := ⟨fun wh pins s σ H Q I q => h.run wh pins s σ H Q I (i _ _ _ q)⟩
theorem _root_.L2.PA.imp {X : Cx} {e : List Expr} {t t' : TA} (h : PA X e t) (i : ∀ σ H Q, t' σ H Q → t σ H Q) : PA X e t' := ⟨fun pos pins s σ H Q I q => h.run pos pins s σ H Q I (i _ _ _ q)⟩
theorem _root_.L2.PS.imp {X : Cx} {e : Stmt} {t t' : TS} (h : PS X e t) (i : ∀ D σ H, t' D σ H → t D σ H) : PS X e t' := ⟨fun pins s σ H D I q => h.run pins s σ H D I (i _ _ _ q)⟩
theorem _root_.L2.PSs.imp {X : Cx} {e : List Stmt} {t t' : TS} (h : PSs X e t) (i : ∀ D σ H, t' D σ H → t D σ H) : PSs X e t' := ⟨fun pins s σ H D I q => h.run pins s σ H D I (i _ _ _ q)⟩
theorem _root_.L2.OpR.imp {X : Cx} {f : Value → Value → Sem Value} {r r' : R2} (h : OpR X f r) (i : ∀ x y H Q, r' x y H Q → r x y H Q) : OpR X f r' := fun pins s σ H x y v u Q I rx ry q => h pins s σ H x y v u Q I rx ry (i _ _ _ _ q)
end Mp
set_option Elab.async false
set_option linter.all false
set_option maxRecDepth 100000
set_option maxHeartbeats 4000000
/-! Mp: operators. -/
namespace Mp
open PySem PySem.Spec PyProof.Rows L2
theorem bigLine_eq : bigLine = sizeLine := by rw [sizeLine_eq]; rfl
section
variable {K : PySem.W.Frag} {G : Gs} {γ γ' : Ga} {H H' : Hp} {S : Store}
theorem lstOf_rep {w : W} {v : V} {xs : List W} (s : StoreOk K G γ H S) (h : lstOf S w = some xs) (r : Rep K G γ H w v) : ∃ a vs, v = .ref a ∧ H a = some (.lst vs) ∧ Reps K G γ H xs vs := by
  cases r with
  | lst h1 f q =>
    have e : _ = xs := Option.some.inj h
    subst e
    exact ⟨_, _, rfl, h1, q⟩
  | @ref i a h1 =>
    have h' : (match S[i]? with
      | some (.lst xs) => some xs
      | _ => none) = some xs := h
    split at h'
    · rename_i ys hc
      have e : ys = xs := Option.some.inj h'
      subst e
      obtain ⟨_, vs, hv, q⟩ := s.cell i _ a hc h1
      exact ⟨a, vs, rfl, hv, q⟩
    · cases h'
  | _ => cases h
theorem plainL_rep {w : W} {v : V} (s : StoreOk K G γ H S) (r : Rep K G γ H w v) : (∃ xs a vs, plainL S w = .lst xs ∧ v = .ref a ∧ H a = some (.lst vs) ∧ Reps K G γ H xs vs) ∨ plainL S w = w := by
  unfold plainL
  cases h : lstOf S w with
  | none => exact .inr rfl
  | some xs =>
    obtain ⟨a, vs, e, hv, q⟩ := lstOf_rep s h r
    exact .inl ⟨xs, a, vs, rfl, e, hv, q⟩
mutual
def toD : W → PyData
  | .bl b => .bool b
  | .int i => .int i
  | .str s => .str ⟨s.toArray⟩
  | .tup xs => .tuple (toDs xs)
  | .lst xs => .list (toDs xs)
  | .non => .none
  | .scr _ => .none
  | .dct _ _ => .none
  | .ref _ => .none
  | .fn _ => .none
  | .cls _ => .none
  | .exc _ _ => .none
def toDs : List W → List PyData
  | [] => []
  | x :: xs => toD x :: toDs xs
end
mutual
theorem dp_of : ∀ (w : W) (v : V) (k : Nat), okD w k = true → Rep K G γ H w v → Dp K H v (toD w)
  | .non, _, _, _, .non => .non
  | .bl b, _, _, _, .bl _ => .bl b
  | .int i, _, _, _, .int _ => .int i
  | .str s, _, _, _, .str _ _ _ => .str _
  | .tup xs, _, k, o, .tup h q => by
    unfold okD at o
    exact .tup h.sq (dps_of xs _ _ (Bool.and_eq_true_iff.mp o).2 q)
  | .lst xs, _, k, o, .lst h f q => by
    unfold okD at o
    exact .lst (SqL.of h) (dps_of xs _ _ (Bool.and_eq_true_iff.mp o).2 q)
theorem dps_of : ∀ (ws : List W) (vs : List V) (k : Nat), okDs ws k = true → Reps K G γ H ws vs → DpAll K H vs (toDs ws)
  | [], _, _, _, .nil => .nil
  | w :: ws, _, k, o, .cons r t => by
    unfold okDs at o
    obtain ⟨o1, o2⟩ := Bool.and_eq_true_iff.mp o
    exact .cons (dp_of w _ k o1 r) (dps_of ws _ k o2 t)
end
theorem strOk_of {s : List Nat} (h : ∀ c ∈ s, c < 0x110000) : PySem.PyData.canLay0 (.str ⟨s.toArray⟩) = true := by
  unfold PySem.PyData.canLay0 PySem.PyData.strOk
  simp
  exact h
mutual
theorem lay_of : ∀ (w : W) (v : V) (k : Nat), okD w k = true → Rep K G γ H w v → (toD w).canLay0 = true ∧ (toD w).depth ≤ k
  | .non, _, _, _, .non => ⟨by simp [toD, PyData.canLay0], by simp [toD, PyData.depth]⟩
  | .bl b, _, _, _, .bl _ => ⟨by simp [toD, PyData.canLay0], by simp [toD, PyData.depth]⟩
  | .int i, _, _, _, .int _ => ⟨by simp [toD, PyData.canLay0], by simp [toD, PyData.depth]⟩
  | .str s, _, _, _, .str _ h _ => ⟨by unfold toD; exact strOk_of h, by simp [toD, PyData.depth]⟩
  | .tup xs, _, k, o, .tup h q => by
    unfold okD at o
    obtain ⟨o1, o2⟩ := Bool.and_eq_true_iff.mp o
    have o1 : 0 < k := of_decide_eq_true o1
    obtain ⟨h1, h2⟩ := lays_of xs _ _ o2 q
    exact ⟨by simp only [toD, PyData.canLay0]; exact h1, by simp only [toD, PyData.depth]; omega⟩
  | .lst xs, _, k, o, .lst h f q => by
    unfold okD at o
    obtain ⟨o1, o2⟩ := Bool.and_eq_true_iff.mp o
    have o1 : 0 < k := of_decide_eq_true o1
    obtain ⟨h1, h2⟩ := lays_of xs _ _ o2 q
    exact ⟨by simp only [toD, PyData.canLay0]; exact h1, by simp only [toD, PyData.depth]; omega⟩
theorem lays_of : ∀ (ws : List W) (vs : List V) (k : Nat), okDs ws k = true → Reps K G γ H ws vs → PyData.canLayAll0 (toDs ws) = true ∧ PyData.depthAll (toDs ws) ≤ k
  | [], _, _, _, .nil => ⟨by simp [toDs, PyData.canLayAll0], by simp [toDs, PyData.depthAll]⟩
  | w :: ws, _, k, o, .cons r t => by
    unfold okDs at o
    obtain ⟨o1, o2⟩ := Bool.and_eq_true_iff.mp o
    obtain ⟨a1, a2⟩ := lay_of w _ k o1 r
    obtain ⟨b1, b2⟩ := lays_of ws _ k o2 t
    exact ⟨by simp only [toDs, PyData.canLayAll0, a1, b1, Bool.and_self], by simp only [toDs, PyData.depthAll]; omega⟩
end
theorem str_beqW (x y : List Nat) : ((⟨x.toArray⟩ : Str) == ⟨y.toArray⟩) = (x == y) := by
  rw [← SeqAt.str_beq]
mutual
theorem eqv_of : ∀ (a b : W) (k j : Nat), okD a k = true → okD b j = true → PyData.eqv (toD a) (toD b) = eqW a b
  | .non, b, _, _, _, h => by cases b <;> simp [toD, PyData.eqv, eqW, okD] at h ⊢
  | .bl _, b, _, _, _, h => by cases b <;> simp [toD, PyData.eqv, eqW, okD] at h ⊢
  | .int _, b, _, _, _, h => by cases b <;> simp [toD, PyData.eqv, eqW, okD] at h ⊢
  | .str _, b, _, _, _, h => by
    cases b <;> simp only [toD, PyData.eqv, eqW, okD] at h ⊢ <;> first | exact str_beqW _ _ | cases h
  | .tup xs, b, k, j, g, h => by
    cases b <;> simp only [toD, PyData.eqv, eqW, okD] at h ⊢ <;> first | exact eqvs_of xs _ _ _ (Bool.and_eq_true_iff.mp (by unfold okD at g; exact g)).2 (Bool.and_eq_true_iff.mp h).2 | cases h
  | .lst xs, b, k, j, g, h => by
    cases b <;> simp only [toD, PyData.eqv, eqW, okD] at h ⊢ <;> first | exact eqvs_of xs _ _ _ (Bool.and_eq_true_iff.mp (by unfold okD at g; exact g)).2 (Bool.and_eq_true_iff.mp h).2 | cases h
  | .scr _, _, _, _, g, _ => by simp [okD] at g
  | .dct _ _, _, _, _, g, _ => by simp [okD] at g
  | .ref _, _, _, _, g, _ => by simp [okD] at g
  | .fn _, _, _, _, g, _ => by simp [okD] at g
  | .cls _, _, _, _, g, _ => by simp [okD] at g
  | .exc _ _, _, _, _, g, _ => by simp [okD] at g
theorem eqvs_of : ∀ (a b : List W) (k j : Nat), okDs a k = true → okDs b j = true → PyData.eqvAll (toDs a) (toDs b) = eqWs a b
  | [], [], _, _, _, _ => by simp [toDs, PyData.eqvAll, eqWs]
  | [], _ :: _, _, _, _, _ => by simp [toDs, PyData.eqvAll, eqWs]
  | _ :: _, [], _, _, _, _ => by simp [toDs, PyData.eqvAll, eqWs]
  | x :: xs, y :: ys, k, j, g, h => by
    unfold okDs at g h
    obtain ⟨g1, g2⟩ := Bool.and_eq_true_iff.mp g
    obtain ⟨h1, h2⟩ := Bool.and_eq_true_iff.mp h
    simp only [toDs, PyData.eqvAll, eqWs]
    rw [eqv_of x y k j g1 h1, eqvs_of xs ys k j g2 h2]
end
theorem dp_plain {w : W} {v : V} (s : StoreOk K G γ H S) (r : Rep K G γ H w v) (o : okD (plainL S w) 30 = true) : Dp K H v (toD (plainL S w)) ∧ SeqAt.shaped (toD (plainL S w)) = true := by
  have fin : ∀ {k : Nat} {d : PyData}, d.canLay0 = true → d.depth ≤ 30 → SeqAt.shaped d = true := fun h1 h2 => by
    unfold SeqAt.shaped
    rw [h1, decide_eq_true (show _ ≤ 64 by omega)]
    rfl
  rcases plainL_rep s r with ⟨xs, a, vs, e, rfl, hv, q⟩ | e
  · rw [e] at o ⊢
    have o2 := o
    unfold okD at o2
    obtain ⟨o3, o4⟩ := Bool.and_eq_true_iff.mp o2
    obtain ⟨l1, l2⟩ := lays_of xs _ _ o4 q
    refine ⟨by unfold toD; exact .lst (SqL.of hv) (dps_of xs _ _ o4 q), fin (k := 0) (by simp only [toD, PyData.canLay0]; exact l1) (by simp only [toD, PyData.depth]; omega)⟩
  · rw [e] at o ⊢
    obtain ⟨l1, l2⟩ := lay_of w v 30 o r
    exact ⟨dp_of w v 30 o r, fin (k := 0) l1 l2⟩
end
/-! operators by their values -/
def rOf (K : PySem.W.Frag) (G : Gs) (o : O2) : R2 := fun x y H Q => ∃ wx wy S γ w, Rep K G γ H wx x ∧ Rep K G γ H wy y ∧ StoreOk K G γ H S ∧ o wx wy S = some w ∧
  ∀ v γ' H', Ext γ H γ' H' → Rep K G γ' H' w v → StoreOk K G γ' H' S → Q v H'
section
variable {X : Cx} {G : Gs}
theorem o2_add : OpR X (binaryOp .Add) (rOf X.K G opAdd) := by
  refine (OpR.or op_add (OpR.or op_add_str (OpR.or op_cat op_catA))).imp ?_
  rintro x y H Q ⟨wx, wy, S, γ, w, rx, ry, s, h, k⟩
  unfold opAdd at h
  split at h
  · cases rx; cases ry; cases h
    exact .inl ⟨_, _, rfl, rfl, k _ γ H Ext.refl (.int _) s⟩
  · rename_i a b
    cases rx with
    | str _ a1 a2 =>
      cases ry with
      | str _ b1 b2 =>
        split at h
        · rename_i hl
          cases h
          rw [bigLine_eq] at hl
          refine .inr (.inl ⟨_, _, rfl, rfl, ?_, ?_⟩)
          · simpa [Str.length] using hl
          · have e : ((⟨a.toArray⟩ : Str) ++ ⟨b.toArray⟩) = ⟨(a ++ b).toArray⟩ := by
              show Str.mk _ = _
              simp
            rw [e]
            refine k _ γ H Ext.refl (.str _ (fun c hc => ?_) (by simpa using hl)) s
            rcases List.mem_append.mp hc with z | z
            · exact a1 c z
            · exact b1 c z
        · cases h
  · cases rx with
    | @tup a1 v1 x1 f1 q1 =>
      cases ry with
      | @tup a2 v2 x2 f2 q2 =>
        split at h
        · rename_i hl
          cases h
          rw [bigLine_eq] at hl
          have e1 := q1.length
          have e2 := q2.length
          refine .inr (.inr (.inr ⟨a1, a2, v1, v2, rfl, rfl, f1.sq, f2.sq, by omega, fun e => ?_, fun _ e => ?_, fun _ _ p hp => ?_⟩))
          · subst e
            cases q1
            exact k _ γ H Ext.refl (.tup f2 q2) s
          · subst e
            cases q2
            rw [List.append_nil] at k
            exact k _ γ H Ext.refl (.tup f1 q1) s
          · have ex := Ext.upd (K := X.K) (G := G) s (o := .tup (v1 ++ v2)) hp
            exact k _ γ _ ex (.tup (.inl ⟨.inl upd_same, s.fresh hp⟩) ((q1.mono ex).append (q2.mono ex))) (s.upd hp)
        · cases h
  · split at h
    · rename_i xs ys hx hy
      split at h
      · rename_i hl
        cases h
        rw [bigLine_eq] at hl
        obtain ⟨a1, v1, rfl, h1, q1⟩ := lstOf_rep s hx rx
        obtain ⟨a2, v2, rfl, h2, q2⟩ := lstOf_rep s hy ry
        have e1 := q1.length
        have e2 := q2.length
        refine .inr (.inr (.inl ⟨a1, a2, v1, v2, rfl, rfl, h1, h2, by omega, fun p hp => ?_⟩))
        have ex := Ext.upd (K := X.K) (G := G) s (o := .lst (v1 ++ v2)) hp
        exact k _ γ _ ex (.lst upd_same (s.fresh hp) ((q1.mono ex).append (q2.mono ex))) (s.upd hp)
      · cases h
    · cases h
theorem o2_sub : OpR X (binaryOp .Sub) (rOf X.K G opSub) := by
  refine op_sub.imp ?_
  rintro x y H Q ⟨wx, wy, S, γ, w, rx, ry, s, h, k⟩
  unfold opSub at h
  split at h
  · cases rx; cases ry; cases h
    exact ⟨_, _, rfl, rfl, k _ γ H Ext.refl (.int _) s⟩
  · cases h
theorem reps_flat {K : PySem.W.Frag} {γ : Ga} {H : Hp} {xs : List W} {vs : List V} (q : Reps K G γ H xs vs) : ∀ n, Reps K G γ H (List.replicate n xs).flatten (List.replicate n vs).flatten
  | 0 => .nil
  | n + 1 => by
    rw [List.replicate_succ, List.replicate_succ, List.flatten_cons, List.flatten_cons]
    exact q.append (reps_flat q n)
theorem o2_mul : OpR X (binaryOp .Mult) (rOf X.K G opMul) := by
  refine (OpR.or op_mul op_rep).imp ?_
  rintro x y H Q ⟨wx, wy, S, γ, w, rx, ry, s, h, k⟩
  unfold opMul at h
  split at h
  · cases rx; cases ry
    split at h
    · rename_i i j hm
      cases h
      refine .inl ⟨_, _, rfl, rfl, ?_, k _ γ H Ext.refl (.int _) s⟩
      unfold mulOk at hm
      rw [Bool.or_eq_true, decide_eq_true_eq, decide_eq_true_eq] at hm
      unfold CMul
      omega
    · cases h
  · rename_i n _
    split at h
    · rename_i xs hx
      split at h
      · rename_i hl
        cases h
        cases ry
        obtain ⟨a1, v1, rfl, h1, q1⟩ := lstOf_rep s hx rx
        have e1 := q1.length
        obtain ⟨l1, l2, l3⟩ := hl
        rw [bigLine_eq] at l3
        refine .inr ⟨a1, _, v1, rfl, rfl, h1, by omega, by omega, by rw [← e1]; exact l3, fun p hp => ?_⟩
        have ex := Ext.upd (K := X.K) (G := G) s (o := .lst (List.replicate n.toNat v1).flatten) hp
        exact k _ γ _ ex (.lst upd_same (s.fresh hp) (reps_flat (q1.mono ex) _)) (s.upd hp)
      · cases h
    · cases h
  · cases h
theorem o2_div : OpR X (binaryOp .FloorDiv) (rOf X.K G opDiv) := by
  refine op_fdivW.imp ?_
  rintro x y H Q ⟨wx, wy, S, γ, w, rx, ry, s, h, k⟩
  unfold opDiv at h
  split at h
  · cases rx; cases ry
    split at h
    · rename_i hm
      cases h
      exact ⟨_, _, rfl, rfl, hm, k _ γ H Ext.refl (.int _) s⟩
    · cases h
  · cases h
theorem o2_mod : OpR X (binaryOp .Mod) (rOf X.K G opMod) := by
  refine op_mod.imp ?_
  rintro x y H Q ⟨wx, wy, S, γ, w, rx, ry, s, h, k⟩
  unfold opMod at h
  split at h
  · cases rx; cases ry
    split at h
    · rename_i hm
      cases h
      exact ⟨_, _, rfl, rfl, hm, k _ γ H Ext.refl (.int _) s⟩
    · cases h
  · cases h
theorem o2_pow : OpR X (binaryOp .Pow) (rOf X.K G opPow) := by
  refine op_pow.imp ?_
  rintro x y H Q ⟨wx, wy, S, γ, w, rx, ry, s, h, k⟩
  unfold opPow at h
  split at h
  · cases rx; cases ry
    split at h
    · rename_i hm
      cases h
      exact ⟨_, _, rfl, rfl, ⟨hm.1, hm.2.1, by have := hm.2.2; omega⟩, k _ γ H Ext.refl (.int _) s⟩
    · cases h
  · cases h
theorem o2_eq (hu : X.A.units + 64 < cLine) : OpR X (compareOp .Eq) (rOf X.K G opEq) := by
  refine (op_eqD hu).imp ?_
  rintro x y H Q ⟨wx, wy, S, γ, w, rx, ry, s, h, k⟩
  unfold opEq at h
  split at h
  · rename_i hm
    cases h
    obtain ⟨d1, s1⟩ := dp_plain s rx hm.1
    obtain ⟨d2, s2⟩ := dp_plain s ry hm.2
    exact ⟨_, _, d1, d2, s1, s2, by rw [eqv_of _ _ _ _ hm.1 hm.2]; exact k _ γ H Ext.refl (.bl _) s⟩
  · cases h
theorem o2_ne (hu : X.A.units + 64 < cLine) : OpR X (compareOp .NotEq) (rOf X.K G opNe) := by
  refine (op_neD hu).imp ?_
  rintro x y H Q ⟨wx, wy, S, γ, w, rx, ry, s, h, k⟩
  unfold opNe at h
  split at h
  · rename_i hm
    cases h
    obtain ⟨d1, s1⟩ := dp_plain s rx hm.1
    obtain ⟨d2, s2⟩ := dp_plain s ry hm.2
    exact ⟨_, _, d1, d2, s1, s2, by rw [eqv_of _ _ _ _ hm.1 hm.2]; exact k _ γ H Ext.refl (.bl _) s⟩
  · cases h
theorem o2_cmp {op : CmpOp} {p : Int → Int → Bool} {q : List Nat → List Nat → Bool} (h1 : OpR X (compareOp op) (rI0 fun i j => .bl (p i j)))
    (h2 : OpR X (compareOp op) (fun x y H Q => ∃ i j, x = .str i ∧ y = .str j ∧ Q (.bl (q i.cps.toList j.cps.toList)) H)) : OpR X (compareOp op) (rOf X.K G (opCmp p q)) := by
  refine (OpR.or h1 h2).imp ?_
  rintro x y H Q ⟨wx, wy, S, γ, w, rx, ry, s, h, k⟩
  unfold opCmp at h
  split at h
  · cases rx; cases ry; cases h
    exact .inl ⟨_, _, rfl, rfl, k _ γ H Ext.refl (.bl _) s⟩
  · cases rx; cases ry; cases h
    exact .inr ⟨_, _, rfl, rfl, k _ γ H Ext.refl (.bl _) s⟩
  · cases h
theorem o2_lt : OpR X (compareOp .Lt) (rOf X.K G opLt) := o2_cmp op_lt op_lt_str
theorem o2_le : OpR X (compareOp .LtE) (rOf X.K G opLe) := o2_cmp op_le (q := fun a b => !decide (b < a)) op_le_str
theorem o2_gt : OpR X (compareOp .Gt) (rOf X.K G opGt) := o2_cmp op_gt (q := fun a b => decide (b < a)) op_gt_str
theorem o2_ge : OpR X (compareOp .GtE) (rOf X.K G opGe) := o2_cmp op_ge (q := fun a b => !decide (a < b)) op_ge_str
end
end Mp
set_option Elab.async false
set_option linter.all false
set_option maxRecDepth 100000
set_option maxHeartbeats 4000000
/-! Mp: expressions. -/
namespace Mp
open PySem PySem.Spec PyProof.Rows L2
section
variable {K : PySem.W.Frag} {G : Gs} {γ : Ga} {H : Hp} {S : Store} {wx : Wx} {α : Type}
theorem rOf_of {o : O2} {x y : W} {v u : V} {Q : VK} (rx : Rep K G γ H x v) (ry : Rep K G γ H y u) (s : StoreOk K G γ H S) (h : Post K G (Rep K G) wx γ H (rOpt (o x y S) S) Q) : rOf K G o v u H Q := by
  cases e : o x y S with
  | none =>
    rw [e] at h
    exact h.elim
  | some w =>
    rw [e] at h
    exact ⟨x, y, S, γ, w, rx, ry, s, e, fun v γ' H' ex r s' => h v γ' H' ex r s'⟩
/-- an operator of one value -/
def ruOf (K : PySem.W.Frag) (G : Gs) (o : W → Store → Option W) : V → Hp → VK → Prop := fun x H Q => ∃ wx S γ w, Rep K G γ H wx x ∧ StoreOk K G γ H S ∧ o wx S = some w ∧
  ∀ v γ' H', Ext γ H γ' H' → Rep K G γ' H' w v → StoreOk K G γ' H' S → Q v H'
theorem ruOf_of {o : W → Store → Option W} {x : W} {v : V} {Q : VK} (rx : Rep K G γ H x v) (s : StoreOk K G γ H S) (h : Post K G (Rep K G) wx γ H (rOpt (o x S) S) Q) : ruOf K G o v H Q := by
  cases e : o x S with
  | none =>
    rw [e] at h
    exact h.elim
  | some w =>
    rw [e] at h
    exact ⟨x, S, γ, w, rx, s, e, fun v γ' H' ex r s' => h v γ' H' ex r s'⟩
/-- a built-in's call -/
def raOf (K : PySem.W.Frag) (G : Gs) (o : OA) : List V → Hp → VK → Prop := fun xs H Q => ∃ ws S γ w, Reps K G γ H ws xs ∧ StoreOk K G γ H S ∧ o ws S = some w ∧
  ∀ v γ' H', Ext γ H γ' H' → Rep K G γ' H' w v → StoreOk K G γ' H' S → Q v H'
theorem raOf_of {o : OA} {ws : List W} {vs : List V} {Q : VK} (rx : Reps K G γ H ws vs) (s : StoreOk K G γ H S) (h : Post K G (Rep K G) wx γ H (rOpt (o ws S) S) Q) : raOf K G o vs H Q := by
  cases e : o ws S with
  | none =>
    rw [e] at h
    exact h.elim
  | some w =>
    rw [e] at h
    exact ⟨ws, S, γ, w, rx, s, e, fun v γ' H' ex r s' => h v γ' H' ex r s'⟩
theorem truthy_rep {w : W} {v : V} {b : Bool} (s : StoreOk K G γ H S) (r : Rep K G γ H w v) (h : truthy S w = some b) : TruV K v H b := by
  have emp : ∀ {xs : List W} {vs : List V}, Reps K G γ H xs vs → xs.isEmpty = vs.isEmpty := fun q => by cases q <;> rfl
  cases r with
  | non => cases h; rfl
  | bl c => cases h; rfl
  | int i => cases h; rfl
  | str l h1 h2 =>
    cases h
    refine ⟨by simpa [Str.length] using h2, ?_⟩
    cases l with
    | nil => rfl
    | cons c l =>
      show true = _
      simp [Str.length]
      omega
  | tup f q =>
    cases h
    exact .inr (.inl ⟨_, f.sq, by rw [emp q]⟩)
  | lst h1 f q =>
    cases h
    exact .inl ⟨_, SqL.of h1, by rw [emp q]⟩
  | @ref i a h1 =>
    have h' : (match S[i]? with
      | some (.lst xs) => some (!xs.isEmpty)
      | _ => none) = some b := h
    split at h'
    · rename_i ys hc
      obtain ⟨_, vs, hv, q⟩ := s.cell i _ a hc h1
      cases h'
      exact .inl ⟨_, SqL.of hv, by rw [emp q]⟩
    · cases h'
  | scr f q => cases h
  | fn f => cases h
  | dct d f r => cases h
  | exc h1 f r => cases h
theorem tru_of {w : W} {v : V} {Q : Bool → Hp → Prop} (r : Rep K G γ H w v) (s : StoreOk K G γ H S) (h : Post K G relB wx γ H (rTruth w S) Q) : ∃ k, TruV K v H k ∧ Q k H := by
  unfold rTruth at h
  cases e : truthy S w with
  | none =>
    rw [e] at h
    exact h.elim
  | some b =>
    rw [e] at h
    exact ⟨b, truthy_rep s r e, h b γ H Ext.refl rfl s⟩
end
section
variable {X : Cx} {G : Gs} {x : Str} {pos p : Pos} {a b c : Expr} {es rest : List Expr} {f g h : ME} {ga : MA} {t u : MT} {o o' : O2}
theorem se_var (i : Nat) (hN : X.N[i]? = some x := by rfl) (hv : Vis X.env.scope x := by first | exact Or.inl rfl | exact Or.inr (Or.inl rfl) | exact Or.inr (Or.inr rfl)) (hd : (x == ("__debug__" : Str)) = false := by decide)
    (hcd : (x == ("__classdict__" : Str)) = false := by decide) : SE X G (.Name x pos) (mVar i) := by
  refine ⟨fun Wi tk => (pe_var hN hv hd hcd).imp ?_⟩
  rintro σ H Q ⟨η, S, γ, he, hs, q⟩
  unfold mVar at q
  split at q
  · rename_i w e
    obtain ⟨v, e1, r⟩ := he.2 i w e
    exact ⟨v, e1, q v γ H Ext.refl r hs⟩
  · exact q.elim
theorem se_c {e : Expr} {v : V} {w : W} (h : PE X e (tC v)) (r : ∀ γ H, Rep X.K G γ H w v) : SE X G e (mC w) := by
  refine ⟨fun Wi tk => h.imp ?_⟩
  rintro σ H Q ⟨η, S, γ, he, hs, q⟩
  exact q v γ H Ext.refl (r γ H) hs
theorem se_int {i : Int} {j : Nat} : SE X G (.Constant (.int i) j pos) (mC (.int i)) := se_c pe_int fun _ _ => .int i
theorem se_bl {i : Bool} {j : Nat} : SE X G (.Constant (.bool i) j pos) (mC (.bl i)) := se_c pe_bl fun _ _ => .bl i
theorem se_non {j : Nat} : SE X G (.Constant .none j pos) (mC .non) := se_c pe_non fun _ _ => .non
theorem rep_str {K : PySem.W.Frag} {γ : Ga} {H : Hp} {z : Str} {l : List Nat} (e : z = ⟨l.toArray⟩) (hl : (l.all (· < 0x110000) && decide (l.length ≤ 16777216)) = true) : Rep K G γ H (.str l) (.str z) := by
  subst e
  rw [Bool.and_eq_true, decide_eq_true_eq] at hl
  refine .str l (fun c hc => ?_) (by rw [sizeLine_eq]; exact hl.2)
  have := List.all_eq_true.mp hl.1 c hc
  simpa using this
theorem se_str {z : Str} {j : Nat} (l : List Nat) (e : z = ⟨l.toArray⟩ := by decide +kernel) (hl : (l.all (· < 0x110000) && decide (l.length ≤ 16777216)) = true := by decide +kernel) : SE X G (.Constant (.str z) j pos) (mC (.str l)) := se_c pe_str fun _ _ => rep_str e hl
/-- a constant of the module -/
theorem se_gstr {z : Str} (l : List Nat) (hm : ∃ t, X.mg x = some (.str z t)) (hg : Gl X x := by rfl) (e : z = ⟨l.toArray⟩ := by decide +kernel) (hl : (l.all (· < 0x110000) && decide (l.length ≤ 16777216)) = true := by decide +kernel) (hd : (x == ("__debug__" : Str)) = false := by decide) : SE X G (.Name x pos) (mC (.str l)) := by
  obtain ⟨t, hm⟩ := hm
  exact se_c (pe_glob (v := .str z) hg hm ⟨t, rfl⟩ hd) fun _ _ => rep_str e hl
theorem se_gint {i : Int} (hm : ∃ t, X.mg x = some (.int i t)) (hg : Gl X x := by rfl) (hd : (x == ("__debug__" : Str)) = false := by decide) : SE X G (.Name x pos) (mC (.int i)) := by
  obtain ⟨t, hm⟩ := hm
  exact se_c (pe_glob (v := .int i) hg hm ⟨t, rfl⟩ hd) fun _ _ => .int i
theorem se_bin {op : Operator} (ho : OpR X (binaryOp op) (rOf X.K G o)) (ha : SE X G a f) (hb : SE X G b g) : SE X G (.BinOp a op b pos) (mBin o f g) := by
  refine ⟨fun Wi tk => (pe_op ho (ha.run Wi tk) (hb.run Wi tk)).imp ?_⟩
  rintro σ H Q ⟨η, S, γ, he, hs, q⟩
  exact ⟨η, S, γ, he, hs, (Post.seq q).imp fun x H1 ⟨wx, S1, γ1, e1, r1, s1, q1⟩ => ⟨η, S1, γ1, he.mono e1, s1, (Post.seq q1).imp fun y H2 ⟨wy, S2, γ2, e2, r2, s2, q2⟩ => rOf_of (r1.mono e2) r2 s2 q2⟩⟩
theorem se_un {op : UnaryOp} {o : W → Store → Option W} (ho : UnR X (unaryOp op) (ruOf X.K G o)) (ha : SE X G a f) : SE X G (.UnaryOp op a pos) (mUn o f) := by
  refine ⟨fun Wi tk => (pe_un ho (ha.run Wi tk)).imp ?_⟩
  rintro σ H Q ⟨η, S, γ, he, hs, q⟩
  exact ⟨η, S, γ, he, hs, (Post.seq q).imp fun x H1 ⟨wx, S1, γ1, e1, r1, s1, q1⟩ => ruOf_of r1 s1 q1⟩
theorem un_negW : UnR X (unaryOp .USub) (ruOf X.K G opNeg) := fun pins s σ H x v Q I rx q => by
  refine un_neg pins s σ H x v Q I rx ?_
  obtain ⟨wx, S, γ, w, r, ss, h, k⟩ := q
  unfold opNeg at h
  split at h
  · cases r; cases h
    exact ⟨_, rfl, k _ γ H Ext.refl (.int _) ss⟩
  · cases h
theorem se_cmp {op : CmpOp} (ho : OpR X (compareOp op) (rOf X.K G o)) (ha : SE X G a f) (hb : SE X G b g) (hm : behindInMarks op b = false := by first | exact nobehind _ (by decide) (by decide) | rfl) : SE X G (.Compare a [op] [b] pos) (mBin o f g) := by
  refine ⟨fun Wi tk => (pe_cmpR ho (ha.run Wi tk) (hb.run Wi tk) hm).imp ?_⟩
  rintro σ H Q ⟨η, S, γ, he, hs, q⟩
  exact ⟨η, S, γ, he, hs, (Post.seq q).imp fun x H1 ⟨wx, S1, γ1, e1, r1, s1, q1⟩ => ⟨η, S1, γ1, he.mono e1, s1, (Post.seq q1).imp fun y H2 ⟨wy, S2, γ2, e2, r2, s2, q2⟩ => rOf_of (r1.mono e2) r2 s2 q2⟩⟩
theorem se_isN {j : Nat} {p' : Pos} (ha : SE X G a f) : SE X G (.Compare a [.Is] [.Constant .none j p'] pos) (mUn opIsN f) := by
  refine ⟨fun Wi tk => (pe_cmpR op_isN (ha.run Wi tk) pe_non (nomark _)).imp ?_⟩
  rintro σ H Q ⟨η, S, γ, he, hs, q⟩
  refine ⟨η, S, γ, he, hs, (Post.seq q).imp fun x H1 ⟨wx, S1, γ1, e1, r1, s1, q1⟩ => ⟨rfl, ?_⟩⟩
  cases r1 <;> exact q1 _ γ1 H1 Ext.refl (.bl _) s1
theorem se_chain {op op' : CmpOp} (ho : OpR X (compareOp op) (rOf X.K G o)) (ho' : OpR X (compareOp op') (rOf X.K G o')) (ha : SE X G a f) (hb : SE X G b g) (hc : SE X G c h) (hm : lastMarks [op, op'] [b, c] = false := by with_unfolding_all rfl) :
    SE X G (.Compare a [op, op'] [b, c] pos) (mChain o o' f g h) := by
  refine ⟨fun Wi tk => (pe_chain ho ho' (ha.run Wi tk) (hb.run Wi tk) (hc.run Wi tk) hm).imp ?_⟩
  rintro σ H Q ⟨η, S, γ, he, hs, q⟩
  refine ⟨η, S, γ, he, hs, (Post.seq q).imp fun x H1 ⟨wx, S1, γ1, e1, r1, s1, q1⟩ => ⟨η, S1, γ1, he.mono e1, s1, (Post.seq q1).imp fun y H2 ⟨wy, S2, γ2, e2, r2, s2, q2⟩ => ?_⟩⟩
  split at q2
  · rename_i e
    refine ⟨wx, wy, S2, γ2, _, r1.mono e2, r2, s2, e, fun v γ3 H3 e3 r3 s3 => ?_⟩
    cases r3
    refine ⟨true, rfl, ?_⟩
    rw [if_pos rfl]
    exact ⟨η, S2, γ3, ((he.mono e1).mono e2).mono e3, s3, (Post.seq (Post.base e3 q2)).imp fun z H4 ⟨wz, S4, γ4, e4, r4, s4, q4⟩ => rOf_of (r2.mono (e3.trans e4)) r4 s4 q4⟩
  · rename_i e
    refine ⟨wx, wy, S2, γ2, _, r1.mono e2, r2, s2, e, fun v γ3 H3 e3 r3 s3 => ?_⟩
    cases r3
    refine ⟨false, rfl, ?_⟩
    rw [if_neg Bool.false_ne_true]
    exact q2 _ γ3 H3 e3 (.bl _) s3
  · exact q2.elim
theorem se_one {op : BoolOp} (ha : SE X G a f) : SE X G (.BoolOp op [a] pos) f := ⟨fun Wi tk => pe_one (ha.run Wi tk)⟩
theorem se_and (ha : SE X G a f) (hb : SE X G (.BoolOp .And (b :: rest) pos) g) : SE X G (.BoolOp .And (a :: b :: rest) pos) (mAnd f g) := by
  refine ⟨fun Wi tk => (pe_andT (ha.run Wi tk) (hb.run Wi tk)).imp ?_⟩
  rintro σ H Q ⟨η, S, γ, he, hs, q⟩
  refine ⟨η, S, γ, he, hs, (Post.seq q).imp fun x H1 ⟨wx, S1, γ1, e1, r1, s1, q1⟩ => ?_⟩
  unfold rTruth at q1
  cases e : truthy S1 wx with
  | none =>
    rw [e] at q1
    exact q1.elim
  | some k =>
    rw [e] at q1
    refine ⟨k, truthy_rep s1 r1 e, ?_⟩
    cases k with
    | true => exact ⟨η, S1, γ1, he.mono e1, s1, q1⟩
    | false => exact q1 x γ1 H1 Ext.refl r1 s1
theorem se_or (ha : SE X G a f) (hb : SE X G (.BoolOp .Or (b :: rest) pos) g) : SE X G (.BoolOp .Or (a :: b :: rest) pos) (mOr f g) := by
  refine ⟨fun Wi tk => (pe_orT (ha.run Wi tk) (hb.run Wi tk)).imp ?_⟩
  rintro σ H Q ⟨η, S, γ, he, hs, q⟩
  refine ⟨η, S, γ, he, hs, (Post.seq q).imp fun x H1 ⟨wx, S1, γ1, e1, r1, s1, q1⟩ => ?_⟩
  unfold rTruth at q1
  cases e : truthy S1 wx with
  | none =>
    rw [e] at q1
    exact q1.elim
  | some k =>
    rw [e] at q1
    refine ⟨k, truthy_rep s1 r1 e, ?_⟩
    cases k with
    | false => exact ⟨η, S1, γ1, he.mono e1, s1, q1⟩
    | true => exact q1 x γ1 H1 Ext.refl r1 s1
theorem se_not (ha : SE X G a f) : SE X G (.UnaryOp .Not a pos) (mNot f) := by
  refine ⟨fun Wi tk => (pe_notT (ha.run Wi tk)).imp ?_⟩
  rintro σ H Q ⟨η, S, γ, he, hs, q⟩
  refine ⟨η, S, γ, he, hs, (Post.seq q).imp fun x H1 ⟨wx, S1, γ1, e1, r1, s1, q1⟩ => ?_⟩
  unfold rTruth at q1
  cases e : truthy S1 wx with
  | none =>
    rw [e] at q1
    exact q1.elim
  | some k =>
    rw [e] at q1
    exact ⟨k, truthy_rep s1 r1 e, q1 _ γ1 H1 Ext.refl (.bl _) s1⟩
/-! tests -/
theorem st_tru (ha : SE X G a f) (he : ∀ whole, isTrue a X.env whole = (do let v ← whole; standAt a.pos; holding [v] (PySem.truthy v)) := by intro _; rfl) : ST X G a (mTru f) := by
  refine ⟨fun Wi tk => (pt_truth (ha.run Wi tk) he).imp ?_⟩
  rintro σ H Q ⟨η, S, γ, he, hs, q⟩
  exact ⟨η, S, γ, he, hs, (Post.seq q).imp fun x H1 ⟨wx, S1, γ1, e1, r1, s1, q1⟩ => tru_of r1 s1 q1⟩
/-- a comparison as a test -/
def mTCmp (o : O2) (f g : ME) : MT := fun η S => (f η S).bind fun x S1 => (g η S1).bind fun y S2 => match o x y S2 with
  | some (.bl b) => .ok b S2
  | _ => .stuck
theorem st_cmp {op : CmpOp} (ho : OpR X (compareOp op) (rOf X.K G o)) (ha : SE X G a f) (hb : SE X G b g) (hm : behindInMarks op b = false := by first | exact nobehind _ (by decide) (by decide) | rfl) : ST X G (.Compare a [op] [b] pos) (mTCmp o f g) := by
  refine ⟨fun Wi tk => (pt_cmpR ho (ha.run Wi tk) (hb.run Wi tk) hm).imp ?_⟩
  rintro σ H Q ⟨η, S, γ, he, hs, q⟩
  refine ⟨η, S, γ, he, hs, (Post.seq q).imp fun x H1 ⟨wx, S1, γ1, e1, r1, s1, q1⟩ => ⟨η, S1, γ1, he.mono e1, s1, (Post.seq q1).imp fun y H2 ⟨wy, S2, γ2, e2, r2, s2, q2⟩ => ?_⟩⟩
  split at q2
  · rename_i k e
    refine ⟨wx, wy, S2, γ2, _, r1.mono e2, r2, s2, e, fun v γ3 H3 e3 r3 s3 => ?_⟩
    cases r3
    exact ⟨_, rfl, q2 _ γ3 H3 e3 rfl s3⟩
  · exact q2.elim
def mTUn (o : W → Store → Option W) (f : ME) : MT := fun η S => (f η S).bind fun x S1 => match o x S1 with
  | some (.bl b) => .ok b S1
  | _ => .stuck
theorem st_isN {j : Nat} {p' : Pos} (ha : SE X G a f) : ST X G (.Compare a [.Is] [.Constant .none j p'] pos) (mTUn opIsN f) := by
  refine ⟨fun Wi tk => (pt_cmpR op_isN (ha.run Wi tk) pe_non (nomark _)).imp ?_⟩
  rintro σ H Q ⟨η, S, γ, he, hs, q⟩
  refine ⟨η, S, γ, he, hs, (Post.seq q).imp fun x H1 ⟨wx, S1, γ1, e1, r1, s1, q1⟩ => ⟨rfl, _, rfl, ?_⟩⟩
  cases r1 <;> exact q1 _ γ1 H1 Ext.refl rfl s1
theorem st_notN {j : Nat} {p' : Pos} (ha : SE X G a f) : ST X G (.Compare a [.IsNot] [.Constant .none j p'] pos) (mTUn opNotN f) := by
  refine ⟨fun Wi tk => (pt_cmpR op_notN (ha.run Wi tk) pe_non (nomark _)).imp ?_⟩
  rintro σ H Q ⟨η, S, γ, he, hs, q⟩
  refine ⟨η, S, γ, he, hs, (Post.seq q).imp fun x H1 ⟨wx, S1, γ1, e1, r1, s1, q1⟩ => ⟨rfl, _, rfl, ?_⟩⟩
  cases r1 <;> exact q1 _ γ1 H1 Ext.refl rfl s1
def mTChain (o o' : O2) (f g h : ME) : MT := fun η S => (f η S).bind fun x S1 => (g η S1).bind fun y S2 => match o x y S2 with
  | some (.bl true) => (h η S2).bind fun y' S4 => (match o' y y' S4 with
    | some (.bl b) => .ok b S4
    | _ => .stuck)
  | some (.bl false) => .ok false S2
  | _ => .stuck
theorem st_not (ha : ST X G a t) : ST X G (.UnaryOp .Not a pos) (mTNot t) := by
  refine ⟨fun Wi tk => (pt_not (ha.run Wi tk)).imp ?_⟩
  rintro σ H Q ⟨η, S, γ, he, hs, q⟩
  refine ⟨η, S, γ, he, hs, (Post.seq (rel := relB) q).imp fun x H1 ⟨wx, S1, γ1, e1, r1, s1, q1⟩ => ?_⟩
  cases r1
  exact q1 _ γ1 H1 Ext.refl rfl s1
theorem sw_and1 (ha : ST X G a t) : SW X G (.BoolOp .And [a] pos) t := ⟨fun Wi tk => pw_and1 (ha.run Wi tk)⟩
theorem sw_or1 (ha : ST X G a t) : SW X G (.BoolOp .Or [a] pos) t := ⟨fun Wi tk => pw_or1 (ha.run Wi tk)⟩
theorem sw_and (ha : ST X G a t) (hb : SW X G (.BoolOp .And (b :: rest) pos) u) : SW X G (.BoolOp .And (a :: b :: rest) pos) (mTAnd t u) := by
  refine ⟨fun Wi tk => (pw_and (ha.run Wi tk) (hb.run Wi tk)).imp ?_⟩
  rintro σ H Q ⟨η, S, γ, he, hs, q⟩
  refine ⟨η, S, γ, he, hs, (Post.seq (rel := relB) q).imp fun x H1 ⟨wx, S1, γ1, e1, r1, s1, q1⟩ => ?_⟩
  cases r1
  cases x with
  | true => exact ⟨η, S1, γ1, he.mono e1, s1, q1⟩
  | false => exact q1 _ γ1 H1 Ext.refl rfl s1
theorem sw_or (ha : ST X G a t) (hb : SW X G (.BoolOp .Or (b :: rest) pos) u) : SW X G (.BoolOp .Or (a :: b :: rest) pos) (mTOr t u) := by
  refine ⟨fun Wi tk => (pw_or (ha.run Wi tk) (hb.run Wi tk)).imp ?_⟩
  rintro σ H Q ⟨η, S, γ, he, hs, q⟩
  refine ⟨η, S, γ, he, hs, (Post.seq (rel := relB) q).imp fun x H1 ⟨wx, S1, γ1, e1, r1, s1, q1⟩ => ?_⟩
  cases r1
  cases x with
  | false => exact ⟨η, S1, γ1, he.mono e1, s1, q1⟩
  | true => exact q1 _ γ1 H1 Ext.refl rfl s1
theorem st_w (h : SW X G a t) : ST X G a t := ⟨fun Wi tk => (h.run Wi tk).pt⟩
theorem se_if (hc : ST X G c t) (ha : SE X G a f) (hb : SE X G b g) : SE X G (.IfExp c a b pos) (mIf t f g) := by
  refine ⟨fun Wi tk => (pe_ifExp (hc.run Wi tk) (ha.run Wi tk) (hb.run Wi tk)).imp ?_⟩
  rintro σ H Q ⟨η, S, γ, he, hs, q⟩
  refine ⟨η, S, γ, he, hs, (Post.seq (rel := relB) q).imp fun x H1 ⟨wx, S1, γ1, e1, r1, s1, q1⟩ => ?_⟩
  cases r1
  cases x with
  | true => exact ⟨η, S1, γ1, he.mono e1, s1, q1⟩
  | false => exact ⟨η, S1, γ1, he.mono e1, s1, q1⟩
/-! lists of expressions -/
theorem sa_nil : SA X G [] maNil := by
  refine ⟨fun Wi tk => pa_nil.imp ?_⟩
  rintro σ H Q ⟨η, S, γ, he, hs, q⟩
  exact q _ γ H Ext.refl .nil hs
theorem sa_cons (ha : SE X G a f) (hr : SA X G es ga) (hs : starEach (a :: es) X.env = (false, eval a X.env) :: starEach es X.env := by rfl) : SA X G (a :: es) (maCons f ga) := by
  refine ⟨fun Wi tk => (pa_cons (ha.run Wi tk) (hr.run Wi tk) hs).imp ?_⟩
  rintro σ H Q ⟨η, S, γ, he, hs, q⟩
  exact ⟨η, S, γ, he, hs, (Post.seq q).imp fun x H1 ⟨wx, S1, γ1, e1, r1, s1, q1⟩ => ⟨η, S1, γ1, he.mono e1, s1, (Post.seq q1).imp fun y H2 ⟨wy, S2, γ2, e2, r2, s2, q2⟩ => q2 _ γ2 H2 Ext.refl (.cons (r1.mono e2) r2) s2⟩⟩
theorem sized_post {K : PySem.W.Frag} {γ : Ga} {H : Hp} {α β : Type} {rel : Rel α β} {wx : Wx} {n : Nat} {r : R α} {Q : β → Hp → Prop} (h : Post K G rel wx γ H (sized n r) Q) : n ≤ sizeLine ∧ Post K G rel wx γ H r Q := by
  unfold sized at h
  split at h
  · rename_i hl
    exact ⟨by rw [← bigLine_eq]; exact hl, h⟩
  · exact h.elim
theorem se_tup {x1 : Nat} (h : SA X G es ga) : SE X G (.Tuple es x1 pos) (mTup ga) := by
  refine ⟨fun Wi tk => (pe_tup (h.run Wi tk)).imp ?_⟩
  rintro σ H Q ⟨η, S, γ, he, hs, q⟩
  refine ⟨η, S, γ, he, hs, (Post.seq q).imp fun x H1 ⟨wx, S1, γ1, e1, r1, s1, q1⟩ => ?_⟩
  obtain ⟨hl, q1⟩ := sized_post q1
  refine ⟨by rw [← r1.length]; exact hl, fun p hp => ?_⟩
  have ex := Ext.upd (K := X.K) (G := G) s1 (o := .tup x) hp
  exact q1 _ γ1 _ ex (.tup (.inl ⟨.inl upd_same, s1.fresh hp⟩) (r1.mono ex)) (s1.upd hp)
theorem se_lst (h : SA X G es ga) : SE X G (.List es pos) (mLst ga) := by
  refine ⟨fun Wi tk => (pe_lst (h.run Wi tk)).imp ?_⟩
  rintro σ H Q ⟨η, S, γ, he, hs, q⟩
  refine ⟨η, S, γ, he, hs, (Post.seq q).imp fun x H1 ⟨wx, S1, γ1, e1, r1, s1, q1⟩ => ?_⟩
  obtain ⟨hl, q1⟩ := sized_post q1
  refine ⟨by rw [← r1.length]; exact hl, fun p hp => ?_⟩
  have ex := Ext.upd (K := X.K) (G := G) s1 (o := .lst x) hp
  exact q1 _ γ1 _ ex (.lst upd_same (s1.fresh hp) (r1.mono ex)) (s1.upd hp)
end
end Mp
set_option Elab.async false
set_option linter.all false
set_option maxRecDepth 100000
set_option maxHeartbeats 4000000
/-! Mp: statements, targets, loops. -/
namespace Mp
open PySem PySem.Spec PyProof.Rows L2
section
variable {K : PySem.W.Frag} {G : Gs} {Wi : WX} {γ γ1 : Ga} {H H1 : Hp} {D : Ends}
theorem PostS.base {r : RS} (e : Ext γ H γ1 H1) (h : PostS K G Wi γ H r D) : PostS K G Wi γ1 H1 r D := by
  cases r with
  | nx η' S' => exact fun σ' γ' H' e' q s => h σ' γ' H' (e.trans e') q s
  | bk η' S' => exact fun σ' γ' H' e' q s => h σ' γ' H' (e.trans e') q s
  | ct η' S' => exact fun σ' γ' H' e' q s => h σ' γ' H' (e.trans e') q s
  | ret w S' => exact fun v γ' H' e' q s => h v γ' H' (e.trans e') q s
  | exc c x η' S' => exact fun v d σ' γ' H' e' q r s hd ho => h v d σ' γ' H' (e.trans e') q r s hd ho
  | stuck => exact h
/-- an expression ahead of a statement's end -/
theorem PostS.expr {α β : Type} {rel : Rel α β} {η : Env} {σ : L2.St} {r : R α} {k : α → Store → RS} (he : EnvOk K G γ H η σ) (h : PostS K G Wi γ H (r.toS η k) D) :
    Post K G rel (fun c d H' => Wi c d σ H') γ H r fun v H1 => ∃ w S1 γ1, Ext γ H γ1 H1 ∧ rel γ1 H1 w v ∧ StoreOk K G γ1 H1 S1 ∧ PostS K G Wi γ1 H1 (k w S1) D := by
  cases r with
  | ok w S' => exact fun v γ' H' e q s => ⟨w, S', γ', e, q, s, PostS.base e h⟩
  | exc c x S' => exact fun v d γ' H' e q s hd ho => h v d σ γ' H' e (he.mono e) q s hd ho
  | stuck => exact h
theorem PostS.next {r : RS} {k : MS} (h : PostS K G Wi γ H (r.next k) D) : PostS K G Wi γ H r { D with nx := fun σ' H' => ∃ η S γ1, EnvOk K G γ1 H' η σ' ∧ StoreOk K G γ1 H' S ∧ PostS K G Wi γ1 H' (k η S) D } := by
  cases r with
  | nx η' S' => exact fun σ' γ' H' e q s => ⟨η', S', γ', q, s, PostS.base e h⟩
  | bk η' S' => exact h
  | ct η' S' => exact h
  | ret w S' => exact h
  | exc c x η' S' => exact h
  | stuck => exact h
end
theorem _root_.L2.PG.imp {X : Cx} {e : Expr} {t t' : TG} (h : PG X e t) (i : ∀ v σ H Q, t' v σ H Q → t v σ H Q) : PG X e t' := ⟨fun pins s σ H v u Q I r q => h.run pins s σ H v u Q I r (i _ _ _ _ q)⟩
theorem _root_.L2.PGs.imp {X : Cx} {e : List Expr} {t t' : TGs} (h : PGs X e t) (i : ∀ v σ H Q, t' v σ H Q → t v σ H Q) : PGs X e t' := ⟨fun pins s σ H v u Q I r q => h.run pins s σ H v u Q I r (i _ _ _ _ q)⟩
/-- what holds of the place where code stands -/
structure Cfg (X : Cx) : Prop where
  calm : X.calm = true
  nd : X.N.Nodup
  own : PassesOwn (model X.prog X.w) X.A X.env X.xe
  un : X.A.units + 100 < cLine
theorem EnvOk.set {K : PySem.W.Frag} {G : Gs} {γ : Ga} {H : Hp} {η : Env} {σ : L2.St} {w : W} {v : V} (he : EnvOk K G γ H η σ) (r : Rep K G γ H w v) (i : Nat) : EnvOk K G γ H (η.set i (some w)) (σ.set i (some v)) := by
  refine ⟨by rw [List.length_set, List.length_set]; exact he.1, fun j u hj => ?_⟩
  by_cases hij : i = j
  · subst hij
    have hlt : i < η.length := by
      have := (List.getElem?_eq_some_iff.mp hj).1
      rwa [List.length_set] at this
    rw [List.getElem?_set_self hlt] at hj
    cases hj
    exact ⟨v, by rw [List.getElem?_set_self (by rw [← he.1]; exact hlt)], r⟩
  · rw [List.getElem?_set_ne hij] at hj
    rw [List.getElem?_set_ne hij]
    exact he.2 j u hj
section
variable {X : Cx} {G : Gs} {x : Str} {pos p : Pos} {a b c e : Expr} {es rest : List Expr} {f h : ME} {g : MG} {gs : MGs} {ga : MA} {t : MT} {st : Stmt} {sts : List Stmt} {m n : MS} {is js : List Nat}
theorem sss_nil : SSs X G [] sNx := by
  refine ⟨fun Wi tk => pss_nil.imp ?_⟩
  rintro D σ H ⟨η, S, γ, he, hs, q⟩
  exact q σ γ H Ext.refl he hs
theorem sss_cons (h1 : SS X G st m) (h2 : SSs X G sts n) : SSs X G (st :: sts) (sSeq m n) := by
  refine ⟨fun Wi tk => (pss_cons (h1.run Wi tk) (h2.run Wi tk)).imp ?_⟩
  rintro D σ H ⟨η, S, γ, he, hs, q⟩
  exact ⟨η, S, γ, he, hs, PostS.next q⟩
theorem sss_one (h1 : SS X G st m) : SSs X G [st] m := ⟨fun Wi tk => pss_one (h1.run Wi tk)⟩
theorem sss_never : SSs X G sts sStuck := ⟨fun Wi tk => ⟨fun pins s σ H D I q => by
  obtain ⟨η, S, γ, he, hs, q⟩ := q
  exact q.elim⟩⟩
theorem ss_expr (ha : SE X G a f) (hsw : swapsWith a none pos.line X.env = pure false := by rfl) : SS X G (.Expr a pos) (sDrop f) := by
  refine ⟨fun Wi tk => (ps_expr (ha.run Wi tk) hsw).imp ?_⟩
  rintro D σ H ⟨η, S, γ, he, hs, q⟩
  exact ⟨η, S, γ, he, hs, (PostS.expr he q).imp fun v H1 ⟨w, S1, γ1, e1, r1, s1, q1⟩ => q1 σ γ1 H1 Ext.refl (he.mono e1) s1⟩
theorem ss_ret (ha : SE X G a f) : SS X G (.Return (some a) pos) (sRet f) := by
  refine ⟨fun Wi tk => (ps_ret (ha.run Wi tk)).imp ?_⟩
  rintro D σ H ⟨η, S, γ, he, hs, q⟩
  exact ⟨η, S, γ, he, hs, (PostS.expr he q).imp fun v H1 ⟨w, S1, γ1, e1, r1, s1, q1⟩ => q1 v γ1 H1 Ext.refl r1 s1⟩
theorem ss_set (i : Nat) (cf : Cfg X) (ha : SE X G a f) (hi : X.N[i]? = some x := by rfl) (hx : Loc X.env.scope x := by first | exact Or.inl rfl | exact Or.inr rfl) (hsw : swapsWith a (some (.Name x p)) pos.line X.env = pure false := by rfl)
    (hf : X.fn x = true ∨ X.env.scope.names.lookup x = some .local := by first | exact .inl rfl | exact .inr rfl) : SS X G (.Assign [.Name x p] a pos) (sSet i f) := by
  refine ⟨fun Wi tk => (ps_set cf.nd hi hx (ha.run Wi tk) hsw hf).imp ?_⟩
  rintro D σ H ⟨η, S, γ, he, hs, q⟩
  exact ⟨η, S, γ, he, hs, (PostS.expr he q).imp fun v H1 ⟨w, S1, γ1, e1, r1, s1, q1⟩ => q1 _ γ1 H1 Ext.refl ((he.mono e1).set r1 i) s1⟩
theorem ss_if (hc : ST X G c t) (h1 : SSs X G sts m) {sts' : List Stmt} (h2 : SSs X G sts' n) : SS X G (.If c sts sts' pos) (sIf t m n) := by
  refine ⟨fun Wi tk => (ps_if (hc.run Wi tk) (h1.run Wi tk) (h2.run Wi tk)).imp ?_⟩
  rintro D σ H ⟨η, S, γ, he, hs, q⟩
  refine ⟨η, S, γ, he, hs, (PostS.expr (rel := relB) he q).imp fun v H1 ⟨w, S1, γ1, e1, r1, s1, q1⟩ => ?_⟩
  cases r1
  cases v with
  | true => exact ⟨η, S1, γ1, he.mono e1, s1, q1⟩
  | false => exact ⟨η, S1, γ1, he.mono e1, s1, q1⟩
/-! targets -/
theorem sg_name (i : Nat) (cf : Cfg X) (hi : X.N[i]? = some x := by rfl) (hx : Loc X.env.scope x := by first | exact Or.inl rfl | exact Or.inr rfl)
    (hf : X.fn x = true ∨ X.env.scope.names.lookup x = some .local := by first | exact .inl rfl | exact .inr rfl) : SG X G (.Name x pos) [i] (gVar i) := by
  refine ⟨(pg_name cf.nd hi hx hf).imp ?_⟩
  rintro v σ H Q ⟨η, S, γ, w, η', S', he, hs, r, e, q⟩
  cases e
  exact q _ γ H Ext.refl (he.set r i) hs (by rw [List.length_set]) fun j hj => List.getElem?_set_ne (fun z => hj (by simp [z]))
theorem sgs_nil : SGs X G [] [] gsNil := by
  refine ⟨pgs_nil.imp ?_⟩
  rintro vs σ H Q ⟨η, S, γ, ws, η', S', he, hs, r, e, q⟩
  cases r with
  | nil =>
    cases e
    exact ⟨rfl, q _ γ H Ext.refl he hs rfl fun _ _ => rfl⟩
  | cons r t => cases e
theorem sgs_cons (h1 : SG X G a is g) (h2 : SGs X G es js gs) (hs : (assignEach (a :: es) X.env).map (·.2) = assign a X.env :: (assignEach es X.env).map (·.2) := by rfl) : SGs X G (a :: es) (is ++ js) (gsCons g gs) := by
  refine ⟨(pgs_cons h1.run h2.run hs).imp ?_⟩
  rintro vs σ H Q ⟨η, S, γ, ws, η', S', he, hst, r, e, q⟩
  cases r with
  | nil => cases e
  | @cons w v ws vs r t =>
    unfold gsCons at e
    simp only [Option.bind_eq_bind] at e
    cases eg : g w η S with
    | none =>
      rw [eg] at e
      cases e
    | some p =>
      obtain ⟨η1, S1⟩ := p
      rw [eg] at e
      have e : gs ws η1 S1 = some (η', S') := e
      refine ⟨v, vs, rfl, η, S, γ, w, η1, S1, he, hst, r, eg, fun σ1 γ1 H1 e1 he1 hs1 hl1 hn1 => ?_⟩
      refine ⟨η1, S1, γ1, ws, η', S', he1, hs1, t.mono e1, e, fun σ2 γ2 H2 e2 he2 hs2 hl2 hn2 => ?_⟩
      exact q σ2 γ2 H2 (e1.trans e2) he2 hs2 (hl2.trans hl1) fun i hi => by
        rw [List.mem_append, not_or] at hi
        exact (hn2 i hi.2).trans (hn1 i hi.1)
theorem sg_tup {k : Nat} (nn : Nat) (cf : Cfg X) (h : SGs X G es is gs) (hn : (assignEach es X.env).length = nn := by rfl) (hst : (assignEach es X.env).findIdx? (·.1) = none := by rfl) (hl : ∀ ws η S r, gs ws η S = some r → ws.length = nn := by intro ws η S r z; first | (match ws, z with | [_, _], _ => rfl) | (match ws, z with | [_, _, _], _ => rfl)) : SG X G (.Tuple es k pos) is (gTupW gs) := by
  refine ⟨(pg_tup cf.calm h.run hn hst).imp ?_⟩
  rintro v σ H Q ⟨η, S, γ, w, η', S', he, hs, r, e, q⟩
  cases r with
  | tup f t =>
    have e : gs _ η S = some (η', S') := e
    refine ⟨_, _, rfl, f.sq, ?_, η, S, γ, _, η', S', he, hs, t, e, q⟩
    rw [← t.length]
    exact hl _ _ _ _ e
  | _ => cases e
theorem setAt_sound {K : PySem.W.Frag} {γ : Ga} {H : Hp} {S S' : Store} {o i w : W} {ov iv v : V} {Q : Hp → Prop} (s : StoreOk K G γ H S) (ro : Rep K G γ H o ov) (ri : Rep K G γ H i iv) (r : Rep K G γ H w v) (e : setAt o i w S = some S')
    (q : ∀ H', Ext γ H γ H' → StoreOk K G γ H' S' → Q H') : rSetL ov iv v H Q := by
  unfold setAt at e
  split at e
  · rename_i rr k
    cases ri
    cases ro with
    | @ref _ a ha =>
    split at e
    · rename_i xs hc
      obtain ⟨px, vs, hv, qv⟩ := s.cell _ _ a hc ha
      have hl := qv.length
      have pset : ∀ (xs : List W) (j : Nat), pures xs = true → w.pure = true → pures (xs.set j w) = true := by
        intro xs
        induction xs with
        | nil => intro j h1 h2; rfl
        | cons y ys ih =>
          intro j h1 h2
          rw [pures, Bool.and_eq_true] at h1
          cases j with
          | zero => rw [List.set_cons_zero, pures, h2, h1.2]; rfl
          | succ j => rw [List.set_cons_succ, pures, h1.1, ih j h1.2 h2]; rfl
      split at e
      · rename_i hk
        split at e
        · rename_i pw
          cases e
          obtain ⟨x1, x2⟩ := s.write hc ha (pset xs k.toNat px pw) (Reps.set r k.toNat qv)
          refine ⟨a, vs, k, k.toNat, rfl, rfl, hv, ?_, q _ x1 x2⟩
          unfold ixN
          rw [if_pos hk.1, if_pos (by rw [← hl]; exact hk.2)]
        · cases e
      · split at e
        · rename_i hk
          split at e
          · rename_i pw
            cases e
            obtain ⟨x1, x2⟩ := s.write hc ha (pset xs (k + xs.length).toNat px pw) (Reps.set r (k + xs.length).toNat qv)
            refine ⟨a, vs, k, (k + xs.length).toNat, rfl, rfl, hv, ?_, q _ x1 x2⟩
            unfold ixN
            rw [if_neg (by omega), if_pos (by rw [← hl]; exact hk.2), hl]
          · cases e
        · cases e
    · cases e
  · cases e
theorem sg_idx {fo fi : ME} (ho : SE X G a fo) (hi : SE X G b fi) (ha : ∀ v, assign (.Subscript a b pos) X.env v = (do
      let ov ← holding [v] (eval a X.env)
      let iv ← holding [v, ov] (eval b X.env)
      standAt pos
      holding [v, ov, iv] (setItem ov iv v)
      release [v, ov, iv] []) := by intro _; rfl) : SG X G (.Subscript a b pos) [] (gIdx fo fi) := by
  refine ⟨(pg_sub (ho.run (fun _ _ _ _ => False) takes0) (hi.run (fun _ _ _ _ => False) takes0) set_list ha).imp ?_⟩
  rintro v σ H Q ⟨η, S, γ, w, η', S', he, hs, r, e, q⟩
  unfold gIdx at e
  cases e1 : fo η S with
  | ok ow S1 =>
    rw [e1] at e
    refine ⟨η, S, γ, he, hs, ?_⟩
    rw [e1]
    intro ov γ1 H1 x1 ro s1
    cases e2 : fi η S1 with
    | ok iw S2 =>
      simp only [e2] at e
      refine ⟨η, S1, γ1, he.mono x1, s1, ?_⟩
      rw [e2]
      intro iv γ2 H2 x2 ri s2
      cases e3 : setAt ow iw w S2 with
      | none =>
        rw [e3] at e
        cases e
      | some S3 =>
        rw [e3] at e
        cases e
        exact setAt_sound s2 (ro.mono x2) ri ((r.mono x1).mono x2) e3 fun H3 x3 s3 => q σ γ2 H3 ((x1.trans x2).trans x3) (((he.mono x1).mono x2).mono x3) s3 rfl fun _ _ => rfl
    | exc c x S2 => simp only [e2] at e; cases e
    | stuck => simp only [e2] at e; cases e
  | exc c x S2 => rw [e1] at e; cases e
  | stuck => rw [e1] at e; cases e
/-- target = e -/
theorem ss_asg (ha : SE X G a f) (hg : SG X G b is g) (hs : swapsWithSole [b] a pos.line X.env = pure false := by rfl) (hw : swappedStores [b] a X.env = pure none := by rfl)
    (h1 : (assignEach [b] X.env).map (·.2) = [assign b X.env] := by rfl) : SS X G (.Assign [b] a pos) (sAsg f g) := by
  refine ⟨fun Wi tk => (ps_asg (ha.run Wi tk) hg.run hs hw h1).imp ?_⟩
  rintro D σ H ⟨η, S, γ, he, hs, q⟩
  refine ⟨η, S, γ, he, hs, (PostS.expr he q).imp fun v H1 ⟨w, S1, γ1, e1, r1, s1, q1⟩ => ?_⟩
  unfold optS at q1
  cases eg : g w η S1 with
  | none =>
    rw [eg] at q1
    exact q1.elim
  | some z =>
    obtain ⟨η', S'⟩ := z
    rw [eg] at q1
    exact ⟨η, S1, γ1, w, η', S', he.mono e1, s1, r1, eg, fun σ' γ' H' x he' s' _ _ => q1 σ' γ' H' x he' s'⟩
/-- a, b = x, y: plain names -/
def sPar (i j : Nat) (g : MA) : MS := fun η S => (g η S).toS η fun ws S1 => match ws with
  | [w, u] => .nx ((η.set i (some w)).set j (some u)) S1
  | _ => .stuck
theorem ss_par {x y : Str} {px py pt : Pos} {kt k2 pt2} (i j : Nat) (cf : Cfg X) (ha : SA X G [a, b] ga) (hi : X.N[i]? = some x := by rfl) (hj : X.N[j]? = some y := by rfl) (hij : i ≠ j := by decide)
    (hx : X.env.scope.names.lookup x = some .local := by rfl) (hy : X.env.scope.names.lookup y = some .local := by rfl) 
    (hw : swappedStores [.Tuple [.Name x px, .Name y py] kt pt] (.Tuple [a, b] k2 pt2) X.env = pure (some [x, y]) := by rfl)
    (hs : swapsWithSole [.Tuple [.Name x px, .Name y py] kt pt] (.Tuple [a, b] k2 pt2) pos.line X.env = pure false := by rfl) : SS X G (.Assign [.Tuple [.Name x px, .Name y py] kt pt] (.Tuple [a, b] k2 pt2) pos) (sPar i j ga) := by
  refine ⟨fun Wi tk => (ps_par cf.calm cf.nd hi hj hij hx hy (ha.run Wi tk) hw hs).imp ?_⟩
  rintro D σ H ⟨η, S, γ, he, hs, q⟩
  refine ⟨η, S, γ, he, hs, (PostS.expr he q).imp fun v H1 ⟨w, S1, γ1, e1, r1, s1, q1⟩ => ?_⟩
  split at q1
  · cases r1 with
    | cons r r1 =>
      cases r1 with
      | cons r' r1 =>
        cases r1
        exact ⟨_, _, rfl, q1 _ γ1 H1 Ext.refl (((he.mono e1).set r i).set r' j) s1⟩
  · exact q1.elim
def sPar3 (i j l : Nat) (g : MA) : MS := fun η S => (g η S).toS η fun ws S1 => match ws with
  | [w, u, z] => .nx (((η.set i (some w)).set j (some u)).set l (some z)) S1
  | _ => .stuck
end
end Mp
set_option Elab.async false
set_option linter.all false
set_option maxRecDepth 100000
set_option maxHeartbeats 4000000
/-! Mp: what is walked; for, while, comprehensions. -/
namespace Mp
open PySem PySem.Spec PyProof.Rows L2
theorem _root_.L2.PI.imp {X : Cx} {tg e : Expr} {t t' : TI} (h : PI X tg e t) (i : ∀ σ H R, t' σ H R → t σ H R) : PI X tg e t' := ⟨fun pins s σ H R I q => h.run pins s σ H R I (i _ _ _ q)⟩
theorem _root_.L2.PI.or {X : Cx} {tg e : Expr} {t t' : TI} (h : PI X tg e t) (h' : PI X tg e t') : PI X tg e (fun σ H R => t σ H R ∨ t' σ H R) := ⟨fun pins s σ H R I q => q.elim (h.run pins s σ H R I) (h'.run pins s σ H R I)⟩
theorem PostI.base {K : PySem.W.Frag} {G : Gs} {wx : Wx} {γ γ1 : Ga} {H H1 : Hp} {r : R (List W)} {Q : It → Hp → Prop} (e : Ext γ H γ1 H1) (h : PostI K G wx γ H r Q) : PostI K G wx γ1 H1 r Q := by
  cases r with
  | ok w S' => exact fun J γ' H' e' s i => h J γ' H' (e.trans e') s i
  | exc c x S' => exact fun v d γ' H' e' q s hd ho => h v d γ' H' (e.trans e') q s hd ho
  | stuck => exact h
theorem PostI.seq {K : PySem.W.Frag} {G : Gs} {wx : Wx} {γ : Ga} {H : Hp} {α β : Type} {rel : Rel α β} {r : R α} {k : α → Store → R (List W)} {Q : It → Hp → Prop} (h : PostI K G wx γ H (r.bind k) Q) :
    Post K G rel wx γ H r fun v H1 => ∃ w S1 γ1, Ext γ H γ1 H1 ∧ rel γ1 H1 w v ∧ StoreOk K G γ1 H1 S1 ∧ PostI K G wx γ1 H1 (k w S1) Q := by
  cases r with
  | ok w S' => exact fun v γ' H' e q s => ⟨w, S', γ', e, q, s, PostI.base e h⟩
  | exc c x S' => exact h
  | stuck => exact h
/-- the items of a list, a tuple, a text -/
def seqI : W → Option (List W)
  | .lst xs => some xs
  | .scr xs => some xs
  | .tup xs => some xs
  | .str s => some (s.map fun c => .str [c])
  | _ => none
def miSeq (f : ME) : MI := fun η S => (f η S).bind fun w S1 => rOpt (seqI w) S1
section
variable {K : PySem.W.Frag} {G : Gs} {γ : Ga} {H : Hp} {S : Store}
theorem itOk_list {a : Addr} {xs : List W} {vs : List V} (st : ∀ {γ' H'}, ExtW γ H γ' H' → SqL K H' a vs) (q : Reps K G γ H xs vs) : ItOk K G (Itl K a) xs γ H := by
  refine ⟨fun i γ' H' S hi e _ => ?_, fun γ' H' S e _ => ⟨vs, st e, Nat.le_of_eq q.length.symm⟩, fun i w γ' H' S x H'' hw e s y => ?_⟩
  · have hl : i < vs.length := by rw [← q.length]; exact hi
    exact ⟨vs, vs[i], st e, List.getElem?_eq_getElem hl⟩
  · obtain ⟨e1, y⟩ := y
    subst e1
    obtain ⟨v, hv, r⟩ := q.get hw
    have z := y vs (st e)
    rw [hv] at z
    cases z
    exact ⟨Ext.refl, s, r.monoW e⟩
theorem itOk_tup {a : Addr} {xs : List W} {vs : List V} (h : FrT K γ H a vs) (q : Reps K G γ H xs vs) : ItOk K G (Itt K a) xs γ H := by
  have st : ∀ {γ' H'}, ExtW γ H γ' H' → SqT K H' a vs := fun e => (h.monoW e).sq
  refine ⟨fun i γ' H' S hi e _ => ?_, fun γ' H' S e _ => ⟨vs, st e, Nat.le_of_eq q.length.symm⟩, fun i w γ' H' S x H'' hw e s y => ?_⟩
  · have hl : i < vs.length := by rw [← q.length]; exact hi
    exact ⟨vs, vs[i], st e, List.getElem?_eq_getElem hl⟩
  · obtain ⟨e1, y⟩ := y
    subst e1
    obtain ⟨v, hv, r⟩ := q.get hw
    have z := y vs (st e)
    rw [hv] at z
    cases z
    exact ⟨Ext.refl, s, r.monoW e⟩
theorem itOk_str {l : List Nat} (h1 : ∀ c ∈ l, c < 0x110000) : ItOk K G (Its ⟨l.toArray⟩) (l.map fun c => .str [c]) γ H := by
  refine ⟨fun i γ' H' S hi e _ => ?_, fun γ' H' S e _ => ?_, fun i w γ' H' S x H'' hw e s y => ?_⟩
  · rw [List.length_map] at hi
    show i < l.toArray.size
    simpa using hi
  · rw [List.length_map]
    show l.toArray.size ≤ l.length
    simp
  · obtain ⟨e1, c, hc, rfl⟩ := y
    subst e1
    have hc' : l[i]? = some c := by simpa using hc
    rw [List.getElem?_map, hc'] at hw
    cases hw
    refine ⟨Ext.refl, s, .str [c] (fun d hd => ?_) (by rw [sizeLine_eq]; show 1 ≤ 16777216; decide)⟩
    have : d = c := by simpa using hd
    rw [this]
    exact h1 c (List.mem_of_getElem? hc')
theorem itOk_range {lo : Int} {n : Nat} : ItOk K G (Itr lo n) ((List.range n).map fun (i : Nat) => W.int (lo + i)) γ H := by
  refine ⟨fun i γ' H' S hi e _ => ?_, fun γ' H' S e _ => ?_, fun i w γ' H' S x H'' hw e s y => ?_⟩
  · rw [List.length_map, List.length_range] at hi
    exact hi
  · rw [List.length_map, List.length_range]
    exact Nat.le_refl n
  · obtain ⟨e1, rfl⟩ := y
    subst e1
    rw [List.getElem?_map] at hw
    by_cases hi : i < n
    · rw [List.getElem?_range hi] at hw
      cases hw
      exact ⟨Ext.refl, s, .int _⟩
    · rw [List.getElem?_eq_none (by rw [List.length_range]; omega)] at hw
      cases hw
end
section
variable {X : Cx} {G : Gs} {tg a b e : Expr} {pos p : Pos} {f h : ME} {g : MG} {ga : MA} {t : MT} {m : MS} {it : MI} {is own : List Nat}
theorem si_seq (ha : SE X G a f) : SI X G tg a (miSeq f) := by
  refine ⟨fun Wi tk => (PI.or (pi_list (ha.run Wi tk)) (PI.or (pi_tup (ha.run Wi tk)) (pi_str (ha.run Wi tk)))).imp ?_⟩
  rintro σ H R ⟨η, S, γ, he, hs, q⟩
  have key : Post X.K G (Rep X.K G) (fun c d H' => Wi c d σ H') γ H (f η S) (fun v H1 => ∃ w S1 γ1, Ext γ H γ1 H1 ∧ Rep X.K G γ1 H1 w v ∧ StoreOk X.K G γ1 H1 S1 ∧ PostI X.K G (fun c d H' => Wi c d σ H') γ1 H1 (rOpt (seqI w) S1) R) := PostI.seq q
  cases ef : f η S with
  | ok w S1 =>
    rw [ef] at key
    cases w with
    | lst xs =>
      refine .inl ⟨η, S, γ, he, hs, ?_⟩
      rw [ef]
      intro v γ1 H1 e1 r1 s1
      have q' : PostI X.K G (fun c d H' => Wi c d σ H') γ H ((f η S).bind fun w S1 => rOpt (seqI w) S1) R := q
      rw [ef] at q'
      cases r1 with
      | lst h1 o1 q1 => exact ⟨_, rfl, ⟨_, SqL.of h1⟩, q' _ γ1 H1 e1 s1 (itOk_list (fun e => .inl (e.rd (.inl h1) o1).1) q1)⟩
    | scr xs =>
      refine .inl ⟨η, S, γ, he, hs, ?_⟩
      rw [ef]
      intro v γ1 H1 e1 r1 s1
      have q' : PostI X.K G (fun c d H' => Wi c d σ H') γ H ((f η S).bind fun w S1 => rOpt (seqI w) S1) R := q
      rw [ef] at q'
      cases r1 with
      | scr h1 q1 => exact ⟨_, rfl, ⟨_, h1.sq⟩, q' _ γ1 H1 e1 s1 (itOk_list (fun e => (h1.monoW e).sq) q1)⟩
    | tup xs =>
      refine .inr (.inl ⟨η, S, γ, he, hs, ?_⟩)
      rw [ef]
      intro v γ1 H1 e1 r1 s1
      have q' : PostI X.K G (fun c d H' => Wi c d σ H') γ H ((f η S).bind fun w S1 => rOpt (seqI w) S1) R := q
      rw [ef] at q'
      cases r1 with
      | tup h1 q1 => exact ⟨_, rfl, ⟨_, h1.sq⟩, q' _ γ1 H1 e1 s1 (itOk_tup h1 q1)⟩
    | str l =>
      refine .inr (.inr ⟨η, S, γ, he, hs, ?_⟩)
      rw [ef]
      intro v γ1 H1 e1 r1 s1
      have q' : PostI X.K G (fun c d H' => Wi c d σ H') γ H ((f η S).bind fun w S1 => rOpt (seqI w) S1) R := q
      rw [ef] at q'
      cases r1 with
      | str _ h1 h2 => exact ⟨_, rfl, q' _ γ1 H1 e1 s1 (itOk_str h1)⟩
    | _ =>
      exfalso
      have q' : PostI X.K G (fun c d H' => Wi c d σ H') γ H ((f η S).bind fun w S1 => rOpt (seqI w) S1) R := q
      rw [ef] at q'
      exact q'
  | exc c x S1 =>
    refine .inl ⟨η, S, γ, he, hs, ?_⟩
    have q' : PostI X.K G (fun c d H' => Wi c d σ H') γ H ((f η S).bind fun w S1 => rOpt (seqI w) S1) R := q
    rw [ef] at q' ⊢
    exact q'
  | stuck =>
    exfalso
    have q' : PostI X.K G (fun c d H' => Wi c d σ H') γ H ((f η S).bind fun w S1 => rOpt (seqI w) S1) R := q
    rw [ef] at q'
    exact q'
def rangeW (lo : Int) (n : Nat) : List W := (List.range n).map fun (i : Nat) => W.int (lo + i)
def rng1 : List W → Option (List W)
  | [.int j] => if -4611686018427387904 ≤ j ∧ j < 4611686018427387904 then some (rangeW 0 j.toNat) else none
  | _ => none
def rng2 : List W → Option (List W)
  | [.int i, .int j] => if -4611686018427387904 ≤ i ∧ i < 4611686018427387904 ∧ -4611686018427387904 ≤ j ∧ j < 4611686018427387904 then some (rangeW i (j - i).toNat) else none
  | _ => none
def miRng (o : List W → Option (List W)) (ga : MA) : MI := fun η S => (ga η S).bind fun ws S1 => rOpt (o ws) S1
theorem si_range1 (hm : X.mg "range" = none) (ha : SA X G [a] ga) (hg : Gl X "range" := by rfl) (hs : starEach [a] X.env = [(false, eval a X.env)] := by rfl) : SI X G tg (.Call (.Name "range" p) [a] [] pos) (miRng rng1 ga) := by
  refine ⟨fun Wi tk => (pi_range1 hg hm (ha.run Wi tk) hs).imp ?_⟩
  rintro σ H R ⟨η, S, γ, he, hs, q⟩
  refine ⟨η, S, γ, he, hs, (PostI.seq q).imp fun x H1 ⟨wx, S1, γ1, e1, r1, s1, q1⟩ => ?_⟩
  unfold rng1 at q1
  split at q1
  · split at q1
    · rename_i hj
      cases r1 with
      | cons r r1 =>
        cases r1
        cases r
        exact ⟨_, rfl, by omega, by omega, q1 _ γ1 H1 Ext.refl s1 itOk_range⟩
    · exact q1.elim
  · exact q1.elim
theorem si_range2 (hm : X.mg "range" = none) (ha : SA X G [a, b] ga) (hg : Gl X "range" := by rfl) (hs : starEach [a, b] X.env = [(false, eval a X.env), (false, eval b X.env)] := by rfl) (hs2 : starEach [b] X.env = [(false, eval b X.env)] := by rfl) :
    SI X G tg (.Call (.Name "range" p) [a, b] [] pos) (miRng rng2 ga) := by
  refine ⟨fun Wi tk => (pi_range2 hg hm (ha.run Wi tk) hs hs2).imp ?_⟩
  rintro σ H R ⟨η, S, γ, he, hs, q⟩
  refine ⟨η, S, γ, he, hs, (PostI.seq q).imp fun x H1 ⟨wx, S1, γ1, e1, r1, s1, q1⟩ => ?_⟩
  unfold rng2 at q1
  split at q1
  · split at q1
    · rename_i hj
      cases r1 with
      | cons r r1 =>
        cases r1 with
        | cons r' r1 =>
          cases r1
          cases r
          cases r'
          exact ⟨_, _, rfl, ⟨by omega, by omega, by omega, by omega⟩, q1 _ γ1 H1 Ext.refl s1 itOk_range⟩
    · exact q1.elim
  · exact q1.elim
/-! loops -/
theorem postS_turn {K : PySem.W.Frag} {Wi : WX} {γ : Ga} {H : Hp} {D : Ends} {r : RS} {k : MS} {N : L2.St → Hp → Prop}
    (hN : ∀ η2 S2 γ2 σ2 H2, EnvOk K G γ2 H2 η2 σ2 → StoreOk K G γ2 H2 S2 → Ext γ H γ2 H2 → PostS K G Wi γ2 H2 (k η2 S2) D → N σ2 H2)
    (h : PostS K G Wi γ H (match r with
      | .nx η2 S2 => k η2 S2
      | .ct η2 S2 => k η2 S2
      | .bk η2 S2 => .nx η2 S2
      | r => r) D) : PostS K G Wi γ H r { D with nx := N, ct := N, bk := D.nx } := by
  cases r with
  | nx η' S' => exact fun σ' γ' H' e q s => hN η' S' γ' σ' H' q s e (PostS.base e h)
  | bk η' S' => exact h
  | ct η' S' => exact fun σ' γ' H' e q s => hN η' S' γ' σ' H' q s e (PostS.base e h)
  | ret w S' => exact h
  | exc c x η' S' => exact h
  | stuck => exact h
theorem for_turns {K : PySem.W.Frag} {Wi : WX} {γ0 : Ga} {H0 : Hp} {J : It} {xs : List W} {D : Ends} {η0 : Env} {S0 : Store} {σ0 : L2.St} (ok : ItOk K G J xs γ0 H0) (he : EnvOk K G γ0 H0 η0 σ0) (hs : StoreOk K G γ0 H0 S0)
    (h : PostS K G Wi γ0 H0 (forL g m xs η0 S0) D) : ∃ Wv : Nat → Nat → L2.St → Hp → Prop, (∃ k, Wv 0 k σ0 H0) ∧ ∀ i k σ H, Wv i k σ H →
      (J.stop i H ∧ D.nx σ H) ∨ (J.go i H ∧ ∃ N : L2.St → Hp → Prop, (∀ σ' H', N σ' H' → ∃ k', k' < k ∧ Wv (i + 1) k' σ' H') ∧ ∀ x H', J.yld i H x H' → tgOf K G is g x σ H' fun σ2 H2 => tsOf K G Wi m { D with nx := N, ct := N, bk := D.nx } σ2 H2) := by
  refine ⟨fun i k σ H => k = xs.length - i ∧ i ≤ xs.length ∧ ∃ η S γ, EnvOk K G γ H η σ ∧ StoreOk K G γ H S ∧ Ext γ0 H0 γ H ∧ PostS K G Wi γ H (forL g m (xs.drop i) η S) D, ⟨xs.length, rfl, Nat.zero_le _, η0, S0, γ0, he, hs, Ext.refl, h⟩, ?_⟩
  rintro i k σ H ⟨rfl, hi, η, S, γ, he, hs, ex, q⟩
  by_cases hlt : i < xs.length
  · refine .inr ⟨ok.go i γ H S hlt ex.w hs, _, fun σ' H' z => ⟨xs.length - (i + 1), by omega, z⟩, fun x H' y => ?_⟩
    obtain ⟨e1, s1, r1⟩ := ok.yld i xs[i] γ H S x H' (List.getElem?_eq_getElem hlt) ex.w hs y
    rw [List.drop_eq_getElem_cons hlt] at q
    unfold forL at q
    cases eg : g xs[i] η S with
    | none =>
      rw [eg] at q
      exact q.elim
    | some z =>
      obtain ⟨η1, S1⟩ := z
      rw [eg] at q
      refine ⟨η, S, γ, xs[i], η1, S1, he.mono e1, s1, r1, eg, fun σ2 γ2 H2 e2 he2 s2 _ _ => ⟨η1, S1, γ2, he2, s2, ?_⟩⟩
      refine postS_turn (k := forL g m (xs.drop (i + 1))) (fun η3 S3 γ3 σ3 H3 he3 s3 e3 q3 => ⟨rfl, hlt, η3, S3, γ3, he3, s3, ((ex.trans e1).trans e2).trans e3, q3⟩) (PostS.base (e1.trans e2) q)
  · have e : i = xs.length := by omega
    subst e
    rw [List.drop_length] at q
    exact .inl ⟨ok.stop γ H S ex.w hs, q σ γ H Ext.refl he hs⟩
theorem ss_for {sts : List Stmt} (cf : Cfg X) (hi : SI X G tg a it) (hg : SG X G tg is g) (hb : SSs X G sts m) (hs : ∀ x, foldedSetIterable a X.env x = pure x := by intro _; rfl) : SS X G (.For tg a sts [] pos) (sFor it g m) := by
  refine ⟨fun Wi tk => (ps_for cf.own cf.calm (hi.run Wi tk) hg.run (hb.run Wi tk) hs).imp ?_⟩
  rintro D σ H ⟨η, S, γ, he, hs, q⟩
  refine ⟨η, S, γ, he, hs, ?_⟩
  have q : PostS X.K G Wi γ H ((it η S).toS η fun xs S1 => forL g m xs η S1) D := q
  cases ei : it η S with
  | ok xs S1 =>
    rw [ei] at q
    intro J γ1 H1 e1 s1 ok
    exact for_turns ok (he.mono e1) s1 (PostS.base e1 q)
  | exc c x S1 =>
    rw [ei] at q
    exact fun v d γ' H' e r s hd => q v d σ γ' H' e (he.mono e) r s hd
  | stuck =>
    rw [ei] at q
    exact q.elim
end
/-! comprehensions -/
section
variable {K : PySem.W.Frag} {G : Gs} {γ : Ga} {H : Hp} {S : Store} {D : Addr} {o : HO}
theorem Ga.Off.ne {a : Addr} (z : γ.Off a) (h : D ∈ γ.β) : a ≠ D := fun e => z.2 (by rw [e]; exact h)
mutual
theorem Rep.busy (h : D ∈ γ.β) (n : D ∉ γ.ρ) : ∀ {w : W} {v : V}, Rep K G γ H w v → Rep K G γ (upd H D o) w v
  | _, _, .non => .non
  | _, _, .bl b => .bl b
  | _, _, .int i => .int i
  | _, _, .str s h1 h2 => .str s h1 h2
  | _, _, .tup f r => .tup (by
      rcases f with ⟨f, z⟩ | f
      · have ne : ∀ {a : Addr}, γ.Off a → a ≠ D := fun z e => z.2 (e ▸ h)
        refine .inl ⟨?_, z⟩
        rcases f with f | ⟨ob, f⟩
        · exact .inl (by rw [upd_ne (z.ne h)]; exact f)
        · exact .inr ⟨ob, by rw [upd_ne (z.ne h)]; exact f⟩
      · exact .inr f) (Reps.busy h n r)
  | _, _, .lst f z r => .lst (by rw [upd_ne (z.ne h)]; exact f) z (Reps.busy h n r)
  | _, _, .scr f r => .scr (by
      rcases f with ⟨⟨ob, f⟩, z⟩ | f
      · exact .inl ⟨⟨ob, by rw [upd_ne (z.ne h)]; exact f⟩, z⟩
      · exact .inr f) (Reps.busy h n r)
  | _, _, .ref f => .ref f
  | _, _, .fn f => .fn f
  | _, _, .dct d z r => .dct (d.keep fun ob f => by rw [upd_ne (z.ne h)]; exact f) z (Reps.busy h n r)
  | _, _, .exc f z r => .exc (by rw [upd_ne (z.ne h)]; exact f) z (Rep.busy h n r)
theorem Reps.busy (h : D ∈ γ.β) (n : D ∉ γ.ρ) : ∀ {w : List W} {v : List V}, Reps K G γ H w v → Reps K G γ (upd H D o) w v
  | _, _, .nil => .nil
  | _, _, .cons r t => .cons (Rep.busy h n r) (Reps.busy h n t)
end
mutual
theorem Rep.shrink {γ' : Ga} (hρ : γ'.ρ = γ.ρ) (f : ∀ a o, H a = some o → γ.Off a → γ'.Off a) : ∀ {w : W} {v : V}, Rep K G γ H w v → Rep K G γ' H w v
  | _, _, .non => .non
  | _, _, .bl b => .bl b
  | _, _, .int i => .int i
  | _, _, .str s h1 h2 => .str s h1 h2
  | _, _, .tup h r => .tup (by
      rcases h with ⟨h, q⟩ | h
      · refine .inl ⟨h, ?_⟩
        rcases h with h | ⟨o, h⟩
        · exact f _ _ h q
        · exact f _ _ h q
      · exact .inr h) (Reps.shrink hρ f r)
  | _, _, .lst h q r => .lst h (f _ _ h q) (Reps.shrink hρ f r)
  | _, _, .scr h r => .scr (by
      rcases h with ⟨⟨o, h⟩, q⟩ | h
      · exact .inl ⟨⟨o, h⟩, f _ _ h q⟩
      · exact .inr h) (Reps.shrink hρ f r)
  | _, _, .ref h => .ref (by rw [hρ]; exact h)
  | _, _, .fn f => .fn f
  | _, _, .dct d q r => .dct d (f _ _ d.some.choose_spec q) (Reps.shrink hρ f r)
  | _, _, .exc h q r => .exc h (f _ _ h q) (Rep.shrink hρ f r)
theorem Reps.shrink {γ' : Ga} (hρ : γ'.ρ = γ.ρ) (f : ∀ a o, H a = some o → γ.Off a → γ'.Off a) : ∀ {ws : List W} {vs : List V}, Reps K G γ H ws vs → Reps K G γ' H ws vs
  | _, _, .nil => .nil
  | _, _, .cons r t => .cons (Rep.shrink hρ f r) (Reps.shrink hρ f t)
end
theorem StoreOk.busy {o : HO} (s : StoreOk K G γ H S) (h : D ∈ γ.β) (nt : ∀ xs, o ≠ .tup xs := by intro _ z; cases z) : StoreOk K G γ (L2.upd H D o) S := by
  have n := (s.bt D h).1
  refine ⟨s.len, s.nd, fun i c a hc ha => ?_, fun a ha => ⟨(s.bt a ha).1, ?_⟩⟩
  · have q := s.cell i c a hc ha
    have ne : a ≠ D := fun e => n (e ▸ List.mem_of_getElem? ha)
    cases c with
    | lst ys =>
      obtain ⟨p1, us, hv, r'⟩ := q
      exact ⟨p1, us, by rw [upd_ne ne]; exact hv, Reps.busy h n r'⟩
    | dct _ _ => exact q.to (fun ob f => by rw [upd_ne ne]; exact f) fun _ r => Reps.busy h n r
    | ins _ _ => exact q.elim
  · by_cases z : a = D
    · exact ⟨o, by rw [z]; exact upd_same, nt⟩
    · obtain ⟨u, q, n2⟩ := (s.bt a ha).2
      exact ⟨u, by rw [upd_ne z]; exact q, n2⟩
theorem wipe_same {σ σ' : L2.St} : ∀ {own is : List Nat}, (∀ i ∈ is, i ∈ own) → σ'.length = σ.length → (∀ i, i ∉ is → σ'[i]? = σ[i]?) → wipe σ' own = wipe σ own := by
  have at_ : ∀ (τ : L2.St) (own : List Nat) (i : Nat), (wipe τ own)[i]? = if i ∈ own ∧ i < τ.length then some none else τ[i]? := by
    intro τ own
    induction own with
    | nil => intro i; simp [wipe]
    | cons j own ih =>
      intro i
      show ((wipe τ own).set j none)[i]? = _
      by_cases hj : j = i
      · subst hj
        by_cases hl : j < τ.length
        · rw [List.getElem?_set_self (by rw [wipe_length]; exact hl), if_pos ⟨List.mem_cons_self .., hl⟩]
        · rw [if_neg (fun z => hl z.2), List.getElem?_eq_none (by rw [List.length_set, wipe_length]; omega), List.getElem?_eq_none (by omega)]
      · rw [List.getElem?_set_ne hj, ih i]
        by_cases hm : i ∈ own
        · by_cases hl : i < τ.length
          · rw [if_pos ⟨hm, hl⟩, if_pos ⟨List.mem_cons_of_mem _ hm, hl⟩]
          · rw [if_neg (fun z => hl z.2), if_neg (fun z => hl z.2)]
        · rw [if_neg (fun z => hm z.1), if_neg (fun z => (List.mem_cons.mp z.1).elim (fun q => hj q.symm) hm)]
  intro own is h1 h2 h3
  refine List.ext_getElem? fun i => ?_
  rw [at_, at_, h2]
  by_cases hm : i ∈ own ∧ i < σ.length
  · rw [if_pos hm, if_pos hm]
  · rw [if_neg hm, if_neg hm]
    by_cases hi : i ∈ is
    · have hl : ¬ i < σ.length := fun z => hm ⟨h1 i hi, z⟩
      rw [List.getElem?_eq_none (by omega), List.getElem?_eq_none (by omega)]
    · exact h3 i hi
theorem wipe_wipe {σ : L2.St} {own : List Nat} : wipe (wipe σ own) own = wipe σ own := by
  refine List.ext_getElem? fun i => ?_
  have at_ : ∀ (τ : L2.St) (own : List Nat) (i : Nat), (wipe τ own)[i]? = if i ∈ own ∧ i < τ.length then some none else τ[i]? := by
    intro τ own
    induction own with
    | nil => intro i; simp [wipe]
    | cons j own ih =>
      intro i
      show ((wipe τ own).set j none)[i]? = _
      by_cases hj : j = i
      · subst hj
        by_cases hl : j < τ.length
        · rw [List.getElem?_set_self (by rw [wipe_length]; exact hl), if_pos ⟨List.mem_cons_self .., hl⟩]
        · rw [if_neg (fun z => hl z.2), List.getElem?_eq_none (by rw [List.length_set, wipe_length]; omega), List.getElem?_eq_none (by omega)]
      · rw [List.getElem?_set_ne hj, ih i]
        by_cases hm : i ∈ own
        · by_cases hl : i < τ.length
          · rw [if_pos ⟨hm, hl⟩, if_pos ⟨List.mem_cons_of_mem _ hm, hl⟩]
          · rw [if_neg (fun z => hl z.2), if_neg (fun z => hl z.2)]
        · rw [if_neg (fun z => hm z.1), if_neg (fun z => (List.mem_cons.mp z.1).elim (fun q => hj q.symm) hm)]
  rw [at_, at_, wipe_length]
  by_cases hm : i ∈ own ∧ i < σ.length
  · rw [if_pos hm, if_pos hm]
  · rw [if_neg hm, if_neg hm]
theorem EnvOk.wipe {η : Env} {σ : L2.St} (he : EnvOk K G γ H η σ) : ∀ own : List Nat, EnvOk K G γ H (wipeE η own) (L2.wipe σ own)
  | [] => he
  | i :: own => by
    have ih := EnvOk.wipe he own
    refine ⟨by unfold wipeE L2.wipe; rw [List.length_set, List.length_set]; exact ih.1, fun j w hj => ?_⟩
    unfold wipeE at hj
    unfold L2.wipe
    by_cases hij : i = j
    · subst hij
      have hl := (List.getElem?_eq_some_iff.mp hj).1
      rw [List.length_set] at hl
      rw [List.getElem?_set_self hl] at hj
      cases hj
    · rw [List.getElem?_set_ne hij] at hj ⊢
      exact ih.2 j w hj
end
/-- the tests of a comprehension -/
structure STs (X : Cx) (G : Gs) (es : List Expr) (f : MT) : Prop where
  run : ∀ Wi, Takes X Wi → PTs X es (ttOf X.K G Wi f)
theorem sts_nil {X : Cx} {G : Gs} : STs X G [] mtYes := ⟨fun Wi tk => ⟨fun pins s σ H Q I q => by
  obtain ⟨η, S, γ, he, hs, q⟩ := q
  exact pts_nil.run pins s σ H Q I (q true γ H Ext.refl rfl hs)⟩⟩
theorem sts_one {X : Cx} {G : Gs} {a : Expr} {t : MT} (h : ST X G a t) : STs X G [a] t := ⟨fun Wi tk => pts_one (h.run Wi tk)⟩
theorem Cfg.blk {X : Cx} (cf : Cfg X) (s : Shared) (H : Hp) (scope : Scope) (env : PySem.Env) (fp : List Addr) : Cfg (X.blk s H scope env fp) := ⟨cf.calm, cf.nd, PassesOwn.never, cf.un⟩
section
variable {X : Cx} {G : Gs} {tg iter elt : Expr} {ifs : List Expr} {scope : Scope} {f : ME} {g : MG} {t : MT} {it : MI} {is : List Nat} {own : List (Str × Nat)} {pos : Pos}
/-- a turn after another -/
theorem lc_turns {K : PySem.W.Frag} {γ0 : Ga} {H0 : Hp} {J : It} {xs : List W} {η : Env} {S0 : Store} {σ : L2.St} {wsF : List W} {SF : Store} {Wx' : Wx} {Q : VK} {vs : List Nat} (ok : ItOk K G J xs γ0 H0) (he : EnvOk K G γ0 H0 η σ) (hs : StoreOk K G γ0 H0 S0)
    (his : ∀ i ∈ is, i ∈ vs) (h : compL g t f (wipeE η vs) xs S0 [] = .ok wsF SF) (hQ : ∀ v γ' H', Ext γ0 H0 γ' H' → Rep K G γ' H' (.lst wsF) v → StoreOk K G γ' H' SF → Q v H') :
    ∀ D, H0 D = none → ∃ Wv : Nat → Nat → Hp → Prop, (∃ m, Wv 0 m (L2.upd H0 D (.lst []))) ∧ ∀ i m H, Wv i m H →
      (J.stop i H ∧ Q (.ref D) H) ∨ (J.go i H ∧ ∃ Nx : Hp → Prop, (∀ H', Nx H' → ∃ m', m' < m ∧ Wv (i + 1) m' H') ∧ ∀ x H', J.yld i H x H' → tgOf K G is g x (wipe σ vs) H' fun σ2 H2 => wipe σ2 vs = wipe σ vs ∧ ttOf K G (fun _ _ _ _ => False) t σ2 H2 fun b H3 =>
        if b = true then tOf K G (fun _ _ _ _ => False) f σ2 H3 fun y H4 => ∃ acc, H4 D = some (.lst acc) ∧ acc.length < sizeLine ∧ Nx (L2.upd H4 D (.lst (acc ++ [y]))) else Nx H3) := by
  intro D hD
  refine ⟨fun i m H => m = xs.length - i ∧ i ≤ xs.length ∧ ∃ S γ acc us, StoreOk K G γ H S ∧ Ext γ0 H0 γ H ∧ D ∈ γ.β ∧ H D = some (.lst us) ∧ Reps K G γ H acc us ∧ compL g t f (wipeE η vs) (xs.drop i) S acc = .ok wsF SF, ⟨xs.length, rfl, Nat.zero_le _, ?_⟩, ?_⟩
  · have off := hs.fresh hD
    refine ⟨S0, ⟨γ0.ρ, D :: γ0.β⟩, [], [], ?_, ?_, List.mem_cons_self .., upd_same, .nil, h⟩
    · have s1 := hs.upd (o := .lst []) hD
      refine ⟨s1.len, s1.nd, fun i c a hc ha => ?_, fun a ha => ?_⟩
      · have q := s1.cell i c a hc ha
        cases c with
        | lst ys =>
          obtain ⟨p1, us, hv, r'⟩ := hs.cell i _ a hc ha
          refine ⟨p1, us, by rw [upd_ne (ne_of_none hv hD)]; exact hv, r'.mono ?_⟩
          exact ⟨List.prefix_refl _, fun b hb => List.mem_cons_of_mem _ hb, fun b hb => (List.mem_cons.mp hb).elim (fun z => .inr (by rw [z]; exact hD)) .inl, fun b u e _ => by rw [upd_ne (ne_of_none e hD)]; exact e, fun _ h1 h2 => absurd h1 h2, fun b u e => ⟨u, by rw [upd_ne (ne_of_none e hD)]; exact e⟩⟩
        | dct _ _ => exact (hs.cell i _ a hc ha).to (fun o f => by rw [upd_ne (ne_of_none f hD)]; exact f) fun _ r => by refine r.mono ?_; exact ⟨List.prefix_refl _, fun b hb => List.mem_cons_of_mem _ hb, fun b hb => (List.mem_cons.mp hb).elim (fun z => .inr (by rw [z]; exact hD)) .inl, fun b u e _ => by rw [upd_ne (ne_of_none e hD)]; exact e, fun _ h1 h2 => absurd h1 h2, fun b u e => ⟨u, by rw [upd_ne (ne_of_none e hD)]; exact e⟩⟩
        | ins _ _ => exact q.elim
      · rcases List.mem_cons.mp ha with z | z
        · rw [z]
          exact ⟨off.1, _, upd_same, fun _ z => nomatch z⟩
        · obtain ⟨n, o, q, nt⟩ := hs.bt a z
          exact ⟨n, o, by rw [upd_ne (ne_of_none q hD)]; exact q, nt⟩
    · exact ⟨List.prefix_refl _, fun b hb => List.mem_cons_of_mem _ hb, fun b hb => (List.mem_cons.mp hb).elim (fun z => .inr (by rw [z]; exact hD)) .inl, fun b u e _ => by rw [upd_ne (ne_of_none e hD)]; exact e, fun _ h1 h2 => absurd h1 h2, fun b u e => ⟨u, by rw [upd_ne (ne_of_none e hD)]; exact e⟩⟩
  · rintro i m H ⟨rfl, hi, S, γ, acc, us, s, ex, dβ, hus, racc, hc⟩
    by_cases hlt : i < xs.length
    · refine .inr ⟨ok.go i γ H S hlt ex.w s, _, fun H' z => ⟨xs.length - (i + 1), by omega, z⟩, fun x H' y => ?_⟩
      obtain ⟨e1, s1, r1⟩ := ok.yld i xs[i] γ H S x H' (List.getElem?_eq_getElem hlt) ex.w s y
      rw [List.drop_eq_getElem_cons hlt] at hc
      unfold compL at hc
      cases eg : g xs[i] (wipeE η vs) S with
      | none =>
        rw [eg] at hc
        cases hc
      | some z =>
        obtain ⟨η1, S1⟩ := z
        rw [eg] at hc
        refine ⟨wipeE η vs, S, γ, xs[i], η1, S1, ((he.mono ex).mono e1).wipe vs, s1, r1, eg, fun σ2 γ2 H2 e2 he2 s2 hl2 hn2 => ⟨?_, ?_⟩⟩
        · rw [wipe_same (σ := wipe σ vs) his hl2 hn2, wipe_wipe]
        · refine ⟨η1, S1, γ2, he2, s2, ?_⟩
          cases et : t η1 S1 with
          | stuck =>
            simp only [et] at hc
            cases hc
          | exc c x S2 =>
            simp only [et] at hc
            cases hc
          | ok b S2 =>
            simp only [et, R.bind] at hc
            intro b' γ3 H3 e3 rb s3
            cases rb
            have ext3 : Ext γ0 H0 γ3 H3 := ((ex.trans e1).trans e2).trans e3
            have d3 : D ∈ γ3.β := e3.bsub _ (e2.bsub _ (e1.bsub _ dβ))
            have hus3 : H3 D = some (.lst us) := by
              have k1 := e1.keep D _ hus (s.bt D dβ).1
              have k2 := e2.keep D _ k1 (s1.bt D (e1.bsub _ dβ)).1
              exact e3.keep D _ k2 (s2.bt D (e2.bsub _ (e1.bsub _ dβ))).1
            have racc3 := ((racc.mono e1).mono e2).mono e3
            cases b with
            | false =>
              rw [if_neg Bool.false_ne_true] at hc ⊢
              exact ⟨rfl, hlt, S2, γ3, acc, us, s3, ext3, d3, hus3, racc3, hc⟩
            | true =>
              rw [if_pos rfl] at hc ⊢
              refine ⟨η1, S2, γ3, he2.mono e3, s3, ?_⟩
              cases ee : f η1 S2 with
              | stuck =>
                simp only [ee] at hc
                cases hc
              | exc c x S3 =>
                simp only [ee] at hc
                cases hc
              | ok w S3 =>
                simp only [ee] at hc
                intro v γ4 H4 e4 r4 s4
                have d4 : D ∈ γ4.β := e4.bsub _ d3
                have hus4 : H4 D = some (.lst us) := e4.keep D _ hus3 (s3.bt D d3).1
                unfold sized at hc
                split at hc
                · rename_i hsz
                  rw [bigLine_eq] at hsz
                  have ll := racc3.length
                  refine ⟨us, hus4, by omega, rfl, hlt, S3, γ4, acc ++ [w], us ++ [v], s4.busy d4, ?_, d4, upd_same, ?_, hc⟩
                  · have x4 := ext3.trans e4
                    have na : ∀ {a : Addr} {o : HO}, H0 a = some o → a ≠ D := fun q => ne_of_none q hD
                    exact ⟨x4.pre, x4.bsub, x4.bnew, fun a o q n => by rw [upd_ne (na q)]; exact x4.keep a o q n, x4.new, fun a o q => by
                      obtain ⟨o', q'⟩ := x4.dom a o q
                      exact ⟨o', by rw [upd_ne (na q)]; exact q'⟩⟩
                  · have n4 := (s4.bt D d4).1
                    exact (Reps.busy d4 n4 (racc3.mono e4)).append (.one (Rep.busy d4 n4 r4))
                · cases hc
    · have e : i = xs.length := by omega
      subst e
      rw [List.drop_length] at hc
      cases hc
      refine .inl ⟨ok.stop γ H _ ex.w s, ?_⟩
      have nD := (s.bt D dβ).1
      have fr : Ext γ0 H0 ⟨γ.ρ, γ.β.filter (fun a => decide (a ≠ D))⟩ H := by
        refine ⟨ex.pre, fun a ha => ?_, fun a ha => ex.bnew a (List.mem_filter.mp ha).1, ex.keep, ex.new, ex.dom⟩
        refine List.mem_filter.mpr ⟨ex.bsub a ha, ?_⟩
        obtain ⟨_, o, q, _⟩ := hs.bt a ha
        exact decide_eq_true (ne_of_none q hD)
      have up : Ext γ H ⟨γ.ρ, γ.β.filter (fun a => decide (a ≠ D))⟩ H → True := fun _ => trivial
      have lessO : ∀ (a : Addr) (o : HO), H a = some o → γ.Off a → Ga.Off ⟨γ.ρ, γ.β.filter (fun a => decide (a ≠ D))⟩ a := fun a o _ z => ⟨z.1, fun q => z.2 (List.mem_filter.mp q).1⟩
      have shr : ∀ {w : W} {v : V}, Rep K G γ H w v → Rep K G ⟨γ.ρ, γ.β.filter (fun a => decide (a ≠ D))⟩ H w v := fun r => Rep.shrink (γ := γ) (γ' := ⟨γ.ρ, γ.β.filter (fun a => decide (a ≠ D))⟩) rfl lessO r
      have shrs : ∀ {w : List W} {v : List V}, Reps K G γ H w v → Reps K G ⟨γ.ρ, γ.β.filter (fun a => decide (a ≠ D))⟩ H w v := fun r => Reps.shrink (γ := γ) (γ' := ⟨γ.ρ, γ.β.filter (fun a => decide (a ≠ D))⟩) rfl lessO r
      refine hQ (.ref D) _ H fr (.lst hus ⟨nD, fun q => ?_⟩ (shrs racc)) ⟨s.len, s.nd, fun i c a hc ha => ?_, fun a ha => s.bt a (List.mem_filter.mp ha).1⟩
      · have := (List.mem_filter.mp q).2
        simp at this
      · have q := s.cell i c a hc ha
        cases c with
        | lst ys =>
          obtain ⟨p1, us', hv, r'⟩ := q
          exact ⟨p1, us', hv, shrs r'⟩
        | dct _ _ => exact q.to (fun _ f => f) fun _ r => shrs r
        | ins _ _ => exact q.elim
theorem comp_read {Wi : WX} {Q : VK} {σ : L2.St} {H : Hp} (his : ∀ i ∈ is, i ∈ own.map (·.2)) (q : tOf X.K G Wi (mComp it (own.map (·.2)) g t f) σ H Q) :
    tLc (tiOf X.K G Wi it) (tgOf X.K G is g) (ttOf X.K G (fun _ _ _ _ => False) t) (tOf X.K G (fun _ _ _ _ => False) f) (own.map (·.2)) σ H Q := by
  obtain ⟨η, S, γ, he, hs, q⟩ := q
  refine ⟨η, S, γ, he, hs, ?_⟩
  have q : Post X.K G (Rep X.K G) (fun c d H' => Wi c d σ H') γ H ((it η S).bind fun xs S1 => (noexc (compL g t f (wipeE η (own.map (·.2))) xs S1 [])).bind fun ws S2 => .ok (.lst ws) S2) Q := q
  cases ei : it η S with
  | stuck =>
    rw [ei] at q
    exact q.elim
  | exc c x S1 =>
    rw [ei] at q
    exact q
  | ok xs S1 =>
    rw [ei] at q
    intro J γ1 H1 e1 s1 ok
    have q : Post X.K G (Rep X.K G) (fun c d H' => Wi c d σ H') γ H ((noexc (compL g t f (wipeE η (own.map (·.2))) xs S1 [])).bind fun ws S2 => .ok (.lst ws) S2) Q := q
    cases ec : compL g t f (wipeE η (own.map (·.2))) xs S1 [] with
    | stuck =>
      rw [ec] at q
      exact q.elim
    | exc c x S2 =>
      rw [ec] at q
      exact q.elim
    | ok ws S2 =>
      rw [ec] at q
      exact lc_turns (Wx' := fun _ _ _ => False) ok (he.mono e1) s1 his ec fun v γ' H' e r s => q v γ' H' (e1.trans e) r s
theorem se_comp (own : List (Str × Nat)) (cf : Cfg X) (hi : SI X G tg iter it) (ok : BlkOk X.N X.env.scope scope own)
    (hg : ∀ (s : Shared) (H : Hp) (C : Addr) (cl : List (Str × Addr)) (fp : List Addr), Cfg (X.blk s H scope (compEnvC scope cl C X.env) fp) → SG (X.blk s H scope (compEnvC scope cl C X.env) fp) G tg is g)
    (ht : ∀ (s : Shared) (H : Hp) (C : Addr) (cl : List (Str × Addr)) (fp : List Addr), Cfg (X.blk s H scope (compEnvC scope cl C X.env) fp) → STs (X.blk s H scope (compEnvC scope cl C X.env) fp) G ifs t)
    (he : ∀ (s : Shared) (H : Hp) (C : Addr) (cl : List (Str × Addr)) (fp : List Addr), Cfg (X.blk s H scope (compEnvC scope cl C X.env) fp) → SE (X.blk s H scope (compEnvC scope cl C X.env) fp) G elt f)
    (his : ∀ i ∈ is, i ∈ own.map (·.2) := by decide) (hs : ∀ x, foldedSetIterable iter X.env x = pure x := by intro _; rfl) :
    SE X G (.ListComp elt [⟨tg, iter, ifs, 0⟩] scope pos) (mComp it (own.map (·.2)) g t f) := by
  refine ⟨fun Wi tk => (pe_lc (g := tgOf X.K G is g) (tt := ttOf X.K G (fun _ _ _ _ => False) t) (te := tOf X.K G (fun _ _ _ _ => False) f) cf.calm cf.nd (hi.run Wi tk) ok (fun s H C cl fp => (hg s H C cl fp (cf.blk ..)).run) (fun s H C cl fp => (ht s H C cl fp (cf.blk ..)).run _ takes0) (fun s H C cl fp => (he s H C cl fp (cf.blk ..)).run _ takes0) hs).imp ?_⟩
  intro σ H Q q
  exact comp_read his q
theorem ss_setLc {y : Str} {py : Pos} {spos : Pos} (i : Nat) (own : List (Str × Nat)) (cf : Cfg X) (hi : SI X G tg iter it) (ok : BlkOk X.N X.env.scope scope own)
    (hg : ∀ (s : Shared) (H : Hp) (C : Addr) (cl : List (Str × Addr)) (fp : List Addr), Cfg (X.blk s H scope (compEnvC scope cl C X.env) fp) → SG (X.blk s H scope (compEnvC scope cl C X.env) fp) G tg is g)
    (ht : ∀ (s : Shared) (H : Hp) (C : Addr) (cl : List (Str × Addr)) (fp : List Addr), Cfg (X.blk s H scope (compEnvC scope cl C X.env) fp) → STs (X.blk s H scope (compEnvC scope cl C X.env) fp) G ifs t)
    (he : ∀ (s : Shared) (H : Hp) (C : Addr) (cl : List (Str × Addr)) (fp : List Addr), Cfg (X.blk s H scope (compEnvC scope cl C X.env) fp) → SE (X.blk s H scope (compEnvC scope cl C X.env) fp) G elt f)
    (hy : X.N[i]? = some y := by rfl) (hyl : X.env.scope.names.lookup y = some .local := by rfl)
    (hsw : swapsWith (.ListComp elt [⟨tg, iter, ifs, 0⟩] scope pos) (some (.Name y py)) spos.line X.env = pure true := by exact sw_true rfl rfl rfl (by decide +kernel))
    (his : ∀ i ∈ is, i ∈ own.map (·.2) := by decide) (hs : ∀ x, foldedSetIterable iter X.env x = pure x := by intro _; rfl) :
    SS X G (.Assign [.Name y py] (.ListComp elt [⟨tg, iter, ifs, 0⟩] scope pos) spos) (sSet i (mComp it (own.map (·.2)) g t f)) := by
  refine ⟨fun Wi tk => (ps_setLc (i := i) (g := tgOf X.K G is g) (tt := ttOf X.K G (fun _ _ _ _ => False) t) (te := tOf X.K G (fun _ _ _ _ => False) f) cf.calm cf.nd hy hyl hsw (hi.run Wi tk) ok (fun s H C cl fp => (hg s H C cl fp (cf.blk ..)).run) (fun s H C cl fp => (ht s H C cl fp (cf.blk ..)).run _ takes0) (fun s H C cl fp => (he s H C cl fp (cf.blk ..)).run _ takes0) hs).imp ?_⟩
  rintro D σ H ⟨η, S, γ, he, hs, q⟩
  refine comp_read his ⟨η, S, γ, he, hs, (PostS.expr he q).imp fun v H1 ⟨w, S1, γ1, e1, r1, s1, q1⟩ => q1 _ γ1 H1 Ext.refl ((he.mono e1).set r1 i) s1⟩
end
end Mp
set_option Elab.async false
set_option linter.all false
set_option maxRecDepth 100000
set_option maxHeartbeats 4000000
/-! Mp: functions, calls. -/
namespace Mp
open PySem PySem.Spec PyProof.Rows L2
section
variable {K : PySem.W.Frag} {G : Gs} {γ γ' : Ga} {H H' : Hp} {S S' : Store} {D : Ends} {Q : VK} {E : XK}
/-- what a call leaves: the store's old part -/
theorem cut_ok (s : StoreOk K G γ H S) (e : Ext γ H γ' H') (s' : StoreOk K G γ' H' S') : Ext γ H ⟨γ.ρ, γ'.β⟩ H' ∧ StoreOk K G ⟨γ.ρ, γ'.β⟩ H' (S'.take S.length) ∧ ∀ a o, H' a = some o → γ'.Off a → Ga.Off ⟨γ.ρ, γ'.β⟩ a := by
  have sub : ∀ a ∈ γ.ρ, a ∈ γ'.ρ := fun a h => e.pre.subset h
  have less : ∀ a o, H' a = some o → γ'.Off a → Ga.Off ⟨γ.ρ, γ'.β⟩ a := fun a o _ z => ⟨fun q => z.1 (sub a q), z.2⟩
  refine ⟨⟨List.prefix_refl _, e.bsub, e.bnew, e.keep, fun _ h1 h2 => absurd h1 h2, e.dom⟩, ⟨?_, s.nd, fun i c a hc ha => ?_, fun a ha => ⟨fun q => (s'.bt a ha).1 (sub a q), (s'.bt a ha).2⟩⟩, less⟩
  · have l1 := e.pre.length_le
    rw [s.len, s'.len] at l1
    rw [List.length_take]
    show γ.ρ.length = _
    rw [s.len]
    omega
  · have hi : i < S.length := by
      have := (List.getElem?_eq_some_iff.mp hc).1
      rw [List.length_take] at this
      omega
    rw [List.getElem?_take_of_lt hi] at hc
    have ha' : γ'.ρ[i]? = some a := by
      obtain ⟨t, q⟩ := e.pre
      rw [← q, List.getElem?_append_left (List.getElem?_eq_some_iff.mp ha).1]
      exact ha
    have q := s'.cell i c a hc ha'
    cases c with
    | lst xs =>
      obtain ⟨p, vs, hv, r⟩ := q
      exact ⟨p, vs, hv, Reps.less less p r⟩
    | dct _ _ => exact q.to (fun _ f => f) fun p r => Reps.less less p r
    | ins _ _ => exact q.elim
theorem fin_ok {Wi : WX} {keep : Bool} {r : RS} (hW : ∀ c d σ H', E c d H' → Wi c d σ H') (s : StoreOk K G γ H S) (h : Post K G (Rep K G) E γ H (finS keep S.length r) Q) : PostS K G Wi γ H r { nx := fun _ H' => Q .non H', rt := Q } := by
  cases r with
  | nx η' S' =>
    intro σ' γ' H' e _ s'
    obtain ⟨a, b, _⟩ := cut_ok s e s'
    exact h _ _ H' a .non b
  | bk η' S' => exact h.elim
  | ct η' S' => exact h.elim
  | stuck => exact h.elim
  | exc c x η' S' =>
    have h : Post K G (Rep K G) E γ H (if x.pure = true then .exc c x (S'.take S.length) else .stuck) Q := h
    split at h
    · rename_i px
      intro v d σ' γ' H' e _ r s' hd ho
      obtain ⟨a, b, less⟩ := cut_ok s e s'
      exact hW _ _ _ _ (h v d _ H' a (Rep.less less px r) b hd (less _ _ hd ho))
    · exact h.elim
  | ret w S' =>
    replace h : Post K G (Rep K G) E γ H (fin keep S.length w S') Q := h
    intro v γ' H' e r s'
    obtain ⟨a, bS, less⟩ := cut_ok s e s'
    unfold fin at h
    split at h
    · rename_i pw
      exact h v _ H' a (Rep.less less pw r) bS
    · rename_i hnp
      split at h
      · rename_i w i
        cases r with
        | @ref _ ad hr =>
        split at h
        · rename_i hi
          refine h _ _ H' a (.ref ?_) bS
          show γ.ρ[i]? = some ad
          obtain ⟨t, q⟩ := e.pre
          rw [← q, List.getElem?_append_left (by rw [s.len]; exact hi)] at hr
          exact hr
        · rename_i hi
          split at h
          · rename_i xs hc
            obtain ⟨_, vs, hv, rv⟩ := s'.cell i _ ad hc hr
            have hnot : ad ∉ γ.ρ := fun z => by
              obtain ⟨j, hj, ej⟩ := List.mem_iff_getElem.mp z
              have hj' : j < S.length := by rw [← s.len]; exact hj
              obtain ⟨t, q⟩ := e.pre
              have e1 : γ'.ρ[j]? = some ad := by rw [← q, List.getElem?_append_left hj, List.getElem?_eq_getElem hj, ej]
              obtain ⟨x1, x2⟩ := List.getElem?_eq_some_iff.mp e1
              obtain ⟨y1, y2⟩ := List.getElem?_eq_some_iff.mp hr
              have := (List.getElem_inj s'.nd).mp (x2.trans y2.symm)
              omega
            have hoff : ad ∉ γ'.β := fun z => (s'.bt ad z).1 (List.mem_of_getElem? hr)
            by_cases pxs : pures xs = true
            · rw [if_pos pxs] at h
              have rv' : Reps K G ⟨γ.ρ, γ'.β⟩ H' xs vs := Reps.less less pxs rv
              by_cases hkp : keep = true
              · rw [if_pos hkp] at h
                refine h (.ref ad) ⟨γ.ρ ++ [ad], γ'.β⟩ H' ⟨List.prefix_append _ _, a.bsub, a.bnew, a.keep, fun b hb hn => ?_, a.dom⟩ (.ref ?_) ⟨?_, ?_, fun j c b' hc' hb' => ?_, fun b hb => ⟨fun z => ?_, (bS.bt b hb).2⟩⟩
                · rcases List.mem_append.mp hb with z | z
                  · exact absurd z hn
                  · have z' : b = ad := by simpa using z
                    rw [z'] at hn ⊢
                    exact e.new ad (List.mem_of_getElem? hr) hn
                · show (γ.ρ ++ [ad])[S.length]? = some ad
                  rw [← s.len, List.getElem?_append_right (Nat.le_refl _), Nat.sub_self]
                  rfl
                · show (γ.ρ ++ [ad]).length = (S'.take S.length ++ [Cell.lst xs]).length
                  rw [List.length_append, List.length_append, ← bS.len]
                  rfl
                · show (γ.ρ ++ [ad]).Nodup
                  rw [List.nodup_append]
                  exact ⟨s.nd, by simp, fun b hb c hc => by
                    have z : c = ad := by simpa using hc
                    rw [z]
                    rintro rfl
                    exact hnot hb⟩
                · have lessK : ∀ b o, H' b = some o → Ga.Off ⟨γ.ρ, γ'.β⟩ b → b ≠ ad → Ga.Off ⟨γ.ρ ++ [ad], γ'.β⟩ b := fun b o _ z ne => ⟨fun q => (List.mem_append.mp q).elim z.1 fun q => ne (by simpa using q), z.2⟩
                  have lessT : ∀ b o, H' b = some o → γ'.Off b → Ga.Off ⟨γ.ρ ++ [ad], γ'.β⟩ b := fun b o hb z => lessK b o hb (less b o hb z) fun q => z.1 (by rw [q]; exact List.mem_of_getElem? hr)
                  have ll : (S'.take S.length).length = S.length := by rw [← bS.len]; exact s.len
                  by_cases hj : j < S.length
                  · rw [List.getElem?_append_left (by rw [ll]; exact hj)] at hc'
                    have hb2 : γ.ρ[j]? = some b' := by
                      have z : (γ.ρ ++ [ad])[j]? = some b' := hb'
                      rwa [List.getElem?_append_left (by rw [s.len]; exact hj)] at z
                    rw [List.getElem?_take_of_lt hj] at hc'
                    have hb3 : γ'.ρ[j]? = some b' := by
                      obtain ⟨t, q⟩ := e.pre
                      rw [← q, List.getElem?_append_left (List.getElem?_eq_some_iff.mp hb2).1]
                      exact hb2
                    have q := s'.cell j c b' hc' hb3
                    cases c with
                    | lst ys =>
                      obtain ⟨p, us, hu, ru⟩ := q
                      exact ⟨p, us, hu, Reps.less lessT p ru⟩
                    | dct _ _ => exact q.to (fun _ f => f) fun p r => Reps.less lessT p r
                    | ins _ _ => exact q.elim
                  · have hlt := (List.getElem?_eq_some_iff.mp hc').1
                    rw [List.length_append, List.length_singleton, ll] at hlt
                    have ej : j = S.length := by omega
                    subst ej
                    have z1 : Cell.lst xs = c := by
                      rw [List.getElem?_append_right (by rw [ll]; exact Nat.le_refl _), ll, Nat.sub_self] at hc'
                      simpa using hc'
                    subst z1
                    have z2 : ad = b' := by
                      have z : (γ.ρ ++ [ad])[S.length]? = some b' := hb'
                      rw [← s.len, List.getElem?_append_right (Nat.le_refl _), Nat.sub_self] at z
                      simpa using z
                    subst z2
                    exact ⟨pxs, vs, hv, Reps.less lessT pxs rv⟩
                · rcases List.mem_append.mp z with z | z
                  · exact (bS.bt b hb).1 z
                  · have z' : b = ad := by simpa using z
                    exact hoff (by rw [← z']; exact hb)
              · rw [if_neg hkp] at h
                exact h (.ref ad) _ H' a (.lst hv ⟨hnot, hoff⟩ rv') bS
            · rw [if_neg pxs] at h
              exact h.elim
          · exact h.elim
      · exact h.elim
end
section
variable {K : PySem.W.Frag} {G : Gs} {γ γ' : Ga} {H H' : Hp} {S S' : Store} {Q : VK} {E : XK}
def Ga.hid (γ : Ga) : Ga := ⟨[], γ.β ++ γ.ρ⟩
theorem off_hid {a : Addr} (h : γ.Off a) : γ.hid.Off a := ⟨by show a ∉ []; simp, fun z => (List.mem_append.mp z).elim h.2 h.1⟩
theorem store_hid (s : StoreOk K G γ H S) : StoreOk K G γ.hid H [] := ⟨rfl, List.nodup_nil, fun i c a hc _ => by simp at hc, fun a ha => ⟨by show a ∉ []; simp, by
  rcases List.mem_append.mp ha with z | z
  · exact (s.bt a z).2
  · exact s.tracked0 z⟩⟩
theorem reps_hid {ws : List W} {vs : List V} (p : pures ws = true) (r : Reps K G γ H ws vs) : Reps K G γ.hid H ws vs := Reps.less (fun _ _ _ h => off_hid h) p r
theorem back_hid (s : StoreOk K G γ H S) (e : Ext γ.hid H γ' H') (s' : StoreOk K G γ' H' S') :
    Ext γ H ⟨γ.ρ, γ'.β.filter fun a => !decide (a ∈ γ.ρ)⟩ H' ∧ StoreOk K G ⟨γ.ρ, γ'.β.filter fun a => !decide (a ∈ γ.ρ)⟩ H' S ∧ ∀ a o, H' a = some o → γ'.Off a → Ga.Off ⟨γ.ρ, γ'.β.filter fun a => !decide (a ∈ γ.ρ)⟩ a := by
  have mf : ∀ {a : Addr}, a ∈ (γ'.β.filter fun a => !decide (a ∈ γ.ρ)) ↔ a ∈ γ'.β ∧ a ∉ γ.ρ := fun {a} => by
    rw [List.mem_filter, Bool.not_eq_true', decide_eq_false_iff_not]
  have ke : ∀ a o, H a = some o → H' a = some o := fun a o h => e.keep a o h (by show a ∉ []; simp)
  have ex : Ext γ H ⟨γ.ρ, γ'.β.filter fun a => !decide (a ∈ γ.ρ)⟩ H' := ⟨List.prefix_refl _, fun a h => mf.mpr ⟨e.bsub a (List.mem_append_left _ h), (s.bt a h).1⟩, fun a h => by
    obtain ⟨h1, h2⟩ := mf.mp h
    rcases e.bnew a h1 with z | z
    · rcases List.mem_append.mp z with z | z
      · exact .inl z
      · exact absurd z h2
    · exact .inr z, fun a o h _ => ke a o h, fun _ h1 h2 => absurd h1 h2, e.dom⟩
  refine ⟨ex, ⟨s.len, s.nd, fun i c a hc ha => ?_, fun a ha => ⟨(mf.mp ha).2, (s'.bt a (mf.mp ha).1).2⟩⟩, fun a o _ h => ⟨fun z => h.2 (e.bsub a (List.mem_append_right _ z)), fun z => h.2 (mf.mp z).1⟩⟩
  have q := s.cell i c a hc ha
  cases c with
  | lst xs =>
    obtain ⟨p, vs, hv, r⟩ := q
    exact ⟨p, vs, ke _ _ hv, r.mono ex⟩
  | dct _ _ => exact q.to (fun o f => ke _ _ f) fun _ r => r.mono ex
  | ins _ _ => exact q.elim
theorem frame_post {r : R W} (s : StoreOk K G γ H S) (h : Post K G (Rep K G) E γ H (r.frame S) Q) : Post K G (Rep K G) E γ.hid H r Q := by
  cases r with
  | stuck => exact h.elim
  | ok w S' =>
    have h : Post K G (Rep K G) E γ H (if w.pure = true then R.ok w S else .stuck) Q := h
    split at h
    · rename_i pw
      intro v γ' H' e r s'
      obtain ⟨a, b, c⟩ := back_hid s e s'
      exact h v _ H' a (Rep.less c pw r) b
    · exact h.elim
  | exc c x S' =>
    have h : Post K G (Rep K G) E γ H (if x.pure = true then R.exc c x S else .stuck) Q := h
    split at h
    · rename_i px
      intro v d γ' H' e r s' hd ho
      obtain ⟨a, b, cc⟩ := back_hid s e s'
      exact h v d _ H' a (Rep.less cc px r) b hd (cc _ _ hd ho)
    · exact h.elim
end
theorem Post.not_stuck {K : PySem.W.Frag} {G : Gs} {α β : Type} {rel : Rel α β} {wx : Wx} {γ : Ga} {H : Hp} {r : R α} {Q : β → Hp → Prop} (h : Post K G rel wx γ H r Q) : r ≠ .stuck := fun z => by
  rw [z] at h
  exact h
/-! a function of the text -/
abbrev AllF (P : Program) (w : World) (K : PySem.W.Frag) (mg : Str → Option Value) (base : Heap) (G : Gs) (T : List Mp.Fun) (D : List FnR) (d : Nat) : Prop := ∀ f r, D[f]? = some r → ∃ fd, FT P w K mg base G d (fns T d f) f r fd
section
variable {X : Cx} {G : Gs} {d f : Nat} {r : FnR} {φ : Fns} {x : Str} {p pos : Pos} {e : Expr} {es : List Expr} {ga : MA}
theorem se_call (f : Nat) (h : ∃ fd, FT X.prog X.w X.K X.mg X.base G d (φ f) f r fd) (hr : Room (d + 2) X.A) (ha : SA X G (e :: es) ga) (hx : r.x = x := by rfl) (hg : Gl X x := by rfl) (hdb : (x == ("__debug__" : Str)) = false := by decide)
    (he : starEach (e :: es) X.env = (false, eval e X.env) :: starEach es X.env := by rfl) (hpl : (backTo pos (starEach es X.env)).any (·.1) = false := by rfl) : SE X G (.Call (.Name x p) (e :: es) [] pos) (mCall φ f ga) := by
  obtain ⟨fd, h⟩ := h
  subst hx
  refine ⟨fun Wi tk => (pe_callS h.ok hr hg h.gl h.F.kp h.b (fun σ => passAt tk σ) (ha.run Wi tk) hdb he hpl).imp ?_⟩
  rintro σ H Q ⟨η, S, γ, he, hs, q⟩
  refine ⟨η, S, γ, he, hs, ?_⟩
  have q : Post X.K G (Rep X.K G) (fun c d H' => Wi c d σ H') γ H ((ga η S).bind fun ws S1 => φ f ws S1) Q := q
  cases eg : ga η S with
  | stuck =>
    rw [eg] at q
    exact q.elim
  | exc c x S1 =>
    rw [eg] at q
    exact q
  | ok ws S1 =>
    rw [eg] at q
    intro vs γ1 H1 e1 r1 s1
    exact ⟨by rw [← r1.length]; exact h.len ws S1 (Post.not_stuck q), ws, S1, γ1, r1, s1, Post.base e1 q⟩
end
/-! calls without places, with keywords -/
section
variable {X : Cx} {k : Nat} {f : Addr} {fd : FuncData} {ps ks : List Str} {sp : Sp} {E : L2.St → XK} {x : Str} {p pos : Pos} {kws : List Keyword} {e : Expr} {es : List Expr} {t tk : TA}
/-- how a call by keywords alone, or behind n places, binds -/
def KwB (K : PySem.W.Frag) (fd : FuncData) (ps ks : List Str) (n : Nat) (perm : List Nat) : Prop := ∀ (s : Shared) (us : List Value), us.length = n + ks.length → BindsTo s fd ⟨us.take n, ks.zip (us.drop n)⟩ (ps.zip (perm.map fun i => us.getD i .none))
def tCallP (sp : Sp) (perm : List Nat) (E : L2.St → XK) (t tk : TA) : TE := fun σ H Q => t σ H fun vs H1 => tk σ H1 fun zs H2 => sp (perm.map fun i => (vs ++ zs).getD i .non) H2 Q (E σ)
end
section
variable {X : Cx} {G : Gs} {d f : Nat} {r : FnR} {φ : Fns} {x : Str} {p pos : Pos} {e : Expr} {es : List Expr} {ga gk : MA} {kws : List Keyword} {f' : ME}
/-- the values of keywords -/
structure SK (X : Cx) (G : Gs) (kws : List Keyword) (f : MA) : Prop where
  run : ∀ Wi, Takes X Wi → PK X kws (taOf X.K G Wi f)
theorem _root_.L2.PK.imp {X : Cx} {e : List Keyword} {t t' : TA} (h : PK X e t) (i : ∀ σ H Q, t' σ H Q → t σ H Q) : PK X e t' := ⟨fun pos pins s σ H Q I q => h.run pos pins s σ H Q I (i _ _ _ q)⟩
/-- f(k = v, ..) -/
def mCallK (φ : Fns) (f : Nat) (perm : List Nat) (gk : MA) : ME := fun η S => (gk η S).bind fun ws S1 => if perm.all (fun i => decide (i < ws.length)) = true then φ f (perm.map fun i => ws.getD i .non) S1 else .stuck
end
end Mp
set_option Elab.async false
set_option linter.all false
set_option maxRecDepth 100000
set_option maxHeartbeats 4000000
/-! Mp: subscripts, slices, built-in functions. -/
namespace Mp
open PySem PySem.Spec PyProof.Rows L2
theorem _root_.L2.IxR.imp {X : Cx} {r r' : R2} (h : IxR X r) (i : ∀ x y H Q, r' x y H Q → r x y H Q) : IxR X r' := fun a b pins s σ H x y v u Q I rx ry q e => h a b pins s σ H x y v u Q I rx ry (i _ _ _ _ q) e
theorem _root_.L2.SlR.imp {X : Cx} {r r' : V → Option Int → Option Int → Hp → VK → Prop} (h : SlR X r) (i : ∀ x l u H Q, r' x l u H Q → r x l u H Q) : SlR X r' := fun pins s σ H x v vl vu lo hi sl Q I rx hs pl pu q => h pins s σ H x v vl vu lo hi sl Q I rx hs pl pu (i _ _ _ _ _ q)
theorem _root_.L2.CallR.imp {X : Cx} {f : Value} {r r' : List V → Hp → VK → Prop} (h : CallR X f r) (i : ∀ x H Q, r' x H Q → r x H Q) : CallR X f r' := fun pins s σ H xs us Q I r q => h pins s σ H xs us Q I r (i _ _ _ q)
section
variable {K : PySem.W.Frag} {G : Gs} {γ γ' : Ga} {H H' : Hp} {S : Store}
theorem atW_rep {xs : List W} {vs : List V} {i : Int} {w : W} (q : Reps K G γ H xs vs) (h : atW xs i = some w) : ∃ v, atI vs i = some v ∧ Rep K G γ H w v := by
  unfold atW at h
  cases e : ixW xs.length i with
  | none => rw [e] at h; cases h
  | some j =>
    rw [e] at h
    obtain ⟨v, hv, r⟩ := q.get h
    refine ⟨v, ?_, r⟩
    unfold atI
    have e2 : ixN vs.length i = some j := by rw [← q.length]; exact e
    rw [e2]
    exact hv
/-- what a list, a tuple is, in the heap -/
theorem lst_or {w : W} {v : V} {xs : List W} (s : StoreOk K G γ H S) (h : lstOf S w = some xs) (r : Rep K G γ H w v) : ∃ a vs, v = .ref a ∧ SqL K H a vs ∧ Reps K G γ H xs vs := by
  obtain ⟨a, vs, e, hv, q⟩ := lstOf_rep s h r
  exact ⟨a, vs, e, SqL.of hv, q⟩
end
section
variable {X : Cx} {G : Gs}
theorem ix_W : IxR X (rOf X.K G opIx) := by
  refine (ix_seq).imp ?_
  rintro x y H Q ⟨wx, wy, S, γ, w, rx, ry, s, h, k⟩
  unfold opIx at h
  split at h
  · rename_i z i
    cases rx with
    | str _ h1 h2 =>
    cases ry
    cases e : ixW z.length i with
    | none => rw [e] at h; cases h
    | some j =>
      rw [e] at h
      cases e2 : z[j]? with
      | none =>
        have h : z[j]?.map (fun c => W.str [c]) = some w := h
        rw [e2] at h
        cases h
      | some c =>
        have h : z[j]?.map (fun c => W.str [c]) = some w := h
        rw [e2] at h
        cases h
        refine .inr (.inr ⟨_, _, c, rfl, rfl, by simpa [Str.length] using h2, ?_, k _ γ H Ext.refl (.str [c] (fun d hd => ?_) (by rw [sizeLine_eq]; show 1 ≤ 16777216; decide)) s⟩)
        · unfold atI
          show (ixN z.length i).bind _ = _
          have e3 : ixN z.length i = some j := e
          rw [e3]
          exact e2
        · have : d = c := by simpa using hd
          rw [this]
          exact h1 c (List.mem_of_getElem? e2)
  · cases rx with
    | tup f q =>
    cases ry
    obtain ⟨v, hv, r⟩ := atW_rep q h
    exact .inr (.inl ⟨_, _, _, v, rfl, rfl, f.sq, hv, k v γ H Ext.refl r s⟩)
  · cases rx with
    | scr f q =>
    cases ry
    obtain ⟨v, hv, r⟩ := atW_rep q h
    exact .inl ⟨_, _, _, v, rfl, rfl, f.sq, hv, k v γ H Ext.refl r s⟩
  · cases e : lstOf S wx with
    | none => rw [e] at h; cases h
    | some xs =>
      rw [e] at h
      obtain ⟨a, vs, rfl, hs, q⟩ := lst_or s e rx
      cases ry
      obtain ⟨v, hv, r⟩ := atW_rep q h
      exact .inl ⟨_, _, _, v, rfl, rfl, hs, hv, k v γ H Ext.refl r s⟩
  · cases h
def rSlW (K : PySem.W.Frag) (G : Gs) : V → Option Int → Option Int → Hp → VK → Prop := fun x lo hi H Q => ∃ wx S γ w, Rep K G γ H wx x ∧ StoreOk K G γ H S ∧ opSl wx lo hi S = some w ∧
  ∀ v γ' H', Ext γ H γ' H' → Rep K G γ' H' w v → StoreOk K G γ' H' S → Q v H'
theorem cut_reps {K : PySem.W.Frag} {γ : Ga} {H : Hp} {xs : List W} {vs : List V} (q : Reps K G γ H xs vs) (lo hi : Option Int) : Reps K G γ H (cutW xs lo hi) (cutV vs lo hi) := by
  have e : cutV vs lo hi = (vs.drop (sIxW xs.length 0 lo)).take (sIxW xs.length xs.length hi - sIxW xs.length 0 lo) := by
    unfold cutV
    rw [← q.length]
    cases lo <;> cases hi <;> rfl
  rw [e]
  exact (q.drop _).take _
theorem sl_W : SlR X (rSlW X.K G) := by
  refine (SlR.or sl_str (SlR.or sl_tupA sl_list)).imp ?_
  rintro x lo hi H Q ⟨wx, S, γ, w, rx, s, h, k⟩
  unfold opSl at h
  split at h
  · rename_i z
    cases rx with
    | str _ h1 h2 =>
    cases h
    refine .inl ⟨_, rfl, by simpa [Str.length] using h2, ?_⟩
    have e : cutS ⟨z.toArray⟩ lo hi = ⟨(cutW z lo hi).toArray⟩ := by
      unfold cutS cutW
      simp only [Str.length, List.size_toArray]
      cases lo <;> cases hi <;> rfl
    rw [e]
    refine k _ γ H Ext.refl (.str _ (fun c hc => ?_) ?_) s
    · exact h1 c (List.mem_of_mem_drop (List.mem_of_mem_take hc))
    · unfold cutW
      rw [List.length_take, List.length_drop]
      omega
  · rename_i xs
    cases rx with
    | @tup a vs _ f q =>
    cases h
    refine .inr (.inl ⟨a, vs, rfl, f.sq, fun hw => ?_, fun _ p hp => ?_⟩)
    · have e : cutW xs lo hi = xs := by
        have z1 : sIxW xs.length 0 lo = 0 := by
          have := hw.1
          rw [← q.length] at this
          cases lo <;> exact this
        have z2 : sIxW xs.length xs.length hi = xs.length := by
          have := hw.2
          rw [← q.length] at this
          cases hi <;> exact this
        unfold cutW
        rw [z1, z2]
        simp
      rw [e] at k
      exact k _ γ H Ext.refl (.tup f q) s
    · have ex := Ext.upd (K := X.K) (G := G) s (o := .tup (cutV vs lo hi)) hp
      exact k _ γ _ ex (.tup (.inl ⟨.inl upd_same, s.fresh hp⟩) (cut_reps (q.mono ex) lo hi)) (s.upd hp)
  · cases rx with
    | @scr a vs xs f q =>
    cases h
    refine .inr (.inr ⟨a, vs, rfl, f.sq, fun p hp => ?_⟩)
    have ex := Ext.upd (K := X.K) (G := G) s (o := .lst (cutV vs lo hi)) hp
    exact k _ γ _ ex (.lst upd_same (s.fresh hp) (cut_reps (q.mono ex) lo hi)) (s.upd hp)
  · cases e : lstOf S wx with
    | none => rw [e] at h; cases h
    | some xs =>
      rw [e] at h
      cases h
      obtain ⟨a, vs, rfl, hs, q⟩ := lst_or s e rx
      refine .inr (.inr ⟨a, vs, rfl, hs, fun p hp => ?_⟩)
      have ex := Ext.upd (K := X.K) (G := G) s (o := .lst (cutV vs lo hi)) hp
      exact k _ γ _ ex (.lst upd_same (s.fresh hp) (cut_reps (q.mono ex) lo hi)) (s.upd hp)
variable {a b e : Expr} {es : List Expr} {f g : ME} {ga : MA} {pos p p2 p3 : Pos} {x : Str} {lo hi : Option Expr} {ml mh : MO} {o : OA}
theorem se_ix (ha : SE X G a f) (hb : SE X G b g) (hs : PlainIx b := by exact fun _ _ => rfl) : SE X G (.Subscript a b pos) (mBin opIx f g) := by
  refine ⟨fun Wi tk => (pe_ix (ix_W (G := G)) (ha.run Wi tk) (hb.run Wi tk) hs).imp ?_⟩
  rintro σ H Q ⟨η, S, γ, he, hs, q⟩
  exact ⟨η, S, γ, he, hs, (Post.seq q).imp fun x H1 ⟨wx, S1, γ1, e1, r1, s1, q1⟩ => ⟨η, S1, γ1, he.mono e1, s1, (Post.seq q1).imp fun y H2 ⟨wy, S2, γ2, e2, r2, s2, q2⟩ => rOf_of (r1.mono e2) r2 s2 q2⟩⟩
theorem _root_.L2.PO.imp {X : Cx} {e : Option Expr} {t t' : TO} (h : PO X e t) (i : ∀ σ H Q, t' σ H Q → t σ H Q) : PO X e t' := ⟨fun pins s σ H Q I q => h.run pins s σ H Q I (i _ _ _ q)⟩
theorem so_none : SO X G none moNone := by
  refine ⟨fun Wi tk => po_none.imp ?_⟩
  rintro σ H Q ⟨η, S, γ, he, hs, q⟩
  exact q _ γ H Ext.refl rfl hs
theorem so_some (ha : SE X G a f) : SO X G (some a) (moSome f) := by
  refine ⟨fun Wi tk => (po_some (ha.run Wi tk)).imp ?_⟩
  rintro σ H Q ⟨η, S, γ, he, hs, q⟩
  refine ⟨η, S, γ, he, hs, (Post.seq q).imp fun x H1 ⟨wx, S1, γ1, e1, r1, s1, q1⟩ => ?_⟩
  split at q1
  · cases r1
    exact ⟨_, rfl, q1 _ γ1 H1 Ext.refl rfl s1⟩
  · exact q1.elim
theorem se_sl (ha : SE X G a f) (hl : SO X G lo ml) (hh : SO X G hi mh) : SE X G (.Subscript a (.Slice lo hi none p2) pos) (mSl f ml mh) := by
  refine ⟨fun Wi tk => (pe_slice (sl_W (G := G)) (ha.run Wi tk) (hl.run Wi tk) (hh.run Wi tk)).imp ?_⟩
  rintro σ H Q ⟨η, S, γ, he, hs, q⟩
  refine ⟨η, S, γ, he, hs, (Post.seq q).imp fun x H1 ⟨wx, S1, γ1, e1, r1, s1, q1⟩ => ⟨η, S1, γ1, he.mono e1, s1, (Post.seq (rel := fun _ _ a b => a = b) q1).imp fun l H2 ⟨wl, S2, γ2, e2, r2, s2, q2⟩ => ⟨η, S2, γ2, (he.mono e1).mono e2, s2, (Post.seq (rel := fun _ _ a b => a = b) q2).imp fun u H3 ⟨wu, S3, γ3, e3, r3, s3, q3⟩ => ?_⟩⟩⟩
  cases r2
  cases r3
  cases e : opSl wx l u S3 with
  | none =>
    rw [e] at q3
    exact q3.elim
  | some w =>
    rw [e] at q3
    exact ⟨wx, S3, γ3, w, (r1.mono e2).mono e3, s3, e, fun v γ' H' ex r s' => q3 v γ' H' ex r s'⟩
/-! built-in functions -/
theorem se_bi {id : String} (hc : CallR X (.builtin id) (raOf X.K G o)) (hm : X.mg x = none) (ha : SA X G (e :: es) ga) (hv : bootBuiltins x = some (.builtin id) := by decide +kernel) (hg : Gl X x := by rfl) (hn : x ≠ "__name__" := by decide) (hdb : (x == ("__debug__" : Str)) = false := by decide)
    (he : starEach (e :: es) X.env = (false, eval e X.env) :: starEach es X.env := by rfl) (hpl : (backTo pos (starEach es X.env)).any (·.1) = false := by rfl) : SE X G (.Call (.Name x p) (e :: es) [] pos) (mBi o ga) := by
  refine ⟨fun Wi tk => (pe_callB hc hg hm hv (ha.run Wi tk) hn hdb he hpl).imp ?_⟩
  rintro σ H Q ⟨η, S, γ, he, hs, q⟩
  exact ⟨η, S, γ, he, hs, (Post.seq q).imp fun x H1 ⟨wx, S1, γ1, e1, r1, s1, q1⟩ => raOf_of r1 s1 q1⟩
theorem se_ty {T : String} (hc : CallR X (.type T) (raOf X.K G o)) (hm : X.mg x = none) (ha : SA X G (e :: es) ga) (hv : bootBuiltins x = some (.type T) := by decide +kernel) (hg : Gl X x := by rfl) (hn : x ≠ "__name__" := by decide) (hdb : (x == ("__debug__" : Str)) = false := by decide)
    (he : starEach (e :: es) X.env = (false, eval e X.env) :: starEach es X.env := by rfl) (hpl : (backTo pos (starEach es X.env)).any (·.1) = false := by rfl) : SE X G (.Call (.Name x p) (e :: es) [] pos) (mBi o ga) := by
  refine ⟨fun Wi tk => (pe_callTy hc hg hm hv (ha.run Wi tk) hn hdb he hpl).imp ?_⟩
  rintro σ H Q ⟨η, S, γ, he, hs, q⟩
  exact ⟨η, S, γ, he, hs, (Post.seq q).imp fun x H1 ⟨wx, S1, γ1, e1, r1, s1, q1⟩ => raOf_of r1 s1 q1⟩
theorem cr_len : CallR X (.builtin "len") (raOf X.K G baLen) := by
  refine call_len.imp ?_
  rintro xs H Q ⟨ws, S, γ, w, rs, s, h, k⟩
  unfold baLen at h
  split at h
  · rename_i z
    cases rs with
    | cons r t =>
    cases t
    cases r with
    | str _ h1 h2 =>
    cases h
    refine ⟨_, z.length, rfl, ⟨by simpa [Str.length] using h2, by simp [Str.length]⟩, k _ γ H Ext.refl (.int _) s⟩
  · cases rs with
    | cons r t =>
    cases t
    cases r with
    | tup f q =>
    cases h
    exact ⟨_, _, rfl, .inr ⟨_, f.sq, q.length⟩, k _ γ H Ext.refl (.int _) s⟩
  · cases rs with
    | cons r t =>
    cases t
    cases r with
    | scr f q =>
    cases h
    exact ⟨_, _, rfl, .inl ⟨_, f.sq, q.length⟩, k _ γ H Ext.refl (.int _) s⟩
  · rename_i x _ _ _
    cases rs with
    | cons r t =>
    cases t
    cases e : lstOf S x with
    | none => rw [e] at h; cases h
    | some ys =>
      rw [e] at h
      cases h
      obtain ⟨a, vs, rfl, hs, q⟩ := lst_or s e r
      exact ⟨_, _, rfl, .inl ⟨_, hs, q.length⟩, k _ γ H Ext.refl (.int _) s⟩
  · cases h
theorem cr_abs : CallR X (.builtin "abs") (raOf X.K G baAbs) := by
  refine call_abs.imp ?_
  rintro xs H Q ⟨ws, S, γ, w, rs, s, h, k⟩
  unfold baAbs at h
  split at h
  · cases rs with
    | cons r t =>
    cases t
    cases r
    cases h
    exact ⟨_, rfl, k _ γ H Ext.refl (.int _) s⟩
  · cases h
theorem cr_max2 (hc : X.calm = true) : CallR X (.builtin "max") (raOf X.K G baMax2) := by
  refine (call_max2 hc).imp ?_
  rintro xs H Q ⟨ws, S, γ, w, rs, s, h, k⟩
  unfold baMax2 at h
  split at h
  · cases rs with
    | cons r t =>
    cases t with
    | cons r' t =>
    cases t
    cases r
    cases r'
    cases h
    exact ⟨_, _, rfl, k _ γ H Ext.refl (.int _) s⟩
  · cases h
theorem cr_min2 (hc : X.calm = true) : CallR X (.builtin "min") (raOf X.K G baMin2) := by
  refine (call_min2 hc).imp ?_
  rintro xs H Q ⟨ws, S, γ, w, rs, s, h, k⟩
  unfold baMin2 at h
  split at h
  · cases rs with
    | cons r t =>
    cases t with
    | cons r' t =>
    cases t
    cases r
    cases r'
    cases h
    exact ⟨_, _, rfl, k _ γ H Ext.refl (.int _) s⟩
  · cases h
theorem cr_int : CallR X (.type "int") (raOf X.K G baInt) := by
  intro pins s σ H xs us Q I r0 q
  obtain ⟨ws, S, γ, w, rs, ss, h, k⟩ := q
  unfold baInt at h
  split at h
  · cases rs with
    | cons r t =>
    cases t
    cases r
    cases h
    exact call_int1 pins s σ H _ us Q I r0 (.inl ⟨_, rfl, k _ γ H Ext.refl (.int _) ss⟩)
  · cases rs with
    | cons r t =>
    cases t
    cases r
    cases h
    exact call_int1 pins s σ H _ us Q I r0 (.inr ⟨_, rfl, k _ γ H Ext.refl (.int _) ss⟩)
  · rename_i z
    cases rs with
    | cons r t =>
    cases t
    cases r
    split at h
    · rename_i hd
      cases h
      exact call_int_str pins s σ H _ us Q I r0 ⟨_, _, rfl, SX.int_S hd.1 hd.2.1 (by omega), (by show z.toArray.size ≤ 640; rw [List.size_toArray]; exact hd.2.2), k _ γ H Ext.refl (.int _) ss⟩
    · cases h
  · cases h
theorem divmodW {X : Cx} : CallR X (.builtin "divmod") (fun xs H Q => ∃ i j : Int, xs = [.int i, .int j] ∧ (0 < j ∧ j.natAbs.log2 < 9000) ∧ ∀ p, H p = none → Q (.ref p) (upd H p (.tup [.int (i / j), .int (i % j)]))) := by
  intro pins s σ H xs us Q I r h
  obtain ⟨i, j, rfl, ⟨h1, h2⟩, q⟩ := h
  obtain ⟨u, w', rfl, ⟨t, rfl⟩, ⟨t', rfl⟩⟩ := vals2 r
  refine divmod_int (by omega) ?_ (.inl (PyProof.noPylong_of_log2 h2))
  rw [Int.fdiv_eq_ediv_of_nonneg i (by omega), Int.fmod_eq_emod_of_nonneg i (by omega)]
  have ok : ObjOk X.prog X.w (upd H s.heap.objs.size (.tup [.int (i / j), .int (i % j)])) (s.heap.push { cls := .type "tuple", data := .seq #[.int (i / j) s.toks, .int (i % j) (s.toks + 1)] }) s.heap.objs.size (.tup [.int (i / j), .int (i % j)]) :=
    ⟨by show 2 ≤ sizeLine; rw [sizeLine_eq]; decide, [.int (i / j) s.toks, .int (i % j) (s.toks + 1)], .cons ⟨_, rfl⟩ (.cons ⟨_, rfl⟩ .nil), _, Heap.get?_push_size s.heap rfl, rfl, 0, rfl⟩
  exact ⟨.ref s.heap.objs.size, _, I.laid (fun b o e => Heap.get?_push_of_some _ e) (Nat.le_refl _) ok, rfl, q _ (I.hok.fresh (Nat.le_refl _))⟩
theorem cr_divmod : CallR X (.builtin "divmod") (raOf X.K G baDivmod) := by
  refine divmodW.imp ?_
  rintro xs H Q ⟨ws, S, γ, w, rs, s, h, k⟩
  unfold baDivmod at h
  split at h
  · cases rs with
    | cons r t =>
    cases t with
    | cons r' t =>
    cases t
    cases r
    cases r'
    split at h
    · rename_i i j hd
      cases h
      refine ⟨_, _, rfl, hd, fun p hp => ?_⟩
      have ex := Ext.upd (K := X.K) (G := G) s (o := .tup [.int (i / j), .int (i % j)]) hp
      exact k _ γ _ ex (.tup (.inl ⟨.inl upd_same, s.fresh hp⟩) (.cons (.int _) (.cons (.int _) .nil))) (s.upd hp)
    · cases h
  · cases h
theorem intsOf_reps {K : PySem.W.Frag} {γ : Ga} {H : Hp} : ∀ {xs : List W} {vs : List V} {ns : List Int}, Reps K G γ H xs vs → intsOf xs = some ns → vs = ns.map V.int
  | [], _, ns, .nil, h => by cases h; rfl
  | x :: xs, _, ns, .cons r t, h => by
    cases r with
    | int i =>
      have h : (intsOf xs).map (i :: ·) = some ns := h
      cases e : intsOf xs with
      | none => rw [e] at h; cases h
      | some ms =>
        rw [e] at h
        have h : some (i :: ms) = some ns := h
        cases h
        rw [intsOf_reps t e]
        rfl
    | _ => simp [intsOf] at h
theorem bls_reps {K : PySem.W.Frag} {γ : Ga} {H : Hp} : ∀ {xs : List W} {vs : List V} {ns : List Bool}, Reps K G γ H xs vs → bls xs = some ns → vs = ns.map V.bl
  | [], _, ns, .nil, h => by cases h; rfl
  | x :: xs, _, ns, .cons r t, h => by
    cases r with
    | bl i =>
      have h : (bls xs).map (i :: ·) = some ns := h
      cases e : bls xs with
      | none => rw [e] at h; cases h
      | some ms =>
        rw [e] at h
        have h : some (i :: ms) = some ns := h
        cases h
        rw [bls_reps t e]
        rfl
    | _ => simp [bls] at h
theorem strsOf_reps {K : PySem.W.Frag} {γ : Ga} {H : Hp} : ∀ {xs : List W} {vs : List V} {ns : List (List Nat)}, Reps K G γ H xs vs → strsOf xs = some ns → vs = (ns.map fun l => (⟨l.toArray⟩ : Str)).map V.str ∧ ∀ l ∈ ns, ∀ c ∈ l, c < 0x110000
  | [], _, ns, .nil, h => by cases h; exact ⟨rfl, fun l hl => by cases hl⟩
  | x :: xs, _, ns, .cons r t, h => by
    cases r with
    | str i h1 h2 =>
      have h : (strsOf xs).map (i :: ·) = some ns := h
      cases e : strsOf xs with
      | none => rw [e] at h; cases h
      | some ms =>
        rw [e] at h
        have h : some (i :: ms) = some ns := h
        cases h
        obtain ⟨e1, e2⟩ := strsOf_reps t e
        rw [e1]
        refine ⟨rfl, fun l hl => ?_⟩
        rcases List.mem_cons.mp hl with z | z
        · rw [z]; exact h1
        · exact e2 l z
    | _ => simp [strsOf] at h
theorem cr_sumW (hc : X.calm = true) : CallR X (.builtin "sum") (raOf X.K G baSum) := by
  refine (cr_sum hc).imp ?_
  rintro xs H Q ⟨ws, S, γ, w, rs, s, h, k⟩
  unfold baSum at h
  split at h
  · rename_i ys
    cases rs with
    | cons r t =>
    cases t
    cases e : intsOf ys with
    | none => rw [e] at h; cases h
    | some ns =>
      rw [e] at h
      cases h
      cases r with
      | @scr a vs _ f q =>
      have ev := intsOf_reps q e
      subst ev
      exact ⟨a, ns, rfl, f.sq, k _ γ H Ext.refl (.int _) s⟩
  · rename_i x _
    cases rs with
    | cons r t =>
    cases t
    cases e : lstOf S x with
    | none => rw [e] at h; cases h
    | some ys =>
      rw [e] at h
      cases e2 : intsOf ys with
      | none =>
        have h : (intsOf ys).map (fun ns => W.int ns.sum) = some w := h
        rw [e2] at h; cases h
      | some ns =>
        have h : (intsOf ys).map (fun ns => W.int ns.sum) = some w := h
        rw [e2] at h
        cases h
        obtain ⟨a, vs, rfl, hs, q⟩ := lst_or s e r
        have ev := intsOf_reps q e2
        subst ev
        exact ⟨a, ns, rfl, hs, k _ γ H Ext.refl (.int _) s⟩
  · cases h
theorem cr_allW (hc : X.calm = true) : CallR X (.builtin "all") (raOf X.K G baAll) := by
  refine (cr_all hc).imp ?_
  rintro xs H Q ⟨ws, S, γ, w, rs, s, h, k⟩
  unfold baAll at h
  split at h
  · rename_i x
    cases rs with
    | cons r t =>
    cases t
    cases e : lstOf S x with
    | none => rw [e] at h; cases h
    | some ys =>
      rw [e] at h
      cases e2 : bls ys with
      | none =>
        have h : (bls ys).map (fun bs => W.bl (bs.all id)) = some w := h
        rw [e2] at h; cases h
      | some ns =>
        have h : (bls ys).map (fun bs => W.bl (bs.all id)) = some w := h
        rw [e2] at h
        cases h
        obtain ⟨a, vs, rfl, hs, q⟩ := lst_or s e r
        have ev := bls_reps q e2
        subst ev
        exact ⟨a, ns, rfl, hs, k _ γ H Ext.refl (.bl _) s⟩
  · cases h
theorem cr_tupleW : CallR X (.type "tuple") (raOf X.K G baTuple) := by
  refine call_tuple_of.imp ?_
  rintro xs H Q ⟨ws, S, γ, w, rs, s, h, k⟩
  unfold baTuple at h
  split at h
  · cases rs with
    | cons r t =>
    cases t
    cases r with
    | tup f q =>
    cases h
    exact ⟨_, _, rfl, .inr ⟨f.sq, k _ γ H Ext.refl (.tup f q) s⟩⟩
  · rename_i x _
    cases rs with
    | cons r t =>
    cases t
    cases e : lstOf S x with
    | none => rw [e] at h; cases h
    | some ys =>
      rw [e] at h
      cases h
      obtain ⟨a, vs, rfl, hs, q⟩ := lst_or s e r
      refine ⟨a, vs, rfl, .inl ⟨hs, fun p hp => ?_⟩⟩
      have ex := Ext.upd (K := X.K) (G := G) s (o := .tup vs) hp
      exact k _ γ _ ex (.tup (.inl ⟨.inl upd_same, s.fresh hp⟩) (q.mono ex)) (s.upd hp)
  · cases h
/-! isinstance of a built-in type -/
def tyNm : Nat → String
  | 0 => "NoneType" | 1 => "bool" | 2 => "int" | 3 => "str" | 4 => "tuple" | 5 => "list" | _ => "dict"
theorem kind_kit {k c : Nat} (hk : k < 7) (hc : 1 ≤ c ∧ c < 7) : kitB (tyNm k) (tyNm c) = some (isKind k c) := by
  have all : ∀ k, k < 7 → ∀ c, c < 7 → 1 ≤ c → kitB (tyNm k) (tyNm c) = some (isKind k c) := by decide +kernel
  exact all k hk c hc.2 hc.1
theorem kind_ty {K : PySem.W.Frag} {γ : Ga} {H : Hp} {S : Store} {w : W} {v : V} {k : Nat} (s : StoreOk K G γ H S) (r : Rep K G γ H w v) (h : kindOf S w = some k) : k < 7 ∧ TyX K H v (.type (tyNm k)) := by
  cases r with
  | non => cases h; exact ⟨by decide, .base .non⟩
  | bl b => cases h; exact ⟨by decide, .base (.bl b)⟩
  | int i => cases h; exact ⟨by decide, .base (.int i)⟩
  | str l _ _ => cases h; exact ⟨by decide, .base (.str _)⟩
  | tup f q =>
    cases h
    refine ⟨by decide, ?_⟩
    rcases f with ⟨f | ⟨o, f⟩, _⟩ | ⟨o, its, n, hl, hc, _⟩
    · exact .base (.tup f)
    · exact .fTuple f
    · exact .kTuple hl hc
  | lst f _ q => cases h; exact ⟨by decide, .base (.lst f)⟩
  | scr f q =>
    cases h
    rcases f with ⟨⟨o, f⟩, _⟩ | ⟨o, its, n, hl, hc, _⟩
    · exact ⟨by decide, .base (.frz f)⟩
    · exact ⟨by decide, .kList hl hc⟩
  | @ref i a ha =>
    have h' : (match S[i]? with
      | some (.lst _) => some 5
      | some (.dct _ _) => some 6
      | _ => none) = some k := h
    split at h'
    · rename_i xs hc
      cases h'
      obtain ⟨_, vs, hv, _⟩ := s.cell i _ a hc ha
      exact ⟨by decide, .base (.lst hv)⟩
    · rename_i ks vs hc
      obtain ⟨_, _, us, d, _⟩ := s.cell i _ a hc ha
      cases h'
      rcases d with ⟨_, d, _⟩ | ⟨_, d, _⟩
      · exact ⟨by decide, .base (.dK d)⟩
      · exact ⟨by decide, .base (.dT d)⟩
    · cases h'
  | exc h1 f r => cases h
  | fn f => cases h
  | dct d f q =>
    cases h
    rcases d with ⟨_, d, _⟩ | ⟨_, d, _⟩
    · exact ⟨by decide, .base (.dK d)⟩
    · exact ⟨by decide, .base (.dT d)⟩
theorem se_isi (c : Nat) (hm : X.mg "isinstance" = none) (hmt : X.mg x = none) (ha : SE X G a f) (hv : bootBuiltins x = some (.type (tyNm c)) := by decide +kernel) (hc : 1 ≤ c ∧ c < 7 := by decide)
    (hg : Gl X "isinstance" := by rfl) (hgt : Gl X x := by rfl) (hn : x ≠ "__name__" := by decide) (hdb : (x == ("__debug__" : Str)) = false := by decide)
    (h1 : starEach (a :: [.Name x p2]) X.env = (false, eval a X.env) :: starEach [.Name x p2] X.env := by rfl) (h2 : starEach [.Name x p2] X.env = (false, eval (.Name x p2) X.env) :: starEach [] X.env := by rfl)
    (hpl : (backTo pos (starEach [.Name x p2] X.env)).any (·.1) = false := by rfl) : SE X G (.Call (.Name "isinstance" p) [a, .Name x p2] [] pos) (mUn (opIsi c) f) := by
  refine ⟨fun Wi tk => (pe_callB call_isi hg hm (by decide +kernel) (pa_cons (ha.run Wi tk) (pa_cons (pe_bltn (v := .ty (tyNm c)) hgt hmt hv rfl hn hdb) pa_nil h2) h1) (by decide) (by decide) h1 hpl).imp ?_⟩
  rintro σ H Q ⟨η, S, γ, he, hs, q⟩
  refine ⟨η, S, γ, he, hs, (Post.seq q).imp fun x H1 ⟨wx, S1, γ1, e1, r1, s1, q1⟩ => ?_⟩
  unfold opIsi at q1
  cases e : kindOf S1 wx with
  | none =>
    rw [e] at q1
    exact q1.elim
  | some k =>
    rw [e] at q1
    obtain ⟨k7, ty⟩ := kind_ty s1 r1 e
    exact ⟨x, .ty (tyNm c), _, _, _, rfl, .ty _, ty, kit_ty (kind_kit k7 hc), q1 _ γ1 H1 Ext.refl (.bl _) s1⟩
/-! texts joined -/
theorem join_W {a : List Nat} : ∀ {zs : List (List Nat)}, Txt.join ⟨a.toArray⟩ (zs.map fun l => (⟨l.toArray⟩ : Str)) = ⟨(joinW a zs).toArray⟩ := by
  intro zs
  rw [TL.join_eq]
  induction zs with
  | nil => rfl
  | cons z zs ih =>
    cases zs with
    | nil => rfl
    | cons y zs =>
      show (⟨z.toArray⟩ : Str) ++ ⟨a.toArray⟩ ++ Str.join ⟨a.toArray⟩ (List.map (fun l => (⟨l.toArray⟩ : Str)) (y :: zs)) = _
      rw [ih]
      show Str.mk ((z.toArray ++ a.toArray) ++ (joinW a (y :: zs)).toArray) = _
      simp [joinW]
theorem joinW_mem {a : List Nat} {c : Nat} : ∀ {zs : List (List Nat)}, c ∈ joinW a zs → c ∈ a ∨ ∃ z ∈ zs, c ∈ z
  | [], h => by cases h
  | [z], h => .inr ⟨z, List.mem_singleton.mpr rfl, h⟩
  | z :: y :: zs, h => by
    unfold joinW at h
    rcases List.mem_append.mp h with h | h
    · rcases List.mem_append.mp h with h | h
      · exact .inr ⟨z, List.mem_cons_self .., h⟩
      · exact .inl h
    · rcases joinW_mem h with h | ⟨u, hu, h⟩
      · exact .inl h
      · exact .inr ⟨u, List.mem_cons_of_mem _ hu, h⟩
theorem joinW_len {a : List Nat} : ∀ {zs : List (List Nat)}, (joinW a zs).length ≤ (zs.map (·.length)).sum + zs.length * a.length
  | [] => Nat.zero_le _
  | [z] => by simp [joinW]
  | z :: y :: zs => by
    have ih := joinW_len (a := a) (zs := y :: zs)
    unfold joinW
    simp only [List.length_append, List.map_cons, List.sum_cons, List.length_cons] at ih ⊢
    rw [Nat.add_mul] at ih ⊢
    rw [Nat.add_mul]
    omega
def mJoin (f g : ME) : ME := fun η S => (f η S).bind fun x S1 => match x with
  | .str a => (g η S1).bind fun y S2 => rOpt (opJoin (.str a) y S2) S2
  | _ => .stuck
theorem se_join (ha : SE X G a f) (hb : SE X G b g) (hs1 : starEach [b] X.env = [(false, eval b X.env)] := by rfl) (hbase : attributeBase a "join" X.env (eval a X.env) = eval a X.env := by rfl) (hline : (p.endLine == pos.line) = true := by rfl) :
    SE X G (.Call (.Attribute a "join" p) [b] [] pos) (mJoin f g) := by
  refine ⟨fun Wi tk => (pe_join (ha.run Wi tk) (hb.run Wi tk) hs1 hbase hline).imp ?_⟩
  rintro σ H Q ⟨η, S, γ, he, hs, q⟩
  refine ⟨η, S, γ, he, hs, (Post.seq q).imp fun x H1 ⟨wx, S1, γ1, e1, r1, s1, q1⟩ => ?_⟩
  split at q1
  · rename_i l
    cases r1 with
    | str _ a1 a2 =>
    refine ⟨⟨_, rfl⟩, η, S1, γ1, he.mono e1, s1, (Post.seq q1).imp fun y H2 ⟨wy, S2, γ2, e2, r2, s2, q2⟩ => ?_⟩
    unfold opJoin at q2
    cases es : seqOf S2 wy with
    | none =>
      simp only [es] at q2
      exact q2.elim
    | some ys =>
      simp only [es] at q2
      replace q2 : Post X.K G (Rep X.K G) (fun c d H' => Wi c d σ H') γ2 H2 (rOpt ((strsOf ys).bind fun zs => if (zs.map (·.length)).sum + zs.length * l.length ≤ bigLine then some (.str (joinW l zs)) else none) S2) Q := q2
      cases ez : strsOf ys with
      | none =>
        rw [ez] at q2
        exact q2.elim
      | some zs =>
        rw [ez] at q2
        replace q2 : Post X.K G (Rep X.K G) (fun c d H' => Wi c d σ H') γ2 H2 (rOpt (if (zs.map (·.length)).sum + zs.length * l.length ≤ bigLine then some (.str (joinW l zs)) else none) S2) Q := q2
        by_cases hl : (zs.map (·.length)).sum + zs.length * l.length ≤ bigLine
        · rw [if_pos hl] at q2
          have key : ∃ p vs, y = .ref p ∧ (SqL X.K H2 p vs ∨ SqT X.K H2 p vs) ∧ Reps X.K G γ2 H2 ys vs := by
            cases r2 with
            | tup fr q =>
              cases es
              exact ⟨_, _, rfl, .inr fr.sq, q⟩
            | lst h1 o1 q =>
              have es : lstOf S2 (W.lst _) = some ys := es
              obtain ⟨p, vs, e, hv, q⟩ := lst_or s2 es (.lst h1 o1 q)
              exact ⟨p, vs, e, .inl hv, q⟩
            | @ref i ad h1 =>
              have es : lstOf S2 (W.ref i) = some ys := es
              obtain ⟨p, vs, e, hv, q⟩ := lst_or s2 es (.ref h1)
              exact ⟨p, vs, e, .inl hv, q⟩
            | _ => cases es
          obtain ⟨p, vs, rfl, hsq, qr⟩ := key
          obtain ⟨ev, hc⟩ := strsOf_reps qr ez
          subst ev
          refine ⟨⟨l.toArray⟩, p, zs.map fun l => (⟨l.toArray⟩ : Str), rfl, rfl, hsq, ?_, ?_⟩
          · have e1 : ((zs.map fun l => (⟨l.toArray⟩ : Str)).map (·.length)) = zs.map (·.length) := by
              rw [List.map_map]
              exact List.map_congr_left fun l _ => by simp [Str.length]
            rw [e1, List.length_map]
            have e2 : (⟨l.toArray⟩ : Str).length = l.length := by simp [Str.length]
            rw [e2]
            exact hl
          · rw [join_W]
            refine q2 _ γ2 H2 Ext.refl (.str _ (fun c hc' => ?_) ?_) s2
            · rcases joinW_mem hc' with z | ⟨u, hu, z⟩
              · exact a1 c z
              · exact hc u hu c z
            · have := joinW_len (a := l) (zs := zs)
              rw [← bigLine_eq]
              omega
        · rw [if_neg hl] at q2
          exact q2.elim
  · exact q1.elim
/-! in, not in -/
theorem flat_rep {K : PySem.W.Frag} {γ : Ga} {H : Hp} {w : W} {v : V} (r : Rep K G γ H w v) (f : flat w = true) : flatV v = true := by
  cases r <;> first | rfl | cases f
theorem flats_rep {K : PySem.W.Frag} {γ : Ga} {H : Hp} : ∀ {ws : List W} {vs : List V}, Reps K G γ H ws vs → ws.all flat = true → vs.all flatV = true
  | _, _, .nil, _ => rfl
  | _, _, .cons r t, h => by
    rw [List.all_cons, Bool.and_eq_true] at h ⊢
    exact ⟨flat_rep r h.1, flats_rep t h.2⟩
theorem eqV_rep {K : PySem.W.Frag} {γ : Ga} {H : Hp} {w u : W} {v x : V} (r : Rep K G γ H w v) (q : Rep K G γ H u x) (f : flat w = true) (g : flat u = true) : eqV v x = eqW w u := by
  cases r with
  | str _ _ _ =>
    cases q with
    | str _ _ _ => unfold eqV eqW; exact str_beqW _ _
    | _ => first | (simp [eqV, eqW]; done) | cases g
  | non => cases q <;> first | (simp [eqV, eqW]; done) | cases g
  | bl _ => cases q <;> first | (simp [eqV, eqW]; done) | cases g
  | int _ => cases q <;> first | (simp [eqV, eqW]; done) | cases g
  | _ => cases f
theorem inV_rep {K : PySem.W.Frag} {γ : Ga} {H : Hp} {u : W} {x : V} (q : Rep K G γ H u x) (g : flat u = true) : ∀ {ws : List W} {vs : List V}, Reps K G γ H ws vs → ws.all flat = true → inV x vs = inW u ws
  | _, _, .nil, _ => rfl
  | _, _, .cons r t, h => by
    rw [List.all_cons, Bool.and_eq_true] at h
    have ih := inV_rep q g t h.2
    unfold inV inW at ih ⊢
    rw [List.any_cons, List.any_cons, ih, eqV_rep r q h.1 g]
theorem toDs_map : ∀ xs : List W, toDs xs = xs.map toD
  | [] => rfl
  | x :: xs => by unfold toDs; rw [toDs_map xs]; rfl
theorem shaped_of {d : PyData} {n : Nat} (h1 : d.canLay0 = true) (h2 : d.depth ≤ n) (h3 : n ≤ 64) : SeqAt.shaped d = true := by
  unfold SeqAt.shaped
  rw [h1, decide_eq_true (show d.depth ≤ 64 by omega)]
  rfl
theorem in_core {neg : Bool} {f : Value → Value → Sem Value} (h1 : OpR X f (fun x y H Q => ∃ (c : Nat) (z : Str), x = .str ⟨#[c]⟩ ∧ y = .str z ∧ Q (.bl (if neg then !decide (c ∈ z.cps.toList) else decide (c ∈ z.cps.toList))) H))
    (h2 : OpR X f (rIn X.K neg)) (h3 : OpR X f (fun x y H Q => ∃ d ds, Dp X.K H x d ∧ Dp X.K H y (.list ds) ∧ SeqAt.shaped d = true ∧ SeqAt.shaped (.list ds) = true ∧ Q (.bl (if neg then !ds.any fun z => PyData.eqv z d else ds.any fun z => PyData.eqv z d)) H)) :
    OpR X f (fun x y H Q => ∃ wx wy S γ b, Rep X.K G γ H wx x ∧ Rep X.K G γ H wy y ∧ StoreOk X.K G γ H S ∧ opIn wx wy S = some (.bl b) ∧ Q (.bl (if neg then !b else b)) H) := by
  refine (OpR.or h1 (OpR.or h2 h3)).imp ?_
  rintro x y H Q ⟨wx, wy, S, γ, b, rx, ry, s, h, k⟩
  unfold opIn at h
  split at h
  · rename_i c z
    cases rx
    cases ry
    cases h
    exact .inl ⟨c, _, rfl, rfl, k⟩
  · cases es : seqOf S wy with
    | none => simp only [es] at h; cases h
    | some ys =>
      simp only [es] at h
      have key : ∃ p vs, y = .ref p ∧ (SqL X.K H p vs ∨ SqT X.K H p vs) ∧ Reps X.K G γ H ys vs := by
        cases ry with
        | tup fr q =>
          cases es
          exact ⟨_, _, rfl, .inr fr.sq, q⟩
        | lst h1 o1 q =>
          have es : lstOf S (W.lst _) = some ys := es
          obtain ⟨p, vs, e, hv, q⟩ := lst_or s es (.lst h1 o1 q)
          exact ⟨p, vs, e, .inl hv, q⟩
        | @ref i ad h1 =>
          have es : lstOf S (W.ref i) = some ys := es
          obtain ⟨p, vs, e, hv, q⟩ := lst_or s es (.ref h1)
          exact ⟨p, vs, e, .inl hv, q⟩
        | _ => cases es
      split at h
      · rename_i hf
        cases h
        obtain ⟨p, vs, rfl, hsq, qr⟩ := key
        refine .inr (.inl ⟨p, vs, rfl, hsq, flat_rep rx hf.1, flats_rep qr hf.2, ?_⟩)
        rw [inV_rep rx hf.1 qr hf.2]
        exact k
      · cases el : lstOf S wy with
        | none => simp only [el] at h; cases h
        | some zs =>
          simp only [el] at h
          split at h
          · rename_i hd
            cases h
            obtain ⟨a, vs, rfl, hv, q⟩ := lstOf_rep s el ry
            obtain ⟨l1, l2⟩ := lay_of wx x 30 hd.1 rx
            obtain ⟨m1, m2⟩ := lays_of zs vs 29 hd.2 q
            refine .inr (.inr ⟨toD wx, toDs zs, dp_of wx x 30 hd.1 rx, .lst (SqL.of hv) (dps_of zs _ 29 hd.2 q), shaped_of l1 l2 (by decide), shaped_of (n := 30) (by simp only [PyData.canLay0]; exact m1) (by simp only [PyData.depth]; omega) (by decide), ?_⟩)
            have e : ((toDs zs).any fun z => PyData.eqv z (toD wx)) = inW wx zs := by
              unfold inW
              rw [toDs_map, List.any_map]
              have hz : ∀ z ∈ zs, okD z 29 = true := by
                have : ∀ (l : List W), okDs l 29 = true → ∀ z ∈ l, okD z 29 = true := by
                  intro l
                  induction l with
                  | nil => intro _ z hz; cases hz
                  | cons y l ih =>
                    intro h z hz
                    unfold okDs at h
                    obtain ⟨a1, a2⟩ := Bool.and_eq_true_iff.mp h
                    rcases List.mem_cons.mp hz with e | e
                    · rw [e]; exact a1
                    · exact ih a2 z e
                exact this zs hd.2
              clear m1 m2 q hv
              have : ∀ (l : List W), (∀ z ∈ l, okD z 29 = true) → l.any ((fun z => PyData.eqv z (toD wx)) ∘ toD) = l.any fun y => eqW y wx := by
                intro l
                induction l with
                | nil => intro _; rfl
                | cons y l ih =>
                  intro h
                  rw [List.any_cons, List.any_cons, ih fun z hz => h z (List.mem_cons_of_mem _ hz)]
                  show (PyData.eqv (toD y) (toD wx) || _) = _
                  rw [eqv_of y wx _ _ (h y (List.mem_cons_self ..)) hd.1]
              exact this zs hz
            rw [e]
            exact k
          · cases h
theorem opIn_bl {x y w : W} {S : Store} (h : opIn x y S = some w) : ∃ b, w = .bl b := by
  unfold opIn at h
  repeat' split at h
  all_goals first | (cases h; exact ⟨_, rfl⟩) | cases h
theorem o2_in (hu : X.A.units + 65 < cLine) : OpR X (compareOp .In) (rOf X.K G opIn) := by
  refine (in_core (G := G) (neg := false) op_in_sign op_in_seq (op_inD hu)).imp ?_
  rintro x y H Q ⟨wx, wy, S, γ, w, rx, ry, s, h, k⟩
  obtain ⟨b, rfl⟩ := opIn_bl h
  exact ⟨wx, wy, S, γ, b, rx, ry, s, h, k _ γ H Ext.refl (.bl _) s⟩
theorem o2_notIn (hu : X.A.units + 65 < cLine) : OpR X (compareOp .NotIn) (rOf X.K G opNotIn) := by
  refine (in_core (G := G) (neg := true) op_notIn_sign op_notIn_seq (op_notInD hu)).imp ?_
  rintro x y H Q ⟨wx, wy, S, γ, w, rx, ry, s, h, k⟩
  unfold opNotIn at h
  cases e : opIn wx wy S with
  | none => rw [e] at h; cases h
  | some z =>
    rw [e] at h
    obtain ⟨b, rfl⟩ := opIn_bl e
    cases h
    exact ⟨wx, wy, S, γ, b, rx, ry, s, e, k _ γ H Ext.refl (.bl _) s⟩
/-- a new list of the store -/
def mLstS (g : MA) : ME := fun η S => (g η S).bind fun xs S1 => if pures xs = true then sized xs.length (.ok (.ref S1.length) (S1 ++ [.lst xs])) else .stuck
theorem se_lstS (h : SA X G es ga) : SE X G (.List es pos) (mLstS ga) := by
  refine ⟨fun Wi tk => (pe_lst (h.run Wi tk)).imp ?_⟩
  rintro σ H Q ⟨η, S, γ, he, hs, q⟩
  refine ⟨η, S, γ, he, hs, (Post.seq q).imp fun x H1 ⟨wx, S1, γ1, e1, r1, s1, q1⟩ => ?_⟩
  split at q1
  · rename_i pw
    obtain ⟨hl, q1⟩ := sized_post q1
    refine ⟨by rw [← r1.length]; exact hl, fun p hp => ?_⟩
    have ex := Ext.push (K := X.K) (G := G) s1 (o := .lst x) hp
    refine q1 _ (γ1.push p) _ ex (.ref ?_) (s1.push hp pw r1)
    show (γ1.ρ ++ [p])[S1.length]? = some p
    rw [← s1.len, List.getElem?_append_right (Nat.le_refl _), Nat.sub_self]
    rfl
  · exact q1.elim
/-- how many values a row of targets takes -/
def GLen (gs : MGs) (n : Nat) : Prop := ∀ ws η S r, gs ws η S = some r → ws.length = n
theorem glen_nil : GLen gsNil 0 := fun ws η S r h => by
  cases ws with
  | nil => rfl
  | cons _ _ => cases h
theorem glen_cons {g : MG} {gs : MGs} {n : Nat} (h : GLen gs n) : GLen (gsCons g gs) (n + 1) := fun ws η S r e => by
  cases ws with
  | nil => cases e
  | cons w ws =>
    have e : (g w η S).bind (fun (η1, S1) => gs ws η1 S1) = some r := e
    cases eg : g w η S with
    | none => rw [eg] at e; cases e
    | some p =>
      rw [eg] at e
      rw [List.length_cons, h _ _ _ _ e]
end
end Mp
set_option Elab.async false
set_option linter.all false
set_option maxRecDepth 100000
set_option maxHeartbeats 4000000
/-! Mp: the program's functions, to a depth; the law's end. -/
namespace Mp
open PySem PySem.Spec PyProof.Rows L2
section
variable {P : Program} {w : World} {K : PySem.W.Frag} {mg : Str → Option Value} {base : Heap} {G : Gs} {T : List Mp.Fun} {D : List FnR} {d f : Nat} {r : FnR} {fd : FuncData}
theorem ft_zero (hgl : mg r.x = some (.ref (G.fa f))) (F : FunD K r.x r.x (defArgs r.st) (defBody r.st) (defScope r.st) [] [] (G.fa f) fd) (b : Binds K fd r.ps []) : FT P w K mg base G 0 (fns T 0 f) f r fd where
  ok := ⟨fun vs H Q E h => h.1, fun A outer s H args us vs Q E hr he hb hv h => by
    obtain ⟨_, ws, S, γ, _, _, q⟩ := h
    exact q.elim⟩
  gl := hgl
  F := F
  b := b
  len := fun ws S h => absurd rfl h
theorem getElem?_start {N : List Str} {vs : List V} {i : Nat} {v : V} (h : vs[i]? = some v) : (L2.start N vs)[i]? = some (some v) := by
  unfold L2.start
  have hi : i < vs.length := (List.getElem?_eq_some_iff.mp h).1
  rw [List.getElem?_append_left (by rw [List.length_map]; exact hi), List.getElem?_map, h]
  rfl
theorem env_start {N : List Str} {γ : Ga} {H : Hp} {ws : List W} {vs : List V} {np nv : Nat} (q : Reps K G γ H ws vs) (h1 : ws.length = np) (h2 : nv = N.length) : EnvOk K G γ H (ws.map some ++ List.replicate (nv - np) none) (L2.start N vs) := by
  have hl := q.length
  refine ⟨by unfold L2.start; rw [List.length_append, List.length_append, List.length_map, List.length_map, List.length_replicate, List.length_replicate, ← hl, h1, h2], fun i w hi => ?_⟩
  by_cases lt : i < ws.length
  · rw [List.getElem?_append_left (by rw [List.length_map]; exact lt), List.getElem?_map] at hi
    cases e : ws[i]? with
    | none => rw [e] at hi; cases hi
    | some u =>
      rw [e] at hi
      cases hi
      obtain ⟨v, hv, r⟩ := q.get e
      exact ⟨v, getElem?_start hv, r⟩
  · rw [List.getElem?_append_right (by rw [List.length_map]; omega)] at hi
    have := (List.getElem?_eq_some_iff.mp hi).2
    rw [List.getElem_replicate] at this
    cases this
theorem cfg_of {N ps : List Str} {scope : Scope} {qual : Str} {cdv : Value} {A : Around} {outer : List PySem.Env} {s : Shared} {H : Hp} {E : XK} {fa : Addr} (S : FnScope N ps scope) (hr : Room d (A.deeper (envOfC qual scope s.heap.objs.size fa cdv))) : Cfg (cxOf (L2.CX P w) P w K mg base N qual scope fa cdv A outer s H E) :=
  ⟨rfl, S.nd, passes_of (K := fun e s'' => L2.CX P w outer H s E e s'') rfl, by
    have := hr.un
    show (A.deeper _).units + 100 < cLine
    omega⟩
theorem fn_step {F : Mp.Fun} {N : List Str} (h : FT P w K mg base G d (fns T d f) f r fd) (hT : T[f]? = some F) (hnp : F.np = r.ps.length) (hnv : F.nv = N.length) (S : FnScope N r.ps (defScope r.st))
    (hbody : ∀ (cdv : Value) (A : Around) (outer : List PySem.Env) (s : Shared) (H : Hp) (E : XK), Cfg (cxOf (L2.CX P w) P w K mg base N r.x (defScope r.st) (G.fa f) cdv A outer s H E) → Room (d + 2) (A.deeper (envOfC r.x (defScope r.st) s.heap.objs.size (G.fa f) cdv)) →
      SSs (cxOf (L2.CX P w) P w K mg base N r.x (defScope r.st) (G.fa f) cdv A outer s H E) G (defBody r.st) (F.body (fns T d))) : FT P w K mg base G (d + 1) (fns T (d + 1) f) f r fd where
  ok := by
    refine h.F.ok S (fun vs H Q E q => q.1) fun cdv A outer s H vs Q E hr q => ?_
    obtain ⟨hl, ws, S0, γ, rs, ss, q⟩ := q
    refine ⟨tsOf K G (fun c dd _ H' => E c dd H') (F.body (fns T d)), (hbody cdv A outer s H E (cfg_of S hr) hr).run _ (takes_of rfl rfl rfl rfl), ?_⟩
    have q : Post K G (Rep K G) E γ H (match T[f]? with
      | some F => runF F (fns T d) ws S0
      | none => .stuck) Q := q
    rw [hT] at q
    have q : Post K G (Rep K G) E γ H (if ws.length = F.np then (if F.fr = true then (if pures ws = true then (finS false 0 (F.body (fns T d) (ws.map some ++ List.replicate (F.nv - F.np) none) [])).frame S0 else .stuck) else finS F.keep S0.length (F.body (fns T d) (ws.map some ++ List.replicate (F.nv - F.np) none) S0)) else .stuck) Q := q
    split at q
    · rename_i hw
      split at q
      · split at q
        · rename_i pw
          exact ⟨_, [], γ.hid, env_start (reps_hid pw rs) hw hnv, store_hid ss, fin_ok (keep := false) (fun _ _ _ _ z => z) (store_hid ss) (frame_post ss q)⟩
        · exact q.elim
      · exact ⟨_, S0, γ, env_start rs hw hnv, ss, fin_ok (fun _ _ _ _ z => z) ss q⟩
    · exact q.elim
  gl := h.gl
  F := h.F
  b := h.b
  len := fun ws S0 q => by
    have q : (match T[f]? with
      | some F => runF F (fns T d) ws S0
      | none => .stuck) ≠ R.stuck := q
    rw [hT] at q
    have q : (if ws.length = F.np then (if F.fr = true then (if pures ws = true then (finS false 0 (F.body (fns T d) (ws.map some ++ List.replicate (F.nv - F.np) none) [])).frame S0 else .stuck) else finS F.keep S0.length (F.body (fns T d) (ws.map some ++ List.replicate (F.nv - F.np) none) S0)) else .stuck) ≠ R.stuck := q
    split at q
    · rename_i hw
      rw [hw, hnp]
    · exact absurd rfl q
/-- what a called def lets out where nothing is wished -/
theorem noexc_fn {k : Nat} {fa : Addr} {ps : List Str} {sp : Sp} (F : FnOk P w K mg base (L2.CX P w) k fa fd ps sp) : FnOk P w K mg base CX0 k fa fd ps (fun vs H Q _ => sp vs H Q fun _ _ _ => False) :=
  ⟨fun vs H Q E h => F.len vs H Q _ h, fun A outer s H args us vs Q E hr he hb hv h => codeAny_mono (F.run A outer s H args us vs Q _ hr he hb hv h) fun r s' z => by
    cases r with
    | ok fl => cases fl <;> exact z
    | error e =>
      obtain ⟨_, _, _, _, _, _, _, _, _, _, _, _, z⟩ := z
      exact z.elim⟩
theorem reps_ints {γ : Ga} {H : Hp} : ∀ ns : List Int, Reps K G γ H (ns.map W.int) (ns.map V.int)
  | [] => .nil
  | n :: ns => .cons (.int n) (reps_ints ns)
/-- the law's promise at the script -/
theorem law_sp {a : Addr} {ns : List Int} {H : Hp} {φ : List W → Store → R W} (ho : Only H) (hs : SqL K H a (ns.map V.int)) (h : ∃ S, φ [.scr (ns.map .int)] [] = .ok (.bl true) S) : spF K G 1 φ [.ref a] H (fun v _ => v = .bl true) fun _ _ _ => False := by
  obtain ⟨S, h⟩ := h
  refine ⟨rfl, [.scr (ns.map .int)], [], ⟨[], []⟩, .one (.scr ?_ (reps_ints ns)), ⟨rfl, List.nodup_nil, fun i c a hc _ => (by simp at hc), fun a ha => (by simp at ha)⟩, ?_⟩
  · rcases hs with (hs | ⟨o, hs⟩) | hs
    · rcases ho a with z | ⟨o, xs, z⟩
      · rw [z] at hs; cases hs
      · rw [z] at hs; cases hs
    · exact .inl ⟨⟨o, hs⟩, by simp, by simp⟩
    · exact .inr hs
  · rw [h]
    intro v γ' H' _ r _
    cases r
    rfl
end
/-! the head's facts -/
theorem obM_eq {n : Nat} {fa : List He.Fa} {fn : List He.DefD} {ex : PySem.W.Frag → Bool} {g : Addr → Option Obj} {s : Shared} (h : ∀ a, g a = s.heap.get? a) : obM n fa fn ex g = (hookM n fa fn ex).obs s := by
  have e : g = s.heap.get? := funext h
  rw [e] <;> rfl
/-- a name that the module binds to a built-in -/
def bltB (K : PySem.W.Frag) (x : Str) (id : String) : Bool := He.eqO (PySem.W.nsIn K mainGlobals x) (some (some (.builtin id)))
end Mp
namespace Mp
open PySem PySem.Spec PyProof.Rows L2
section
variable {P : Program} {w : World} {K : PySem.W.Frag} {mg : Str → Option Value} {base : Heap} {G : Gs} {φ : List W → Store → R W} {d f : Nat} {r : FnR}
end
def MaLen (g : MA) (n : Nat) : Prop := ∀ η S ws S', g η S = .ok ws S' → ws.length = n
end Mp
namespace Mp
open PySem PySem.Spec PyProof.Rows L2
theorem same_fd {K : PySem.W.Frag} {x q x' q' : Str} {pa pa' : Arguments} {bo bo' : List Stmt} {sc sc' : Scope} {dv dv' : List V} {kw kw' : List (Str × V)} {f : Addr} {fd fd' : FuncData} (F : FunD K x q pa bo sc dv kw f fd) (F' : FunD K x' q' pa' bo' sc' dv' kw' f fd') : fd' = fd := by
  obtain ⟨oc, od, dV, kV, doc, pm, an, cdv, ct, osl, e1, lk, _⟩ := F.ex
  obtain ⟨oc', od', dV', kV', doc', pm', an', cdv', ct', osl', e1', lk', _⟩ := F'.ex
  rw [lk] at lk'
  cases lk'
  rfl
end Mp
set_option Elab.async false
set_option linter.all false
set_option maxRecDepth 100000
set_option maxHeartbeats 4000000
/-! Mp: pure laws: runs of the law's draws. -/
namespace Mp
def wellB (φ : Fns) : MS := sSeq (sSet 2 (mIf (mTCmp opLt (mVar 1) (mBi baLen (maCons (mVar 0) (maNil)))) (mBi baInt (maCons (mBin opIx (mVar 0) (mVar 1)) (maNil))) (mBin opAdd (mBin opAdd (mBin opMul (mC (.int 7919)) (mVar 1)) (mBin opMod (mBi baInt (maCons (mBi baSum (maCons (mSl (mVar 0) (moNone) (moSome (mC (.int 3)))) (maNil))) (maNil))) (mC (.int 1000003)))) (mC (.int 29))))) (sSeq (sSet 3 (mBin opAdd (mC (.int 40127)) (mBin opMul (mC (.int 977)) (mVar 1)))) (sSeq (sFor (miSeq (mBin opAdd (mSl (mVar 0) (moNone) (moSome (mC (.int 6)))) (mLst (maCons (mVar 2) (maNil))))) (gVar 4) (sSet 3 (mBin opMod (mBi baInt (maCons (mBin opAdd (mBin opAdd (mBin opMul (mVar 3) (mC (.int 48271))) (mBin opMod (mBi baInt (maCons (mVar 4) (maNil))) (mC (.int 2147483399)))) (mC (.int 53))) (maNil))) (mC (.int 2147483563))))) (sRet (mLstS (maCons (mIf (mTOr (mTCmp opLt (mVar 2) (mC (.int 0))) (mTCmp opGe (mVar 2) (mBin opPow (mC (.int 10)) (mC (.int 17))))) (mBi baAbs (maCons (mVar 2) (maNil))) (mC (.int 0))) (maCons (mVar 3) (maCons (mC (.int 0)) (maNil))))))))
def takeB (φ : Fns) : MS := sSeq (sIf (mTCmp opGt (mBin opIx (mVar 0) (mC (.int 0))) (mC (.int 0))) (sSeq (sAsg (mBi baDivmod (maCons (mBin opIx (mVar 0) (mC (.int 0))) (maCons (mVar 1) (maNil)))) (gTupW (gsCons (gIdx (mVar 0) (mC (.int 0))) (gsCons (gVar 2) (gsNil))))) (sRet (mVar 2))) (sNx)) (sSeq (sAsg (mBin opAdd (mBin opIx (mVar 0) (mC (.int 2))) (mC (.int 1))) (gIdx (mVar 0) (mC (.int 2)))) (sSeq (sSet 3 (mBin opAdd (mBin opMod (mBi baInt (maCons (mBin opIx (mVar 0) (mC (.int 1))) (maNil))) (mC (.int 28657))) (mC (.int 40009)))) (sSeq (sAsg (mBin opMod (mBi baInt (maCons (mBin opAdd (mBin opAdd (mBin opMul (mBin opIx (mVar 0) (mC (.int 1))) (mVar 3)) (mBin opMul (mC (.int 50023)) (mBin opIx (mVar 0) (mC (.int 2))))) (mC (.int 17))) (maNil))) (mC (.int 2147483563))) (gIdx (mVar 0) (mC (.int 1)))) (sRet (mBin opMod (mBi baInt (maCons (mBin opDiv (mBin opIx (mVar 0) (mC (.int 1))) (mC (.int 83))) (maNil))) (mVar 1))))))
theorem sSeq_nx {f g : MS} {η η1 : Env} {S S1 : Store} (h : f η S = .nx η1 S1) : sSeq f g η S = g η1 S1 := by
  unfold sSeq
  rw [h] <;> rfl
theorem sSeq_ret {f g : MS} {η : Env} {w : W} {S S1 : Store} (h : f η S = .ret w S1) : sSeq f g η S = .ret w S1 := by
  unfold sSeq
  rw [h] <;> rfl
theorem sSet_ok {f : ME} {η : Env} {S S1 : Store} {i : Nat} {w : W} (h : f η S = .ok w S1) : sSet i f η S = .nx (η.set i (some w)) S1 := by
  unfold sSet
  rw [h] <;> rfl
theorem sFor_ok {it : MI} {g : MG} {b : MS} {η : Env} {S S1 : Store} {xs : List W} (h : it η S = .ok xs S1) : sFor it g b η S = forL g b xs η S1 := by
  unfold sFor
  rw [h] <;> rfl
/-- runs to its end -/
def Nx (r : RS) (P : Env → Store → Prop) : Prop := ∃ η S, r = .nx η S ∧ P η S
theorem Nx.of {η : Env} {S : Store} {P : Env → Store → Prop} (h : P η S) : Nx (.nx η S) P := ⟨η, S, rfl, h⟩
theorem Nx.seq {f g : MS} {η η1 : Env} {S S1 : Store} {P : Env → Store → Prop} (h : f η S = .nx η1 S1) (k : Nx (g η1 S1) P) : Nx (sSeq f g η S) P := by
  rw [sSeq_nx h]
  exact k
theorem Nx.seqN {f g : MS} {η : Env} {S : Store} {I P : Env → Store → Prop} (h : Nx (f η S) I) (k : ∀ η S, I η S → Nx (g η S) P) : Nx (sSeq f g η S) P := by
  obtain ⟨η1, S1, e, i⟩ := h
  rw [sSeq_nx e]
  exact k _ _ i
theorem Nx.imp {r : RS} {P P' : Env → Store → Prop} (h : Nx r P) (k : ∀ η S, P η S → P' η S) : Nx r P' := by
  obtain ⟨η1, S1, e, i⟩ := h
  exact ⟨_, _, e, k _ _ i⟩
theorem Nx.eq {f : MS} {η η1 : Env} {S S1 : Store} {P : Env → Store → Prop} (h : f η S = .nx η1 S1) (k : P η1 S1) : Nx (f η S) P := ⟨_, _, h, k⟩
/-- a loop that keeps an invariant -/
theorem Nx.loop {g : MG} {b : MS} (I : Env → Store → Prop) : ∀ (xs : List W), (∀ x, x ∈ xs → ∀ η S, I η S → ∃ η1 S1, g x η S = some (η1, S1) ∧ Nx (b η1 S1) I) → ∀ {η S}, I η S → Nx (forL g b xs η S) I
  | [], _, η, S, hi => ⟨η, S, rfl, hi⟩
  | x :: r, h, η, S, hi => by
    obtain ⟨η1, S1, e1, η2, S2, e2, i2⟩ := h x (List.mem_cons_self ..) η S hi
    have : forL g b (x :: r) η S = forL g b r η2 S2 := by
      conv => lhs; unfold forL
      simp only [e1, e2]
    rw [this]
    exact Nx.loop I r (fun y hy => h y (List.mem_cons_of_mem _ hy)) i2
theorem Nx.sfor {it : MI} {g : MG} {b : MS} {η : Env} {S S1 : Store} {xs : List W} (I : Env → Store → Prop) (hit : it η S = .ok xs S1) (h : ∀ x, x ∈ xs → ∀ η S, I η S → ∃ η1 S1, g x η S = some (η1, S1) ∧ Nx (b η1 S1) I) (hi : I η S1) : Nx (sFor it g b η S) I := by
  rw [sFor_ok hit]
  exact Nx.loop I xs h hi
/-- gives a value -/
def Rt (r : RS) (w : W) : Prop := ∃ S, r = .ret w S
theorem Rt.seqN {f g : MS} {η : Env} {S : Store} {I : Env → Store → Prop} {w : W} (h : Nx (f η S) I) (k : ∀ η S, I η S → Rt (g η S) w) : Rt (sSeq f g η S) w := by
  obtain ⟨η1, S1, e, i⟩ := h
  rw [sSeq_nx e]
  exact k _ _ i
theorem Rt.seq {f g : MS} {η η1 : Env} {S S1 : Store} {w : W} (h : f η S = .nx η1 S1) (k : Rt (g η1 S1) w) : Rt (sSeq f g η S) w := by
  rw [sSeq_nx h]
  exact k
theorem forL_nx {g : MG} {b : MS} {η η1 η2 : Env} {S S1 S2 : Store} {x : W} {r : List W} (hg : g x η S = some (η1, S1)) (hb : b η1 S1 = .nx η2 S2) : forL g b (x :: r) η S = forL g b r η2 S2 := by
  conv => lhs; unfold forL
  simp only [hg, hb]
/-- a loop that keeps an invariant -/
theorem forL_inv {g : MG} {b : MS} (I : Env → Store → Prop) : ∀ (xs : List W), (∀ x, x ∈ xs → ∀ η S, I η S → ∃ η1 S1 η2 S2, g x η S = some (η1, S1) ∧ b η1 S1 = .nx η2 S2 ∧ I η2 S2) → ∀ η S, I η S → ∃ η' S', forL g b xs η S = .nx η' S' ∧ I η' S'
  | [], _, η, S, hi => ⟨η, S, rfl, hi⟩
  | x :: r, h, η, S, hi => by
    obtain ⟨η1, S1, η2, S2, e1, e2, i2⟩ := h x (List.mem_cons_self ..) η S hi
    rw [forL_nx e1 e2]
    exact forL_inv I r (fun y hy => h y (List.mem_cons_of_mem _ hy)) η2 S2 i2
theorem intsOf_map : ∀ ns : List Int, intsOf (ns.map W.int) = some ns
  | [] => rfl
  | n :: r => by
    show (intsOf (r.map W.int)).map (n :: ·) = _
    rw [intsOf_map r] <;> rfl
theorem cutW_map {α β : Type} (f : α → β) (xs : List α) (lo hi : Option Int) : cutW (xs.map f) lo hi = (cutW xs lo hi).map f := by
  unfold cutW
  rw [List.length_map, List.map_take, List.map_drop]
theorem cutW_le {α : Type} (xs : List α) (lo hi : Option Int) : (cutW xs lo hi).length ≤ xs.length := by
  unfold cutW
  rw [List.length_take, List.length_drop]
  omega
theorem mulOk_r {i j : Int} (h : j.natAbs < 18446744073709551616) : mulOk i j = true := by
  unfold mulOk
  rw [decide_eq_true h, Bool.or_true]
theorem mulOk_l {i j : Int} (h : i.natAbs < 18446744073709551616) : mulOk i j = true := by
  unfold mulOk
  rw [decide_eq_true h, Bool.true_or]
theorem opMul_l {i j : Int} {S : Store} (h : i.natAbs < 18446744073709551616) : opMul (.int i) (.int j) S = some (.int (i * j)) := if_pos (mulOk_l h)
theorem opMul_r {i j : Int} {S : Store} (h : j.natAbs < 18446744073709551616) : opMul (.int i) (.int j) S = some (.int (i * j)) := if_pos (mulOk_r h)
theorem opMod_ok {i j : Int} {S : Store} (h : 0 < j) : opMod (.int i) (.int j) S = some (.int (i % j)) := if_pos h
theorem opDiv_ok {i j : Int} {S : Store} (h : 0 < j ∧ j.natAbs.log2 < 9000) : opDiv (.int i) (.int j) S = some (.int (i / j)) := if_pos h
theorem mBin_ok {o : O2} {f g : ME} {η : Env} {S S1 S2 : Store} {x y z : W} (hf : f η S = .ok x S1) (hg : g η S1 = .ok y S2) (h : o x y S2 = some z) : mBin o f g η S = .ok z S2 := by
  unfold mBin
  rw [hf]
  show (g η S1).bind _ = _
  rw [hg]
  show rOpt (o x y S2) S2 = _
  rw [h] <;> rfl
theorem mBi1_ok {o : OA} {f : ME} {η : Env} {S S1 : Store} {x z : W} (hf : f η S = .ok x S1) (h : o [x] S1 = some z) : mBi o (maCons f maNil) η S = .ok z S1 := by
  unfold mBi maCons
  rw [hf]
  show rOpt (o [x] S1) S1 = _
  rw [h] <;> rfl
theorem mVar_ok {i : Nat} {η : Env} {S : Store} {w : W} (h : η[i]? = some (some w)) : mVar i η S = .ok w S := by
  unfold mVar
  rw [h]
theorem mC_ok {w : W} {η : Env} {S : Store} : mC w η S = .ok w S := rfl
theorem mIf_t {c : MT} {f g : ME} {η : Env} {S S1 : Store} (h : c η S = .ok true S1) : mIf c f g η S = f η S1 := by
  unfold mIf
  rw [h] <;> rfl
theorem mIf_f {c : MT} {f g : ME} {η : Env} {S S1 : Store} (h : c η S = .ok false S1) : mIf c f g η S = g η S1 := by
  unfold mIf
  rw [h] <;> rfl
theorem maNil_ok {η : Env} {S : Store} : maNil η S = .ok [] S := rfl
theorem maCons_ok {f : ME} {g : MA} {η : Env} {S S1 S2 : Store} {x : W} {xs : List W} (hf : f η S = .ok x S1) (hg : g η S1 = .ok xs S2) : maCons f g η S = .ok (x :: xs) S2 := by
  unfold maCons
  rw [hf]
  show (g η S1).bind _ = _
  rw [hg] <;> rfl
theorem mBi_ok {o : OA} {g : MA} {η : Env} {S S1 : Store} {xs : List W} {z : W} (hf : g η S = .ok xs S1) (h : o xs S1 = some z) : mBi o g η S = .ok z S1 := by
  unfold mBi
  rw [hf]
  show rOpt (o xs S1) S1 = _
  rw [h] <;> rfl
theorem mUn_ok {o : W → Store → Option W} {f : ME} {η : Env} {S S1 : Store} {x z : W} (hf : f η S = .ok x S1) (h : o x S1 = some z) : mUn o f η S = .ok z S1 := by
  unfold mUn
  rw [hf]
  show rOpt (o x S1) S1 = _
  rw [h] <;> rfl
theorem mTup_ok {g : MA} {η : Env} {S S1 : Store} {xs : List W} (hf : g η S = .ok xs S1) (h : xs.length ≤ bigLine) : mTup g η S = .ok (.tup xs) S1 := by
  unfold mTup
  rw [hf]
  exact if_pos h
theorem mLst_ok {g : MA} {η : Env} {S S1 : Store} {xs : List W} (hf : g η S = .ok xs S1) (h : xs.length ≤ bigLine) : mLst g η S = .ok (.lst xs) S1 := by
  unfold mLst
  rw [hf]
  exact if_pos h
theorem mLstS_ok {g : MA} {η : Env} {S S1 : Store} {xs : List W} (hf : g η S = .ok xs S1) (hp : pures xs = true) (h : xs.length ≤ bigLine) : mLstS g η S = .ok (.ref S1.length) (S1 ++ [.lst xs]) := by
  unfold mLstS
  rw [hf]
  show (if pures xs = true then _ else _) = _
  rw [if_pos hp]
  exact if_pos h
theorem mCall_ok {φ : Fns} {f : Nat} {g : MA} {η : Env} {S S1 S2 : Store} {xs : List W} {z : W} (hf : g η S = .ok xs S1) (h : φ f xs S1 = .ok z S2) : mCall φ f g η S = .ok z S2 := by
  unfold mCall
  rw [hf]
  exact h
theorem mTru_ok {f : ME} {η : Env} {S S1 : Store} {x : W} {b : Bool} (hf : f η S = .ok x S1) (h : truthy S1 x = some b) : mTru f η S = .ok b S1 := by
  unfold mTru
  rw [hf]
  show rOpt (truthy S1 x) S1 = _
  rw [h] <;> rfl
theorem mTNot_ok {f : MT} {η : Env} {S S1 : Store} {b : Bool} (hf : f η S = .ok b S1) : mTNot f η S = .ok (!b) S1 := by
  unfold mTNot
  rw [hf] <;> rfl
theorem mTAnd_t {f g : MT} {η : Env} {S S1 : Store} (hf : f η S = .ok true S1) : mTAnd f g η S = g η S1 := by
  unfold mTAnd
  rw [hf] <;> rfl
theorem mTAnd_f {f g : MT} {η : Env} {S S1 : Store} (hf : f η S = .ok false S1) : mTAnd f g η S = .ok false S1 := by
  unfold mTAnd
  rw [hf] <;> rfl
theorem mTOr_t {f g : MT} {η : Env} {S S1 : Store} (hf : f η S = .ok true S1) : mTOr f g η S = .ok true S1 := by
  unfold mTOr
  rw [hf] <;> rfl
theorem mTOr_f {f g : MT} {η : Env} {S S1 : Store} (hf : f η S = .ok false S1) : mTOr f g η S = g η S1 := by
  unfold mTOr
  rw [hf] <;> rfl
theorem mTCmp_ok {o : O2} {f g : ME} {η : Env} {S S1 S2 : Store} {x y : W} {b : Bool} (hf : f η S = .ok x S1) (hg : g η S1 = .ok y S2) (h : o x y S2 = some (.bl b)) : mTCmp o f g η S = .ok b S2 := by
  unfold mTCmp
  rw [hf]
  show (g η S1).bind _ = _
  rw [hg]
  show (match o x y S2 with | some (.bl b) => R.ok b S2 | _ => .stuck) = _
  rw [h]
theorem sIf_t {c : MT} {f g : MS} {η : Env} {S S1 : Store} (h : c η S = .ok true S1) : sIf c f g η S = f η S1 := by
  unfold sIf
  rw [h] <;> rfl
theorem sIf_f {c : MT} {f g : MS} {η : Env} {S S1 : Store} (h : c η S = .ok false S1) : sIf c f g η S = g η S1 := by
  unfold sIf
  rw [h] <;> rfl
theorem sIf_n {c : MT} {f : MS} {η : Env} {S S1 : Store} (h : c η S = .ok false S1) : sIf c f sNx η S = .nx η S1 := sIf_f h
theorem sRet_ok {f : ME} {η : Env} {S S1 : Store} {w : W} (h : f η S = .ok w S1) : sRet f η S = .ret w S1 := by
  unfold sRet
  rw [h] <;> rfl
theorem sAsg_ok {f : ME} {g : MG} {η η2 : Env} {S S1 S2 : Store} {w : W} (h : f η S = .ok w S1) (hg : g w η S1 = some (η2, S2)) : sAsg f g η S = .nx η2 S2 := by
  unfold sAsg
  rw [h]
  show optS (g w η S1) = _
  rw [hg] <;> rfl
theorem gIdx_ok {o i : ME} {w ow iw : W} {η : Env} {S S1 S2 S3 : Store} (ho : o η S = .ok ow S1) (hi : i η S1 = .ok iw S2) (h : setAt ow iw w S2 = some S3) : gIdx o i w η S = some (η, S3) := by
  unfold gIdx
  rw [ho]
  show (match i η S1 with | .ok iw S2 => (setAt ow iw w S2).map fun S3 => (η, S3) | _ => none) = _
  rw [hi]
  show (setAt ow iw w S2).map _ = _
  rw [h] <;> rfl
theorem gsCons_ok {g : MG} {gs : MGs} {w : W} {r : List W} {η η1 : Env} {S S1 : Store} {z : Option (Env × Store)} (h : g w η S = some (η1, S1)) (h2 : gs r η1 S1 = z) : gsCons g gs (w :: r) η S = z := by
  unfold gsCons
  show (g w η S).bind _ = _
  rw [h]
  exact h2
theorem opIx_ref {S : Store} {i : Nat} {k : Int} {xs : List W} {w : W} (hs : S[i]? = some (.lst xs)) (h : atW xs k = some w) : opIx (.ref i) (.int k) S = some w := by
  show (lstOf S (.ref i)).bind _ = _
  rw [show lstOf S (.ref i) = some xs from by show (match S[i]? with | some (.lst xs) => some xs | _ => none) = _; rw [hs]]
  exact h
theorem setAt_ref {S : Store} {i : Nat} {k : Int} {xs : List W} {w : W} (hs : S[i]? = some (.lst xs)) (h : 0 ≤ k ∧ k < xs.length) (hp : w.pure = true) : setAt (.ref i) (.int k) w S = some (S.set i (.lst (xs.set k.toNat w))) := by
  show (match S[i]? with
    | some (.lst xs) => if 0 ≤ k ∧ k < xs.length then (if w.pure then some (S.set i (.lst (xs.set k.toNat w))) else none)
        else if k < 0 ∧ -(xs.length : Int) ≤ k then (if w.pure then some (S.set i (.lst (xs.set (k + xs.length).toNat w))) else none) else none
    | _ => none) = _
  rw [hs]
  show (if _ then _ else _) = _
  rw [if_pos h, if_pos hp]
/-- the well of a turn -/
theorem well_ok {φ : Fns} {ns : List Int} {t : Nat} {S : Store} (hl : ns.length ≤ 63) (ht : t ≤ 1000) :
    ∃ a b : Int, 0 ≤ a ∧ 0 ≤ b ∧ wellB φ [some (.scr (ns.map .int)), some (.int t), none, none, none] S = .ret (.ref S.length) (S ++ [.lst [.int a, .int b, .int 0]]) := by
  unfold wellB
  have h1 : ∃ o : Int, (mIf (mTCmp opLt (mVar 1) (mBi baLen (maCons (mVar 0) (maNil)))) (mBi baInt (maCons (mBin opIx (mVar 0) (mVar 1)) (maNil))) (mBin opAdd (mBin opAdd (mBin opMul (mC (.int 7919)) (mVar 1)) (mBin opMod (mBi baInt (maCons (mBi baSum (maCons (mSl (mVar 0) (moNone) (moSome (mC (.int 3)))) (maNil))) (maNil))) (mC (.int 1000003)))) (mC (.int 29)))) [some (.scr (ns.map .int)), some (.int t), none, none, none] S = .ok (.int o) S := by
    have hc : (mTCmp opLt (mVar 1) (mBi baLen (maCons (mVar 0) (maNil)))) [some (.scr (ns.map .int)), some (.int t), none, none, none] S = .ok (decide ((t : Int) < ((ns.map W.int).length : Int))) S := rfl
    unfold mIf
    rw [hc]
    by_cases lt : (t : Int) < ((ns.map W.int).length : Int)
    · have l2 : t < ns.length := by rw [List.length_map] at lt; omega
      refine ⟨ns[t], ?_⟩
      show (if decide ((t : Int) < ((ns.map W.int).length : Int)) = true then _ else _) = _
      rw [if_pos (decide_eq_true lt)]
      refine mBi1_ok (x := .int ns[t]) (S1 := S) (mBin_ok (S1 := S) (x := .scr (ns.map .int)) (y := .int t) rfl rfl ?_) rfl
      show atW (ns.map W.int) t = _
      unfold atW ixW
      rw [if_pos (by omega), if_pos lt]
      show (ns.map W.int)[((t : Int)).toNat]? = _
      rw [Int.toNat_natCast, List.getElem?_map, List.getElem?_eq_getElem l2] <;> rfl
    · refine ⟨7919 * t + (cutW ns none (some 3)).sum % 1000003 + 29, ?_⟩
      show (if decide ((t : Int) < ((ns.map W.int).length : Int)) = true then _ else _) = _
      rw [if_neg (by rw [decide_eq_true_eq]; exact lt)]
      refine mBin_ok (S1 := S) (mBin_ok (S1 := S) (mBin_ok (S1 := S) rfl rfl (opMul_l (by decide))) (mBin_ok (S1 := S) (mBi1_ok (S1 := S) (mBi1_ok (S1 := S) (x := .lst ((cutW ns none (some 3)).map .int)) (z := .int (cutW ns none (some 3)).sum) ?_ ?_) rfl) rfl (opMod_ok (by decide))) rfl) rfl rfl
      · show R.ok (W.lst (cutW (ns.map W.int) none (some 3))) S = _
        rw [cutW_map]
      · show (intsOf ((cutW ns none (some 3)).map W.int)).map (fun ns => W.int ns.sum) = _
        rw [intsOf_map] <;> rfl
  obtain ⟨o, h1⟩ := h1
  rw [sSeq_nx (sSet_ok h1)]
  have h2 : (sSet 3 (mBin opAdd (mC (.int 40127)) (mBin opMul (mC (.int 977)) (mVar 1)))) ([some (.scr (ns.map .int)), some (.int t), none, none, none].set 2 (some (.int o))) S = .nx [some (.scr (ns.map .int)), some (.int t), some (.int o), some (.int (40127 + 977 * t)), none] S :=
    sSet_ok (mBin_ok (S1 := S) rfl (mBin_ok (S1 := S) rfl rfl (opMul_l (by decide))) rfl)
  rw [sSeq_nx h2]
  have h3 : ∀ η S, η = [some (.scr (ns.map .int)), some (.int t), some (.int o), some (.int (40127 + 977 * t)), none] → (miSeq (mBin opAdd (mSl (mVar 0) (moNone) (moSome (mC (.int 6)))) (mLst (maCons (mVar 2) (maNil))))) η S = .ok ((cutW ns none (some 6) ++ [o]).map .int) S := by
    rintro η S rfl
    unfold miSeq
    rw [mBin_ok (S1 := S) (S2 := S) (x := .lst ((cutW ns none (some 6)).map .int)) (y := .lst [.int o]) (z := .lst ((cutW ns none (some 6)).map .int ++ [.int o]))]
    · rw [List.map_append] <;> rfl
    · show R.ok (W.lst (cutW (ns.map W.int) none (some 6))) S = _
      rw [cutW_map]
    · rfl
    · show (if ((cutW ns none (some 6)).map W.int).length + 1 ≤ bigLine then _ else _) = _
      have := cutW_le ns none (some 6)
      rw [if_pos (by rw [List.length_map]; unfold bigLine; omega)]
  have h4 := forL_inv (g := gVar 4) (b := sSet 3 (mBin opMod (mBi baInt (maCons (mBin opAdd (mBin opAdd (mBin opMul (mVar 3) (mC (.int 48271))) (mBin opMod (mBi baInt (maCons (mVar 4) (maNil))) (mC (.int 2147483399)))) (mC (.int 53))) (maNil))) (mC (.int 2147483563))))
    (fun η S' => S' = S ∧ ∃ b : Int, 0 ≤ b ∧ ∃ w, η = [some (.scr (ns.map .int)), some (.int t), some (.int o), some (.int b), w]) ((cutW ns none (some 6) ++ [o]).map .int) (by
      intro x hx η S' hi
      obtain ⟨rfl, b, hb, w, rfl⟩ := hi
      obtain ⟨i, _, rfl⟩ := List.mem_map.mp hx
      exact ⟨_, _, _, _, rfl, sSet_ok (mBin_ok (S1 := S') (mBi1_ok (S1 := S') (mBin_ok (S1 := S') (mBin_ok (S1 := S') (mBin_ok (S1 := S') rfl rfl (opMul_r (by decide))) (mBin_ok (S1 := S') (mBi1_ok (S1 := S') rfl rfl) rfl (opMod_ok (by decide))) rfl) rfl rfl) rfl) rfl (opMod_ok (by decide))), rfl, _, Int.emod_nonneg _ (by decide), _, rfl⟩)
    [some (.scr (ns.map .int)), some (.int t), some (.int o), some (.int (40127 + 977 * t)), none] S ⟨rfl, _, by omega, _, rfl⟩
  obtain ⟨η', S', h4, rfl, b, hb, w, rfl⟩ := h4
  rw [sSeq_nx ((sFor_ok (h3 _ S' rfl)).trans h4)]
  refine ⟨if o < 0 ∨ 100000000000000000 ≤ o then (if o < 0 then -o else o) else 0, b, ?_, hb, ?_⟩
  · split
    · split <;> omega
    · omega
  · have h5 : (mIf (mTOr (mTCmp opLt (mVar 2) (mC (.int 0))) (mTCmp opGe (mVar 2) (mBin opPow (mC (.int 10)) (mC (.int 17))))) (mBi baAbs (maCons (mVar 2) (maNil))) (mC (.int 0))) [some (.scr (ns.map .int)), some (.int t), some (.int o), some (.int b), w] S' = .ok (.int (if o < 0 ∨ 100000000000000000 ≤ o then (if o < 0 then -o else o) else 0)) S' := by
      by_cases c1 : o < 0
      · rw [if_pos (.inl c1)]
        unfold mIf
        rw [show (mTOr (mTCmp opLt (mVar 2) (mC (.int 0))) (mTCmp opGe (mVar 2) (mBin opPow (mC (.int 10)) (mC (.int 17))))) [some (.scr (ns.map .int)), some (.int t), some (.int o), some (.int b), w] S' = .ok true S' from by
          show (if decide (o < 0) = true then R.ok true S' else _) = _
          rw [if_pos (decide_eq_true c1)]]
        rfl
      · have e : (mTOr (mTCmp opLt (mVar 2) (mC (.int 0))) (mTCmp opGe (mVar 2) (mBin opPow (mC (.int 10)) (mC (.int 17))))) [some (.scr (ns.map .int)), some (.int t), some (.int o), some (.int b), w] S' = .ok (decide (100000000000000000 ≤ o)) S' := by
          show (if decide (o < 0) = true then R.ok true S' else R.ok (decide ((10 : Int) ^ (17 : Nat) ≤ o)) S') = _
          rw [if_neg (by rw [decide_eq_true_eq]; exact c1)] <;> rfl
        unfold mIf
        rw [e]
        by_cases c2 : 100000000000000000 ≤ o
        · rw [if_pos (.inr c2)]
          show (if decide (100000000000000000 ≤ o) = true then _ else _) = _
          rw [if_pos (decide_eq_true c2)] <;> rfl
        · rw [if_neg (by rintro (z | z) <;> contradiction)]
          show (if decide (100000000000000000 ≤ o) = true then _ else _) = _
          rw [if_neg (by rw [decide_eq_true_eq]; exact c2)] <;> rfl
    exact sRet_ok (mLstS_ok (S1 := S') (maCons_ok h5 (maCons_ok (S1 := S') (x := .int b) rfl (maCons_ok (S1 := S') rfl rfl))) rfl (by show 3 ≤ bigLine; decide))
/-- a well -/
def Well (S : Store) (i : Nat) : Prop := ∃ a b c : Int, 0 ≤ a ∧ 0 ≤ b ∧ S[i]? = some (.lst [.int a, .int b, .int c])
theorem take_ok {φ : Fns} {S : Store} {i : Nat} {n : Int} (hw : Well S i) (h0 : 0 < n) (h1 : n.natAbs.log2 < 9000) :
    ∃ v : Int, 0 ≤ v ∧ v < n ∧ ∃ S', takeB φ [some (.ref i), some (.int n), none, none] S = .ret (.int v) S' ∧ Well S' i ∧ S'.length = S.length ∧ ∀ j, j ≠ i → S'[j]? = S[j]? := by
  obtain ⟨a, b, c, ha, hb, hs⟩ := hw
  have hi : i < S.length := (List.getElem?_eq_some_iff.mp hs).1
  have ix : ∀ {η : Env} {S : Store} {a b c : Int} (_ : S[i]? = some (.lst [.int a, .int b, .int c])) (k : Int) (w : W), η[0]? = some (some (.ref i)) → atW [.int a, .int b, .int c] k = some w → mBin opIx (mVar 0) (mC (.int k)) η S = .ok w S := fun hs k w h0 h => mBin_ok (mVar_ok h0) rfl (opIx_ref hs h)
  have tst : ∀ η : Env, η[0]? = some (some (.ref i)) → (mTCmp opGt (mBin opIx (mVar 0) (mC (.int 0))) (mC (.int 0))) η S = .ok (decide (0 < a)) S := fun η e => mTCmp_ok (ix hs 0 _ e rfl) rfl rfl
  unfold takeB
  by_cases c0 : 0 < a
  · refine ⟨a % n, Int.emod_nonneg _ (by omega), Int.emod_lt_of_pos _ h0, S.set i (.lst [.int (a / n), .int b, .int c]), ?_, ⟨_, _, _, Int.ediv_nonneg ha (by omega), hb, List.getElem?_set_self hi⟩, List.length_set, fun j hj => List.getElem?_set_ne (Ne.symm hj)⟩
    refine sSeq_ret ?_
    rw [sIf_t ((tst _ rfl).trans (by rw [decide_eq_true c0]))]
    refine (sSeq_nx (η1 := [some (.ref i), some (.int n), some (.int (a % n)), none]) (S1 := S.set i (.lst [.int (a / n), .int b, .int c])) (sAsg_ok (S1 := S) (w := .tup [.int (a / n), .int (a % n)]) (mBi_ok (maCons_ok (ix hs 0 _ rfl rfl) (maCons_ok (mVar_ok rfl) rfl)) (if_pos ⟨h0, h1⟩)) (gsCons_ok (gIdx_ok rfl rfl (setAt_ref hs ⟨by decide, by show (_ : Int) < 3; decide⟩ rfl)) (gsCons_ok rfl rfl)))).trans ?_
    rfl
  · have S1 : ∃ S1, S1 = S.set i (.lst [.int a, .int b, .int (c + 1)]) := ⟨_, rfl⟩
    obtain ⟨S1, e1⟩ := S1
    have hs1 : S1[i]? = some (.lst [.int a, .int b, .int (c + 1)]) := by rw [e1, List.getElem?_set_self hi]
    have hd : ∃ d : Int, d = (b * (b % 28657 + 40009) + 50023 * (c + 1) + 17) % 2147483563 := ⟨_, rfl⟩
    obtain ⟨d, ed⟩ := hd
    have d0 : 0 ≤ d := by rw [ed]; exact Int.emod_nonneg _ (by decide)
    have S2 : ∃ S2, S2 = S1.set i (.lst [.int a, .int d, .int (c + 1)]) := ⟨_, rfl⟩
    obtain ⟨S2, e2⟩ := S2
    have hi1 : i < S1.length := (List.getElem?_eq_some_iff.mp hs1).1
    have hs2 : S2[i]? = some (.lst [.int a, .int d, .int (c + 1)]) := by rw [e2, List.getElem?_set_self hi1]
    refine ⟨(d / 83) % n, Int.emod_nonneg _ (by omega), Int.emod_lt_of_pos _ h0, S2, ?_, ⟨_, _, _, ha, d0, hs2⟩, by rw [e2, e1, List.length_set, List.length_set], fun j hj => by rw [e2, e1, List.getElem?_set_ne (Ne.symm hj), List.getElem?_set_ne (Ne.symm hj)]⟩
    refine (sSeq_nx (η1 := [some (.ref i), some (.int n), none, none]) (S1 := S) (sIf_n ((tst [some (.ref i), some (.int n), none, none] rfl).trans (by rw [decide_eq_false c0])))).trans ?_
    refine (sSeq_nx (η1 := [some (.ref i), some (.int n), none, none]) (S1 := S1) (sAsg_ok (S1 := S) (w := .int (c + 1)) (mBin_ok (ix hs 2 _ rfl rfl) rfl rfl) (gIdx_ok rfl rfl (by rw [e1]; exact setAt_ref hs ⟨by decide, by show (_ : Int) < 3; decide⟩ rfl)))).trans ?_
    refine (sSeq_nx (sSet_ok (η := [some (.ref i), some (.int n), none, none]) (mBin_ok (mBin_ok (mBi1_ok (ix hs1 1 _ rfl rfl) rfl) rfl (opMod_ok (by decide))) rfl rfl))).trans ?_
    refine (sSeq_nx (η1 := [some (.ref i), some (.int n), none, some (.int (b % 28657 + 40009))]) (S1 := S2) (sAsg_ok (S1 := S1) (w := .int d) (mBin_ok (mBi1_ok (mBin_ok (mBin_ok (mBin_ok (ix hs1 1 _ rfl rfl) rfl (opMul_r (by
        have := Int.emod_nonneg b (show (28657 : Int) ≠ 0 by decide)
        have := Int.emod_lt_of_pos b (show (0 : Int) < 28657 by decide)
        omega))) (mBin_ok rfl (ix hs1 2 _ rfl rfl) (opMul_l (by decide))) rfl) rfl rfl) rfl) rfl (by rw [ed]; exact opMod_ok (by decide))) (gIdx_ok rfl rfl (by rw [e2]; exact setAt_ref hs1 ⟨by decide, by show (_ : Int) < 3; decide⟩ rfl)))).trans ?_
    exact sRet_ok (mBin_ok (mBi1_ok (mBin_ok (ix hs2 1 _ rfl rfl) rfl (opDiv_ok (by decide))) rfl) rfl (opMod_ok h0))
theorem fns_eq {T : List Fun} {d k : Nat} {F : Fun} {ws : List W} {S : Store} (h : T[k]? = some F) (hl : ws.length = F.np) (hf : F.fr = false := by rfl) : fns T (d + 1) k ws S = finS F.keep S.length (F.body (fns T d) (ws.map some ++ List.replicate (F.nv - F.np) none) S) := by
  show (match T[k]? with
    | some F => runF F (fns T d) ws S
    | none => .stuck) = _
  rw [h]
  refine (if_pos hl).trans (if_neg ?_)
  rw [hf]
  decide
theorem fns_fr {T : List Fun} {d k : Nat} {F : Fun} {ws : List W} {S : Store} (h : T[k]? = some F) (hl : ws.length = F.np) (hp : pures ws = true) (hf : F.fr = true := by rfl) : fns T (d + 1) k ws S = (finS false 0 (F.body (fns T d) (ws.map some ++ List.replicate (F.nv - F.np) none) [])).frame S := by
  show (match T[k]? with
    | some F => runF F (fns T d) ws S
    | none => .stuck) = _
  rw [h]
  exact (if_pos hl).trans ((if_pos hf).trans (if_pos hp))
/-- what a framed function gives at one store it gives at any -/
theorem fr_any {T : List Fun} {d k : Nat} {F : Fun} {ws : List W} {S0 S1 S : Store} {w : W} (h : T[k]? = some F) (e : fns T d k ws S0 = .ok w S1) (hf : F.fr = true := by rfl) : fns T d k ws S = .ok w S := by
  cases d with
  | zero => cases e
  | succ d =>
    have e : (match T[k]? with
      | some F => runF F (fns T d) ws S0
      | none => .stuck) = .ok w S1 := e
    show (match T[k]? with
      | some F => runF F (fns T d) ws S
      | none => .stuck) = _
    rw [h] at e ⊢
    have e : runF F (fns T d) ws S0 = .ok w S1 := e
    show runF F (fns T d) ws S = _
    unfold runF at e ⊢
    split at e
    · rename_i hl
      rw [if_pos hl, if_pos hf]
      split at e
      · rename_i hp
        rw [if_pos hp]
        cases eb : finS false 0 (F.body (fns T d) (ws.map some ++ List.replicate (F.nv - F.np) none) []) with
        | stuck => rw [eb] at e; cases e
        | exc c x S2 =>
          rw [eb] at e
          have e : (if x.pure = true then R.exc c x S0 else .stuck) = .ok w S1 := e
          split at e <;> cases e
        | ok v S2 =>
          rw [eb] at e
          have e : (if v.pure = true then R.ok v S0 else .stuck) = .ok w S1 := e
          split at e
          · rename_i pv
            cases e
            exact if_pos pv
          · cases e
      · cases e
    · cases e
theorem well_call {T : List Fun} {d k : Nat} {ns : List Int} {t : Nat} {S : Store} (h : T[k]? = some ⟨2, 5, true, false, wellB⟩) (hl : ns.length ≤ 63) (ht : t ≤ 1000) :
    ∃ a b : Int, 0 ≤ a ∧ 0 ≤ b ∧ fns T (d + 1) k [.scr (ns.map .int), .int t] S = .ok (.ref S.length) (S ++ [.lst [.int a, .int b, .int 0]]) := by
  obtain ⟨a, b, ha, hb, e⟩ := well_ok (φ := fns T d) (S := S) hl ht
  refine ⟨a, b, ha, hb, ?_⟩
  rw [fns_eq h rfl]
  refine (congrArg (finS true S.length) e).trans ?_
  unfold finS fin
  show (if S.length < S.length then _ else (match (S ++ [Cell.lst [.int a, .int b, .int 0]])[S.length]? with
      | some (Cell.lst xs) => if pures xs = true then (if true = true then R.ok (W.ref S.length) ((S ++ [Cell.lst [.int a, .int b, .int 0]]).take S.length ++ [Cell.lst xs]) else .ok (W.lst xs) ((S ++ [Cell.lst [.int a, .int b, .int 0]]).take S.length)) else .stuck
      | _ => .stuck)) = _
  rw [if_neg (Nat.lt_irrefl _), List.getElem?_append_right (Nat.le_refl _), Nat.sub_self]
  show R.ok _ _ = _
  rw [List.take_left']
  rfl
theorem take_callW {T : List Fun} {d k : Nat} {S : Store} {i : Nat} {n : Int} (h : T[k]? = some ⟨2, 4, false, false, takeB⟩) (hw : Well S i) (h0 : 0 < n) (h1 : n.natAbs.log2 < 9000) :
    ∃ v : Int, 0 ≤ v ∧ v < n ∧ ∃ S', fns T (d + 1) k [.ref i, .int n] S = .ok (.int v) S' ∧ Well S' i ∧ S'.length = S.length ∧ ∀ j, j ≠ i → S'[j]? = S[j]? := by
  obtain ⟨v, v0, v1, S', e, w, l, o⟩ := take_ok (φ := fns T d) hw h0 h1
  refine ⟨v, v0, v1, S', ?_, w, l, o⟩
  rw [fns_eq h rfl]
  refine (congrArg (finS false S.length) e).trans ?_
  show R.ok _ (S'.take S.length) = _
  rw [List.take_of_length_le (by omega)]
theorem log_small {n : Int} (h0 : 0 < n) (h1 : n < 1073741824) : n.natAbs.log2 < 9000 := by
  have : n.natAbs.log2 < 30 := (Nat.log2_lt (by omega)).mpr (by omega)
  omega
theorem take_call {T : List Fun} {d k : Nat} {S : Store} {i : Nat} {n : Int} (h : T[k]? = some ⟨2, 4, false, false, takeB⟩) (hw : Well S i) (h0 : 0 < n) (h1 : n < 1073741824) :
    ∃ v : Int, 0 ≤ v ∧ v < n ∧ ∃ S', fns T (d + 1) k [.ref i, .int n] S = .ok (.int v) S' ∧ Well S' i ∧ S'.length = S.length ∧ ∀ j, j ≠ i → S'[j]? = S[j]? := take_callW h hw h0 (log_small h0 h1)
theorem Well.new {S : Store} {a b c : Int} (ha : 0 ≤ a) (hb : 0 ≤ b) : Well (S ++ [.lst [.int a, .int b, .int c]]) S.length := ⟨a, b, c, ha, hb, by rw [List.getElem?_append_right (Nat.le_refl _), Nat.sub_self] <;> rfl⟩
theorem mem_range {x : W} {a : Int} {n : Nat} (h : x ∈ rangeW a n) : ∃ t : Nat, t < n ∧ x = .int (a + t) := by
  obtain ⟨t, ht, rfl⟩ := List.mem_map.mp h
  exact ⟨t, List.mem_range.mp ht, rfl⟩
theorem pures_ints : ∀ ns : List Int, pures (ns.map W.int) = true
  | [] => rfl
  | n :: r => by
    show (true && pures (r.map W.int)) = true
    rw [pures_ints r] <;> rfl
theorem law_end {T : List Fun} {d k nv : Nat} {b : Fns → MS} {ns : List Int} (h : T[k]? = some ⟨1, nv, false, true, b⟩) (e : Rt (b (fns T d) (some (.scr (ns.map .int)) :: List.replicate (nv - 1) none) []) (.bl true)) : ∃ S, fns T (d + 1) k [.scr (ns.map .int)] [] = .ok (.bl true) S := by
  obtain ⟨S, e⟩ := e
  refine ⟨[], ?_⟩
  rw [fns_fr h rfl (by show (pures (ns.map W.int) && true) = true; rw [pures_ints]; rfl)]
  exact (congrArg (fun z => R.frame [] (finS false 0 z)) e).trans rfl
end Mp
set_option Elab.async false
set_option linter.all false
set_option maxRecDepth 100000
set_option maxHeartbeats 4000000
/-! Mp: zip, enumerate. -/
namespace Mp
open PySem PySem.Spec PyProof.Rows L2 RZ
/-- pairs of items that stand beside each other -/
def pairsW (xs ys : List W) : List W := (xs.zip ys).map fun p => W.tup [p.1, p.2]
def zipW : List W → Option (List W)
  | [.lst xs, .lst ys] => some (pairsW xs ys)
  | [.tup xs, .tup ys] => some (pairsW xs ys)
  | _ => none
def enumL : Int → List W → List W
  | _, [] => []
  | i, x :: r => .tup [.int i, x] :: enumL (i + 1) r
def enumW : List W → Option (List W)
  | [.lst xs] => some (enumL 0 xs)
  | _ => none
section
variable {K : PySem.W.Frag} {G : Gs} {γ : Ga} {H : Hp} {S : Store}
theorem pair_new {T : Addr} {x y : V} {wx wy : W} (hT : H T = none) (s : StoreOk K G γ H S) (rx : Rep K G γ H wx x) (ry : Rep K G γ H wy y) :
    Ext γ H γ (upd H T (.tup [x, y])) ∧ StoreOk K G γ (upd H T (.tup [x, y])) S ∧ Rep K G γ (upd H T (.tup [x, y])) (.tup [wx, wy]) (.ref T) :=
  ⟨Ext.upd s hT, s.upd hT, .tup (.inl ⟨.inl upd_same, s.fresh hT⟩) (.cons (rx.mono (Ext.upd s hT)) (.cons (ry.mono (Ext.upd s hT)) .nil))⟩
theorem enumL_get : ∀ {xs : List W} {k : Int} {i : Nat} {w : W}, (enumL k xs)[i]? = some w → ∃ a, xs[i]? = some a ∧ w = .tup [.int (k + i), a]
  | [], k, i, w, h => by simp [enumL] at h
  | x :: r, k, 0, w, h => by
    have e : w = .tup [.int k, x] := by simpa [enumL] using h.symm
    exact ⟨x, rfl, by rw [e]; simp⟩
  | x :: r, k, i + 1, w, h => by
    have h : (enumL (k + 1) r)[i]? = some w := by simpa [enumL] using h
    obtain ⟨a, ha, e⟩ := enumL_get h
    exact ⟨a, by simpa using ha, by rw [e]; congr 3; omega⟩
theorem enumL_len : ∀ {xs : List W} {k : Int}, (enumL k xs).length = xs.length
  | [], _ => rfl
  | x :: r, k => by rw [enumL, List.length_cons, List.length_cons, enumL_len]
theorem itOk_enum {a : Addr} {xs : List W} {vs : List V} (sa : ∀ {γ' H'}, ExtW γ H γ' H' → SqL K H' a vs) (q : Reps K G γ H xs vs) : ItOk K G (Ite K a) (enumL 0 xs) γ H := by
  refine ⟨fun i γ' H' S hi e _ => ?_, fun γ' H' S e _ => ⟨vs, sa e, ?_⟩, fun i w γ' H' S x H'' hw e s y => ?_⟩
  · rw [enumL_len, q.length] at hi
    exact ⟨vs, vs[i], sa e, List.getElem?_eq_getElem hi⟩
  · rw [enumL_len, q.length]
    exact Nat.le_refl _
  · obtain ⟨T, v, rfl, hT, rfl, h1⟩ := y
    obtain ⟨p, hp, rfl⟩ := enumL_get hw
    obtain ⟨v', hv', rv⟩ := q.get hp
    have z1 := h1 vs (sa e)
    rw [hv'] at z1
    cases z1
    rw [Int.zero_add]
    exact pair_new hT s (.int _) (rv.monoW e)
end
section
variable {X : Cx} {G : Gs} {a b e : Expr} {pos p tpos : Pos} {ga : MA} {elts : List Expr} {kk : Nat}
def miAll (o : List W → Option (List W)) (ga : MA) : MI := fun η S => (ga η S).bind fun ws S1 => rOpt (o ws) S1
end
end Mp
set_option Elab.async false
set_option linter.all false
set_option maxRecDepth 100000
set_option maxHeartbeats 4000000
/-! Mp: comprehensions of two fors. -/
namespace Mp
open PySem PySem.Spec PyProof.Rows L2
def compL2 (g : MG) (t : MT) (it1 : MI) (g1 : MG) (t1 : MT) (e : ME) (vs1 : List Nat) (η : Env) : List W → Store → List W → R (List W)
  | [], S, acc => .ok acc S
  | x :: r, S, acc => match g x η S with
    | none => .stuck
    | some (η1, S1) => (t η1 S1).bind fun b S2 => if b = true then (it1 η1 S2).bind fun ys S3 => (compL g1 t1 e (wipeE η1 vs1) ys S3 acc).bind fun acc' S4 => compL2 g t it1 g1 t1 e vs1 η r S4 acc' else compL2 g t it1 g1 t1 e vs1 η r S2 acc
def mComp2 (it : MI) (own : List Nat) (g : MG) (t : MT) (it1 : MI) (vs1 : List Nat) (g1 : MG) (t1 : MT) (e : ME) : ME := fun η S => (it η S).bind fun xs S1 => (noexc (compL2 g t it1 g1 t1 e vs1 (wipeE η own) xs S1 [])).bind fun ws S2 => .ok (.lst ws) S2
section
variable {X : Cx} {G : Gs} {tg iter elt : Expr} {ifs : List Expr} {scope : Scope} {f : ME} {g g1 : MG} {t t1 : MT} {it it1 : MI} {is is1 : List Nat} {own : List (Str × Nat)} {pos : Pos}
/-- what holds between turns: D holds what was gathered -/
structure Gat (K : PySem.W.Frag) (G : Gs) (γ0 : Ga) (H0 : Hp) (D : Addr) (γ : Ga) (H : Hp) (S : Store) (acc : List W) : Prop where
  s : StoreOk K G γ H S
  ex : Ext γ0 H0 γ H
  dβ : D ∈ γ.β
  us : ∃ us, H D = some (.lst us) ∧ Reps K G γ H acc us
theorem Gat.step {K : PySem.W.Frag} {γ0 γ γ' : Ga} {H0 H H' : Hp} {D : Addr} {S S' : Store} {acc : List W} (h : Gat K G γ0 H0 D γ H S acc) (e : Ext γ H γ' H') (s : StoreOk K G γ' H' S') : Gat K G γ0 H0 D γ' H' S' acc := by
  obtain ⟨us, h1, h2⟩ := h.us
  exact ⟨s, h.ex.trans e, e.bsub _ h.dβ, us, e.keep D _ h1 (h.s.bt D h.dβ).1, h2.mono e⟩
theorem Gat.put {K : PySem.W.Frag} {γ0 γ : Ga} {H0 H : Hp} {D : Addr} {S : Store} {acc : List W} {w : W} {v : V} (h : Gat K G γ0 H0 D γ H S acc) (hD : H0 D = none) (r : Rep K G γ H w v) (hsz : acc.length + 1 ≤ bigLine) :
    ∃ us, H D = some (.lst us) ∧ us.length < sizeLine ∧ Gat K G γ0 H0 D γ (L2.upd H D (.lst (us ++ [v]))) S (acc ++ [w]) := by
  obtain ⟨us, h1, h2⟩ := h.us
  rw [bigLine_eq] at hsz
  have ll := h2.length
  have n4 := (h.s.bt D h.dβ).1
  refine ⟨us, h1, by omega, h.s.busy h.dβ, ?_, h.dβ, us ++ [v], upd_same, (Reps.busy h.dβ n4 h2).append (.one (Rep.busy h.dβ n4 r))⟩
  have na : ∀ {a : Addr} {o : HO}, H0 a = some o → a ≠ D := fun q => ne_of_none q hD
  exact ⟨h.ex.pre, h.ex.bsub, h.ex.bnew, fun a o q n => by rw [upd_ne (na q)]; exact h.ex.keep a o q n, h.ex.new, fun a o q => by
    obtain ⟨o', q'⟩ := h.ex.dom a o q
    exact ⟨o', by rw [upd_ne (na q)]; exact q'⟩⟩
theorem ExtW.busy {γ γ' : Ga} {H H' : Hp} {D : Addr} {o : HO} (e : ExtW γ H γ' H') (h : D ∈ γ.β) : ExtW γ H γ' (L2.upd H' D o) :=
  ⟨e.pre, e.bsub, e.bnew, fun a u q n => by rw [upd_ne (n.ne h)]; exact e.keep a u q n, e.new, fun a u q => by
    by_cases z : a = D
    · exact ⟨_, by rw [z]; exact upd_same⟩
    · obtain ⟨u', q'⟩ := e.dom a u q
      exact ⟨u', by rw [upd_ne z]; exact q'⟩⟩
/-- the inner loop's turns -/
theorem lc_in {K : PySem.W.Frag} {γ0 γ1 : Ga} {H0 H1 : Hp} {D : Addr} {J : It} {ys : List W} {η : Env} {S1 SF : Store} {σ : L2.St} {acc0 accF : List W} {vs : List Nat} {Nx : Hp → Prop} (hD : H0 D = none) (ok : ItOk K G J ys γ1 H1) (he : EnvOk K G γ1 H1 η σ)
    (gt : Gat K G γ0 H0 D γ1 H1 S1 acc0) (his : ∀ i ∈ is, i ∈ vs) (h : compL g t f (wipeE η vs) ys S1 acc0 = .ok accF SF) (hN : ∀ γ H, Gat K G γ0 H0 D γ H SF accF → Nx H) :
    ∃ Wv : Nat → Nat → Hp → Prop, (∃ k, Wv 0 k H1) ∧ ∀ j k H, Wv j k H →
      (J.stop j H ∧ Nx H) ∨ (J.go j H ∧ ∃ Nx1 : Hp → Prop, (∀ H', Nx1 H' → ∃ k', k' < k ∧ Wv (j + 1) k' H') ∧ ∀ x H', J.yld j H x H' → tgOf K G is g x (wipe σ vs) H' fun σ3 H5 => wipe σ3 vs = wipe σ vs ∧ ttOf K G (fun _ _ _ _ => False) t σ3 H5 fun b H6 =>
        if b = true then tOf K G (fun _ _ _ _ => False) f σ3 H6 fun y H7 => ∃ acc, H7 D = some (.lst acc) ∧ acc.length < sizeLine ∧ Nx1 (L2.upd H7 D (.lst (acc ++ [y]))) else Nx1 H6) := by
  refine ⟨fun j k H => k = ys.length - j ∧ j ≤ ys.length ∧ ∃ S γ acc, Gat K G γ0 H0 D γ H S acc ∧ ExtW γ1 H1 γ H ∧ compL g t f (wipeE η vs) (ys.drop j) S acc = .ok accF SF, ⟨ys.length, rfl, Nat.zero_le _, S1, γ1, acc0, gt, Ext.refl.w, h⟩, ?_⟩
  rintro i m H ⟨rfl, hi, S, γ, acc, gt', ex, hc⟩
  have s := gt'.s
  by_cases hlt : i < ys.length
  · refine .inr ⟨ok.go i γ H S hlt ex s, _, fun H' z => ⟨ys.length - (i + 1), by omega, z⟩, fun x H' y => ?_⟩
    obtain ⟨e1, s1, r1⟩ := ok.yld i ys[i] γ H S x H' (List.getElem?_eq_getElem hlt) ex s y
    have gt1 := gt'.step e1 s1
    have ex1 := ex.trans e1.w
    rw [List.drop_eq_getElem_cons hlt] at hc
    unfold compL at hc
    cases eg : g ys[i] (wipeE η vs) S with
    | none =>
      rw [eg] at hc
      cases hc
    | some z =>
      obtain ⟨η1, S2⟩ := z
      rw [eg] at hc
      have heW : EnvOk K G γ H' η σ := ⟨he.1, fun j w q => by
        obtain ⟨v, h1, h2⟩ := he.2 j w q
        exact ⟨v, h1, (h2.monoW ex).mono e1⟩⟩
      refine ⟨wipeE η vs, S, γ, ys[i], η1, S2, heW.wipe vs, s1, r1, eg, fun σ2 γ2 H2 e2 he2 s2 hl2 hn2 => ⟨?_, ?_⟩⟩
      · rw [wipe_same (σ := wipe σ vs) his hl2 hn2, wipe_wipe]
      · refine ⟨η1, S2, γ2, he2, s2, ?_⟩
        cases et : t η1 S2 with
        | stuck =>
          simp only [et] at hc
          cases hc
        | exc c x S2 =>
          simp only [et] at hc
          cases hc
        | ok b S3 =>
          simp only [et, R.bind] at hc
          intro b' γ3 H3 e3 rb s3
          cases rb
          have gt3 := (gt1.step e2 s2).step e3 s3
          have ex3 := (ex1.trans e2.w).trans e3.w
          cases b with
          | false =>
            rw [if_neg Bool.false_ne_true] at hc ⊢
            exact ⟨rfl, hlt, S3, γ3, acc, gt3, ex3, hc⟩
          | true =>
            rw [if_pos rfl] at hc ⊢
            refine ⟨η1, S3, γ3, he2.mono e3, s3, ?_⟩
            cases ee : f η1 S3 with
            | stuck =>
              simp only [ee] at hc
              cases hc
            | exc c x S3 =>
              simp only [ee] at hc
              cases hc
            | ok w S4 =>
              simp only [ee] at hc
              intro v γ4 H4 e4 r4 s4
              unfold sized at hc
              split at hc
              · rename_i hsz
                have gt4 := gt3.step e4 s4
                obtain ⟨us, h1, h2, h3⟩ := gt4.put hD r4 hsz
                exact ⟨us, h1, h2, rfl, hlt, S4, γ4, acc ++ [w], h3, (ex3.trans e4.w).busy gt.dβ, hc⟩
              · cases hc
  · have e : i = ys.length := by omega
    subst e
    rw [List.drop_length] at hc
    cases hc
    exact .inl ⟨ok.stop γ H _ ex s, hN γ H gt'⟩
theorem Gat.start {K : PySem.W.Frag} {γ0 : Ga} {H0 : Hp} {S0 : Store} {D : Addr} (hs : StoreOk K G γ0 H0 S0) (hD : H0 D = none) : Gat K G γ0 H0 D ⟨γ0.ρ, D :: γ0.β⟩ (L2.upd H0 D (.lst [])) S0 [] := by
  have off := hs.fresh hD
  refine ⟨?_, ?_, List.mem_cons_self .., [], upd_same, .nil⟩
  · have s1 := hs.upd (o := .lst []) hD
    refine ⟨s1.len, s1.nd, fun i c a hc ha => ?_, fun a ha => ?_⟩
    · have q := s1.cell i c a hc ha
      cases c with
      | lst ys =>
        obtain ⟨p1, us, hv, r'⟩ := hs.cell i _ a hc ha
        refine ⟨p1, us, by rw [upd_ne (ne_of_none hv hD)]; exact hv, r'.mono ?_⟩
        exact ⟨List.prefix_refl _, fun b hb => List.mem_cons_of_mem _ hb, fun b hb => (List.mem_cons.mp hb).elim (fun z => .inr (by rw [z]; exact hD)) .inl, fun b u e _ => by rw [upd_ne (ne_of_none e hD)]; exact e, fun _ h1 h2 => absurd h1 h2, fun b u e => ⟨u, by rw [upd_ne (ne_of_none e hD)]; exact e⟩⟩
      | dct _ _ => exact (hs.cell i _ a hc ha).to (fun o f => by rw [upd_ne (ne_of_none f hD)]; exact f) fun _ r => by refine r.mono ?_; exact ⟨List.prefix_refl _, fun b hb => List.mem_cons_of_mem _ hb, fun b hb => (List.mem_cons.mp hb).elim (fun z => .inr (by rw [z]; exact hD)) .inl, fun b u e _ => by rw [upd_ne (ne_of_none e hD)]; exact e, fun _ h1 h2 => absurd h1 h2, fun b u e => ⟨u, by rw [upd_ne (ne_of_none e hD)]; exact e⟩⟩
      | ins _ _ => exact q.elim
    · rcases List.mem_cons.mp ha with z | z
      · rw [z]
        exact ⟨off.1, _, upd_same, fun _ z => nomatch z⟩
      · obtain ⟨n, o, q, nt⟩ := hs.bt a z
        exact ⟨n, o, by rw [upd_ne (ne_of_none q hD)]; exact q, nt⟩
  · exact ⟨List.prefix_refl _, fun b hb => List.mem_cons_of_mem _ hb, fun b hb => (List.mem_cons.mp hb).elim (fun z => .inr (by rw [z]; exact hD)) .inl, fun b u e _ => by rw [upd_ne (ne_of_none e hD)]; exact e, fun _ h1 h2 => absurd h1 h2, fun b u e => ⟨u, by rw [upd_ne (ne_of_none e hD)]; exact e⟩⟩
theorem Gat.done {K : PySem.W.Frag} {γ0 γ : Ga} {H0 H : Hp} {S0 S : Store} {D : Addr} {acc : List W} (hs : StoreOk K G γ0 H0 S0) (hD : H0 D = none) (h : Gat K G γ0 H0 D γ H S acc) :
    ∃ γ', Ext γ0 H0 γ' H ∧ Rep K G γ' H (.lst acc) (.ref D) ∧ StoreOk K G γ' H S := by
  obtain ⟨us, hus, racc⟩ := h.us
  have s := h.s
  have ex := h.ex
  have nD := (s.bt D h.dβ).1
  have fr : Ext γ0 H0 ⟨γ.ρ, γ.β.filter (fun a => decide (a ≠ D))⟩ H := by
    refine ⟨ex.pre, fun a ha => ?_, fun a ha => ex.bnew a (List.mem_filter.mp ha).1, ex.keep, ex.new, ex.dom⟩
    refine List.mem_filter.mpr ⟨ex.bsub a ha, ?_⟩
    obtain ⟨_, o, q, _⟩ := hs.bt a ha
    exact decide_eq_true (ne_of_none q hD)
  have lessO : ∀ (a : Addr) (o : HO), H a = some o → γ.Off a → Ga.Off ⟨γ.ρ, γ.β.filter (fun a => decide (a ≠ D))⟩ a := fun a o _ z => ⟨z.1, fun q => z.2 (List.mem_filter.mp q).1⟩
  have shrs : ∀ {w : List W} {v : List V}, Reps K G γ H w v → Reps K G ⟨γ.ρ, γ.β.filter (fun a => decide (a ≠ D))⟩ H w v := fun r => Reps.shrink (γ := γ) (γ' := ⟨γ.ρ, γ.β.filter (fun a => decide (a ≠ D))⟩) rfl lessO r
  refine ⟨_, fr, .lst hus ⟨nD, fun q => ?_⟩ (shrs racc), s.len, s.nd, fun i c a hc ha => ?_, fun a ha => s.bt a (List.mem_filter.mp ha).1⟩
  · have := (List.mem_filter.mp q).2
    simp at this
  · have q := s.cell i c a hc ha
    cases c with
    | lst ys =>
      obtain ⟨p1, us', hv, r'⟩ := q
      exact ⟨p1, us', hv, shrs r'⟩
    | dct _ _ => exact q.to (fun _ f => f) fun _ r => shrs r
    | ins _ _ => exact q.elim
variable {tg1 iter1 : Expr} {ifs1 : List Expr}
end
end Mp
set_option Elab.async false
set_option linter.all false
set_option maxRecDepth 100000
set_option maxHeartbeats 4000000
/-! Mp: methods. -/
namespace Mp
open PySem PySem.Spec PyProof.Rows L2
/-- what a method does, by the receiver, the arguments, the store -/
abbrev OM := W → List W → Store → Option (W × Store)
/-- the receiver's kind: 3 a text, 4 a tuple, 5 a list -/
def recOk (c : Nat) (S : Store) (x : W) : Bool := match c, x with
  | 3, .str _ => true
  | 5, .lst _ => true
  | 5, .ref i => (match S[i]? with
    | some (.lst _) => true
    | _ => false)
  | 6, .dct _ _ => true
  | 6, .ref i => (match S[i]? with
    | some (.dct _ _) => true
    | _ => false)
  | _, _ => false
def rOM (o : Option (W × Store)) : R W := match o with
  | some (w, S) => .ok w S
  | none => .stuck
def mMeth (c : Nat) (o : OM) (f : ME) (ga : MA) : ME := fun η S => (f η S).bind fun x S1 => if recOk c S1 x = true then (ga η S1).bind fun ws S2 => rOM (o x ws S2) else .stuck
def omAppend : OM := fun x ws S => match x, ws with
  | .ref i, [w] => (match S[i]? with
    | some (.lst xs) => if w.pure = true ∧ xs.length + 1 ≤ bigLine then some (.non, S.set i (.lst (xs ++ [w]))) else none
    | _ => none)
  | _, _ => none
def omExtend : OM := fun x ws S => match x, ws with
  | .ref i, [w] => (match S[i]?, lstOf S w with
    | some (.lst xs), some ys => if pures ys = true ∧ xs.length + ys.length ≤ bigLine then some (.non, S.set i (.lst (xs ++ ys))) else none
    | _, _ => none)
  | _, _ => none
def omPopAt : OM := fun x ws S => match x, ws with
  | .ref i, [.int k] => (match S[i]? with
    | some (.lst xs) => if 0 ≤ k ∧ k < xs.length ∧ k < 9223372036854775808 then (xs[k.toNat]?).map fun w => (w, S.set i (.lst (xs.eraseIdx k.toNat))) else none
    | _ => none)
  | _, _ => none
def omPop : OM := fun x ws S => match x, ws with
  | .ref i, [] => (match S[i]? with
    | some (.lst xs) => (xs[xs.length - 1]?).map fun w => (w, S.set i (.lst xs.dropLast))
    | _ => none)
  | _, _ => none
/-- the place of a sign in '012' -/
def omIndex012 : OM := fun x ws S => match x, ws with
  | .str z, [.str [c]] => if z = [48, 49, 50] then (if c = 48 then some (.int 0, S) else if c = 49 then some (.int 1, S) else if c = 50 then some (.int 2, S) else none) else none
  | _, _ => none
def rmOf (K : PySem.W.Frag) (G : Gs) (o : OM) : V → List V → Hp → VK → Prop := fun x vs H Q => ∃ wx ws S γ w S3, Rep K G γ H wx x ∧ Reps K G γ H ws vs ∧ StoreOk K G γ H S ∧ o wx ws S = some (w, S3) ∧ ∀ v γ' H', Ext γ H γ' H' → Rep K G γ' H' w v → StoreOk K G γ' H' S3 → Q v H'
theorem pures_append : ∀ {xs ys : List W}, pures xs = true → pures ys = true → pures (xs ++ ys) = true
  | [], _, _, h => h
  | x :: r, ys, h, k => by
    rw [pures, Bool.and_eq_true] at h
    show (x.pure && pures (r ++ ys)) = true
    rw [h.1, pures_append h.2 k] <;> rfl
theorem pures_erase : ∀ {xs : List W} (i : Nat), pures xs = true → pures (xs.eraseIdx i) = true
  | [], i, h => by simpa using h
  | x :: r, 0, h => by
    rw [pures, Bool.and_eq_true] at h
    exact h.2
  | x :: r, i + 1, h => by
    rw [pures, Bool.and_eq_true] at h
    show (x.pure && pures (r.eraseIdx i)) = true
    rw [h.1, pures_erase i h.2] <;> rfl
section
variable {X : Cx} {G : Gs} {a e : Expr} {es : List Expr} {apos cpos : Pos} {f : ME} {ga : MA} {T id : String} {name : Str} {o : OM} {c : Nat}
def tyOfC : Nat → String
  | 3 => "str"
  | 6 => "dict"
  | _ => "list"
theorem rec_ty {K : PySem.W.Frag} {γ : Ga} {H : Hp} {S : Store} {w : W} {v : V} (r : Rep K G γ H w v) (s : StoreOk K G γ H S) (h : recOk c S w = true) : tyV K (tyOfC c) v H := by
  unfold recOk at h
  split at h
  · cases r
    rfl
  · cases r with
    | lst h1 o1 q1 => exact .inl ⟨rfl, _, SqL.of h1⟩
  · rename_i i
    cases r with
    | ref hr =>
      split at h
      · rename_i xs hc
        obtain ⟨_, vs, hv, _⟩ := s.cell i _ _ hc hr
        exact .inl ⟨rfl, _, SqL.of hv⟩
      · cases h
  · cases r with
    | dct d f q =>
      refine .inr (.inr (.inl ⟨rfl, ?_⟩))
      rcases d with ⟨_, d, _⟩ | ⟨_, d, _⟩
      · exact .inl ⟨_, d⟩
      · exact .inr ⟨_, d⟩
  · rename_i i
    cases r with
    | ref hr =>
      split at h
      · rename_i xs hc
        obtain ⟨_, _, us, d, _⟩ := s.cell i _ _ hc hr
        refine .inr (.inr (.inl ⟨rfl, ?_⟩))
        rcases d with ⟨_, d, _⟩ | ⟨_, d, _⟩
        · exact .inl ⟨_, d⟩
        · exact .inr ⟨_, d⟩
      · cases h
  · cases h
theorem se_meth (c : Nat) (o : OM) (pa : PlainAttrs (tyOfC c)) (slot : Slot (tyOfC c) name id) (hty : typeOf (.builtin id) = pure (.type "method_descriptor")) (hm : MtR X id (rmOf X.K G o)) (ha : SE X G a f) (hb : SA X G (e :: es) ga)
    (hbase : attributeBase a name X.env (eval a X.env) = eval a X.env := by rfl)
    (hfew : ((backTo cpos (starEach (e :: es) X.env)).all (fun x => !x.1) && (backToKw cpos (keywordEach [] X.env)).all (fun x => x.1.isSome)
      && decide ((e :: es).length + ([] : List Keyword).length + (if ([] : List Keyword).isEmpty then 0 else 1) < 30)) = true := by rfl)
    (hline : (apos.endLine == cpos.line) = true := by rfl) (hs : starEach (e :: es) X.env = (false, eval e X.env) :: starEach es X.env := by rfl) (hplain : (backTo cpos (starEach es X.env)).any (·.1) = false := by rfl) :
    SE X G (.Call (.Attribute a name apos) (e :: es) [] cpos) (mMeth c o f ga) := by
  refine ⟨fun Wi tk => (pe_bm pa slot hty hm (ha.run Wi tk) (hb.run Wi tk) hbase hfew hline hs hplain).imp ?_⟩
  rintro σ H Q ⟨η, S, γ, he, hs, q⟩
  refine ⟨η, S, γ, he, hs, (Post.seq q).imp fun x H1 ⟨wx, S1, γ1, e1, r1, s1, q1⟩ => ?_⟩
  split at q1
  · rename_i hr
    refine ⟨rec_ty r1 s1 hr, η, S1, γ1, he.mono e1, s1, (Post.seq q1).imp fun xs H2 ⟨ws, S2, γ2, e2, r2, s2, q2⟩ => ?_⟩
    cases eo : o wx ws S2 with
    | none =>
      rw [eo] at q2
      exact q2.elim
    | some p =>
      obtain ⟨w, S3⟩ := p
      rw [eo] at q2
      exact ⟨wx, ws, S2, γ2, w, S3, r1.mono e2, r2, s2, eo, q2⟩
  · exact q1.elim
theorem mt_imp {r r' : V → List V → Hp → VK → Prop} (h : MtR X id r) (i : ∀ x xs H Q, r' x xs H Q → r x xs H Q) : MtR X id r' := fun pins s σ H x xs v us Q I r1 r2 q => h pins s σ H x xs v us Q I r1 r2 (i _ _ _ _ q)
theorem om_append : MtR X "list.append" (rmOf X.K G omAppend) := by
  refine mt_imp mt_append ?_
  rintro x xs H Q ⟨wx, ws, S, γ, w, S3, r, rs, s, h, k⟩
  unfold omAppend at h
  split at h
  · rename_i i w1
    cases r with
    | ref hr =>
    cases rs with
    | cons r1 t =>
    cases t
    split at h
    · rename_i ys hc
      split at h
      · rename_i hp
        cases h
        obtain ⟨py, vs, hv, q⟩ := s.cell i _ _ hc hr
        have hl := q.length
        obtain ⟨ex, s'⟩ := s.write (ys := ys ++ [w1]) (us := vs ++ [_]) hc hr (pures_append py (by show (w1.pure && true) = true; rw [hp.1]; rfl)) (q.append (.one r1))
        have := hp.2
        rw [bigLine_eq] at this
        exact ⟨_, _, _, rfl, rfl, hv, by omega, k _ γ _ ex .non s'⟩
      · cases h
    · cases h
  · cases h
theorem om_popAt : MtR X "list.pop" (rmOf X.K G omPopAt) := by
  refine mt_imp mt_popAt ?_
  rintro x xs H Q ⟨wx, ws, S, γ, w, S3, r, rs, s, h, k⟩
  unfold omPopAt at h
  split at h
  · rename_i i j
    cases r with
    | ref hr =>
    cases rs with
    | cons r1 t =>
    cases t
    cases r1
    split at h
    · rename_i ys hc
      split at h
      · rename_i hj
        obtain ⟨py, vs, hv, q⟩ := s.cell i _ _ hc hr
        cases ew : ys[j.toNat]? with
        | none => rw [ew] at h; cases h
        | some w1 =>
          rw [ew] at h
          cases h
          obtain ⟨v, hw, rv⟩ := q.get ew
          obtain ⟨ex, s'⟩ := s.write (ys := ys.eraseIdx j.toNat) (us := vs.eraseIdx j.toNat) hc hr (pures_erase _ py) (q.erase _)
          have hl := q.length
          refine ⟨_, _, _, j.toNat, v, rfl, rfl, hv, by omega, by omega, ?_, hw, k _ γ _ ex (rv.mono ex) s'⟩
          simp only [seqIndex?]
          rw [if_neg (show ¬ j < 0 by omega)]
          have e1 : (decide (0 ≤ j) && decide (j < (vs.length : Int))) = true := by
            rw [Bool.and_eq_true, decide_eq_true_eq, decide_eq_true_eq]
            omega
          rw [if_pos e1]
      · cases h
    · cases h
  · cases h
end
end Mp
set_option Elab.async false
set_option linter.all false
set_option maxRecDepth 100000
set_option maxHeartbeats 4000000
/-! Mp: sorted, of texts, of ints. -/
namespace Mp
open PySem PySem.Spec PyProof.Rows L2
def ltN : List Nat → List Nat → Bool
  | [], [] => false
  | [], _ :: _ => true
  | _ :: _, [] => false
  | a :: r, b :: t => decide (a < b) || (a == b && ltN r t)
theorem ltN_eq : ∀ a b : List Nat, ltCps a b = ltN a b
  | [], [] => rfl
  | [], _ :: _ => rfl
  | _ :: _, [] => rfl
  | a :: r, b :: t => by
    unfold ltCps ltN
    rw [ltN_eq r t]
def insN (x : List Nat) : List (List Nat) → List (List Nat)
  | [] => [x]
  | y :: r => if ltN y x = true then y :: insN x r else x :: y :: r
def sortN : List (List Nat) → List (List Nat)
  | [] => []
  | x :: r => insN x (sortN r)
theorem ltN_asym : ∀ {a b : List Nat}, ltN a b = true → ltN b a = false
  | [], [], h => rfl
  | [], _ :: _, h => rfl
  | _ :: _, [], h => by cases h
  | a :: r, b :: t, h => by
    unfold ltN at h ⊢
    rw [Bool.or_eq_true, decide_eq_true_eq, Bool.and_eq_true, beq_iff_eq] at h
    rw [Bool.or_eq_false_iff, decide_eq_false_iff_not, Bool.and_eq_false_iff]
    rcases h with h | ⟨h1, h2⟩
    · exact ⟨by omega, .inl (by rw [beq_eq_false_iff_ne]; omega)⟩
    · exact ⟨by omega, .inr (ltN_asym h2)⟩
theorem ltN_ntrans : ∀ {a b c : List Nat}, ltN b a = false → ltN c b = false → ltN c a = false
  | [], [], [], _, _ => rfl
  | [], [], _ :: _, _, h => by cases h; rfl
  | [], _ :: _, [], h, _ => rfl
  | [], b :: t, c :: u, h, k => by cases h; rfl
  | _ :: _, [], _, h, _ => by cases h
  | a :: r, b :: t, [], h, k => by cases k
  | a :: r, b :: t, c :: u, h, k => by
    unfold ltN at h k ⊢
    rw [Bool.or_eq_false_iff, decide_eq_false_iff_not, Bool.and_eq_false_iff, beq_eq_false_iff_ne] at h k ⊢
    refine ⟨by omega, ?_⟩
    by_cases e : c = a
    · subst e
      have e2 : b = c := by omega
      subst e2
      rcases h.2 with z | z
      · exact absurd rfl z
      · rcases k.2 with y | y
        · exact absurd rfl y
        · exact .inr (ltN_ntrans z y)
    · exact .inl e
theorem ltN_tot : ∀ {a b : List Nat}, ltN a b = false → ltN b a = false → a = b
  | [], [], _, _ => rfl
  | [], _ :: _, h, _ => by cases h
  | _ :: _, [], _, h => by cases h
  | a :: r, b :: t, h, k => by
    unfold ltN at h k
    rw [Bool.or_eq_false_iff, decide_eq_false_iff_not, Bool.and_eq_false_iff, beq_eq_false_iff_ne] at h k
    have e : a = b := by omega
    subst e
    rcases h.2 with z | z
    · exact absurd rfl z
    · rcases k.2 with y | y
      · exact absurd rfl y
      · rw [ltN_tot z y]
theorem insN_perm (x : List Nat) : ∀ l, (insN x l).Perm (x :: l)
  | [] => .refl _
  | y :: r => by
    unfold insN
    split
    · exact ((insN_perm x r).cons y).trans (.swap x y r)
    · exact .refl _
theorem sortN_perm : ∀ l, (sortN l).Perm l
  | [] => .refl _
  | x :: r => (insN_perm x _).trans ((sortN_perm r).cons x)
abbrev AscN (l : List (List Nat)) : Prop := l.Pairwise fun a b => ltN b a = false
theorem insN_asc (x : List Nat) : ∀ {l}, AscN l → AscN (insN x l)
  | [], _ => List.pairwise_singleton _ _
  | y :: r, h => by
    have hr := List.pairwise_cons.mp h
    unfold insN
    split
    · rename_i hy
      refine List.pairwise_cons.mpr ⟨fun z hz => ?_, insN_asc x hr.2⟩
      rcases List.mem_cons.mp ((insN_perm x r).mem_iff.mp hz) with e | e
      · rw [e]; exact ltN_asym hy
      · exact hr.1 z e
    · rename_i hy
      have hy : ltN y x = false := by simpa using hy
      refine List.pairwise_cons.mpr ⟨fun z hz => ?_, h⟩
      rcases List.mem_cons.mp hz with e | e
      · rw [e]; exact hy
      · exact ltN_ntrans hy (hr.1 z e)
theorem sortN_asc : ∀ l, AscN (sortN l)
  | [] => List.Pairwise.nil
  | x :: r => insN_asc x (sortN_asc r)
theorem asc_of_sortedS : ∀ {l : List Str}, sortedS l = true → AscN (l.map fun s => s.cps.toList)
  | [], _ => List.Pairwise.nil
  | [x], _ => List.pairwise_singleton _ _
  | x :: y :: r, h => by
    have h : (!ltCps y.cps.toList x.cps.toList && sortedS (y :: r)) = true := h
    rw [Bool.and_eq_true, Bool.not_eq_true', ltN_eq] at h
    have ih := asc_of_sortedS h.2
    have ih' := List.pairwise_cons.mp ih
    refine List.pairwise_cons.mpr ⟨fun z hz => ?_, ih⟩
    rcases List.mem_cons.mp hz with e | e
    · rw [e]; exact h.1
    · exact ltN_ntrans h.1 (ih'.1 z e)
theorem sort_unique {l : List (List Nat)} {ys : List Str} (p : (ys.map fun s => s.cps.toList).Perm l) (h : sortedS ys = true) : ys.map (fun s => s.cps.toList) = sortN l :=
  List.Perm.eq_of_pairwise (le := fun a b => ltN b a = false) (fun a b _ _ h k => ltN_tot k h) (asc_of_sortedS h) (sortN_asc l) (p.trans (sortN_perm l).symm)
def insZ (x : Int) : List Int → List Int
  | [] => [x]
  | y :: r => if y < x then y :: insZ x r else x :: y :: r
def sortZ : List Int → List Int
  | [] => []
  | x :: r => insZ x (sortZ r)
theorem insZ_perm (x : Int) : ∀ l, (insZ x l).Perm (x :: l)
  | [] => .refl _
  | y :: r => by
    unfold insZ
    split
    · exact ((insZ_perm x r).cons y).trans (.swap x y r)
    · exact .refl _
theorem sortZ_perm : ∀ l, (sortZ l).Perm l
  | [] => .refl _
  | x :: r => (insZ_perm x _).trans ((sortZ_perm r).cons x)
theorem insZ_asc (x : Int) : ∀ {l : List Int}, l.Pairwise (· ≤ ·) → (insZ x l).Pairwise (· ≤ ·)
  | [], _ => List.pairwise_singleton _ _
  | y :: r, h => by
    have hr := List.pairwise_cons.mp h
    unfold insZ
    split
    · rename_i hy
      refine List.pairwise_cons.mpr ⟨fun z hz => ?_, insZ_asc x hr.2⟩
      rcases List.mem_cons.mp ((insZ_perm x r).mem_iff.mp hz) with e | e
      · omega
      · exact hr.1 z e
    · rename_i hy
      refine List.pairwise_cons.mpr ⟨fun z hz => ?_, h⟩
      rcases List.mem_cons.mp hz with e | e
      · omega
      · have := hr.1 z e
        omega
theorem sortZ_asc : ∀ l, (sortZ l).Pairwise (· ≤ ·)
  | [] => List.Pairwise.nil
  | x :: r => insZ_asc x (sortZ_asc r)
theorem sortZ_unique {l ys : List Int} (p : ys.Perm l) (h : ys.Pairwise (· ≤ ·)) : ys = sortZ l :=
  List.Perm.eq_of_pairwise (le := (· ≤ ·)) (fun a b _ _ h k => Int.le_antisymm h k) h (sortZ_asc l) (p.trans (sortZ_perm l).symm)
section
variable {prog : Program} {w : World} {A : Around} {E : Value → Shared → Prop} {s : Shared}
/-- the items of a tuple, gathered into a list -/
theorem gather_tup {l : Addr} {vs : List Value} {o : Obj} {n : Nat} {Q : List Value → Shared → Prop} (ho : s.heap.get? l = some o) (hc : o.cls = .type "tuple") (hd : o.data = .seq vs.toArray n) (hsz : vs.length ≤ sizeLine)
    (h : Q vs { s with heap := (s.heap.push (seqObj "list" #[] 0)).update s.heap.objs.size (Obj.mapSeq (· ++ vs.toArray)) }) : wpAny (model prog w) A (collect (.ref l)) Q E s := by
  unfold collect; refine wpAny_bind (wpAny_runValue (codeAny_builtin PyProof.Rows.entry_proto_collect' ?_))
  show wpAny _ _ (do again (.builtin "list.__iadd__" ⟨[← newList [], .ref l], []⟩)) _ _ s; refine wpAny_bind (wpAny_newList (wpAny_pure ⟨Code.quiet_builtin _ (by decide +kernel), codeAny_builtin PyProof.Rows.entry_list_iadd' ?_⟩))
  show wpAny _ _ (Builtin.List.listExtendWith (.ref s.heap.objs.size) (.ref l) (.ref s.heap.objs.size)) _ _ { s with heap := s.heap.push (seqObj "list" #[] 0) }; unfold Builtin.List.listExtendWith
  have ho' : (s.heap.push (seqObj "list" #[] 0)).get? l = some o := Heap.get?_push_of_some _ ho
  refine wpAny_bind (wpAny_typeOf (T := "tuple") ⟨o, ho', hc⟩ ?_)
  have ht : (Value.type "tuple" == Value.type "tuple") = true := by rfl
  rw [if_pos (by rw [ht]; simp)]; refine wpAny_bind (listItems_at ho' hd ?_); refine wpAny_bind (listItems_at (xs := #[]) (n := 0) (Heap.get?_push_size _ rfl) rfl ?_)
  rw [if_neg (by simp)]; refine wpAny_bind (listUpdate_at (xs := #[]) (n := 0) (Heap.get?_push_size _ rfl) rfl ?_ (Nat.zero_le _) (by show (#[] ++ vs.toArray).size ≤ sizeLine + 1; simp only [Array.size_append, List.size_toArray, List.length_nil]; omega))
  refine wpAny_pure ?_
  show wpAny (model prog w) A (do let o ← load s.heap.objs.size; match o.data with | .seq xs _ => pure xs.toList | _ => unsupported "internal:collect") Q E { s with heap := (s.heap.push (seqObj "list" #[] 0)).update s.heap.objs.size (Obj.mapSeq (· ++ vs.toArray)) }
  refine wpAny_bind (wpAny_load (get?_update_seq (Heap.get?_push_size _ rfl) _) ?_)
  show wpAny _ _ (pure ((#[] : Array Value) ++ vs.toArray).toList) Q E _
  rw [show ((#[] : Array Value) ++ vs.toArray).toList = vs by simp]; exact wpAny_pure h
theorem sort_tup {l : Addr} {vs : List Value} {o : Obj} {n : Nat} {κ : KeyKind} (hO : κ.OneLt) {Q : Value → Shared → Prop} (ho : s.heap.get? l = some o) (hc : o.cls = .type "tuple") (hd : o.data = .seq vs.toArray n) (h0 : KeysOf κ (pairsOf vs))
    (hkk : ∀ v₁ v₂ rest, vs = v₁ :: v₂ :: rest → keyKind' (v₁ :: v₂ :: rest).toArray = pure oneType') (hL : vs.length ≤ sizeLine)
    (h : ∀ st' : SortSt, (arrOf st').Perm (pairsOf vs) → SortedToK κ (arrOf st') (pairsOf vs).size → Q (.ref (s.heap.objs.size + 1)) { s with heap := sortedAll s.heap vs ((arrOf st').map (·.2)) }) : wpAny (model prog w) A (call (.builtin "sorted") [.ref l]) Q E s := by
  refine Calls.call_function_entry kind_sorted plain_sorted entry_sorted (args_sorted1 _) ?_; unfold Builtin.«sorted»
  refine wpAny_bind (m := checkCount "sorted" 1 1 _) (wpAny_pure ?_); refine wpAny_bind (gather_tup ho hc hd hL ?_); refine wpAny_bind (wpAny_newList ?_)
  have hsz : ((s.heap.push (seqObj "list" #[] 0)).update s.heap.objs.size (Obj.mapSeq (· ++ vs.toArray))).objs.size = s.heap.objs.size + 1 := by rw [Heap.size_update, size_push']
  have hoL : (((s.heap.push (seqObj "list" #[] 0)).update s.heap.objs.size (Obj.mapSeq (· ++ vs.toArray))).push (seqObj "list" vs.toArray 0)).get? (s.heap.objs.size + 1) = some (seqObj "list" vs.toArray 0) := by rw [← hsz]; exact Heap.get?_push_size _ rfl
  show wpAny _ _ _ _ _ { s with heap := ((s.heap.push (seqObj "list" #[] 0)).update s.heap.objs.size (Obj.mapSeq (· ++ vs.toArray))).push (seqObj "list" vs.toArray 0) }; rw [hsz]
  refine wpAny_bind (wpAny_holding (wpAny_call_entry slot_list_sort ⟨_, hoL, rfl⟩ entry_list_sort (list_sort_treeKAny hO hoL h0 hkk hL fun st' a1 a2 => ⟨_, rfl, ?_⟩) (args_list_sort _)))
  exact wpAny_pure ⟨_, rfl, h st' a1 a2⟩
end
def isTup : W → Bool
  | .tup _ => true
  | _ => false
def sortedRes (t : Bool) (ys : List W) : Option W := match strsOf ys with
  | some zs => some (.lst ((sortN zs).map .str))
  | none => if t = true then none else (intsOf ys).map fun ns => .lst ((sortZ ns).map .int)
def baSorted : OA := fun xs S => match xs with
  | [x] => (seqOf S x).bind (sortedRes (isTup x))
  | _ => none
section
variable {X : Cx} {G : Gs}
theorem reps_of_strs {K : PySem.W.Frag} {γ : Ga} {H : Hp} : ∀ {zs : List (List Nat)}, (∀ z ∈ zs, (∀ c ∈ z, c < 0x110000) ∧ z.length ≤ sizeLine) → Reps K G γ H (zs.map W.str) ((zs.map fun l => (⟨l.toArray⟩ : Str)).map V.str)
  | [], _ => .nil
  | z :: r, h => .cons (.str z (h z (List.mem_cons_self ..)).1 (h z (List.mem_cons_self ..)).2) (reps_of_strs fun y hy => h y (List.mem_cons_of_mem _ hy))
theorem reps_of_ints {K : PySem.W.Frag} {γ : Ga} {H : Hp} : ∀ {zs : List Int}, Reps K G γ H (zs.map W.int) (zs.map V.int)
  | [] => .nil
  | z :: r => .cons (.int z) reps_of_ints
theorem strs_size {K : PySem.W.Frag} {γ : Ga} {H : Hp} : ∀ {xs : List W} {vs : List V} {ns : List (List Nat)}, Reps K G γ H xs vs → strsOf xs = some ns → ∀ l ∈ ns, (∀ c ∈ l, c < 0x110000) ∧ l.length ≤ sizeLine
  | [], _, _, _, h => by cases h; simp
  | x :: r, _, ns, .cons q t, h => by
    cases q with
    | str s h1 h2 =>
      have h : (strsOf r).map (s :: ·) = some ns := h
      cases e : strsOf r with
      | none => rw [e] at h; cases h
      | some ms =>
        rw [e] at h
        cases h
        intro l hl
        rcases List.mem_cons.mp hl with z | z
        · rw [z]; exact ⟨h1, h2⟩
        · exact strs_size t e l z
    | _ => simp [strsOf] at h
theorem intsOf_reps' {K : PySem.W.Frag} {γ : Ga} {H : Hp} : ∀ {xs : List W} {vs : List V} {ns : List Int}, Reps K G γ H xs vs → intsOf xs = some ns → vs = ns.map V.int
  | [], _, _, .nil, h => by cases h; rfl
  | x :: r, _, ns, .cons q t, h => by
    cases q with
    | int i =>
      have h : (intsOf r).map (i :: ·) = some ns := h
      cases e : intsOf r with
      | none => rw [e] at h; cases h
      | some ms =>
        rw [e] at h
        cases h
        rw [intsOf_reps' t e] <;> rfl
    | _ => simp [intsOf] at h
theorem strs_ext (ys : List Str) : ys = (ys.map fun s => s.cps.toList).map fun l => (⟨l.toArray⟩ : Str) := by
  rw [List.map_map]
  conv => lhs; rw [← List.map_id ys]
  exact List.map_congr_left fun s _ => rfl
theorem sorted_post {s : Shared} {pins : List (Addr × Obj)} {σ : L2.St} {H : Hp} {Q : VK} {S : Store} {γ : Ga} {its : List Value} {zs : List (List Nat)} (I : Inv X pins σ H s) (ss : StoreOk X.K G γ H S) (hz : ∀ l ∈ zs, (∀ c ∈ l, c < 0x110000) ∧ l.length ≤ sizeLine) (hsz : zs.length ≤ sizeLine)
    (k : ∀ (v : V) (γ' : Ga) (H' : Hp), Ext γ H γ' H' → Rep X.K G γ' H' (.lst ((sortN zs).map .str)) v → StoreOk X.K G γ' H' S → Q v H') (out : Array Value) (ss' : List Str) (h1 : StrsAre out.toList ss') (h2 : ss'.Perm (zs.map fun l => (⟨l.toArray⟩ : Str))) (h3 : sortedS ss' = true) :
    EP X pins σ Q (.ref (s.heap.objs.size + 1)) { s with heap := sortedAll s.heap its out } := by
  obtain ⟨ep, he'⟩ := PyProof.Rows.sortedAll_at s.heap its out
  have hp : (ss'.map fun s => s.cps.toList).Perm zs := by
    have q := h2.map fun s => s.cps.toList
    rw [List.map_map] at q
    have e : zs.map ((fun s : Str => s.cps.toList) ∘ fun l => (⟨l.toArray⟩ : Str)) = zs := by
      conv => rhs; rw [← List.map_id zs]
      exact List.map_congr_left fun l _ => by simp
    rw [e] at q
    exact q
  have e := sort_unique hp h3
  have e2 : ss' = (sortN zs).map fun l => (⟨l.toArray⟩ : Str) := by rw [← e]; exact strs_ext ss'
  have hf : H (s.heap.objs.size + 1) = none := I.hok.fresh (Nat.le_succ _)
  have hlen : (ss'.map V.str).length ≤ sizeLine := by
    rw [List.length_map, h2.length_eq, List.length_map]
    exact hsz
  have hr : ∀ {γ' : Ga} {H' : Hp}, Reps X.K G γ' H' ((sortN zs).map W.str) (ss'.map V.str) := fun {γ' H'} => by
    rw [e2]
    exact reps_of_strs fun z hz' => hz z ((sortN_perm zs).mem_iff.mp hz')
  exact ⟨.ref _, upd H (s.heap.objs.size + 1) (.lst (ss'.map V.str)), I.laid (t' := s.toks) (fun _ _ => PyProof.Rows.sortedAll_old) (Nat.le_succ _) ⟨hlen, out.toList, ep, vals_of_strs h1, he'⟩, rfl, k _ γ _ (Ext.upd ss hf) (.lst upd_same (ss.fresh hf) hr) (ss.upd hf)⟩
theorem cr_sortedW : CallR X (.builtin "sorted") (raOf X.K G baSorted) := by
  intro pins s σ H xs us Q I r0 q
  obtain ⟨ws, S, γ, w, rs, ss, h, k⟩ := q
  unfold baSorted at h
  split at h
  · rename_i x
    cases rs with
    | cons r t =>
    cases t
    cases es : seqOf S x with
    | none => rw [es] at h; cases h
    | some ys =>
      rw [es] at h
      replace h : sortedRes (isTup x) ys = some w := h
      have lcase : ∀ {a : Addr} {vs : List V}, SqL X.K H a vs → Reps X.K G γ H ys vs → Vals [V.ref a] us → isTup x = false → wpAny (model X.prog X.w) X.A (call (.builtin "sorted") us) (EP X pins σ Q) X.xe s := by
        intro a vs hq rr r0 hx
        rw [hx] at h
        obtain ⟨its, rv, hl, hlz⟩ := I.list hq
        rw [Vals.ref1 r0]
        have hl0 := rv.length
        unfold sortedRes at h
        split at h
        · rename_i zs ez
          cases h
          obtain ⟨ev, _⟩ := strsOf_reps rr ez
          subst ev
          have lz : zs.length ≤ sizeLine := by rw [List.length_map, List.length_map] at hlz; exact hlz
          exact PyProof.Rows.sorted_strsAny hl.isList rv.strs (by rw [← hl0]; exact hlz) fun out ss' h1 h2 h3 => sorted_post I ss (strs_size rr ez) lz k out ss' h1 h2 h3
        · rw [if_neg (by decide)] at h
          cases ei : intsOf ys with
          | none => rw [ei] at h; cases h
          | some ns =>
            rw [ei] at h
            cases h
            have ev := intsOf_reps' rr ei
            subst ev
            have hi := rv.ints
            refine cr_sortedI pins s σ H [V.ref a] [.ref a] Q I (by have := r0; rw [Vals.ref1 r0] at this; exact this) ⟨a, ns, rfl, hq, fun ns' p hp ha hn => ?_⟩
            rw [sortZ_unique hp ha]
            exact k _ γ _ (Ext.upd ss hn) (.lst upd_same (ss.fresh hn) reps_of_ints) (ss.upd hn)
      cases r with
      | tup fr rr =>
        cases es
        have hx : isTup (W.tup ys) = true := rfl
        unfold sortedRes at h
        split at h
        · rename_i zs ez
          cases h
          obtain ⟨its, rv, pl, hlz⟩ := I.tuple fr.sq
          rw [Vals.ref1 r0]
          obtain ⟨ev, _⟩ := strsOf_reps rr ez
          subst ev
          have hl0 := rv.length
          have lz : zs.length ≤ sizeLine := by rw [List.length_map, List.length_map] at hlz; exact hlz
          obtain ⟨o, ho, hc, n, hd⟩ := pl
          refine sort_tup strKind_oneLt ho hc hd rv.strs.keysOf (fun v₁ v₂ rest e => keyKind_strs (by rw [← e]; exact rv.strs)) (by rw [← hl0]; exact hlz) fun st' hp hs => ?_
          obtain ⟨ss', h1, h2, h3⟩ := sorted_out_str rv.strs hp hs
          exact sorted_post I ss (strs_size rr ez) lz k _ ss' h1 h2 h3
        · rw [if_pos hx] at h
          cases h
      | lst h1 o1 rr =>
        have e : seqOf S (W.lst _) = some _ := es
        obtain ⟨a, vs, ev, hv, q⟩ := lst_or ss (show lstOf S (W.lst _) = some ys from es) (.lst h1 o1 rr)
        cases ev
        exact lcase hv q r0 rfl
      | ref hr =>
        obtain ⟨a, vs, ev, hv, q⟩ := lst_or ss (show lstOf S (W.ref _) = some ys from es) (.ref hr)
        cases ev
        exact lcase hv q r0 rfl
      | _ => cases es
  · cases h
end
end Mp
set_option Elab.async false
set_option linter.all false
set_option maxRecDepth 100000
set_option maxHeartbeats 4000000
/-! Mp: three at once; comprehensions whose list changes later. -/
namespace Mp
open PySem PySem.Spec PyProof.Rows L2
section
variable {X : Cx} {G : Gs} {a b c : Expr} {ga : MA} {pos : Pos}
end
theorem ItOk.mono {K : PySem.W.Frag} {G : Gs} {J : It} {xs : List W} {γ0 γ1 : Ga} {H0 H1 : Hp} (h : ItOk K G J xs γ0 H0) (e : ExtW γ0 H0 γ1 H1) : ItOk K G J xs γ1 H1 :=
  ⟨fun i γ H S hi x s => h.go i γ H S hi (e.trans x) s, fun γ H S x s => h.stop γ H S (e.trans x) s, fun i w γ H S x H' hw ex s y => h.yld i w γ H S x H' hw (e.trans ex) s y⟩
def mCompS (it : MI) (own : List Nat) (g : MG) (t : MT) (e : ME) : ME := fun η S => (it η S).bind fun xs S1 => (noexc (compL g t e (wipeE η own) xs S1 [])).bind fun ws S2 => if pures ws = true then .ok (.ref S2.length) (S2 ++ [.lst ws]) else .stuck
section
variable {X : Cx} {G : Gs} {tg iter elt : Expr} {ifs : List Expr} {scope : Scope} {f : ME} {g : MG} {t : MT} {it : MI} {is : List Nat} {own : List (Str × Nat)} {pos : Pos}
theorem Gat.doneS {K : PySem.W.Frag} {γ0 γ : Ga} {H0 H : Hp} {S0 S : Store} {D : Addr} {acc : List W} (hs : StoreOk K G γ0 H0 S0) (hD : H0 D = none) (h : Gat K G γ0 H0 D γ H S acc) (hp : pures acc = true) :
    ∃ γ', Ext γ0 H0 γ' H ∧ Rep K G γ' H (.ref S.length) (.ref D) ∧ StoreOk K G γ' H (S ++ [.lst acc]) := by
  obtain ⟨us, hus, racc⟩ := h.us
  have s := h.s
  have ex := h.ex
  have nD := (s.bt D h.dβ).1
  have ol : S.length = γ.ρ.length := s.len.symm
  have lessO : ∀ (a : Addr) (o : HO), H a = some o → γ.Off a → Ga.Off ⟨γ.ρ ++ [D], γ.β.filter (fun a => decide (a ≠ D))⟩ a := fun a o _ z => ⟨fun q => (List.mem_append.mp q).elim z.1 fun q => z.2 ((show a = D by simpa using q) ▸ h.dβ), fun q => z.2 (List.mem_filter.mp q).1⟩
  refine ⟨⟨γ.ρ ++ [D], γ.β.filter (fun a => decide (a ≠ D))⟩, ⟨ex.pre.trans (List.prefix_append _ _), fun a ha => ?_, fun a ha => ex.bnew a (List.mem_filter.mp ha).1, ex.keep, fun a h1 h2 => ?_, ex.dom⟩, .ref ?_, ?_, ?_, fun i c a hc ha => ?_, fun a ha => ⟨fun z => ?_, (s.bt a (List.mem_filter.mp ha).1).2⟩⟩
  · refine List.mem_filter.mpr ⟨ex.bsub a ha, ?_⟩
    obtain ⟨_, o, q, _⟩ := hs.bt a ha
    exact decide_eq_true (ne_of_none q hD)
  · rcases List.mem_append.mp h1 with z | z
    · exact ex.new a z h2
    · have e : a = D := by simpa using z
      rw [e]; exact hD
  · show (γ.ρ ++ [D])[S.length]? = some D
    rw [ol, List.getElem?_append_right (Nat.le_refl _), Nat.sub_self] <;> rfl
  · show (γ.ρ ++ [D]).length = (S ++ [Cell.lst acc]).length
    rw [List.length_append, List.length_append, s.len] <;> rfl
  · show (γ.ρ ++ [D]).Nodup
    rw [List.nodup_append]
    exact ⟨s.nd, by simp, fun b hb c hc => by
      have z : c = D := by simpa using hc
      rw [z]
      rintro rfl
      exact nD hb⟩
  · by_cases hi : i < S.length
    · rw [List.getElem?_append_left hi] at hc
      have ha2 : γ.ρ[i]? = some a := by
        have z : (γ.ρ ++ [D])[i]? = some a := ha
        rwa [List.getElem?_append_left (by rw [← ol]; exact hi)] at z
      have q := s.cell i c a hc ha2
      cases c with
      | lst ys =>
        obtain ⟨p1, us', hv, r'⟩ := q
        exact ⟨p1, us', hv, Reps.less lessO p1 r'⟩
      | dct _ _ => exact q.to (fun _ f => f) fun p r => Reps.less lessO p r
      | ins _ _ => exact q.elim
    · have hlt := (List.getElem?_eq_some_iff.mp hc).1
      rw [List.length_append, List.length_singleton] at hlt
      have ei : i = S.length := by omega
      subst ei
      rw [List.getElem?_append_right (Nat.le_refl _), Nat.sub_self] at hc
      have z1 : Cell.lst acc = c := by simpa using hc
      subst z1
      have z2 : D = a := by
        have z : (γ.ρ ++ [D])[S.length]? = some a := ha
        rw [ol, List.getElem?_append_right (Nat.le_refl _), Nat.sub_self] at z
        simpa using z
      subst z2
      exact ⟨hp, us, hus, Reps.less lessO hp racc⟩
  · rcases List.mem_append.mp z with z | z
    · exact (s.bt a (List.mem_filter.mp ha).1).1 z
    · have e : a = D := by simpa using z
      have := (List.mem_filter.mp ha).2
      rw [e] at this
      simp at this
theorem compS_read {Wi : WX} {Q : VK} {σ : L2.St} {H : Hp} (his : ∀ i ∈ is, i ∈ own.map (·.2)) (q : tOf X.K G Wi (mCompS it (own.map (·.2)) g t f) σ H Q) :
    tLc (tiOf X.K G Wi it) (tgOf X.K G is g) (ttOf X.K G (fun _ _ _ _ => False) t) (tOf X.K G (fun _ _ _ _ => False) f) (own.map (·.2)) σ H Q := by
  obtain ⟨η, S, γ, he, hs, q⟩ := q
  refine ⟨η, S, γ, he, hs, ?_⟩
  have q : Post X.K G (Rep X.K G) (fun c d H' => Wi c d σ H') γ H ((it η S).bind fun xs S1 => (noexc (compL g t f (wipeE η (own.map (·.2))) xs S1 [])).bind fun ws S2 => if pures ws = true then .ok (.ref S2.length) (S2 ++ [.lst ws]) else .stuck) Q := q
  cases ei : it η S with
  | stuck =>
    rw [ei] at q
    exact q.elim
  | exc c x S1 =>
    rw [ei] at q
    exact q
  | ok xs S1 =>
    rw [ei] at q
    intro J γ1 H1 e1 s1 ok D hD
    have q : Post X.K G (Rep X.K G) (fun c d H' => Wi c d σ H') γ H ((noexc (compL g t f (wipeE η (own.map (·.2))) xs S1 [])).bind fun ws S2 => if pures ws = true then .ok (.ref S2.length) (S2 ++ [.lst ws]) else .stuck) Q := q
    cases ec : compL g t f (wipeE η (own.map (·.2))) xs S1 [] with
    | stuck =>
      rw [ec] at q
      exact q.elim
    | exc c x S2 =>
      rw [ec] at q
      exact q.elim
    | ok ws S2 =>
      rw [ec] at q
      have q : Post X.K G (Rep X.K G) (fun c d H' => Wi c d σ H') γ H (if pures ws = true then .ok (.ref S2.length) (S2 ++ [.lst ws]) else .stuck) Q := q
      by_cases hp : pures ws = true
      · rw [if_pos hp] at q
        have gt := Gat.start (G := G) s1 hD
        exact lc_in (Nx := fun H' => Q (.ref D) H') hD (ok.mono gt.ex.w) ((he.mono e1).mono gt.ex) gt his ec fun γ2 H2 g2 => by
          obtain ⟨γ', x1, x2, x3⟩ := g2.doneS s1 hD hp
          exact q _ γ' H2 (e1.trans x1) x2 x3
      · rw [if_neg hp] at q
        exact q.elim
theorem ss_setLcS {y : Str} {py : Pos} {spos : Pos} (i : Nat) (own : List (Str × Nat)) (cf : Cfg X) (hi : SI X G tg iter it) (ok : BlkOk X.N X.env.scope scope own)
    (hg : ∀ (s : Shared) (H : Hp) (C : Addr) (cl : List (Str × Addr)) (fp : List Addr), Cfg (X.blk s H scope (compEnvC scope cl C X.env) fp) → SG (X.blk s H scope (compEnvC scope cl C X.env) fp) G tg is g)
    (ht : ∀ (s : Shared) (H : Hp) (C : Addr) (cl : List (Str × Addr)) (fp : List Addr), Cfg (X.blk s H scope (compEnvC scope cl C X.env) fp) → STs (X.blk s H scope (compEnvC scope cl C X.env) fp) G ifs t)
    (he : ∀ (s : Shared) (H : Hp) (C : Addr) (cl : List (Str × Addr)) (fp : List Addr), Cfg (X.blk s H scope (compEnvC scope cl C X.env) fp) → SE (X.blk s H scope (compEnvC scope cl C X.env) fp) G elt f)
    (hy : X.N[i]? = some y := by rfl) (hyl : X.env.scope.names.lookup y = some .local := by rfl)
    (hsw : swapsWith (.ListComp elt [⟨tg, iter, ifs, 0⟩] scope pos) (some (.Name y py)) spos.line X.env = pure true := by exact sw_true rfl rfl rfl (by decide +kernel))
    (his : ∀ i ∈ is, i ∈ own.map (·.2) := by decide) (hs : ∀ x, foldedSetIterable iter X.env x = pure x := by intro _; rfl) :
    SS X G (.Assign [.Name y py] (.ListComp elt [⟨tg, iter, ifs, 0⟩] scope pos) spos) (sSet i (mCompS it (own.map (·.2)) g t f)) := by
  refine ⟨fun Wi tk => (ps_setLc (i := i) (g := tgOf X.K G is g) (tt := ttOf X.K G (fun _ _ _ _ => False) t) (te := tOf X.K G (fun _ _ _ _ => False) f) cf.calm cf.nd hy hyl hsw (hi.run Wi tk) ok (fun s H C cl fp => (hg s H C cl fp (cf.blk ..)).run) (fun s H C cl fp => (ht s H C cl fp (cf.blk ..)).run _ takes0) (fun s H C cl fp => (he s H C cl fp (cf.blk ..)).run _ takes0) hs).imp ?_⟩
  rintro D σ H ⟨η, S, γ, he, hs, q⟩
  refine compS_read his ⟨η, S, γ, he, hs, (PostS.expr he q).imp fun v H1 ⟨w, S1, γ1, e1, r1, s1, q1⟩ => q1 _ γ1 H1 Ext.refl ((he.mono e1).set r1 i) s1⟩
end
end Mp
set_option Elab.async false
set_option linter.all false
set_option maxRecDepth 100000
set_option maxHeartbeats 4000000
/-! Mp: a list of the store is walked: each turn reads it anew. -/
namespace Mp
open PySem PySem.Spec PyProof.Rows L2
def itemR (r i : Nat) (S : Store) : Option (Option W) := match S[r]? with
  | some (.lst xs) => some xs[i]?
  | _ => none
def forR (g : MG) (b : MS) (r : Nat) : Nat → Nat → Env → Store → RS
  | 0, _, _, _ => .stuck
  | n + 1, i, η, S => match itemR r i S with
    | none => .stuck
    | some none => .nx η S
    | some (some x) => (match g x η S with
      | none => .stuck
      | some (η1, S1) => (match b η1 S1 with
        | .nx η2 S2 => forR g b r n (i + 1) η2 S2
        | .ct η2 S2 => forR g b r n (i + 1) η2 S2
        | .bk η2 S2 => .nx η2 S2
        | r => r))
def refI : W → Option Nat
  | .ref r => some r
  | _ => none
def forD (g : MG) (b : MS) (η : Env) (w : W) (S : Store) : RS := match refI w with
  | some r => forR g b r 1000000 0 η S
  | none => (match seqI w with
    | some xs => forL g b xs η S
    | none => .stuck)
def sForD (f : ME) (g : MG) (b : MS) : MS := fun η S => (f η S).toS η (forD g b η)
def compR (g : MG) (t : MT) (e : ME) (η : Env) (r : Nat) : Nat → Nat → Store → List W → R (List W)
  | 0, _, _, _ => .stuck
  | n + 1, i, S, acc => match itemR r i S with
    | none => .stuck
    | some none => .ok acc S
    | some (some x) => (match g x η S with
      | none => .stuck
      | some (η1, S1) => (t η1 S1).bind fun b S2 => if b = true then (e η1 S2).bind fun w S3 => sized (acc.length + 1) (compR g t e η r n (i + 1) S3 (acc ++ [w])) else compR g t e η r n (i + 1) S2 acc)
def compD (g : MG) (t : MT) (e : ME) (η : Env) (w : W) (S : Store) : R (List W) := match refI w with
  | some r => compR g t e η r 1000000 0 S []
  | none => (match seqI w with
    | some xs => compL g t e η xs S []
    | none => .stuck)
/-- a comprehension over a list, a tuple, a text; keep: the list changes later -/
def mCompD (keep : Bool) (f : ME) (own : List Nat) (g : MG) (t : MT) (e : ME) : ME := fun η S => (f η S).bind fun w S1 => (noexc (compD g t e (wipeE η own) w S1)).bind fun ws S2 => if keep = true then (if pures ws = true then .ok (.ref S2.length) (S2 ++ [.lst ws]) else .stuck) else .ok (.lst ws) S2
theorem itemR_dct {r i : Nat} {S : Store} {ks ws : List W} (h : S[r]? = some (.dct ks ws)) : itemR r i S = none := by
  unfold itemR
  rw [h]
theorem forR_dct {g : MG} {b : MS} {r n i : Nat} {η : Env} {S : Store} {ks ws : List W} (h : S[r]? = some (.dct ks ws)) : forR g b r (n + 1) i η S = .stuck := by
  unfold forR
  rw [itemR_dct h]
theorem compR_dct {g : MG} {t : MT} {e : ME} {r n i : Nat} {η : Env} {S : Store} {acc : List W} {ks ws : List W} (h : S[r]? = some (.dct ks ws)) : compR g t e η r (n + 1) i S acc = .stuck := by
  unfold compR
  rw [itemR_dct h]
section
variable {K : PySem.W.Frag} {G : Gs} {γ : Ga} {H : Hp} {S : Store}
theorem itemR_ok {r i : Nat} {a : Addr} {o : Option W} (s : StoreOk K G γ H S) (ha : γ.ρ[r]? = some a) (h : itemR r i S = some o) : ∃ xs vs, S[r]? = some (.lst xs) ∧ SqL K H a vs ∧ Reps K G γ H xs vs ∧ o = xs[i]? := by
  unfold itemR at h
  split at h
  · rename_i xs hc
    cases h
    obtain ⟨_, vs, hv, q⟩ := s.cell r _ _ hc ha
    exact ⟨xs, vs, hc, SqL.of hv, q, rfl⟩
  · cases h
theorem item_go {xs : List W} {vs : List V} {i : Nat} {w : W} {a : Addr} (hq : SqL K H a vs) (q : Reps K G γ H xs vs) (h : xs[i]? = some w) : (Itl K a).go i H ∧ ∀ x H', (Itl K a).yld i H x H' → H' = H ∧ Rep K G γ H w x := by
  obtain ⟨v, hv, r⟩ := q.get h
  refine ⟨⟨vs, v, hq, hv⟩, fun x H' y => ?_⟩
  obtain ⟨e, y⟩ := y
  refine ⟨e, ?_⟩
  have z := y vs hq
  rw [hv] at z
  cases z
  exact r
theorem item_stop {xs : List W} {vs : List V} {i : Nat} {a : Addr} (hq : SqL K H a vs) (q : Reps K G γ H xs vs) (h : xs[i]? = none) : (Itl K a).stop i H := by
  refine ⟨vs, hq, ?_⟩
  rw [← q.length]
  exact List.getElem?_eq_none_iff.mp h
theorem forR_turns {Wi : WX} {γ0 : Ga} {H0 : Hp} {D : Ends} {η0 : Env} {S0 : Store} {σ0 : L2.St} {g : MG} {m : MS} {is : List Nat} {r : Nat} {a : Addr} (ha : γ0.ρ[r]? = some a) (n : Nat) (he : EnvOk K G γ0 H0 η0 σ0) (hs : StoreOk K G γ0 H0 S0)
    (h : PostS K G Wi γ0 H0 (forR g m r n 0 η0 S0) D) : ∃ Wv : Nat → Nat → L2.St → Hp → Prop, (∃ k, Wv 0 k σ0 H0) ∧ ∀ i k σ H, Wv i k σ H →
      ((Itl K a).stop i H ∧ D.nx σ H) ∨ ((Itl K a).go i H ∧ ∃ N : L2.St → Hp → Prop, (∀ σ' H', N σ' H' → ∃ k', k' < k ∧ Wv (i + 1) k' σ' H') ∧ ∀ x H', (Itl K a).yld i H x H' → tgOf K G is g x σ H' fun σ2 H2 => tsOf K G Wi m { D with nx := N, ct := N, bk := D.nx } σ2 H2) := by
  refine ⟨fun i k σ H => ∃ η S γ, γ.ρ[r]? = some a ∧ EnvOk K G γ H η σ ∧ StoreOk K G γ H S ∧ PostS K G Wi γ H (forR g m r k i η S) D, ⟨n, η0, S0, γ0, ha, he, hs, h⟩, ?_⟩
  rintro i k σ H ⟨η, S, γ, ha, he, hs, q⟩
  cases k with
  | zero => exact q.elim
  | succ k =>
    unfold forR at q
    cases ei : itemR r i S with
    | none =>
      rw [ei] at q
      exact q.elim
    | some o =>
      obtain ⟨xs, vs, hc, hq, qr, eo⟩ := itemR_ok hs ha ei
      cases o with
      | none =>
        rw [ei] at q
        exact .inl ⟨item_stop hq qr eo.symm, q σ γ H Ext.refl he hs⟩
      | some w =>
        rw [ei] at q
        obtain ⟨hgo, hy⟩ := item_go hq qr eo.symm
        refine .inr ⟨hgo, _, fun σ' H' z => ⟨k, Nat.lt_succ_self k, z⟩, fun x H' y => ?_⟩
        obtain ⟨e1, r1⟩ := hy x H' y
        subst e1
        replace q : PostS K G Wi γ H' (match g w η S with
          | none => .stuck
          | some (η1, S1) => (match m η1 S1 with
            | .nx η2 S2 => forR g m r k (i + 1) η2 S2
            | .ct η2 S2 => forR g m r k (i + 1) η2 S2
            | .bk η2 S2 => .nx η2 S2
            | r => r)) D := q
        cases eg : g w η S with
        | none =>
          rw [eg] at q
          exact q.elim
        | some z =>
          obtain ⟨η1, S1⟩ := z
          rw [eg] at q
          refine ⟨η, S, γ, w, η1, S1, he, hs, r1, eg, fun σ2 γ2 H2 e2 he2 s2 _ _ => ⟨η1, S1, γ2, he2, s2, ?_⟩⟩
          refine postS_turn (k := forR g m r k (i + 1)) (fun η3 S3 γ3 σ3 H3 he3 s3 e3 q3 => ⟨η3, S3, γ3, ?_, he3, s3, q3⟩) (PostS.base e2 q)
          obtain ⟨t, q⟩ := (e2.trans e3).pre
          rw [← q, List.getElem?_append_left (List.getElem?_eq_some_iff.mp ha).1]
          exact ha
end
section
variable {X : Cx} {G : Gs} {tg a : Expr} {pos : Pos} {f : ME} {g : MG} {m : MS} {is : List Nat}
theorem ss_forD {sts : List Stmt} (cf : Cfg X) (ha : SE X G a f) (hg : SG X G tg is g) (hb : SSs X G sts m) (hs : ∀ x, foldedSetIterable a X.env x = pure x := by intro _; rfl) : SS X G (.For tg a sts [] pos) (sForD f g m) := by
  refine ⟨fun Wi tk => (ps_for cf.own cf.calm (PI.or ((si_seq (tg := tg) ha).run Wi tk) (pi_list (ha.run Wi tk))) hg.run (hb.run Wi tk) hs).imp ?_⟩
  rintro D σ H ⟨η, S, γ, he, hs, q⟩
  have q : PostS X.K G Wi γ H ((f η S).toS η (forD g m η)) D := q
  cases ei : f η S with
  | ok w S1 =>
    rw [ei] at q
    replace q : PostS X.K G Wi γ H (forD g m η w S1) D := q
    unfold forD at q
    cases ew : refI w with
    | some r =>
      cases w with
      | ref r' =>
        cases ew
        refine .inr ⟨η, S, γ, he, hs, ?_⟩
        rw [ei]
        intro v γ1 H1 e1 r1 s1
        cases r1 with
        | @ref _ ad hr =>
          have hi : r < S1.length := by rw [← s1.len]; exact (List.getElem?_eq_some_iff.mp hr).1
          have q0 := q
          have hcell : ∃ vs, SqL X.K H1 ad vs := by
            have q := s1.cell r S1[r] ad (List.getElem?_eq_getElem hi) hr
            cases hc : S1[r] with
            | lst xs => rw [hc] at q; obtain ⟨_, vs, hv, _⟩ := q; exact ⟨vs, SqL.of hv⟩
            | dct _ _ => 
              have z : PostS X.K G Wi γ H (forR g m r 1000000 0 η S1) D := q0
              rw [forR_dct (n := 999999) ((List.getElem?_eq_getElem hi).trans (congrArg some hc))] at z
              exact z.elim
            | ins _ _ => rw [hc] at q; exact q.elim
          exact ⟨ad, rfl, hcell, forR_turns hr 1000000 (he.mono e1) s1 (PostS.base e1 q)⟩
      | _ => cases ew
    | none =>
      rw [ew] at q
      refine .inl ⟨η, S, γ, he, hs, ?_⟩
      unfold miSeq
      rw [ei]
      show PostI X.K G _ γ H (rOpt (seqI w) S1) _
      cases es : seqI w with
      | none =>
        simp only [es] at q
        exact q.elim
      | some xs =>
        simp only [es] at q
        intro J γ1 H1 e1 s1 ok
        exact for_turns ok (he.mono e1) s1 (PostS.base e1 q)
  | exc c x S1 =>
    rw [ei] at q
    refine .inl ⟨η, S, γ, he, hs, ?_⟩
    unfold miSeq
    rw [ei]
    exact fun v d γ' H' e r s hd => q v d σ γ' H' e (he.mono e) r s hd
  | stuck =>
    rw [ei] at q
    exact q.elim
end
section
variable {X : Cx} {G : Gs} {tg iter elt : Expr} {ifs : List Expr} {scope : Scope} {f e : ME} {g : MG} {t : MT} {is : List Nat} {own : List (Str × Nat)} {pos : Pos}
theorem lc_inR {K : PySem.W.Frag} {γ0 γ1 : Ga} {H0 H1 : Hp} {D : Addr} {r : Nat} {a : Addr} {η : Env} {S1 SF : Store} {σ : L2.St} {acc0 accF : List W} {vs : List Nat} {Nx : Hp → Prop} (n : Nat) (hD : H0 D = none) (ha : γ1.ρ[r]? = some a) (he : EnvOk K G γ1 H1 η σ)
    (gt : Gat K G γ0 H0 D γ1 H1 S1 acc0) (his : ∀ i ∈ is, i ∈ vs) (h : compR g t f (wipeE η vs) r n 0 S1 acc0 = .ok accF SF) (hN : ∀ γ H, Gat K G γ0 H0 D γ H SF accF → Nx H) :
    ∃ Wv : Nat → Nat → Hp → Prop, (∃ k, Wv 0 k H1) ∧ ∀ j k H, Wv j k H →
      ((Itl K a).stop j H ∧ Nx H) ∨ ((Itl K a).go j H ∧ ∃ Nx1 : Hp → Prop, (∀ H', Nx1 H' → ∃ k', k' < k ∧ Wv (j + 1) k' H') ∧ ∀ x H', (Itl K a).yld j H x H' → tgOf K G is g x (wipe σ vs) H' fun σ3 H5 => wipe σ3 vs = wipe σ vs ∧ ttOf K G (fun _ _ _ _ => False) t σ3 H5 fun b H6 =>
        if b = true then tOf K G (fun _ _ _ _ => False) f σ3 H6 fun y H7 => ∃ acc, H7 D = some (.lst acc) ∧ acc.length < sizeLine ∧ Nx1 (L2.upd H7 D (.lst (acc ++ [y]))) else Nx1 H6) := by
  refine ⟨fun j k H => ∃ S γ acc, Gat K G γ0 H0 D γ H S acc ∧ ExtW γ1 H1 γ H ∧ compR g t f (wipeE η vs) r k j S acc = .ok accF SF, ⟨n, S1, γ1, acc0, gt, Ext.refl.w, h⟩, ?_⟩
  rintro i k H ⟨S, γ, acc, gt', ex, hc⟩
  have s := gt'.s
  cases k with
  | zero => cases hc
  | succ k =>
  unfold compR at hc
  have ha' : γ.ρ[r]? = some a := by
    obtain ⟨t, q⟩ := ex.pre
    rw [← q, List.getElem?_append_left (List.getElem?_eq_some_iff.mp ha).1]
    exact ha
  cases ei : itemR r i S with
  | none =>
    rw [ei] at hc
    cases hc
  | some o =>
    obtain ⟨xs, us, hcell, hq, qr, eo⟩ := itemR_ok s ha' ei
    cases o with
    | none =>
      rw [ei] at hc
      cases hc
      exact .inl ⟨item_stop hq qr eo.symm, hN γ H gt'⟩
    | some w0 =>
      rw [ei] at hc
      obtain ⟨hgo, hy⟩ := item_go hq qr eo.symm
      refine .inr ⟨hgo, _, fun H' z => ⟨k, Nat.lt_succ_self k, z⟩, fun x H' y => ?_⟩
      obtain ⟨e1, r1⟩ := hy x H' y
      subst e1
      cases eg : g w0 (wipeE η vs) S with
      | none =>
        simp only [eg] at hc
        cases hc
      | some z =>
        obtain ⟨η1, S2⟩ := z
        simp only [eg] at hc
        have heW : EnvOk K G γ H' η σ := ⟨he.1, fun j w q => by
          obtain ⟨v, h1, h2⟩ := he.2 j w q
          exact ⟨v, h1, h2.monoW ex⟩⟩
        refine ⟨wipeE η vs, S, γ, w0, η1, S2, heW.wipe vs, s, r1, eg, fun σ2 γ2 H2 e2 he2 s2 hl2 hn2 => ⟨?_, ?_⟩⟩
        · rw [wipe_same (σ := wipe σ vs) his hl2 hn2, wipe_wipe]
        · refine ⟨η1, S2, γ2, he2, s2, ?_⟩
          cases et : t η1 S2 with
          | stuck =>
            simp only [et] at hc
            cases hc
          | exc c x S2 =>
            simp only [et] at hc
            cases hc
          | ok b S3 =>
            simp only [et, R.bind] at hc
            intro b' γ3 H3 e3 rb s3
            cases rb
            have gt3 := (gt'.step e2 s2).step e3 s3
            have ex3 := (ex.trans e2.w).trans e3.w
            cases b with
            | false =>
              rw [if_neg Bool.false_ne_true] at hc ⊢
              exact ⟨S3, γ3, acc, gt3, ex3, hc⟩
            | true =>
              rw [if_pos rfl] at hc ⊢
              refine ⟨η1, S3, γ3, he2.mono e3, s3, ?_⟩
              cases ee : f η1 S3 with
              | stuck =>
                simp only [ee] at hc
                cases hc
              | exc c x S3 =>
                simp only [ee] at hc
                cases hc
              | ok w S4 =>
                simp only [ee] at hc
                intro v γ4 H4 e4 r4 s4
                unfold sized at hc
                split at hc
                · rename_i hsz
                  have gt4 := gt3.step e4 s4
                  obtain ⟨us, h1, h2, h3⟩ := gt4.put hD r4 hsz
                  exact ⟨us, h1, h2, S4, γ4, acc ++ [w], h3, (ex3.trans e4.w).busy gt.dβ, hc⟩
                · cases hc
/-- the end of a comprehension -/
theorem compD_end {K : PySem.W.Frag} {γ0 γ1 : Ga} {H0 H1 : Hp} {S1 : Store} {D : Addr} {Q : VK} {wx : Wx} {keep : Bool} {ws : List W} {SF : Store} (e1 : Ext γ0 H0 γ1 H1) (s1 : StoreOk K G γ1 H1 S1) (hD : H1 D = none)
    (q : Post K G (Rep K G) wx γ0 H0 (if keep = true then (if pures ws = true then R.ok (.ref SF.length) (SF ++ [.lst ws]) else .stuck) else .ok (.lst ws) SF) Q) : ∀ γ H, Gat K G γ1 H1 D γ H SF ws → Q (.ref D) H := by
  intro γ2 H2 g2
  cases keep with
  | true =>
    rw [if_pos rfl] at q
    split at q
    · rename_i hp
      obtain ⟨γ', x1, x2, x3⟩ := g2.doneS s1 hD hp
      exact q _ γ' H2 (e1.trans x1) x2 x3
    · exact q.elim
  | false =>
    rw [if_neg (by decide)] at q
    obtain ⟨γ', x1, x2, x3⟩ := g2.done s1 hD
    exact q _ γ' H2 (e1.trans x1) x2 x3
theorem compD_read {Wi : WX} {Q : VK} {σ : L2.St} {H : Hp} (keep : Bool) (his : ∀ i ∈ is, i ∈ own.map (·.2)) (q : tOf X.K G Wi (mCompD keep e (own.map (·.2)) g t f) σ H Q) :
    tLc (fun σ H R => tiOf X.K G Wi (miSeq e) σ H R ∨ iList X.K (tOf X.K G Wi e) σ H R) (tgOf X.K G is g) (ttOf X.K G (fun _ _ _ _ => False) t) (tOf X.K G (fun _ _ _ _ => False) f) (own.map (·.2)) σ H Q := by
  obtain ⟨η, S, γ, he, hs, q⟩ := q
  have q : Post X.K G (Rep X.K G) (fun c d H' => Wi c d σ H') γ H ((e η S).bind fun w S1 => (noexc (compD g t f (wipeE η (own.map (·.2))) w S1)).bind fun ws S2 => if keep = true then (if pures ws = true then .ok (.ref S2.length) (S2 ++ [.lst ws]) else .stuck) else .ok (.lst ws) S2) Q := q
  cases ei : e η S with
  | stuck =>
    rw [ei] at q
    exact q.elim
  | exc c x S1 =>
    rw [ei] at q
    refine .inl ⟨η, S, γ, he, hs, ?_⟩
    unfold miSeq
    rw [ei]
    exact q
  | ok w S1 =>
    rw [ei] at q
    replace q : Post X.K G (Rep X.K G) (fun c d H' => Wi c d σ H') γ H ((noexc (compD g t f (wipeE η (own.map (·.2))) w S1)).bind fun ws S2 => if keep = true then (if pures ws = true then .ok (.ref S2.length) (S2 ++ [.lst ws]) else .stuck) else .ok (.lst ws) S2) Q := q
    cases ec : compD g t f (wipeE η (own.map (·.2))) w S1 with
    | stuck =>
      rw [ec] at q
      exact q.elim
    | exc c x S2 =>
      rw [ec] at q
      exact q.elim
    | ok ws SF =>
      rw [ec] at q
      replace q : Post X.K G (Rep X.K G) (fun c d H' => Wi c d σ H') γ H (if keep = true then (if pures ws = true then .ok (.ref SF.length) (SF ++ [.lst ws]) else .stuck) else .ok (.lst ws) SF) Q := q
      unfold compD at ec
      cases ew : refI w with
      | some r =>
        rw [ew] at ec
        cases w with
        | ref r' =>
          cases ew
          refine .inr ⟨η, S, γ, he, hs, ?_⟩
          rw [ei]
          intro v γ1 H1 e1 r1 s1
          cases r1 with
          | @ref _ ad hr =>
            have hi : r < S1.length := by rw [← s1.len]; exact (List.getElem?_eq_some_iff.mp hr).1
            have hcell : ∃ vs, SqL X.K H1 ad vs := by
              have q := s1.cell r S1[r] ad (List.getElem?_eq_getElem hi) hr
              cases hc : S1[r] with
              | lst xs => rw [hc] at q; obtain ⟨_, vs, hv, _⟩ := q; exact ⟨vs, SqL.of hv⟩
              | dct _ _ => 
                have z : compR g t f (wipeE η (own.map fun x => x.snd)) r 1000000 0 S1 [] = .ok ws SF := ec
                rw [compR_dct (n := 999999) ((List.getElem?_eq_getElem hi).trans (congrArg some hc))] at z
                cases z
              | ins _ _ => rw [hc] at q; exact q.elim
            refine ⟨ad, rfl, hcell, fun D hD => ?_⟩
            have gt := Gat.start (G := G) s1 hD
            exact lc_inR (γ1 := ⟨γ1.ρ, D :: γ1.β⟩) (Nx := fun H' => Q (.ref D) H') 1000000 hD hr ((he.mono e1).mono gt.ex) gt his ec (compD_end e1 s1 hD q)
        | _ => cases ew
      | none =>
        simp only [ew] at ec
        refine .inl ⟨η, S, γ, he, hs, ?_⟩
        unfold miSeq
        rw [ei]
        show PostI X.K G _ γ H (rOpt (seqI w) S1) _
        cases es : seqI w with
        | none =>
          simp only [es] at ec
          cases ec
        | some xs =>
          simp only [es] at ec
          intro J γ1 H1 e1 s1 ok D hD
          have gt := Gat.start (G := G) s1 hD
          exact lc_in (Nx := fun H' => Q (.ref D) H') hD (ok.mono gt.ex.w) ((he.mono e1).mono gt.ex) gt his ec (compD_end e1 s1 hD q)
theorem se_compD (keep : Bool) (own : List (Str × Nat)) (cf : Cfg X) (hi : SE X G iter e) (ok : BlkOk X.N X.env.scope scope own)
    (hg : ∀ (s : Shared) (H : Hp) (C : Addr) (cl : List (Str × Addr)) (fp : List Addr), Cfg (X.blk s H scope (compEnvC scope cl C X.env) fp) → SG (X.blk s H scope (compEnvC scope cl C X.env) fp) G tg is g)
    (ht : ∀ (s : Shared) (H : Hp) (C : Addr) (cl : List (Str × Addr)) (fp : List Addr), Cfg (X.blk s H scope (compEnvC scope cl C X.env) fp) → STs (X.blk s H scope (compEnvC scope cl C X.env) fp) G ifs t)
    (he : ∀ (s : Shared) (H : Hp) (C : Addr) (cl : List (Str × Addr)) (fp : List Addr), Cfg (X.blk s H scope (compEnvC scope cl C X.env) fp) → SE (X.blk s H scope (compEnvC scope cl C X.env) fp) G elt f)
    (his : ∀ i ∈ is, i ∈ own.map (·.2) := by decide) (hs : ∀ x, foldedSetIterable iter X.env x = pure x := by intro _; rfl) :
    SE X G (.ListComp elt [⟨tg, iter, ifs, 0⟩] scope pos) (mCompD keep e (own.map (·.2)) g t f) := by
  refine ⟨fun Wi tk => (pe_lc (g := tgOf X.K G is g) (tt := ttOf X.K G (fun _ _ _ _ => False) t) (te := tOf X.K G (fun _ _ _ _ => False) f) cf.calm cf.nd (PI.or ((si_seq (tg := tg) hi).run Wi tk) (pi_list (hi.run Wi tk))) ok (fun s H C cl fp => (hg s H C cl fp (cf.blk ..)).run) (fun s H C cl fp => (ht s H C cl fp (cf.blk ..)).run _ takes0) (fun s H C cl fp => (he s H C cl fp (cf.blk ..)).run _ takes0) hs).imp ?_⟩
  intro σ H Q q
  exact compD_read keep his q
end
end Mp
set_option Elab.async false
set_option linter.all false
set_option maxRecDepth 100000
set_option maxHeartbeats 4000000
/-! Mp: a sum of lists that changes later. -/
namespace Mp
open PySem PySem.Spec PyProof.Rows L2
def mAddS (f g : ME) : ME := fun η S => (f η S).bind fun x S1 => (g η S1).bind fun y S2 => match lstOf S2 x, lstOf S2 y with
  | some a, some b => if a.length + b.length ≤ bigLine ∧ pures (a ++ b) = true then .ok (.ref S2.length) (S2 ++ [.lst (a ++ b)]) else .stuck
  | _, _ => .stuck
section
variable {X : Cx} {G : Gs} {a b : Expr} {pos : Pos} {f g : ME}
end
end Mp
set_option Elab.async false
set_option linter.all false
set_option maxRecDepth 100000
set_option maxHeartbeats 4000000
/-! Mp: enumerate of tuples. -/
namespace Mp
open PySem PySem.Spec PyProof.Rows L2
theorem tupIt_at {h h' : Heap} {it l : Addr} {i : Nat} (x : h.IsTupleIter it l i) (k : ∀ o, h.get? it = some o → h'.get? it = some o) : h'.IsTupleIter it l i := let ⟨o, ho, r⟩ := x; ⟨o, k o ho, r⟩
theorem tup_at {h h' : Heap} {l : Addr} {xs : Array Value} (x : h.IsTuple l xs) (k : ∀ o, h.get? l = some o → h'.get? l = some o) : h'.IsTuple l xs := let ⟨o, ho, r⟩ := x; ⟨o, k o ho, r⟩
theorem drawsT {prog : Program} {w : World} {A : Around} (hh : A.handled = none) (it l : Addr) (hne : l ≠ it) (items : Array Value) : Draws prog w A it [it, l] items.size (fun i v => items[i]? = some v) (fun i h => h.IsTupleIter it l i ∧ h.IsTuple l items) := by
  refine ⟨fun _ _ st => ?_, fun _ _ _ st hk => ⟨tupIt_at st.1 fun o e => hk it (by simp) o e, tup_at st.2 fun o e => hk l (by simp) o e⟩, fun i s Q E hi st hQ => ?_, fun s Q E st hE => RZ.nextOf_tuple_end hh st.1 st.2 (by simp) hE⟩
  · obtain ⟨⟨o, ho, _⟩, _⟩ := st
    exact ⟨o, ho⟩
  · exact RZ.nextOf_tuple_item st.1 st.2 (x := items[i]) (by simp [hi]) fun h' hit' hs' => hQ _ h' s.toks (by simp [hi]) ⟨hit', st.2.extBut hs'.extBut hne⟩ hs'
theorem meetsET (l : Addr) (items : Array Value) (n : Nat) (dct : Option Addr) (sl : Array (Option Value)) : Meets (Builtin.«enumerate.__new__» ⟨[.type "enumerate", .ref l], []⟩) (fun _ R s => s.heap.get? l = some { cls := .type "tuple", dict := dct, data := .seq items n, slots := sl } ∧
    R (.ok (.ret (.ref (s.heap.push { cls := .type "tuple_iterator", data := .fields #[.ref l, .int 0 0] }).objs.size))) { s with heap := (s.heap.push { cls := .type "tuple_iterator", data := .fields #[.ref l, .int 0 0] }).push { cls := .type "enumerate", data := .fields #[.none, .bool false, .ref s.heap.objs.size, rawInt 0, .none, .none] } }) :=
  .of_wp fun prog w A R s h => by
    obtain ⟨hp, g, d, tk, os⟩ := s; obtain ⟨hl, h⟩ := h
    have hsub := sub_enumerate
    have hL : Heap.IsTuple (Shared.heap ⟨hp, g, d, tk, os⟩) l items := ⟨_, hl, rfl, n, rfl⟩
    wp_walk using AutoSeq1.wpAny_loadPart' hl
    refine wpAny_stack_any fun st => wpAny_pure ?_
    split
    · rename_i c _ _ _ _ _
      cases (c == Value.type "enumerate")
      · wp_walk using AutoSeq1.wpAny_loadPart' hl, wpAny_pyIter_tuple hL
        exact ⟨_, rfl, h⟩
      · wp_walk using AutoSeq1.wpAny_loadPart' hl, wpAny_pyIter_tuple hL
        exact ⟨_, rfl, h⟩
    · wp_walk using AutoSeq1.wpAny_loadPart' hl, wpAny_pyIter_tuple hL
      exact ⟨_, rfl, h⟩
theorem call_enumT {prog : Program} {w : World} {A : Around} {E : Value → Shared → Prop} {s : Shared} {l : Addr} {items : Array Value} {Q : Value → Shared → Prop} (hL : s.heap.IsTuple l items)
    (h : ∀ h', IsEnum h' (s.heap.objs.size + 1) s.heap.objs.size 0 .none → h'.IsTupleIter s.heap.objs.size l 0 → (∀ b o, s.heap.get? b = some o → h'.get? b = some o) → Q (.ref (s.heap.objs.size + 1)) { s with heap := h' }) : wpAny (model prog w) A (call (.type "enumerate") [.ref l]) Q E s := by
  obtain ⟨⟨c, dct, dt, sl⟩, hl, hc, n, hd⟩ := hL
  replace hc : c = .type "tuple" := hc
  replace hd : dt = .seq items n := hd
  subst hc hd
  refine callType_new F.called_enumerate (by decide) (F.typeCall_enumerate_1 _) (F.newCall_enumerate_1 _) (fun obj => F.args_object_init_2 obj _) F.entry_enumerate_new (meetsET l items n dct sl) ⟨hl, ?_⟩
  have hz : (s.heap.push { cls := .type "tuple_iterator", data := .fields #[.ref l, .int 0 0] }).objs.size = s.heap.objs.size + 1 := Heap.size_push ..
  show _ ∧ _
  rw [hz]
  have he : IsEnum ((s.heap.push { cls := .type "tuple_iterator", data := .fields #[.ref l, .int 0 0] }).push { cls := .type "enumerate", data := .fields #[.none, .bool false, .ref s.heap.objs.size, rawInt 0, .none, .none] }) (s.heap.objs.size + 1) s.heap.objs.size 0 .none := by
    have := Heap.get?_push_size (s.heap.push { cls := .type "tuple_iterator", data := .fields #[.ref l, .int 0 0] }) (o := { cls := .type "enumerate", data := .fields #[.none, .bool false, .ref s.heap.objs.size, rawInt 0, .none, .none] }) rfl
    rw [hz] at this
    exact this
  exact ⟨⟨_, he, rfl⟩, h _ he ⟨_, Heap.get?_push_of_some _ (Heap.get?_push_size _ rfl), rfl, rfl⟩ fun b o x => Heap.get?_push_of_some _ (Heap.get?_push_of_some _ x)⟩
def IteT (K : PySem.W.Frag) (a : Addr) : It :=
  ⟨fun i H => ∃ (xs : List V) (x : V), SqT K H a xs ∧ xs[i]? = some x, fun i H v H' => ∃ T x, v = .ref T ∧ H T = none ∧ H' = upd H T (.tup [.int (i : Nat), x]) ∧ ∀ xs, SqT K H a xs → xs[i]? = some x, fun i H => ∃ xs : List V, SqT K H a xs ∧ xs.length = i⟩
theorem turn_enumT {P : Program} {w : World} {K : PySem.W.Frag} {elts : List Expr} {kk : Nat} {tpos : Pos} (a e it : Addr) (h1 : e ≠ it) (h2 : e ≠ a) (h3 : a ≠ it) :
    Turn P w K (.Tuple elts kk tpos) (IteT K a) [e, it] e (fun i h => (∃ old, IsEnum h e it ((i : Nat) : Int) old) ∧ h.IsTupleIter it a i) where
  mem := by simp
  obj := fun i h st b hb => by
    obtain ⟨⟨old, he⟩, ⟨o, ho, hc, hd⟩⟩ := st
    have e' : b = e ∨ b = it := by simpa using hb
    rcases e' with z | z
    · rw [z]
      exact ⟨_, he, fun v q => nomatch q⟩
    · rw [z]
      exact ⟨o, ho, fun v q => by rw [hd] at q; cases q⟩
  keep := fun i h h' st k => ⟨st.1.elim fun old he => ⟨old, k e (by simp) _ he⟩, tupIt_at st.2 fun o q => k it (by simp) o q⟩
  item := by
    intro X hP hw hK hc i pins s σ H E I hf st hg
    subst hP hw hK
    obtain ⟨⟨old, he⟩, hit⟩ := st
    obtain ⟨xs, x, hq, hx⟩ := hg
    obtain ⟨its, rv, p, hz⟩ := I.tuple hq
    have hl := rv.length
    have hlt : i < its.toArray.size := by
      have := (List.getElem?_eq_some_iff.mp hx).1
      simp
      omega
    have hel : e < s.heap.objs.size := Heap.lt_size he
    refine wpAny_pyNext_enum_itemD (drawsT (A := X.A.in1) (show X.A.in1.handled = none from I.ok.hd hc) it a h3 its.toArray) he ⟨hit, p⟩ hlt h1 (by simp [h1, h2]) fun u h' tk hu ho hst hT hsz hk => ?_
    obtain ⟨u', hu', ru⟩ := rv.get hx
    have eu : u' = u := by
      have z : its[i]? = some u := by simpa using hu
      rw [hu'] at z
      exact Option.some.inj z
    subst eu
    refine ⟨_, rfl, wpAny_letOwnedTupleGo_enum (s := { s with heap := h', toks := tk + 1 }) ho fun h'' he' sb => ?_⟩
    have hT2 : h''.get? s.heap.objs.size = some { cls := .type "tuple", data := .seq #[.int i tk, u'] } := (sb.2 _ (Nat.ne_of_gt hel)).trans hT
    have new : ObjOk X.prog X.w (upd H s.heap.objs.size (.tup [.int (i : Nat), x])) h'' s.heap.objs.size (.tup [.int (i : Nat), x]) := ⟨by show 2 ≤ sizeLine; decide, [.int i tk, u'], .cons ⟨_, rfl⟩ (.cons ru .nil), ⟨_, hT2, rfl, _, rfl⟩⟩
    have I1 : Inv X pins σ (upd H s.heap.objs.size (.tup [.int (i : Nat), x])) { s with heap := h'', toks := tk + 1 } := I.turnedNew (ch := [e, it]) (fun b ob hb q => (sb.2 b (fun z => hb (by simp [z]))).trans (hk b ob (fun z => hb (by simp [z])) (fun z => hb (by simp [z])) q)) hf (Nat.le_refl _) new
    refine ⟨.ref s.heap.objs.size, _, I1, rfl, ⟨_, x, rfl, I.hok.fresh (Nat.le_refl _), rfl, fun ys hy => by rw [I.tuple_inj hy hq]; exact hx⟩, ⟨⟨u', ?_⟩, tupIt_at hst.1 fun o q => (sb.2 it (Ne.symm h1)).trans q⟩, fun b hb => ?_⟩
    · have e1 : ((i + 1 : Nat) : Int) = (i : Int) + 1 := by omega
      rw [e1]
      exact he'
    · have hb' : b < s.heap.objs.size := by
        have e' : b = e ∨ b = it := by simpa using hb
        rcases e' with z | z
        · rw [z]
          exact hel
        · rw [z]
          obtain ⟨_, q, _⟩ := hit
          exact Heap.lt_size q
      rw [upd_ne (Nat.ne_of_lt hb')]
      exact (hf b hb).1
  done := by
    intro X hP hw hK hc i pins s σ H E I hf st hg
    subst hP hw hK
    obtain ⟨⟨old, he⟩, hit⟩ := st
    obtain ⟨xs, hq, hx⟩ := hg
    obtain ⟨its, rv, p, hz⟩ := I.tuple hq
    obtain ⟨f0, f1, f2, f3, f4, f5⟩ := hf it (by simp)
    have hl := rv.length
    have ei : i = its.toArray.size := by simp; omega
    subst ei
    exact wpAny_pyNext_enum_endD (drawsT (A := X.A.in1) (show X.A.in1.handled = none from I.ok.hd hc) it a h3 its.toArray) he ⟨hit, p⟩ fun h' eb => ⟨rfl, I.turned (t' := s.toks) (fun b o hb q => eb b o hb q) f0 f1 f3 f4 f5⟩
  self := fun A i s Q E st h => st.1.elim fun old he => wpAny_pyIter_enum he h
def iEnumT (K : PySem.W.Frag) (ta : TA) : TI := fun σ H R => ta σ H fun vs H1 => ∃ a xs, vs = [.ref a] ∧ SqT K H1 a xs ∧ R (IteT K a) H1
theorem pi_enumT {X : Cx} {e : Expr} {ta : TA} {p pos tpos : Pos} {elts : List Expr} {kk : Nat} (hg : Gl X "enumerate") (hm : X.mg "enumerate" = none) (ha : PA X [e] ta) (hs : starEach [e] X.env = [(false, eval e X.env)] := by rfl) : PI X (.Tuple elts kk tpos) (.Call (.Name "enumerate" p) [e] [] pos) (iEnumT X.K ta) := by
  refine ⟨fun pins s σ H R I h => ?_⟩
  refine Call_ (ld_blt I hg hm boot_enumerate (PyProof.Rows.callWith_type1 (thn (ha.run pos pins s σ H _ I h) fun us s1 ⟨vs, H1, I1, r1, q1⟩ => ?_) hs rfl))
  obtain ⟨a, xs, ex, hq, q⟩ := q1
  subst ex
  cases r1 with
  | cons r rr =>
    cases rr
    cases r
    obtain ⟨its, rv, p', hz⟩ := I1.tuple hq
    have hal : a < s1.heap.objs.size := by obtain ⟨_, q, _⟩ := p'; exact Heap.lt_size q
    refine call_enumT p' fun h' he hit hk => wpAny_pyIter_enum he ?_
    have I2 : Inv X pins σ H1 { s1 with heap := h' } := I1.kept (t' := s1.toks) hk
    refine ⟨s1.heap.objs.size + 1, [s1.heap.objs.size + 1, s1.heap.objs.size], _, _, H1, rfl, I2, turn_enumT a (s1.heap.objs.size + 1) s1.heap.objs.size (Nat.succ_ne_self _) (Nat.ne_of_gt (Nat.lt_succ_of_lt hal)) (Nat.ne_of_lt hal), ⟨⟨.none, he⟩, hit⟩, fun b hb => ?_, q⟩
    have e' : b = s1.heap.objs.size + 1 ∨ b = s1.heap.objs.size := by simpa using hb
    have hle : s1.heap.objs.size ≤ b := by
      rcases e' with z | z
      · rw [z]
        exact Nat.le_add_right _ _
      · rw [z]
        exact Nat.le_refl _
    exact I1.fpOk hle (I1.hok.fresh hle)
def enumW2 : List W → Option (List W)
  | [.lst xs] => some (enumL 0 xs)
  | [.tup xs] => some (enumL 0 xs)
  | _ => none
theorem itOk_enumT {K : PySem.W.Frag} {G : Gs} {γ : Ga} {H : Hp} {a : Addr} {xs : List W} {vs : List V} (sa : ∀ {γ' H'}, ExtW γ H γ' H' → SqT K H' a vs) (q : Reps K G γ H xs vs) : ItOk K G (IteT K a) (enumL 0 xs) γ H := by
  refine ⟨fun i γ' H' S hi e _ => ?_, fun γ' H' S e _ => ⟨vs, sa e, ?_⟩, fun i w γ' H' S x H'' hw e s y => ?_⟩
  · rw [enumL_len, q.length] at hi
    exact ⟨vs, vs[i], sa e, List.getElem?_eq_getElem hi⟩
  · rw [enumL_len, q.length]
  · obtain ⟨T, v, rfl, hT, rfl, h1⟩ := y
    obtain ⟨p, hp, rfl⟩ := enumL_get hw
    obtain ⟨v', hv', rv⟩ := q.get hp
    have z1 := h1 vs (sa e)
    rw [hv'] at z1
    cases z1
    rw [Int.zero_add]
    exact pair_new hT s (.int _) (rv.monoW e)
section
variable {X : Cx} {G : Gs} {a : Expr} {pos p tpos : Pos} {ga : MA} {elts : List Expr} {kk : Nat}
theorem si_enum2 (hm : X.mg "enumerate" = none) (ha : SA X G [a] ga) (hg : Gl X "enumerate" := by rfl) (hs : starEach [a] X.env = [(false, eval a X.env)] := by rfl) : SI X G (.Tuple elts kk tpos) (.Call (.Name "enumerate" p) [a] [] pos) (miAll enumW2 ga) := by
  refine ⟨fun Wi tk => (PI.or (pi_enum hg hm (ha.run Wi tk) hs) (pi_enumT hg hm (ha.run Wi tk) hs)).imp ?_⟩
  rintro σ H R ⟨η, S, γ, he, hs, q⟩
  have q : PostI X.K G (fun c d H' => Wi c d σ H') γ H ((ga η S).bind fun ws S1 => rOpt (enumW2 ws) S1) R := q
  cases eg : ga η S with
  | stuck =>
    rw [eg] at q
    exact q.elim
  | exc c x S1 =>
    rw [eg] at q
    refine .inl ⟨η, S, γ, he, hs, ?_⟩
    rw [eg]
    exact q
  | ok ws S1 =>
    rw [eg] at q
    replace q : PostI X.K G (fun c d H' => Wi c d σ H') γ H (rOpt (enumW2 ws) S1) R := q
    unfold enumW2 at q
    split at q
    · refine .inl ⟨η, S, γ, he, hs, ?_⟩
      rw [eg]
      intro vs γ1 H1 e1 r1 s1
      cases r1 with
      | cons r r1 =>
        cases r1
        cases r with
        | lst h1 o1 z1 => exact ⟨_, _, rfl, SqL.of h1, q _ γ1 H1 e1 s1 (itOk_enum (fun e => .inl (e.rd (.inl h1) o1).1) z1)⟩
    · refine .inr ⟨η, S, γ, he, hs, ?_⟩
      rw [eg]
      intro vs γ1 H1 e1 r1 s1
      cases r1 with
      | cons r r1 =>
        cases r1
        cases r with
        | tup h1 z1 => exact ⟨_, _, rfl, h1.sq, q _ γ1 H1 e1 s1 (itOk_enumT (fun e => (h1.monoW e).sq) z1)⟩
    · exact q.elim
end
end Mp
set_option Elab.async false
set_option linter.all false
set_option maxRecDepth 100000
set_option maxHeartbeats 4000000
/-! Mp: tuples compared. -/
namespace Mp
open PySem PySem.Spec PyProof.Rows L2
def lexG {α : Type} [DecidableEq α] (q : α → α → Bool) (z : Nat → Nat → Bool) : List α → List α → Bool
  | x :: xs, y :: ys => if x = y then lexG q z xs ys else q x y
  | [], ys => z 0 ys.length
  | xs, [] => z xs.length 0
def tupsCmp (p : Int → Int → Bool) (q : List Nat → List Nat → Bool) (z : Nat → Nat → Bool) (xs ys : List W) : Option W := match strsOf xs, strsOf ys with
  | some a, some b => some (.bl (lexG q z a b))
  | _, _ => (match intsOf xs, intsOf ys with
    | some a, some b => some (.bl (lexG p z a b))
    | _, _ => none)
def opCmp2 (p : Int → Int → Bool) (q : List Nat → List Nat → Bool) (z : Nat → Nat → Bool) : O2 := fun x y S => match x, y with
  | .tup xs, .tup ys => tupsCmp p q z xs ys
  | x, y => opCmp p q x y S
theorem lexAt_shift {e r : Nat → Bool} {z : Bool} : ∀ (k i : Nat), Ob.lexAt e r z (i + 1) k = Ob.lexAt (fun j => e (j + 1)) (fun j => r (j + 1)) z i k
  | 0, i => rfl
  | k + 1, i => by
    rw [Ob.lexAt_succ, Ob.lexAt_succ, lexAt_shift k (i + 1)]
theorem lexAt_lexG {α : Type} [DecidableEq α] (d : α) (q : α → α → Bool) (z : Nat → Nat → Bool) (hz : ∀ m n, z (m + 1) (n + 1) = z m n) : ∀ xs ys : List α, Ob.lexAt (fun j => decide (xs.getD j d = ys.getD j d)) (fun j => q (xs.getD j d) (ys.getD j d)) (z xs.length ys.length) 0 (min xs.length ys.length) = lexG q z xs ys
  | [], ys => by
    rw [show min ([] : List α).length ys.length = 0 by simp, Ob.lexAt_zero, lexG] <;> rfl
  | x :: xs, [] => by
    rw [show min (x :: xs).length ([] : List α).length = 0 by simp, Ob.lexAt_zero, lexG] <;> first | rfl | simp
  | x :: xs, y :: ys => by
    rw [show min (x :: xs).length (y :: ys).length = min xs.length ys.length + 1 by simp [Nat.succ_min_succ], Ob.lexAt_succ, lexAt_shift, List.length_cons, List.length_cons, hz, lexG]
    have ih := lexAt_lexG d q z hz xs ys
    by_cases e : x = y
    · rw [if_pos (by show decide (x = y) = true; exact decide_eq_true e), if_pos e]
      exact ih
    · rw [if_neg (by show ¬ decide (x = y) = true; rw [decide_eq_true_eq]; exact e), if_neg e]
      rfl
section
variable {X : Cx} {G : Gs}
theorem str_at {its : List Value} {zs : List (List Nat)} (h : StrsAre its (zs.map fun l => (⟨l.toArray⟩ : Str))) {j : Nat} (hj : j < its.toArray.size) : ∃ t, its.toArray[j] = .str ⟨(zs.getD j []).toArray⟩ t := by
  have e : ∀ {its : List Value} {ss : List Str}, StrsAre its ss → ∀ j (hj : j < its.length), ∃ t, its[j] = .str (ss.getD j Str.empty) t := by
    intro its ss h
    induction h with
    | nil => intro j hj; cases hj
    | cons x t r ih =>
      intro j hj
      cases j with
      | zero => exact ⟨t, rfl⟩
      | succ j => exact ih j (by simpa using hj)
  have hj' : j < its.length := by simpa using hj
  obtain ⟨t, q⟩ := e h j hj'
  refine ⟨t, ?_⟩
  have hl : j < zs.length := by
    have := h.length
    rw [List.length_map] at this
    omega
  rw [List.getElem_toArray, q, List.getD_eq_getElem?_getD, List.getElem?_map, List.getElem?_eq_getElem hl, List.getD_eq_getElem?_getD, List.getElem?_eq_getElem hl] <;> rfl
theorem o2_cmpT {op : CmpOp} {p : Int → Int → Bool} {q : List Nat → List Nat → Bool} {zz : Nat → Nat → Bool} (hu : X.A.units + 100 < cLine) (hz : ∀ m n, zz (m + 1) (n + 1) = zz m n) (h0 : OpR X (compareOp op) (rOf X.K G (opCmp p q)))
    (hs : ∀ (A : Around) (s : Shared) (x : Str) (t : Tok) (y : Str) (u : Tok), Ob.RcOp op A s (.str x t) (.str y u) (q x.cps.toList y.cps.toList)) (hi : ∀ (A : Around) (s : Shared) (x : Int) (t : Tok) (y : Int) (u : Tok), Ob.RcOp op A s (.int x t) (.int y u) (p x y))
    (ht : ∀ {A : Around} {s : Shared} {l b : Addr} {items items2 : Array Value} {e r : Nat → Bool} (_ : s.heap.IsTuple l items) (_ : s.heap.IsTuple b items2) (_ : A.units < cLine) (_ : ∀ j (h1 : j < items.size) (h2 : j < items2.size), PySem.SeqAt.EqAt A.in1 s items[j] items2[j] (e j))
      (_ : ∀ j (h1 : j < items.size) (h2 : j < items2.size), e j = false → Ob.RcOp op A.in1 s items[j] items2[j] (r j)), Ob.RcOp op A s (.ref l) (.ref b) (Ob.lexAt e r (zz items.size items2.size) 0 (min items.size items2.size)))
    (hc : ∀ (v u : Value), compareOp op v u = richCompare op v u) : OpR X (compareOp op) (rOf X.K G (opCmp2 p q zz)) := by
  intro pins s σ H x y v u Q I rx ry h
  obtain ⟨wx, wy, S, γ, w, r1, r2, ss, e, k⟩ := h
  unfold opCmp2 at e
  split at e
  · rename_i xs ys
    cases r1 with
    | tup f1 q1 =>
    cases r2 with
    | tup f2 q2 =>
    cases rx
    cases ry
    obtain ⟨its, rv1, p1, _⟩ := I.tuple f1.sq
    obtain ⟨its2, rv2, p2, _⟩ := I.tuple f2.sq
    unfold tupsCmp at e
    split at e
    · rename_i a b ea eb
      cases e
      obtain ⟨ev, _⟩ := strsOf_reps q1 ea
      subst ev
      obtain ⟨ev, _⟩ := strsOf_reps q2 eb
      subst ev
      have l1 : its.toArray.size = a.length := by have := rv1.length; simp at this ⊢; omega
      have l2 : its2.toArray.size = b.length := by have := rv2.length; simp at this ⊢; omega
      have R := ht (A := X.A) (s := s) (e := fun j => decide (a.getD j [] = b.getD j [])) (r := fun j => q (a.getD j []) (b.getD j [])) p1 p2 (by omega) (fun j h1 h2 => by
        obtain ⟨t, et⟩ := str_at rv1.strs h1
        obtain ⟨t', et'⟩ := str_at rv2.strs h2
        rw [et, et']
        have z : ((⟨(a.getD j []).toArray⟩ : Str) == ⟨(b.getD j []).toArray⟩) = decide (a.getD j [] = b.getD j []) := by
          by_cases q : a.getD j [] = b.getD j []
          · rw [decide_eq_true q, q]
            exact beq_self_eq_true _
          · rw [decide_eq_false q]
            refine beq_eq_false_iff_ne.mpr fun z => q ?_
            have z2 := congrArg (fun s : Str => s.cps.toList) z
            simpa using z2
        rw [← z]
        exact PySem.SeqAt.EqAt.str_str _ _ _ _) (fun j h1 h2 _ => by
        obtain ⟨t, et⟩ := str_at rv1.strs h1
        obtain ⟨t', et'⟩ := str_at rv2.strs h2
        rw [et, et']
        have z := hs X.A.in1 s ⟨(a.getD j []).toArray⟩ t ⟨(b.getD j []).toArray⟩ t'
        simpa using z)
      rw [l1, l2, lexAt_lexG [] q zz hz] at R
      rw [hc]
      exact R X.prog X.w X.xe (EP X pins σ Q) ⟨.bl _, H, I, rfl, k _ γ H Ext.refl (.bl _) ss⟩
    · split at e
      · rename_i a b ea eb
        cases e
        have ev := intsOf_reps' q1 ea
        subst ev
        have ev := intsOf_reps' q2 eb
        subst ev
        have i1 : IntsAre its a := Vals.ints rv1
        have i2 : IntsAre its2 b := Vals.ints rv2
        have l1 : its.toArray.size = a.length := by rw [List.size_toArray]; exact i1.length
        have l2 : its2.toArray.size = b.length := by rw [List.size_toArray]; exact i2.length
        have at1 : ∀ j (h1 : j < its.toArray.size), ∃ t, its.toArray[j] = .int (a.getD j 0) t := fun j h1 => PyProof.Rows.IntsAre.int_at i1 _ _ (by simp at h1; simp [h1])
        have at2 : ∀ j (h1 : j < its2.toArray.size), ∃ t, its2.toArray[j] = .int (b.getD j 0) t := fun j h1 => PyProof.Rows.IntsAre.int_at i2 _ _ (by simp at h1; simp [h1])
        have R := ht (A := X.A) (s := s) (e := fun j => decide (a.getD j 0 = b.getD j 0)) (r := fun j => p (a.getD j 0) (b.getD j 0)) p1 p2 (by omega) (fun j h1 h2 => by
          obtain ⟨t, et⟩ := at1 j h1
          obtain ⟨t', et'⟩ := at2 j h2
          rw [et, et']
          have z : (a.getD j 0 == b.getD j 0) = decide (a.getD j 0 = b.getD j 0) := by
            by_cases q : a.getD j 0 = b.getD j 0
            · rw [decide_eq_true q]
              exact beq_iff_eq.mpr q
            · rw [decide_eq_false q]
              exact beq_eq_false_iff_ne.mpr q
          rw [← z]
          exact PySem.SeqAt.EqAt.int_int _ _ _ _) (fun j h1 h2 _ => by
          obtain ⟨t, et⟩ := at1 j h1
          obtain ⟨t', et'⟩ := at2 j h2
          rw [et, et']
          exact hi X.A.in1 s _ _ _ _)
        rw [l1, l2, lexAt_lexG 0 p zz hz] at R
        rw [hc]
        exact R X.prog X.w X.xe (EP X pins σ Q) ⟨.bl _, H, I, rfl, k _ γ H Ext.refl (.bl _) ss⟩
      · cases e
  · exact h0 pins s σ H x y v u Q I rx ry ⟨_, _, S, γ, w, r1, r2, ss, e, k⟩
def opLt2 : O2 := opCmp2 (fun i j => decide (i < j)) (fun a b => decide (a < b)) fun m n => decide (m < n)
def opLe2 : O2 := opCmp2 (fun i j => decide (i ≤ j)) (fun a b => !decide (b < a)) fun m n => decide (m ≤ n)
def opGt2 : O2 := opCmp2 (fun i j => decide (j < i)) (fun a b => decide (b < a)) fun m n => decide (m > n)
def opGe2 : O2 := opCmp2 (fun i j => decide (j ≤ i)) (fun a b => !decide (a < b)) fun m n => decide (m ≥ n)
theorem o2_lt2 (hu : X.A.units + 100 < cLine) : OpR X (compareOp .Lt) (rOf X.K G opLt2) := o2_cmpT hu (fun m n => by simp) o2_lt (fun A s x t y u => fun _ _ _ _ h => PyProof.Rows.lt_str h) (fun A s x t y u => Ob.RcOp.lt_int _ _ _ _) Ob.RcOp.tuples_lt fun _ _ => rfl
theorem o2_le2 (hu : X.A.units + 100 < cLine) : OpR X (compareOp .LtE) (rOf X.K G opLe2) := o2_cmpT hu (fun m n => by simp) o2_le (fun A s x t y u => fun _ _ _ _ h => PySem.P.le_str h) (fun A s x t y u => Ob.RcOp.le_int _ _ _ _) Ob.RcOp.tuples_le fun _ _ => rfl
theorem o2_gt2 (hu : X.A.units + 100 < cLine) : OpR X (compareOp .Gt) (rOf X.K G opGt2) := o2_cmpT hu (fun m n => by simp) o2_gt (fun A s x t y u => fun _ _ _ _ h => PySem.P.gt_str h) (fun A s x t y u => Ob.RcOp.gt_int _ _ _ _) Ob.RcOp.tuples_gt fun _ _ => rfl
theorem o2_ge2 (hu : X.A.units + 100 < cLine) : OpR X (compareOp .GtE) (rOf X.K G opGe2) := o2_cmpT hu (fun m n => by simp) o2_ge (fun A s x t y u => fun _ _ _ _ h => PySem.P.ge_str h) (fun A s x t y u => Ob.RcOp.ge_int _ _ _ _) Ob.RcOp.tuples_ge fun _ _ => rfl
end
end Mp
set_option Elab.async false
set_option linter.all false
set_option maxRecDepth 100000
set_option maxHeartbeats 4000000
/-! Mp: itertools.combinations. -/
namespace MpC
open PySem PySem.Spec
open Sem (wp)
theorem mro_c : mroOf (.type "itertools.combinations") = pure [.type "itertools.combinations", .type "object"] := by rw [mroOf_type]; kernel_rfl
theorem lookup_c_new : typeLookup (.type "itertools.combinations") "__new__" = pure (some (.builtin "itertools.combinations.__new__")) := by rw [typeLookup_type, builtinLookup_eq_fast]; kernel_rfl
theorem sub_c : isSubtype (.type "itertools.combinations") (.type "itertools.combinations") = pure true := by rw [isSubtype_type]; kernel_rfl
theorem slot_c_init : Slot "itertools.combinations" "__init__" "object.__init__" := .of (owner := "object") (n := "__init__") (by rw [typeLookup_type, builtinLookup_eq_fast]; kernel_rfl) (by decide +kernel) (by decide +kernel) (by decide +kernel) (by first | exact .inl (by decide +kernel) | exact .inr (by decide +kernel)) (by rw [isSubtype_type]; kernel_rfl)
theorem called_c : TypeCalled "itertools.combinations" "itertools.combinations.__new__" "object.__init__" := ⟨by decide +kernel, by decide +kernel, ⟨_, _, mro_c⟩, madeBy_type mro_c lookup_c_new (by decide +kernel), by decide +kernel, sub_c, slot_c_init⟩
theorem typeCall_c (a b : Value) : checkTypeCall "itertools.combinations" ⟨[a, b], []⟩ = pure () := by kernel_rfl
theorem newCall_c (a b : Value) : checkBuiltinCall "itertools.combinations.__new__" ⟨[.type "itertools.combinations", a, b], []⟩ = pure () := by kernel_rfl
theorem entry_c_new : entryFor table "itertools.combinations.__new__" = some Builtin.«itertools.combinations.__new__» := entryFor_of_tree (by kernel_rfl)
theorem entry_c_next : entryFor table "itertools.combinations.__next__" = some Builtin.«itertools.combinations.__next__» := entryFor_of_tree (by kernel_rfl)
theorem slot_c_iter : Slot "itertools.combinations" "__iter__" "itertools.combinations.__iter__" := .of (owner := "itertools.combinations") (n := "__iter__") (by rw [typeLookup_type, builtinLookup_eq_fast]; kernel_rfl) (by decide +kernel) (by decide +kernel) (by decide +kernel) (by first | exact .inl (by decide +kernel) | exact .inr (by decide +kernel)) sub_c
theorem slot_c_next : Slot "itertools.combinations" "__next__" "itertools.combinations.__next__" := .of (owner := "itertools.combinations") (n := "__next__") (by rw [typeLookup_type, builtinLookup_eq_fast]; kernel_rfl) (by decide +kernel) (by decide +kernel) (by decide +kernel) (by first | exact .inl (by decide +kernel) | exact .inr (by decide +kernel)) sub_c
theorem entry_c_iter : entryFor table "itertools.combinations.__iter__" = some Builtin.«dict_keyiterator.__iter__» := entryFor_alias (id' := "dict_keyiterator.__iter__") (by kernel_rfl) (by first | rfl | decide +kernel | (unfold String.splitOn; simp +decide [String.splitOnAux])) (by decide +kernel) (by kernel_rfl)
theorem owner_c : Manifest.owners.lookup (String.ofList ['s', 'n', 'o', 'i', 't', 'a', 'n', 'i', 'b', 'm', 'o', 'c', '.', 's', 'l', 'o', 'o', 't', 'r', 'e', 't', 'i'].reverse) = some Manifest.sig_itertools_combinations := by kernel_rfl
theorem args_c_iter (a : Value) : argsOk "itertools.combinations.__iter__" ⟨[a], []⟩ := by unfold argsOk; rw [signature?_of (id := "itertools.combinations.__iter__") (n := ['_', '_', 'r', 'e', 't', 'i', '_', '_']) (o := ['s', 'n', 'o', 'i', 't', 'a', 'n', 'i', 'b', 'm', 'o', 'c', '.', 's', 'l', 'o', 'o', 't', 'r', 'e', 't', 'i']) (by kernel_rfl) owner_c]; kernel_rfl
theorem args_c_next (a : Value) : argsOk "itertools.combinations.__next__" ⟨[a], []⟩ := by unfold argsOk; rw [signature?_of (id := "itertools.combinations.__next__") (n := ['_', '_', 't', 'x', 'e', 'n', '_', '_']) (o := ['s', 'n', 'o', 'i', 't', 'a', 'n', 'i', 'b', 'm', 'o', 'c', '.', 's', 'l', 'o', 'o', 't', 'r', 'e', 't', 'i']) (by kernel_rfl) owner_c]; kernel_rfl
theorem noDict_c : typeHasDict (.type "itertools.combinations") = false := by decide +kernel
/-- the iterator: the pool, the state, what it gave last, where it stands -/
abbrev IsComb (h : Heap) (it pool : Addr) (st : Int) (last : Value) (idx : List Nat) : Prop := h.get? it = some { cls := .type "itertools.combinations", dict := none, data := .fields (#[.ref pool, rawInt st, last] ++ (idx.map fun (n : Nat) => rawInt n).toArray), slots := #[] }
def nextC (n : Nat) (idx : List Nat) : Option (List Nat) := match (List.range idx.length).reverse.find? fun i => idx.getD i 0 != i + n - idx.length with
  | none => none
  | some i => some (idx.take i ++ (List.range (idx.length - i)).map (idx.getD i 0 + 1 + ·))
section
variable {prog : Program} {w : World} {A : Around} {E : Value → Shared → Prop} {s : Shared}
theorem iter_c {it pool : Addr} {st : Int} {last : Value} {idx : List Nat} {Q : Value → Shared → Prop} (hit : IsComb s.heap it pool st last idx) (h : Q (.ref it) s) : wpAny (model prog w) A (pyIter (.ref it)) Q E s := by
  have hT : s.TypeIs (.ref it) "itertools.combinations" := ⟨_, hit, rfl⟩
  refine wpAny_pyIter_slot hT slot_c_iter (wpAny_call_entry slot_c_iter hT entry_c_iter ?_ (args_c_iter _))
  show wpAny _ _ (ret (.ref it)) _ _ s; exact wpAny_pure ⟨_, rfl, "itertools.combinations", _, hT, slot_c_next.lookup, h⟩
theorem numbers_back (idx : List Nat) (a b c : Value) (f : Value → Nat) (hf : ∀ k : Nat, f (rawInt k) = k) : List.map f (List.drop 3 (#[a, b, c] ++ (idx.map fun (n : Nat) => rawInt n).toArray : Array Value).toList) = idx := by
  have e : List.drop 3 (#[a, b, c] ++ (idx.map fun (n : Nat) => rawInt n).toArray : Array Value).toList = idx.map fun (n : Nat) => rawInt n := by simp
  rw [e, List.map_map]
  conv => rhs; rw [← List.map_id idx]
  exact List.map_congr_left fun k _ => hf k
end
end MpC
set_option Elab.async false
set_option linter.all false
set_option maxRecDepth 100000
set_option maxHeartbeats 4000000
/-! Mp: itertools.combinations, a step. -/
namespace MpC
open PySem PySem.Spec
open Sem (wp)
section
variable {prog : Program} {w : World} {A : Around} {E : Value → Shared → Prop} {s : Shared}
theorem f0 (a b c : Value) (xs : Array Value) : (#[a, b, c] ++ xs)[0]? = some a := by rw [Array.getElem?_append_left (show 0 < (#[a, b, c] : Array Value).size from by show 0 < 3; decide)] <;> rfl
theorem f1 (a b c : Value) (xs : Array Value) : (#[a, b, c] ++ xs)[1]? = some b := by rw [Array.getElem?_append_left (show 1 < (#[a, b, c] : Array Value).size from by show 1 < 3; decide)] <;> rfl
theorem f2 (a b c : Value) (xs : Array Value) : (#[a, b, c] ++ xs)[2]? = some c := by rw [Array.getElem?_append_left (show 2 < (#[a, b, c] : Array Value).size from by show 2 < 3; decide)] <;> rfl
theorem set1 (a b c v : Value) (xs : List Value) : (#[a, b, c] ++ xs.toArray).setIfInBounds 1 v = #[a, v, c] ++ xs.toArray := Array.toList_inj.mp (by simp)
theorem set2 (a b c v : Value) (xs : List Value) : (#[a, b, c] ++ xs.toArray).setIfInBounds 2 v = #[a, b, v] ++ xs.toArray := Array.toList_inj.mp (by simp)
theorem hand_out {it pool : Addr} {st : Int} {last : Value} {idx : List Nat} {its : List Value} {n : Nat} {Q : Value → Shared → Prop} (hit : IsComb s.heap it pool st last idx) (hp : s.heap.get? pool = some { cls := .type "tuple", data := .seq its.toArray n }) (hl : idx.length ≤ sizeLine)
    (hQ : ∀ h', IsComb h' it pool st (.ref s.heap.objs.size) idx → h'.get? s.heap.objs.size = some { cls := .type "tuple", data := .seq (idx.map fun i => its.getD i .none).toArray } → (∀ b o, b ≠ it → s.heap.get? b = some o → h'.get? b = some o) → Q (.ref s.heap.objs.size) { s with heap := h' }) :
    wpAny (model prog w) A (do
      let result ← (do let items ← Builtin.Itertools.itPoolItems (.ref pool); newTuple (idx.map fun i => items.getD i .none))
      let before ← field (.ref it) 2
      setField (.ref it) 2 result
      letGo [before] [result]
      ret result) (fun fin s' => ∃ v, fin = .done (.ret v) ∧ Q v s') E s := by
  refine wpAny_bind (wpAny_bind ?_)
  unfold Builtin.Itertools.itPoolItems
  refine wpAny_bind (wpAny_seqItems hp rfl ?_)
  refine wpAny_pure ?_
  show wpAny _ _ (newTuple (idx.map fun i => its.toArray.getD i .none)) _ _ _
  have e : (idx.map fun i => its.toArray.getD i .none) = idx.map fun i => its.getD i .none := List.map_congr_left fun i _ => by simp
  rw [e]
  have hlt : it < s.heap.objs.size := Heap.lt_size hit
  refine wpAny_newTuple ?_ (by rw [List.length_map]; exact hl)
  have hit1 : IsComb (s.heap.push { cls := .type "tuple", data := .seq (idx.map fun i => its.getD i .none).toArray }) it pool st last idx := Heap.get?_push_of_some _ hit
  refine wpAny_bind (wpAny_field hit1 rfl (f2 _ _ _ _) ?_)
  refine wpAny_bind (wpAny_setField hit1 rfl (by simp) ?_)
  refine wpAny_bind (wpAny_letGo ?_)
  refine wpAny_pure ⟨_, rfl, hQ _ ?_ ?_ fun b o hb q => ?_⟩
  · have z := Heap.get?_update_self (Obj.mapFields fun x => x.setIfInBounds 2 (.ref s.heap.objs.size)) hit1 rfl
    exact z.trans (congrArg (fun d => some ({ cls := .type "itertools.combinations", dict := none, data := .fields d, slots := #[] } : Obj)) (set2 _ _ _ _ _))
  · rw [Heap.get?_update_ne _ _ _ _ (Nat.ne_of_gt hlt)]
    exact Heap.get?_push_size _ rfl
  · rw [Heap.get?_update_ne _ _ _ _ hb]
    exact Heap.get?_push_of_some _ q
theorem next_first {it pool : Addr} {last : Value} {idx : List Nat} {its : List Value} {n : Nat} {Q : Option Value → Shared → Prop} (hit : IsComb s.heap it pool 0 last idx) (hp : s.heap.get? pool = some { cls := .type "tuple", data := .seq its.toArray n }) (hne : pool ≠ it) (hl : idx.length ≤ sizeLine)
    (hQ : ∀ h', IsComb h' it pool 1 (.ref s.heap.objs.size) idx → h'.get? s.heap.objs.size = some { cls := .type "tuple", data := .seq (idx.map fun i => its.getD i .none).toArray } → (∀ b o, b ≠ it → s.heap.get? b = some o → h'.get? b = some o) → Q (some (.ref s.heap.objs.size)) { s with heap := h' }) :
    wpAny (model prog w) A (pyNext (.ref it)) Q E s := by
  have hT : s.TypeIs (.ref it) "itertools.combinations" := ⟨_, hit, rfl⟩
  unfold pyNext
  refine wpAny_bind (wpAny_attempt (wpAny_callSpecial?_slot (name := Str.ofString "__next__") hT slot_c_next (wpAny_call_entry slot_c_next hT entry_c_next ?_ (args_c_next _))))
  show wpAny _ _ (field (.ref it) 0 >>= _) _ _ _
  refine wpAny_bind (wpAny_field hit rfl (f0 _ _ _ _) ?_)
  show wpAny _ _ (Builtin.Itertools.itNumbersFrom (.ref it) 3 >>= _) _ _ _
  unfold Builtin.Itertools.itNumbersFrom
  refine wpAny_bind (wpAny_bind (wpAny_load hit (wpAny_pure ?_)))
  rw [numbers_back idx _ _ _ _ (fun k => Int.toNat_natCast k)]
  show wpAny _ _ (Builtin.Itertools.itIntField (.ref it) 1 >>= _) _ _ _
  unfold Builtin.Itertools.itIntField
  refine wpAny_bind (wpAny_bind (wpAny_field hit rfl (f1 _ _ _ _) (wpAny_pure ?_)))
  show wpAny _ _ (setField (.ref it) 1 (rawInt 1) >>= _) _ _ _
  refine wpAny_bind (wpAny_setField hit rfl (by simp) ?_)
  have hit1 : IsComb (s.heap.update it (Obj.mapFields fun x => x.setIfInBounds 1 (rawInt 1))) it pool 1 last idx := by
    have z := Heap.get?_update_self (Obj.mapFields fun x => x.setIfInBounds 1 (rawInt 1)) hit rfl
    exact z.trans (congrArg (fun d => some ({ cls := .type "itertools.combinations", dict := none, data := .fields d, slots := #[] } : Obj)) (set1 _ _ _ _ _))
  have hsz : (s.heap.update it (Obj.mapFields fun x => x.setIfInBounds 1 (rawInt 1))).objs.size = s.heap.objs.size := Heap.size_update ..
  have hp1 : (s.heap.update it (Obj.mapFields fun x => x.setIfInBounds 1 (rawInt 1))).get? pool = some { cls := .type "tuple", data := .seq its.toArray n } := by rw [Heap.get?_update_ne _ _ _ _ hne]; exact hp
  refine hand_out (s := { s with heap := s.heap.update it (Obj.mapFields fun x => x.setIfInBounds 1 (rawInt 1)) }) hit1 hp1 hl fun h' x1 x2 x3 => wpAny_pure ?_
  have x1 : IsComb h' it pool 1 (.ref (s.heap.update it (Obj.mapFields fun x => x.setIfInBounds 1 (rawInt 1))).objs.size) idx := x1
  show Q (some (.ref (s.heap.update it (Obj.mapFields fun x => x.setIfInBounds 1 (rawInt 1))).objs.size)) _
  have x2 : h'.get? (s.heap.update it (Obj.mapFields fun x => x.setIfInBounds 1 (rawInt 1))).objs.size = some { cls := .type "tuple", data := .seq (idx.map fun i => its.getD i .none).toArray } := x2
  rw [hsz] at x1 x2 ⊢
  exact hQ h' x1 x2 fun b o hb q => x3 b o hb (by show (s.heap.update it _).get? b = some o; rw [Heap.get?_update_ne _ _ _ _ hb]; exact q)
theorem next_more {it pool : Addr} {last : Value} {idx jdx : List Nat} {its : List Value} {n : Nat} {Q : Option Value → Shared → Prop} (hit : IsComb s.heap it pool 1 last idx) (hp : s.heap.get? pool = some { cls := .type "tuple", data := .seq its.toArray n }) (hne : pool ≠ it) (hl : jdx.length ≤ sizeLine) (hj : nextC its.length idx = some jdx)
    (hQ : ∀ h', IsComb h' it pool 1 (.ref s.heap.objs.size) jdx → h'.get? s.heap.objs.size = some { cls := .type "tuple", data := .seq (jdx.map fun i => its.getD i .none).toArray } → (∀ b o, b ≠ it → s.heap.get? b = some o → h'.get? b = some o) → Q (some (.ref s.heap.objs.size)) { s with heap := h' }) :
    wpAny (model prog w) A (pyNext (.ref it)) Q E s := by
  have hT : s.TypeIs (.ref it) "itertools.combinations" := ⟨_, hit, rfl⟩
  unfold pyNext
  refine wpAny_bind (wpAny_attempt (wpAny_callSpecial?_slot (name := Str.ofString "__next__") hT slot_c_next (wpAny_call_entry slot_c_next hT entry_c_next ?_ (args_c_next _))))
  show wpAny _ _ (field (.ref it) 0 >>= _) _ _ _
  refine wpAny_bind (wpAny_field hit rfl (f0 _ _ _ _) ?_)
  show wpAny _ _ (Builtin.Itertools.itNumbersFrom (.ref it) 3 >>= _) _ _ _
  unfold Builtin.Itertools.itNumbersFrom
  refine wpAny_bind (wpAny_bind (wpAny_load hit (wpAny_pure ?_)))
  rw [numbers_back idx _ _ _ _ (fun k => Int.toNat_natCast k)]
  show wpAny _ _ (Builtin.Itertools.itIntField (.ref it) 1 >>= _) _ _ _
  unfold Builtin.Itertools.itIntField
  refine wpAny_bind (wpAny_bind (wpAny_field hit rfl (f1 _ _ _ _) (wpAny_pure ?_)))
  show wpAny _ _ (Builtin.Itertools.itPoolItems (.ref pool) >>= _) _ _ _
  unfold Builtin.Itertools.itPoolItems
  refine wpAny_bind (wpAny_bind (wpAny_seqItems hp rfl (wpAny_pure ?_)))
  show wpAny _ _ (match nextC its.toArray.size idx with
    | some next => (Builtin.Itertools.itSetNumbersFrom (.ref it) 3 next >>= fun _ => (do
        let result ← (do let items ← Builtin.Itertools.itPoolItems (.ref pool); newTuple (next.map fun i => items.getD i .none))
        let before ← field (.ref it) 2
        setField (.ref it) 2 result
        letGo [before] [result]
        ret result))
    | none => (do setField (.ref it) 1 (rawInt 2); Builtin.Itertools.itStop)) _ _ _
  rw [show its.toArray.size = its.length from List.size_toArray, hj]
  have ext3 : ∀ (a b c : Value) (xs ys : List Value), ((#[a, b, c] ++ xs.toArray : Array Value).extract 0 3 ++ ys.toArray) = #[a, b, c] ++ ys.toArray := fun a b c xs ys => Array.toList_inj.mp (by simp)
  have hsz : (s.heap.update it (Obj.mapFields fun fs => fs.extract 0 3 ++ (jdx.map fun (n : Nat) => rawInt n).toArray)).objs.size = s.heap.objs.size := Heap.size_update ..
  have hit1 : IsComb (s.heap.update it (Obj.mapFields fun fs => fs.extract 0 3 ++ (jdx.map fun (n : Nat) => rawInt n).toArray)) it pool 1 last jdx := by
    have z := Heap.get?_update_self (Obj.mapFields fun fs => fs.extract 0 3 ++ (jdx.map fun (n : Nat) => rawInt n).toArray) hit rfl
    exact z.trans (congrArg (fun d => some ({ cls := .type "itertools.combinations", dict := none, data := .fields d, slots := #[] } : Obj)) (ext3 _ _ _ _ _))
  have hp1 : (s.heap.update it (Obj.mapFields fun fs => fs.extract 0 3 ++ (jdx.map fun (n : Nat) => rawInt n).toArray)).get? pool = some { cls := .type "tuple", data := .seq its.toArray n } := by rw [Heap.get?_update_ne _ _ _ _ hne]; exact hp
  refine wpAny_bind ?_
  unfold Builtin.Itertools.itSetNumbersFrom
  refine wpAny_updateFields hit rfl ?_ ?_
  · refine hand_out (s := { s with heap := s.heap.update it (Obj.mapFields fun fs => fs.extract 0 3 ++ (jdx.map fun (n : Nat) => rawInt n).toArray) }) hit1 hp1 hl fun h' x1 x2 x3 => wpAny_pure ?_
    have x1 : IsComb h' it pool 1 (.ref (s.heap.update it (Obj.mapFields fun fs => fs.extract 0 3 ++ (jdx.map fun (n : Nat) => rawInt n).toArray)).objs.size) jdx := x1
    show Q (some (.ref (s.heap.update it (Obj.mapFields fun fs => fs.extract 0 3 ++ (jdx.map fun (n : Nat) => rawInt n).toArray)).objs.size)) _
    have x2 : h'.get? (s.heap.update it (Obj.mapFields fun fs => fs.extract 0 3 ++ (jdx.map fun (n : Nat) => rawInt n).toArray)).objs.size = some { cls := .type "tuple", data := .seq (jdx.map fun i => its.getD i .none).toArray } := x2
    rw [hsz] at x1 x2 ⊢
    exact hQ h' x1 x2 fun b o hb q => x3 b o hb (by show (s.heap.update it _).get? b = some o; rw [Heap.get?_update_ne _ _ _ _ hb]; exact q)
  · rw [ext3]
    simp
    omega
theorem stop_at {α : Type} {P : α → Shared → Prop} {E' : Value → Shared → Prop} (hh : A.handled = none) (hE : ∀ h' e, (∀ b o, s.heap.get? b = some o → h'.get? b = some o) → (∃ o, h'.get? e = some o ∧ o.cls = .type "StopIteration") → E' (.ref e) { s with heap := h' }) : wpAny (model prog w) A (Builtin.Itertools.itStop (α := α)) P E' s := by
  unfold Builtin.Itertools.itStop
  refine wpAny_bind ?_; simp only [newExc, newTuple]; refine wpAny_bind (wpAny_newObj_type ?_ (by size_fits))
  refine wpAny_bind (m := firstArgMember _ _) (wpAny_of_eq (a := Value.none) (by first | rfl | (simp only [firstArgMember]; rfl)) ?_); refine wpAny_newObj_type ?_ (by size_fits); simp only [raiseNew]; refine wpAny_bind (wpAny_handled ?_)
  rw [hh]; refine wpAny_bind (wpAny_pure (wpAny_throw ?_))
  exact hE _ _ (fun b o q => Heap.get?_push_of_some _ (Heap.get?_push_of_some _ q)) ⟨_, Heap.get?_push_size _ rfl, rfl⟩
theorem next_stop {it pool : Addr} {st : Int} {last : Value} {idx : List Nat} {its : List Value} {n : Nat} {Q : Option Value → Shared → Prop} (hh : A.handled = none) (hit : IsComb s.heap it pool st last idx) (hp : s.heap.get? pool = some { cls := .type "tuple", data := .seq its.toArray n })
    (hj : st = 2 ∨ (st = 1 ∧ nextC its.length idx = none)) (hQ : ∀ h', (∀ b o, b ≠ it → s.heap.get? b = some o → h'.get? b = some o) → Q none { s with heap := h' }) : wpAny (model prog w) A (pyNext (.ref it)) Q E s := by
  have hT : s.TypeIs (.ref it) "itertools.combinations" := ⟨_, hit, rfl⟩
  have fin : ∀ (h0 : Heap), (∀ b o, b ≠ it → s.heap.get? b = some o → h0.get? b = some o) → ∀ (P : PySem.Fin → Shared → Prop), wpAny (model prog w) A.in1 (Builtin.Itertools.itStop (α := PySem.Fin)) P (fun e s' => wpAny (model prog w) A (do let b ← isInstance e (.type "StopIteration"); if b = true then pure none else throw e) Q E s') { s with heap := h0 } := by
    intro h0 k P
    refine stop_at (s := { s with heap := h0 }) (show A.in1.handled = none from hh) fun h' e k2 x => ?_
    obtain ⟨o, ho, hc⟩ := x
    exact wpAny_bind (wpAny_isInstance (T := "StopIteration") (b := true) ⟨o, ho, hc⟩ isSubtype_stop (wpAny_pure (hQ h' fun b o hb q => k2 b o (k b o hb q))))
  unfold pyNext
  refine wpAny_bind (wpAny_attempt (wpAny_callSpecial?_slot (name := Str.ofString "__next__") hT slot_c_next (wpAny_call_entry slot_c_next hT entry_c_next ?_ (args_c_next _))))
  show wpAny _ _ (field (.ref it) 0 >>= _) _ _ _
  refine wpAny_bind (wpAny_field hit rfl (f0 _ _ _ _) ?_)
  show wpAny _ _ (Builtin.Itertools.itNumbersFrom (.ref it) 3 >>= _) _ _ _
  unfold Builtin.Itertools.itNumbersFrom
  refine wpAny_bind (wpAny_bind (wpAny_load hit (wpAny_pure ?_)))
  rw [numbers_back idx _ _ _ _ (fun k => Int.toNat_natCast k)]
  show wpAny _ _ (Builtin.Itertools.itIntField (.ref it) 1 >>= _) _ _ _
  unfold Builtin.Itertools.itIntField
  refine wpAny_bind (wpAny_bind (wpAny_field hit rfl (f1 _ _ _ _) (wpAny_pure ?_)))
  rcases hj with e | ⟨e, hj⟩
  · subst e
    show wpAny _ _ (rule _ >>= fun _ => Builtin.Itertools.itStop) _ _ _
    refine wpAny_bind (wpAny_rule ?_)
    exact fin s.heap (fun _ _ _ q => q) _
  · subst e
    show wpAny _ _ (Builtin.Itertools.itPoolItems (.ref pool) >>= _) _ _ _
    unfold Builtin.Itertools.itPoolItems
    refine wpAny_bind (wpAny_bind (wpAny_seqItems hp rfl (wpAny_pure ?_)))
    show wpAny _ _ (match nextC its.toArray.size idx with
      | some next => (Builtin.Itertools.itSetNumbersFrom (.ref it) 3 next >>= fun _ => (do
          let result ← (do let items ← Builtin.Itertools.itPoolItems (.ref pool); newTuple (next.map fun i => items.getD i .none))
          let before ← field (.ref it) 2
          setField (.ref it) 2 result
          letGo [before] [result]
          ret result))
      | none => (do setField (.ref it) 1 (rawInt 2); Builtin.Itertools.itStop)) _ _ _
    rw [show its.toArray.size = its.length from List.size_toArray, hj]
    refine wpAny_bind (wpAny_setField hit rfl (by simp) ?_)
    exact fin _ (fun b o hb q => by rw [Heap.get?_update_ne _ _ _ _ hb]; exact q) _
end
end MpC
set_option Elab.async false
set_option linter.all false
set_option maxRecDepth 100000
set_option maxHeartbeats 4000000
/-! Mp: itertools.combinations, made and walked. -/
namespace MpC
open PySem PySem.Spec PyProof.Rows
open Sem (wp)
theorem meets_c (l : Addr) (items : List Value) (n : Nat) (dct : Option Addr) (sl : Array (Option Value)) (r : Nat) (t : Tok) (hr : r ≤ 1048576) (hz : items.length ≤ sizeLine) : Meets (Builtin.«itertools.combinations.__new__» ⟨[.type "itertools.combinations", .ref l, .int r t], []⟩) (fun _ R s => s.heap.get? l = some { cls := .type "list", dict := dct, data := .seq items.toArray n, slots := sl } ∧
    R (.ok (.ret (.ref (s.heap.objs.size + 2)))) { s with heap := ((((s.heap.push (seqObj "list" #[] 0)).update s.heap.objs.size (Obj.mapSeq (· ++ items.toArray))).push { cls := .type "tuple", data := .seq items.toArray }).push { cls := .type "itertools.combinations", data := .fields (#[.ref (s.heap.objs.size + 1), rawInt (if r > items.length then 2 else 0), .none] ++ ((List.range r).map fun (n : Nat) => rawInt n).toArray) }) }) :=
  .of_wp fun prog w A R s h => by
    obtain ⟨hp, g, d, tk, os⟩ := s
    obtain ⟨hl, h⟩ := h
    have hsub := sub_c
    have hsub2 : isSubtype (.type "itertools.combinations") (.type ("itertools." ++ "combinations")) = pure true := by
      rw [show ("itertools." ++ "combinations" : String) = "itertools.combinations" from by decide +kernel]
      exact sub_c
    have hd := noDict_c
    have hn : ¬ (((decide ((r : Int) < -(2 ^ 63 : Int)) || decide ((r : Int) ≥ (2 ^ 63 : Int)))) = true) := by
      have a : decide ((r : Int) < -(2 ^ 63 : Int)) = false := decide_eq_false (by omega)
      have b : decide ((r : Int) ≥ (2 ^ 63 : Int)) = false := decide_eq_false (by omega)
      rw [a, b]
      decide
    unfold Builtin.«itertools.combinations.__new__»
    have hL : Heap.IsList (Shared.heap ⟨hp, g, d, tk, os⟩) l items.toArray := ⟨_, hl, rfl, n, rfl⟩
    have n0 : ¬ ((r : Int) < 0) := by omega
    have n1 : ¬ (Builtin.Itertools.itTooMany (r : Int) = true) := by unfold Builtin.Itertools.itTooMany; rw [decide_eq_true_eq]; omega
    repeat (first
      | (with_reducible show wpAny _ _ (collect _) _ _ _; refine collect_list hL ?_ hz)
      | (refine wpAny_ite_false (decide_eq_false n0) ?_)
      | wp_step
      | simp only [List.head?_cons, Option.some_or, List.getElem?_cons_succ, List.getElem?_cons_zero, List.length_cons, List.length_nil, List.forIn_nil]
      | (refine wpAny_ite_false (decide_eq_false hn) ?_))
    have z1 : ((hp.push (seqObj "list" #[] 0)).update hp.objs.size (Obj.mapSeq fun x => x ++ items.toArray)).objs.size = hp.objs.size + 1 := by rw [Heap.size_update, size_push']
    rw [if_neg (by rw [List.size_toArray, List.length_append, List.length_map, List.length_range, Int.toNat_natCast, sizeLine_eq]; show ¬ 3 + r > _; omega)]
    simp only [newObjAsIs]
    refine wpAny_bind (wpAny_alloc (wpAny_pure (wpAny_pure ⟨_, rfl, ?_⟩)))
    have h : R (.ok (.ret (.ref (hp.objs.size + 2)))) ⟨((((hp.push (seqObj "list" #[] 0)).update hp.objs.size (Obj.mapSeq (· ++ items.toArray))).push { cls := .type "tuple", data := .seq items.toArray }).push { cls := .type "itertools.combinations", data := .fields (#[.ref (hp.objs.size + 1), rawInt (if r > items.length then 2 else 0), .none] ++ ((List.range r).map fun (n : Nat) => rawInt n).toArray) }), g, d, tk, os⟩ := h
    have z2 : (((hp.push (seqObj "list" #[] 0)).update hp.objs.size (Obj.mapSeq fun x => x ++ items.toArray)).push { cls := .type "tuple", data := .seq items.toArray }).objs.size = hp.objs.size + 2 := by rw [size_push', z1]
    have e3 : ∀ (a b c : Value) (L : List Value), ([a, b, c] ++ L).toArray = #[a, b, c] ++ L.toArray := fun a b c L => Array.toList_inj.mp (by simp)
    show R (.ok (.ret (.ref (((hp.push (seqObj "list" #[] 0)).update hp.objs.size (Obj.mapSeq fun x => x ++ items.toArray)).push { cls := .type "tuple", data := .seq items.toArray }).objs.size))) ⟨((((hp.push (seqObj "list" #[] 0)).update hp.objs.size (Obj.mapSeq fun x => x ++ items.toArray)).push { cls := .type "tuple", data := .seq items.toArray }).push { cls := .type "itertools.combinations", data := .fields ([Value.ref ((hp.push (seqObj "list" #[] 0)).update hp.objs.size (Obj.mapSeq fun x => x ++ items.toArray)).objs.size, rawInt (if (r : Int).toNat > items.length then 2 else 0), Value.none] ++ List.map (fun i => rawInt (i : Nat)) (List.range (r : Int).toNat)).toArray }), g, d, tk, os⟩
    rw [z1, z2, e3, Int.toNat_natCast]
    exact h
theorem meets_cT (l : Addr) (items : List Value) (n : Nat) (dct : Option Addr) (sl : Array (Option Value)) (r : Nat) (t : Tok) (hr : r ≤ 1048576) (hz : items.length ≤ sizeLine) : Meets (Builtin.«itertools.combinations.__new__» ⟨[.type "itertools.combinations", .ref l, .int r t], []⟩) (fun _ R s => s.heap.get? l = some { cls := .type "tuple", dict := dct, data := .seq items.toArray n, slots := sl } ∧
    R (.ok (.ret (.ref (s.heap.objs.size + 2)))) { s with heap := ((((s.heap.push (seqObj "list" #[] 0)).update s.heap.objs.size (Obj.mapSeq (· ++ items.toArray))).push { cls := .type "tuple", data := .seq items.toArray }).push { cls := .type "itertools.combinations", data := .fields (#[.ref (s.heap.objs.size + 1), rawInt (if r > items.length then 2 else 0), .none] ++ ((List.range r).map fun (n : Nat) => rawInt n).toArray) }) }) :=
  .of_wp fun prog w A R s h => by
    obtain ⟨hp, g, d, tk, os⟩ := s
    obtain ⟨hl, h⟩ := h
    have hsub := sub_c
    have hsub2 : isSubtype (.type "itertools.combinations") (.type ("itertools." ++ "combinations")) = pure true := by
      rw [show ("itertools." ++ "combinations" : String) = "itertools.combinations" from by decide +kernel]
      exact sub_c
    have hd := noDict_c
    have hn : ¬ (((decide ((r : Int) < -(2 ^ 63 : Int)) || decide ((r : Int) ≥ (2 ^ 63 : Int)))) = true) := by
      have a : decide ((r : Int) < -(2 ^ 63 : Int)) = false := decide_eq_false (by omega)
      have b : decide ((r : Int) ≥ (2 ^ 63 : Int)) = false := decide_eq_false (by omega)
      rw [a, b]
      decide
    unfold Builtin.«itertools.combinations.__new__»
    have hL := hl
    have n0 : ¬ ((r : Int) < 0) := by omega
    have n1 : ¬ (Builtin.Itertools.itTooMany (r : Int) = true) := by unfold Builtin.Itertools.itTooMany; rw [decide_eq_true_eq]; omega
    repeat (first
      | (with_reducible show wpAny _ _ (collect _) _ _ _; refine Mp.gather_tup hL rfl rfl hz ?_)
      | (refine wpAny_ite_false (decide_eq_false n0) ?_)
      | wp_step
      | simp only [List.head?_cons, Option.some_or, List.getElem?_cons_succ, List.getElem?_cons_zero, List.length_cons, List.length_nil, List.forIn_nil]
      | (refine wpAny_ite_false (decide_eq_false hn) ?_))
    have z1 : ((hp.push (seqObj "list" #[] 0)).update hp.objs.size (Obj.mapSeq fun x => x ++ items.toArray)).objs.size = hp.objs.size + 1 := by rw [Heap.size_update, size_push']
    rw [if_neg (by rw [List.size_toArray, List.length_append, List.length_map, List.length_range, Int.toNat_natCast, sizeLine_eq]; show ¬ 3 + r > _; omega)]
    simp only [newObjAsIs]
    refine wpAny_bind (wpAny_alloc (wpAny_pure (wpAny_pure ⟨_, rfl, ?_⟩)))
    have h : R (.ok (.ret (.ref (hp.objs.size + 2)))) ⟨((((hp.push (seqObj "list" #[] 0)).update hp.objs.size (Obj.mapSeq (· ++ items.toArray))).push { cls := .type "tuple", data := .seq items.toArray }).push { cls := .type "itertools.combinations", data := .fields (#[.ref (hp.objs.size + 1), rawInt (if r > items.length then 2 else 0), .none] ++ ((List.range r).map fun (n : Nat) => rawInt n).toArray) }), g, d, tk, os⟩ := h
    have z2 : (((hp.push (seqObj "list" #[] 0)).update hp.objs.size (Obj.mapSeq fun x => x ++ items.toArray)).push { cls := .type "tuple", data := .seq items.toArray }).objs.size = hp.objs.size + 2 := by rw [size_push', z1]
    have e3 : ∀ (a b c : Value) (L : List Value), ([a, b, c] ++ L).toArray = #[a, b, c] ++ L.toArray := fun a b c L => Array.toList_inj.mp (by simp)
    show R (.ok (.ret (.ref (((hp.push (seqObj "list" #[] 0)).update hp.objs.size (Obj.mapSeq fun x => x ++ items.toArray)).push { cls := .type "tuple", data := .seq items.toArray }).objs.size))) ⟨((((hp.push (seqObj "list" #[] 0)).update hp.objs.size (Obj.mapSeq fun x => x ++ items.toArray)).push { cls := .type "tuple", data := .seq items.toArray }).push { cls := .type "itertools.combinations", data := .fields ([Value.ref ((hp.push (seqObj "list" #[] 0)).update hp.objs.size (Obj.mapSeq fun x => x ++ items.toArray)).objs.size, rawInt (if (r : Int).toNat > items.length then 2 else 0), Value.none] ++ List.map (fun i => rawInt (i : Nat)) (List.range (r : Int).toNat)).toArray }), g, d, tk, os⟩
    rw [z1, z2, e3, Int.toNat_natCast]
    exact h
section
variable {prog : Program} {w : World} {A : Around} {E : Value → Shared → Prop} {s : Shared}
theorem made {l : Addr} {items : List Value} {r : Nat} {t : Tok} {Q : Value → Shared → Prop} (hl : s.heap.IsList l items.toArray ∨ s.heap.IsTuple l items.toArray) (hr : r ≤ 1048576) (hz : items.length ≤ sizeLine)
    (h : ∀ h', IsComb h' (s.heap.objs.size + 2) (s.heap.objs.size + 1) (if r > items.length then 2 else 0) .none (List.range r) → h'.get? (s.heap.objs.size + 1) = some { cls := .type "tuple", data := .seq items.toArray } → (∀ b o, s.heap.get? b = some o → h'.get? b = some o) → Q (.ref (s.heap.objs.size + 2)) { s with heap := h' }) :
    wpAny (model prog w) A (call (.type "itertools.combinations") [.ref l, .int r t]) Q E s := by
  have z1 : ((s.heap.push (seqObj "list" #[] 0)).update s.heap.objs.size (Obj.mapSeq (· ++ items.toArray))).objs.size = s.heap.objs.size + 1 := by rw [Heap.size_update, size_push']
  have z2 : (((s.heap.push (seqObj "list" #[] 0)).update s.heap.objs.size (Obj.mapSeq (· ++ items.toArray))).push { cls := .type "tuple", data := .seq items.toArray }).objs.size = s.heap.objs.size + 2 := by rw [size_push', z1]
  have old : ∀ b o, s.heap.get? b = some o → ((s.heap.push (seqObj "list" #[] 0)).update s.heap.objs.size (Obj.mapSeq (· ++ items.toArray))).get? b = some o := fun b o q => by
    rw [Heap.get?_update_ne _ _ _ _ (Nat.ne_of_lt (Heap.lt_size q))]
    exact Heap.get?_push_of_some _ q
  have g1 := Heap.get?_push_size ((s.heap.push (seqObj "list" #[] 0)).update s.heap.objs.size (Obj.mapSeq (· ++ items.toArray))) (o := { cls := .type "tuple", data := .seq items.toArray }) rfl
  rw [z1] at g1
  have g2 := Heap.get?_push_size (((s.heap.push (seqObj "list" #[] 0)).update s.heap.objs.size (Obj.mapSeq (· ++ items.toArray))).push { cls := .type "tuple", data := .seq items.toArray }) (o := { cls := .type "itertools.combinations", data := .fields (#[.ref (s.heap.objs.size + 1), rawInt (if r > items.length then 2 else 0), .none] ++ ((List.range r).map fun (n : Nat) => rawInt n).toArray) }) rfl
  rw [z2] at g2
  have fin := h _ g2 (Heap.get?_push_of_some _ g1) fun b o q => Heap.get?_push_of_some _ (Heap.get?_push_of_some _ (old b o q))
  rcases hl with hl | hl
  · obtain ⟨⟨c, dct, dt, sl⟩, ho, hc, n, hd⟩ := hl
    replace hc : c = .type "list" := hc
    replace hd : dt = .seq items.toArray n := hd
    subst hc hd
    exact callType_new called_c (by decide +kernel) (typeCall_c _ _) (newCall_c _ _) (fun obj => F.args_object_init_3 obj _ _) entry_c_new (meets_c l items n dct sl r t hr hz) ⟨ho, ⟨_, g2, rfl⟩, fin⟩
  · obtain ⟨⟨c, dct, dt, sl⟩, ho, hc, n, hd⟩ := hl
    replace hc : c = .type "tuple" := hc
    replace hd : dt = .seq items.toArray n := hd
    subst hc hd
    exact callType_new called_c (by decide +kernel) (typeCall_c _ _) (newCall_c _ _) (fun obj => F.args_object_init_3 obj _ _) entry_c_new (meets_cT l items n dct sl r t hr hz) ⟨ho, ⟨_, g2, rfl⟩, fin⟩
end
end MpC
set_option Elab.async false
set_option linter.all false
set_option maxRecDepth 100000
set_option maxHeartbeats 4000000
/-! Mp: itertools.combinations walked. -/
namespace Mp
open PySem PySem.Spec PyProof.Rows L2
def combIdx (n : Nat) : Nat → List Nat → Option (List (List Nat))
  | 0, _ => none
  | f + 1, idx => match MpC.nextC n idx with
    | none => some [idx]
    | some j => (combIdx n f j).map (idx :: ·)
def combAll (n r : Nat) : Option (List (List Nat)) := if r > n then some [] else combIdx n 1000000 (List.range r)
def combsW : List W → Option (List W)
  | [x, .int r] => if 0 ≤ r ∧ r ≤ 1048576 then (match x with
    | .lst xs => (combAll xs.length r.toNat).map fun l => l.map fun idx => W.tup (idx.map fun i => xs.getD i .non)
    | .tup xs => (combAll xs.length r.toNat).map fun l => l.map fun idx => W.tup (idx.map fun i => xs.getD i .non)
    | _ => none) else none
  | _ => none
/-- the rows of places, one behind another -/
structure Chain (n r : Nat) (L : List (List Nat)) : Prop where
  first : L ≠ [] → L[0]? = some (List.range r) ∧ r ≤ n
  none : L = [] → r > n
  next : ∀ k a, L[k]? = some a → MpC.nextC n a = L[k + 1]? ∧ a.length = r
theorem nextC_len {n : Nat} {a b : List Nat} (h : MpC.nextC n a = some b) : b.length = a.length := by
  unfold MpC.nextC at h
  split at h
  · cases h
  · rename_i i hi
    cases h
    have hm := List.mem_of_find?_eq_some hi
    rw [List.mem_reverse, List.mem_range] at hm
    rw [List.length_append, List.length_take, List.length_map, List.length_range]
    omega
theorem combIdx_chain {n : Nat} : ∀ (f : Nat) (idx : List Nat) (L : List (List Nat)), combIdx n f idx = some L → L[0]? = some idx ∧ ∀ k a, L[k]? = some a → MpC.nextC n a = L[k + 1]? ∧ a.length = idx.length
  | 0, idx, L, h => by cases h
  | f + 1, idx, L, h => by
    unfold combIdx at h
    split at h
    · rename_i e
      cases h
      refine ⟨rfl, fun k a hk => ?_⟩
      cases k with
      | zero =>
        have : idx = a := by simpa using hk
        subst this
        exact ⟨e, rfl⟩
      | succ k => simp at hk
    · rename_i j e
      cases eq : combIdx n f j with
      | none => rw [eq] at h; cases h
      | some M =>
        rw [eq] at h
        cases h
        obtain ⟨h0, h1⟩ := combIdx_chain f j M eq
        refine ⟨rfl, fun k a hk => ?_⟩
        cases k with
        | zero =>
          have : idx = a := by simpa using hk
          subst this
          exact ⟨by rw [e]; exact h0.symm, rfl⟩
        | succ k =>
          obtain ⟨x1, x2⟩ := h1 k a (by simpa using hk)
          exact ⟨x1, by rw [x2, nextC_len e]⟩
theorem chain_of {n r : Nat} {L : List (List Nat)} (h : combAll n r = some L) : Chain n r L := by
  unfold combAll at h
  split at h
  · rename_i hr
    cases h
    exact ⟨fun z => absurd rfl z, fun _ => hr, fun k a hk => by simp at hk⟩
  · rename_i hr
    obtain ⟨h0, h1⟩ := combIdx_chain _ _ _ h
    refine ⟨fun _ => ⟨h0, by omega⟩, fun z => by rw [z] at h0; simp at h0, fun k a hk => ?_⟩
    obtain ⟨x1, x2⟩ := h1 k a hk
    exact ⟨x1, by rw [x2, List.length_range]⟩
def ItC (vs : List V) (L : List (List Nat)) : It :=
  ⟨fun i _ => i < L.length, fun i H v H' => ∃ T idx, v = .ref T ∧ H T = none ∧ L[i]? = some idx ∧ H' = upd H T (.tup (idx.map fun j => vs.getD j .non)), fun i _ => i = L.length⟩
theorem vals_pick {vs : List V} {us : List Value} (r : Vals vs us) (idx : List Nat) : Vals (idx.map fun j => vs.getD j .non) (idx.map fun j => us.getD j .none) := by
  induction idx with
  | nil => exact .nil
  | cons j idx ih =>
    refine .cons ?_ ih
    show L2.RelV (vs.getD j .non) (us.getD j .none)
    rw [List.getD_eq_getElem?_getD, List.getD_eq_getElem?_getD]
    cases e : vs[j]? with
    | none =>
      have : us[j]? = none := by
        rw [List.getElem?_eq_none_iff] at e ⊢
        rw [← r.length]
        exact e
      rw [this]
      rfl
    | some v =>
      obtain ⟨u, hu, ru⟩ := r.get e
      rw [hu]
      exact ru
theorem turn_c {P : Program} {w : World} {K : PySem.W.Frag} {tg : Expr} {vs : List V} {its : List Value} {r : Nat} {L : List (List Nat)} (it pool : Addr) (hne : pool ≠ it) (hv : Vals vs its) (hr : r ≤ 1048576) (C : Chain its.length r L) :
    Turn P w K tg (ItC vs L) [it, pool] it (fun i h => h.get? pool = some { cls := .type "tuple", data := .seq its.toArray } ∧ ∃ st last idx, MpC.IsComb h it pool st last idx ∧ ((L = [] ∧ st = 2) ∨ (i = 0 ∧ st = 0 ∧ L[0]? = some idx) ∨ ∃ k, i = k + 1 ∧ st = 1 ∧ L[k]? = some idx)) where
  mem := by simp
  obj := fun i h st b hb => by
    obtain ⟨hp, st', last, idx, hit, _⟩ := st
    have e' : b = it ∨ b = pool := by simpa using hb
    rcases e' with z | z
    · rw [z]
      exact ⟨_, hit, fun v q => nomatch q⟩
    · rw [z]
      exact ⟨_, hp, fun v q => nomatch q⟩
  keep := fun i h h' st k => by
    obtain ⟨hp, st', last, idx, hit, x⟩ := st
    exact ⟨k pool (by simp) _ hp, st', last, idx, k it (by simp) _ hit, x⟩
  item := by
    intro X hP hw hK hc i pins s σ H E I hf st hg
    subst hP hw hK
    obtain ⟨hp, st', last, idx, hit, x⟩ := st
    have hg : i < L.length := hg
    have hLne : L ≠ [] := fun z => by rw [z] at hg; simp at hg
    have hlt : it < s.heap.objs.size := Heap.lt_size hit
    have hlp : pool < s.heap.objs.size := Heap.lt_size hp
    have sl : ∀ a : List Nat, a.length = r → a.length ≤ sizeLine := fun a e => by rw [e, sizeLine_eq]; omega
    have fin : ∀ (jdx : List Nat) (h' : Heap), L[i]? = some jdx → MpC.IsComb h' it pool 1 (.ref s.heap.objs.size) jdx → h'.get? s.heap.objs.size = some { cls := .type "tuple", data := .seq (jdx.map fun i => its.getD i .none).toArray } → (∀ b o, b ≠ it → s.heap.get? b = some o → h'.get? b = some o) →
        ∃ u, some (Value.ref s.heap.objs.size) = some u ∧ wpAny (model X.prog X.w) X.A (letOwnedTupleGo tg (.ref it) u) (fun _ s2 => ∃ x H', Inv X pins σ H' s2 ∧ RelV x u ∧ (ItC vs L).yld i H x H' ∧ (s2.heap.get? pool = some { cls := .type "tuple", data := .seq its.toArray } ∧ ∃ st last idx, MpC.IsComb s2.heap it pool st last idx ∧ ((L = [] ∧ st = 2) ∨ (i + 1 = 0 ∧ st = 0 ∧ L[0]? = some idx) ∨ ∃ k, i + 1 = k + 1 ∧ st = 1 ∧ L[k]? = some idx)) ∧ ∀ b ∈ [it, pool], H' b = none) E { s with heap := h' } := by
      intro jdx h' hj x1 x2 x3
      have hl := sl jdx (C.next i jdx hj).2
      refine ⟨_, rfl, go_of (s := { s with heap := h' }) x1 rfl rfl (by decide) ?_⟩
      have new : ObjOk X.prog X.w (upd H s.heap.objs.size (.tup (jdx.map fun j => vs.getD j .non))) h' s.heap.objs.size (.tup (jdx.map fun j => vs.getD j .non)) :=
        ⟨by rw [List.length_map]; exact hl, _, vals_pick hv jdx, ⟨_, x2, rfl, _, rfl⟩⟩
      have I1 : Inv X pins σ (upd H s.heap.objs.size (.tup (jdx.map fun j => vs.getD j .non))) { s with heap := h' } := I.turnedNew (t' := s.toks) (ch := [it, pool]) (fun b o hb q => x3 b o (fun z => hb (by simp [z])) q) hf (Nat.le_refl _) new
      refine ⟨.ref s.heap.objs.size, _, I1, rfl, ⟨_, jdx, rfl, I.hok.fresh (Nat.le_refl _), hj, rfl⟩, ⟨x3 pool _ hne hp, 1, _, jdx, x1, .inr (.inr ⟨i, rfl, rfl, hj⟩)⟩, fun b hb => ?_⟩
      have hb' : b < s.heap.objs.size := by
        have e' : b = it ∨ b = pool := by simpa using hb
        rcases e' with z | z
        · rw [z]; exact hlt
        · rw [z]; exact hlp
      rw [upd_ne (Nat.ne_of_lt hb')]
      exact (hf b hb).1
    rcases x with ⟨z, _⟩ | ⟨z, e, h0⟩ | ⟨k, z, e, hk⟩
    · exact absurd z hLne
    · subst z e
      exact MpC.next_first hit hp hne (sl idx (C.next 0 idx h0).2) fun h' x1 x2 x3 => fin idx h' h0 x1 x2 x3
    · subst z e
      obtain ⟨jdx, hj⟩ : ∃ jdx, L[k + 1]? = some jdx := ⟨_, List.getElem?_eq_getElem hg⟩
      exact MpC.next_more hit hp hne (sl jdx (C.next (k + 1) jdx hj).2) ((C.next k idx hk).1.trans hj) fun h' x1 x2 x3 => fin jdx h' hj x1 x2 x3
  done := by
    intro X hP hw hK hc i pins s σ H E I hf st hg
    subst hP hw hK
    obtain ⟨hp, st', last, idx, hit, x⟩ := st
    have hg : i = L.length := hg
    obtain ⟨f0, f1, f2, f3, f4, f5⟩ := hf it (by simp)
    refine MpC.next_stop (its := its) (I.ok.hd hc) hit hp ?_ fun h' eb => ⟨rfl, I.turned (t' := s.toks) (fun b o hb q => eb b o hb q) f0 f1 f3 f4 f5⟩
    rcases x with ⟨_, e⟩ | ⟨z, _, h0⟩ | ⟨k, z, e, hk⟩
    · exact .inl e
    · have := (List.getElem?_eq_some_iff.mp h0).1
      omega
    · refine .inr ⟨e, ?_⟩
      rw [(C.next k idx hk).1, List.getElem?_eq_none (by omega)]
  self := fun A i s Q E st h => by
    obtain ⟨hp, st', last, idx, hit, x⟩ := st
    exact MpC.iter_c hit h
def iComb (K : PySem.W.Frag) (ta : TA) : TI := fun σ H R => ta σ H fun ws H1 => ∃ a vs r L, ws = [.ref a, .int (r : Nat)] ∧ (SqL K H1 a vs ∨ SqT K H1 a vs) ∧ r ≤ 1048576 ∧ combAll vs.length r = some L ∧ R (ItC vs L) H1
theorem reps_pick {K : PySem.W.Frag} {G : Gs} {γ : Ga} {H : Hp} {xs : List W} {vs : List V} (r : Reps K G γ H xs vs) (idx : List Nat) : Reps K G γ H (idx.map fun j => xs.getD j .non) (idx.map fun j => vs.getD j .non) := by
  induction idx with
  | nil => exact .nil
  | cons j idx ih =>
    refine .cons ?_ ih
    show Rep K G γ H (xs.getD j .non) (vs.getD j .non)
    rw [List.getD_eq_getElem?_getD, List.getD_eq_getElem?_getD]
    cases e : xs[j]? with
    | none =>
      have : vs[j]? = none := by
        rw [List.getElem?_eq_none_iff] at e ⊢
        rw [← r.length]
        exact e
      rw [this]
      exact .non
    | some w =>
      obtain ⟨v, hv, rv⟩ := r.get e
      rw [hv]
      exact rv
theorem itOk_comb {K : PySem.W.Frag} {G : Gs} {γ : Ga} {H : Hp} {xs : List W} {vs : List V} {L : List (List Nat)} (q : Reps K G γ H xs vs) : ItOk K G (ItC vs L) (L.map fun idx => W.tup (idx.map fun i => xs.getD i .non)) γ H := by
  refine ⟨fun i γ' H' S hi e _ => ?_, fun γ' H' S e _ => ?_, fun i w γ' H' S x H'' hw e s y => ?_⟩
  · rw [List.length_map] at hi
    exact hi
  · show (L.map _).length = L.length
    rw [List.length_map]
  · obtain ⟨T, idx, rfl, hT, hL, rfl⟩ := y
    rw [List.getElem?_map, hL] at hw
    cases hw
    have ex := Ext.upd (K := K) (G := G) s (o := .tup (idx.map fun j => vs.getD j .non)) hT
    exact ⟨ex, s.upd hT, .tup (.inl ⟨.inl upd_same, s.fresh hT⟩) (((reps_pick q idx).monoW e).mono ex)⟩
section
variable {X : Cx} {G : Gs} {tg a b : Expr} {pos p : Pos} {ga : MA} {x : Str}
end
theorem bltTB_ok {K : PySem.W.Frag} {h : Heap} {mg : Str → Option Value} {x : Str} {id : String} (X : K.In h) (G : h.Ns mainGlobals mg) (c : bltTB K x id = true) : mg x = some (.type id) := PySem.W.mg_of X G (He.eqO_ok c)
end Mp
set_option Elab.async false
set_option linter.all false
set_option maxRecDepth 100000
set_option maxHeartbeats 4000000
/-! Mp: is True, is False. -/
namespace Mp
open PySem PySem.Spec PyProof.Rows L2
def opIsB : O2 := fun x y _ => match x, y with
  | .bl a, .bl b => some (.bl (decide (a = b)))
  | .non, .bl _ => some (.bl false)
  | .int _, .bl _ => some (.bl false)
  | .str _, .bl _ => some (.bl false)
  | .tup _, .bl _ => some (.bl false)
  | .lst _, .bl _ => some (.bl false)
  | .ref _, .bl _ => some (.bl false)
  | _, _ => none
def opNotIsB : O2 := fun x y S => match opIsB x y S with
  | some (.bl b) => some (.bl (!b))
  | _ => none
section
variable {X : Cx} {G : Gs}
end
/-! bits of naturals -/
def opXor : O2 := fun x y _ => match x, y with
  | .int i, .int j => if 0 ≤ i ∧ 0 ≤ j then some (.int ((i.toNat ^^^ j.toNat : Nat) : Int)) else none
  | _, _ => none
def opAnd : O2 := fun x y _ => match x, y with
  | .int i, .int j => if 0 ≤ i ∧ 0 ≤ j then some (.int ((i.toNat &&& j.toNat : Nat) : Int)) else none
  | _, _ => none
def opShl : O2 := fun x y _ => match x, y with
  | .int i, .int j => if 0 ≤ j ∧ j ≤ 1000000 ∧ i.natAbs < 18446744073709551616 then some (.int (i * 2 ^ j.toNat)) else none
  | _, _ => none
def opShr : O2 := fun x y _ => match x, y with
  | .int i, .int j => if 0 ≤ j ∧ j ≤ 100000 then some (.int (i / 2 ^ j.toNat)) else none
  | _, _ => none
section
variable {X : Cx} {G : Gs}
theorem o2_xor : OpR X (binaryOp .BitXor) (rOf X.K G opXor) := by
  refine op_xor.imp ?_
  rintro x y H Q ⟨wx, wy, S, γ, w, rx, ry, s, h, k⟩
  unfold opXor at h
  split at h
  · cases rx; cases ry
    split at h
    · rename_i hm
      cases h
      exact ⟨_, _, rfl, rfl, by show Q (.int (Builtin.bitXor _ _)) H; rw [Bits.bitXor_pp hm.1 hm.2]; exact k _ γ H Ext.refl (.int _) s⟩
    · cases h
  · cases h
theorem o2_and : OpR X (binaryOp .BitAnd) (rOf X.K G opAnd) := by
  refine op_and.imp ?_
  rintro x y H Q ⟨wx, wy, S, γ, w, rx, ry, s, h, k⟩
  unfold opAnd at h
  split at h
  · cases rx; cases ry
    split at h
    · rename_i hm
      cases h
      exact ⟨_, _, rfl, rfl, by show Q (.int (Builtin.bitAnd _ _)) H; rw [PyProof.Rows.bitAnd_pp hm.1 hm.2]; exact k _ γ H Ext.refl (.int _) s⟩
    · cases h
  · cases h
theorem o2_shl : OpR X (binaryOp .LShift) (rOf X.K G opShl) := by
  refine op_shl.imp ?_
  rintro x y H Q ⟨wx, wy, S, γ, w, rx, ry, s, h, k⟩
  unfold opShl at h
  split at h
  · cases rx; cases ry
    split at h
    · rename_i hm
      cases h
      exact ⟨_, _, rfl, rfl, ⟨hm.1, hm.2.1, hm.2.2⟩, k _ γ H Ext.refl (.int _) s⟩
    · cases h
  · cases h
theorem o2_shr : OpR X (binaryOp .RShift) (rOf X.K G opShr) := by
  refine op_shr.imp ?_
  rintro x y H Q ⟨wx, wy, S, γ, w, rx, ry, s, h, k⟩
  unfold opShr at h
  split at h
  · cases rx; cases ry
    split at h
    · rename_i hm
      cases h
      exact ⟨_, _, rfl, rfl, hm.1, k _ γ H Ext.refl (.int _) s⟩
    · cases h
  · cases h
end
/-! tuples of the module -/
mutual
def cW (K : PySem.W.Frag) : W → Value → Bool
  | .non, .none => true
  | .bl b, .bool c => b == c
  | .int i, .int j _ => decide (i = j)
  | .str s, .str x _ => decide (x = ⟨s.toArray⟩) && (s.all (fun c => decide (c < 0x110000)) && decide (s.length ≤ 16777216))
  | .tup xs, .ref a => (match K.lookup a with
    | some ⟨.type c, _, .seq its _, _⟩ => decide (c = "tuple") && (decide (its.size ≤ 16777216) && cWs K xs its.toList)
    | _ => false)
  | _, _ => false
def cWs (K : PySem.W.Frag) : List W → List Value → Bool
  | [], [] => true
  | w :: ws, v :: vs => cW K w v && cWs K ws vs
  | _, _ => false
end
mutual
theorem cW_ok {K : PySem.W.Frag} {G : Gs} : ∀ {w : W} {u : Value}, cW K w u = true → ∃ v, L2.RelV v u ∧ ∀ γ H, Rep K G γ H w v
  | .non, .none, _ => ⟨.non, rfl, fun _ _ => .non⟩
  | .bl b, .bool c, h => by
    have e : b = c := by simpa [cW] using h
    subst e
    exact ⟨.bl b, rfl, fun _ _ => .bl b⟩
  | .int i, .int j t, h => by
    have e : i = j := by simpa [cW] using h
    subst e
    exact ⟨.int i, ⟨t, rfl⟩, fun _ _ => .int i⟩
  | .str s, .str x t, h => by
    have h : (decide (x = ⟨s.toArray⟩) && (s.all (fun c => decide (c < 0x110000)) && decide (s.length ≤ 16777216))) = true := h
    rw [Bool.and_eq_true, Bool.and_eq_true, decide_eq_true_eq, decide_eq_true_eq] at h
    refine ⟨.str ⟨s.toArray⟩, ⟨t, by rw [h.1]⟩, fun _ _ => .str s (fun c hc => of_decide_eq_true (List.all_eq_true.mp h.2.1 c hc)) (by rw [sizeLine_eq]; exact h.2.2)⟩
  | .tup xs, .ref a, h => by
    have h : (match K.lookup a with
      | some ⟨.type c, _, .seq its _, _⟩ => decide (c = "tuple") && (decide (its.size ≤ 16777216) && cWs K xs its.toList)
      | _ => false) = true := h
    split at h
    · rename_i c dd its n sl e
      rw [Bool.and_eq_true, Bool.and_eq_true, decide_eq_true_eq, decide_eq_true_eq] at h
      obtain ⟨vs, r1, r2⟩ := cWs_ok (G := G) h.2.2
      exact ⟨.ref a, rfl, fun γ H => .tup (.inr ⟨_, its, n, e, congrArg Value.type h.1, rfl, by rw [sizeLine_eq]; exact h.2.1, r1⟩) (r2 γ H)⟩
    · cases h
theorem cWs_ok {K : PySem.W.Frag} {G : Gs} : ∀ {ws : List W} {us : List Value}, cWs K ws us = true → ∃ vs, L2.Vals vs us ∧ ∀ γ H, Reps K G γ H ws vs
  | [], [], _ => ⟨[], .nil, fun _ _ => .nil⟩
  | w :: ws, u :: us, h => by
    have h : (cW K w u && cWs K ws us) = true := h
    rw [Bool.and_eq_true] at h
    obtain ⟨v, a1, a2⟩ := cW_ok (G := G) h.1
    obtain ⟨vs, b1, b2⟩ := cWs_ok (G := G) h.2
    exact ⟨v :: vs, .cons a1 b1, fun γ H => .cons (a2 γ H) (b2 γ H)⟩
end
def conB (K : PySem.W.Frag) (x : Str) (w : W) : Bool := match PySem.W.nsIn K mainGlobals x with
  | some (some u) => cW K w u
  | _ => false
section
variable {X : Cx} {G : Gs} {x : Str} {pos : Pos}
end
end Mp
set_option Elab.async false
set_option linter.all false
set_option maxRecDepth 100000
set_option maxHeartbeats 4000000
/-! Mp: list(..) that changes later. -/
namespace Mp
open PySem PySem.Spec PyProof.Rows L2
def mListSt (ga : MA) : ME := fun η S => (ga η S).bind fun ws S1 => match ws with
  | [x] => (match seqOf S1 x with
    | some xs => if pures xs = true then .ok (.ref S1.length) (S1 ++ [.lst xs]) else .stuck
    | none => .stuck)
  | _ => .stuck
theorem seq_or {K : PySem.W.Frag} {G : Gs} {γ : Ga} {H : Hp} {S : Store} {w : W} {v : V} {xs : List W} (s : StoreOk K G γ H S) (h : seqOf S w = some xs) (r : Rep K G γ H w v) : ∃ a vs, v = .ref a ∧ (SqL K H a vs ∨ SqT K H a vs) ∧ Reps K G γ H xs vs := by
  cases r with
  | tup f q =>
    cases h
    exact ⟨_, _, rfl, .inr f.sq, q⟩
  | lst h1 o1 q =>
    obtain ⟨a, vs, ev, hv, q⟩ := lst_or s (show lstOf S (W.lst _) = some xs from h) (.lst h1 o1 q)
    exact ⟨a, vs, ev, .inl hv, q⟩
  | ref hr =>
    obtain ⟨a, vs, ev, hv, q⟩ := lst_or s (show lstOf S (W.ref _) = some xs from h) (.ref hr)
    exact ⟨a, vs, ev, .inl hv, q⟩
  | _ => cases h
section
variable {X : Cx} {G : Gs} {e : Expr} {es : List Expr} {ga : MA} {p pos : Pos}
end
end Mp
set_option Elab.async false
set_option linter.all false
set_option maxRecDepth 100000
set_option maxHeartbeats 4000000
/-! Mp: dicts whose keys are ints and texts. -/
namespace Mp
open PySem PySem.Spec PyProof.Rows L2
def isKey : W → Bool
  | .int _ => true
  | .str _ => true
  | _ => false
def keqW : W → W → Bool
  | .int i, .int j => decide (i = j)
  | .str a, .str b => decide (a = b)
  | _, _ => false
def hasKey (k : W) : List W → Bool
  | [] => false
  | x :: r => keqW x k || hasKey k r
def lookKey (k : W) : List W → List W → Option W
  | x :: xs, v :: vs => if keqW x k = true then some v else lookKey k xs vs
  | _, _ => none
def setKey (k v : W) : List W → List W → List W
  | x :: xs, u :: us => (if keqW x k = true then v else u) :: setKey k v xs us
  | _, _ => []
def putKs (k : W) (ks : List W) : List W := if hasKey k ks = true then ks else ks ++ [k]
def putVs (k v : W) (ks vs : List W) : List W := if hasKey k ks = true then setKey k v ks vs else vs ++ [v]
def dctOf (S : Store) : W → Option (List W × List W)
  | .dct ks vs => some (ks, vs)
  | .ref i => (match S[i]? with
    | some (.dct ks vs) => some (ks, vs)
    | _ => none)
  | _ => none
section
variable {K : PySem.W.Frag} {G : Gs} {γ : Ga} {H : Hp} {S : Store}
theorem key_rep {k : W} {v : V} (r : Rep K G γ H k v) (h : isKey k = true) : ∃ key : Key, v = kV key ∧ k = keyW key := by
  cases r with
  | int i => exact ⟨.inl i, rfl, rfl⟩
  | str s _ _ => exact ⟨.inr ⟨s.toArray⟩, rfl, rfl⟩
  | _ => cases h
theorem keq_keyW (a b : Key) : keqW (keyW a) (keyW b) = decide (a = b) := by
  cases a with
  | inl i =>
    cases b with
    | inl j =>
      show decide (i = j) = _
      by_cases e : i = j
      · rw [e, decide_eq_true rfl, decide_eq_true rfl]
      · rw [decide_eq_false e, decide_eq_false fun z => e (Sum.inl.inj z)]
    | inr t => exact (decide_eq_false fun z => nomatch z).symm
  | inr s =>
    cases b with
    | inl j => exact (decide_eq_false fun z => nomatch z).symm
    | inr t =>
      show decide (s.cps.toList = t.cps.toList) = _
      by_cases e : s = t
      · rw [e, decide_eq_true rfl, decide_eq_true rfl]
      · rw [decide_eq_false fun z => e ?_, decide_eq_false fun z => e (Sum.inr.inj z)]
        cases s
        cases t
        exact congrArg PySem.Str.mk (Array.toList_inj.mp z)
theorem has_kv (k : Key) : ∀ kvs : List (Key × V), hasKey (keyW k) (kvs.map fun p => keyW p.1) = kvs.any fun kv => decide (kv.1 = k)
  | [] => rfl
  | p :: r => by
    show (keqW (keyW p.1) (keyW k) || hasKey (keyW k) (r.map fun p => keyW p.1)) = _
    rw [keq_keyW, has_kv k r, List.any_cons]
theorem put_ks (k : Key) (v : V) (kvs : List (Key × V)) : (putK kvs k v).map (fun p => keyW p.1) = putKs (keyW k) (kvs.map fun p => keyW p.1) := by
  unfold putK putKs
  rw [has_kv]
  split
  · rw [List.map_map]
    refine List.map_congr_left fun p _ => ?_
    simp only [Function.comp_apply]
    split <;> rfl
  · rw [List.map_append] <;> rfl
theorem set_vs (k : Key) {w : W} {v : V} (r : Rep K G γ H w v) : ∀ (kvs : List (Key × V)) {ws : List W}, Reps K G γ H ws (kvs.map (·.2)) → Reps K G γ H (setKey (keyW k) w (kvs.map fun p => keyW p.1) ws) ((kvs.map fun kv => if kv.1 = k then (kv.1, v) else kv).map (·.2))
  | [], ws, t => by
    cases t
    exact .nil
  | p :: t, _, .cons (w := w') (ws := ws) r' t' => by
    have ih := set_vs k r t t'
    show Reps K G γ H ((if keqW (keyW p.1) (keyW k) = true then w else w') :: setKey (keyW k) w (t.map fun p => keyW p.1) ws) ((if p.1 = k then (p.1, v) else p).2 :: (t.map fun kv => if kv.1 = k then (kv.1, v) else kv).map (·.2))
    refine .cons ?_ ih
    rw [keq_keyW]
    by_cases e : p.1 = k
    · rw [if_pos (decide_eq_true e), if_pos e]
      exact r
    · rw [if_neg (by rw [decide_eq_false e]; exact Bool.false_ne_true), if_neg e]
      exact r'
theorem put_vs (k : Key) {w : W} {v : V} (r : Rep K G γ H w v) (kvs : List (Key × V)) {ws : List W} (t : Reps K G γ H ws (kvs.map (·.2))) : Reps K G γ H (putVs (keyW k) w (kvs.map fun p => keyW p.1) ws) ((putK kvs k v).map (·.2)) := by
  unfold putK putVs
  rw [has_kv]
  split
  · exact set_vs k r kvs t
  · rw [List.map_append]
    exact t.append (.one r)
theorem dctOf_rep (s : StoreOk K G γ H S) {w : W} {v : V} {ks ws : List W} (r : Rep K G γ H w v) (h : dctOf S w = some (ks, ws)) : ∃ a us, v = .ref a ∧ DctAt H a ks us ∧ Reps K G γ H ws us := by
  cases r with
  | dct d f q =>
    cases h
    exact ⟨_, _, rfl, d, q⟩
  | @ref i a ha =>
    have h : (match S[i]? with
      | some (.dct ks vs) => some (ks, vs)
      | _ => none) = some (ks, ws) := h
    split at h
    · rename_i hc
      cases h
      obtain ⟨_, _, us, d, q⟩ := s.cell i _ a hc ha
      exact ⟨a, us, rfl, d, q⟩
    · cases h
  | _ => cases h
theorem dct_k {a : Addr} {ks : List W} {us : List V} (d : DctAt H a (.bl false :: ks) us) : ∃ kvs : List (Key × V), H a = some (.dK kvs) ∧ ks = kvs.map (fun p => keyW p.1) ∧ us = kvs.map (·.2) := by
  rcases d with ⟨kvs, h, e, e2⟩ | ⟨kvs, h, e, _⟩
  · exact ⟨kvs, h, by cases e; rfl, e2⟩
  · cases e
end
def opInD : O2 := fun x y S => match dctOf S y with
  | some (.bl false :: ks, _) => if isKey x = true then some (.bl (hasKey x ks)) else none
  | some _ => none
  | none => opIn x y S
def opNotInD : O2 := fun x y S => match dctOf S y with
  | some (.bl false :: ks, _) => if isKey x = true then some (.bl (!hasKey x ks)) else none
  | some _ => none
  | none => opNotIn x y S
section
variable {X : Cx} {G : Gs}
theorem o2_inD (hu : X.A.units + 65 < cLine) : OpR X (compareOp .In) (rOf X.K G opInD) := by
  intro pins s σ H x y v u Q I rx ry h
  obtain ⟨wx, wy, S, γ, w, r1, r2, ss, e, k⟩ := h
  unfold opInD at e
  split at e
  · rename_i ks ws hd
    split at e
    · rename_i hk
      cases e
      obtain ⟨key, rfl, rfl⟩ := key_rep r1 hk
      obtain ⟨a, us, rfl, d, q⟩ := dctOf_rep ss r2 hd
      obtain ⟨kvs, hH, rfl, rfl⟩ := dct_k d
      obtain rfl : u = Value.ref a := ry
      refine d_in (by omega) I (DGet.k (k := key) hH) rx fun s' I' => ⟨.bl (hasKey (keyW key) (kvs.map fun p => keyW p.1)), H, I', ?_, k _ γ H Ext.refl (.bl _) ss⟩
      rw [has_kv, valV_any]
      rfl
    · cases e
  · cases e
  · exact o2_in hu pins s σ H x y v u Q I rx ry ⟨wx, wy, S, γ, w, r1, r2, ss, e, k⟩
theorem o2_notInD (hu : X.A.units + 65 < cLine) : OpR X (compareOp .NotIn) (rOf X.K G opNotInD) := by
  intro pins s σ H x y v u Q I rx ry h
  obtain ⟨wx, wy, S, γ, w, r1, r2, ss, e, k⟩ := h
  unfold opNotInD at e
  split at e
  · rename_i ks ws hd
    split at e
    · rename_i hk
      cases e
      obtain ⟨key, rfl, rfl⟩ := key_rep r1 hk
      obtain ⟨a, us, rfl, d, q⟩ := dctOf_rep ss r2 hd
      obtain ⟨kvs, hH, rfl, rfl⟩ := dct_k d
      obtain rfl : u = Value.ref a := ry
      refine d_notIn (by omega) I (DGet.k (k := key) hH) rx fun s' I' => ⟨.bl (!hasKey (keyW key) (kvs.map fun p => keyW p.1)), H, I', ?_, k _ γ H Ext.refl (.bl _) ss⟩
      rw [has_kv, valV_any]
      rfl
    · cases e
  · cases e
  · exact o2_notIn hu pins s σ H x y v u Q I rx ry ⟨wx, wy, S, γ, w, r1, r2, ss, e, k⟩
end
end Mp
set_option Elab.async false
set_option linter.all false
set_option maxRecDepth 100000
set_option maxHeartbeats 4000000
/-! Mp: dict comprehensions. -/
namespace Mp
open PySem PySem.Spec PyProof.Rows L2
def dcompL (g : MG) (t : MT) (ek ev : ME) (η : Env) : List W → Store → List W → List W → R (List W × List W)
  | [], S, ks, vs => .ok (ks, vs) S
  | x :: r, S, ks, vs => match g x η S with
    | none => .stuck
    | some (η1, S1) => (t η1 S1).bind fun b S2 => if b = true then (ek η1 S2).bind fun k S3 => (ev η1 S3).bind fun w S4 => if isKey k = true then sized (ks.length + 1) (dcompL g t ek ev η r S4 (putKs k ks) (putVs k w ks vs)) else .stuck else dcompL g t ek ev η r S2 ks vs
def mDComp (it : MI) (own : List Nat) (g : MG) (t : MT) (ek ev : ME) : ME := fun η S => (it η S).bind fun xs S1 => (noexc (dcompL g t ek ev (wipeE η own) xs S1 [] [])).bind fun p S2 => .ok (.dct (.bl false :: p.1) p.2) S2
section
variable {X : Cx} {G : Gs} {tg iter kx vx : Expr} {ifs : List Expr} {scope : Scope} {f fk : ME} {g : MG} {t : MT} {it : MI} {is : List Nat} {own : List (Str × Nat)} {pos : Pos}
/-- a turn after another -/
theorem dc_turns {K : PySem.W.Frag} {γ0 : Ga} {H0 : Hp} {J : It} {xs : List W} {η : Env} {S0 : Store} {σ : L2.St} {ksF wsF : List W} {SF : Store} {Wx' : Wx} {Q : VK} {vs : List Nat} (ok : ItOk K G J xs γ0 H0) (he : EnvOk K G γ0 H0 η σ) (hs : StoreOk K G γ0 H0 S0)
    (his : ∀ i ∈ is, i ∈ vs) (h : dcompL g t fk f (wipeE η vs) xs S0 [] [] = .ok (ksF, wsF) SF) (hQ : ∀ v γ' H', Ext γ0 H0 γ' H' → Rep K G γ' H' (.dct (.bl false :: ksF) wsF) v → StoreOk K G γ' H' SF → Q v H') :
    ∀ D, H0 D = none → ∃ Wv : Nat → Nat → Hp → Prop, (∃ m, Wv 0 m (L2.upd H0 D (.dK []))) ∧ ∀ i m H, Wv i m H →
      (J.stop i H ∧ Q (.ref D) H) ∨ (J.go i H ∧ ∃ Nx : Hp → Prop, (∀ H', Nx H' → ∃ m', m' < m ∧ Wv (i + 1) m' H') ∧ ∀ x H', J.yld i H x H' → tgOf K G is g x (wipe σ vs) H' fun σ2 H2 => wipe σ2 vs = wipe σ vs ∧ ttOf K G (fun _ _ _ _ => False) t σ2 H2 fun b H3 =>
        if b = true then tOf K G (fun _ _ _ _ => False) fk σ2 H3 fun y H4 => tOf K G (fun _ _ _ _ => False) f σ2 H4 fun z H5 => ∃ kvs k, y = kV k ∧ H5 D = some (.dK kvs) ∧ kvs.length < sizeLine ∧ Nx (L2.upd H5 D (.dK (putK kvs k z))) else Nx H3) := by
  intro D hD
  refine ⟨fun i m H => m = xs.length - i ∧ i ≤ xs.length ∧ ∃ S γ acc us, StoreOk K G γ H S ∧ Ext γ0 H0 γ H ∧ D ∈ γ.β ∧ H D = some (.dK us) ∧ Reps K G γ H acc (us.map (·.2)) ∧ dcompL g t fk f (wipeE η vs) (xs.drop i) S (us.map fun p => keyW p.1) acc = .ok (ksF, wsF) SF, ⟨xs.length, rfl, Nat.zero_le _, ?_⟩, ?_⟩
  · have off := hs.fresh hD
    refine ⟨S0, ⟨γ0.ρ, D :: γ0.β⟩, [], [], ?_, ?_, List.mem_cons_self .., upd_same, .nil, h⟩
    · have s1 := hs.upd (o := .dK []) hD
      refine ⟨s1.len, s1.nd, fun i c a hc ha => ?_, fun a ha => ?_⟩
      · have q := s1.cell i c a hc ha
        cases c with
        | lst ys =>
          obtain ⟨p1, us, hv, r'⟩ := hs.cell i _ a hc ha
          refine ⟨p1, us, by rw [upd_ne (ne_of_none hv hD)]; exact hv, r'.mono ?_⟩
          exact ⟨List.prefix_refl _, fun b hb => List.mem_cons_of_mem _ hb, fun b hb => (List.mem_cons.mp hb).elim (fun z => .inr (by rw [z]; exact hD)) .inl, fun b u e _ => by rw [upd_ne (ne_of_none e hD)]; exact e, fun _ h1 h2 => absurd h1 h2, fun b u e => ⟨u, by rw [upd_ne (ne_of_none e hD)]; exact e⟩⟩
        | dct _ _ => exact (hs.cell i _ a hc ha).to (fun o f => by rw [upd_ne (ne_of_none f hD)]; exact f) fun _ r => by refine r.mono ?_; exact ⟨List.prefix_refl _, fun b hb => List.mem_cons_of_mem _ hb, fun b hb => (List.mem_cons.mp hb).elim (fun z => .inr (by rw [z]; exact hD)) .inl, fun b u e _ => by rw [upd_ne (ne_of_none e hD)]; exact e, fun _ h1 h2 => absurd h1 h2, fun b u e => ⟨u, by rw [upd_ne (ne_of_none e hD)]; exact e⟩⟩
        | ins _ _ => exact q.elim
      · rcases List.mem_cons.mp ha with z | z
        · rw [z]
          exact ⟨off.1, _, upd_same, fun _ z => nomatch z⟩
        · obtain ⟨n, o, q, nt⟩ := hs.bt a z
          exact ⟨n, o, by rw [upd_ne (ne_of_none q hD)]; exact q, nt⟩
    · exact ⟨List.prefix_refl _, fun b hb => List.mem_cons_of_mem _ hb, fun b hb => (List.mem_cons.mp hb).elim (fun z => .inr (by rw [z]; exact hD)) .inl, fun b u e _ => by rw [upd_ne (ne_of_none e hD)]; exact e, fun _ h1 h2 => absurd h1 h2, fun b u e => ⟨u, by rw [upd_ne (ne_of_none e hD)]; exact e⟩⟩
  · rintro i m H ⟨rfl, hi, S, γ, acc, us, s, ex, dβ, hus, racc, hc⟩
    by_cases hlt : i < xs.length
    · refine .inr ⟨ok.go i γ H S hlt ex.w s, _, fun H' z => ⟨xs.length - (i + 1), by omega, z⟩, fun x H' y => ?_⟩
      obtain ⟨e1, s1, r1⟩ := ok.yld i xs[i] γ H S x H' (List.getElem?_eq_getElem hlt) ex.w s y
      rw [List.drop_eq_getElem_cons hlt] at hc
      unfold dcompL at hc
      cases eg : g xs[i] (wipeE η vs) S with
      | none =>
        rw [eg] at hc
        cases hc
      | some z =>
        obtain ⟨η1, S1⟩ := z
        rw [eg] at hc
        refine ⟨wipeE η vs, S, γ, xs[i], η1, S1, ((he.mono ex).mono e1).wipe vs, s1, r1, eg, fun σ2 γ2 H2 e2 he2 s2 hl2 hn2 => ⟨?_, ?_⟩⟩
        · rw [wipe_same (σ := wipe σ vs) his hl2 hn2, wipe_wipe]
        · refine ⟨η1, S1, γ2, he2, s2, ?_⟩
          cases et : t η1 S1 with
          | stuck =>
            simp only [et] at hc
            cases hc
          | exc c x S2 =>
            simp only [et] at hc
            cases hc
          | ok b S2 =>
            simp only [et, R.bind] at hc
            intro b' γ3 H3 e3 rb s3
            cases rb
            have ext3 : Ext γ0 H0 γ3 H3 := ((ex.trans e1).trans e2).trans e3
            have d3 : D ∈ γ3.β := e3.bsub _ (e2.bsub _ (e1.bsub _ dβ))
            have hus3 : H3 D = some (.dK us) := by
              have k1 := e1.keep D _ hus (s.bt D dβ).1
              have k2 := e2.keep D _ k1 (s1.bt D (e1.bsub _ dβ)).1
              exact e3.keep D _ k2 (s2.bt D (e2.bsub _ (e1.bsub _ dβ))).1
            have racc3 := ((racc.mono e1).mono e2).mono e3
            cases b with
            | false =>
              rw [if_neg Bool.false_ne_true] at hc ⊢
              exact ⟨rfl, hlt, S2, γ3, acc, us, s3, ext3, d3, hus3, racc3, hc⟩
            | true =>
              rw [if_pos rfl] at hc ⊢
              refine ⟨η1, S2, γ3, he2.mono e3, s3, ?_⟩
              cases ek : fk η1 S2 with
              | stuck =>
                simp only [ek] at hc
                cases hc
              | exc c x S3 =>
                simp only [ek] at hc
                cases hc
              | ok wk S3 =>
                simp only [ek] at hc
                intro vk γ4 H4 e4 r4 s4
                have d4 : D ∈ γ4.β := e4.bsub _ d3
                have hus4 : H4 D = some (.dK us) := e4.keep D _ hus3 (s3.bt D d3).1
                refine ⟨η1, S3, γ4, (he2.mono e3).mono e4, s4, ?_⟩
                cases ee : f η1 S3 with
                | stuck =>
                  simp only [ee] at hc
                  cases hc
                | exc c x S4 =>
                  simp only [ee] at hc
                  cases hc
                | ok w S4 =>
                  simp only [ee] at hc
                  intro v γ5 H5 e5 r5 s5
                  have d5 : D ∈ γ5.β := e5.bsub _ d4
                  have hus5 : H5 D = some (.dK us) := e5.keep D _ hus4 (s4.bt D d4).1
                  split at hc
                  · rename_i hkey
                    obtain ⟨key, rfl, rfl⟩ := key_rep r4 hkey
                    unfold sized at hc
                    split at hc
                    · rename_i hsz
                      rw [bigLine_eq, List.length_map] at hsz
                      refine ⟨us, key, rfl, hus5, by omega, rfl, hlt, S4, γ5, putVs (keyW key) w (us.map fun p => keyW p.1) acc, putK us key v, s5.busy d5, ?_, d5, upd_same, ?_, ?_⟩
                      · have x5 := (ext3.trans e4).trans e5
                        have na : ∀ {a : Addr} {o : HO}, H0 a = some o → a ≠ D := fun q => ne_of_none q hD
                        exact ⟨x5.pre, x5.bsub, x5.bnew, fun a o q n => by rw [upd_ne (na q)]; exact x5.keep a o q n, x5.new, fun a o q => by
                          obtain ⟨o', q'⟩ := x5.dom a o q
                          exact ⟨o', by rw [upd_ne (na q)]; exact q'⟩⟩
                      · have n5 := (s5.bt D d5).1
                        exact Reps.busy d5 n5 (put_vs key r5 us ((racc3.mono e4).mono e5))
                      · rw [put_ks]
                        exact hc
                    · cases hc
                  · cases hc
    · have e : i = xs.length := by omega
      subst e
      rw [List.drop_length] at hc
      cases hc
      refine .inl ⟨ok.stop γ H _ ex.w s, ?_⟩
      have nD := (s.bt D dβ).1
      have fr : Ext γ0 H0 ⟨γ.ρ, γ.β.filter (fun a => decide (a ≠ D))⟩ H := by
        refine ⟨ex.pre, fun a ha => ?_, fun a ha => ex.bnew a (List.mem_filter.mp ha).1, ex.keep, ex.new, ex.dom⟩
        refine List.mem_filter.mpr ⟨ex.bsub a ha, ?_⟩
        obtain ⟨_, o, q, _⟩ := hs.bt a ha
        exact decide_eq_true (ne_of_none q hD)
      have up : Ext γ H ⟨γ.ρ, γ.β.filter (fun a => decide (a ≠ D))⟩ H → True := fun _ => trivial
      have lessO : ∀ (a : Addr) (o : HO), H a = some o → γ.Off a → Ga.Off ⟨γ.ρ, γ.β.filter (fun a => decide (a ≠ D))⟩ a := fun a o _ z => ⟨z.1, fun q => z.2 (List.mem_filter.mp q).1⟩
      have shr : ∀ {w : W} {v : V}, Rep K G γ H w v → Rep K G ⟨γ.ρ, γ.β.filter (fun a => decide (a ≠ D))⟩ H w v := fun r => Rep.shrink (γ := γ) (γ' := ⟨γ.ρ, γ.β.filter (fun a => decide (a ≠ D))⟩) rfl lessO r
      have shrs : ∀ {w : List W} {v : List V}, Reps K G γ H w v → Reps K G ⟨γ.ρ, γ.β.filter (fun a => decide (a ≠ D))⟩ H w v := fun r => Reps.shrink (γ := γ) (γ' := ⟨γ.ρ, γ.β.filter (fun a => decide (a ≠ D))⟩) rfl lessO r
      refine hQ (.ref D) _ H fr (.dct (.inl ⟨us, hus, rfl, rfl⟩) ⟨nD, fun q => ?_⟩ (shrs racc)) ⟨s.len, s.nd, fun i c a hc ha => ?_, fun a ha => s.bt a (List.mem_filter.mp ha).1⟩
      · have := (List.mem_filter.mp q).2
        simp at this
      · have q := s.cell i c a hc ha
        cases c with
        | lst ys =>
          obtain ⟨p1, us', hv, r'⟩ := q
          exact ⟨p1, us', hv, shrs r'⟩
        | dct _ _ => exact q.to (fun _ f => f) fun _ r => shrs r
        | ins _ _ => exact q.elim
end
end Mp
set_option Elab.async false
set_option linter.all false
set_option maxRecDepth 100000
set_option maxHeartbeats 4000000
/-! Mp: count, lists by a number into the store. -/
namespace Mp
open PySem PySem.Spec PyProof.Rows L2
def omCountI : OM := fun x ws S => match lstOf S x, ws with
  | some xs, [.int k] => (intsOf xs).map fun ns => (.int (ns.count k : Nat), S)
  | _, _ => none
def mMulS (f g : ME) : ME := fun η S => (f η S).bind fun x S1 => (g η S1).bind fun y S2 => match lstOf S2 x, y with
  | some xs, .int k => if -9223372036854775808 ≤ k ∧ k < 9223372036854775808 ∧ xs.length * k.toNat ≤ bigLine ∧ pures (List.replicate k.toNat xs).flatten = true then .ok (.ref S2.length) (S2 ++ [.lst (List.replicate k.toNat xs).flatten]) else .stuck
  | _, _ => .stuck
section
variable {X : Cx} {G : Gs} {a b : Expr} {pos : Pos} {f g : ME}
theorem om_countI : MtR X "list.count" (rmOf X.K G omCountI) := by
  refine mt_imp mt_lcount ?_
  rintro x xs H Q ⟨wx, ws, S, γ, w, S3, r, rs, s, e, k⟩
  unfold omCountI at e
  split at e
  · rename_i ys i hl
    cases hn : intsOf ys with
    | none =>
      rw [hn] at e
      cases e
    | some ns =>
      rw [hn] at e
      cases e
      obtain ⟨p, vs, rfl, hs, q⟩ := lst_or s hl r
      cases rs with
      | cons r1 t =>
        cases t
        cases r1
        have ev := intsOf_reps' q hn
        subst ev
        exact ⟨p, ns, i, rfl, rfl, hs, k _ γ H Ext.refl (.int _) s⟩
  · cases e
end
def opMulT : O2 := fun x y S => match x, y with
  | .tup xs, .int k => if xs ≠ [] ∧ 2 ≤ k ∧ k ≤ 1000 ∧ xs.length ≤ 1000 then some (.tup (List.replicate k.toNat xs).flatten) else none
  | x, y => opMul x y S
theorem o2_mulT {X : Cx} {G : Gs} : OpR X (binaryOp .Mult) (rOf X.K G opMulT) := by
  refine (OpR.or op_repT (o2_mul (G := G))).imp ?_
  rintro x y H Q ⟨wx, wy, S, γ, w, rx, ry, s, h, k⟩
  unfold opMulT at h
  split at h
  · rename_i xs n
    split at h
    · rename_i hl
      cases h
      cases rx with
      | @tup _ vs _ f q =>
      cases ry
      have e1 := q.length
      obtain ⟨l0, l1, l2, l3⟩ := hl
      refine .inl ⟨_, _, _, rfl, rfl, f.sq, ?_, l1, l2, by omega, fun p hp => ?_⟩
      · intro z
        rw [z] at e1
        exact l0 (List.length_eq_zero_iff.mp e1)
      · have ex := Ext.upd (K := X.K) (G := G) s (o := .tup (List.replicate n.toNat vs).flatten) hp
        exact k _ γ _ ex (.tup (.inl ⟨.inl upd_same, s.fresh hp⟩) (reps_flat (q.mono ex) _)) (s.upd hp)
    · cases h
  · exact .inr ⟨_, _, S, γ, w, rx, ry, s, h, k⟩
def baSumT : OA := fun xs S => match xs with
  | [.tup ys] => (intsOf ys).map fun ns => .int ns.sum
  | xs => baSum xs S
end Mp
set_option Elab.async false
set_option linter.all false
set_option maxRecDepth 100000
set_option maxHeartbeats 4000000
/-! Mp: stars in displays, ranges downwards, ranges as lists and tuples, lists backwards, min and max of lists of ints. -/
namespace Mp
open PySem PySem.Spec PyProof.Rows L2
def maStar (f : ME) (g : MA) : MA := fun η S => (f η S).bind fun x S1 => match seqOf S1 x with
  | some xs => (g η S1).bind fun ys S2 => .ok (xs ++ ys) S2
  | none => .stuck
def rangeD (hi : Int) (n : Nat) : List W := (List.range n).map fun (i : Nat) => W.int (hi + i * (-1))
def rng3 : List W → Option (List W)
  | [.int i, .int j, .int k] => if k = -1 ∧ -4611686018427387904 ≤ i ∧ i < 4611686018427387904 ∧ -4611686018427387904 ≤ j ∧ j < 4611686018427387904 then some (rangeD i (i - j).toNat) else none
  | _ => none
def mRevL (f : ME) : ME := fun η S => (f η S).bind fun x S1 => match lstOf S1 x with
  | some xs => .ok (.lst xs.reverse) S1
  | none => .stuck
/-- a range as a list (0), a list of the store (1), a tuple (2) -/
def rgOut (m : Nat) (a b : Int) (S : Store) : R W := if 0 ≤ a ∧ a ≤ 1000000 ∧ 0 ≤ b ∧ b ≤ 1000000 then (match m with
  | 0 => .ok (.lst (rangeW a (b - a).toNat)) S
  | 1 => .ok (.ref S.length) (S ++ [.lst (rangeW a (b - a).toNat)])
  | _ => .ok (.tup (rangeW a (b - a).toNat)) S) else .stuck
def mRg1 (m : Nat) (f : ME) : ME := fun η S => (f η S).bind fun x S1 => match x with
  | .int n => rgOut m 0 n S1
  | _ => .stuck
def mRg2 (m : Nat) (f g : ME) : ME := fun η S => (f η S).bind fun x S1 => (g η S1).bind fun y S2 => match x, y with
  | .int i, .int j => rgOut m i j S2
  | _, _ => .stuck
def minZ : Int → List Int → Int
  | m, [] => m
  | m, x :: r => minZ (if x < m then x else m) r
def maxZ : Int → List Int → Int
  | m, [] => m
  | m, x :: r => maxZ (if m < x then x else m) r
def baMinL : OA := fun xs S => match xs with
  | [x] => (lstOf S x).bind fun ys => (intsOf ys).bind fun ns => match ns with
    | [] => none
    | n :: r => some (.int (minZ n r))
  | xs => baMin2 xs S
def baMaxL : OA := fun xs S => match xs with
  | [x] => (lstOf S x).bind fun ys => (intsOf ys).bind fun ns => match ns with
    | [] => none
    | n :: r => some (.int (maxZ n r))
  | xs => baMax2 xs S
section
variable {K : PySem.W.Frag} {G : Gs} {γ : Ga} {H : Hp} {S : Store}
theorem itOk_down {hi : Int} {n : Nat} : ItOk K G (Itc hi (-1) n) (rangeD hi n) γ H := by
  refine ⟨fun i γ' H' S h e _ => ?_, fun γ' H' S e _ => ?_, fun i w γ' H' S x H'' hw e s y => ?_⟩
  · show i < n
    unfold rangeD at h
    simpa using h
  · show n ≤ _
    unfold rangeD
    simp
  · obtain ⟨e1, y⟩ := y
    subst e1 y
    unfold rangeD at hw
    rw [List.getElem?_map] at hw
    cases hr : (List.range n)[i]? with
    | none => rw [hr] at hw; cases hw
    | some k =>
      rw [hr] at hw
      cases hw
      obtain ⟨h1, h2⟩ := List.getElem?_eq_some_iff.mp hr
      rw [List.getElem_range] at h2
      subst h2
      exact ⟨Ext.refl, s, .int _⟩
theorem rgV_reps (a b : Int) : Reps K G γ H (rangeW a (b - a).toNat) (rgV a b) := by
  unfold rangeW rgV
  induction (List.range (b - a).toNat) with
  | nil => exact .nil
  | cons x r ih => exact .cons (.int _) ih
theorem pures_rangeW (a : Int) (n : Nat) : pures (rangeW a n) = true := by
  unfold rangeW
  induction (List.range n) with
  | nil => rfl
  | cons x r ih =>
    show (true && pures (r.map fun (i : Nat) => W.int (a + i))) = true
    rw [ih] <;> rfl
end
section
variable {X : Cx} {G : Gs} {a b c e : Expr} {es : List Expr} {pos p p1 p2 p3 : Pos} {f g h : ME} {ga : MA} {tg : Expr}
theorem sa_star (ha : SE X G e f) (hr : SA X G es ga) (hs : starEach (.Starred e p :: es) X.env = (true, eval e X.env) :: starEach es X.env := by rfl) : SA X G (.Starred e p :: es) (maStar f ga) := by
  refine ⟨fun Wi tk => (StX.pa_star (ha.run Wi tk) (hr.run Wi tk) hs).imp ?_⟩
  rintro σ H Q ⟨η, S, γ, he, hs, q⟩
  refine ⟨η, S, γ, he, hs, (Post.seq q).imp fun x H1 ⟨wx, S1, γ1, e1, r1, s1, q1⟩ => ?_⟩
  cases es : seqOf S1 wx with
  | none =>
    simp only [es] at q1
    exact q1.elim
  | some xs =>
    simp only [es] at q1
    obtain ⟨a, vs, ev, hq, qr⟩ := seq_or s1 es r1
    subst ev
    exact ⟨a, vs, rfl, hq.elim .inr .inl, η, S1, γ1, he.mono e1, s1, (Post.seq q1).imp fun y H2 ⟨wy, S2, γ2, e2, r2, s2, q2⟩ => q2 _ γ2 H2 Ext.refl ((qr.mono e2).append r2) s2⟩
theorem si_range3 (hm : X.mg "range" = none) (ha : SA X G [a, b, c] ga) (hg : Gl X "range" := by rfl) (hs : starEach [a, b, c] X.env = (false, eval a X.env) :: starEach [b, c] X.env := by rfl) (hpl : (backTo pos (starEach [b, c] X.env)).any (·.1) = false := by rfl) :
    SI X G tg (.Call (.Name "range" p) [a, b, c] [] pos) (miRng rng3 ga) := by
  refine ⟨fun Wi tk => (pi_range3 hg hm (ha.run Wi tk) hs hpl).imp ?_⟩
  rintro σ H R ⟨η, S, γ, he, hs, q⟩
  refine ⟨η, S, γ, he, hs, (PostI.seq q).imp fun x H1 ⟨wx, S1, γ1, e1, r1, s1, q1⟩ => ?_⟩
  unfold rng3 at q1
  split at q1
  · rename_i i j k
    split at q1
    · rename_i hj
      obtain ⟨hk, h1, h2, h3, h4⟩ := hj
      subst hk
      cases r1 with
      | cons r r1 =>
        cases r1 with
        | cons r' r1 =>
          cases r1 with
          | cons r'' r1 =>
            cases r1
            cases r
            cases r'
            cases r''
            exact ⟨_, _, _, _, rfl, RgC.neg (by omega) (by omega) (by omega) (by omega), q1 _ γ1 H1 Ext.refl s1 itOk_down⟩
    · exact q1.elim
  · exact q1.elim
theorem se_revL {k : Nat} (ha : SE X G e f) : SE X G (.Subscript e (.Slice none none (some (.UnaryOp .USub (.Constant (.int 1) k p1) p2)) p3) pos) (mRevL f) := by
  refine ⟨fun Wi tk => (pe_revL (ha.run Wi tk)).imp ?_⟩
  rintro σ H Q ⟨η, S, γ, he, hs, q⟩
  refine ⟨η, S, γ, he, hs, (Post.seq q).imp fun x H1 ⟨wx, S1, γ1, e1, r1, s1, q1⟩ => ?_⟩
  cases el : lstOf S1 wx with
  | none =>
    simp only [el] at q1
    exact q1.elim
  | some xs =>
    simp only [el] at q1
    obtain ⟨a, vs, ev, hq, qr⟩ := lst_or s1 el r1
    refine ⟨a, vs, ev, hq, fun p hp => ?_⟩
    have ex := Ext.upd (K := X.K) (G := G) s1 (o := .lst vs.reverse) hp
    exact q1 _ γ1 _ ex (.lst upd_same (s1.fresh hp) (Reps.rev (qr.mono ex))) (s1.upd hp)
theorem rg_ok {a b : Int} (h : 0 ≤ a ∧ a ≤ 1000000 ∧ 0 ≤ b ∧ b ≤ 1000000) : RgOk a b := RgOk.of_le h.1 (by omega) (by omega) h.2.2.1
theorem rg_post {wx : Wx} {γ : Ga} {H : Hp} {S : Store} {m : Nat} {i j : Int} {Q : VK} (s : StoreOk X.K G γ H S) (hm : m < 2) (q : Post X.K G (Rep X.K G) wx γ H (rgOut m i j S) Q) : RgOk i j ∧ ∀ p, H p = none → Q (.ref p) (upd H p (.lst (rgV i j))) := by
  unfold rgOut at q
  split at q
  · rename_i hr
    refine ⟨rg_ok hr, fun p hp => ?_⟩
    match m, hm with
    | 0, _ =>
      have ex := Ext.upd (K := X.K) (G := G) s (o := .lst (rgV i j)) hp
      exact q _ γ _ ex (.lst upd_same (s.fresh hp) (rgV_reps i j)) (s.upd hp)
    | 1, _ =>
      have ex := Ext.push (K := X.K) (G := G) s (o := .lst (rgV i j)) hp
      refine q _ _ _ ex (.ref ?_) (s.push hp (pures_rangeW _ _) (rgV_reps i j))
      show (γ.ρ ++ [p])[S.length]? = some p
      rw [← s.len, List.getElem?_append_right (Nat.le_refl _), Nat.sub_self] <;> rfl
  · exact q.elim
theorem se_listRg2 (m : Nat) (cf : Cfg X) (hm : X.mg "list" = none) (hmr : X.mg "range" = none) (ha : SE X G a f) (hb : SE X G b g) (hk : m < 2 := by decide) (hg : Gl X "list" := by rfl) (hgr : Gl X "range" := by rfl)
    (na : starEach [a, b] X.env = (false, eval a X.env) :: starEach [b] X.env := by rfl) (nb : starEach [b] X.env = (false, eval b X.env) :: starEach [] X.env := by rfl) (hp : (backTo p2 (starEach [b] X.env)).any (·.1) = false := by rfl)
    (nc : starEach [.Call (.Name "range" p1) [a, b] [] p2] X.env = (false, eval (.Call (.Name "range" p1) [a, b] [] p2) X.env) :: starEach [] X.env := by rfl) :
    SE X G (.Call (.Name "list" p) [.Call (.Name "range" p1) [a, b] [] p2] [] pos) (mRg2 m f g) := by
  refine ⟨fun Wi tk => (pe_listRg cf.calm hg hm (prg_2 hgr hmr (ha.run Wi tk) (hb.run Wi tk) na nb hp) nc).imp ?_⟩
  rintro σ H Q ⟨η, S, γ, he, hs, q⟩
  refine ⟨η, S, γ, he, hs, (Post.seq q).imp fun x H1 ⟨wx, S1, γ1, e1, r1, s1, q1⟩ => ⟨η, S1, γ1, he.mono e1, s1, (Post.seq q1).imp fun y H2 ⟨wy, S2, γ2, e2, r2, s2, q2⟩ => ?_⟩⟩
  split at q2
  · cases r1
    cases r2
    exact ⟨_, _, rfl, rfl, rg_post s2 hk q2⟩
  · exact q2.elim
end
end Mp
set_option Elab.async false
set_option linter.all false
set_option maxRecDepth 100000
set_option maxHeartbeats 4000000
/-! Mp: dicts of the store. -/
namespace Mp
open PySem PySem.Spec PyProof.Rows L2
section
variable {K : PySem.W.Frag} {G : Gs} {γ γ' : Ga} {H H' : Hp} {S : Store}
def setAtD (o i w : W) (S : Store) : Option Store := match dctOf S o, o with
  | some (.bl false :: ks, vs), .ref r => if isKey i = true ∧ w.pure = true ∧ ks.length + 1 ≤ bigLine then some (S.set r (.dct (.bl false :: putKs i ks) (putVs i w ks vs))) else none
  | some _, _ => none
  | none, _ => setAt o i w S
def gIdxD (o i : ME) : MG := fun w η S => match o η S with
  | .ok ow S1 => (match i η S1 with
    | .ok iw S2 => (setAtD ow iw w S2).map fun S3 => (η, S3)
    | _ => none)
  | _ => none
end
/-- {} into the store -/
def mDctS : ME := fun _ S => .ok (.ref S.length) (S ++ [.dct [.bl false] []])
/-- {} that nobody changes -/
def mDct0 : ME := fun _ S => .ok (.dct [.bl false] []) S
def omGet2 : OM := fun x ws S => match dctOf S x, ws with
  | some (.bl false :: ks, vs), [k, d] => if isKey k = true then some ((lookKey k ks vs).getD d, S) else none
  | _, _ => none
def omGet1 : OM := fun x ws S => match dctOf S x, ws with
  | some (.bl false :: ks, vs), [k] => if isKey k = true then some ((lookKey k ks vs).getD .non, S) else none
  | _, _ => none
/-- d[k] of a dict -/
def opIxD : O2 := fun x y S => match dctOf S x with
  | some (.bl false :: ks, vs) => if isKey y = true then lookKey y ks vs else none
  | _ => none
section
variable {X : Cx} {G : Gs} {a b : Expr} {pos : Pos} {f g fo fi : ME}
end
end Mp
set_option Elab.async false
set_option linter.all false
set_option maxRecDepth 100000
set_option maxHeartbeats 4000000
/-! Mp: itertools.combinations of a range. -/
namespace MpC
open PySem PySem.Spec PyProof.Rows
open Sem (wp)
theorem collect_rangeL {prog : Program} {w : World} {A : Around} {E : Value → Shared → Prop} {s : Shared} {r : Addr} {a b c : Int} {t u v : Tok} {n : Nat} {Q : List Value → Shared → Prop} (hh : A.handled = none) (hr : IsRange s.heap r a b c t u v) (hsmall : Builtin.Range.small a b c = true) (hn : Builtin.Range.rangeSize a b c = n) (hlen : n ≤ 2 ^ 24)
    (hQ : ∀ (h' : Heap) (tk : Nat) (acc : Array Value), (∀ b o, s.heap.get? b = some o → h'.get? b = some o) → ItemsOf (fun i v => ∃ t, v = .int (a + i * c) t) acc n → acc.toList.length ≤ sizeLine → acc.toList.length = n → Q acc.toList { s with heap := h', toks := tk }) :
    wpAny (model prog w) A (collect (.ref r)) Q E s := L2.collect_range hh hr hsmall hn hlen fun h' tk acc hk hi => by
  have e : acc.toList.length = n := by rw [Array.length_toList]; exact hi.1
  exact hQ h' tk acc hk hi (by rw [e, sizeLine_eq]; omega) e
theorem meets_cR (l : Addr) (a b : Int) (t1 t2 t3 : Tok) (n : Nat) (r : Nat) (t : Tok) (hr : r ≤ 1048576) (hsm : Builtin.Range.small a b 1 = true) (hn : Builtin.Range.rangeSize a b 1 = n) (hz : n ≤ 2 ^ 24) : Meets (Builtin.«itertools.combinations.__new__» ⟨[.type "itertools.combinations", .ref l, .int r t], []⟩) (fun A R s => A.handled = none ∧ IsRange s.heap l a b 1 t1 t2 t3 ∧
    ∀ (h' : Heap) (tk : Nat) (acc : Array Value), (∀ b o, s.heap.get? b = some o → h'.get? b = some o) → ItemsOf (fun i v => ∃ t, v = .int (a + i * 1) t) acc n → R (.ok (.ret (.ref (h'.objs.size + 1)))) { s with heap := (h'.push { cls := .type "tuple", data := .seq acc }).push { cls := .type "itertools.combinations", data := .fields (#[.ref h'.objs.size, rawInt (if r > n then 2 else 0), .none] ++ ((List.range r).map fun (n : Nat) => rawInt n).toArray) }, toks := tk }) :=
  .of_wp fun prog w A R s h => by
    obtain ⟨hp, g, d, tk, os⟩ := s
    obtain ⟨hh, hl, h⟩ := h
    have hsub := sub_c
    have hsub2 : isSubtype (.type "itertools.combinations") (.type ("itertools." ++ "combinations")) = pure true := by
      rw [show ("itertools." ++ "combinations" : String) = "itertools.combinations" from by decide +kernel]
      exact sub_c
    have hd := noDict_c
    have hn' : ¬ (((decide ((r : Int) < -(2 ^ 63 : Int)) || decide ((r : Int) ≥ (2 ^ 63 : Int)))) = true) := by
      have a : decide ((r : Int) < -(2 ^ 63 : Int)) = false := decide_eq_false (by omega)
      have b : decide ((r : Int) ≥ (2 ^ 63 : Int)) = false := decide_eq_false (by omega)
      rw [a, b]
      decide
    unfold Builtin.«itertools.combinations.__new__»
    have n0 : ¬ ((r : Int) < 0) := by omega
    have n1 : ¬ (Builtin.Itertools.itTooMany (r : Int) = true) := by unfold Builtin.Itertools.itTooMany; rw [decide_eq_true_eq]; omega
    repeat (first
      | (with_reducible show wpAny _ _ (collect _) _ _ _; refine collect_rangeL (A := A.in1) hh hl hsm hn hz fun h' tk' acc hk hi hz2 hsz => ?_)
      | (refine wpAny_ite_false (decide_eq_false n0) ?_)
      | wp_step
      | simp only [List.head?_cons, Option.some_or, List.getElem?_cons_succ, List.getElem?_cons_zero, List.length_cons, List.length_nil, List.forIn_nil]
      | (refine wpAny_ite_false (decide_eq_false hn') ?_))
    rw [if_neg (by rw [List.size_toArray, hsz, sizeLine_eq]; omega)]
    simp only [newObjAsIs]
    refine wpAny_bind (wpAny_alloc (wpAny_pure ?_))
    repeat (first
      | wp_step
      | simp only [List.head?_cons, Option.some_or, List.getElem?_cons_succ, List.getElem?_cons_zero, List.length_cons, List.length_nil, List.forIn_nil])
    rw [if_neg (by rw [List.size_toArray, List.length_append, List.length_map, List.length_range, Int.toNat_natCast, sizeLine_eq]; show ¬ 3 + r > _; omega)]
    simp only [newObjAsIs]
    refine wpAny_bind (wpAny_alloc (wpAny_pure (wpAny_pure ⟨_, rfl, ?_⟩)))
    have z2 : (h'.push { cls := .type "tuple", data := .seq acc.toList.toArray }).objs.size = h'.objs.size + 1 := size_push' _ _
    have e3 : ∀ (a b c : Value) (L : List Value), ([a, b, c] ++ L).toArray = #[a, b, c] ++ L.toArray := fun a b c L => Array.toList_inj.mp (by simp)
    have fin := h h' tk' acc hk hi
    show R (.ok (.ret (.ref (h'.push { cls := .type "tuple", data := .seq acc.toList.toArray }).objs.size))) ⟨(h'.push { cls := .type "tuple", data := .seq acc.toList.toArray }).push { cls := .type "itertools.combinations", data := .fields ([Value.ref h'.objs.size, rawInt (if (r : Int).toNat > acc.toList.length then 2 else 0), .none] ++ (List.range (r : Int).toNat).map fun (n : Nat) => rawInt n).toArray }, g, d, tk', os⟩
    rw [z2, e3, Int.toNat_natCast, hsz, Array.toArray_toList]
    exact fin
section
variable {prog : Program} {w : World} {A : Around} {E : Value → Shared → Prop} {s : Shared}
theorem madeR {l : Addr} {a b : Int} {t1 t2 t3 t : Tok} {n r : Nat} {Q : Value → Shared → Prop} (hh : A.handled = none) (hl : IsRange s.heap l a b 1 t1 t2 t3) (hr : r ≤ 1048576) (hsm : Builtin.Range.small a b 1 = true) (hn : Builtin.Range.rangeSize a b 1 = n) (hz : n ≤ 2 ^ 24)
    (h : ∀ (h' hf : Heap) (tk : Nat) (acc : Array Value), (∀ b o, s.heap.get? b = some o → h'.get? b = some o) → ItemsOf (fun i v => ∃ t, v = .int (a + i * 1) t) acc n → IsComb hf (h'.objs.size + 1) h'.objs.size (if r > n then 2 else 0) .none (List.range r) → hf.get? h'.objs.size = some { cls := .type "tuple", data := .seq acc } → (∀ b o, h'.get? b = some o → hf.get? b = some o) → Q (.ref (h'.objs.size + 1)) { s with heap := hf, toks := tk }) :
    wpAny (model prog w) A (call (.type "itertools.combinations") [.ref l, .int r t]) Q E s := by
  refine callType_new called_c (by decide +kernel) (typeCall_c _ _) (newCall_c _ _) (fun obj => F.args_object_init_3 obj _ _) entry_c_new (meets_cR l a b t1 t2 t3 n r t hr hsm hn hz) ⟨hh, hl, fun h' tk acc hk hi => ?_⟩
  have z1 : (h'.push { cls := .type "tuple", data := .seq acc }).objs.size = h'.objs.size + 1 := size_push' _ _
  have g1 := Heap.get?_push_size h' (o := { cls := .type "tuple", data := .seq acc }) rfl
  have g2 := Heap.get?_push_size (h'.push { cls := .type "tuple", data := .seq acc }) (o := { cls := .type "itertools.combinations", data := .fields (#[.ref h'.objs.size, rawInt (if r > n then 2 else 0), .none] ++ ((List.range r).map fun (n : Nat) => rawInt n).toArray) }) rfl
  rw [z1] at g2
  exact ⟨⟨_, g2, rfl⟩, h h' _ tk acc hk hi g2 (Heap.get?_push_of_some _ g1) fun b o q => Heap.get?_push_of_some _ (Heap.get?_push_of_some _ q)⟩
end
end MpC
set_option Elab.async false
set_option linter.all false
set_option maxRecDepth 100000
set_option maxHeartbeats 4000000
/-! Mp: itertools.combinations of a range, walked. -/
namespace Mp
open PySem PySem.Spec PyProof.Rows L2
def PRgF (X : Cx) (e : Expr) (t : L2.St → Hp → (Int → Int → Hp → Prop) → Prop) : Prop :=
  ∀ (pins : List (Addr × Obj)) (s : Shared) (σ : L2.St) (H : Hp) (Q : Int → Int → Hp → Prop), Inv X pins σ H s → t σ H Q →
    wpAny (model X.prog X.w) X.A (eval e X.env) (fun x s' => ∃ r a b t u v H', x = .ref r ∧ IsRange s'.heap r a b 1 t u v ∧ Inv X pins σ H' s' ∧ FpOk X pins H' r ∧ Q a b H') X.xe s
theorem prgF_1 {X : Cx} {a : Expr} {ta : TE} {p pos : Pos} (hg : Gl X "range") (hm : X.mg "range" = none) (ha : PE X a ta) (na : starEach [a] X.env = (false, eval a X.env) :: starEach [] X.env := by rfl) : PRgF X (.Call (.Name "range" p) [a] [] pos) (tRg1 ta) := by
  intro pins s σ H Q I h
  refine Call_ (ld_blt I hg hm boot_range (PyProof.Rows.callWith_type1 (one_arg ha I h (fun v s2 x H2 I2 r q => ?_) na) na))
  obtain ⟨n, rfl, q⟩ := q
  obtain ⟨t, rfl⟩ := r
  exact call_range_1 ⟨_, 0, n, _, _, _, H2, rfl, IsRange.new _ _ _ _ _ _ _, I2.kept fun b u e => Heap.get?_push_of_some _ e, I2.fpOk (Nat.le_refl _) (I2.hok.fresh (Nat.le_refl _)), q⟩
def iCombR (te : L2.St → Hp → (Int → Int → Hp → Prop) → Prop) (tk : TE) : TI := fun σ H R => te σ H fun a b H1 => tk σ H1 fun y H2 => ∃ r L, y = .int (r : Nat) ∧ RgOk a b ∧ r ≤ 1048576 ∧ combAll (rgV a b).length r = some L ∧ R (ItC (rgV a b) L) H2
theorem pi_combR {X : Cx} {tg e b : Expr} {te : L2.St → Hp → (Int → Int → Hp → Prop) → Prop} {tk : TE} {p pos : Pos} {x : Str} (hc : X.calm = true) (hg : Gl X x) (hm : X.mg x = some (.type "itertools.combinations")) (he : PRgF X e te) (hb : PE X b tk) (hdb : (x == ("__debug__" : Str)) = false := by decide)
    (hs : starEach [e, b] X.env = (false, eval e X.env) :: starEach [b] X.env := by rfl) (hs2 : starEach [b] X.env = (false, eval b X.env) :: starEach [] X.env := by rfl) (hpl : (backTo pos (starEach [b] X.env)).any (·.1) = false := by rfl) : PI X tg (.Call (.Name x p) [e, b] [] pos) (iCombR te tk) := by
  refine ⟨fun pins s σ H R I h => ?_⟩
  refine Call_ (ld_glob I hg hm (PyProof.Rows.callWith_type1 (args_cons (thn (he pins s σ H _ I h) fun xv s1 ⟨r, i, j, t, u, v, H1, ex, hr, I1, fr, q1⟩ => ?_) hs) hs hpl) hdb)
  subst ex
  have I1p : Inv X (pins ++ pinsAt [r] s1.heap) σ H1 s1 := I1.pinned (fun b hb => by rw [List.mem_singleton.mp hb]; exact fr) fun b hb => by
    rw [List.mem_singleton.mp hb]
    exact ⟨_, hr, fun v z => nomatch z⟩
  refine args_cons (thn (hb.run _ s1 σ H1 _ I1p q1) fun yv s2 ⟨y, H2, I2p, ry, q2⟩ => args_nil ?_) hs2
  obtain ⟨k, L, ey, ok, hk, hL, q⟩ := q2
  subst ey
  obtain ⟨tk', rfl⟩ := ry
  have hr2 : IsRange s2.heap r i j 1 t u v := (I2p.pin _ (List.mem_append_right _ (List.mem_append_right _ (mem_pinsAt (List.mem_singleton.mpr rfl) hr)))).1
  have I2 : Inv X pins σ H2 s2 := I2p.unpinned
  obtain ⟨b1, b2, b3, b4, b5⟩ := ok
  refine MpC.madeR (I2.ok.hd hc) hr2 hk (small_one b1 b2 b3 b4) (rangeSize_nat i j) b5 fun h' hf tk2 acc hk1 hi hit hpool hk2 => MpC.iter_c hit ?_
  have I3 : Inv X pins σ H2 { s2 with heap := h', toks := tk2 } := I2.kept hk1
  have I4 : Inv X pins σ H2 { s2 with heap := hf, toks := tk2 } := I3.kept (t' := tk2) hk2
  have rv : Vals (rgV i j) acc.toList := vals_rg hi
  have hl : (rgV i j).length = acc.toList.length := rv.length
  have hn : acc.toList.length = (j - i).toNat := by rw [← hl, rgV_length]
  rw [hl] at hL
  have C := chain_of hL
  refine ⟨h'.objs.size + 1, [h'.objs.size + 1, h'.objs.size], _, _, H2, rfl, I4, turn_c (h'.objs.size + 1) h'.objs.size (Nat.ne_of_lt (Nat.lt_succ_self _)) rv hk C, ⟨by rw [Array.toArray_toList]; exact hpool, _, _, _, hit, ?_⟩, fun b hb => ?_, q⟩
  · by_cases z : L = []
    · exact .inl ⟨z, if_pos (by rw [← hn]; exact C.none z)⟩
    · obtain ⟨h0, h1⟩ := C.first z
      exact .inr (.inl ⟨rfl, if_neg (by omega), h0⟩)
  · have e' : b = h'.objs.size + 1 ∨ b = h'.objs.size := by simpa using hb
    have hle : h'.objs.size ≤ b := by
      rcases e' with z | z
      · rw [z]
        exact Nat.le_add_right _ _
      · rw [z]
        exact Nat.le_refl _
    exact I3.fpOk hle (I3.hok.fresh hle)
/-- combinations(range(n), r) -/
def miCombR (f g : ME) : MI := fun η S => (f η S).bind fun x S1 => match x with
  | .int n => (g η S1).bind fun y S2 => (match y with
    | .int r => if 0 ≤ n ∧ n ≤ 1000000 ∧ 0 ≤ r ∧ r ≤ 1048576 then rOpt ((combAll n.toNat r.toNat).map fun l => l.map fun idx => W.tup (idx.map fun i => (rangeW 0 n.toNat).getD i .non)) S2 else .stuck
    | _ => .stuck)
  | _ => .stuck
section
variable {X : Cx} {G : Gs} {tg a b : Expr} {pos p p1 p2 : Pos} {f g : ME} {x : Str}
theorem si_combR (cf : Cfg X) (hm : X.mg x = some (.type "itertools.combinations")) (hmr : X.mg "range" = none) (ha : SE X G a f) (hb : SE X G b g) (hg : Gl X x := by rfl) (hgr : Gl X "range" := by rfl) (hdb : (x == ("__debug__" : Str)) = false := by decide)
    (na : starEach [a] X.env = (false, eval a X.env) :: starEach [] X.env := by rfl) (hs : starEach [.Call (.Name "range" p1) [a] [] p2, b] X.env = (false, eval (.Call (.Name "range" p1) [a] [] p2) X.env) :: starEach [b] X.env := by rfl) (hs2 : starEach [b] X.env = (false, eval b X.env) :: starEach [] X.env := by rfl) (hpl : (backTo pos (starEach [b] X.env)).any (·.1) = false := by rfl) :
    SI X G tg (.Call (.Name x p) [.Call (.Name "range" p1) [a] [] p2, b] [] pos) (miCombR f g) := by
  refine ⟨fun Wi tk => (pi_combR cf.calm hg hm (prgF_1 hgr hmr (ha.run Wi tk) na) (hb.run Wi tk) hdb hs hs2 hpl).imp ?_⟩
  rintro σ H R ⟨η, S, γ, he, hst, q⟩
  refine ⟨η, S, γ, he, hst, (PostI.seq q).imp fun v H1 ⟨wx, S1, γ1, e1, r1, s1, q1⟩ => ?_⟩
  cases wx with
  | int n =>
    cases r1
    refine ⟨n, rfl, η, S1, γ1, he.mono e1, s1, (PostI.seq q1).imp fun v2 H2 ⟨wy, S2, γ2, e2, r2, s2, q2⟩ => ?_⟩
    cases wy with
    | int r =>
      cases r2
      have q2 : PostI X.K G (fun c d H' => Wi c d σ H') γ2 H2 (if 0 ≤ n ∧ n ≤ 1000000 ∧ 0 ≤ r ∧ r ≤ 1048576 then rOpt ((combAll n.toNat r.toNat).map fun l => l.map fun idx => W.tup (idx.map fun i => (rangeW 0 n.toNat).getD i .non)) S2 else .stuck) R := q2
      split at q2
      · rename_i h
        obtain ⟨h1, h2, h3, h4⟩ := h
        have er : ((r.toNat : Nat) : Int) = r := by omega
        cases eL : combAll n.toNat r.toNat with
        | none => rw [eL] at q2; exact q2.elim
        | some L =>
          rw [eL] at q2
          refine ⟨r.toNat, L, by rw [er], RgOk.of_le (by omega) (by omega) (by omega) h1, by omega, ?_, q2 _ γ2 H2 Ext.refl s2 (itOk_comb ?_)⟩
          · rw [rgV_length, Int.sub_zero]
            exact eL
          · have := rgV_reps (K := X.K) (G := G) (γ := γ2) (H := H2) 0 n
            rw [Int.sub_zero] at this
            exact this
      · exact q2.elim
    | _ => exact q2.elim
  | _ => exact q1.elim
end
end Mp
set_option Elab.async false
set_option linter.all false
set_option maxRecDepth 100000
set_option maxHeartbeats 4000000
/-! Mp: list.remove of whole numbers. -/
namespace Mp
open PySem PySem.Spec PyProof.Rows L2
def omRemoveI : OM := fun x ws S => match x, ws with
  | .ref i, [.int k] => (match S[i]? with
    | some (.lst xs) => (match intsOf xs with
      | some ns => if k ∈ ns then some (.non, S.set i (.lst (xs.eraseIdx (ns.idxOf k)))) else none
      | none => none)
    | _ => none)
  | _, _ => none
theorem idxOf_first {ns : List Int} {k : Int} (h : k ∈ ns) : ns[ns.idxOf k]? = some k ∧ ∀ m : Nat, m < ns.idxOf k → ns[m]? ≠ some k := by
  induction ns with
  | nil => cases h
  | cons n r ih =>
    by_cases e : n = k
    · subst e
      rw [List.idxOf_cons_self]
      exact ⟨rfl, fun m hm => absurd hm (Nat.not_lt_zero _)⟩
    · rw [show (n :: r).idxOf k = r.idxOf k + 1 by rw [List.idxOf_cons, beq_eq_false_iff_ne.mpr e] <;> rfl]
      have ih := ih ((List.mem_cons.mp h).resolve_left fun z => e z.symm)
      refine ⟨ih.1, fun m hm => ?_⟩
      cases m with
      | zero => exact fun z => e (Option.some.inj z)
      | succ m => exact ih.2 m (by omega)
theorem eraseIdx_mapG {α β : Type} (f : α → β) : ∀ (l : List α) (i : Nat), (l.map f).eraseIdx i = (l.eraseIdx i).map f
  | [], i => by cases i <;> rfl
  | a :: l, 0 => rfl
  | a :: l, i + 1 => congrArg (f a :: ·) (eraseIdx_mapG f l i)
section
variable {X : Cx} {G : Gs}
theorem om_removeI : MtR X "list.remove" (rmOf X.K G omRemoveI) := by
  refine mt_imp mt_remove ?_
  rintro x xs H Q ⟨wx, ws, S, γ, w, S3, r, rs, s, h, k⟩
  unfold omRemoveI at h
  split at h
  · rename_i i j
    cases r with
    | ref hr =>
    cases rs with
    | cons r1 t =>
    cases t
    cases r1
    split at h
    · rename_i ys hc
      split at h
      · rename_i ns hn
        split at h
        · rename_i hj
          cases h
          obtain ⟨py, vs, hv, q⟩ := s.cell i _ _ hc hr
          have ev := intsOf_reps' q hn
          obtain ⟨ex, s'⟩ := s.write (ys := ys.eraseIdx (ns.idxOf j)) (us := vs.eraseIdx (ns.idxOf j)) hc hr (pures_erase _ py) (q.erase _)
          subst ev
          obtain ⟨f1, f2⟩ := idxOf_first hj
          refine ⟨_, ns, j, ns.idxOf j, rfl, rfl, hv, f1, f2, ?_⟩
          have em : (ns.map V.int).eraseIdx (ns.idxOf j) = (ns.eraseIdx (ns.idxOf j)).map V.int := (eraseIdx_mapG V.int _ _)
          rw [em] at ex s'
          exact k _ γ _ ex .non s'
        · cases h
      · cases h
    · cases h
  · cases h
end
end Mp
set_option Elab.async false
set_option linter.all false
set_option maxRecDepth 100000
set_option maxHeartbeats 4000000
/-! Mp: lists and tuples backwards. -/
namespace Mp
open PySem PySem.Spec PyProof.Rows L2
theorem fm_congr {α β : Type} {f g : α → Option β} : ∀ (l : List α), (∀ x ∈ l, f x = g x) → l.filterMap f = l.filterMap g
  | [], _ => rfl
  | a :: r, h => by
    rw [List.filterMap_cons, List.filterMap_cons, h a (List.mem_cons_self ..), fm_congr r fun x hx => h x (List.mem_cons_of_mem _ hx)]
theorem rev_pick (xs : Array Value) : (List.filterMap (fun k : Nat => xs[(((xs.size : Int) - 1) + (k : Int) * -1).toNat]?) (List.range xs.size)).toArray = xs.toList.reverse.toArray := by
  congr 1
  have h : List.filterMap (fun k : Nat => xs[(((xs.size : Int) - 1) + (k : Int) * -1).toNat]?) (List.range xs.size) = List.filterMap (fun k : Nat => xs.toList.reverse[k]?) (List.range xs.size) := by
    refine fm_congr _ fun k hk => ?_
    have hk := List.mem_range.mp hk
    have hl : k < xs.toList.length := by rw [Array.length_toList]; exact hk
    rw [List.getElem?_reverse hl, Array.length_toList, show (((xs.size : Int) - 1) + (k : Int) * -1).toNat = xs.size - 1 - k by omega, Array.getElem?_toList]
  rw [h]
  have g : ∀ (l : List Value), List.filterMap (fun k : Nat => l[k]?) (List.range l.length) = l := by
    intro l
    induction l with
    | nil => rfl
    | cons a r ih =>
      rw [List.length_cons, List.range_succ_eq_map, List.filterMap_cons]
      show a :: List.filterMap _ _ = _
      rw [List.filterMap_map]
      exact congrArg (a :: ·) ih
  have := g xs.toList.reverse
  rw [List.length_reverse, Array.length_toList] at this
  exact this
theorem slice_rev {prog : Program} {w : World} {A : Around} {E : Value → Shared → Prop} {s : Shared} {sl : Addr} {u : Tok} {n : Nat} {Q : Int × Int × Nat → Shared → Prop} (h : s.heap.IsSliceOf sl .none .none (.int (-1) u)) (hq : Q ((n : Int) - 1, -1, n) s) :
    wpAny (model prog w) A (Builtin.Slice.sliceApplied (.ref sl) (pure (n : Int))) Q E s := by
  obtain ⟨o, ho, hc, hd⟩ := h
  unfold Builtin.Slice.sliceApplied Builtin.Slice.sliceFields
  refine wpAny_bind (wpAny_bind (wpAny_field ho hd rfl (wpAny_bind (wpAny_field ho hd rfl (wpAny_bind (wpAny_field ho hd rfl (wpAny_pure ?_)))))))
  refine wpAny_bind (slicePart_int ?_)
  rw [if_neg (by decide)]
  refine wpAny_bind (slicePart_none (wpAny_bind (slicePart_none (wpAny_bind (wpAny_pure ?_)))))
  have e1 : Builtin.Slice.sliceAdjust none none ((some (-1 : Int)).getD 1) (n : Int) = ((n : Int) - 1, -1) := rfl
  rw [e1]
  refine wpAny_pure ?_
  have e2 : Builtin.Slice.slicePlaces ((n : Int) - 1) (-1) ((some (-1 : Int)).getD 1) = n := by
    unfold Builtin.Slice.slicePlaces
    rw [if_neg (by decide)]
    by_cases h0 : n = 0
    · subst h0
      rfl
    · rw [if_pos (by omega), show -((some (-1 : Int)).getD 1) = (1 : Int) from rfl, Int.ediv_one]
      omega
  rw [e2]
  exact hq
theorem getItem_tuple_rev {prog : Program} {w : World} {A : Around} {E : Value → Shared → Prop} {s : Shared} {t sl : Addr} {u : Tok} {items : Array Value} {Q : Value → Shared → Prop} (ht : IsTup s.heap t items) (h : s.heap.IsSliceOf sl .none .none (.int (-1) u)) (hz : items.size ≤ sizeLine)
    (hq : Q (.ref s.heap.objs.size) { s with heap := s.heap.push { cls := .type "tuple", data := .seq items.toList.reverse.toArray } }) : wpAny (model prog w) A (getItem (.ref t) (.ref sl)) Q E s := by
  have hok : sizeOk (.seq items.toList.reverse.toArray) := by
    show items.toList.reverse.toArray.size ≤ sizeLine
    rw [List.size_toArray, List.length_reverse, Array.length_toList]
    exact hz
  have hs : s.TypeIs (.ref sl) "slice" := by
    obtain ⟨o, ho, hc, hd⟩ := h
    exact ⟨o, ho, hc⟩
  unfold getItem
  refine wpAny_holding (wpAny_bind (wpAny_sequenceKey (IsTup.typeIs ht) (by decide) (wpAny_bind (wpAny_callSpecial?_slot (IsTup.typeIs ht) slot_tuple_getitem ?_))))
  refine wpAny_call_entry slot_tuple_getitem (IsTup.typeIs ht) entry_tuple_getitem ?_ (args_tuple_getitem _ _)
  unfold Builtin.«tuple.__getitem__»
  refine wpAny_bind (wpAny_pure ?_)
  refine wpAny_bind (tupleItemsOf_ ht (wpAny_bind (wpAny_typeOf hs ?_)))
  rw [if_pos (by decide)]
  refine wpAny_bind (slice_rev h ?_)
  have hn : (((items.size : Int) - 1 == 0 && (-1 : Int) == 1 && items.size == items.size) = true) = False := by
    rw [show ((-1 : Int) == 1) = false from rfl, Bool.and_false, Bool.false_and]
    exact eq_false (by decide)
  dsimp only
  rw [if_neg (by rw [hn]; exact not_false)]
  rw [rev_pick]
  unfold Builtin.Tuple.tupleExact
  refine wpAny_bind (wpAny_newObj_type ?_ hok)
  exact wpAny_pure ⟨_, rfl, wpAny_pure hq⟩
def tRevT (K : PySem.W.Frag) (te : TE) : TE := fun σ H Q => te σ H fun x H1 => ∃ a xs, x = .ref a ∧ ((SqT K H1 a xs ∧ ∀ p, H1 p = none → Q (.ref p) (upd H1 p (.tup xs.reverse))) ∨ (SqL K H1 a xs ∧ ∀ p, H1 p = none → Q (.ref p) (upd H1 p (.lst xs.reverse))))
theorem pe_revT {X : Cx} {e : Expr} {te : TE} {k : Nat} {p1 p2 p3 pos : Pos} (ha : PE X e te) : PE X (.Subscript e (.Slice none none (some (.UnaryOp .USub (.Constant (.int 1) k p1) p2)) p3) pos) (tRevT X.K te) := by
  refine ⟨fun pins s σ H Q I h => ?_⟩
  refine Subscript_ (thn (ha.run pins s σ H _ I h) fun xv s1 ⟨x, H1, I1, r1, a, xs, ex, hq⟩ => ?_)
  subst ex
  have r1 : xv = .ref a := r1
  subst r1
  refine wpAny_Slice (thn (po_none.run pins s1 σ H1 (fun o H' => o = none ∧ H' = H1) I1 ⟨rfl, rfl⟩) fun u1 s2 ⟨o1, H2, I2, ip1, eo1, eh1⟩ => ?_)
  subst eo1; subst eh1
  cases ip1
  refine thn (po_none.run pins s2 σ _ (fun o H' => o = none ∧ H' = H2) I2 ⟨rfl, rfl⟩) fun u2 s3 ⟨o2, H3, I3, ip2, eo2, eh2⟩ => ?_
  subst eo2; subst eh2
  cases ip2
  refine thn ((po_some (pe_un un_neg pe_int)).run pins s3 σ _ (fun o H' => o = some (-1) ∧ H' = H3) I3 ⟨1, rfl, -1, rfl, rfl, rfl⟩) fun u3 s4 ⟨o3, H4, I4, ip3, eo3, eh3⟩ => ?_
  subst eo3; subst eh3
  cases ip3 with
  | int i t =>
  have I5 := I4.kept (h' := s4.heap.push { cls := .type "slice", data := .fields #[.none, .none, .int (-1) t] }) (t' := s4.toks) fun b u hb => Heap.get?_push_of_some _ hb
  rcases hq with ⟨hq, q⟩ | ⟨hq, q⟩
  · obtain ⟨its, vi, ht, hz⟩ := I5.tuple hq
    have hl := vi.length
    refine tail_any (IsTup.typeIs ht) slot_tuple_getitem.lookup (getItem_tuple_rev ht (Heap.IsSliceOf.new _ _ _ _) (by rw [List.size_toArray]; omega) ?_) rfl
    refine ⟨.ref _, _, I5.laid (fun b u hb => Heap.get?_push_of_some _ hb) (Nat.le_refl _) ?_, rfl, q _ (I5.hok.fresh (Nat.le_refl _))⟩
    exact ⟨by rw [List.length_reverse]; exact hz, its.reverse, vi.reverse, ⟨_, Heap.get?_push_size _ (by rfl), rfl, _, rfl⟩⟩
  · obtain ⟨its, vi, ht, hz⟩ := I5.list hq
    have hl := vi.length
    refine tail_any ht.isList.typeIs slot_list_getitem.lookup (wpAny_getItem_list_slice ht.isList (Heap.IsSliceOf.new _ _ _ _) .none .none (.int _ _) (by decide) ?_ (by rw [List.size_toArray]; omega)) rfl
    rw [PySem.W.krv_pick]
    refine ⟨.ref _, _, I5.laid (fun b u hb => Heap.get?_push_of_some _ hb) (Nat.le_refl _) ?_, rfl, q _ (I5.hok.fresh (Nat.le_refl _))⟩
    exact ⟨by rw [List.length_reverse]; exact hz, its.reverse, 0, vi.reverse, Heap.get?_push_size _ (by rfl)⟩
def mRev (f : ME) : ME := fun η S => (f η S).bind fun x S1 => match x with
  | .tup xs => .ok (.tup xs.reverse) S1
  | x => (match lstOf S1 x with
    | some xs => .ok (.lst xs.reverse) S1
    | none => .stuck)
section
variable {X : Cx} {G : Gs} {e : Expr} {p1 p2 p3 pos : Pos} {f : ME}
theorem se_rev {k : Nat} (ha : SE X G e f) : SE X G (.Subscript e (.Slice none none (some (.UnaryOp .USub (.Constant (.int 1) k p1) p2)) p3) pos) (mRev f) := by
  refine ⟨fun Wi tk => (pe_revT (ha.run Wi tk)).imp ?_⟩
  rintro σ H Q ⟨η, S, γ, he, hs, q⟩
  refine ⟨η, S, γ, he, hs, (Post.seq q).imp fun x H1 ⟨wx, S1, γ1, e1, r1, s1, q1⟩ => ?_⟩
  have hl : ∀ xs, lstOf S1 wx = some xs → Post X.K G (Rep X.K G) (fun c d H' => Wi c d σ H') γ1 H1 (R.ok (.lst xs.reverse) S1) Q → ∃ a vs, x = .ref a ∧ ((SqT X.K H1 a vs ∧ ∀ p, H1 p = none → Q (.ref p) (upd H1 p (.tup vs.reverse))) ∨ (SqL X.K H1 a vs ∧ ∀ p, H1 p = none → Q (.ref p) (upd H1 p (.lst vs.reverse)))) := by
    intro xs el q1
    obtain ⟨a, vs, ev, hq, qr⟩ := lst_or s1 el r1
    refine ⟨a, vs, ev, .inr ⟨hq, fun p hp => ?_⟩⟩
    have ex := Ext.upd (K := X.K) (G := G) s1 (o := .lst vs.reverse) hp
    exact q1 _ γ1 _ ex (.lst upd_same (s1.fresh hp) (Reps.rev (qr.mono ex))) (s1.upd hp)
  cases wx with
  | tup xs =>
    cases r1 with
    | @tup a vs _ hf rr =>
      refine ⟨_, _, rfl, .inl ⟨hf.sq, fun p hp => ?_⟩⟩
      have ex := Ext.upd (K := X.K) (G := G) s1 (o := .tup vs.reverse) hp
      exact q1 _ γ1 _ ex (.tup (.inl ⟨.inl upd_same, s1.fresh hp⟩) (Reps.rev (rr.mono ex))) (s1.upd hp)
  | lst xs => exact hl xs rfl q1
  | ref i =>
    cases el : lstOf S1 (.ref i) with
    | none => simp only [el] at q1; exact q1.elim
    | some xs =>
      simp only [el] at q1
      exact hl xs el q1
  | _ => exact q1.elim
end
end Mp
set_option Elab.async false
set_option linter.all false
set_option maxRecDepth 100000
set_option maxHeartbeats 4000000
/-! Mp: own exceptions with one field: made, raised. -/
namespace Mp
open PySem PySem.Spec PyProof.Rows L2
/-- def __init__(self, f): self.f = f -/
def spI (C : Addr) (f : Str) : Sp := fun vs H Q _ => ∃ (a : Addr) (v : V), vs = [.ref a, v] ∧ H a = some (exo a C none) ∧ ∀ dx, H dx = none → dx ≠ a → Q .non (upd (upd H dx (exd dx [(f, v)])) a (exo a C (some dx)))
/-- what is known of an own exception's class -/
structure ErrF (P : Program) (w : World) (K : PySem.W.Frag) (mg : Str → Option Value) (base : Heap) (C : Addr) (x f : Str) : Prop where
  gl : mg x = some (.ref C)
  oex : OexC K C
  xf : XfC K C
  ec : ExcC K C
  no : PySem.W.findIn K (.ref C) f = some none
  ini : ∃ fI fd, PySem.W.findIn K (.ref C) "__init__" = some (some (.ref fI)) ∧ PySem.W.typeIn K (.ref fI) = some (.type "function") ∧ FnOk P w K mg base CX0 1 fI fd ["self", f] (spI C f) ∧ Binds K fd ["self", f] []
def sRaise (c : Nat) (f : ME) : MS := fun η S => (f η S).toS η fun w S1 => .exc c w η S1
section
variable {X : Cx} {G : Gs} {c : Nat} {e : Expr} {f : ME} {x : Str} {p pos pos2 : Pos}
end
end Mp
set_option Elab.async false
set_option linter.all false
set_option maxRecDepth 100000
set_option maxHeartbeats 4000000
/-! Mp: try .. except .. as. -/
namespace Mp
open PySem PySem.Spec PyProof.Rows L2
mutual
def noX : W → Bool
  | .exc _ _ => false
  | .tup xs => noXs xs
  | .lst xs => noXs xs
  | .scr xs => noXs xs
  | .dct _ vs => noXs vs
  | _ => true
def noXs : List W → Bool
  | [] => true
  | x :: xs => noX x && noXs xs
end
mutual
theorem pure_noX : ∀ {w : W}, w.pure = true → noX w = true
  | .exc _ _, h => by cases h
  | .tup xs, h => by unfold noX; exact pures_noX (by simpa [W.pure] using h)
  | .lst xs, h => by unfold noX; exact pures_noX (by simpa [W.pure] using h)
  | .scr xs, h => by unfold noX; exact pures_noX (by simpa [W.pure] using h)
  | .dct ks vs, h => by
    unfold noX
    rw [W.pure, Bool.and_eq_true] at h
    exact pures_noX h.2
  | .non, _ => rfl
  | .bl _, _ => rfl
  | .int _, _ => rfl
  | .str _, _ => rfl
  | .ref _, _ => rfl
  | .fn _, _ => rfl
  | .cls _, _ => rfl
theorem pures_noX : ∀ {ws : List W}, pures ws = true → noXs ws = true
  | [], _ => rfl
  | x :: xs, h => by
    unfold noXs
    rw [pures, Bool.and_eq_true] at h
    rw [pure_noX h.1, pures_noX h.2] <;> rfl
end
section
variable {K : PySem.W.Frag} {G G' : Gs} {γ : Ga} {H : Hp}
mutual
theorem Rep.cast (hf : G'.fa = G.fa) : ∀ {w : W} {v : V}, noX w = true → Rep K G γ H w v → Rep K G' γ H w v
  | _, _, _, .non => .non
  | _, _, _, .bl b => .bl b
  | _, _, _, .int i => .int i
  | _, _, _, .str s h1 h2 => .str s h1 h2
  | _, _, p, .tup h r => .tup h (Reps.cast hf (by unfold noX at p; exact p) r)
  | _, _, p, .lst h q r => .lst h q (Reps.cast hf (by unfold noX at p; exact p) r)
  | _, _, p, .scr h r => .scr h (Reps.cast hf (by unfold noX at p; exact p) r)
  | _, _, _, .ref h => .ref h
  | _, _, _, .fn f => hf ▸ .fn f
  | _, _, p, .dct d q r => .dct d q (Reps.cast hf (by unfold noX at p; exact p) r)
theorem Reps.cast (hf : G'.fa = G.fa) : ∀ {ws : List W} {vs : List V}, noXs ws = true → Reps K G γ H ws vs → Reps K G' γ H ws vs
  | _, _, _, .nil => .nil
  | _, _, p, .cons r t => by
    unfold noXs at p
    obtain ⟨p1, p2⟩ := Bool.and_eq_true_iff.mp p
    exact .cons (Rep.cast hf p1 r) (Reps.cast hf p2 t)
end
theorem StoreOk.cast {S : Store} (hf : G'.fa = G.fa) (s : StoreOk K G γ H S) : StoreOk K G' γ H S := by
  refine ⟨s.len, s.nd, fun i c a hc ha => ?_, s.bt⟩
  have q := s.cell i c a hc ha
  cases c with
  | lst xs =>
    obtain ⟨p, vs, hv, r⟩ := q
    exact ⟨p, vs, hv, Reps.cast hf (pures_noX p) r⟩
  | dct ks ws =>
    obtain ⟨p0, p, us, d, r⟩ := q
    exact ⟨p0, p, us, d, Reps.cast hf (pures_noX p) r⟩
  | ins _ _ => exact q.elim
def envX (η : Env) : Bool := η.all fun o => match o with
  | some w => noX w
  | none => true
theorem EnvOk.cast {η : Env} {σ : L2.St} (hf : G'.fa = G.fa) (hx : envX η = true) (h : EnvOk K G γ H η σ) : EnvOk K G' γ H η σ := ⟨h.1, fun i w q => by
  obtain ⟨v, e1, r⟩ := h.2 i w q
  have := List.all_eq_true.mp hx (some w) (List.mem_of_getElem? q)
  exact ⟨v, e1, r.cast hf this⟩⟩
end
def _root_.Mp.Gs.exn (G : Gs) (a d : Addr) (c : Nat) : Gs := { G with ea := a, ed := d, ec := c }
/-- behind an exception -/
def sCatch (i : Nat) (h : MS) (c : Nat) (x : W) (η1 : Env) (S1 : Store) : RS := if envX η1 = true ∧ noX x = true then (match h (η1.set i (some (.exc c x))) S1 with
  | .nx η2 S2 => if envX (η2.set i none) = true then .nx (η2.set i none) S2 else .stuck
  | .ret w S2 => if noX w = true then .ret w S2 else .stuck
  | _ => .stuck) else .stuck
def sTry (i : Nat) (b h : MS) : MS := fun η S => match b η S with
  | .exc c x η1 S1 => sCatch i h c x η1 S1
  | r => r
section
variable {X : Cx} {G : Gs} {i : Nat} {xn n : Str} {ce : Value} {body suite : List Stmt} {b₀ : Stmt} {np pos pos' : Pos} {b h : MS}
end
end Mp
set_option Elab.async false
set_option linter.all false
set_option maxRecDepth 100000
set_option maxHeartbeats 4000000
/-! Mp: isinstance(e, C) and e.f of the exception that is handled. -/
namespace Mp
open PySem PySem.Spec PyProof.Rows L2
def mIsX (cs : Nat → Bool) (f : ME) : ME := fun η S => (f η S).bind fun w S1 => match w with
  | .exc c _ => .ok (.bl (cs c)) S1
  | _ => .stuck
def mXF (cs : Nat → Bool) (f : ME) : ME := fun η S => (f η S).bind fun w S1 => match w with
  | .exc c x => if cs c = true then .ok x S1 else .stuck
  | _ => .stuck
def rIsD (K : PySem.W.Frag) (C a d : Addr) : List V → Hp → VK → Prop := fun xs H Q =>
  ∃ (c : V) (cv : Value) (b : Bool), xs = [.ref a, c] ∧ (∀ u, RelV c u → u = cv) ∧ PySem.W.kitOne K (.ref C) cv = some b ∧ (∃ fs, H d = some (.xd fs)) ∧ Q (.bl b) H
section
variable {X : Cx} {G : Gs} {a d C : Addr} {c : Nat} {oe : Obj} {pn : List (Addr × Obj)}
variable {e : Expr} {f : ME} {x n : Str} {p p2 pos : Pos}
end
end Mp
set_option Elab.async false
set_option linter.all false
set_option maxRecDepth 100000
set_option maxHeartbeats 4000000
/-! Mp: what the head says of own exceptions; calls without arguments. -/
namespace Mp
open PySem PySem.Spec PyProof.Rows L2
def excObjB (C : Addr) (o : Obj) : Bool := match o with
  | ⟨.type "type", _, .cls cd, sl⟩ => (match cd.mro, sl.toList with
    | .ref C' :: bm, [_, _, _, _, some (.builtin n), _] => decide (C' = C) && (n == "ValueError.__new__" && (cd.hasDict && (!cd.hasDel && HandSPX.refsVE bm)))
    | _, _ => false)
  | _ => false
def errB (K : PySem.W.Frag) (x f : Str) : Bool :=
  let C := He.ga K x
  (match List.lookup C K with
    | some o => excObjB C o
    | none => false) &&
  (He.eqO (PySem.W.findIn K (.ref C) "__setattr__") (some (some (.builtin "object.__setattr__"))) &&
  (decide (PySem.W.subIn K (.ref C) (.type "BaseException") = some true) &&
  (decide (PySem.W.typeIn K (.ref C) = some (.type "type")) &&
  (PySem.W.keepIn K (.ref C) &&
  (He.eqO (PySem.W.findIn K (.ref C) "__getattribute__") (some (some (.builtin "BaseException.__getattribute__"))) &&
  (He.eqO (PySem.W.findIn K (.ref C) "__getattr__") (some none) &&
  (PySem.W.hasDictIn K C &&
  (He.eqO (PySem.W.findIn K (.ref C) "__class__") (some (some (.builtin "object.__class__"))) &&
  (He.eqO (PySem.W.specialIn K (.builtin "object.__class__") "__get__") (some (some (.builtin "getset_descriptor.__get__"))) &&
  (decide (PySem.W.takesIn K (.builtin "object.__class__") = some true) &&
  (decide (PySem.W.mroIn K C (.type "object") = some true) &&
  (He.eqO (PySem.W.findIn K (.ref C) f) (some none) &&
  (He.eqO (PySem.W.findIn K (.ref C) "__init__") (some (some (.ref (He.ma K C "__init__")))) &&
  decide (PySem.W.typeIn K (.ref (He.ma K C "__init__")) = some (.type "function")))))))))))))))
/-- a call without arguments -/
def mCall0 (φ : Fns) (f : Nat) : ME := fun _ S => noexc (φ f [] S)
section
variable {X : Cx} {G : Gs} {d f : Nat} {r : FnR} {φ : Fns} {x : Str} {p pos : Pos}
end
end Mp
set_option Elab.async false
set_option linter.all false
set_option maxRecDepth 100000
set_option maxHeartbeats 4000000
/-! Mp: list.count of truths, list.index of flat things; names set in a suite. -/
namespace Mp
open PySem PySem.Spec PyProof.Rows L2
def omCountB : OM := fun x ws S => match lstOf S x, ws with
  | some xs, [.bl k] => (bls xs).map fun bs => (.int (bs.count k : Nat), S)
  | _, _ => none
def omIndexF : OM := fun x ws S => match lstOf S x, ws with
  | some xs, [y] => if flat y = true ∧ xs.all flat = true then (xs.findIdx? fun z => eqW z y).map fun j => (.int (j : Nat), S) else none
  | _, _ => none
section
variable {X : Cx} {G : Gs}
variable {a : Expr} {f : ME} {x : Str} {p pos : Pos}
end
end Mp
namespace Mp
/-- an index of a class; what is none stands for the first -/
def ixM (n c : Nat) : Nat := if c < n then c else 0
end Mp
set_option Elab.async false
set_option linter.all false
set_option maxRecDepth 100000
set_option maxHeartbeats 4000000
/-! Mp: dicts whose keys are tuples: displays of one pair, update, items, comprehensions. -/
namespace Mp
open PySem PySem.Spec PyProof.Rows L2
abbrev KL := List (List Key × V)
def mergeT (kvs more : KL) : KL := more.foldl (fun acc p => putK acc p.1 p.2) kvs
theorem KT.all {Hm : Hp} : ∀ {more : KL} {rs : List (List Key × Addr × Value)}, KT Hm more rs → ∀ {kvs : KL} {xs : List (List Key × Addr × Value)}, KT Hm kvs xs → KT Hm (mergeT kvs more) (storedAllH xs rs)
  | [], _, .nil, _, _, q => q
  | p :: more, r :: rs, .cons e t, kvs, xs, q => by
    obtain ⟨e1, e2, e3⟩ := e
    have q1 := q.put p.1 (b := r.2.1) e2 e3
    rw [e1] at q1
    have q2 := KT.all t q1
    show KT Hm (mergeT (putK kvs p.1 p.2) more) _
    rw [e1]
    exact q2
theorem mergeT_fresh : ∀ {more kvs : KL}, ((kvs ++ more).map (·.1)).Nodup → mergeT kvs more = kvs ++ more
  | [], kvs, _ => by rw [List.append_nil] <;> rfl
  | p :: more, kvs, h => by
    have hn : valV kvs p.1 = none := by
      cases z : valV kvs p.1 with
      | none => rfl
      | some v =>
        exfalso
        have a : (kvs.any fun kv => decide (kv.1 = p.1)) = true := by rw [valV_any, z] <;> rfl
        rw [List.any_eq_true] at a
        obtain ⟨kv, m, e⟩ := a
        rw [List.map_append, List.nodup_append] at h
        exact h.2.2 kv.1 (List.mem_map.mpr ⟨kv, m, rfl⟩) p.1 (by rw [List.map_cons]; exact List.mem_cons_self ..) (of_decide_eq_true e)
    show mergeT (putK kvs p.1 p.2) more = _
    rw [putK_new _ hn, mergeT_fresh (by rw [List.append_assoc]; exact h), List.append_assoc] <;> rfl
section
variable {X : Cx}
def rUpdT : V → List V → Hp → VK → Prop := fun x xs Hm Q => ∃ (a b : Addr) (kvs more : KL), x = .ref a ∧ xs = [.ref b] ∧ a ≠ b ∧ Hm a = some (.dT kvs) ∧ Hm b = some (.dT more) ∧ kvs ≠ [] ∧ ((kvs ++ more).map (·.1)).Nodup ∧ kvs.length + more.length ≤ sizeLine ∧ Q .non (upd Hm a (.dT (kvs ++ more)))
theorem mt_updT (hu : X.A.units + 1 < cLine) : MtR X "dict.update" rUpdT := by
  rintro pins s σ Hm x xs v us Q I rx rxs ⟨a, b, kvs, more, rfl, rfl, hab, ha, hb, hne, hnd, hsz, q⟩
  cases rx
  cases rxs with
  | cons r t =>
    cases t
    cases r
    obtain ⟨z, hd, xs1, rel, dd⟩ := dt_of I.hok ha
    obtain ⟨z2, hd2, xs2, rel2, dd2⟩ := dt_of I.hok hb
    have l1 := Paired.length rel
    have l2 := Paired.length rel2
    refine call_update_dictH (knd := tupleKind (mixKind X.prog X.w)) (tupleKind_room_in1 hu) hab hd2 dd dd2 (.inl fun e => hne (List.length_eq_zero_iff.mp (by rw [l1, e] <;> rfl))) (by omega) fun h' dd' _ hs => ?_
    have rm := KT.all rel2 rel
    rw [mergeT_fresh hnd] at rm
    obtain ⟨o, es, ep, hq, h2, h3, h4, _, h5⟩ := dd'
    have I2 : Inv X pins σ (upd Hm a (.dT (kvs ++ more))) { s with heap := h' } :=
      d_write I (by rw [ha]; exact True.intro) hs ⟨o, hq⟩ ⟨by rw [List.length_append]; exact hsz, hd, _, rm.keeps (fun c ys ec => (by rw [upd_ne (ne_of ec ha (fun z => nomatch z))]; exact ec)), o, es, ep, hq, h2, h3, h4, h5⟩
    exact ⟨.non, _, I2, rfl, q⟩
/-- {k: v}, k a tuple -/
theorem pe_dispT {kx vx : Expr} {tk tv : TE} {pos : Pos} (hu : X.A.units + 1 < cLine) (hk : PE X kx tk) (hv : PE X vx tv) :
    PE X (.Dict [some kx] [vx] pos) (fun σ Hm Q => ∀ p, Hm p = none → tk σ (upd Hm p (.dT [])) fun x H1 => tv σ H1 fun y H2 => H2 p = some (.dT []) ∧ ∃ (k : List Key) (b : Addr), x = .ref b ∧ H2 b = some (.tup (k.map kV)) ∧ Q (.ref p) (upd H2 p (.dT [(k, y)]))) := by
  refine ⟨fun pins s σ Hm Q I q => ?_⟩
  have hn := I.hok.fresh (Nat.le_refl s.heap.objs.size)
  have I1 := I.laid (a := s.heap.objs.size) (o := .dT []) (h' := s.heap.push { cls := .type "dict", data := .dict #[] }) (t' := s.toks) (fun _ _ q => Heap.get?_push_of_some _ q) (Nat.le_refl _) (dt_empty s.heap I.big)
  rw [arm_eval_Dict, zip_pairTrees [some kx] [vx] X.env pos rfl rfl, dictDisplay_pairs (pairTrees [some kx] [vx] X.env pos) (fun e => by cases e) (show 1 < 17 by decide)]
  refine wpAny_bind (wpAny_standAt (wpAny_bind (wpAny_subDictH (knd := tupleKind (mixKind X.prog X.w)) (Q := fun d s' => wpAny (model X.prog X.w) X.A (pure (Value.ref d)) (EP X pins σ Q) X.xe s') (show X.A.units < cLine by omega) (show 1 ≤ 15 by decide) ?_)))
  refine pairTrees_cons_walk (thn (hk.run pins _ σ _ _ I1 (q _ hn)) fun u s1 ⟨x, H1, I2, rx, q1⟩ => thn (hv.run pins s1 σ H1 _ I2 q1) fun w2 s2 ⟨y, H2, I3, ry, e0, k, b, ex, hb, q2⟩ => pairTrees_nil_walk ?_)
  subst ex
  cases rx
  obtain ⟨z, hd, xs0, r0, dd⟩ := dt_of I3.hok e0
  cases r0
  refine ⟨[(k, b, w2)], ⟨rfl, rfl, key_of I3.hok hb, trivial⟩, dd, fun h' tk dd' hs => wpAny_pure ?_⟩
  obtain ⟨o, es, ep, hq, h2, h3, h4, _, h5⟩ := dd'
  have I4 : Inv X pins σ (upd H2 s.heap.objs.size (.dT [(k, y)])) { s2 with heap := h', toks := tk } :=
    d_write I3 (by rw [e0]; exact True.intro) hs ⟨o, hq⟩ ⟨by show 1 ≤ sizeLine; decide, hd, [(k, b, w2)], .cons ⟨rfl, by show upd H2 _ _ b = _; rw [upd_ne (ne_of hb e0 (fun z => nomatch z))]; exact hb, ry⟩ .nil, o, es, ep, hq, h2, h3, h4, h5⟩
  exact ⟨.ref s.heap.objs.size, _, I4, rfl, q2⟩
end
/-! items -/
/-- the pairs of the locked dict at d, each a new tuple -/
def ItT (d : Addr) (o : Obj) (kvs : KL) : It :=
  ⟨fun i Hm => Hm d = some (.frz o (.dT kvs)) ∧ i < kvs.length, fun i Hm x Hn => ∃ (c : Addr) (k : List Key) (v : V) (q : Addr), kvs[i]? = some (k, v) ∧ x = .ref c ∧ Hm q = some (.tup (k.map kV)) ∧ Hm c = none ∧ Hn = upd Hm c (.tup [.ref q, v]), fun i Hm => Hm d = some (.frz o (.dT kvs)) ∧ kvs.length ≤ i⟩
theorem frz_T {X : Cx} {pins : List (Addr × Obj)} {σ : L2.St} {Hm : Hp} {s : Shared} {d : Addr} {o : Obj} {kvs : KL} (I : Inv X pins σ Hm s) (h : Hm d = some (.frz o (.dT kvs))) :
    (d == sysModules) = false ∧ s.heap.get? d = some o ∧ o.ExactDict ∧ ∃ (es : Array DictEntry) (ep : Nat), o.data = .dict es ep ∧ es.size = kvs.length ∧
      ∀ (i : Nat) (k : List Key) (v : V), kvs[i]? = some (k, v) → ∃ (en : DictEntry) (q : Addr), es[i]? = some en ∧ en.key = .ref q ∧ Hm q = some (.tup (k.map kV)) ∧ RelV v en.val := by
  obtain ⟨hg, z, hs, xs, pr, o2, es, ep, ho, hx, hdt, he, _⟩ := I.hok d _ h
  rw [hg] at ho
  cases ho
  refine ⟨hs, hg, hx, es, ep, hdt, ?_, fun i k v e => ?_⟩
  · have l1 : es.size = xs.length := size_of_entries he
    have l2 := Paired.length pr
    omega
  · obtain ⟨b, hb, e1, e2, e3⟩ := paired_get pr e
    have q := entry_at he i
    rw [hb] at q
    exact ⟨_, b.2.1, q, rfl, e2, e3⟩
section
variable {P : Program} {w : World} {K : PySem.W.Frag} {d : Addr} {o : Obj} {es : Array DictEntry} {ep : Nat}
theorem turn_T {kvs : KL} {elts : List Expr} {kk : Nat} {tpos : Pos} (it : Addr) (hod : o.data = .dict es ep) :
    Turn P w K (.Tuple elts kk tpos) (ItT d o kvs) [it] it (fun i h => ∃ ok ov, IsItemIter h it d i kvs.length ep ok ov) where
  mem := List.mem_singleton.mpr rfl
  obj := fun i h st b hb => by
    cases List.mem_singleton.mp hb
    obtain ⟨ok, ov, e⟩ := st
    exact ⟨_, e, fun v z => nomatch z⟩
  keep := fun i h h' st k => by
    obtain ⟨ok, ov, e⟩ := st
    exact ⟨ok, ov, k it (List.mem_singleton.mpr rfl) _ e⟩
  item := by
    intro X hP hw hK hc i pins s σ Hm E I hf st hg
    subst hP hw hK
    obtain ⟨hfz, hi⟩ := hg
    obtain ⟨hs, hgd, hx, es2, ep2, hdt, hsz, ent⟩ := frz_T I hfz
    obtain ⟨rfl, rfl⟩ := dict_ep hod hdt
    obtain ⟨⟨k, v⟩, hkv⟩ : ∃ p, kvs[i]? = some p := ⟨kvs[i], List.getElem?_eq_getElem hi⟩
    obtain ⟨en, q, hen, hkey, hq, hval⟩ := ent i k v hkv
    obtain ⟨ok, ov, he⟩ := st
    have hlt : it < s.heap.objs.size := Heap.lt_size he
    obtain ⟨hies, hen2⟩ := Array.getElem?_eq_some_iff.mp hen
    rw [← hsz] at he
    refine wpAny_pyNext_items_item_raw he ⟨o, hgd, hx, hdt⟩ hies fun h1 ho hT hz hk => ?_
    rw [hen2, hkey] at ho hT
    refine ⟨_, rfl, wpAny_letOwnedTupleGo_items (s := { s with heap := h1 }) ho fun h2 he2 sb => ?_⟩
    have hT2 : h2.get? s.heap.objs.size = some { cls := .type "tuple", data := .seq #[.ref q, en.val] } := (sb.2 _ (Nat.ne_of_gt hlt)).trans hT
    have new : ObjOk X.prog X.w (upd Hm s.heap.objs.size (.tup [.ref q, v])) h2 s.heap.objs.size (.tup [.ref q, v]) :=
      ⟨by show 2 ≤ sizeLine; decide, [.ref q, en.val], .cons rfl (.cons hval .nil), ⟨_, hT2, rfl, _, rfl⟩⟩
    have I1 : Inv X pins σ (upd Hm s.heap.objs.size (.tup [.ref q, v])) { s with heap := h2 } :=
      I.turnedNew (t' := s.toks) (ch := [it]) (fun b ob hb e => (sb.2 b (fun z => hb (by rw [z]; exact List.mem_singleton.mpr rfl))).trans (hk b ob (fun z => hb (by rw [z]; exact List.mem_singleton.mpr rfl)) e)) hf (Nat.le_refl _) new
    refine ⟨.ref s.heap.objs.size, _, I1, rfl, ⟨_, k, v, q, hkv, rfl, hq, I.hok.fresh (Nat.le_refl _), rfl⟩, ⟨.ref q, en.val, ?_⟩, fun b hb => ?_⟩
    · rw [hsz] at he2; exact he2
    · cases List.mem_singleton.mp hb
      rw [upd_ne (Nat.ne_of_lt hlt)]
      exact (hf it (List.mem_singleton.mpr rfl)).1
  done := by
    intro X hP hw hK hc i pins s σ Hm E I hf st hg
    subst hP hw hK
    obtain ⟨hfz, hi⟩ := hg
    obtain ⟨f0, f1, f2, f3, f4, f5⟩ := hf it (List.mem_singleton.mpr rfl)
    obtain ⟨hs, hgd, hx, es2, ep2, hdt, hsz, ent⟩ := frz_T I hfz
    obtain ⟨rfl, rfl⟩ := dict_ep hod hdt
    obtain ⟨ok, ov, he⟩ := st
    rw [← hsz] at he
    exact wpAny_pyNext_items_end_raw (I.ok.hd hc) he ⟨o, hgd, hx, hdt⟩ (by omega) fun h2 eb => ⟨rfl, I.turned (t' := s.toks) (fun b ob hb e => eb b ob hb e) f0 f1 f3 f4 f5⟩
  self := fun A i s Q E st h => by
    obtain ⟨_, _, e⟩ := st
    exact PySem.W.kcp_self e h
end
/-- d.items(), d locked -/
theorem pi_T {X : Cx} {elts : List Expr} {kk : Nat} {tpos apos cpos : Pos} {e : Expr} {td : TE} (he : PE X e td) (hbase : attributeBase e "items" X.env (eval e X.env) = eval e X.env := by rfl) (hline : (apos.endLine == cpos.line) = true := by rfl) :
    PI X (.Tuple elts kk tpos) (.Call (.Attribute e "items" apos) [] [] cpos) (fun σ Hm R => td σ Hm fun x H1 => ∃ (d : Addr) (kvs : KL), x = .ref d ∧ ((∃ o, H1 d = some (.frz o (.dT kvs)) ∧ R (ItT d o kvs) H1) ∨ (H1 d = some (.dT kvs) ∧ ∀ o, R (ItT d o kvs) (upd H1 d (.frz o (.dT kvs)))))) := by
  refine ⟨fun pins s σ Hm R I h => ?_⟩
  refine wpAny_Call_method (T := "dict") (id := "dict.items") hbase rfl hline F.plainAttrs_dict F.slot_dict_items F.type_dict_items (thn (he.run pins s σ Hm _ I h) fun u s1 ⟨x, H1, I0, rx, d, kvs, ex, q0⟩ => ?_)
  subst ex
  obtain rfl : u = Value.ref d := rx
  obtain ⟨H2, o, I1, hd, q⟩ : ∃ H2 o, Inv X pins σ H2 s1 ∧ H2 d = some (.frz o (.dT kvs)) ∧ R (ItT d o kvs) H2 := by
    rcases q0 with ⟨o, hd, q⟩ | ⟨hd, q⟩
    · exact ⟨H1, o, I0, hd, q⟩
    · obtain ⟨o, I1⟩ := I0.lock hd True.intro
      exact ⟨_, o, I1, upd_same, q o⟩
  obtain ⟨hs, hgd, hx, es, ep, hdt, hsz, ent⟩ := frz_T I1 hd
  have raw : s1.heap.DictRaw d es ep := ⟨o, hgd, hx, hdt⟩
  refine ⟨raw.typeIs, ?_, ?_⟩
  · intro b hb
    cases hb
    exact ⟨o, hgd, hx.2.1⟩
  have I2 : Inv X pins σ H2 { s1 with heap := s1.heap.push { cls := .type "dict_items", data := .fields #[.ref d] } } := I1.kept (t' := s1.toks) fun b ob q => Heap.get?_push_of_some _ q
  have fin : wpAny (model X.prog X.w) X.A (pyIter (.ref s1.heap.objs.size)) (PIE X pins σ (.Tuple elts kk tpos) R) X.xe { s1 with heap := s1.heap.push { cls := .type "dict_items", data := .fields #[.ref d] } } := by
    refine wpAny_pyIter_items_raw (d := d) (es := es) (ep := ep) ⟨_, Heap.get?_push_size _ rfl, rfl, rfl⟩ (raw.at fun _ e => Heap.get?_push_of_some _ e) (pi_one (tk := s1.toks) I2 _ (turn_T _ hdt) ⟨.none, .none, ?_⟩ q)
    rw [← hsz]
    exact Heap.get?_push_size _ rfl
  show wpAny _ _ (callWith cpos (.builtin "dict.items") [.ref d] [] []) _ X.xe s1
  exact method_meetsIn F.slot_dict_items F.entry_dict_items rfl (PySem.evalArgs_none ⟨rfl, raw.typeIs, F.args_dict_items_1 _, _, meets_dict_items_raw d hs, ⟨⟨es, ep, raw⟩, fin⟩⟩)
/-- what a reading locked is given free at the end -/
theorem pe_free {X : Cx} {e : Expr} {t : TE} (h : PE X e t) : PE X e (fun σ Hm Q => t σ Hm fun v Hn => Q v Hn ∨ ∃ d o u, Hn d = some (.frz o u) ∧ (∀ o' u', Hm d ≠ some (.frz o' u')) ∧ Q v (upd Hn d u)) := by
  refine ⟨fun pins s σ Hm Q I hw => ?_⟩
  refine thn (h.run pins s σ _ _ I hw) fun v s1 ⟨x, H1, I2, r, q⟩ => ?_
  rcases q with q | ⟨d, o, u, e, n, q⟩
  · exact ⟨x, _, I2, r, q⟩
  · refine ⟨x, _, I2.unlock e (fun o' u' z => ?_), r, q⟩
    exact n _ _ (I.base.frzs d o' u' z)
end Mp
set_option Elab.async false
set_option linter.all false
set_option maxRecDepth 100000
set_option maxHeartbeats 4000000
/-! Mp: dict comprehensions whose keys are tuples. -/
namespace Mp
open PySem PySem.Spec PyProof.Rows L2
section
variable {X : Cx}
theorem d_dictSetT {pins : List (Addr × Obj)} {σ : L2.St} {Hm : Hp} {s : Shared} {E : Value → Shared → Prop} {D b : Addr} {kvs : KL} {k : List Key} {v : V} {u r : Value} {Q : Unit → Shared → Prop} (hu : X.A.units + 1 < cLine) (I : Inv X pins σ Hm s) (hb : Hm b = some (.tup (k.map kV))) (hD : Hm D = some (.dT kvs)) (hz : kvs.length < sizeLine)
    (ry : RelV (.ref b) u) (rv : RelV v r) (h : ∀ s', Inv X pins σ (upd Hm D (.dT (putK kvs k v))) s' → Q () s') : wpAny (model X.prog X.w) X.A (dictSet D u r) Q E s := by
  cases ry
  obtain ⟨z, hd, xs, rel, dd⟩ := dt_of I.hok hD
  have l1 := Paired.length rel
  have l2 := length_putK kvs k v
  refine wpAny_dictSet_heap (knd := tupleKind (mixKind X.prog X.w)) (hsz := by omega) (show X.A.units < cLine by omega) (key_of I.hok hb) dd fun h' dd' hs => h _ ?_
  obtain ⟨o, es, ep, hq, h2, h3, h4, _, h5⟩ := dd'
  have I1 : Inv X pins σ (upd Hm D (.dT (putK kvs k v))) { s with heap := h' } := d_write I (by rw [hD]; exact True.intro) hs ⟨o, hq⟩ ⟨by omega, hd, _, (rel.put k hb rv).keeps (fun c ys ec => (by rw [upd_ne (ne_of ec hD (fun z => nomatch z))]; exact ec)), o, es, ep, hq, h2, h3, h4, h5⟩
  exact I1.tok _
def tDcT (wi : TI) (g : TG) (tt : TT) (tk tv : TE) (vs : List Nat) : TE := fun σ H Q => wi σ H fun J K_1 => ∀ D, K_1 D = none → ∃ W : Nat → Nat → Hp → Prop, (∃ m, W 0 m (upd K_1 D (.dT []))) ∧ ∀ i m H, W i m H →
  (J.stop i H ∧ Q (.ref D) H) ∨ (J.go i H ∧ ∃ Nx : Hp → Prop, (∀ H', Nx H' → ∃ m', m' < m ∧ W (i + 1) m' H') ∧ ∀ x H', J.yld i H x H' → g x (wipe σ vs) H' fun σ2 K_2 => wipe σ2 vs = wipe σ vs ∧ tt σ2 K_2 fun b K_3 =>
    if b = true then tk σ2 K_3 fun y K_4 => tv σ2 K_4 fun z K_5 => ∃ (kvs : KL) (k : List Key) (b : Addr), y = .ref b ∧ K_5 b = some (.tup (k.map kV)) ∧ K_5 D = some (.dT kvs) ∧ kvs.length < sizeLine ∧ Nx (upd K_5 D (.dT (putK kvs k z))) else Nx K_3)
theorem dcT_core {pins : List (Addr × Obj)} {s : Shared} {σ : L2.St} {H : Hp} {Q : VK} {kx vx tg iter : Expr} {ifs : List Expr} {scope : Scope} {own : List (Str × Nat)} {pos pos' : Pos} {wi : TI} {g : TG} {tt : TT} {tk tv : TE} {use : Option (Value → Sem Unit)} {Qf : Value → Shared → Prop}
    (hu : X.A.units + 1 < cLine) (hc : X.calm = true) (hN : X.N.Nodup) (I : Inv X pins σ H s) (hit_ : PI X tg iter wi) (okb : BlkOk X.N X.env.scope scope own)
    (hgt : ∀ (s : Shared) (H : Hp) (C : Addr) (cl : List (Str × Addr)) (fp : List Addr), PG (X.blk s H scope (compEnvC scope cl C X.env) fp) tg g) (htt : ∀ (s : Shared) (H : Hp) (C : Addr) (cl : List (Str × Addr)) (fp : List Addr), PTs (X.blk s H scope (compEnvC scope cl C X.env) fp) ifs tt)
    (hkk : ∀ (s : Shared) (H : Hp) (C : Addr) (cl : List (Str × Addr)) (fp : List Addr), PE (X.blk s H scope (compEnvC scope cl C X.env) fp) kx tk)
    (hee : ∀ (s : Shared) (H : Hp) (C : Addr) (cl : List (Str × Addr)) (fp : List Addr), PE (X.blk s H scope (compEnvC scope cl C X.env) fp) vx tv) (hss : ∀ x, foldedSetIterable iter X.env x = pure x)
    (h : tDcT wi g tt tk tv (own.map (·.2)) σ H Q)
    (hEnd : ∀ D C s' m H', Inv X pins σ H' s' → Q (.ref D) H' → s'.heap.Ns C m → FpOk X pins H' C → compPost (model X.prog X.w) X.A X.xe use Qf (.ref D) C (.ok .next) s') :
    wpAny (model X.prog X.w) X.A (comprehension (.DictComp kx vx [⟨tg, iter, ifs, 0⟩] scope pos) scope X.env pos' newDict false (eval iter X.env) use) Qf X.xe s := by
  have hfree : ∀ y ∈ scope.names, y.2 = .free → ∃ c, X.env.cells.lookup y.1 = some c := fun y hy e => by
    rcases okb.free y hy e with k | k
    · exact I.ok.has _ (.inl k)
    · exact I.ok.has _ (.inr k)
  refine wpAny_comprehension_free (use := use) rfl hss (closure_ok hfree) okb.kind (fun y hy e => by rw [okb.uniq y hy, e])
    (thn (hit_.run pins s σ H _ I h) fun xv q_1 hx => thn hx fun itv q_2 h2 => ?_)
  obtain ⟨it, fp, tn, J, K_2, e, J_2, T, st2, f2, q⟩ := h2
  subst e
  refine wpAny_newObj_type (newEnv_comp ?_)
  generalize hD : q_2.heap.objs.size = D
  have hDn : K_2 D = none := J_2.hok.fresh (Nat.le_of_eq hD)
  obtain ⟨W, ⟨m0, w0⟩, turn⟩ := q D hDn
  generalize hs3 : ({ q_2 with heap := q_2.heap.push { cls := .type "dict", data := .dict #[] } } : Shared) = q_3
  have J_3 : Inv X pins σ (upd K_2 D (.dT [])) q_3 := by
    rw [← hs3]
    refine J_2.laid (t' := q_2.toks) (fun b o e => Heap.get?_push_of_some _ e) (Nat.le_of_eq hD) ?_
    rw [← hD]
    exact dt_empty q_2.heap J_2.big
  have h3 : q_3.heap = q_2.heap.push { cls := .type "dict", data := .dict #[] } := by rw [← hs3]
  have sz : ∀ b ∈ fp, b < q_2.heap.objs.size := fun b hb => by
    obtain ⟨o, e, _⟩ := T.obj _ _ st2 b hb
    exact Heap.lt_size e
  have f3 : ∀ b ∈ fp, FpOk X pins (upd K_2 D (.dT [])) b ∧ b < q_3.heap.objs.size := fun b hb => by
    have hlt := sz b hb
    refine ⟨⟨?_, (f2 b hb).2⟩, by rw [h3, Heap.size_push]; exact Nat.lt_succ_of_lt hlt⟩
    rw [upd_ne (by rw [← hD]; exact Nat.ne_of_lt hlt)]
    exact (f2 b hb).1
  have st3 : tn 0 q_3.heap := T.keep _ _ _ st2 fun b _ o e => by rw [h3]; exact Heap.get?_push_of_some _ e
  have J_4 := block_start J_3 okb hN f3
  have pg := hgt q_3 (upd K_2 D (.dT [])) q_3.heap.objs.size (cellsFrom (q_3.heap.objs.size + 1) scope.names (cloFrom X.env.cells scope.names [])) fp
  have pt := htt q_3 (upd K_2 D (.dT [])) q_3.heap.objs.size (cellsFrom (q_3.heap.objs.size + 1) scope.names (cloFrom X.env.cells scope.names [])) fp
  have pk := hkk q_3 (upd K_2 D (.dT [])) q_3.heap.objs.size (cellsFrom (q_3.heap.objs.size + 1) scope.names (cloFrom X.env.cells scope.names [])) fp
  have pe := hee q_3 (upd K_2 D (.dT [])) q_3.heap.objs.size (cellsFrom (q_3.heap.objs.size + 1) scope.names (cloFrom X.env.cells scope.names [])) fp
  show codeAny _ _ (.compStart (.DictComp kx vx [⟨tg, iter, ifs, 0⟩] scope pos) 0 (.ref it) (.ref D) (compEnvC scope (cellsFrom (q_3.heap.objs.size + 1) scope.names (cloFrom X.env.cells scope.names [])) q_3.heap.objs.size X.env)) (compPost (model X.prog X.w) X.A X.xe use Qf (.ref D) q_3.heap.objs.size) { q_3 with heap := pushCells (q_3.heap.push { cls := .type "dict", data := .dict #[] }) scope.names }
  have nfp : ∀ b ∈ fp, (upd K_2 D (.dT [])) b = none := fun b hb => (f3 b hb).1.1
  generalize hce : compEnvC scope (cellsFrom (q_3.heap.objs.size + 1) scope.names (cloFrom X.env.cells scope.names [])) q_3.heap.objs.size X.env = ce at J_4 pg pt pk pe ⊢
  have cL : ce.locals = q_3.heap.objs.size := by subst hce; rfl
  generalize hH3 : upd K_2 D (.dT []) = K_3 at J_3 J_4 pg pt pk pe w0 nfp f3
  generalize hs4 : ({ q_3 with heap := pushCells (q_3.heap.push { cls := .type "dict", data := .dict #[] }) scope.names } : Shared) = q_4 at J_4 ⊢
  have st4 : tn 0 q_4.heap := T.keep _ _ _ st3 fun b _ o e => by rw [← hs4]; exact pushCells_keeps _ _ _ _ (Heap.get?_push_of_some _ e)
  have stat : ∀ {σ' : L2.St} {H' : Hp} {s' : Shared}, Inv (X.blk q_3 K_3 scope ce fp) [] σ' H' s' → (∀ b ∈ fp, H' b = none) → ∀ b ∈ fp, FpOk (X.blk q_3 K_3 scope ce fp) [] H' b := fun {σ' H' s'} I' hn b hb =>
    ⟨hn b hb, (I'.ok.exf b hb).1, I'.ok.exfs b hb, .inl hb, fun x c e => (I'.ok.exf b hb).2 x c e, fun p hp => absurd (show p ∈ ([] : List (Addr × Obj)) ++ [] from hp) (by simp)⟩
  have loop : codeAny (model X.prog X.w) X.A (.compLoop (.DictComp kx vx [⟨tg, iter, ifs, 0⟩] scope pos) 0 (.ref it) (.ref D) ce) (compPost (model X.prog X.w) X.A X.xe use Qf (.ref D) q_3.heap.objs.size) q_4 := by
    refine compLoop_anyD (fun n s' => ∃ i H', Inv (X.blk q_3 K_3 scope ce fp) [] (wipe σ (own.map (·.2))) H' s' ∧ tn i s'.heap ∧ (∀ b ∈ fp, H' b = none) ∧ W i n H') ?_ m0 ⟨0, K_3, J_4, st4, nfp, w0⟩
    rintro n q_5 ⟨i, K_5, J_5, st5, n5, w5⟩
    rcases turn i n K_5 w5 with ⟨stop, qq⟩ | ⟨go, Nx, hNx, step⟩
    · have td := T.done (X.blk q_3 K_3 scope ce fp) rfl rfl rfl hc i [] q_5 _ K_5 (fun _ _ => False) J_5 (stat J_5 n5) st5 stop
      refine thnF td fun r q_6 ⟨hr, J_6⟩ => ?_
      subst hr
      have J_7 : Inv X pins σ K_5 q_6 := J_3.call' (ch := fp) J_6.os J_6.base J_6.hok J_6.bare fun b hb => ⟨(f3 b hb).1.2.2.2.1, (f3 b hb).1.2.1, (f3 b hb).1.2.2.2.2.1, (f3 b hb).1.2.2.2.2.2⟩
      have nC : K_5 q_3.heap.objs.size = none := by
        have z : K_5 ce.locals = none := J_6.free
        rw [cL] at z
        exact z
      obtain ⟨m, hn, _⟩ := J_6.loc
      have hn : q_6.heap.Ns ce.locals m := hn
      rw [cL] at hn
      exact hEnd D q_3.heap.objs.size q_6 m K_5 J_7 qq hn (J_3.fpOk (Nat.le_refl _) nC)
    · have ti := T.item (X.blk q_3 K_3 scope ce fp) rfl rfl rfl hc i [] q_5 _ K_5 (fun _ _ => False) J_5 (stat J_5 n5) st5 go
      refine thnF ti fun r q_6 ⟨u, hr, h6⟩ => ?_
      subst hr
      refine thnF h6 fun _ q_7 ⟨x, K_7, J_7, r7, y7, st7, n7⟩ => ?_
      have J_7' := J_7.pinned (stat J_7 n7) (T.obj _ _ st7)
      refine thnF (pg.run _ q_7 _ K_7 x u _ J_7' r7 (step x K_7 y7)) fun _ q_8 ⟨σ8, K_8, J_8, hw8, q8⟩ => ?_
      refine thnF (pt.run _ q_8 σ8 K_8 _ J_8 q8) fun b q_9 ⟨K_9, J_9, q9⟩ => ?_
      have fin : ∀ {s' : Shared} {H' : Hp}, Inv (X.blk q_3 K_3 scope ce fp) ([] ++ pinsAt fp q_7.heap) σ8 H' s' → Nx H' → ∃ m, m < n ∧ ∃ i H', Inv (X.blk q_3 K_3 scope ce fp) [] (wipe σ (own.map (·.2))) H' s' ∧ tn i s'.heap ∧ (∀ b ∈ fp, H' b = none) ∧ W i m H' := fun {s' H'} I' nx => by
        obtain ⟨m', hm, w'⟩ := hNx H' nx
        have pin' : ∀ b ∈ fp, ∀ o, q_7.heap.get? b = some o → s'.heap.get? b = some o ∧ H' b = none := fun b hb o e =>
          let z := I'.pin (b, o) (List.mem_append_right _ (List.mem_append_right _ (mem_pinsAt hb e)))
          ⟨z.1, z.2.1⟩
        have hl : (wipe σ (own.map (·.2))).length = σ8.length := by rw [← hw8, wipe_length]
        refine ⟨m', hm, i + 1, H', (I'.unpinned (pins := [])).weak hl (fun j v e => ?_), T.keep _ _ _ st7 fun b hb o e => (pin' b hb o e).1, fun b hb => ?_, w'⟩
        · rw [← hw8] at e
          exact (wipe_some e).1
        · obtain ⟨o, e, _⟩ := T.obj _ _ st7 b hb
          exact (pin' b hb o e).2
      cases b with
      | false =>
        simp only [Bool.false_eq_true, if_false] at q9 ⊢
        exact fin J_9 q9
      | true =>
        simp only [if_true] at q9 ⊢
        refine thnF (pk.run _ q_9 σ8 K_9 _ J_9 q9) fun z q_10 ⟨yk, K_10, J_10, r10, q10⟩ => ?_
        refine thnF (pe.run _ q_10 σ8 K_10 _ J_10 q10) fun z2 q_11 ⟨yv, K_11, J_11, r11, kvs, k, bk, ek, hbk, hD11, hz11, nx⟩ => ?_
        subst ek
        exact d_dictSetT (X := X.blk q_3 K_3 scope ce fp) hu J_11 hbk hD11 hz11 r10 r11 fun q_12 J_12 => fin J_12 nx
  exact codeAny_compStart_dict loop (T.self X.A 0 _ _ _ st4 loop)
theorem pe_dcT {kx vx tg iter : Expr} {ifs : List Expr} {scope : Scope} {own : List (Str × Nat)} {pos : Pos} {wi : TI} {g : TG} {tt : TT} {tk tv : TE} (hu : X.A.units + 1 < cLine) (hc : X.calm = true) (hN : X.N.Nodup) (hit_ : PI X tg iter wi) (okb : BlkOk X.N X.env.scope scope own)
    (hgt : ∀ (s : Shared) (H : Hp) (C : Addr) (cl : List (Str × Addr)) (fp : List Addr), PG (X.blk s H scope (compEnvC scope cl C X.env) fp) tg g) (htt : ∀ (s : Shared) (H : Hp) (C : Addr) (cl : List (Str × Addr)) (fp : List Addr), PTs (X.blk s H scope (compEnvC scope cl C X.env) fp) ifs tt)
    (hkk : ∀ (s : Shared) (H : Hp) (C : Addr) (cl : List (Str × Addr)) (fp : List Addr), PE (X.blk s H scope (compEnvC scope cl C X.env) fp) kx tk)
    (hee : ∀ (s : Shared) (H : Hp) (C : Addr) (cl : List (Str × Addr)) (fp : List Addr), PE (X.blk s H scope (compEnvC scope cl C X.env) fp) vx tv) (hss : ∀ x, foldedSetIterable iter X.env x = pure x := by intro _; rfl) :
    PE X (.DictComp kx vx [⟨tg, iter, ifs, 0⟩] scope pos) (tDcT wi g tt tk tv (own.map (·.2))) := by
  refine ⟨fun pins s σ H Q I h => ?_⟩
  rw [arm_eval_DictComp]
  refine dcT_core hu hc hN I hit_ okb hgt htt hkk hee hss h fun D C s' m H' I' q hn f => ⟨m, hn, fun h'' sb => ?_⟩
  obtain ⟨f0, f1, f2, f3, f4, f5⟩ := f
  exact ⟨.ref D, H', I'.turned (t' := s'.toks) (fun b o hb e => (sb.2 b hb).trans e) f0 f1 f3 f4 f5, rfl, q⟩
end
end Mp
set_option Elab.async false
set_option linter.all false
set_option maxRecDepth 100000
set_option maxHeartbeats 4000000
/-! Mp: found = {(): n}; for ..: found.update({(..): .. for part, total in found.items()}); return found. -/
namespace Mp
open PySem PySem.Spec PyProof.Rows L2
abbrev PK := List (List Int × Int)
def kvW (p : List Int × Int) : W := .tup [.tup (p.1.map .int), .int p.2]
def kvV (p : List Int × Int) : List Key × V := (p.1.map Sum.inl, .int p.2)
def newsL (g2 : MG) (own : List Nat) (ga : MA) (fv : ME) (η : Env) : PK → Option PK
  | [] => some []
  | p :: r => match g2 (kvW p) (wipeE η own) [] with
    | some (η2, []) => (match ga η2 [] with
      | .ok ws [] => (match intsOf ws, fv η2 [] with
        | some k, .ok (.int t) [] => if ws.length ≤ bigLine then (newsL g2 own ga fv η r).map ((k, t) :: ·) else none
        | _, _ => none)
      | _ => none)
    | _ => none
def sumsL (g g2 : MG) (own : List Nat) (ga : MA) (fv : ME) : List W → Env → PK → Option PK
  | [], _, acc => some acc
  | x :: r, η, acc => match g x η [] with
    | some (η1, []) => (match newsL g2 own ga fv η1 acc with
      | some more => if ((acc ++ more).map (·.1)).Nodup ∧ (acc ++ more).length ≤ 8000000 then sumsL g g2 own ga fv r η1 (acc ++ more) else none
      | none => none)
    | _ => none
def pkD (acc : PK) : W := .dct (.bl true :: acc.map fun p => .tup (p.1.map .int)) (acc.map fun p => .int p.2)
def mSums (jf : Nat) (n0 : Int) (it : MI) (g g2 : MG) (own : List Nat) (ga : MA) (fv : ME) : MS := fun η S => match S with
  | [] => (match η[jf]? with
    | some none => (match it η [] with
      | .ok xs [] => (match sumsL g g2 own ga fv xs η [([], n0)] with
        | some acc => .ret (pkD acc) []
        | none => .stuck)
      | _ => .stuck)
    | _ => .stuck)
  | _ :: _ => .stuck
section
variable {K : PySem.W.Frag} {G : Gs} {γ γ' : Ga} {H H' : Hp} {d D : Addr} {o : HO}
theorem EnvOk.busy {η : Env} {σ : L2.St} (he : EnvOk K G γ H η σ) (h : D ∈ γ.β) (n : D ∉ γ.ρ) : EnvOk K G γ (L2.upd H D o) η σ := ⟨he.1, fun i w q => by
  obtain ⟨v, e, r⟩ := he.2 i w q
  exact ⟨v, e, Rep.busy h n r⟩⟩
/-- one more thing is being built -/
def Ga.put (γ : Ga) (D : Addr) : Ga := ⟨γ.ρ, D :: γ.β⟩
theorem Ext.put {o : HO} (hD : H D = none) : Ext γ H (γ.put D) (L2.upd H D o) :=
  ⟨List.prefix_refl _, fun b hb => List.mem_cons_of_mem _ hb, fun b hb => (List.mem_cons.mp hb).elim (fun z => .inr (by rw [z]; exact hD)) .inl, fun b u e _ => by rw [upd_ne (ne_of_none e hD)]; exact e, fun _ h1 h2 => absurd h1 h2, fun b u e => ⟨u, by rw [upd_ne (ne_of_none e hD)]; exact e⟩⟩
theorem StoreOk.put0 {o : HO} (s : StoreOk K G γ H []) (hD : H D = none) (nt : ∀ xs, o ≠ .tup xs := by intro _ z; cases z) : StoreOk K G (γ.put D) (L2.upd H D o) [] := by
  have off := s.fresh hD
  refine ⟨s.len, s.nd, fun i c a hc _ => by simp at hc, fun a ha => ?_⟩
  rcases List.mem_cons.mp ha with z | z
  · rw [z]
    exact ⟨off.1, _, upd_same, nt⟩
  · obtain ⟨n, o1, q, t⟩ := s.bt a z
    exact ⟨n, o1, by rw [upd_ne (ne_of_none q hD)]; exact q, t⟩
/-- from an older base on, what is built is left out of sight -/
theorem Ext.over {γ0 : Ga} {H0 : Hp} (x : Ext γ0 H0 γ H) (h0 : H0 D = none) : Ext γ0 H0 γ (L2.upd H D o) :=
  ⟨x.pre, x.bsub, x.bnew, fun a u q n => by rw [upd_ne (ne_of_none q h0)]; exact x.keep a u q n, x.new, fun a u q => by
    obtain ⟨u', q'⟩ := x.dom a u q
    exact ⟨u', by rw [upd_ne (ne_of_none q h0)]; exact q'⟩⟩
theorem no_rho (s : StoreOk K G γ H []) : γ.ρ = [] := List.length_eq_zero_iff.mp s.len
theorem off_tup (s : StoreOk K G γ H []) {q : Addr} {xs : List V} (h : H q = some (.tup xs)) : γ.Off q := by
  refine ⟨by rw [no_rho s]; simp, fun z => ?_⟩
  obtain ⟨_, o1, e, t⟩ := s.bt q z
  rw [h] at e
  cases e
  exact t xs rfl
theorem reps_int : ∀ k : List Int, Reps K G γ H (k.map .int) ((k.map (Sum.inl : Int → Key)).map kV)
  | [] => .nil
  | i :: r => .cons (.int i) (reps_int r)
theorem ints_reps {ws : List W} {vs : List V} {k : List Int} (r : Reps K G γ H ws vs) (e : intsOf ws = some k) : vs = (k.map (Sum.inl : Int → Key)).map kV := by
  rw [intsOf_reps' r e, List.map_map] <;> rfl
theorem kvV_inj : ∀ {a b : List Int}, a.map (Sum.inl : Int → Key) = b.map Sum.inl → a = b
  | [], [], _ => rfl
  | [], _ :: _, h => by cases h
  | _ :: _, [], h => by cases h
  | x :: r, y :: t, h => by
    rw [List.map_cons, List.map_cons] at h
    injection h with h1 h2
    injection h1 with h3
    rw [h3, kvV_inj h2]
theorem nd_kv {l : PK} (h : (l.map (·.1)).Nodup) : ((l.map kvV).map (·.1)).Nodup := by
  rw [List.map_map]
  show (l.map fun p => p.1.map (Sum.inl : Int → Key)).Nodup
  have e : (l.map fun p => p.1.map (Sum.inl : Int → Key)) = (l.map (·.1)).map fun k => k.map (Sum.inl : Int → Key) := by rw [List.map_map] <;> rfl
  rw [e]
  exact List.Pairwise.map _ (fun a b hne e => hne (kvV_inj e)) h
theorem val_none {l : PK} {k : List Int} (h : k ∉ l.map (·.1)) : valV (l.map kvV) (k.map (Sum.inl : Int → Key)) = none := by
  cases z : valV (l.map kvV) (k.map (Sum.inl : Int → Key)) with
  | none => rfl
  | some v =>
    exfalso
    have a : ((l.map kvV).any fun kv => decide (kv.1 = k.map (Sum.inl : Int → Key))) = true := by rw [valV_any, z] <;> rfl
    rw [List.any_eq_true] at a
    obtain ⟨kv, m, e⟩ := a
    obtain ⟨p, mp, rfl⟩ := List.mem_map.mp m
    exact h (List.mem_map.mpr ⟨p, mp, kvV_inj (of_decide_eq_true e)⟩)
end
section
variable {X : Cx} {G : Gs} {vx : Expr} {elts : List Expr} {scope : Scope} {fv : ME} {g g2 : MG} {ga : MA} {it : MI} {is is2 : List Nat} {own : List (Str × Nat)}
/-- the comprehension's turns -/
theorem news_turns {K : PySem.W.Frag} {γ0 : Ga} {H0 : Hp} {od : Obj} {d : Addr} {acc more : PK} {η : Env} {σ : L2.St} {Q : VK} {vs : List Nat} (hd : H0 d = some (.frz od (.dT (acc.map kvV)))) (he : EnvOk K G γ0 H0 η σ) (hs : StoreOk K G γ0 H0 [])
    (his : ∀ i ∈ is2, i ∈ vs) (h : newsL g2 vs ga fv η acc = some more) (hnd : (more.map (·.1)).Nodup) (hsz : more.length ≤ 8000000)
    (hQ : ∀ D γ' H', H0 D = none → Ext γ0 H0 γ' H' → D ∈ γ'.β → H' D = some (.dT (more.map kvV)) → StoreOk K G γ' H' [] → Q (.ref D) H') :
    ∀ D, H0 D = none → ∃ Wv : Nat → Nat → Hp → Prop, (∃ m, Wv 0 m (L2.upd H0 D (.dT []))) ∧ ∀ i m H, Wv i m H →
      ((ItT d od (acc.map kvV)).stop i H ∧ Q (.ref D) H) ∨ ((ItT d od (acc.map kvV)).go i H ∧ ∃ Nx : Hp → Prop, (∀ H', Nx H' → ∃ m', m' < m ∧ Wv (i + 1) m' H') ∧ ∀ x H', (ItT d od (acc.map kvV)).yld i H x H' → tgOf K G is2 g2 x (wipe σ vs) H' fun σ2 H2 => wipe σ2 vs = wipe σ vs ∧ ttOf K G (fun _ _ _ _ => False) mtYes σ2 H2 fun b H3 =>
        if b = true then tTup (taOf K G (fun _ _ _ _ => False) ga) σ2 H3 fun y H4 => tOf K G (fun _ _ _ _ => False) fv σ2 H4 fun z H5 => ∃ (kvs : KL) (k : List Key) (b : Addr), y = .ref b ∧ H5 b = some (.tup (k.map kV)) ∧ H5 D = some (.dT kvs) ∧ kvs.length < sizeLine ∧ Nx (L2.upd H5 D (.dT (putK kvs k z))) else Nx H3) := by
  intro D hD
  refine ⟨fun i m H => m = acc.length - i ∧ i ≤ acc.length ∧ ∃ γ m1 rest, StoreOk K G γ H [] ∧ Ext γ0 H0 γ H ∧ D ∈ γ.β ∧ H D = some (.dT (m1.map kvV)) ∧ newsL g2 vs ga fv η (acc.drop i) = some rest ∧ more = m1 ++ rest, ⟨acc.length, rfl, Nat.zero_le _, γ0.put D, [], more, hs.put0 hD, Ext.put hD, List.mem_cons_self .., upd_same, h, rfl⟩, ?_⟩
  rintro i m H ⟨rfl, hi, γ, m1, rest, s, ex, dβ, hus, hc, hm⟩
  have keepd : H d = some (.frz od (.dT (acc.map kvV))) := ex.keep d _ hd (by rw [no_rho hs]; simp)
  by_cases hlt : i < acc.length
  · refine .inr ⟨⟨keepd, by rw [List.length_map]; exact hlt⟩, _, fun H' z => ⟨acc.length - (i + 1), by omega, z⟩, ?_⟩
    rintro x H' ⟨c, k, v, q, hkv, rfl, hq, hcn, rfl⟩
    rw [List.getElem?_map, List.getElem?_eq_getElem hlt] at hkv
    cases hkv
    rw [List.drop_eq_getElem_cons hlt] at hc
    generalize hp : acc[i] = p at *
    unfold newsL at hc
    split at hc
    · rename_i η2 eg
      split at hc
      · rename_i ws ega
        split at hc
        · rename_i k2 t ek ef
          split at hc
          · rename_i hwl
            have e1 := Ext.upd (K := K) (G := G) s (o := .tup [.ref q, .int p.2]) hcn
            have s1 : StoreOk K G γ (L2.upd H c (.tup [.ref q, .int p.2])) [] := s.upd hcn
            have hq1 : L2.upd H c (.tup [.ref q, .int p.2]) q = some (.tup ((p.1.map (Sum.inl : Int → Key)).map kV)) := by rw [upd_ne (ne_of_none hq hcn)]; exact hq
            have r1 : Rep K G γ (L2.upd H c (.tup [.ref q, .int p.2])) (kvW p) (.ref c) := .tup (.inl ⟨.inl upd_same, off_tup s1 upd_same⟩) (.cons (.tup (.inl ⟨.inl hq1, off_tup s1 hq1⟩) (reps_int p.1)) (.cons (.int _) .nil))
            refine ⟨wipeE η vs, [], γ, kvW p, η2, [], ((he.mono ex).mono e1).wipe vs, s1, r1, eg, fun σ2 γ2 H2 e2 he2 s2 hl2 hn2 => ⟨?_, ?_⟩⟩
            · rw [wipe_same (σ := wipe σ vs) his hl2 hn2, wipe_wipe]
            · refine ⟨η2, [], γ2, he2, s2, ?_⟩
              intro b' γ3 H3 e3 rb s3
              cases rb
              rw [if_pos rfl]
              refine ⟨η2, [], γ3, he2.mono e3, s3, ?_⟩
              rw [ega]
              intro xs γ4 H4 e4 r4 s4
              refine ⟨by rw [← r4.length, ← bigLine_eq]; exact hwl, fun b hb => ?_⟩
              have e5 := Ext.upd (K := K) (G := G) s4 (o := .tup xs) hb
              have s5 : StoreOk K G γ4 (L2.upd H4 b (.tup xs)) [] := s4.upd hb
              refine ⟨η2, [], γ4, ((he2.mono e3).mono e4).mono e5, s5, ?_⟩
              rw [ef]
              intro z γ6 H6 e6 r6 s6
              cases r6
              have ext6 : Ext γ0 H0 γ6 H6 := (((((ex.trans e1).trans e2).trans e3).trans e4).trans e5).trans e6
              have x6 : Ext γ H γ6 H6 := ((((e1.trans e2).trans e3).trans e4).trans e5).trans e6
              have nr : ∀ {γ' : Ga} {H' : Hp}, StoreOk K G γ' H' [] → ∀ a, a ∉ γ'.ρ := fun s a => by rw [no_rho s]; simp
              have d6 : D ∈ γ6.β := x6.bsub _ dβ
              have hb6 : H6 b = some (.tup xs) := e6.keep b _ upd_same (nr s5 b)
              have hD6 : H6 D = some (.dT (m1.map kvV)) := x6.keep D _ hus (nr s D)
              rw [Option.map_eq_some_iff] at hc
              obtain ⟨rest2, hc2, rfl⟩ := hc
              have hxs := ints_reps r4 ek
              have hnm : k2 ∉ m1.map (·.1) := by
                rw [hm, List.map_append, List.nodup_append] at hnd
                exact fun z => hnd.2.2 k2 z k2 (by rw [List.map_cons]; exact List.mem_cons_self ..) rfl
              refine ⟨m1.map kvV, k2.map Sum.inl, b, rfl, by rw [hb6, hxs], hD6, ?_, rfl, hlt, γ6, m1 ++ [(k2, t)], rest2, s6.busy d6, ext6.over hD, d6, ?_, hc2, ?_⟩
              · have : more.length = (m1 ++ (k2, t) :: rest2).length := by rw [hm]
                rw [List.length_append, List.length_cons] at this
                rw [List.length_map, sizeLine_eq]
                omega
              · rw [putK_new _ (val_none hnm), upd_same, List.map_append] <;> rfl
              · rw [hm, List.append_assoc] <;> rfl
          · cases hc
        · cases hc
      · cases hc
    · cases hc
  · have e : i = acc.length := by omega
    subst e
    rw [List.drop_length] at hc
    cases hc
    rw [List.append_nil] at hm
    subst hm
    exact .inl ⟨⟨keepd, by rw [List.length_map]; exact Nat.le_refl _⟩, hQ D γ H hD ex dβ hus s⟩
end
end Mp
set_option Elab.async false
set_option linter.all false
set_option maxRecDepth 100000
set_option maxHeartbeats 4000000
/-! Mp: the whole body that gathers sums of parts. -/
namespace Mp
open PySem PySem.Spec PyProof.Rows L2
section
variable {K : PySem.W.Frag} {G : Gs} {γ : Ga} {H : Hp} {d : Addr}
/-- what was built is done -/
def Ga.drop (γ : Ga) (d : Addr) : Ga := ⟨γ.ρ, γ.β.filter fun a => decide (a ≠ d)⟩
theorem Ext.dropped {γ0 : Ga} {H0 : Hp} (hs : StoreOk K G γ0 H0 []) (h0 : H0 d = none) (ex : Ext γ0 H0 γ H) : Ext γ0 H0 (γ.drop d) H := by
  refine ⟨ex.pre, fun a ha => List.mem_filter.mpr ⟨ex.bsub a ha, ?_⟩, fun a ha => ex.bnew a (List.mem_filter.mp ha).1, ex.keep, ex.new, ex.dom⟩
  obtain ⟨_, o, q, _⟩ := hs.bt a ha
  exact decide_eq_true (ne_of_none q h0)
theorem StoreOk.dropped (s : StoreOk K G γ H []) : StoreOk K G (γ.drop d) H [] := ⟨s.len, s.nd, fun i c a hc _ => by simp at hc, fun a ha => s.bt a (List.mem_filter.mp ha).1⟩
theorem rep_pk (s : StoreOk K G γ H []) {acc : PK} (h : H d = some (.dT (acc.map kvV))) : Rep K G (γ.drop d) H (pkD acc) (.ref d) := by
  refine .dct (us := acc.map fun p => V.int p.2) (.inr ⟨acc.map kvV, h, ?_, ?_⟩) ⟨by show d ∉ γ.ρ; rw [no_rho s]; simp, fun z => ?_⟩ ?_
  · rw [List.map_map]
    congr 1
    refine List.map_congr_left fun p _ => ?_
    show W.tup (p.1.map .int) = W.tup ((p.1.map (Sum.inl : Int → Key)).map keyW)
    rw [List.map_map] <;> rfl
  · rw [List.map_map] <;> rfl
  · have := (List.mem_filter.mp z).2
    simp at this
  · induction acc with
    | nil => exact .nil
    | cons p r ih => exact .cons (.int _) (by
        have : ∀ r : PK, Reps K G (γ.drop d) H (r.map fun p => W.int p.2) (r.map fun p => V.int p.2) := fun r => by
          induction r with
          | nil => exact .nil
          | cons p r ih => exact .cons (.int _) ih
        exact this r)
end
section
variable {X : Cx} {G : Gs} {vx tg iter : Expr} {elts telts : List Expr} {scope : Scope} {fv : ME} {g g2 : MG} {ga : MA} {it : MI} {is is2 : List Nat} {own : List (Str × Nat)} {f : Str} {n0 : Int}
  {kk0 kc kk tk2 : Nat} {fp tp0 cp dp ap np upos tp tpos np2 ipos icpos dpos cpos epos fpos rp rpos : Pos}
theorem sss_sums (jf : Nat) (own : List (Str × Nat)) (cf : Cfg X) (hit : SI X G tg iter it) (hg : SG X G tg is g) (ok : BlkOk X.N X.env.scope scope own)
    (hg2 : ∀ (s : Shared) (H : Hp) (C : Addr) (cl : List (Str × Addr)) (fp : List Addr), Cfg (X.blk s H scope (compEnvC scope cl C X.env) fp) → SG (X.blk s H scope (compEnvC scope cl C X.env) fp) G (.Tuple telts tk2 tpos) is2 g2)
    (hk : ∀ (s : Shared) (H : Hp) (C : Addr) (cl : List (Str × Addr)) (fp : List Addr), Cfg (X.blk s H scope (compEnvC scope cl C X.env) fp) → SA (X.blk s H scope (compEnvC scope cl C X.env) fp) G elts ga)
    (hv : ∀ (s : Shared) (H : Hp) (C : Addr) (cl : List (Str × Addr)) (fp : List Addr), Cfg (X.blk s H scope (compEnvC scope cl C X.env) fp) → SE (X.blk s H scope (compEnvC scope cl C X.env) fp) G vx fv)
    (hjf : jf ∉ is := by decide) (his : ∀ i ∈ is2, i ∈ own.map (·.2) := by decide) (hN : X.N[jf]? = some f := by rfl) (hx : Loc X.env.scope f := by first | exact Or.inl rfl | exact Or.inr rfl) (hvi : Vis X.env.scope f := by first | exact Or.inl rfl | exact Or.inr (Or.inl rfl) | exact Or.inr (Or.inr rfl))
    (hf : X.fn f = true ∨ X.env.scope.names.lookup f = some .local := by first | exact .inl rfl | exact .inr rfl) (hdb : (f == ("__debug__" : Str)) = false := by decide) (hcd : (f == ("__classdict__" : Str)) = false := by decide)
    (hsw : swapsWith (.Dict [some (.Tuple [] kk0 tp0)] [.Constant (.int n0) kc cp] dp) (some (.Name f fp)) ap.line X.env = pure false := by rfl)
    (hfs : ∀ x, foldedSetIterable iter X.env x = pure x := by intro _; rfl)
    (hfs2 : ∀ x, foldedSetIterable (.Call (.Attribute (.Name f np2) "items" ipos) [] [] icpos) X.env x = pure x := by intro _; rfl)
    (hb2 : attributeBase (.Name f np2) "items" X.env (eval (.Name f np2) X.env) = eval (.Name f np2) X.env := by rfl) (hl2 : (ipos.endLine == icpos.line) = true := by rfl)
    (hb1 : attributeBase (.Name f np) "update" X.env (eval (.Name f np) X.env) = eval (.Name f np) X.env := by rfl) (hl1 : (upos.endLine == cpos.line) = true := by rfl)
    (hse : swapsWith (.Call (.Attribute (.Name f np) "update" upos) [.DictComp (.Tuple elts kk tp) vx [⟨.Tuple telts tk2 tpos, .Call (.Attribute (.Name f np2) "items" ipos) [] [] icpos, [], 0⟩] scope dpos] [] cpos) none epos.line X.env = pure false := by rfl)
    (hst : starEach [.DictComp (.Tuple elts kk tp) vx [⟨.Tuple telts tk2 tpos, .Call (.Attribute (.Name f np2) "items" ipos) [] [] icpos, [], 0⟩] scope dpos] X.env = (false, eval (.DictComp (.Tuple elts kk tp) vx [⟨.Tuple telts tk2 tpos, .Call (.Attribute (.Name f np2) "items" ipos) [] [] icpos, [], 0⟩] scope dpos) X.env) :: starEach [] X.env := by rfl)
    (hfew : ((backTo cpos (starEach [.DictComp (.Tuple elts kk tp) vx [⟨.Tuple telts tk2 tpos, .Call (.Attribute (.Name f np2) "items" ipos) [] [] icpos, [], 0⟩] scope dpos] X.env)).all (fun x => !x.1) && (backToKw cpos (keywordEach [] X.env)).all (fun x => x.1.isSome)
      && decide ((1 : Nat) + ([] : List Keyword).length + (if ([] : List Keyword).isEmpty then 0 else 1) < 30)) = true := by rfl) :
    SSs X G [.Assign [.Name f fp] (.Dict [some (.Tuple [] kk0 tp0)] [.Constant (.int n0) kc cp] dp) ap,
      .For tg iter [.Expr (.Call (.Attribute (.Name f np) "update" upos) [.DictComp (.Tuple elts kk tp) vx [⟨.Tuple telts tk2 tpos, .Call (.Attribute (.Name f np2) "items" ipos) [] [] icpos, [], 0⟩] scope dpos] [] cpos) epos] [] fpos,
      .Return (some (.Name f rp)) rpos] (mSums jf n0 it g g2 (own.map (·.2)) ga fv) := by
  have hu : X.A.units + 1 < cLine := by have := cf.un; omega
  refine ⟨fun Wi tk => (pss_cons (ps_set (i := jf) cf.nd hN hx (pe_dispT hu (pe_tup pa_nil) pe_int) hsw hf) (pss_cons (ps_for cf.own cf.calm (hit.run Wi tk) hg.run (pss_one (ps_expr (pe_bm F.plainAttrs_dict F.slot_dict_update F.type_dict_update (mt_updT hu) (pe_var hN hvi hdb hcd)
    (pa_cons (pe_lock (pe_dcT (g := tgOf X.K G is2 g2) (tt := ttOf X.K G (fun _ _ _ _ => False) mtYes) (tk := tTup (taOf X.K G (fun _ _ _ _ => False) ga)) (tv := tOf X.K G (fun _ _ _ _ => False) fv) hu cf.calm cf.nd (pi_T (pe_var hN hvi hdb hcd) hb2 hl2) ok
      (fun s H C cl fp => (hg2 s H C cl fp (cf.blk ..)).run) (fun s H C cl fp => sts_nil.run _ takes0) (fun s H C cl fp => pe_tup ((hk s H C cl fp (cf.blk ..)).run _ takes0)) (fun s H C cl fp => (hv s H C cl fp (cf.blk ..)).run _ takes0) hfs2)) pa_nil hst) hb1 hfew hl1 hst rfl) hse)) hfs) (pss_one (ps_ret (pe_var hN hvi hdb hcd))))).imp ?_⟩
  rintro De σ H ⟨η, S, γ, he, hs, q⟩
  cases S with
  | cons _ _ => exact q.elim
  | nil =>
  unfold mSums at q
  simp only at q
  split at q
  · rename_i hη
    split at q
    · rename_i xs eit
      split at q
      · rename_i fin esum
        intro d hdn
        refine ⟨by show 0 ≤ sizeLine; exact Nat.zero_le _, fun b hb => ⟨upd_ne (ne_of_none upd_same hb) |>.trans upd_same, [], b, rfl, upd_same, ?_⟩⟩
        have hbd : b ≠ d := fun z => by
          rw [z, upd_same] at hb
          cases hb
        generalize hHd : L2.upd (L2.upd (L2.upd H d (.dT [])) b (.tup [])) d (.dT [([], .int n0)]) = Hd
        have s1 : StoreOk X.K G (γ.put d) (L2.upd H d (.dT [])) [] := hs.put0 hdn
        have s2 : StoreOk X.K G (γ.put d) (L2.upd (L2.upd H d (.dT [])) b (.tup [])) [] := s1.upd hb
        have e2 : Ext γ H (γ.put d) (L2.upd (L2.upd H d (.dT [])) b (.tup [])) := (Ext.put hdn).trans (Ext.upd s1 hb)
        have s3 : StoreOk X.K G (γ.put d) Hd [] := by rw [← hHd]; exact s2.busy (List.mem_cons_self ..)
        have e3 : Ext γ H (γ.put d) Hd := by rw [← hHd]; exact e2.over hdn
        have he3 : EnvOk X.K G (γ.put d) Hd η (σ.set jf (some (.ref d))) := by
          have z := he.mono e3
          refine ⟨by rw [List.length_set]; exact z.1, fun i w hi => ?_⟩
          obtain ⟨v, ev, r⟩ := z.2 i w hi
          by_cases hij : jf = i
          · subst hij
            rw [hη] at hi
            cases hi
          · exact ⟨v, by rw [List.getElem?_set_ne hij]; exact ev, r⟩
        have hd3 : Hd d = some (.dT (([([], n0)] : PK).map kvV)) := by rw [← hHd, upd_same] <;> rfl
        have hσ3 : (σ.set jf (some (.ref d)))[jf]? = some (some (.ref d)) := by
          rw [List.getElem?_set_self]
          rw [← he.1]
          exact (List.getElem?_eq_some_iff.mp hη).1
        clear hHd hb
        -- the loop
        refine ⟨η, [], γ.put d, he3, s3, ?_⟩
        rw [eit]
        intro J γJ HJ eJ sJ okJ
        have dJ : d ∈ γJ.β := eJ.bsub _ (List.mem_cons_self ..)
        have nr : ∀ {γ' : Ga} {H' : Hp}, StoreOk X.K G γ' H' [] → ∀ a, a ∉ γ'.ρ := fun s a => by rw [no_rho s]; simp
        obtain ⟨Wv, hW⟩ : ∃ Wv : Nat → Nat → L2.St → Hp → Prop, ∀ i m σ H1, Wv i m σ H1 ↔ (m = xs.length - i ∧ i ≤ xs.length ∧ ∃ η1 γ1 acc, EnvOk X.K G γ1 H1 η1 σ ∧ StoreOk X.K G γ1 H1 [] ∧ ExtW γJ HJ γ1 H1 ∧ Ext γ H γ1 H1 ∧ d ∈ γ1.β ∧ H1 d = some (.dT (acc.map kvV)) ∧ σ[jf]? = some (some (.ref d)) ∧ acc ≠ [] ∧ sumsL g g2 (own.map (·.2)) ga fv (xs.drop i) η1 acc = some fin) := ⟨_, fun _ _ _ _ => Iff.rfl⟩
        refine ⟨Wv, ⟨xs.length, (hW ..).mpr ⟨rfl, Nat.zero_le _, η, γJ, [([], n0)], he3.mono eJ, sJ, Ext.refl.w, e3.trans eJ, dJ, eJ.keep d _ hd3 (nr s3 d), hσ3, (by simp), esum⟩⟩, ?_⟩
        intro i m σ H1 w
        obtain ⟨rfl, hi, η1, γ1, acc, he1, s1, xw, xe, d1, hd1, hσ, hne, hc⟩ := (hW ..).mp w
        clear w
        by_cases hlt : i < xs.length
        · refine .inr ⟨okJ.go i γ1 H1 [] hlt xw s1, fun σ' H' => Wv (i + 1) (xs.length - (i + 1)) σ' H', fun σ' H' z => ⟨xs.length - (i + 1), by omega, z⟩, fun x H' y => ?_⟩
          obtain ⟨e4, s4, r4⟩ := okJ.yld i xs[i] γ1 H1 [] x H' (List.getElem?_eq_getElem hlt) xw s1 y
          rw [List.drop_eq_getElem_cons hlt] at hc
          unfold sumsL at hc
          split at hc
          · rename_i η2 eg
            split at hc
            · rename_i more enews
              split at hc
              · rename_i hcond
                obtain ⟨hnd, hsz⟩ := hcond
                refine ⟨η1, [], γ1, xs[i], η2, [], he1.mono e4, s4, r4, eg, fun σ5 γ5 H5 e5 he5 s5 hl5 hn5 => ?_⟩
                have hσ5 : σ5[jf]? = some (some (.ref d)) := by rw [hn5 jf hjf]; exact hσ
                have d5 : d ∈ γ5.β := e5.bsub _ (e4.bsub _ d1)
                have hd5 : H5 d = some (.dT (acc.map kvV)) := e5.keep d _ (e4.keep d _ hd1 (nr s1 d)) (nr s4 d)
                refine ⟨.ref d, hσ5, .inr (.inr (.inl ⟨rfl, .inr ⟨_, hd5⟩⟩)), ?_⟩
                refine ⟨d, _, hd5, True.intro, fun od => ?_⟩
                refine ⟨.ref d, hσ5, d, acc.map kvV, rfl, .inl ⟨od, upd_same, ?_⟩⟩
                have sL : StoreOk X.K G γ5 (L2.upd H5 d (.frz od (.dT (acc.map kvV)))) [] := s5.busy d5
                have heL : EnvOk X.K G γ5 (L2.upd H5 d (.frz od (.dT (acc.map kvV)))) η2 σ5 := he5.busy d5 (nr s5 d)
                have lm : more.length ≤ 8000000 := by rw [List.length_append] at hsz; omega
                refine news_turns (Q := fun v H' => H' d = some (.frz od (.dT (acc.map kvV))) ∧ tNil σ5 (L2.upd H' d (.dT (acc.map kvV))) fun ys H2 => rUpdT (.ref d) (v :: ys) H2 fun _ H1 => Wv (i + 1) (xs.length - (i + 1)) σ5 H1) upd_same heL sL his enews (by rw [List.map_append, List.nodup_append] at hnd; exact hnd.2.1) lm fun D γ6 H6 hDn e6 D6 hD6 s6 => ?_
                have hdD : d ≠ D := fun z => by
                  rw [← z, upd_same] at hDn
                  cases hDn
                refine ⟨e6.keep d _ upd_same (nr sL d), d, D, acc.map kvV, more.map kvV, rfl, rfl, hdD, upd_same, (by rw [upd_ne hdD.symm]; exact hD6), (by simpa using hne), ?_, ?_, ?_⟩
                · rw [← List.map_append]
                  exact nd_kv hnd
                · rw [List.length_map, List.length_map, sizeLine_eq]
                  rw [List.length_append] at hsz
                  omega
                · have d6 : d ∈ γ6.β := e6.bsub _ d5
                  refine (hW ..).mpr ⟨rfl, hlt, η2, γ6, acc ++ more, ?_, ?_, ?_, ?_, d6, by rw [upd_same, List.map_append], hσ5, by simp [hne], hc⟩
                  · exact ((heL.mono e6).busy d6 (nr s6 d)).busy d6 (nr s6 d)
                  · exact (s6.busy d6).busy d6
                  · exact ((((((xw.trans e4.w).trans e5.w).busy dJ).trans e6.w).busy dJ).busy dJ)
                  · exact (((((xe.trans e4).trans e5).over hdn).trans e6).over hdn).over hdn
              · cases hc
            · cases hc
          · cases hc
        · have e : i = xs.length := by omega
          subst e
          rw [List.drop_length] at hc
          cases hc
          refine .inl ⟨okJ.stop γ1 H1 [] xw s1, .ref d, hσ, ?_⟩
          exact q (.ref d) (γ1.drop d) H1 (Ext.dropped hs hdn xe) (rep_pk s1 hd1) s1.dropped
      · exact q.elim
    · exact q.elim
  · exact q.elim
end
end Mp
set_option Elab.async false
set_option linter.all false
set_option maxRecDepth 100000
set_option maxHeartbeats 4000000
/-! Mp: a list gathered over the items of a frozen dict with tuple keys; sorted pairs (an int, a tuple of ints). -/
namespace Mp
open PySem PySem.Spec PyProof.Rows L2
/-- a name whose value holds no dict -/
def maskE (η : Env) : Env := η.map fun o => match o with
  | some w => if okD w 60 = true then some w else none
  | none => none
def rowsD : List W → List W → Option PK
  | [], [] => some []
  | .tup k :: ks, .int v :: vs => (intsOf k).bind fun k' => (rowsD ks vs).map ((k', v) :: ·)
  | _, _ => none
def mCompT (f : ME) (own : List Nat) (g : MG) (t : MT) (e : ME) : ME := fun η S => match S with
  | _ :: _ => .stuck
  | [] => (match f η [] with
    | .ok (.dct (.bl true :: ks) ws) [] => (match rowsD ks ws with
      | some ps => (match compL g t e (wipeE (maskE η) own) (ps.map kvW) [] [] with
        | .ok zs [] => if okDs zs 60 = true then .ok (.lst zs) [] else .stuck
        | _ => .stuck)
      | none => .stuck)
    | _ => .stuck)
section
variable {K : PySem.W.Frag} {G : Gs} {γ : Ga} {H H' : Hp} {d : Addr}
theorem rows_of {γ : Ga} : ∀ {ks vs : List W} {ps : PK} {kvs : KL}, rowsD ks vs = some ps → ks = kvs.map (fun p => W.tup (p.1.map keyW)) → Reps K G γ H vs (kvs.map (·.2)) → kvs = ps.map kvV
  | [], [], _, kvs, h, e, r => by
    cases h
    cases kvs with
    | nil => rfl
    | cons _ _ => cases e
  | .tup k :: ks, .int v :: vs, ps, kvs, h, e, r => by
    unfold rowsD at h
    cases ei : intsOf k with
    | none =>
      rw [ei] at h
      cases h
    | some k' =>
      rw [ei] at h
      cases er : rowsD ks vs with
      | none =>
        rw [er] at h
        cases h
      | some ps' =>
        rw [er] at h
        cases h
        cases kvs with
        | nil => cases e
        | cons p kvs =>
          rw [List.map_cons] at e
          injection e with e1 e2
          rw [List.map_cons] at r
          cases r with
          | cons r1 r2 =>
            have ih := rows_of er e2 r2
            rw [List.map_cons, ← ih]
            injection e1 with e3
            have kk : ∀ (q : List Key) (k : List W) (k' : List Int), intsOf k = some k' → k = q.map keyW → q = k'.map Sum.inl := fun q => by
              induction q with
              | nil =>
                intro k k' a b
                subst b
                cases a
                rfl
              | cons x q ih =>
                intro k k' a b
                subst b
                rw [List.map_cons] at a
                cases x with
                | inl i =>
                  have a : (intsOf (q.map keyW)).map (i :: ·) = some k' := a
                  rw [Option.map_eq_some_iff] at a
                  obtain ⟨k2, a2, rfl⟩ := a
                  rw [List.map_cons, ← ih _ _ a2 rfl]
                | inr s => cases a
            obtain ⟨pk, pv⟩ := p
            have := kk pk k k' ei e3
            cases r1
            show (pk, V.int v) :: kvs = kvV (k', v) :: kvs
            rw [this] <;> rfl
  | .tup _ :: _, [], _, _, h, _, _ => by cases h
  | .non :: _, _, _, _, h, _, _ => by cases h
  | .bl _ :: _, _, _, _, h, _, _ => by cases h
  | .int _ :: _, _, _, _, h, _, _ => by cases h
  | .str _ :: _, _, _, _, h, _, _ => by cases h
  | .lst _ :: _, _, _, _, h, _, _ => by cases h
  | .scr _ :: _, _, _, _, h, _, _ => by cases h
  | .dct _ _ :: _, _, _, _, h, _, _ => by cases h
  | .ref _ :: _, _, _, _, h, _, _ => by cases h
  | .fn _ :: _, _, _, _, h, _, _ => by cases h
  | .cls _ :: _, _, _, _, h, _, _ => by cases h
  | .exc _ _ :: _, _, _, _, h, _, _ => by cases h
  | .tup _ :: _, .non :: _, _, _, h, _, _ => by cases h
  | .tup _ :: _, .bl _ :: _, _, _, h, _, _ => by cases h
  | .tup _ :: _, .str _ :: _, _, _, h, _, _ => by cases h
  | .tup _ :: _, .tup _ :: _, _, _, h, _, _ => by cases h
  | .tup _ :: _, .lst _ :: _, _, _, h, _, _ => by cases h
  | .tup _ :: _, .scr _ :: _, _, _, h, _, _ => by cases h
  | .tup _ :: _, .dct _ _ :: _, _, _, h, _, _ => by cases h
  | .tup _ :: _, .ref _ :: _, _, _, h, _, _ => by cases h
  | .tup _ :: _, .fn _ :: _, _, _, h, _, _ => by cases h
  | .tup _ :: _, .cls _ :: _, _, _, h, _, _ => by cases h
  | .tup _ :: _, .exc _ _ :: _, _, _, h, _, _ => by cases h
  | [], _ :: _, _, _, h, _, _ => by cases h
/-- the heap changes at a dict alone -/
def Dk (o : HO) : Prop := (∃ kvs, o = .dT kvs) ∨ ∃ ob kvs, o = .frz ob (.dT kvs)
theorem Dk.nt {o : HO} (h : Dk o) : ∀ xs, o ≠ .tup xs := fun xs z => by
  rcases h with ⟨_, rfl⟩ | ⟨_, _, rfl⟩ <;> cases z
mutual
theorem Rep.beside {o u : HO} (hd : H d = some o) (hk : Dk o) : ∀ {w : W} {v : V} {k : Nat}, okD w k = true → Rep K G γ H w v → Rep K G γ (L2.upd H d u) w v
  | _, _, _, _, .non => .non
  | _, _, _, _, .bl b => .bl b
  | _, _, _, _, .int i => .int i
  | _, _, _, _, .str s h1 h2 => .str s h1 h2
  | _, _, k, p, .tup f r => .tup (by
      rcases f with ⟨f, z⟩ | f
      · refine .inl ⟨?_, z⟩
        have ne : ∀ {a : Addr} {x : HO}, H a = some x → (¬ Dk x) → a ≠ d := fun e n z => by
          rw [z, hd] at e
          cases e
          exact n hk
        rcases f with f | ⟨ob, f⟩
        · exact .inl (by rw [upd_ne (ne f (fun z => z.nt _ rfl))]; exact f)
        · exact .inr ⟨ob, by rw [upd_ne (ne f (fun z => by rcases z with ⟨_, z⟩ | ⟨_, _, z⟩ <;> cases z))]; exact f⟩
      · exact .inr f) (by
      rw [okD, Bool.and_eq_true] at p
      exact Reps.beside hd hk p.2 r)
  | _, _, k, p, .lst f z r => .lst (by
      rw [upd_ne (fun e => by
        rw [e, hd] at f
        cases f
        rcases hk with ⟨_, z⟩ | ⟨_, _, z⟩ <;> cases z)]
      exact f) z (by
      rw [okD, Bool.and_eq_true] at p
      exact Reps.beside hd hk p.2 r)
  | _, _, _, p, .scr f r => by simp [okD] at p
  | _, _, _, p, .ref f => by simp [okD] at p
  | .fn _, _, _, p, _ => by simp [okD] at p
  | _, _, _, p, .dct d z r => by simp [okD] at p
theorem Reps.beside {o u : HO} (hd : H d = some o) (hk : Dk o) : ∀ {w : List W} {v : List V} {k : Nat}, okDs w k = true → Reps K G γ H w v → Reps K G γ (L2.upd H d u) w v
  | _, _, _, _, .nil => .nil
  | _, _, k, p, .cons r t => by
    rw [okDs, Bool.and_eq_true] at p
    exact .cons (Rep.beside hd hk p.1 r) (Reps.beside hd hk p.2 t)
end
theorem EnvOk.mask {η : Env} {σ : L2.St} {o u : HO} (he : EnvOk K G γ H η σ) (hd : H d = some o) (hk : Dk o) : EnvOk K G γ (L2.upd H d u) (maskE η) σ := by
  refine ⟨by unfold maskE; rw [List.length_map]; exact he.1, fun i w h => ?_⟩
  unfold maskE at h
  rw [List.getElem?_map, Option.map_eq_some_iff] at h
  obtain ⟨x, hx, e⟩ := h
  cases x with
  | none => cases e
  | some w' =>
    replace e : (if okD w' 60 = true then some w' else none) = some w := e
    split at e
    · rename_i hok
      cases e
      obtain ⟨v, ev, r⟩ := he.2 i w hx
      exact ⟨v, ev, r.beside hd hk hok⟩
    · cases e
theorem StoreOk.at0 {o u : HO} (s : StoreOk K G γ H []) (hd : H d = some o) (f : γ.Off d) : StoreOk K G γ (L2.upd H d u) [] := ⟨s.len, s.nd, fun i c a hc _ => by simp at hc, fun a ha => by
  obtain ⟨n, o1, q, t⟩ := s.bt a ha
  have ne : a ≠ d := fun e => f.2 (e ▸ ha)
  exact ⟨n, o1, by rw [upd_ne ne]; exact q, t⟩⟩
theorem itOk_T {od : Obj} {ps : PK} (s : StoreOk K G γ H []) (hd : H d = some (.frz od (.dT (ps.map kvV)))) (f : γ.Off d) : ItOk K G (ItT d od (ps.map kvV)) (ps.map kvW) γ H := by
  have st : ∀ {γ' H'}, ExtW γ H γ' H' → H' d = some (.frz od (.dT (ps.map kvV))) := fun e => e.keep d _ hd f
  refine ⟨fun i γ' H' S hi e _ => ⟨st e, by rw [List.length_map] at hi ⊢; exact hi⟩, fun γ' H' S e _ => ⟨st e, by rw [List.length_map, List.length_map]; exact Nat.le_refl _⟩, ?_⟩
  rintro i w γ' H' S x H'' hw e s' ⟨c, k, v, q, hkv, rfl, hq, hcn, rfl⟩
  rw [List.getElem?_map] at hw hkv
  cases hp : ps[i]? with
  | none =>
    rw [hp] at hw
    cases hw
  | some p =>
    rw [hp] at hw hkv
    cases hw
    cases hkv
    have off : ∀ {Hx : Hp} {q : Addr} {xs : List V}, StoreOk K G γ' Hx S → Hx q = some (.tup xs) → γ'.Off q := fun s h => by
      refine ⟨fun z => ?_, fun z => ?_⟩
      · obtain ⟨o1, e1, t⟩ := s.tracked0 z
        rw [h] at e1
        cases e1
        exact t _ rfl
      · obtain ⟨_, o1, e1, t⟩ := s.bt _ z
        rw [h] at e1
        cases e1
        exact t _ rfl
    have s1 : StoreOk K G γ' (L2.upd H' c (.tup [.ref q, .int p.2])) S := s'.upd hcn
    have hq1 : L2.upd H' c (.tup [.ref q, .int p.2]) q = some (.tup ((p.1.map (Sum.inl : Int → Key)).map kV)) := by rw [upd_ne (ne_of_none hq hcn)]; exact hq
    exact ⟨Ext.upd s' hcn, s1, .tup (.inl ⟨.inl upd_same, off s1 upd_same⟩) (.cons (.tup (.inl ⟨.inl hq1, off s1 hq1⟩) (reps_int p.1)) (.cons (.int _) .nil))⟩
end
section
variable {X : Cx} {G : Gs} {e elt : Expr} {ifs : List Expr} {telts : List Expr} {scope : Scope} {f fe : ME} {g : MG} {t : MT} {is : List Nat} {own : List (Str × Nat)} {pos apos cpos tpos : Pos} {tk : Nat}
def iT (te : TE) : TI := fun σ Hm R => te σ Hm fun x H1 => ∃ (d : Addr) (kvs : KL), x = .ref d ∧ ((∃ o, H1 d = some (.frz o (.dT kvs)) ∧ R (ItT d o kvs) H1) ∨ (H1 d = some (.dT kvs) ∧ ∀ o, R (ItT d o kvs) (L2.upd H1 d (.frz o (.dT kvs)))))
theorem compT_read {Wi : WX} {Q : VK} {σ : L2.St} {H : Hp} (his : ∀ i ∈ is, i ∈ own.map (·.2)) (q : tOf X.K G Wi (mCompT f (own.map (·.2)) g t fe) σ H Q) :
    tLc (iT (tOf X.K G Wi f)) (tgOf X.K G is g) (ttOf X.K G (fun _ _ _ _ => False) t) (tOf X.K G (fun _ _ _ _ => False) fe) (own.map (·.2)) σ H (fun v Hn => Q v Hn ∨ ∃ d o u, Hn d = some (.frz o u) ∧ (∀ o' u', H d ≠ some (.frz o' u')) ∧ Q v (L2.upd Hn d u)) := by
  obtain ⟨η, S, γ, he, hs, q⟩ := q
  cases S with
  | cons _ _ => exact q.elim
  | nil =>
  unfold mCompT at q
  simp only at q
  split at q
  · rename_i ks ws ef
    split at q
    · rename_i ps eps
      split at q
      · rename_i zs ec
        split at q
        · rename_i hz
          refine ⟨η, [], γ, he, hs, ?_⟩
          rw [ef]
          intro v γ1 H1 e1 r1 s1
          cases r1 with
          | @dct d us _ _ da off rw_ =>
            obtain ⟨kvs, hd, ek, eu⟩ : ∃ kvs : KL, H1 d = some (.dT kvs) ∧ ks = kvs.map (fun p => W.tup (p.1.map keyW)) ∧ us = kvs.map (·.2) := by
              rcases da with ⟨kvs, hd, ek, eu⟩ | ⟨kvs, hd, ek, eu⟩
              · cases ek
              · injection ek with _ ek
                exact ⟨kvs, hd, ek, eu⟩
            subst eu
            have ekv := rows_of eps ek rw_
            subst ekv
            refine ⟨d, ps.map kvV, rfl, .inr ⟨hd, fun od => ?_⟩⟩
            have hk : Dk (.dT (ps.map kvV)) := .inl ⟨_, rfl⟩
            have sL : StoreOk X.K G γ1 (L2.upd H1 d (.frz od (.dT (ps.map kvV)))) [] := s1.at0 hd off
            have heL := (he.mono e1).mask (u := .frz od (.dT (ps.map kvV))) hd hk
            refine lc_turns (Wx' := fun _ _ _ => False) (Q := fun v Hn => Q v Hn ∨ ∃ d o u, Hn d = some (.frz o u) ∧ (∀ o' u', H d ≠ some (.frz o' u')) ∧ Q v (L2.upd Hn d u)) (itOk_T sL upd_same off) heL sL his ec fun v γ' H' e2 r2 s2 => ?_
            have nr1 : d ∉ γ.ρ := fun z => off.1 (e1.pre.subset z)
            have hd2 : H' d = some (.frz od (.dT (ps.map kvV))) := e2.keep d _ upd_same off.1
            have off2 : γ'.Off d := e2.off upd_same off
            have eU : Ext γ1 H1 γ' (L2.upd H' d (.dT (ps.map kvV))) := by
              refine ⟨e2.pre, e2.bsub, fun a ha => ?_, fun a o ea na => ?_, fun a h1 h2 => ?_, fun a o ea => ?_⟩
              · rcases e2.bnew a ha with z | z
                · exact .inl z
                · refine .inr ?_
                  by_cases had : a = d
                  · rw [had, upd_same] at z
                    cases z
                  · rw [upd_ne had] at z
                    exact z
              · by_cases had : a = d
                · rw [had] at ea ⊢
                  rw [hd] at ea
                  cases ea
                  exact upd_same
                · rw [upd_ne had]
                  exact e2.keep a o (by rw [upd_ne had]; exact ea) na
              · have z := e2.new a h1 h2
                by_cases had : a = d
                · rw [had, upd_same] at z
                  cases z
                · rw [upd_ne had] at z
                  exact z
              · by_cases had : a = d
                · exact ⟨_, by rw [had]; exact upd_same⟩
                · obtain ⟨o', z⟩ := e2.dom a o (by rw [upd_ne had]; exact ea)
                  exact ⟨o', by rw [upd_ne had]; exact z⟩
            refine .inr ⟨d, od, _, hd2, fun o' u' z => ?_, q v γ' _ (e1.trans eU) (r2.beside (k := 61) hd2 (.inr ⟨_, _, rfl⟩) ?_) (s2.at0 hd2 off2)⟩
            · have z2 := e1.keep d _ z nr1
              rw [hd] at z2
              cases z2
            · rw [okD, Bool.and_eq_true]
              exact ⟨rfl, hz⟩
        · exact q.elim
      · exact q.elim
    · exact q.elim
  · exact q.elim
theorem ps_free {st : Stmt} {ts : TS} (h : PS X st ts) : PS X st (fun D σ Hm => ts { D with nx := fun σ' Hn => D.nx σ' Hn ∨ ∃ d o u, Hn d = some (.frz o u) ∧ (∀ o' u', Hm d ≠ some (.frz o' u')) ∧ D.nx σ' (L2.upd Hn d u) } σ Hm) := by
  refine ⟨fun pins s σ Hm D I hw => ?_⟩
  refine thn (h.run pins s σ _ _ I hw) fun fl s1 q => ?_
  cases fl with
  | next =>
    obtain ⟨σ', Hn, I2, q⟩ := q
    rcases q with q | ⟨d, o, u, e, n, q⟩
    · exact ⟨σ', Hn, I2, q⟩
    · exact ⟨σ', _, I2.unlock e (fun o' u' z => n _ _ (I.base.frzs d o' u' z)), q⟩
  | brk => exact q
  | cont => exact q
  | ret v => exact q
theorem ss_setLcT {y : Str} {py : Pos} {spos : Pos} (i : Nat) (own : List (Str × Nat)) (cf : Cfg X) (ha : SE X G e f) (ok : BlkOk X.N X.env.scope scope own)
    (hg : ∀ (s : Shared) (H : Hp) (C : Addr) (cl : List (Str × Addr)) (fp : List Addr), Cfg (X.blk s H scope (compEnvC scope cl C X.env) fp) → SG (X.blk s H scope (compEnvC scope cl C X.env) fp) G (.Tuple telts tk tpos) is g)
    (ht : ∀ (s : Shared) (H : Hp) (C : Addr) (cl : List (Str × Addr)) (fp : List Addr), Cfg (X.blk s H scope (compEnvC scope cl C X.env) fp) → STs (X.blk s H scope (compEnvC scope cl C X.env) fp) G ifs t)
    (he : ∀ (s : Shared) (H : Hp) (C : Addr) (cl : List (Str × Addr)) (fp : List Addr), Cfg (X.blk s H scope (compEnvC scope cl C X.env) fp) → SE (X.blk s H scope (compEnvC scope cl C X.env) fp) G elt fe)
    (hy : X.N[i]? = some y := by rfl) (hyl : X.env.scope.names.lookup y = some .local := by rfl)
    (hsw : swapsWith (.ListComp elt [⟨.Tuple telts tk tpos, .Call (.Attribute e "items" apos) [] [] cpos, ifs, 0⟩] scope pos) (some (.Name y py)) spos.line X.env = pure true := by exact sw_true rfl rfl rfl (by decide +kernel))
    (his : ∀ i ∈ is, i ∈ own.map (·.2) := by decide) (hs : ∀ x, foldedSetIterable (.Call (.Attribute e "items" apos) [] [] cpos) X.env x = pure x := by intro _; rfl)
    (hb : attributeBase e "items" X.env (eval e X.env) = eval e X.env := by rfl) (hl : (apos.endLine == cpos.line) = true := by rfl) :
    SS X G (.Assign [.Name y py] (.ListComp elt [⟨.Tuple telts tk tpos, .Call (.Attribute e "items" apos) [] [] cpos, ifs, 0⟩] scope pos) spos) (sSet i (mCompT f (own.map (·.2)) g t fe)) := by
  refine ⟨fun Wi tk => (ps_free (ps_setLc (i := i) (g := tgOf X.K G is g) (tt := ttOf X.K G (fun _ _ _ _ => False) t) (te := tOf X.K G (fun _ _ _ _ => False) fe) cf.calm cf.nd hy hyl hsw (pi_T (ha.run Wi tk) hb hl) ok (fun s H C cl fp => (hg s H C cl fp (cf.blk ..)).run) (fun s H C cl fp => (ht s H C cl fp (cf.blk ..)).run _ takes0) (fun s H C cl fp => (he s H C cl fp (cf.blk ..)).run _ takes0) hs)).imp ?_⟩
  rintro D σ H ⟨η, S, γ, he, hs, q⟩
  exact compT_read (Q := fun v H1 => gName i v σ H1 D.nx) his ⟨η, S, γ, he, hs, (PostS.expr he q).imp fun v H1 ⟨w, S1, γ1, e1, r1, s1, q1⟩ => q1 _ γ1 H1 Ext.refl ((he.mono e1).set r1 i) s1⟩
end
end Mp
set_option Elab.async false
set_option linter.all false
set_option maxRecDepth 100000
set_option maxHeartbeats 4000000
/-! Mp: the values of a dict whose keys are tuples, walked. -/
namespace Mp
open PySem PySem.Spec PyProof.Rows L2
/-- the values of the locked dict at d -/
def ItTV (d : Addr) (o : Obj) (kvs : KL) : It :=
  ⟨fun i Hm => Hm d = some (.frz o (.dT kvs)) ∧ i < kvs.length, fun i Hm x Hn => ∃ (k : List Key) (v : V), kvs[i]? = some (k, v) ∧ x = v ∧ Hn = Hm, fun i Hm => Hm d = some (.frz o (.dT kvs)) ∧ kvs.length ≤ i⟩
section
variable {P : Program} {w : World} {K : PySem.W.Frag} {d : Addr} {o : Obj} {es : Array DictEntry} {ep : Nat}
theorem turn_TV {kvs : KL} {x : Str} {p : Pos} (it : Addr) (hod : o.data = .dict es ep) :
    Turn P w K (.Name x p) (ItTV d o kvs) [it] it (fun i h => h.IsValIter it d i kvs.length ep) where
  mem := List.mem_singleton.mpr rfl
  obj := fun i h st b hb => by
    cases List.mem_singleton.mp hb
    obtain ⟨ob, e, c, dt⟩ := st
    exact ⟨ob, e, fun v z => by rw [z] at dt; cases dt⟩
  keep := fun i h h' st k => by
    obtain ⟨ob, e, c, dt⟩ := st
    exact ⟨ob, k it (List.mem_singleton.mpr rfl) _ e, c, dt⟩
  item := by
    intro X hP hw hK hc i pins s σ Hm E I hf st hg
    subst hP hw hK
    obtain ⟨hfz, hi⟩ := hg
    obtain ⟨hs, hgd, hx, es2, ep2, hdt, hsz, ent⟩ := frz_T I hfz
    obtain ⟨rfl, rfl⟩ := dict_ep hod hdt
    obtain ⟨⟨k, v⟩, hkv⟩ : ∃ p, kvs[i]? = some p := ⟨kvs[i], List.getElem?_eq_getElem hi⟩
    obtain ⟨en, q, hen, hkey, hq, hval⟩ := ent i k v hkv
    obtain ⟨hies, hen2⟩ := Array.getElem?_eq_some_iff.mp hen
    rw [← hsz] at st
    have he := st
    refine wpAny_pyNext_values_item_raw he ⟨o, hgd, hx, hdt⟩ hies fun h1 he2 sb => ?_
    rw [hen2]
    have I1 : Inv X pins σ Hm { s with heap := h1 } := by
      obtain ⟨f0, f1, f2, f3, f4, f5⟩ := hf it (List.mem_singleton.mpr rfl)
      exact I.turned (t' := s.toks) (fun b ob hb e => (sb.2 b hb).trans e) f0 f1 f3 f4 f5
    refine ⟨_, rfl, wpAny_pure ⟨v, Hm, I1, hval, ⟨k, v, hkv, rfl, rfl⟩, ?_, fun b hb => (hf b hb).1⟩⟩
    rw [hsz] at he2
    exact he2
  done := by
    intro X hP hw hK hc i pins s σ Hm E I hf st hg
    subst hP hw hK
    obtain ⟨hfz, hi⟩ := hg
    obtain ⟨f0, f1, f2, f3, f4, f5⟩ := hf it (List.mem_singleton.mpr rfl)
    obtain ⟨hs, hgd, hx, es2, ep2, hdt, hsz, ent⟩ := frz_T I hfz
    obtain ⟨rfl, rfl⟩ := dict_ep hod hdt
    rw [← hsz] at st
    exact wpAny_pyNext_values_end_raw (I.ok.hd hc) st ⟨o, hgd, hx, hdt⟩ (by omega) fun h2 eb => ⟨rfl, I.turned (t' := s.toks) (fun b ob hb e => eb b ob hb e) f0 f1 f3 f4 f5⟩
  self := fun A i s Q E st h => wpAny_pyIter_valiter st h
end
/-- d.values(), d locked -/
theorem pi_TV {X : Cx} {x : Str} {p apos cpos : Pos} {e : Expr} {td : TE} (he : PE X e td) (hbase : attributeBase e "values" X.env (eval e X.env) = eval e X.env := by rfl) (hline : (apos.endLine == cpos.line) = true := by rfl) :
    PI X (.Name x p) (.Call (.Attribute e "values" apos) [] [] cpos) (fun σ Hm R => td σ Hm fun y H1 => ∃ (d : Addr) (kvs : KL), y = .ref d ∧ ((∃ o, H1 d = some (.frz o (.dT kvs)) ∧ R (ItTV d o kvs) H1) ∨ (H1 d = some (.dT kvs) ∧ ∀ o, R (ItTV d o kvs) (upd H1 d (.frz o (.dT kvs)))))) := by
  refine ⟨fun pins s σ Hm R I h => ?_⟩
  refine wpAny_Call_method (T := "dict") (id := "dict.values") hbase rfl hline F.plainAttrs_dict F.slot_dict_values F.type_dict_values (thn (he.run pins s σ Hm _ I h) fun u s1 ⟨y, H1, I0, rx, d, kvs, ex, q0⟩ => ?_)
  subst ex
  obtain rfl : u = Value.ref d := rx
  obtain ⟨H2, o, I1, hd, q⟩ : ∃ H2 o, Inv X pins σ H2 s1 ∧ H2 d = some (.frz o (.dT kvs)) ∧ R (ItTV d o kvs) H2 := by
    rcases q0 with ⟨o, hd, q⟩ | ⟨hd, q⟩
    · exact ⟨H1, o, I0, hd, q⟩
    · obtain ⟨o, I1⟩ := I0.lock hd True.intro
      exact ⟨_, o, I1, upd_same, q o⟩
  obtain ⟨hs, hgd, hx, es, ep, hdt, hsz, ent⟩ := frz_T I1 hd
  have raw : s1.heap.DictRaw d es ep := ⟨o, hgd, hx, hdt⟩
  refine ⟨raw.typeIs, ?_, ?_⟩
  · intro b hb
    cases hb
    exact ⟨o, hgd, hx.2.1⟩
  have I2 : Inv X pins σ H2 { s1 with heap := s1.heap.push { cls := .type "dict_values", data := .fields #[.ref d] } } := I1.kept (t' := s1.toks) fun b ob q => Heap.get?_push_of_some _ q
  have fin : wpAny (model X.prog X.w) X.A (pyIter (.ref s1.heap.objs.size)) (PIE X pins σ (.Name x p) R) X.xe { s1 with heap := s1.heap.push { cls := .type "dict_values", data := .fields #[.ref d] } } := by
    refine wpAny_pyIter_values_raw (d := d) (es := es) (ep := ep) ⟨_, Heap.get?_push_size _ rfl, rfl, rfl⟩ (raw.at fun _ e => Heap.get?_push_of_some _ e) (pi_one (tk := s1.toks) I2 _ (turn_TV _ hdt) ?_ q)
    rw [← hsz]
    exact ⟨_, Heap.get?_push_size _ rfl, rfl, rfl⟩
  show wpAny _ _ (callWith cpos (.builtin "dict.values") [.ref d] [] []) _ X.xe s1
  exact method_meetsIn F.slot_dict_values F.entry_dict_values rfl (PySem.evalArgs_none ⟨rfl, raw.typeIs, F.args_dict_values_1 _, _, meets_dict_values_raw d hs, ⟨⟨es, ep, raw⟩, fin⟩⟩)
/-! {k: v for x in <call>.values()} -/
def mDCompV (f : ME) (own : List Nat) (g : MG) (t : MT) (fk fe : ME) : ME := fun η S => match S with
  | [] => (match f η [] with
    | .ok (.dct (.bl true :: ks) ws) [] => (match rowsD ks ws with
      | some ps => (match dcompL g t fk fe (wipeE (maskE η) own) (ps.map fun p => W.int p.2) [] [] [] with
        | .ok (ksF, wsF) [] => if okDs wsF 60 = true then .ok (.dct (.bl false :: ksF) wsF) [] else .stuck
        | _ => .stuck)
      | none => .stuck)
    | _ => .stuck)
  | _ => .stuck
section
variable {K : PySem.W.Frag} {G : Gs} {γ : Ga} {H H' : Hp} {d : Addr}
theorem itOk_TV {od : Obj} {ps : PK} (hd : H d = some (.frz od (.dT (ps.map kvV)))) (f : γ.Off d) : ItOk K G (ItTV d od (ps.map kvV)) (ps.map fun p => W.int p.2) γ H := by
  have st : ∀ {γ' H'}, ExtW γ H γ' H' → H' d = some (.frz od (.dT (ps.map kvV))) := fun e => e.keep d _ hd f
  refine ⟨fun i γ' H' S hi e _ => ⟨st e, by rw [List.length_map] at hi ⊢; exact hi⟩, fun γ' H' S e _ => ⟨st e, by rw [List.length_map, List.length_map]; exact Nat.le_refl _⟩, ?_⟩
  rintro i w γ' H' S x H'' hw e s' ⟨k, v, hkv, rfl, rfl⟩
  rw [List.getElem?_map] at hw hkv
  cases hp : ps[i]? with
  | none =>
    rw [hp] at hw
    cases hw
  | some p =>
    rw [hp] at hw hkv
    cases hw
    cases hkv
    exact ⟨Ext.refl, s', .int _⟩
end
section
variable {X : Cx} {G : Gs} {e kx vx : Expr} {ifs : List Expr} {scope : Scope} {f fk fe : ME} {g : MG} {t : MT} {is : List Nat} {own : List (Str × Nat)} {pos apos cpos xp : Pos} {xn : Str}
def iTV (te : TE) : TI := fun σ Hm R => te σ Hm fun x H1 => ∃ (d : Addr) (kvs : KL), x = .ref d ∧ ((∃ o, H1 d = some (.frz o (.dT kvs)) ∧ R (ItTV d o kvs) H1) ∨ (H1 d = some (.dT kvs) ∧ ∀ o, R (ItTV d o kvs) (L2.upd H1 d (.frz o (.dT kvs)))))
theorem dcompV_read {Wi : WX} {Q : VK} {σ : L2.St} {H : Hp} (his : ∀ i ∈ is, i ∈ own.map (·.2)) (q : tOf X.K G Wi (mDCompV f (own.map (·.2)) g t fk fe) σ H Q) :
    tDc (iTV (tOf X.K G Wi f)) (tgOf X.K G is g) (ttOf X.K G (fun _ _ _ _ => False) t) (tOf X.K G (fun _ _ _ _ => False) fk) (tOf X.K G (fun _ _ _ _ => False) fe) (own.map (·.2)) σ H (fun v Hn => Q v Hn ∨ ∃ d o u, Hn d = some (.frz o u) ∧ (∀ o' u', H d ≠ some (.frz o' u')) ∧ Q v (L2.upd Hn d u)) := by
  obtain ⟨η, S, γ, he, hs, q⟩ := q
  cases S with
  | cons _ _ => exact q.elim
  | nil =>
  unfold mDCompV at q
  simp only at q
  split at q
  · rename_i ks ws ef
    split at q
    · rename_i ps eps
      split at q
      · rename_i ksF wsF ec
        split at q
        · rename_i hz
          refine ⟨η, [], γ, he, hs, ?_⟩
          rw [ef]
          intro v γ1 H1 e1 r1 s1
          cases r1 with
          | @dct d us _ _ da off rw_ =>
            obtain ⟨kvs, hd, ek, eu⟩ : ∃ kvs : KL, H1 d = some (.dT kvs) ∧ ks = kvs.map (fun p => W.tup (p.1.map keyW)) ∧ us = kvs.map (·.2) := by
              rcases da with ⟨kvs, hd, ek, eu⟩ | ⟨kvs, hd, ek, eu⟩
              · cases ek
              · injection ek with _ ek
                exact ⟨kvs, hd, ek, eu⟩
            subst eu
            have ekv := rows_of eps ek rw_
            subst ekv
            refine ⟨d, ps.map kvV, rfl, .inr ⟨hd, fun od => ?_⟩⟩
            have hk : Dk (.dT (ps.map kvV)) := .inl ⟨_, rfl⟩
            have sL : StoreOk X.K G γ1 (L2.upd H1 d (.frz od (.dT (ps.map kvV)))) [] := s1.at0 hd off
            have heL := (he.mono e1).mask (u := .frz od (.dT (ps.map kvV))) hd hk
            refine dc_turns (Wx' := fun _ _ _ => False) (Q := fun v Hn => Q v Hn ∨ ∃ d o u, Hn d = some (.frz o u) ∧ (∀ o' u', H d ≠ some (.frz o' u')) ∧ Q v (L2.upd Hn d u)) (itOk_TV upd_same off) heL sL his ec fun v γ' H' e2 r2 s2 => ?_
            have nr1 : d ∉ γ.ρ := fun z => off.1 (e1.pre.subset z)
            have hd2 : H' d = some (.frz od (.dT (ps.map kvV))) := e2.keep d _ upd_same off.1
            have off2 : γ'.Off d := e2.off upd_same off
            have eU : Ext γ1 H1 γ' (L2.upd H' d (.dT (ps.map kvV))) := by
              refine ⟨e2.pre, e2.bsub, fun a ha => ?_, fun a o ea na => ?_, fun a h1 h2 => ?_, fun a o ea => ?_⟩
              · rcases e2.bnew a ha with z | z
                · exact .inl z
                · refine .inr ?_
                  by_cases had : a = d
                  · rw [had, upd_same] at z
                    cases z
                  · rw [upd_ne had] at z
                    exact z
              · by_cases had : a = d
                · rw [had] at ea ⊢
                  rw [hd] at ea
                  cases ea
                  exact upd_same
                · rw [upd_ne had]
                  exact e2.keep a o (by rw [upd_ne had]; exact ea) na
              · have z := e2.new a h1 h2
                by_cases had : a = d
                · rw [had, upd_same] at z
                  cases z
                · rw [upd_ne had] at z
                  exact z
              · by_cases had : a = d
                · exact ⟨_, by rw [had]; exact upd_same⟩
                · obtain ⟨o', z⟩ := e2.dom a o (by rw [upd_ne had]; exact ea)
                  exact ⟨o', by rw [upd_ne had]; exact z⟩
            have r3 : Rep X.K G γ' (L2.upd H' d (.dT (ps.map kvV))) (.dct (.bl false :: ksF) wsF) v := by
              cases r2 with
              | @dct D us2 _ _ da2 off3 rw2 =>
                refine .dct (da2.keep fun o z => ?_) off3 (rw2.beside (k := 60) hd2 (.inr ⟨_, _, rfl⟩) hz)
                have nD : D ≠ d := by
                  intro eD
                  rcases da2 with ⟨kvs2, h2, _, _⟩ | ⟨kvs2, h2, _, _⟩ <;> (rw [eD, hd2] at h2; cases h2)
                rw [upd_ne nD]
                exact z
            refine .inr ⟨d, od, _, hd2, fun o' u' z => ?_, q v γ' _ (e1.trans eU) r3 (s2.at0 hd2 off2)⟩
            have z2 := e1.keep d _ z nr1
            rw [hd] at z2
            cases z2
        · exact q.elim
      · exact q.elim
    · exact q.elim
  · exact q.elim
theorem se_dcompV (own : List (Str × Nat)) (cf : Cfg X) (ha : SE X G e f) (ok : BlkOk X.N X.env.scope scope own)
    (hg : ∀ (s : Shared) (H : Hp) (C : Addr) (cl : List (Str × Addr)) (fp : List Addr), Cfg (X.blk s H scope (compEnvC scope cl C X.env) fp) → SG (X.blk s H scope (compEnvC scope cl C X.env) fp) G (.Name xn xp) is g)
    (ht : ∀ (s : Shared) (H : Hp) (C : Addr) (cl : List (Str × Addr)) (fp : List Addr), Cfg (X.blk s H scope (compEnvC scope cl C X.env) fp) → STs (X.blk s H scope (compEnvC scope cl C X.env) fp) G ifs t)
    (hk : ∀ (s : Shared) (H : Hp) (C : Addr) (cl : List (Str × Addr)) (fp : List Addr), Cfg (X.blk s H scope (compEnvC scope cl C X.env) fp) → SE (X.blk s H scope (compEnvC scope cl C X.env) fp) G kx fk)
    (he : ∀ (s : Shared) (H : Hp) (C : Addr) (cl : List (Str × Addr)) (fp : List Addr), Cfg (X.blk s H scope (compEnvC scope cl C X.env) fp) → SE (X.blk s H scope (compEnvC scope cl C X.env) fp) G vx fe)
    (his : ∀ i ∈ is, i ∈ own.map (·.2) := by decide) (hs : ∀ x, foldedSetIterable (.Call (.Attribute e "values" apos) [] [] cpos) X.env x = pure x := by intro _; rfl)
    (hb : attributeBase e "values" X.env (eval e X.env) = eval e X.env := by rfl) (hl : (apos.endLine == cpos.line) = true := by rfl) :
    SE X G (.DictComp kx vx [⟨.Name xn xp, .Call (.Attribute e "values" apos) [] [] cpos, ifs, 0⟩] scope pos) (mDCompV f (own.map (·.2)) g t fk fe) := by
  refine ⟨fun Wi tk => (pe_free (pe_dc (g := tgOf X.K G is g) (tt := ttOf X.K G (fun _ _ _ _ => False) t) (tk := tOf X.K G (fun _ _ _ _ => False) fk) (tv := tOf X.K G (fun _ _ _ _ => False) fe) cf.calm cf.nd (pi_TV (ha.run Wi tk) hb hl) ok (fun s H C cl fp => (hg s H C cl fp (cf.blk ..)).run) (fun s H C cl fp => (ht s H C cl fp (cf.blk ..)).run _ takes0) (fun s H C cl fp => (hk s H C cl fp (cf.blk ..)).run _ takes0) (fun s H C cl fp => (he s H C cl fp (cf.blk ..)).run _ takes0) hs)).imp ?_⟩
  intro σ H Q q
  exact dcompV_read his q
end
end Mp
set_option Elab.async false
set_option linter.all false
set_option maxRecDepth 100000
set_option maxHeartbeats 4000000
/-! Mp: one sign by a number. -/
namespace Mp
open PySem PySem.Spec PyProof.Rows L2
def opMulS : O2 := fun x y S => match x, y with
  | .str [c], .int k => if 1 ≤ k ∧ k ≤ 1000 then some (.str (List.replicate k.toNat c)) else none
  | x, y => opMulT x y S
theorem rep_cps (c : Nat) : ∀ (m : Nat) (acc : Array Nat), (List.replicate m #[c]).foldl (· ++ ·) acc = acc ++ (List.replicate m c).toArray
  | 0, acc => by simp
  | m + 1, acc => by
    rw [List.replicate_succ, List.foldl_cons, rep_cps c m, List.replicate_succ, Array.append_assoc]
    refine congrArg (acc ++ ·) (Array.ext' ?_)
    simp
theorem o2_mulS {X : Cx} {G : Gs} : OpR X (binaryOp .Mult) (rOf X.K G opMulS) := by
  intro pins s σ H x y v u Q I rx ry h
  obtain ⟨wx, wy, S, γ, w, r1, r2, ss, h, k⟩ := h
  unfold opMulS at h
  split at h
  · rename_i c n
    split at h
    · rename_i hl
      cases h
      cases r1 with
      | str _ h1 h2 =>
      cases r2
      obtain ⟨t, rfl⟩ := rx
      obtain ⟨t', rfl⟩ := ry
      have rep : ∀ γ' H', Rep X.K G γ' H' (.str (List.replicate n.toNat c)) (.str ⟨(List.replicate n.toNat c).toArray⟩) := fun γ' H' => .str _ (fun d hd => by
        rw [(List.mem_replicate.mp hd).2]
        exact h1 c (List.mem_singleton.mpr rfl)) (by rw [List.length_replicate, sizeLine_eq]; omega)
      have hn1 : ¬ n < 1 := by omega
      have hlen : (⟨[c].toArray⟩ : Str).length = 1 := rfl
      refine PySem.P.mul_str ?_ (fun _ _ => ?_) (fun _ _ => ?_) ?_
      · have a : ¬ n < -(2 ^ 63 : Int) := by omega
        have b : ¬ n ≥ 2 ^ 63 := by omega
        rw [decide_eq_false a, decide_eq_false b] <;> rfl
      · rw [hlen]
        have : (1 : Int) ≤ (2 ^ 63 - 1) / n := by
          rw [Int.le_ediv_iff_mul_le (by omega)]
          omega
        have e : ((1 : Nat) : Int) = 1 := rfl
        rw [e]
        omega
      · rw [hlen, Nat.one_mul]
        unfold Builtin.Str.tooLong
        have : n.toNat ≤ 1000 := by omega
        first
          | exact decide_eq_false (by omega)
          | (rw [sizeLine_eq]; exact decide_eq_false (by omega))
      · rw [if_neg hn1]
        by_cases e1 : n = 1
        · subst e1
          rw [if_pos (by rfl)]
          exact ⟨.str _, H, I, ⟨t, rfl⟩, k _ γ H Ext.refl (rep γ H) ss⟩
        · rw [if_neg (by
            rw [hlen]
            simp [e1])]
          have ec : (List.replicate n.toNat (⟨[c].toArray⟩ : Str).cps).foldl (· ++ ·) #[] = (List.replicate n.toNat c).toArray := by
            have := rep_cps c n.toNat #[]
            rw [show ((⟨[c].toArray⟩ : Str).cps) = #[c] from rfl, this]
            simp
          rw [ec]
          refine ⟨?_, ⟨.str _, H, I.tok _, ⟨_, rfl⟩, k _ γ H Ext.refl (rep γ H) ss⟩⟩
          show ((List.replicate n.toNat c).toArray.size) ≤ _
          simp only [List.size_toArray, List.length_replicate]
          have : n.toNat ≤ 1000 := by omega
          first
            | omega
            | (rw [sizeLine_eq]; omega)
    · cases h
  · exact o2_mulT pins s σ H x y v u Q I rx ry ⟨_, _, S, γ, w, r1, r2, ss, h, k⟩
end Mp
set_option Elab.async false
set_option linter.all false
set_option maxRecDepth 100000
set_option maxHeartbeats 4000000
/-! Mp: sorted pairs (an int, a tuple of ints). -/
namespace Mp
open PySem PySem.Spec PyProof.Rows L2
def leP (p q : Int × List Int) : Bool := if p.1 = q.1 then decide (p.2 ≤ q.2) else decide (p.1 < q.1)
def pW (p : Int × List Int) : W := .tup [.int p.1, .tup (p.2.map .int)]
def pairsQ : List W → Option (List (Int × List Int))
  | [] => some []
  | .tup [.int a, .tup k] :: r => (intsOf k).bind fun k' => (pairsQ r).map ((a, k') :: ·)
  | _ => none
def baSortP : OA := fun xs S => match xs with
  | [x] => (lstOf S x).bind fun ys => (pairsQ ys).map fun ps => .lst ((ps.mergeSort leP).map pW)
  | _ => none
def encP (p : Int × List Int) : PyData := .tuple [.int p.1, .tuple (p.2.map .int)]
theorem ints_back : ∀ {k : List W} {k' : List Int}, intsOf k = some k' → k = k'.map .int
  | [], k', h => by
    cases h
    rfl
  | .int i :: r, k', h => by
    have h : (intsOf r).map (i :: ·) = some k' := h
    rw [Option.map_eq_some_iff] at h
    obtain ⟨k2, h2, rfl⟩ := h
    rw [List.map_cons, ← ints_back h2]
  | .non :: _, _, h => by cases h
  | .bl _ :: _, _, h => by cases h
  | .str _ :: _, _, h => by cases h
  | .tup _ :: _, _, h => by cases h
  | .lst _ :: _, _, h => by cases h
  | .scr _ :: _, _, h => by cases h
  | .dct _ _ :: _, _, h => by cases h
  | .ref _ :: _, _, h => by cases h
  | .fn _ :: _, _, h => by cases h
  | .cls _ :: _, _, h => by cases h
  | .exc _ _ :: _, _, h => by cases h
theorem pairs_back : ∀ {ys : List W} {ps : List (Int × List Int)}, pairsQ ys = some ps → ys = ps.map pW := by
  intro ys
  induction ys with
  | nil =>
    intro ps h
    cases h
    rfl
  | cons y r ih =>
    intro ps h
    unfold pairsQ at h
    split at h
    · rename_i e
      cases e
    · rename_i a k r' e
      cases e
      cases ei : intsOf k with
      | none =>
        rw [ei] at h
        cases h
      | some k' =>
        rw [ei] at h
        have h : (pairsQ r).map ((a, k') :: ·) = some ps := h
        rw [Option.map_eq_some_iff] at h
        obtain ⟨ps2, h2, rfl⟩ := h
        rw [List.map_cons, ← ih h2, ints_back ei] <;> rfl
    · cases h
theorem alike_enc (b b' : Int × List Int) : PySem.W.alike (encP b) (encP b') = true := by
  simp only [encP, PySem.W.alike, PySem.W.alikeAll, PySem.W.alike_ints, Bool.and_self]
theorem lt_enc (p q : Int × List Int) : PySem.W.dataLt (encP p) (encP q) = if p.1 = q.1 then decide (p.2 < q.2) else decide (p.1 < q.1) := by
  unfold encP
  have al : PySem.W.alike (.tuple (p.2.map .int)) (.tuple (q.2.map .int)) = true := by rw [PySem.W.alike]; exact PySem.W.alike_ints _ _
  have e1 : PySem.W.dataLt (.tuple (p.2.map .int)) (.tuple (q.2.map .int)) = decide (p.2 < q.2) := by
    rw [PySem.W.dataLt_tuple, ← PySem.W.dataLt_list]
    exact (PySem.W.dataLt_list ..).trans (PySem.W.dataLt_ints p.2 q.2)
  rw [PySem.W.dataLt_tuple, PySem.W.dataLt_cons (by simp [PySem.W.alike]), PySem.W.dataLt_int]
  by_cases h : p.1 = q.1
  · rw [if_pos (by simp [PyData.eqv, h]), if_pos h, PySem.W.dataLt_cons al, e1]
    by_cases h2 : PyData.eqv (.tuple (p.2.map .int)) (.tuple (q.2.map .int)) = true
    · rw [if_pos h2]
      have z : PySem.W.dataLt (.tuple (p.2.map .int)) (.tuple (q.2.map .int)) = false := by
        by_cases h3 : p.2 = q.2
        · rw [e1, h3]
          exact decide_eq_false (List.lt_irrefl _)
        · exfalso
          have inj : ∀ (a b : List Int), PyData.eqvAll (a.map .int) (b.map .int) = true → a = b := fun a => by
            induction a with
            | nil =>
              intro b e
              cases b with
              | nil => rfl
              | cons _ _ => simp [PyData.eqvAll] at e
            | cons x a ih =>
              intro b e
              cases b with
              | nil => simp [PyData.eqvAll] at e
              | cons y b =>
                simp only [List.map_cons, PyData.eqvAll, Bool.and_eq_true, PyData.eqv] at e
                rw [ih b e.2]
                have := e.1
                simp at this
                rw [this]
          exact h3 (inj _ _ (by simpa [PyData.eqv] using h2))
      rw [← e1, z]
      rfl
    · rw [if_neg h2]
  · rw [if_neg (by simp [PyData.eqv, h]), if_neg h]
theorem le_enc : PySem.W.dataLe false encP = leP := by
  funext p q
  show (!PySem.W.dataLt (encP q) (encP p)) = leP p q
  rw [lt_enc]
  unfold leP
  by_cases h : p.1 = q.1
  · rw [if_pos h.symm, if_pos h]
    by_cases h2 : q.2 < p.2
    · have : ¬ p.2 ≤ q.2 := fun r => List.not_lt.mpr r h2
      simp [h2, this]
    · have : p.2 ≤ q.2 := List.not_lt.mp h2
      simp [h2, this]
  · rw [if_neg (fun e => h e.symm), if_neg h]
    by_cases h2 : q.1 < p.1
    · have : ¬ p.1 < q.1 := by omega
      simp [h2, this]
    · have : p.1 < q.1 := by omega
      simp [h2, this]
section
variable {X : Cx} {G : Gs}
theorem reads_ints {h : Heap} : ∀ {k : List Int} {its : List Value}, Vals (k.map V.int) its → ReadsAll h its (k.map .int) []
  | [], _, .nil => .nil
  | i :: r, _, .cons e t => by
    obtain ⟨tk, rfl⟩ := e
    exact .cons (as := []) (.int i tk) (reads_ints t)
theorem ints_v {K : PySem.W.Frag} {γ : Ga} {H : Hp} : ∀ {k : List Int} {vs : List V}, Reps K G γ H (k.map W.int) vs → vs = k.map V.int
  | [], _, .nil => rfl
  | i :: r, _, .cons e t => by
    cases e
    rw [ints_v t] <;> rfl
theorem reads_pair {pins : List (Addr × Obj)} {σ : L2.St} {H : Hp} {s : Shared} {γ : Ga} (I : Inv X pins σ H s) {p : Int × List Int} {vb : V} {v : Value} (r : Rep X.K G γ H (pW p) vb) (rv : RelV vb v) : ∃ as, Reads s.heap v (encP p) as := by
  cases r with
  | tup f rs =>
    cases rv
    obtain ⟨its, rv, ⟨o, ho, hc, n, hd⟩, _⟩ := I.tuple f.sq
    cases rs with
    | cons r1 rs =>
      cases rs with
      | cons r2 rs =>
        cases rs
        cases r1
        cases r2 with
        | tup f2 r3 =>
          have e3 := ints_v r3
          subst e3
          cases rv with
          | cons a1 rv =>
            cases rv with
            | cons a2 rv =>
              cases rv
              cases a2
              obtain ⟨tk, rfl⟩ := a1
              obtain ⟨its2, rv2, ⟨o2, ho2, hc2, n2, hd2⟩, _⟩ := I.tuple f2.sq
              exact ⟨_, .tuple ho hc hd (.cons (.int _ tk) (.cons (.tuple ho2 hc2 hd2 (reads_ints rv2)) .nil))⟩
theorem cr_sortP (cf : Cfg X) : CallR X (.builtin "sorted") (raOf X.K G baSortP) := by
  intro pins s σ H xs us Q I r0 q
  obtain ⟨ws, S, γ, w, rs, ss, h, k⟩ := q
  unfold baSortP at h
  split at h
  · rename_i x
    cases rs with
    | cons r t =>
      cases t
      cases el : lstOf S x with
      | none =>
        rw [el] at h
        cases h
      | some ys =>
        rw [el] at h
        have h : (pairsQ ys).map (fun ps => W.lst ((ps.mergeSort leP).map pW)) = some w := h
        rw [Option.map_eq_some_iff] at h
        obtain ⟨ps, hp, rfl⟩ := h
        have ey := pairs_back hp
        subst ey
        obtain ⟨a, vs, rfl, hv, rr⟩ := lst_or ss el r
        obtain ⟨its, rv, hl, hlz⟩ := I.list hv
        rw [Vals.ref1 r0]
        have hl0 := rv.length
        have ll := rr.length
        rw [List.length_map] at ll
        have each : ∀ {ps : List (Int × List Int)} {vs : List V} {its : List Value}, Reps X.K G γ H (ps.map pW) vs → Vals vs its → PySem.W.EachIs (fun v b => ∃ vb, RelV vb v ∧ Rep X.K G γ H (pW b) vb) its ps := by
          intro ps
          induction ps with
          | nil =>
            intro vs its r rv
            cases r
            cases rv
            exact .nil
          | cons p ps ih =>
            intro vs its r rv
            cases r with
            | cons r1 r2 =>
              cases rv with
              | cons a1 a2 => exact .cons ⟨_, a1, r1⟩ (ih r2 a2)
        have e1 := each rr rv
        have e2 : PySem.W.EachIs (fun v b => ∃ as, Reads s.heap v (encP b) as) its ps := by
          have mono : ∀ {its : List Value} {ps : List (Int × List Int)}, PySem.W.EachIs (fun v b => ∃ vb, RelV vb v ∧ Rep X.K G γ H (pW b) vb) its ps → PySem.W.EachIs (fun v b => ∃ as, Reads s.heap v (encP b) as) its ps := by
            intro its ps q
            induction q with
            | nil => exact .nil
            | cons hx _ ih =>
              obtain ⟨vb, x1, x2⟩ := hx
              exact .cons (reads_pair I x2 x1) ih
          exact mono e1
        refine PySem.W.sorted_data hl.isList e1 e2 (PySem.W.AllAlike.of alike_enc) (PySem.W.Sortable.tuples fun b => ⟨_, _, rfl⟩) (by omega) (fun b _ => ?_) fun out hol eo => ?_
        · have := cf.un
          have dp : (encP b).depth ≤ 10 := by
            simp only [encP, PyData.depth, PyData.depthAll, PySem.W.depth_ints]
            decide
          omega
        · rw [le_enc] at eo
          obtain ⟨vs2, v2, r2⟩ : ∃ vs2, Vals vs2 out ∧ Reps X.K G γ H ((ps.mergeSort leP).map pW) vs2 := by
            have back : ∀ {its : List Value} {ps : List (Int × List Int)}, PySem.W.EachIs (fun v b => ∃ vb, RelV vb v ∧ Rep X.K G γ H (pW b) vb) its ps → ∃ vs2, Vals vs2 its ∧ Reps X.K G γ H (ps.map pW) vs2 := by
              intro its ps q
              induction q with
              | nil => exact ⟨[], .nil, .nil⟩
              | cons hx _ ih =>
                obtain ⟨vb, x1, x2⟩ := hx
                obtain ⟨vs2, y1, y2⟩ := ih
                exact ⟨vb :: vs2, .cons x1 y1, .cons x2 y2⟩
            exact back eo
          obtain ⟨ep, he'⟩ := PyProof.Rows.sortedAll_at s.heap its out.toArray
          have hf : H (s.heap.objs.size + 1) = none := I.hok.fresh (Nat.le_succ _)
          have l2 := v2.length
          have ex := Ext.upd (K := X.K) (G := G) ss (o := .lst vs2) hf
          exact ⟨.ref (s.heap.objs.size + 1), L2.upd H (s.heap.objs.size + 1) (.lst vs2), I.laid (t' := s.toks) (fun _ _ => PyProof.Rows.sortedAll_old) (Nat.le_succ _) ⟨by omega, out, ep, v2, by simpa using he'⟩, rfl, k _ γ _ ex (.lst upd_same (ss.fresh hf) (r2.mono ex)) (ss.upd hf)⟩
  · cases h
end
end Mp
set_option Elab.async false
set_option linter.all false
set_option maxRecDepth 100000
set_option maxHeartbeats 4000000
namespace Lw
open Mp
/-! the functions -/
def b_is_whole (φ : Fns) : MS := sRet (mAnd (mUn (opIsi 2) (mVar 0)) (mNot (mUn (opIsi 1) (mVar 0))))
def b_is_between (φ : Fns) : MS := sRet (mAnd (mCall φ 0 (maCons (mVar 0) (maNil))) (mChain opLe2 opLe2 (mVar 1) (mVar 0) (mVar 2)))
def b_is_text_of (φ : Fns) : MS := sRet (mAnd (mUn (opIsi 3) (mVar 0)) (mBi baAll (maCons (mComp (miSeq (mVar 0)) [2] (gVar 2) (mtYes) (mBin opInD (mVar 2) (mVar 1))) (maNil))))
def b_check_size (φ : Fns) : MS := sIf (mTNot (mTru (mCall φ 1 (maCons (mVar 0) (maCons (mVar 1) (maCons (mVar 2) (maNil))))))) (sStuck) (sNx)
def b_is_dotted (φ : Fns) : MS := sRet (mAnd (mCall φ 5 (maCons (mVar 0) (maCons (mVar 1) (maNil)))) (mBin opInD (mC (.str [111])) (mVar 1)))
def b_is_goal (φ : Fns) : MS := sRet (mAnd (mCall φ 2 (maCons (mVar 1) (maCons (mBin opAdd (mC (.str [111])) (mC (.str [46]))) (maNil)))) (mBin opEq (mBi baLen (maCons (mVar 1) (maNil))) (mVar 0)))
def p_first_wrong_dotted_1b (φ : Fns) : MS := sIf (mTOr (mTCmp opEq (mVar 2) (mC (.int 12))) (mTOr (mTNot (mTru (mCall φ 4 (maCons (mVar 0) (maCons (mVar 3) (maNil)))))) (mTCmp opIn (mVar 3) (mSl (mVar 1) (moNone) (moSome (mVar 2)))))) (sRet (mVar 2)) (sNx)
def p_first_wrong_dotted_1 (φ : Fns) : MS := sFor (miAll enumW2 (maCons (mVar 1) (maNil))) (gTupW (gsCons (gVar 2) (gsCons (gVar 3) (gsNil)))) (p_first_wrong_dotted_1b φ)
def b_first_wrong_dotted (φ : Fns) : MS := sSeq (p_first_wrong_dotted_1 φ) (sRet (mC .non))
def p_bits_of_2b (φ : Fns) : MS := sSet 1 (mBin opAdd (mBin opMul (mC (.int 2)) (mVar 1)) (mIf (mTCmp opEq (mVar 2) (mC (.str [111]))) (mC (.int 1)) (mC (.int 0))))
def p_bits_of_2 (φ : Fns) : MS := sFor (miSeq (mVar 0)) (gVar 2) (p_bits_of_2b φ)
def b_bits_of (φ : Fns) : MS := sSeq (sSet 1 (mC (.int 0))) (sSeq (p_bits_of_2 φ) (sRet (mVar 1)))
def b_card_of (φ : Fns) : MS := sRet (mJoin (mC (.str [])) (mComp (miRng rng3 (maCons (mBin opSub (mVar 0) (mC (.int 1))) (maCons (mUn opNeg (mC (.int 1))) (maCons (mUn opNeg (mC (.int 1))) (maNil))))) [2] (gVar 2) (mtYes) (mIf (mTCmp opEq (mBin opAnd (mBin opShr (mVar 1) (mVar 2)) (mC (.int 1))) (mC (.int 1))) (mC (.str [111])) (mC (.str [46])))))
def p_sum_of_bits_2b (φ : Fns) : MS := sSet 1 (mBin opXor (mVar 1) (mVar 2))
def p_sum_of_bits_2 (φ : Fns) : MS := sFor (miSeq (mVar 0)) (gVar 2) (p_sum_of_bits_2b φ)
def b_sum_of_bits (φ : Fns) : MS := sSeq (sSet 1 (mC (.int 0))) (sSeq (p_sum_of_bits_2 φ) (sRet (mVar 1)))
def b_dot_sum_by (φ : Fns) : MS := sRet (mCall φ 8 (maCons (mVar 0) (maCons (mCall φ 9 (maCons (mComp (miSeq (mVar 1)) [2] (gVar 2) (mtYes) (mCall φ 7 (maCons (mVar 2) (maNil)))) (maNil))) (maNil))))
def b_sums_of_parts (φ : Fns) : MS := mSums 1 0 (miAll enumW2 (maCons (mVar 0) (maNil))) (gTupW (gsCons (gVar 2) (gsCons (gVar 3) (gsNil)))) (gTupW (gsCons (gVar 4) (gsCons (gVar 5) (gsNil)))) [4, 5] (maStar (mVar 4) (maCons (mVar 2) (maNil))) (mBin opXor (mVar 5) (mCall φ 7 (maCons (mVar 3) (maNil))))
def b_parts_with (φ : Fns) : MS := sSeq (sSet 2 (mCompT (mCall φ 11 (maCons (mVar 0) (maNil))) [3, 4] (gTupW (gsCons (gVar 3) (gsCons (gVar 4) (gsNil)))) (mTCmp opEq (mVar 4) (mVar 1)) (mTup (maCons (mBi baLen (maCons (mVar 3) (maNil))) (maCons (mVar 3) (maNil)))))) (sRet (mComp (miSeq (mBi baSortP (maCons (mVar 2) (maNil)))) [5, 3] (gTupW (gsCons (gVar 5) (gsCons (gVar 3) (gsNil)))) (mtYes) (mVar 3)))
def b_dot_lots_by (φ : Fns) : MS := sRet (mSl (mCall φ 12 (maCons (mVar 0) (maCons (mC (.int 0)) (maNil)))) (moSome (mC (.int 1))) (moNone))
def b_fewest_lot_by (φ : Fns) : MS := sSeq (sSet 1 (mCall φ 13 (maCons (mVar 0) (maNil)))) (sRet (mIf (mTCmp opNe (mVar 1) (mLst (maNil))) (mBin opIx (mVar 1) (mC (.int 0))) (mC .non)))
def b_dot_lots_by_size_by (φ : Fns) : MS := sSeq (sSet 1 (mComp (miSeq (mCall φ 13 (maCons (mVar 0) (maNil)))) [2] (gVar 2) (mtYes) (mBi baLen (maCons (mVar 2) (maNil))))) (sRet (mComp (miRng rng2 (maCons (mC (.int 1)) (maCons (mBin opAdd (mBi baLen (maCons (mVar 0) (maNil))) (mC (.int 1))) (maNil)))) [3] (gVar 3) (mtYes) (mMeth 5 omCountI (mVar 1) (maCons (mVar 3) (maNil)))))
def p_freed_2b (φ : Fns) : MS := sSet 2 (mBi baMin2 (maCons (mVar 2) (maCons (mBin opXor (mVar 2) (mVar 3)) (maNil))))
def p_freed_2 (φ : Fns) : MS := sFor (miSeq (mVar 1)) (gVar 3) (p_freed_2b φ)
def b_freed (φ : Fns) : MS := sSeq (sSet 2 (mVar 0)) (sSeq (p_freed_2 φ) (sRet (mVar 2)))
def b_next_leads (φ : Fns) : MS := sSeq (sSet 2 (mCall φ 16 (maCons (mVar 1) (maCons (mVar 0) (maNil))))) (sRet (mIf (mTCmp opGt2 (mVar 2) (mC (.int 0))) (mRevL (mBi baSorted (maCons (mLst (maStar (mVar 0) (maCons (mVar 2) (maNil)))) (maNil)))) (mVar 0)))
def p_least_base_2b (φ : Fns) : MS := sSeq (sSet 5 (mCall φ 17 (maCons (mVar 2) (maCons (mCall φ 7 (maCons (mVar 4) (maNil))) (maNil))))) (sSeq (sIf (mTCmp opGt2 (mBi baLen (maCons (mVar 5) (maNil))) (mBi baLen (maCons (mVar 2) (maNil)))) (sDrop (mMeth 5 omAppend (mVar 1) (maCons (mVar 3) (maNil)))) (sNx)) (sSet 2 (mVar 5)))
def p_least_base_2 (φ : Fns) : MS := sFor (miAll enumW2 (maCons (mVar 0) (maNil))) (gTupW (gsCons (gVar 3) (gsCons (gVar 4) (gsNil)))) (p_least_base_2b φ)
def b_least_base (φ : Fns) : MS := sSeq (sPar 1 2 (maCons (mLstS (maNil)) (maCons (mLst (maNil)) (maNil)))) (sSeq (p_least_base_2 φ) (sRet (mVar 1)))
def b_rank_by (φ : Fns) : MS := sRet (mBi baLen (maCons (mCall φ 18 (maCons (mVar 0) (maNil))) (maNil)))
def p_bases_by_3b (φ : Fns) : MS := sIf (mTCmp opEq (mCall φ 19 (maCons (mComp (miSeq (mVar 3)) [4] (gVar 4) (mtYes) (mBin opIx (mVar 0) (mVar 4))) (maNil))) (mVar 2)) (sDrop (mMeth 5 omAppend (mVar 1) (maCons (mVar 3) (maNil)))) (sNx)
def p_bases_by_3 (φ : Fns) : MS := sFor (miCombR (mBi baLen (maCons (mVar 0) (maNil))) (mVar 2)) (gVar 3) (p_bases_by_3b φ)
def b_bases_by (φ : Fns) : MS := sSeq (sSet 1 (mLstS (maNil))) (sSeq (sSet 2 (mBi baLen (maCons (mCall φ 18 (maCons (mVar 0) (maNil))) (maNil)))) (sSeq (p_bases_by_3 φ) (sRet (mVar 1))))
def b_dot_deck_by (φ : Fns) : MS := sRet (mComp (miRng rng2 (maCons (mC (.int 1)) (maCons (mBin opShl (mC (.int 1)) (mVar 0)) (maNil)))) [1] (gVar 1) (mtYes) (mCall φ 8 (maCons (mVar 0) (maCons (mVar 1) (maNil)))))
def b_dot_completing_by (φ : Fns) : MS := sSeq (sSet 2 (mDCompV (mCall φ 11 (maCons (mVar 1) (maNil))) [3] (gVar 3) (mtYes) (mVar 3) (mC (.bl true)))) (sRet (mComp (miSeq (mCall φ 21 (maCons (mVar 0) (maNil)))) [4] (gVar 4) (mTAnd (mTCmp opInD (mCall φ 7 (maCons (mVar 4) (maNil))) (mVar 2)) (mTCmp opNotInD (mVar 4) (mVar 1))) (mVar 4)))
def b_check_dots (φ : Fns) : MS := sDrop (mCall φ 3 (maCons (mVar 0) (maCons (mC (.int 1)) (maCons (mC (.int 6)) (maNil)))))
def b_check_row (φ : Fns) : MS := sSeq (sDrop (mCall φ 23 (maCons (mVar 0) (maNil)))) (sSeq (sIf (mTNot (mTru (mUn (opIsi 4) (mVar 1)))) (sStuck) (sNx)) (sSeq (sSet 2 (mCall φ 6 (maCons (mVar 0) (maCons (mVar 1) (maNil))))) (sIf (mTUn opNotN (mVar 2)) (sStuck) (sNx))))
def b_dot_sum (φ : Fns) : MS := sSeq (sDrop (mCall φ 24 (maCons (mVar 0) (maCons (mVar 1) (maNil))))) (sRet (mCall φ 10 (maCons (mVar 0) (maCons (mVar 1) (maNil)))))
def b_dot_lots (φ : Fns) : MS := sSeq (sDrop (mCall φ 24 (maCons (mVar 0) (maCons (mVar 1) (maNil))))) (sRet (mBi baTuple (maCons (mCall φ 13 (maCons (mVar 1) (maNil))) (maNil))))
def b_fewest_lot (φ : Fns) : MS := sSeq (sDrop (mCall φ 24 (maCons (mVar 0) (maCons (mVar 1) (maNil))))) (sRet (mCall φ 14 (maCons (mVar 1) (maNil))))
def b_dot_lots_by_size (φ : Fns) : MS := sSeq (sDrop (mCall φ 24 (maCons (mVar 0) (maCons (mVar 1) (maNil))))) (sRet (mBi baTuple (maCons (mCall φ 15 (maCons (mVar 1) (maNil))) (maNil))))
def b_rank (φ : Fns) : MS := sSeq (sDrop (mCall φ 24 (maCons (mVar 0) (maCons (mVar 1) (maNil))))) (sRet (mCall φ 19 (maCons (mVar 1) (maNil))))
def b_bases (φ : Fns) : MS := sSeq (sDrop (mCall φ 24 (maCons (mVar 0) (maCons (mVar 1) (maNil))))) (sRet (mBi baTuple (maCons (mCall φ 20 (maCons (mVar 1) (maNil))) (maNil))))
def b_base_count (φ : Fns) : MS := sSeq (sDrop (mCall φ 24 (maCons (mVar 0) (maCons (mVar 1) (maNil))))) (sRet (mBi baLen (maCons (mCall φ 20 (maCons (mVar 1) (maNil))) (maNil))))
def b_dot_completing (φ : Fns) : MS := sSeq (sDrop (mCall φ 24 (maCons (mVar 0) (maCons (mVar 1) (maNil))))) (sRet (mBi baTuple (maCons (mCall φ 22 (maCons (mVar 0) (maCons (mVar 1) (maNil)))) (maNil))))
def b_certify_dots (φ : Fns) : MS := sSeq (sDrop (mCall φ 24 (maCons (mVar 0) (maCons (mVar 1) (maNil))))) (sSeq (sSet 2 (mCall φ 14 (maCons (mVar 1) (maNil)))) (sRet (mIf (mTUn opIsN (mVar 2)) (mTup (maCons (mTup (maCons (mC (.str [115, 117, 109, 108, 101, 115, 115])) (maCons (mVar 0) (maCons (mVar 1) (maNil))))) (maCons (mTup (maNil)) (maNil)))) (mTup (maCons (mTup (maCons (mC (.str [115, 117, 109, 115])) (maCons (mVar 0) (maCons (mVar 1) (maNil))))) (maCons (mVar 2) (maNil)))))))
def p_law_well_3b (φ : Fns) : MS := sSet 3 (mBin opMod (mBi baInt (maCons (mBin opAdd (mBin opAdd (mBin opMul (mVar 3) (mC (.int 48271))) (mBin opMod (mBi baInt (maCons (mVar 4) (maNil))) (mC (.int 2147483399)))) (mC (.int 53))) (maNil))) (mC (.int 2147483563)))
def p_law_well_3 (φ : Fns) : MS := sFor (miSeq (mBin opAdd (mSl (mVar 0) (moNone) (moSome (mC (.int 6)))) (mLst (maCons (mVar 2) (maNil))))) (gVar 4) (p_law_well_3b φ)
def b_law_well (φ : Fns) : MS := sSeq (sSet 2 (mIf (mTCmp opLt (mVar 1) (mBi baLen (maCons (mVar 0) (maNil)))) (mBi baInt (maCons (mBin opIx (mVar 0) (mVar 1)) (maNil))) (mBin opAdd (mBin opAdd (mBin opMul (mC (.int 7919)) (mVar 1)) (mBin opMod (mBi baInt (maCons (mBi baSum (maCons (mSl (mVar 0) (moNone) (moSome (mC (.int 3)))) (maNil))) (maNil))) (mC (.int 1000003)))) (mC (.int 29))))) (sSeq (sSet 3 (mBin opAdd (mC (.int 40127)) (mBin opMul (mC (.int 977)) (mVar 1)))) (sSeq (p_law_well_3 φ) (sRet (mLstS (maCons (mIf (mTOr (mTCmp opLt (mVar 2) (mC (.int 0))) (mTCmp opGe (mVar 2) (mBin opPow (mC (.int 10)) (mC (.int 17))))) (mBi baAbs (maCons (mVar 2) (maNil))) (mC (.int 0))) (maCons (mVar 3) (maCons (mC (.int 0)) (maNil))))))))
def b_law_take (φ : Fns) : MS := sSeq (sIf (mTCmp opGt (mBin opIx (mVar 0) (mC (.int 0))) (mC (.int 0))) (sSeq (sAsg (mBi baDivmod (maCons (mBin opIx (mVar 0) (mC (.int 0))) (maCons (mVar 1) (maNil)))) (gTupW (gsCons (gIdx (mVar 0) (mC (.int 0))) (gsCons (gVar 2) (gsNil))))) (sRet (mVar 2))) (sNx)) (sSeq (sAsg (mBin opAdd (mBin opIx (mVar 0) (mC (.int 2))) (mC (.int 1))) (gIdx (mVar 0) (mC (.int 2)))) (sSeq (sSet 3 (mBin opAdd (mBin opMod (mBi baInt (maCons (mBin opIx (mVar 0) (mC (.int 1))) (maNil))) (mC (.int 28657))) (mC (.int 40009)))) (sSeq (sAsg (mBin opMod (mBi baInt (maCons (mBin opAdd (mBin opAdd (mBin opMul (mBin opIx (mVar 0) (mC (.int 1))) (mVar 3)) (mBin opMul (mC (.int 50023)) (mBin opIx (mVar 0) (mC (.int 2))))) (mC (.int 17))) (maNil))) (mC (.int 2147483563))) (gIdx (mVar 0) (mC (.int 1)))) (sRet (mBin opMod (mBi baInt (maCons (mBin opDiv (mBin opIx (mVar 0) (mC (.int 1))) (mC (.int 83))) (maNil))) (mVar 1))))))
def b_law_same (φ : Fns) : MS := sSeq (sIf (mTru (mUn (opIsi 4) (mVar 1))) (sRet (mAnd (mUn (opIsi 4) (mVar 0)) (mAnd (mBin opEq (mBi baLen (maCons (mVar 0) (maNil))) (mBi baLen (maCons (mVar 1) (maNil)))) (mBi baAll (maCons (mComp (miRng rng1 (maCons (mBi baLen (maCons (mVar 1) (maNil))) (maNil))) [2] (gVar 2) (mtYes) (mCall φ 36 (maCons (mBin opIx (mVar 0) (mVar 2)) (maCons (mBin opIx (mVar 1) (mVar 2)) (maNil))))) (maNil)))))) (sNx)) (sSeq (sIf (mTru (mUn (opIsi 5) (mVar 1))) (sRet (mAnd (mUn (opIsi 5) (mVar 0)) (mAnd (mBin opEq (mBi baLen (maCons (mVar 0) (maNil))) (mBi baLen (maCons (mVar 1) (maNil)))) (mBi baAll (maCons (mComp (miRng rng1 (maCons (mBi baLen (maCons (mVar 1) (maNil))) (maNil))) [2] (gVar 2) (mtYes) (mCall φ 36 (maCons (mBin opIx (mVar 0) (mVar 2)) (maCons (mBin opIx (mVar 1) (mVar 2)) (maNil))))) (maNil)))))) (sNx)) (sSeq (sIf (mTUn opIsN (mVar 1)) (sRet (mUn opIsN (mVar 0))) (sNx)) (sSeq (sIf (mTru (mUn (opIsi 1) (mVar 1))) (sRet (mAnd (mUn (opIsi 1) (mVar 0)) (mBin opEq (mVar 0) (mVar 1)))) (sNx)) (sSeq (sIf (mTru (mUn (opIsi 2) (mVar 1))) (sRet (mAnd (mUn (opIsi 2) (mVar 0)) (mAnd (mNot (mUn (opIsi 1) (mVar 0))) (mBin opEq (mVar 0) (mVar 1))))) (sNx)) (sSeq (sIf (mTru (mUn (opIsi 3) (mVar 1))) (sRet (mAnd (mUn (opIsi 3) (mVar 0)) (mBin opEq (mVar 0) (mVar 1)))) (sNx)) (sRet (mBin opEq (mVar 0) (mVar 1))))))))
def p_law_card_2b (φ : Fns) : MS := sSeq (sSet 2 (mBin opAdd (mIf (mTCmp opEq (mBin opMod (mBi baInt (maCons (mVar 0) (maNil))) (mC (.int 2))) (mC (.int 1))) (mC (.str [111])) (mC (.str [46]))) (mVar 2))) (sSet 0 (mBin opDiv (mVar 0) (mC (.int 2))))
def p_law_card_2 (φ : Fns) : MS := sFor (miRng rng1 (maCons (mVar 1) (maNil))) (gVar 3) (p_law_card_2b φ)
def b_law_card (φ : Fns) : MS := sSeq (sSet 2 (mC (.str []))) (sSeq (p_law_card_2 φ) (sRet (mVar 2)))
def p_law_number_2b (φ : Fns) : MS := sSet 1 (mBin opAdd (mBin opMul (mC (.int 2)) (mVar 1)) (mIf (mTCmp opEq (mVar 2) (mC (.str [111]))) (mC (.int 1)) (mC (.int 0))))
def p_law_number_2 (φ : Fns) : MS := sFor (miSeq (mVar 0)) (gVar 2) (p_law_number_2b φ)
def b_law_number (φ : Fns) : MS := sSeq (sSet 1 (mC (.int 0))) (sSeq (p_law_number_2 φ) (sRet (mVar 1)))
def p_law_row_3b (φ : Fns) : MS := sIf (mTAnd (mTCmp opEq (mVar 3) (mC (.int 1))) (mTAnd (mTCmp opGt2 (mBi baLen (maCons (mVar 4) (maNil))) (mC (.int 1))) (mTCmp opEq (mCall φ 35 (maCons (mVar 0) (maCons (mC (.int 2)) (maNil)))) (mC (.int 0))))) (sSeq (sSet 7 (mBin opXor (mBin opIx (mVar 4) (mCall φ 35 (maCons (mVar 0) (maCons (mBi baLen (maCons (mVar 4) (maNil))) (maNil))))) (mBin opIx (mVar 4) (mCall φ 35 (maCons (mVar 0) (maCons (mBi baLen (maCons (mVar 4) (maNil))) (maNil))))))) (sIf (mTCmp opIn (mVar 7) (mVar 2)) (sSeq (sDrop (mMeth 5 omRemoveI (mVar 2) (maCons (mVar 7) (maNil)))) (sDrop (mMeth 5 omAppend (mVar 4) (maCons (mVar 7) (maNil))))) (sNx))) (sIf (mTCmp opGt2 (mBi baLen (maCons (mVar 2) (maNil))) (mC (.int 0))) (sDrop (mMeth 5 omAppend (mVar 4) (maCons (mMeth 5 omPopAt (mVar 2) (maCons (mCall φ 35 (maCons (mVar 0) (maCons (mBi baMin2 (maCons (mBi baLen (maCons (mVar 2) (maNil))) (maCons (mIf (mTCmp opEq (mVar 3) (mC (.int 2))) (mC (.int 4)) (mBi baLen (maCons (mVar 2) (maNil)))) (maNil)))) (maNil)))) (maNil))) (maNil)))) (sNx))
def p_law_row_3 (φ : Fns) : MS := sFor (miRng rng1 (maCons (mVar 5) (maNil))) (gVar 6) (p_law_row_3b φ)
def b_law_row (φ : Fns) : MS := sSeq (sPar 2 3 (maCons (mRg2 1 (mC (.int 1)) (mCall φ 40 (maCons (mVar 1) (maNil)))) (maCons (mCall φ 35 (maCons (mVar 0) (maCons (mC (.int 3)) (maNil)))) (maNil)))) (sSeq (sPar 4 5 (maCons (mLstS (maNil)) (maCons (mCall φ 35 (maCons (mVar 0) (maCons (mBin opAdd (mBi baMin2 (maCons (mC (.int 12)) (maCons (mBi baLen (maCons (mVar 2) (maNil))) (maNil)))) (mC (.int 1))) (maNil)))) (maNil)))) (sSeq (p_law_row_3 φ) (sRet (mBi baTuple (maCons (mCompD false (mVar 4) [8] (gVar 8) (mtYes) (mCall φ 37 (maCons (mVar 8) (maCons (mVar 1) (maNil))))) (maNil))))))
def p_law_two_2b (φ : Fns) : MS := sSet 1 (mBin opMul (mVar 1) (mC (.int 2)))
def p_law_two_2 (φ : Fns) : MS := sFor (miRng rng1 (maCons (mVar 0) (maNil))) (gVar 2) (p_law_two_2b φ)
def b_law_two (φ : Fns) : MS := sSeq (sSet 1 (mC (.int 1))) (sSeq (p_law_two_2 φ) (sRet (mVar 1)))
def p_law_reduced_2b1b (φ : Fns) : MS := sSet 2 (mBi baMin2 (maCons (mVar 2) (maCons (mBin opXor (mVar 2) (mVar 3)) (maNil))))
def p_law_reduced_2b1 (φ : Fns) : MS := sForD (mVar 1) (gVar 3) (p_law_reduced_2b1b φ)
def p_law_reduced_2b (φ : Fns) : MS := sSeq (p_law_reduced_2b1 φ) (sIf (mTCmp opGt2 (mVar 2) (mC (.int 0))) (sDrop (mMeth 5 omAppend (mVar 1) (maCons (mVar 2) (maNil)))) (sNx))
def p_law_reduced_2 (φ : Fns) : MS := sFor (miSeq (mVar 0)) (gVar 2) (p_law_reduced_2b φ)
def b_law_reduced (φ : Fns) : MS := sSeq (sSet 1 (mLstS (maNil))) (sSeq (p_law_reduced_2 φ) (sRet (mVar 1)))
def p_law_drawn_2b (φ : Fns) : MS := sSeq (sSet 4 (mCall φ 35 (maCons (mVar 0) (maCons (mVar 1) (maNil))))) (sDrop (mMeth 5 omAppend (mVar 2) (maCons (mTup (maCons (mVar 4) (maCons (mBin opMod (mBi baInt (maCons (mBin opAdd (mBin opAdd (mVar 4) (mC (.int 1))) (mCall φ 35 (maCons (mVar 0) (maCons (mBin opSub (mVar 1) (mC (.int 1))) (maNil))))) (maNil))) (mVar 1)) (maNil)))) (maNil))))
def p_law_drawn_2 (φ : Fns) : MS := sFor (miRng rng1 (maCons (mBin opAdd (mC (.int 1)) (mCall φ 35 (maCons (mVar 0) (maCons (mC (.int 6)) (maNil))))) (maNil))) (gVar 3) (p_law_drawn_2b φ)
def b_law_drawn (φ : Fns) : MS := sSeq (sSet 2 (mLstS (maNil))) (sSeq (p_law_drawn_2 φ) (sRet (mVar 2)))
def p_law_led_2b (φ : Fns) : MS := sAsg (mBin opXor (mBin opIx (mVar 2) (mVar 3)) (mBin opIx (mVar 2) (mVar 4))) (gIdx (mVar 2) (mVar 3))
def p_law_led_2 (φ : Fns) : MS := sFor (miSeq (mVar 1)) (gTupW (gsCons (gVar 3) (gsCons (gVar 4) (gsNil)))) (p_law_led_2b φ)
def b_law_led (φ : Fns) : MS := sSeq (sSet 2 (mCompS (miSeq (mVar 0)) [5] (gVar 5) (mtYes) (mIf (mTCmp opEq (mVar 5) (mC (.str [111]))) (mC (.int 1)) (mC (.int 0))))) (sSeq (p_law_led_2 φ) (sRet (mJoin (mC (.str [])) (mCompD false (mVar 2) [5] (gVar 5) (mtYes) (mIf (mTCmp opEq (mVar 5) (mC (.int 1))) (mC (.str [111])) (mC (.str [46])))))))
def b_law_told (φ : Fns) : MS := sRet (mTup (maCons (mCall φ 26 (maCons (mVar 0) (maCons (mVar 1) (maNil)))) (maCons (mCall φ 30 (maCons (mVar 0) (maCons (mVar 1) (maNil)))) (maCons (mCall φ 29 (maCons (mVar 0) (maCons (mVar 1) (maNil)))) (maCons (mCall φ 27 (maCons (mVar 0) (maCons (mVar 1) (maNil)))) (maCons (mCall φ 28 (maCons (mVar 0) (maCons (mVar 1) (maNil)))) (maCons (mCall φ 31 (maCons (mVar 0) (maCons (mVar 1) (maNil)))) (maCons (mBin opIx (mBin opIx (mCall φ 33 (maCons (mVar 0) (maCons (mVar 1) (maNil)))) (mC (.int 0))) (mC (.int 0))) (maNil)))))))))
def b_law_asked (φ : Fns) : MS := sSeq (sSet 3 (mCall φ 42 (maCons (mVar 0) (maCons (mVar 1) (maNil))))) (sSeq (sSet 4 (mBi baTuple (maCons (mComp (miSeq (mVar 2)) [7] (gVar 7) (mtYes) (mCall φ 43 (maCons (mVar 7) (maCons (mVar 3) (maNil))))) (maNil)))) (sSeq (sIf (mTOr (mTNot (mTru (mCall φ 36 (maCons (mCall φ 44 (maCons (mVar 1) (maCons (mVar 4) (maNil)))) (maCons (mCall φ 44 (maCons (mVar 1) (maCons (mVar 2) (maNil)))) (maNil)))))) (mTNot (mTru (mCall φ 36 (maCons (mBi baTuple (maCons (mComp (miSeq (mVar 4)) [7] (gVar 7) (mtYes) (mCall φ 43 (maCons (mVar 7) (maCons (mRev (mVar 3)) (maNil))))) (maNil))) (maCons (mVar 2) (maNil))))))) (sRet (mC (.bl false))) (sNx)) (sSeq (sIf (mTCmp opNe (mCall φ 29 (maCons (mVar 1) (maCons (mVar 2) (maNil)))) (mBi baLen (maCons (mCall φ 41 (maCons (mComp (miSeq (mVar 2)) [7] (gVar 7) (mtYes) (mCall φ 38 (maCons (mVar 7) (maNil)))) (maNil))) (maNil)))) (sRet (mC (.bl false))) (sNx)) (sSeq (sIf (mTNot (mTru (mCall φ 36 (maCons (mCall φ 32 (maCons (mVar 1) (maCons (mVar 4) (maNil)))) (maCons (mBi baTuple (maCons (mBi baSorted (maCons (mComp (miSeq (mCall φ 32 (maCons (mVar 1) (maCons (mVar 2) (maNil))))) [7] (gVar 7) (mtYes) (mCall φ 43 (maCons (mVar 7) (maCons (mVar 3) (maNil))))) (maNil))) (maNil))) (maNil)))))) (sRet (mC (.bl false))) (sNx)) (sSeq (sIf (mTNot (mTru (mCall φ 36 (maCons (mCall φ 25 (maCons (mVar 1) (maCons (mVar 4) (maNil)))) (maCons (mCall φ 43 (maCons (mCall φ 25 (maCons (mVar 1) (maCons (mVar 2) (maNil)))) (maCons (mVar 3) (maNil)))) (maNil)))))) (sRet (mC (.bl false))) (sNx)) (sSeq (sSet 5 (mComp (miRng rng1 (maCons (mVar 1) (maNil))) [8] (gVar 8) (mTCmp opEq (mCall φ 35 (maCons (mVar 0) (maCons (mC (.int 2)) (maNil)))) (mC (.int 0))) (mVar 8))) (sSeq (sSet 6 (mBi baTuple (maCons (mComp (miSeq (mVar 2)) [7] (gVar 7) (mtYes) (mBin opAdd (mVar 7) (mIf (mTCmp opEq (mBin opAnd (mBi baLen (maCons (mComp (miSeq (mVar 5)) [8] (gVar 8) (mTCmp opEq (mBin opIx (mVar 7) (mVar 8)) (mC (.str [111]))) (mVar 8)) (maNil))) (mC (.int 1))) (mC (.int 1))) (mC (.str [111])) (mC (.str [46]))))) (maNil)))) (sRet (mOr (mBin opGt2 (mVar 1) (mC (.int 5))) (mCall φ 36 (maCons (mCall φ 44 (maCons (mBin opAdd (mVar 1) (mC (.int 1))) (maCons (mVar 6) (maNil)))) (maCons (mCall φ 44 (maCons (mVar 1) (maCons (mVar 2) (maNil)))) (maNil)))))))))))))
def b_law_beside (φ : Fns) : MS := sSeq (sAsg (mTup (maCons (mBin opAdd (mC (.int 1)) (mCall φ 35 (maCons (mVar 0) (maCons (mC (.int 3)) (maNil))))) (maCons (mBin opAdd (mC (.int 1)) (mCall φ 35 (maCons (mVar 0) (maCons (mC (.int 3)) (maNil))))) (maNil)))) (gTupW (gsCons (gVar 1) (gsCons (gVar 2) (gsNil))))) (sSeq (sAsg (mTup (maCons (mSl (mCall φ 39 (maCons (mVar 0) (maCons (mVar 1) (maNil)))) (moNone) (moSome (mC (.int 6)))) (maCons (mSl (mCall φ 39 (maCons (mVar 0) (maCons (mVar 2) (maNil)))) (moNone) (moSome (mC (.int 6)))) (maNil)))) (gTupW (gsCons (gVar 3) (gsCons (gVar 4) (gsNil))))) (sSeq (sSet 5 (mBin opAdd (mBi baTuple (maCons (mComp (miSeq (mVar 3)) [7] (gVar 7) (mtYes) (mBin opAdd (mVar 7) (mBin opMulS (mC (.str [46])) (mVar 2)))) (maNil))) (mBi baTuple (maCons (mComp (miSeq (mVar 4)) [7] (gVar 7) (mtYes) (mBin opAdd (mBin opMulS (mC (.str [46])) (mVar 1)) (mVar 7))) (maNil))))) (sSeq (sSet 6 (mComp (miSeq (mCall φ 26 (maCons (mBin opAdd (mVar 1) (mVar 2)) (maCons (mVar 5) (maNil))))) [8] (gVar 8) (mTOr (mTCmp opLt2 (mBin opIx (mVar 8) (mBin opSub (mBi baLen (maCons (mVar 8) (maNil))) (mC (.int 1)))) (mBi baLen (maCons (mVar 3) (maNil)))) (mTCmp opGe2 (mBin opIx (mVar 8) (mC (.int 0))) (mBi baLen (maCons (mVar 3) (maNil))))) (mVar 8))) (sSeq (sIf (mTCmp opNe (mBi baTuple (maCons (mComp (miSeq (mVar 6)) [8] (gVar 8) (mTCmp opLt2 (mBin opIx (mVar 8) (mC (.int 0))) (mBi baLen (maCons (mVar 3) (maNil)))) (mVar 8)) (maNil))) (mCall φ 26 (maCons (mVar 1) (maCons (mVar 3) (maNil))))) (sRet (mC (.bl false))) (sNx)) (sSeq (sIf (mTCmp opNe (mBi baTuple (maCons (mComp (miSeq (mVar 6)) [8] (gVar 8) (mTCmp opGe2 (mBin opIx (mVar 8) (mC (.int 0))) (mBi baLen (maCons (mVar 3) (maNil)))) (mBi baTuple (maCons (mComp (miSeq (mVar 8)) [9] (gVar 9) (mtYes) (mBin opSub (mVar 9) (mBi baLen (maCons (mVar 3) (maNil))))) (maNil)))) (maNil))) (mCall φ 26 (maCons (mVar 2) (maCons (mVar 4) (maNil))))) (sRet (mC (.bl false))) (sNx)) (sRet (mAnd (mBin opEq (mCall φ 29 (maCons (mBin opAdd (mVar 1) (mVar 2)) (maCons (mVar 5) (maNil)))) (mBin opAdd (mCall φ 29 (maCons (mVar 1) (maCons (mVar 3) (maNil)))) (mCall φ 29 (maCons (mVar 2) (maCons (mVar 4) (maNil)))))) (mBin opEq (mCall φ 31 (maCons (mBin opAdd (mVar 1) (mVar 2)) (maCons (mVar 5) (maNil)))) (mBin opMul (mCall φ 31 (maCons (mVar 1) (maCons (mVar 3) (maNil)))) (mCall φ 31 (maCons (mVar 2) (maCons (mVar 4) (maNil)))))))))))))
def p_law_1b2b (φ : Fns) : MS := sIf (mTNot (mTru (mCall φ 45 (maCons (mVar 2) (maCons (mVar 3) (maCons (mSl (mCall φ 39 (maCons (mVar 2) (maCons (mVar 3) (maNil)))) (moNone) (moSome (mC (.int 10)))) (maNil))))))) (sRet (mC (.bl false))) (sNx)
def p_law_1b2 (φ : Fns) : MS := sFor (miSeq (mLst (maCons (mBin opAdd (mC (.int 2)) (mCall φ 35 (maCons (mVar 2) (maCons (mC (.int 5)) (maNil))))) (maCons (mBin opAdd (mC (.int 2)) (mCall φ 35 (maCons (mVar 2) (maCons (mC (.int 3)) (maNil))))) (maNil))))) (gVar 3) (p_law_1b2b φ)
def p_law_1b (φ : Fns) : MS := sSeq (sSet 2 (mCall φ 34 (maCons (mVar 0) (maCons (mVar 1) (maNil))))) (sSeq (p_law_1b2 φ) (sIf (mTNot (mTru (mCall φ 46 (maCons (mVar 2) (maNil))))) (sRet (mC (.bl false))) (sNx)))
def p_law_1 (φ : Fns) : MS := sFor (miRng rng1 (maCons (mBi baMax2 (maCons (mC (.int 4)) (maCons (mBi baMin2 (maCons (mBi baLen (maCons (mVar 0) (maNil))) (maCons (mC (.int 7)) (maNil)))) (maNil)))) (maNil))) (gVar 1) (p_law_1b φ)
def b_law (φ : Fns) : MS := sSeq (p_law_1 φ) (sRet (mC (.bl true)))
def T : List Mp.Fun := [⟨1, 1, false, true, b_is_whole⟩, ⟨3, 3, false, true, b_is_between⟩, ⟨2, 3, false, true, b_is_text_of⟩, ⟨3, 3, false, true, b_check_size⟩, ⟨2, 2, false, true, b_is_dotted⟩, ⟨2, 2, false, true, b_is_goal⟩, ⟨2, 4, false, true, b_first_wrong_dotted⟩, ⟨1, 3, false, true, b_bits_of⟩, ⟨2, 3, false, true, b_card_of⟩, ⟨1, 3, false, true, b_sum_of_bits⟩, ⟨2, 3, false, true, b_dot_sum_by⟩, ⟨1, 6, false, true, b_sums_of_parts⟩, ⟨2, 6, false, true, b_parts_with⟩, ⟨1, 1, false, true, b_dot_lots_by⟩, ⟨1, 2, false, true, b_fewest_lot_by⟩, ⟨1, 4, false, true, b_dot_lots_by_size_by⟩, ⟨2, 4, false, true, b_freed⟩, ⟨2, 3, false, true, b_next_leads⟩, ⟨1, 6, false, true, b_least_base⟩, ⟨1, 1, false, true, b_rank_by⟩, ⟨1, 5, false, true, b_bases_by⟩, ⟨1, 2, false, true, b_dot_deck_by⟩, ⟨2, 5, false, true, b_dot_completing_by⟩, ⟨1, 1, false, true, b_check_dots⟩, ⟨2, 3, false, true, b_check_row⟩, ⟨2, 2, false, true, b_dot_sum⟩, ⟨2, 2, false, true, b_dot_lots⟩, ⟨2, 2, false, true, b_fewest_lot⟩, ⟨2, 2, false, true, b_dot_lots_by_size⟩, ⟨2, 2, false, true, b_rank⟩, ⟨2, 2, false, true, b_bases⟩, ⟨2, 2, false, true, b_base_count⟩, ⟨2, 2, false, true, b_dot_completing⟩, ⟨2, 3, false, true, b_certify_dots⟩, ⟨2, 5, true, false, b_law_well⟩, ⟨2, 4, false, false, b_law_take⟩, ⟨2, 3, false, true, b_law_same⟩, ⟨2, 4, false, true, b_law_card⟩, ⟨1, 3, false, true, b_law_number⟩, ⟨2, 9, false, false, b_law_row⟩, ⟨1, 3, false, true, b_law_two⟩, ⟨1, 4, false, true, b_law_reduced⟩, ⟨2, 5, false, false, b_law_drawn⟩, ⟨2, 6, false, true, b_law_led⟩, ⟨2, 2, false, true, b_law_told⟩, ⟨3, 9, false, false, b_law_asked⟩, ⟨1, 10, false, false, b_law_beside⟩, ⟨1, 4, false, true, b_law⟩]
end Lw
namespace Lw
open PySem PySem.Spec PyProof.Rows L2 Mp
def N_is_whole : List Str := ["value"]
theorem s_is_whole : FnScope N_is_whole r_is_whole.ps (defScope r_is_whole.st) := ⟨rfl, rfl, rfl, by decide +kernel, rfl, by decide +kernel, by decide +kernel⟩
def N_is_between : List Str := ["value", "low", "high"]
theorem s_is_between : FnScope N_is_between r_is_between.ps (defScope r_is_between.st) := ⟨rfl, rfl, rfl, by decide +kernel, rfl, by decide +kernel, by decide +kernel⟩
def N_is_text_of : List Str := ["value", "signs", "sign"]
theorem s_is_text_of : FnScope N_is_text_of r_is_text_of.ps (defScope r_is_text_of.st) := ⟨rfl, rfl, rfl, by decide +kernel, rfl, by decide +kernel, by decide +kernel⟩
def N_check_size : List Str := ["size", "low", "high"]
theorem s_check_size : FnScope N_check_size r_check_size.ps (defScope r_check_size.st) := ⟨rfl, rfl, rfl, by decide +kernel, rfl, by decide +kernel, by decide +kernel⟩
def N_is_dotted : List Str := ["size", "value"]
theorem s_is_dotted : FnScope N_is_dotted r_is_dotted.ps (defScope r_is_dotted.st) := ⟨rfl, rfl, rfl, by decide +kernel, rfl, by decide +kernel, by decide +kernel⟩
def N_is_goal : List Str := ["size", "value"]
theorem s_is_goal : FnScope N_is_goal r_is_goal.ps (defScope r_is_goal.st) := ⟨rfl, rfl, rfl, by decide +kernel, rfl, by decide +kernel, by decide +kernel⟩
def N_first_wrong_dotted : List Str := ["size", "value", "index", "card"]
theorem s_first_wrong_dotted : FnScope N_first_wrong_dotted r_first_wrong_dotted.ps (defScope r_first_wrong_dotted.st) := ⟨rfl, rfl, rfl, by decide +kernel, rfl, by decide +kernel, by decide +kernel⟩
def N_bits_of : List Str := ["card", "found", "sign"]
theorem s_bits_of : FnScope N_bits_of r_bits_of.ps (defScope r_bits_of.st) := ⟨rfl, rfl, rfl, by decide +kernel, rfl, by decide +kernel, by decide +kernel⟩
def N_card_of : List Str := ["size", "bits", "at"]
theorem s_card_of : FnScope N_card_of r_card_of.ps (defScope r_card_of.st) := ⟨rfl, rfl, rfl, by decide +kernel, rfl, by decide +kernel, by decide +kernel⟩
def N_sum_of_bits : List Str := ["some", "found", "bits"]
theorem s_sum_of_bits : FnScope N_sum_of_bits r_sum_of_bits.ps (defScope r_sum_of_bits.st) := ⟨rfl, rfl, rfl, by decide +kernel, rfl, by decide +kernel, by decide +kernel⟩
def N_dot_sum_by : List Str := ["size", "row", "card"]
theorem s_dot_sum_by : FnScope N_dot_sum_by r_dot_sum_by.ps (defScope r_dot_sum_by.st) := ⟨rfl, rfl, rfl, by decide +kernel, rfl, by decide +kernel, by decide +kernel⟩
def N_sums_of_parts : List Str := ["row", "found", "index", "card", "part", "total"]
theorem s_sums_of_parts : FnScope N_sums_of_parts r_sums_of_parts.ps (defScope r_sums_of_parts.st) := ⟨rfl, rfl, rfl, by decide +kernel, rfl, by decide +kernel, by decide +kernel⟩
def N_parts_with : List Str := ["row", "bits", "some", "part", "total", "many"]
theorem s_parts_with : FnScope N_parts_with r_parts_with.ps (defScope r_parts_with.st) := ⟨rfl, rfl, rfl, by decide +kernel, rfl, by decide +kernel, by decide +kernel⟩
def N_dot_lots_by : List Str := ["row"]
theorem s_dot_lots_by : FnScope N_dot_lots_by r_dot_lots_by.ps (defScope r_dot_lots_by.st) := ⟨rfl, rfl, rfl, by decide +kernel, rfl, by decide +kernel, by decide +kernel⟩
def N_fewest_lot_by : List Str := ["row", "found"]
theorem s_fewest_lot_by : FnScope N_fewest_lot_by r_fewest_lot_by.ps (defScope r_fewest_lot_by.st) := ⟨rfl, rfl, rfl, by decide +kernel, rfl, by decide +kernel, by decide +kernel⟩
def N_dot_lots_by_size_by : List Str := ["row", "sizes", "part", "many"]
theorem s_dot_lots_by_size_by : FnScope N_dot_lots_by_size_by r_dot_lots_by_size_by.ps (defScope r_dot_lots_by_size_by.st) := ⟨rfl, rfl, rfl, by decide +kernel, rfl, by decide +kernel, by decide +kernel⟩
def N_freed : List Str := ["bits", "leads", "found", "lead"]
theorem s_freed : FnScope N_freed r_freed.ps (defScope r_freed.st) := ⟨rfl, rfl, rfl, by decide +kernel, rfl, by decide +kernel, by decide +kernel⟩
def N_next_leads : List Str := ["leads", "bits", "rest"]
theorem s_next_leads : FnScope N_next_leads r_next_leads.ps (defScope r_next_leads.st) := ⟨rfl, rfl, rfl, by decide +kernel, rfl, by decide +kernel, by decide +kernel⟩
def N_least_base : List Str := ["row", "found", "leads", "index", "card", "later"]
theorem s_least_base : FnScope N_least_base r_least_base.ps (defScope r_least_base.st) := ⟨rfl, rfl, rfl, by decide +kernel, rfl, by decide +kernel, by decide +kernel⟩
def N_rank_by : List Str := ["row"]
theorem s_rank_by : FnScope N_rank_by r_rank_by.ps (defScope r_rank_by.st) := ⟨rfl, rfl, rfl, by decide +kernel, rfl, by decide +kernel, by decide +kernel⟩
def N_bases_by : List Str := ["row", "found", "many", "part", "index"]
theorem s_bases_by : FnScope N_bases_by r_bases_by.ps (defScope r_bases_by.st) := ⟨rfl, rfl, rfl, by decide +kernel, rfl, by decide +kernel, by decide +kernel⟩
def N_dot_deck_by : List Str := ["size", "bits"]
theorem s_dot_deck_by : FnScope N_dot_deck_by r_dot_deck_by.ps (defScope r_dot_deck_by.st) := ⟨rfl, rfl, rfl, by decide +kernel, rfl, by decide +kernel, by decide +kernel⟩
def N_dot_completing_by : List Str := ["size", "row", "sums", "total", "card"]
theorem s_dot_completing_by : FnScope N_dot_completing_by r_dot_completing_by.ps (defScope r_dot_completing_by.st) := ⟨rfl, rfl, rfl, by decide +kernel, rfl, by decide +kernel, by decide +kernel⟩
def N_check_dots : List Str := ["size"]
theorem s_check_dots : FnScope N_check_dots r_check_dots.ps (defScope r_check_dots.st) := ⟨rfl, rfl, rfl, by decide +kernel, rfl, by decide +kernel, by decide +kernel⟩
def N_check_row : List Str := ["size", "row", "wrong"]
theorem s_check_row : FnScope N_check_row r_check_row.ps (defScope r_check_row.st) := ⟨rfl, rfl, rfl, by decide +kernel, rfl, by decide +kernel, by decide +kernel⟩
def N_dot_sum : List Str := ["size", "row"]
theorem s_dot_sum : FnScope N_dot_sum r_dot_sum.ps (defScope r_dot_sum.st) := ⟨rfl, rfl, rfl, by decide +kernel, rfl, by decide +kernel, by decide +kernel⟩
def N_dot_lots : List Str := ["size", "row"]
theorem s_dot_lots : FnScope N_dot_lots r_dot_lots.ps (defScope r_dot_lots.st) := ⟨rfl, rfl, rfl, by decide +kernel, rfl, by decide +kernel, by decide +kernel⟩
def N_fewest_lot : List Str := ["size", "row"]
theorem s_fewest_lot : FnScope N_fewest_lot r_fewest_lot.ps (defScope r_fewest_lot.st) := ⟨rfl, rfl, rfl, by decide +kernel, rfl, by decide +kernel, by decide +kernel⟩
def N_dot_lots_by_size : List Str := ["size", "row"]
theorem s_dot_lots_by_size : FnScope N_dot_lots_by_size r_dot_lots_by_size.ps (defScope r_dot_lots_by_size.st) := ⟨rfl, rfl, rfl, by decide +kernel, rfl, by decide +kernel, by decide +kernel⟩
def N_rank : List Str := ["size", "row"]
theorem s_rank : FnScope N_rank r_rank.ps (defScope r_rank.st) := ⟨rfl, rfl, rfl, by decide +kernel, rfl, by decide +kernel, by decide +kernel⟩
def N_bases : List Str := ["size", "row"]
theorem s_bases : FnScope N_bases r_bases.ps (defScope r_bases.st) := ⟨rfl, rfl, rfl, by decide +kernel, rfl, by decide +kernel, by decide +kernel⟩
def N_base_count : List Str := ["size", "row"]
theorem s_base_count : FnScope N_base_count r_base_count.ps (defScope r_base_count.st) := ⟨rfl, rfl, rfl, by decide +kernel, rfl, by decide +kernel, by decide +kernel⟩
def N_dot_completing : List Str := ["size", "row"]
theorem s_dot_completing : FnScope N_dot_completing r_dot_completing.ps (defScope r_dot_completing.st) := ⟨rfl, rfl, rfl, by decide +kernel, rfl, by decide +kernel, by decide +kernel⟩
def N_certify_dots : List Str := ["size", "row", "lot"]
theorem s_certify_dots : FnScope N_certify_dots r_certify_dots.ps (defScope r_certify_dots.st) := ⟨rfl, rfl, rfl, by decide +kernel, rfl, by decide +kernel, by decide +kernel⟩
def N_law_well : List Str := ["script", "turn", "own", "stir", "cell"]
theorem s_law_well : FnScope N_law_well r_law_well.ps (defScope r_law_well.st) := ⟨rfl, rfl, rfl, by decide +kernel, rfl, by decide +kernel, by decide +kernel⟩
def N_law_take : List Str := ["well", "many", "figure", "by"]
theorem s_law_take : FnScope N_law_take r_law_take.ps (defScope r_law_take.st) := ⟨rfl, rfl, rfl, by decide +kernel, rfl, by decide +kernel, by decide +kernel⟩
def N_law_same : List Str := ["told", "due", "k"]
theorem s_law_same : FnScope N_law_same r_law_same.ps (defScope r_law_same.st) := ⟨rfl, rfl, rfl, by decide +kernel, rfl, by decide +kernel, by decide +kernel⟩
def N_law_card : List Str := ["number", "size", "found", "turn"]
theorem s_law_card : FnScope N_law_card r_law_card.ps (defScope r_law_card.st) := ⟨rfl, rfl, rfl, by decide +kernel, rfl, by decide +kernel, by decide +kernel⟩
def N_law_number : List Str := ["card", "found", "sign"]
theorem s_law_number : FnScope N_law_number r_law_number.ps (defScope r_law_number.st) := ⟨rfl, rfl, rfl, by decide +kernel, rfl, by decide +kernel, by decide +kernel⟩
def N_law_row : List Str := ["well", "size", "whole", "share", "found", "many", "turn", "more", "number"]
theorem s_law_row : FnScope N_law_row r_law_row.ps (defScope r_law_row.st) := ⟨rfl, rfl, rfl, by decide +kernel, rfl, by decide +kernel, by decide +kernel⟩
def N_law_two : List Str := ["size", "found", "turn"]
theorem s_law_two : FnScope N_law_two r_law_two.ps (defScope r_law_two.st) := ⟨rfl, rfl, rfl, by decide +kernel, rfl, by decide +kernel, by decide +kernel⟩
def N_law_reduced : List Str := ["numbers", "found", "number", "one"]
theorem s_law_reduced : FnScope N_law_reduced r_law_reduced.ps (defScope r_law_reduced.st) := ⟨rfl, rfl, rfl, by decide +kernel, rfl, by decide +kernel, by decide +kernel⟩
def N_law_drawn : List Str := ["well", "size", "found", "turn", "one"]
theorem s_law_drawn : FnScope N_law_drawn r_law_drawn.ps (defScope r_law_drawn.st) := ⟨rfl, rfl, rfl, by decide +kernel, rfl, by decide +kernel, by decide +kernel⟩
def N_law_led : List Str := ["card", "leadings", "signs", "one", "two", "sign"]
theorem s_law_led : FnScope N_law_led r_law_led.ps (defScope r_law_led.st) := ⟨rfl, rfl, rfl, by decide +kernel, rfl, by decide +kernel, by decide +kernel⟩
def N_law_told : List Str := ["size", "row"]
theorem s_law_told : FnScope N_law_told r_law_told.ps (defScope r_law_told.st) := ⟨rfl, rfl, rfl, by decide +kernel, rfl, by decide +kernel, by decide +kernel⟩
def N_law_asked : List Str := ["well", "size", "row", "leadings", "other", "some", "longer", "card", "k"]
theorem s_law_asked : FnScope N_law_asked r_law_asked.ps (defScope r_law_asked.st) := ⟨rfl, rfl, rfl, by decide +kernel, rfl, by decide +kernel, by decide +kernel⟩
def N_law_beside : List Str := ["well", "one", "two", "row", "other", "both", "lots", "card", "part", "k"]
theorem s_law_beside : FnScope N_law_beside r_law_beside.ps (defScope r_law_beside.st) := ⟨rfl, rfl, rfl, by decide +kernel, rfl, by decide +kernel, by decide +kernel⟩
def N_law : List Str := ["script", "turn", "well", "size"]
theorem s_law : FnScope N_law r_law.ps (defScope r_law.st) := ⟨rfl, rfl, rfl, by decide +kernel, rfl, by decide +kernel, by decide +kernel⟩
def gs (K : PySem.W.Frag) : Gs := { fa := fun f => He.ga K ((D.getD f r_law).x), ca := fun _ => 0, nm := fun _ => "given" }
structure Fx (K : PySem.W.Frag) (mg : Str → Option Value) : Prop where
  bl : ∀ (i : Nat) (x : Str), BL[i]? = some x → mg x = none
  c_DOT : ∃ t, mg "DOT" = some (.str "o" t)
  c_POINT : ∃ t, mg "POINT" = some (.str "." t)
  c_LONGEST_ROW : ∃ t, mg "LONGEST_ROW" = some (.int (12) t)
  c_MOST_DOTS : ∃ t, mg "MOST_DOTS" = some (.int (6) t)
  i_combinations : mg "combinations" = some (.type "itertools.combinations")
section
variable {P : Program} {w : World} {K : PySem.W.Frag} {mg : Str → Option Value} {base : Heap} {d : Nat} (B : Fx K mg) (IH : AllF P w K mg base (gs K) T D d)
include B IH
theorem d_is_whole (cdv : Value) (A : Around) (outer : List PySem.Env) (s : Shared) (H : Hp) (E : XK) (cf : Cfg (cxOf (L2.CX P w) P w K mg base N_is_whole "is_whole" (defScope (top 2)) ((gs K).fa 0) cdv A outer s H E)) (hr : Room (d + 2) (A.deeper (envOfC "is_whole" (defScope (top 2)) s.heap.objs.size ((gs K).fa 0) cdv))) :
    SSs (cxOf (L2.CX P w) P w K mg base N_is_whole "is_whole" (defScope (top 2)) ((gs K).fa 0) cdv A outer s H E) (gs K) (defBody (top 2)) (b_is_whole (fns T d)) := by
  unfold b_is_whole
  exact sss_one (ss_ret (se_and (se_isi 2 (B.bl 0 _ rfl) (B.bl 1 _ rfl) (se_var 0)) (se_one (se_not (se_isi 1 (B.bl 0 _ rfl) (B.bl 2 _ rfl) (se_var 0))))))
theorem d_is_between (cdv : Value) (A : Around) (outer : List PySem.Env) (s : Shared) (H : Hp) (E : XK) (cf : Cfg (cxOf (L2.CX P w) P w K mg base N_is_between "is_between" (defScope (top 3)) ((gs K).fa 1) cdv A outer s H E)) (hr : Room (d + 2) (A.deeper (envOfC "is_between" (defScope (top 3)) s.heap.objs.size ((gs K).fa 1) cdv))) :
    SSs (cxOf (L2.CX P w) P w K mg base N_is_between "is_between" (defScope (top 3)) ((gs K).fa 1) cdv A outer s H E) (gs K) (defBody (top 3)) (b_is_between (fns T d)) := by
  unfold b_is_between
  exact sss_one (ss_ret (se_and (se_call 0 (IH 0 _ rfl) hr (sa_cons (se_var 0) (sa_nil))) (se_one (se_chain (o2_le2 (by have := cf.un; omega)) (o2_le2 (by have := cf.un; omega)) (se_var 1) (se_var 0) (se_var 2)))))
theorem d_is_text_of (cdv : Value) (A : Around) (outer : List PySem.Env) (s : Shared) (H : Hp) (E : XK) (cf : Cfg (cxOf (L2.CX P w) P w K mg base N_is_text_of "is_text_of" (defScope (top 4)) ((gs K).fa 2) cdv A outer s H E)) (hr : Room (d + 2) (A.deeper (envOfC "is_text_of" (defScope (top 4)) s.heap.objs.size ((gs K).fa 2) cdv))) :
    SSs (cxOf (L2.CX P w) P w K mg base N_is_text_of "is_text_of" (defScope (top 4)) ((gs K).fa 2) cdv A outer s H E) (gs K) (defBody (top 4)) (b_is_text_of (fns T d)) := by
  unfold b_is_text_of
  exact sss_one (ss_ret (se_and (se_isi 3 (B.bl 0 _ rfl) (B.bl 3 _ rfl) (se_var 0)) (se_one (se_bi (cr_allW cf.calm) (B.bl 4 _ rfl) (sa_cons (se_comp [("sign", 2)] cf (si_seq (se_var 0)) (blkOk_by (by kernel_rfl)) (fun _ _ _ _ _ cf => sg_name 2 cf) (fun _ _ _ _ _ cf => sts_nil) (fun _ _ _ _ _ cf => se_cmp (o2_inD (by have := cf.un; omega)) (se_var 2) (se_var 1))) (sa_nil))))))
theorem d_check_size (cdv : Value) (A : Around) (outer : List PySem.Env) (s : Shared) (H : Hp) (E : XK) (cf : Cfg (cxOf (L2.CX P w) P w K mg base N_check_size "check_size" (defScope (top 10)) ((gs K).fa 3) cdv A outer s H E)) (hr : Room (d + 2) (A.deeper (envOfC "check_size" (defScope (top 10)) s.heap.objs.size ((gs K).fa 3) cdv))) :
    SSs (cxOf (L2.CX P w) P w K mg base N_check_size "check_size" (defScope (top 10)) ((gs K).fa 3) cdv A outer s H E) (gs K) (defBody (top 10)) (b_check_size (fns T d)) := by
  unfold b_check_size
  exact sss_one (ss_if (st_not (st_tru (se_call 1 (IH 1 _ rfl) hr (sa_cons (se_var 0) (sa_cons (se_var 1) (sa_cons (se_var 2) (sa_nil))))))) (sss_never) (sss_nil))
theorem d_is_dotted (cdv : Value) (A : Around) (outer : List PySem.Env) (s : Shared) (H : Hp) (E : XK) (cf : Cfg (cxOf (L2.CX P w) P w K mg base N_is_dotted "is_dotted" (defScope (top 16)) ((gs K).fa 4) cdv A outer s H E)) (hr : Room (d + 2) (A.deeper (envOfC "is_dotted" (defScope (top 16)) s.heap.objs.size ((gs K).fa 4) cdv))) :
    SSs (cxOf (L2.CX P w) P w K mg base N_is_dotted "is_dotted" (defScope (top 16)) ((gs K).fa 4) cdv A outer s H E) (gs K) (defBody (top 16)) (b_is_dotted (fns T d)) := by
  unfold b_is_dotted
  exact sss_one (ss_ret (se_and (se_call 5 (IH 5 _ rfl) hr (sa_cons (se_var 0) (sa_cons (se_var 1) (sa_nil)))) (se_one (se_cmp (o2_inD (by have := cf.un; omega)) (se_gstr [111] B.c_DOT) (se_var 1)))))
theorem d_is_goal (cdv : Value) (A : Around) (outer : List PySem.Env) (s : Shared) (H : Hp) (E : XK) (cf : Cfg (cxOf (L2.CX P w) P w K mg base N_is_goal "is_goal" (defScope (top 17)) ((gs K).fa 5) cdv A outer s H E)) (hr : Room (d + 2) (A.deeper (envOfC "is_goal" (defScope (top 17)) s.heap.objs.size ((gs K).fa 5) cdv))) :
    SSs (cxOf (L2.CX P w) P w K mg base N_is_goal "is_goal" (defScope (top 17)) ((gs K).fa 5) cdv A outer s H E) (gs K) (defBody (top 17)) (b_is_goal (fns T d)) := by
  unfold b_is_goal
  exact sss_one (ss_ret (se_and (se_call 2 (IH 2 _ rfl) hr (sa_cons (se_var 1) (sa_cons (se_bin o2_add (se_gstr [111] B.c_DOT) (se_gstr [46] B.c_POINT)) (sa_nil)))) (se_one (se_cmp (o2_eq (by have := cf.un; omega)) (se_bi cr_len (B.bl 5 _ rfl) (sa_cons (se_var 1) (sa_nil))) (se_var 0)))))
theorem d_first_wrong_dotted (cdv : Value) (A : Around) (outer : List PySem.Env) (s : Shared) (H : Hp) (E : XK) (cf : Cfg (cxOf (L2.CX P w) P w K mg base N_first_wrong_dotted "first_wrong_dotted" (defScope (top 18)) ((gs K).fa 6) cdv A outer s H E)) (hr : Room (d + 2) (A.deeper (envOfC "first_wrong_dotted" (defScope (top 18)) s.heap.objs.size ((gs K).fa 6) cdv))) :
    SSs (cxOf (L2.CX P w) P w K mg base N_first_wrong_dotted "first_wrong_dotted" (defScope (top 18)) ((gs K).fa 6) cdv A outer s H E) (gs K) (defBody (top 18)) (b_first_wrong_dotted (fns T d)) := by
  unfold b_first_wrong_dotted
  exact sss_cons (ss_for cf (si_enum2 (B.bl 6 _ rfl) (sa_cons (se_var 1) (sa_nil))) (sg_tup 2 cf (sgs_cons (sg_name 2 cf) (sgs_cons (sg_name 3 cf) (sgs_nil))) (hl := glen_cons (glen_cons (glen_nil)))) (sss_one (ss_if (st_w (sw_or (st_cmp (o2_eq (by have := cf.un; omega)) (se_var 2) (se_gint B.c_LONGEST_ROW)) (sw_or (st_not (st_tru (se_call 4 (IH 4 _ rfl) hr (sa_cons (se_var 0) (sa_cons (se_var 3) (sa_nil)))))) (sw_or1 (st_cmp (o2_in (by have := cf.un; omega)) (se_var 3) (se_sl (se_var 1) (so_none) (so_some (se_var 2)))))))) (sss_one (ss_ret (se_var 2))) (sss_nil)))) (sss_one (ss_ret (se_non)))
theorem d_bits_of (cdv : Value) (A : Around) (outer : List PySem.Env) (s : Shared) (H : Hp) (E : XK) (cf : Cfg (cxOf (L2.CX P w) P w K mg base N_bits_of "bits_of" (defScope (top 19)) ((gs K).fa 7) cdv A outer s H E)) (hr : Room (d + 2) (A.deeper (envOfC "bits_of" (defScope (top 19)) s.heap.objs.size ((gs K).fa 7) cdv))) :
    SSs (cxOf (L2.CX P w) P w K mg base N_bits_of "bits_of" (defScope (top 19)) ((gs K).fa 7) cdv A outer s H E) (gs K) (defBody (top 19)) (b_bits_of (fns T d)) := by
  unfold b_bits_of
  exact sss_cons (ss_set 1 cf (se_int)) (sss_cons (ss_for cf (si_seq (se_var 0)) (sg_name 2 cf) (sss_one (ss_set 1 cf (se_bin o2_add (se_bin o2_mul (se_int) (se_var 1)) (se_if (st_cmp (o2_eq (by have := cf.un; omega)) (se_var 2) (se_gstr [111] B.c_DOT)) (se_int) (se_int)))))) (sss_one (ss_ret (se_var 1))))
theorem d_card_of (cdv : Value) (A : Around) (outer : List PySem.Env) (s : Shared) (H : Hp) (E : XK) (cf : Cfg (cxOf (L2.CX P w) P w K mg base N_card_of "card_of" (defScope (top 20)) ((gs K).fa 8) cdv A outer s H E)) (hr : Room (d + 2) (A.deeper (envOfC "card_of" (defScope (top 20)) s.heap.objs.size ((gs K).fa 8) cdv))) :
    SSs (cxOf (L2.CX P w) P w K mg base N_card_of "card_of" (defScope (top 20)) ((gs K).fa 8) cdv A outer s H E) (gs K) (defBody (top 20)) (b_card_of (fns T d)) := by
  unfold b_card_of
  exact sss_one (ss_ret (se_join (se_str []) (se_comp [("at", 2)] cf (si_range3 (B.bl 7 _ rfl) (sa_cons (se_bin o2_sub (se_var 0) (se_int)) (sa_cons (se_un un_negW (se_int)) (sa_cons (se_un un_negW (se_int)) (sa_nil))))) (blkOk_by (by kernel_rfl)) (fun _ _ _ _ _ cf => sg_name 2 cf) (fun _ _ _ _ _ cf => sts_nil) (fun _ _ _ _ _ cf => se_if (st_cmp (o2_eq (by have := cf.un; omega)) (se_bin o2_and (se_bin o2_shr (se_var 1) (se_var 2)) (se_int)) (se_int)) (se_gstr [111] B.c_DOT) (se_gstr [46] B.c_POINT)))))
theorem d_sum_of_bits (cdv : Value) (A : Around) (outer : List PySem.Env) (s : Shared) (H : Hp) (E : XK) (cf : Cfg (cxOf (L2.CX P w) P w K mg base N_sum_of_bits "sum_of_bits" (defScope (top 22)) ((gs K).fa 9) cdv A outer s H E)) (hr : Room (d + 2) (A.deeper (envOfC "sum_of_bits" (defScope (top 22)) s.heap.objs.size ((gs K).fa 9) cdv))) :
    SSs (cxOf (L2.CX P w) P w K mg base N_sum_of_bits "sum_of_bits" (defScope (top 22)) ((gs K).fa 9) cdv A outer s H E) (gs K) (defBody (top 22)) (b_sum_of_bits (fns T d)) := by
  unfold b_sum_of_bits
  exact sss_cons (ss_set 1 cf (se_int)) (sss_cons (ss_for cf (si_seq (se_var 0)) (sg_name 2 cf) (sss_one (ss_set 1 cf (se_bin o2_xor (se_var 1) (se_var 2))))) (sss_one (ss_ret (se_var 1))))
theorem d_dot_sum_by (cdv : Value) (A : Around) (outer : List PySem.Env) (s : Shared) (H : Hp) (E : XK) (cf : Cfg (cxOf (L2.CX P w) P w K mg base N_dot_sum_by "dot_sum_by" (defScope (top 23)) ((gs K).fa 10) cdv A outer s H E)) (hr : Room (d + 2) (A.deeper (envOfC "dot_sum_by" (defScope (top 23)) s.heap.objs.size ((gs K).fa 10) cdv))) :
    SSs (cxOf (L2.CX P w) P w K mg base N_dot_sum_by "dot_sum_by" (defScope (top 23)) ((gs K).fa 10) cdv A outer s H E) (gs K) (defBody (top 23)) (b_dot_sum_by (fns T d)) := by
  unfold b_dot_sum_by
  exact sss_one (ss_ret (se_call 8 (IH 8 _ rfl) hr (sa_cons (se_var 0) (sa_cons (se_call 9 (IH 9 _ rfl) hr (sa_cons (se_comp [("card", 2)] cf (si_seq (se_var 1)) (blkOk_by (by kernel_rfl)) (fun _ _ _ _ _ cf => sg_name 2 cf) (fun _ _ _ _ _ cf => sts_nil) (fun _ _ _ _ _ cf => se_call 7 (IH 7 _ rfl) hr (sa_cons (se_var 2) (sa_nil)))) (sa_nil))) (sa_nil)))))
theorem d_sums_of_parts (cdv : Value) (A : Around) (outer : List PySem.Env) (s : Shared) (H : Hp) (E : XK) (cf : Cfg (cxOf (L2.CX P w) P w K mg base N_sums_of_parts "sums_of_parts" (defScope (top 24)) ((gs K).fa 11) cdv A outer s H E)) (hr : Room (d + 2) (A.deeper (envOfC "sums_of_parts" (defScope (top 24)) s.heap.objs.size ((gs K).fa 11) cdv))) :
    SSs (cxOf (L2.CX P w) P w K mg base N_sums_of_parts "sums_of_parts" (defScope (top 24)) ((gs K).fa 11) cdv A outer s H E) (gs K) (defBody (top 24)) (b_sums_of_parts (fns T d)) := by
  unfold b_sums_of_parts
  exact sss_sums 1 [("part", 4), ("total", 5)] cf (si_enum2 (B.bl 6 _ rfl) (sa_cons (se_var 0) (sa_nil))) (sg_tup 2 cf (sgs_cons (sg_name 2 cf) (sgs_cons (sg_name 3 cf) (sgs_nil))) (hl := glen_cons (glen_cons (glen_nil)))) (blkOk_by (by kernel_rfl)) (fun _ _ _ _ _ cf => sg_tup 2 cf (sgs_cons (sg_name 4 cf) (sgs_cons (sg_name 5 cf) (sgs_nil))) (hl := glen_cons (glen_cons (glen_nil)))) (fun _ _ _ _ _ cf => sa_star (se_var 4) (sa_cons (se_var 2) (sa_nil))) (fun _ _ _ _ _ cf => se_bin o2_xor (se_var 5) (se_call 7 (IH 7 _ rfl) hr (sa_cons (se_var 3) (sa_nil))))
theorem d_parts_with (cdv : Value) (A : Around) (outer : List PySem.Env) (s : Shared) (H : Hp) (E : XK) (cf : Cfg (cxOf (L2.CX P w) P w K mg base N_parts_with "parts_with" (defScope (top 25)) ((gs K).fa 12) cdv A outer s H E)) (hr : Room (d + 2) (A.deeper (envOfC "parts_with" (defScope (top 25)) s.heap.objs.size ((gs K).fa 12) cdv))) :
    SSs (cxOf (L2.CX P w) P w K mg base N_parts_with "parts_with" (defScope (top 25)) ((gs K).fa 12) cdv A outer s H E) (gs K) (defBody (top 25)) (b_parts_with (fns T d)) := by
  unfold b_parts_with
  exact sss_cons (ss_setLcT 2 [("part", 3), ("total", 4)] cf (se_call 11 (IH 11 _ rfl) hr (sa_cons (se_var 0) (sa_nil))) (blkOk_by (by kernel_rfl)) (fun _ _ _ _ _ cf => sg_tup 2 cf (sgs_cons (sg_name 3 cf) (sgs_cons (sg_name 4 cf) (sgs_nil))) (hl := glen_cons (glen_cons (glen_nil)))) (fun _ _ _ _ _ cf => sts_one (st_cmp (o2_eq (by have := cf.un; omega)) (se_var 4) (se_var 1))) (fun _ _ _ _ _ cf => se_tup (sa_cons (se_bi cr_len (B.bl 5 _ rfl) (sa_cons (se_var 3) (sa_nil))) (sa_cons (se_var 3) (sa_nil))))) (sss_one (ss_ret (se_comp [("many", 5), ("part", 3)] cf (si_seq (se_bi (cr_sortP cf) (B.bl 8 _ rfl) (sa_cons (se_var 2) (sa_nil)))) (blkOk_by (by kernel_rfl)) (fun _ _ _ _ _ cf => sg_tup 2 cf (sgs_cons (sg_name 5 cf) (sgs_cons (sg_name 3 cf) (sgs_nil))) (hl := glen_cons (glen_cons (glen_nil)))) (fun _ _ _ _ _ cf => sts_nil) (fun _ _ _ _ _ cf => se_var 3))))
theorem d_dot_lots_by (cdv : Value) (A : Around) (outer : List PySem.Env) (s : Shared) (H : Hp) (E : XK) (cf : Cfg (cxOf (L2.CX P w) P w K mg base N_dot_lots_by "dot_lots_by" (defScope (top 26)) ((gs K).fa 13) cdv A outer s H E)) (hr : Room (d + 2) (A.deeper (envOfC "dot_lots_by" (defScope (top 26)) s.heap.objs.size ((gs K).fa 13) cdv))) :
    SSs (cxOf (L2.CX P w) P w K mg base N_dot_lots_by "dot_lots_by" (defScope (top 26)) ((gs K).fa 13) cdv A outer s H E) (gs K) (defBody (top 26)) (b_dot_lots_by (fns T d)) := by
  unfold b_dot_lots_by
  exact sss_one (ss_ret (se_sl (se_call 12 (IH 12 _ rfl) hr (sa_cons (se_var 0) (sa_cons (se_int) (sa_nil)))) (so_some (se_int)) (so_none)))
theorem d_fewest_lot_by (cdv : Value) (A : Around) (outer : List PySem.Env) (s : Shared) (H : Hp) (E : XK) (cf : Cfg (cxOf (L2.CX P w) P w K mg base N_fewest_lot_by "fewest_lot_by" (defScope (top 27)) ((gs K).fa 14) cdv A outer s H E)) (hr : Room (d + 2) (A.deeper (envOfC "fewest_lot_by" (defScope (top 27)) s.heap.objs.size ((gs K).fa 14) cdv))) :
    SSs (cxOf (L2.CX P w) P w K mg base N_fewest_lot_by "fewest_lot_by" (defScope (top 27)) ((gs K).fa 14) cdv A outer s H E) (gs K) (defBody (top 27)) (b_fewest_lot_by (fns T d)) := by
  unfold b_fewest_lot_by
  exact sss_cons (ss_set 1 cf (se_call 13 (IH 13 _ rfl) hr (sa_cons (se_var 0) (sa_nil)))) (sss_one (ss_ret (se_if (st_cmp (o2_ne (by have := cf.un; omega)) (se_var 1) (se_lst (sa_nil))) (se_ix (se_var 1) (se_int)) (se_non))))
theorem d_dot_lots_by_size_by (cdv : Value) (A : Around) (outer : List PySem.Env) (s : Shared) (H : Hp) (E : XK) (cf : Cfg (cxOf (L2.CX P w) P w K mg base N_dot_lots_by_size_by "dot_lots_by_size_by" (defScope (top 28)) ((gs K).fa 15) cdv A outer s H E)) (hr : Room (d + 2) (A.deeper (envOfC "dot_lots_by_size_by" (defScope (top 28)) s.heap.objs.size ((gs K).fa 15) cdv))) :
    SSs (cxOf (L2.CX P w) P w K mg base N_dot_lots_by_size_by "dot_lots_by_size_by" (defScope (top 28)) ((gs K).fa 15) cdv A outer s H E) (gs K) (defBody (top 28)) (b_dot_lots_by_size_by (fns T d)) := by
  unfold b_dot_lots_by_size_by
  exact sss_cons (ss_set 1 cf (se_comp [("part", 2)] cf (si_seq (se_call 13 (IH 13 _ rfl) hr (sa_cons (se_var 0) (sa_nil)))) (blkOk_by (by kernel_rfl)) (fun _ _ _ _ _ cf => sg_name 2 cf) (fun _ _ _ _ _ cf => sts_nil) (fun _ _ _ _ _ cf => se_bi cr_len (B.bl 5 _ rfl) (sa_cons (se_var 2) (sa_nil))))) (sss_one (ss_ret (se_comp [("many", 3)] cf (si_range2 (B.bl 7 _ rfl) (sa_cons (se_int) (sa_cons (se_bin o2_add (se_bi cr_len (B.bl 5 _ rfl) (sa_cons (se_var 0) (sa_nil))) (se_int)) (sa_nil)))) (blkOk_by (by kernel_rfl)) (fun _ _ _ _ _ cf => sg_name 3 cf) (fun _ _ _ _ _ cf => sts_nil) (fun _ _ _ _ _ cf => se_meth 5 omCountI PySem.F.plainAttrs_list PySem.F.slot_list_count PySem.F.type_list_count om_countI (se_var 1) (sa_cons (se_var 3) (sa_nil))))))
theorem d_freed (cdv : Value) (A : Around) (outer : List PySem.Env) (s : Shared) (H : Hp) (E : XK) (cf : Cfg (cxOf (L2.CX P w) P w K mg base N_freed "freed" (defScope (top 29)) ((gs K).fa 16) cdv A outer s H E)) (hr : Room (d + 2) (A.deeper (envOfC "freed" (defScope (top 29)) s.heap.objs.size ((gs K).fa 16) cdv))) :
    SSs (cxOf (L2.CX P w) P w K mg base N_freed "freed" (defScope (top 29)) ((gs K).fa 16) cdv A outer s H E) (gs K) (defBody (top 29)) (b_freed (fns T d)) := by
  unfold b_freed
  exact sss_cons (ss_set 2 cf (se_var 0)) (sss_cons (ss_for cf (si_seq (se_var 1)) (sg_name 3 cf) (sss_one (ss_set 2 cf (se_bi (cr_min2 cf.calm) (B.bl 9 _ rfl) (sa_cons (se_var 2) (sa_cons (se_bin o2_xor (se_var 2) (se_var 3)) (sa_nil))))))) (sss_one (ss_ret (se_var 2))))
theorem d_next_leads (cdv : Value) (A : Around) (outer : List PySem.Env) (s : Shared) (H : Hp) (E : XK) (cf : Cfg (cxOf (L2.CX P w) P w K mg base N_next_leads "next_leads" (defScope (top 30)) ((gs K).fa 17) cdv A outer s H E)) (hr : Room (d + 2) (A.deeper (envOfC "next_leads" (defScope (top 30)) s.heap.objs.size ((gs K).fa 17) cdv))) :
    SSs (cxOf (L2.CX P w) P w K mg base N_next_leads "next_leads" (defScope (top 30)) ((gs K).fa 17) cdv A outer s H E) (gs K) (defBody (top 30)) (b_next_leads (fns T d)) := by
  unfold b_next_leads
  exact sss_cons (ss_set 2 cf (se_call 16 (IH 16 _ rfl) hr (sa_cons (se_var 1) (sa_cons (se_var 0) (sa_nil))))) (sss_one (ss_ret (se_if (st_cmp (o2_gt2 (by have := cf.un; omega)) (se_var 2) (se_int)) (se_revL (se_bi cr_sortedW (B.bl 8 _ rfl) (sa_cons (se_lst (sa_star (se_var 0) (sa_cons (se_var 2) (sa_nil)))) (sa_nil)))) (se_var 0))))
theorem d_least_base (cdv : Value) (A : Around) (outer : List PySem.Env) (s : Shared) (H : Hp) (E : XK) (cf : Cfg (cxOf (L2.CX P w) P w K mg base N_least_base "least_base" (defScope (top 31)) ((gs K).fa 18) cdv A outer s H E)) (hr : Room (d + 2) (A.deeper (envOfC "least_base" (defScope (top 31)) s.heap.objs.size ((gs K).fa 18) cdv))) :
    SSs (cxOf (L2.CX P w) P w K mg base N_least_base "least_base" (defScope (top 31)) ((gs K).fa 18) cdv A outer s H E) (gs K) (defBody (top 31)) (b_least_base (fns T d)) := by
  unfold b_least_base
  exact sss_cons (ss_par 1 2 cf (sa_cons (se_lstS (sa_nil)) (sa_cons (se_lst (sa_nil)) (sa_nil)))) (sss_cons (ss_for cf (si_enum2 (B.bl 6 _ rfl) (sa_cons (se_var 0) (sa_nil))) (sg_tup 2 cf (sgs_cons (sg_name 3 cf) (sgs_cons (sg_name 4 cf) (sgs_nil))) (hl := glen_cons (glen_cons (glen_nil)))) (sss_cons (ss_set 5 cf (se_call 17 (IH 17 _ rfl) hr (sa_cons (se_var 2) (sa_cons (se_call 7 (IH 7 _ rfl) hr (sa_cons (se_var 4) (sa_nil))) (sa_nil))))) (sss_cons (ss_if (st_cmp (o2_gt2 (by have := cf.un; omega)) (se_bi cr_len (B.bl 5 _ rfl) (sa_cons (se_var 5) (sa_nil))) (se_bi cr_len (B.bl 5 _ rfl) (sa_cons (se_var 2) (sa_nil)))) (sss_one (ss_expr (se_meth 5 omAppend PySem.F.plainAttrs_list PySem.F.slot_list_append PySem.F.type_list_append om_append (se_var 1) (sa_cons (se_var 3) (sa_nil))))) (sss_nil)) (sss_one (ss_set 2 cf (se_var 5)))))) (sss_one (ss_ret (se_var 1))))
theorem d_rank_by (cdv : Value) (A : Around) (outer : List PySem.Env) (s : Shared) (H : Hp) (E : XK) (cf : Cfg (cxOf (L2.CX P w) P w K mg base N_rank_by "rank_by" (defScope (top 32)) ((gs K).fa 19) cdv A outer s H E)) (hr : Room (d + 2) (A.deeper (envOfC "rank_by" (defScope (top 32)) s.heap.objs.size ((gs K).fa 19) cdv))) :
    SSs (cxOf (L2.CX P w) P w K mg base N_rank_by "rank_by" (defScope (top 32)) ((gs K).fa 19) cdv A outer s H E) (gs K) (defBody (top 32)) (b_rank_by (fns T d)) := by
  unfold b_rank_by
  exact sss_one (ss_ret (se_bi cr_len (B.bl 5 _ rfl) (sa_cons (se_call 18 (IH 18 _ rfl) hr (sa_cons (se_var 0) (sa_nil))) (sa_nil))))
theorem d_bases_by (cdv : Value) (A : Around) (outer : List PySem.Env) (s : Shared) (H : Hp) (E : XK) (cf : Cfg (cxOf (L2.CX P w) P w K mg base N_bases_by "bases_by" (defScope (top 33)) ((gs K).fa 20) cdv A outer s H E)) (hr : Room (d + 2) (A.deeper (envOfC "bases_by" (defScope (top 33)) s.heap.objs.size ((gs K).fa 20) cdv))) :
    SSs (cxOf (L2.CX P w) P w K mg base N_bases_by "bases_by" (defScope (top 33)) ((gs K).fa 20) cdv A outer s H E) (gs K) (defBody (top 33)) (b_bases_by (fns T d)) := by
  unfold b_bases_by
  exact sss_cons (ss_set 1 cf (se_lstS (sa_nil))) (sss_cons (ss_set 2 cf (se_bi cr_len (B.bl 5 _ rfl) (sa_cons (se_call 18 (IH 18 _ rfl) hr (sa_cons (se_var 0) (sa_nil))) (sa_nil)))) (sss_cons (ss_for cf (si_combR cf B.i_combinations (B.bl 7 _ rfl) (se_bi cr_len (B.bl 5 _ rfl) (sa_cons (se_var 0) (sa_nil))) (se_var 2)) (sg_name 3 cf) (sss_one (ss_if (st_cmp (o2_eq (by have := cf.un; omega)) (se_call 19 (IH 19 _ rfl) hr (sa_cons (se_comp [("index", 4)] cf (si_seq (se_var 3)) (blkOk_by (by kernel_rfl)) (fun _ _ _ _ _ cf => sg_name 4 cf) (fun _ _ _ _ _ cf => sts_nil) (fun _ _ _ _ _ cf => se_ix (se_var 0) (se_var 4))) (sa_nil))) (se_var 2)) (sss_one (ss_expr (se_meth 5 omAppend PySem.F.plainAttrs_list PySem.F.slot_list_append PySem.F.type_list_append om_append (se_var 1) (sa_cons (se_var 3) (sa_nil))))) (sss_nil)))) (sss_one (ss_ret (se_var 1)))))
theorem d_dot_deck_by (cdv : Value) (A : Around) (outer : List PySem.Env) (s : Shared) (H : Hp) (E : XK) (cf : Cfg (cxOf (L2.CX P w) P w K mg base N_dot_deck_by "dot_deck_by" (defScope (top 34)) ((gs K).fa 21) cdv A outer s H E)) (hr : Room (d + 2) (A.deeper (envOfC "dot_deck_by" (defScope (top 34)) s.heap.objs.size ((gs K).fa 21) cdv))) :
    SSs (cxOf (L2.CX P w) P w K mg base N_dot_deck_by "dot_deck_by" (defScope (top 34)) ((gs K).fa 21) cdv A outer s H E) (gs K) (defBody (top 34)) (b_dot_deck_by (fns T d)) := by
  unfold b_dot_deck_by
  exact sss_one (ss_ret (se_comp [("bits", 1)] cf (si_range2 (B.bl 7 _ rfl) (sa_cons (se_int) (sa_cons (se_bin o2_shl (se_int) (se_var 0)) (sa_nil)))) (blkOk_by (by kernel_rfl)) (fun _ _ _ _ _ cf => sg_name 1 cf) (fun _ _ _ _ _ cf => sts_nil) (fun _ _ _ _ _ cf => se_call 8 (IH 8 _ rfl) hr (sa_cons (se_var 0) (sa_cons (se_var 1) (sa_nil))))))
theorem d_dot_completing_by (cdv : Value) (A : Around) (outer : List PySem.Env) (s : Shared) (H : Hp) (E : XK) (cf : Cfg (cxOf (L2.CX P w) P w K mg base N_dot_completing_by "dot_completing_by" (defScope (top 35)) ((gs K).fa 22) cdv A outer s H E)) (hr : Room (d + 2) (A.deeper (envOfC "dot_completing_by" (defScope (top 35)) s.heap.objs.size ((gs K).fa 22) cdv))) :
    SSs (cxOf (L2.CX P w) P w K mg base N_dot_completing_by "dot_completing_by" (defScope (top 35)) ((gs K).fa 22) cdv A outer s H E) (gs K) (defBody (top 35)) (b_dot_completing_by (fns T d)) := by
  unfold b_dot_completing_by
  exact sss_cons (ss_set 2 cf (se_dcompV [("total", 3)] cf (se_call 11 (IH 11 _ rfl) hr (sa_cons (se_var 1) (sa_nil))) (blkOk_by (by kernel_rfl)) (fun _ _ _ _ _ cf => sg_name 3 cf) (fun _ _ _ _ _ cf => sts_nil) (fun _ _ _ _ _ cf => se_var 3) (fun _ _ _ _ _ cf => se_bl))) (sss_one (ss_ret (se_comp [("card", 4)] cf (si_seq (se_call 21 (IH 21 _ rfl) hr (sa_cons (se_var 0) (sa_nil)))) (blkOk_by (by kernel_rfl)) (fun _ _ _ _ _ cf => sg_name 4 cf) (fun _ _ _ _ _ cf => sts_one (st_w (sw_and (st_cmp (o2_inD (by have := cf.un; omega)) (se_call 7 (IH 7 _ rfl) hr (sa_cons (se_var 4) (sa_nil))) (se_var 2)) (sw_and1 (st_cmp (o2_notInD (by have := cf.un; omega)) (se_var 4) (se_var 1)))))) (fun _ _ _ _ _ cf => se_var 4))))
theorem d_check_dots (cdv : Value) (A : Around) (outer : List PySem.Env) (s : Shared) (H : Hp) (E : XK) (cf : Cfg (cxOf (L2.CX P w) P w K mg base N_check_dots "check_dots" (defScope (top 37)) ((gs K).fa 23) cdv A outer s H E)) (hr : Room (d + 2) (A.deeper (envOfC "check_dots" (defScope (top 37)) s.heap.objs.size ((gs K).fa 23) cdv))) :
    SSs (cxOf (L2.CX P w) P w K mg base N_check_dots "check_dots" (defScope (top 37)) ((gs K).fa 23) cdv A outer s H E) (gs K) (defBody (top 37)) (b_check_dots (fns T d)) := by
  unfold b_check_dots
  exact sss_one (ss_expr (se_call 3 (IH 3 _ rfl) hr (sa_cons (se_var 0) (sa_cons (se_int) (sa_cons (se_gint B.c_MOST_DOTS) (sa_nil))))))
theorem d_check_row (cdv : Value) (A : Around) (outer : List PySem.Env) (s : Shared) (H : Hp) (E : XK) (cf : Cfg (cxOf (L2.CX P w) P w K mg base N_check_row "check_row" (defScope (top 38)) ((gs K).fa 24) cdv A outer s H E)) (hr : Room (d + 2) (A.deeper (envOfC "check_row" (defScope (top 38)) s.heap.objs.size ((gs K).fa 24) cdv))) :
    SSs (cxOf (L2.CX P w) P w K mg base N_check_row "check_row" (defScope (top 38)) ((gs K).fa 24) cdv A outer s H E) (gs K) (defBody (top 38)) (b_check_row (fns T d)) := by
  unfold b_check_row
  exact sss_cons (ss_expr (se_call 23 (IH 23 _ rfl) hr (sa_cons (se_var 0) (sa_nil)))) (sss_cons (ss_if (st_not (st_tru (se_isi 4 (B.bl 0 _ rfl) (B.bl 10 _ rfl) (se_var 1)))) (sss_never) (sss_nil)) (sss_cons (ss_set 2 cf (se_call 6 (IH 6 _ rfl) hr (sa_cons (se_var 0) (sa_cons (se_var 1) (sa_nil))))) (sss_one (ss_if (st_notN (se_var 2)) (sss_never) (sss_nil)))))
theorem d_dot_sum (cdv : Value) (A : Around) (outer : List PySem.Env) (s : Shared) (H : Hp) (E : XK) (cf : Cfg (cxOf (L2.CX P w) P w K mg base N_dot_sum "dot_sum" (defScope (top 39)) ((gs K).fa 25) cdv A outer s H E)) (hr : Room (d + 2) (A.deeper (envOfC "dot_sum" (defScope (top 39)) s.heap.objs.size ((gs K).fa 25) cdv))) :
    SSs (cxOf (L2.CX P w) P w K mg base N_dot_sum "dot_sum" (defScope (top 39)) ((gs K).fa 25) cdv A outer s H E) (gs K) (defBody (top 39)) (b_dot_sum (fns T d)) := by
  unfold b_dot_sum
  exact sss_cons (ss_expr (se_call 24 (IH 24 _ rfl) hr (sa_cons (se_var 0) (sa_cons (se_var 1) (sa_nil))))) (sss_one (ss_ret (se_call 10 (IH 10 _ rfl) hr (sa_cons (se_var 0) (sa_cons (se_var 1) (sa_nil))))))
theorem d_dot_lots (cdv : Value) (A : Around) (outer : List PySem.Env) (s : Shared) (H : Hp) (E : XK) (cf : Cfg (cxOf (L2.CX P w) P w K mg base N_dot_lots "dot_lots" (defScope (top 40)) ((gs K).fa 26) cdv A outer s H E)) (hr : Room (d + 2) (A.deeper (envOfC "dot_lots" (defScope (top 40)) s.heap.objs.size ((gs K).fa 26) cdv))) :
    SSs (cxOf (L2.CX P w) P w K mg base N_dot_lots "dot_lots" (defScope (top 40)) ((gs K).fa 26) cdv A outer s H E) (gs K) (defBody (top 40)) (b_dot_lots (fns T d)) := by
  unfold b_dot_lots
  exact sss_cons (ss_expr (se_call 24 (IH 24 _ rfl) hr (sa_cons (se_var 0) (sa_cons (se_var 1) (sa_nil))))) (sss_one (ss_ret (se_ty cr_tupleW (B.bl 10 _ rfl) (sa_cons (se_call 13 (IH 13 _ rfl) hr (sa_cons (se_var 1) (sa_nil))) (sa_nil)))))
theorem d_fewest_lot (cdv : Value) (A : Around) (outer : List PySem.Env) (s : Shared) (H : Hp) (E : XK) (cf : Cfg (cxOf (L2.CX P w) P w K mg base N_fewest_lot "fewest_lot" (defScope (top 41)) ((gs K).fa 27) cdv A outer s H E)) (hr : Room (d + 2) (A.deeper (envOfC "fewest_lot" (defScope (top 41)) s.heap.objs.size ((gs K).fa 27) cdv))) :
    SSs (cxOf (L2.CX P w) P w K mg base N_fewest_lot "fewest_lot" (defScope (top 41)) ((gs K).fa 27) cdv A outer s H E) (gs K) (defBody (top 41)) (b_fewest_lot (fns T d)) := by
  unfold b_fewest_lot
  exact sss_cons (ss_expr (se_call 24 (IH 24 _ rfl) hr (sa_cons (se_var 0) (sa_cons (se_var 1) (sa_nil))))) (sss_one (ss_ret (se_call 14 (IH 14 _ rfl) hr (sa_cons (se_var 1) (sa_nil)))))
theorem d_dot_lots_by_size (cdv : Value) (A : Around) (outer : List PySem.Env) (s : Shared) (H : Hp) (E : XK) (cf : Cfg (cxOf (L2.CX P w) P w K mg base N_dot_lots_by_size "dot_lots_by_size" (defScope (top 42)) ((gs K).fa 28) cdv A outer s H E)) (hr : Room (d + 2) (A.deeper (envOfC "dot_lots_by_size" (defScope (top 42)) s.heap.objs.size ((gs K).fa 28) cdv))) :
    SSs (cxOf (L2.CX P w) P w K mg base N_dot_lots_by_size "dot_lots_by_size" (defScope (top 42)) ((gs K).fa 28) cdv A outer s H E) (gs K) (defBody (top 42)) (b_dot_lots_by_size (fns T d)) := by
  unfold b_dot_lots_by_size
  exact sss_cons (ss_expr (se_call 24 (IH 24 _ rfl) hr (sa_cons (se_var 0) (sa_cons (se_var 1) (sa_nil))))) (sss_one (ss_ret (se_ty cr_tupleW (B.bl 10 _ rfl) (sa_cons (se_call 15 (IH 15 _ rfl) hr (sa_cons (se_var 1) (sa_nil))) (sa_nil)))))
theorem d_rank (cdv : Value) (A : Around) (outer : List PySem.Env) (s : Shared) (H : Hp) (E : XK) (cf : Cfg (cxOf (L2.CX P w) P w K mg base N_rank "rank" (defScope (top 43)) ((gs K).fa 29) cdv A outer s H E)) (hr : Room (d + 2) (A.deeper (envOfC "rank" (defScope (top 43)) s.heap.objs.size ((gs K).fa 29) cdv))) :
    SSs (cxOf (L2.CX P w) P w K mg base N_rank "rank" (defScope (top 43)) ((gs K).fa 29) cdv A outer s H E) (gs K) (defBody (top 43)) (b_rank (fns T d)) := by
  unfold b_rank
  exact sss_cons (ss_expr (se_call 24 (IH 24 _ rfl) hr (sa_cons (se_var 0) (sa_cons (se_var 1) (sa_nil))))) (sss_one (ss_ret (se_call 19 (IH 19 _ rfl) hr (sa_cons (se_var 1) (sa_nil)))))
theorem d_bases (cdv : Value) (A : Around) (outer : List PySem.Env) (s : Shared) (H : Hp) (E : XK) (cf : Cfg (cxOf (L2.CX P w) P w K mg base N_bases "bases" (defScope (top 44)) ((gs K).fa 30) cdv A outer s H E)) (hr : Room (d + 2) (A.deeper (envOfC "bases" (defScope (top 44)) s.heap.objs.size ((gs K).fa 30) cdv))) :
    SSs (cxOf (L2.CX P w) P w K mg base N_bases "bases" (defScope (top 44)) ((gs K).fa 30) cdv A outer s H E) (gs K) (defBody (top 44)) (b_bases (fns T d)) := by
  unfold b_bases
  exact sss_cons (ss_expr (se_call 24 (IH 24 _ rfl) hr (sa_cons (se_var 0) (sa_cons (se_var 1) (sa_nil))))) (sss_one (ss_ret (se_ty cr_tupleW (B.bl 10 _ rfl) (sa_cons (se_call 20 (IH 20 _ rfl) hr (sa_cons (se_var 1) (sa_nil))) (sa_nil)))))
theorem d_base_count (cdv : Value) (A : Around) (outer : List PySem.Env) (s : Shared) (H : Hp) (E : XK) (cf : Cfg (cxOf (L2.CX P w) P w K mg base N_base_count "base_count" (defScope (top 45)) ((gs K).fa 31) cdv A outer s H E)) (hr : Room (d + 2) (A.deeper (envOfC "base_count" (defScope (top 45)) s.heap.objs.size ((gs K).fa 31) cdv))) :
    SSs (cxOf (L2.CX P w) P w K mg base N_base_count "base_count" (defScope (top 45)) ((gs K).fa 31) cdv A outer s H E) (gs K) (defBody (top 45)) (b_base_count (fns T d)) := by
  unfold b_base_count
  exact sss_cons (ss_expr (se_call 24 (IH 24 _ rfl) hr (sa_cons (se_var 0) (sa_cons (se_var 1) (sa_nil))))) (sss_one (ss_ret (se_bi cr_len (B.bl 5 _ rfl) (sa_cons (se_call 20 (IH 20 _ rfl) hr (sa_cons (se_var 1) (sa_nil))) (sa_nil)))))
theorem d_dot_completing (cdv : Value) (A : Around) (outer : List PySem.Env) (s : Shared) (H : Hp) (E : XK) (cf : Cfg (cxOf (L2.CX P w) P w K mg base N_dot_completing "dot_completing" (defScope (top 46)) ((gs K).fa 32) cdv A outer s H E)) (hr : Room (d + 2) (A.deeper (envOfC "dot_completing" (defScope (top 46)) s.heap.objs.size ((gs K).fa 32) cdv))) :
    SSs (cxOf (L2.CX P w) P w K mg base N_dot_completing "dot_completing" (defScope (top 46)) ((gs K).fa 32) cdv A outer s H E) (gs K) (defBody (top 46)) (b_dot_completing (fns T d)) := by
  unfold b_dot_completing
  exact sss_cons (ss_expr (se_call 24 (IH 24 _ rfl) hr (sa_cons (se_var 0) (sa_cons (se_var 1) (sa_nil))))) (sss_one (ss_ret (se_ty cr_tupleW (B.bl 10 _ rfl) (sa_cons (se_call 22 (IH 22 _ rfl) hr (sa_cons (se_var 0) (sa_cons (se_var 1) (sa_nil)))) (sa_nil)))))
theorem d_certify_dots (cdv : Value) (A : Around) (outer : List PySem.Env) (s : Shared) (H : Hp) (E : XK) (cf : Cfg (cxOf (L2.CX P w) P w K mg base N_certify_dots "certify_dots" (defScope (top 48)) ((gs K).fa 33) cdv A outer s H E)) (hr : Room (d + 2) (A.deeper (envOfC "certify_dots" (defScope (top 48)) s.heap.objs.size ((gs K).fa 33) cdv))) :
    SSs (cxOf (L2.CX P w) P w K mg base N_certify_dots "certify_dots" (defScope (top 48)) ((gs K).fa 33) cdv A outer s H E) (gs K) (defBody (top 48)) (b_certify_dots (fns T d)) := by
  unfold b_certify_dots
  exact sss_cons (ss_expr (se_call 24 (IH 24 _ rfl) hr (sa_cons (se_var 0) (sa_cons (se_var 1) (sa_nil))))) (sss_cons (ss_set 2 cf (se_call 14 (IH 14 _ rfl) hr (sa_cons (se_var 1) (sa_nil)))) (sss_one (ss_ret (se_if (st_isN (se_var 2)) (se_tup (sa_cons (se_tup (sa_cons (se_str [115, 117, 109, 108, 101, 115, 115]) (sa_cons (se_var 0) (sa_cons (se_var 1) (sa_nil))))) (sa_cons (se_tup (sa_nil)) (sa_nil)))) (se_tup (sa_cons (se_tup (sa_cons (se_str [115, 117, 109, 115]) (sa_cons (se_var 0) (sa_cons (se_var 1) (sa_nil))))) (sa_cons (se_var 2) (sa_nil))))))))
theorem d_law_well (cdv : Value) (A : Around) (outer : List PySem.Env) (s : Shared) (H : Hp) (E : XK) (cf : Cfg (cxOf (L2.CX P w) P w K mg base N_law_well "_law_well" (defScope (top 50)) ((gs K).fa 34) cdv A outer s H E)) (hr : Room (d + 2) (A.deeper (envOfC "_law_well" (defScope (top 50)) s.heap.objs.size ((gs K).fa 34) cdv))) :
    SSs (cxOf (L2.CX P w) P w K mg base N_law_well "_law_well" (defScope (top 50)) ((gs K).fa 34) cdv A outer s H E) (gs K) (defBody (top 50)) (b_law_well (fns T d)) := by
  unfold b_law_well
  exact sss_cons (ss_set 2 cf (se_if (st_cmp o2_lt (se_var 1) (se_bi cr_len (B.bl 5 _ rfl) (sa_cons (se_var 0) (sa_nil)))) (se_ty cr_int (B.bl 1 _ rfl) (sa_cons (se_ix (se_var 0) (se_var 1)) (sa_nil))) (se_bin o2_add (se_bin o2_add (se_bin o2_mul (se_int) (se_var 1)) (se_bin o2_mod (se_ty cr_int (B.bl 1 _ rfl) (sa_cons (se_bi (cr_sumW cf.calm) (B.bl 11 _ rfl) (sa_cons (se_sl (se_var 0) (so_none) (so_some (se_int))) (sa_nil))) (sa_nil))) (se_int))) (se_int)))) (sss_cons (ss_set 3 cf (se_bin o2_add (se_int) (se_bin o2_mul (se_int) (se_var 1)))) (sss_cons (ss_for cf (si_seq (se_bin o2_add (se_sl (se_var 0) (so_none) (so_some (se_int))) (se_lst (sa_cons (se_var 2) (sa_nil))))) (sg_name 4 cf) (sss_one (ss_set 3 cf (se_bin o2_mod (se_ty cr_int (B.bl 1 _ rfl) (sa_cons (se_bin o2_add (se_bin o2_add (se_bin o2_mul (se_var 3) (se_int)) (se_bin o2_mod (se_ty cr_int (B.bl 1 _ rfl) (sa_cons (se_var 4) (sa_nil))) (se_int))) (se_int)) (sa_nil))) (se_int))))) (sss_one (ss_ret (se_lstS (sa_cons (se_if (st_w (sw_or (st_cmp o2_lt (se_var 2) (se_int)) (sw_or1 (st_cmp o2_ge (se_var 2) (se_bin o2_pow (se_int) (se_int)))))) (se_bi cr_abs (B.bl 12 _ rfl) (sa_cons (se_var 2) (sa_nil))) (se_int)) (sa_cons (se_var 3) (sa_cons (se_int) (sa_nil)))))))))
theorem d_law_take (cdv : Value) (A : Around) (outer : List PySem.Env) (s : Shared) (H : Hp) (E : XK) (cf : Cfg (cxOf (L2.CX P w) P w K mg base N_law_take "_law_take" (defScope (top 51)) ((gs K).fa 35) cdv A outer s H E)) (hr : Room (d + 2) (A.deeper (envOfC "_law_take" (defScope (top 51)) s.heap.objs.size ((gs K).fa 35) cdv))) :
    SSs (cxOf (L2.CX P w) P w K mg base N_law_take "_law_take" (defScope (top 51)) ((gs K).fa 35) cdv A outer s H E) (gs K) (defBody (top 51)) (b_law_take (fns T d)) := by
  unfold b_law_take
  exact sss_cons (ss_if (st_cmp o2_gt (se_ix (se_var 0) (se_int)) (se_int)) (sss_cons (ss_asg (se_bi cr_divmod (B.bl 13 _ rfl) (sa_cons (se_ix (se_var 0) (se_int)) (sa_cons (se_var 1) (sa_nil)))) (sg_tup 2 cf (sgs_cons (sg_idx (se_var 0) (se_int)) (sgs_cons (sg_name 2 cf) (sgs_nil))) (hl := glen_cons (glen_cons (glen_nil))))) (sss_one (ss_ret (se_var 2)))) (sss_nil)) (sss_cons (ss_asg (se_bin o2_add (se_ix (se_var 0) (se_int)) (se_int)) (sg_idx (se_var 0) (se_int))) (sss_cons (ss_set 3 cf (se_bin o2_add (se_bin o2_mod (se_ty cr_int (B.bl 1 _ rfl) (sa_cons (se_ix (se_var 0) (se_int)) (sa_nil))) (se_int)) (se_int))) (sss_cons (ss_asg (se_bin o2_mod (se_ty cr_int (B.bl 1 _ rfl) (sa_cons (se_bin o2_add (se_bin o2_add (se_bin o2_mul (se_ix (se_var 0) (se_int)) (se_var 3)) (se_bin o2_mul (se_int) (se_ix (se_var 0) (se_int)))) (se_int)) (sa_nil))) (se_int)) (sg_idx (se_var 0) (se_int))) (sss_one (ss_ret (se_bin o2_mod (se_ty cr_int (B.bl 1 _ rfl) (sa_cons (se_bin o2_div (se_ix (se_var 0) (se_int)) (se_int)) (sa_nil))) (se_var 1)))))))
theorem d_law_same (cdv : Value) (A : Around) (outer : List PySem.Env) (s : Shared) (H : Hp) (E : XK) (cf : Cfg (cxOf (L2.CX P w) P w K mg base N_law_same "_law_same" (defScope (top 53)) ((gs K).fa 36) cdv A outer s H E)) (hr : Room (d + 2) (A.deeper (envOfC "_law_same" (defScope (top 53)) s.heap.objs.size ((gs K).fa 36) cdv))) :
    SSs (cxOf (L2.CX P w) P w K mg base N_law_same "_law_same" (defScope (top 53)) ((gs K).fa 36) cdv A outer s H E) (gs K) (defBody (top 53)) (b_law_same (fns T d)) := by
  unfold b_law_same
  exact sss_cons (ss_if (st_tru (se_isi 4 (B.bl 0 _ rfl) (B.bl 10 _ rfl) (se_var 1))) (sss_one (ss_ret (se_and (se_isi 4 (B.bl 0 _ rfl) (B.bl 10 _ rfl) (se_var 0)) (se_and (se_cmp (o2_eq (by have := cf.un; omega)) (se_bi cr_len (B.bl 5 _ rfl) (sa_cons (se_var 0) (sa_nil))) (se_bi cr_len (B.bl 5 _ rfl) (sa_cons (se_var 1) (sa_nil)))) (se_one (se_bi (cr_allW cf.calm) (B.bl 4 _ rfl) (sa_cons (se_comp [("k", 2)] cf (si_range1 (B.bl 7 _ rfl) (sa_cons (se_bi cr_len (B.bl 5 _ rfl) (sa_cons (se_var 1) (sa_nil))) (sa_nil))) (blkOk_by (by kernel_rfl)) (fun _ _ _ _ _ cf => sg_name 2 cf) (fun _ _ _ _ _ cf => sts_nil) (fun _ _ _ _ _ cf => se_call 36 (IH 36 _ rfl) hr (sa_cons (se_ix (se_var 0) (se_var 2)) (sa_cons (se_ix (se_var 1) (se_var 2)) (sa_nil))))) (sa_nil)))))))) (sss_nil)) (sss_cons (ss_if (st_tru (se_isi 5 (B.bl 0 _ rfl) (B.bl 14 _ rfl) (se_var 1))) (sss_one (ss_ret (se_and (se_isi 5 (B.bl 0 _ rfl) (B.bl 14 _ rfl) (se_var 0)) (se_and (se_cmp (o2_eq (by have := cf.un; omega)) (se_bi cr_len (B.bl 5 _ rfl) (sa_cons (se_var 0) (sa_nil))) (se_bi cr_len (B.bl 5 _ rfl) (sa_cons (se_var 1) (sa_nil)))) (se_one (se_bi (cr_allW cf.calm) (B.bl 4 _ rfl) (sa_cons (se_comp [("k", 2)] cf (si_range1 (B.bl 7 _ rfl) (sa_cons (se_bi cr_len (B.bl 5 _ rfl) (sa_cons (se_var 1) (sa_nil))) (sa_nil))) (blkOk_by (by kernel_rfl)) (fun _ _ _ _ _ cf => sg_name 2 cf) (fun _ _ _ _ _ cf => sts_nil) (fun _ _ _ _ _ cf => se_call 36 (IH 36 _ rfl) hr (sa_cons (se_ix (se_var 0) (se_var 2)) (sa_cons (se_ix (se_var 1) (se_var 2)) (sa_nil))))) (sa_nil)))))))) (sss_nil)) (sss_cons (ss_if (st_isN (se_var 1)) (sss_one (ss_ret (se_isN (se_var 0)))) (sss_nil)) (sss_cons (ss_if (st_tru (se_isi 1 (B.bl 0 _ rfl) (B.bl 2 _ rfl) (se_var 1))) (sss_one (ss_ret (se_and (se_isi 1 (B.bl 0 _ rfl) (B.bl 2 _ rfl) (se_var 0)) (se_one (se_cmp (o2_eq (by have := cf.un; omega)) (se_var 0) (se_var 1)))))) (sss_nil)) (sss_cons (ss_if (st_tru (se_isi 2 (B.bl 0 _ rfl) (B.bl 1 _ rfl) (se_var 1))) (sss_one (ss_ret (se_and (se_isi 2 (B.bl 0 _ rfl) (B.bl 1 _ rfl) (se_var 0)) (se_and (se_not (se_isi 1 (B.bl 0 _ rfl) (B.bl 2 _ rfl) (se_var 0))) (se_one (se_cmp (o2_eq (by have := cf.un; omega)) (se_var 0) (se_var 1))))))) (sss_nil)) (sss_cons (ss_if (st_tru (se_isi 3 (B.bl 0 _ rfl) (B.bl 3 _ rfl) (se_var 1))) (sss_one (ss_ret (se_and (se_isi 3 (B.bl 0 _ rfl) (B.bl 3 _ rfl) (se_var 0)) (se_one (se_cmp (o2_eq (by have := cf.un; omega)) (se_var 0) (se_var 1)))))) (sss_nil)) (sss_one (ss_ret (se_cmp (o2_eq (by have := cf.un; omega)) (se_var 0) (se_var 1)))))))))
theorem d_law_card (cdv : Value) (A : Around) (outer : List PySem.Env) (s : Shared) (H : Hp) (E : XK) (cf : Cfg (cxOf (L2.CX P w) P w K mg base N_law_card "_law_card" (defScope (top 54)) ((gs K).fa 37) cdv A outer s H E)) (hr : Room (d + 2) (A.deeper (envOfC "_law_card" (defScope (top 54)) s.heap.objs.size ((gs K).fa 37) cdv))) :
    SSs (cxOf (L2.CX P w) P w K mg base N_law_card "_law_card" (defScope (top 54)) ((gs K).fa 37) cdv A outer s H E) (gs K) (defBody (top 54)) (b_law_card (fns T d)) := by
  unfold b_law_card
  exact sss_cons (ss_set 2 cf (se_str [])) (sss_cons (ss_for cf (si_range1 (B.bl 7 _ rfl) (sa_cons (se_var 1) (sa_nil))) (sg_name 3 cf) (sss_cons (ss_set 2 cf (se_bin o2_add (se_if (st_cmp (o2_eq (by have := cf.un; omega)) (se_bin o2_mod (se_ty cr_int (B.bl 1 _ rfl) (sa_cons (se_var 0) (sa_nil))) (se_int)) (se_int)) (se_str [111]) (se_str [46])) (se_var 2))) (sss_one (ss_set 0 cf (se_bin o2_div (se_var 0) (se_int)))))) (sss_one (ss_ret (se_var 2))))
theorem d_law_number (cdv : Value) (A : Around) (outer : List PySem.Env) (s : Shared) (H : Hp) (E : XK) (cf : Cfg (cxOf (L2.CX P w) P w K mg base N_law_number "_law_number" (defScope (top 55)) ((gs K).fa 38) cdv A outer s H E)) (hr : Room (d + 2) (A.deeper (envOfC "_law_number" (defScope (top 55)) s.heap.objs.size ((gs K).fa 38) cdv))) :
    SSs (cxOf (L2.CX P w) P w K mg base N_law_number "_law_number" (defScope (top 55)) ((gs K).fa 38) cdv A outer s H E) (gs K) (defBody (top 55)) (b_law_number (fns T d)) := by
  unfold b_law_number
  exact sss_cons (ss_set 1 cf (se_int)) (sss_cons (ss_for cf (si_seq (se_var 0)) (sg_name 2 cf) (sss_one (ss_set 1 cf (se_bin o2_add (se_bin o2_mul (se_int) (se_var 1)) (se_if (st_cmp (o2_eq (by have := cf.un; omega)) (se_var 2) (se_str [111])) (se_int) (se_int)))))) (sss_one (ss_ret (se_var 1))))
theorem d_law_row (cdv : Value) (A : Around) (outer : List PySem.Env) (s : Shared) (H : Hp) (E : XK) (cf : Cfg (cxOf (L2.CX P w) P w K mg base N_law_row "_law_row" (defScope (top 56)) ((gs K).fa 39) cdv A outer s H E)) (hr : Room (d + 2) (A.deeper (envOfC "_law_row" (defScope (top 56)) s.heap.objs.size ((gs K).fa 39) cdv))) :
    SSs (cxOf (L2.CX P w) P w K mg base N_law_row "_law_row" (defScope (top 56)) ((gs K).fa 39) cdv A outer s H E) (gs K) (defBody (top 56)) (b_law_row (fns T d)) := by
  unfold b_law_row
  exact sss_cons (ss_par 2 3 cf (sa_cons (se_listRg2 1 cf (B.bl 14 _ rfl) (B.bl 7 _ rfl) (se_int) (se_call 40 (IH 40 _ rfl) hr (sa_cons (se_var 1) (sa_nil)))) (sa_cons (se_call 35 (IH 35 _ rfl) hr (sa_cons (se_var 0) (sa_cons (se_int) (sa_nil)))) (sa_nil)))) (sss_cons (ss_par 4 5 cf (sa_cons (se_lstS (sa_nil)) (sa_cons (se_call 35 (IH 35 _ rfl) hr (sa_cons (se_var 0) (sa_cons (se_bin o2_add (se_bi (cr_min2 cf.calm) (B.bl 9 _ rfl) (sa_cons (se_int) (sa_cons (se_bi cr_len (B.bl 5 _ rfl) (sa_cons (se_var 2) (sa_nil))) (sa_nil)))) (se_int)) (sa_nil)))) (sa_nil)))) (sss_cons (ss_for cf (si_range1 (B.bl 7 _ rfl) (sa_cons (se_var 5) (sa_nil))) (sg_name 6 cf) (sss_one (ss_if (st_w (sw_and (st_cmp (o2_eq (by have := cf.un; omega)) (se_var 3) (se_int)) (sw_and (st_cmp (o2_gt2 (by have := cf.un; omega)) (se_bi cr_len (B.bl 5 _ rfl) (sa_cons (se_var 4) (sa_nil))) (se_int)) (sw_and1 (st_cmp (o2_eq (by have := cf.un; omega)) (se_call 35 (IH 35 _ rfl) hr (sa_cons (se_var 0) (sa_cons (se_int) (sa_nil)))) (se_int)))))) (sss_cons (ss_set 7 cf (se_bin o2_xor (se_ix (se_var 4) (se_call 35 (IH 35 _ rfl) hr (sa_cons (se_var 0) (sa_cons (se_bi cr_len (B.bl 5 _ rfl) (sa_cons (se_var 4) (sa_nil))) (sa_nil))))) (se_ix (se_var 4) (se_call 35 (IH 35 _ rfl) hr (sa_cons (se_var 0) (sa_cons (se_bi cr_len (B.bl 5 _ rfl) (sa_cons (se_var 4) (sa_nil))) (sa_nil))))))) (sss_one (ss_if (st_cmp (o2_in (by have := cf.un; omega)) (se_var 7) (se_var 2)) (sss_cons (ss_expr (se_meth 5 omRemoveI PySem.F.plainAttrs_list PySem.F.slot_list_remove PySem.F.type_list_remove om_removeI (se_var 2) (sa_cons (se_var 7) (sa_nil)))) (sss_one (ss_expr (se_meth 5 omAppend PySem.F.plainAttrs_list PySem.F.slot_list_append PySem.F.type_list_append om_append (se_var 4) (sa_cons (se_var 7) (sa_nil)))))) (sss_nil)))) (sss_one (ss_if (st_cmp (o2_gt2 (by have := cf.un; omega)) (se_bi cr_len (B.bl 5 _ rfl) (sa_cons (se_var 2) (sa_nil))) (se_int)) (sss_one (ss_expr (se_meth 5 omAppend PySem.F.plainAttrs_list PySem.F.slot_list_append PySem.F.type_list_append om_append (se_var 4) (sa_cons (se_meth 5 omPopAt PySem.F.plainAttrs_list PySem.F.slot_list_pop PySem.F.type_list_pop om_popAt (se_var 2) (sa_cons (se_call 35 (IH 35 _ rfl) hr (sa_cons (se_var 0) (sa_cons (se_bi (cr_min2 cf.calm) (B.bl 9 _ rfl) (sa_cons (se_bi cr_len (B.bl 5 _ rfl) (sa_cons (se_var 2) (sa_nil))) (sa_cons (se_if (st_cmp (o2_eq (by have := cf.un; omega)) (se_var 3) (se_int)) (se_int) (se_bi cr_len (B.bl 5 _ rfl) (sa_cons (se_var 2) (sa_nil)))) (sa_nil)))) (sa_nil)))) (sa_nil))) (sa_nil))))) (sss_nil)))))) (sss_one (ss_ret (se_ty cr_tupleW (B.bl 10 _ rfl) (sa_cons (se_compD false [("number", 8)] cf (se_var 4) (blkOk_by (by kernel_rfl)) (fun _ _ _ _ _ cf => sg_name 8 cf) (fun _ _ _ _ _ cf => sts_nil) (fun _ _ _ _ _ cf => se_call 37 (IH 37 _ rfl) hr (sa_cons (se_var 8) (sa_cons (se_var 1) (sa_nil))))) (sa_nil)))))))
theorem d_law_two (cdv : Value) (A : Around) (outer : List PySem.Env) (s : Shared) (H : Hp) (E : XK) (cf : Cfg (cxOf (L2.CX P w) P w K mg base N_law_two "_law_two" (defScope (top 57)) ((gs K).fa 40) cdv A outer s H E)) (hr : Room (d + 2) (A.deeper (envOfC "_law_two" (defScope (top 57)) s.heap.objs.size ((gs K).fa 40) cdv))) :
    SSs (cxOf (L2.CX P w) P w K mg base N_law_two "_law_two" (defScope (top 57)) ((gs K).fa 40) cdv A outer s H E) (gs K) (defBody (top 57)) (b_law_two (fns T d)) := by
  unfold b_law_two
  exact sss_cons (ss_set 1 cf (se_int)) (sss_cons (ss_for cf (si_range1 (B.bl 7 _ rfl) (sa_cons (se_var 0) (sa_nil))) (sg_name 2 cf) (sss_one (ss_set 1 cf (se_bin o2_mul (se_var 1) (se_int))))) (sss_one (ss_ret (se_var 1))))
theorem d_law_reduced (cdv : Value) (A : Around) (outer : List PySem.Env) (s : Shared) (H : Hp) (E : XK) (cf : Cfg (cxOf (L2.CX P w) P w K mg base N_law_reduced "_law_reduced" (defScope (top 60)) ((gs K).fa 41) cdv A outer s H E)) (hr : Room (d + 2) (A.deeper (envOfC "_law_reduced" (defScope (top 60)) s.heap.objs.size ((gs K).fa 41) cdv))) :
    SSs (cxOf (L2.CX P w) P w K mg base N_law_reduced "_law_reduced" (defScope (top 60)) ((gs K).fa 41) cdv A outer s H E) (gs K) (defBody (top 60)) (b_law_reduced (fns T d)) := by
  unfold b_law_reduced
  exact sss_cons (ss_set 1 cf (se_lstS (sa_nil))) (sss_cons (ss_for cf (si_seq (se_var 0)) (sg_name 2 cf) (sss_cons (ss_forD cf (se_var 1) (sg_name 3 cf) (sss_one (ss_set 2 cf (se_bi (cr_min2 cf.calm) (B.bl 9 _ rfl) (sa_cons (se_var 2) (sa_cons (se_bin o2_xor (se_var 2) (se_var 3)) (sa_nil))))))) (sss_one (ss_if (st_cmp (o2_gt2 (by have := cf.un; omega)) (se_var 2) (se_int)) (sss_one (ss_expr (se_meth 5 omAppend PySem.F.plainAttrs_list PySem.F.slot_list_append PySem.F.type_list_append om_append (se_var 1) (sa_cons (se_var 2) (sa_nil))))) (sss_nil))))) (sss_one (ss_ret (se_var 1))))
theorem d_law_drawn (cdv : Value) (A : Around) (outer : List PySem.Env) (s : Shared) (H : Hp) (E : XK) (cf : Cfg (cxOf (L2.CX P w) P w K mg base N_law_drawn "_law_drawn" (defScope (top 61)) ((gs K).fa 42) cdv A outer s H E)) (hr : Room (d + 2) (A.deeper (envOfC "_law_drawn" (defScope (top 61)) s.heap.objs.size ((gs K).fa 42) cdv))) :
    SSs (cxOf (L2.CX P w) P w K mg base N_law_drawn "_law_drawn" (defScope (top 61)) ((gs K).fa 42) cdv A outer s H E) (gs K) (defBody (top 61)) (b_law_drawn (fns T d)) := by
  unfold b_law_drawn
  exact sss_cons (ss_set 2 cf (se_lstS (sa_nil))) (sss_cons (ss_for cf (si_range1 (B.bl 7 _ rfl) (sa_cons (se_bin o2_add (se_int) (se_call 35 (IH 35 _ rfl) hr (sa_cons (se_var 0) (sa_cons (se_int) (sa_nil))))) (sa_nil))) (sg_name 3 cf) (sss_cons (ss_set 4 cf (se_call 35 (IH 35 _ rfl) hr (sa_cons (se_var 0) (sa_cons (se_var 1) (sa_nil))))) (sss_one (ss_expr (se_meth 5 omAppend PySem.F.plainAttrs_list PySem.F.slot_list_append PySem.F.type_list_append om_append (se_var 2) (sa_cons (se_tup (sa_cons (se_var 4) (sa_cons (se_bin o2_mod (se_ty cr_int (B.bl 1 _ rfl) (sa_cons (se_bin o2_add (se_bin o2_add (se_var 4) (se_int)) (se_call 35 (IH 35 _ rfl) hr (sa_cons (se_var 0) (sa_cons (se_bin o2_sub (se_var 1) (se_int)) (sa_nil))))) (sa_nil))) (se_var 1)) (sa_nil)))) (sa_nil))))))) (sss_one (ss_ret (se_var 2))))
theorem d_law_led (cdv : Value) (A : Around) (outer : List PySem.Env) (s : Shared) (H : Hp) (E : XK) (cf : Cfg (cxOf (L2.CX P w) P w K mg base N_law_led "_law_led" (defScope (top 62)) ((gs K).fa 43) cdv A outer s H E)) (hr : Room (d + 2) (A.deeper (envOfC "_law_led" (defScope (top 62)) s.heap.objs.size ((gs K).fa 43) cdv))) :
    SSs (cxOf (L2.CX P w) P w K mg base N_law_led "_law_led" (defScope (top 62)) ((gs K).fa 43) cdv A outer s H E) (gs K) (defBody (top 62)) (b_law_led (fns T d)) := by
  unfold b_law_led
  exact sss_cons (ss_setLcS 2 [("sign", 5)] cf (si_seq (se_var 0)) (blkOk_by (by kernel_rfl)) (fun _ _ _ _ _ cf => sg_name 5 cf) (fun _ _ _ _ _ cf => sts_nil) (fun _ _ _ _ _ cf => se_if (st_cmp (o2_eq (by have := cf.un; omega)) (se_var 5) (se_str [111])) (se_int) (se_int))) (sss_cons (ss_for cf (si_seq (se_var 1)) (sg_tup 2 cf (sgs_cons (sg_name 3 cf) (sgs_cons (sg_name 4 cf) (sgs_nil))) (hl := glen_cons (glen_cons (glen_nil)))) (sss_one (ss_asg (se_bin o2_xor (se_ix (se_var 2) (se_var 3)) (se_ix (se_var 2) (se_var 4))) (sg_idx (se_var 2) (se_var 3))))) (sss_one (ss_ret (se_join (se_str []) (se_compD false [("sign", 5)] cf (se_var 2) (blkOk_by (by kernel_rfl)) (fun _ _ _ _ _ cf => sg_name 5 cf) (fun _ _ _ _ _ cf => sts_nil) (fun _ _ _ _ _ cf => se_if (st_cmp (o2_eq (by have := cf.un; omega)) (se_var 5) (se_int)) (se_str [111]) (se_str [46])))))))
theorem d_law_told (cdv : Value) (A : Around) (outer : List PySem.Env) (s : Shared) (H : Hp) (E : XK) (cf : Cfg (cxOf (L2.CX P w) P w K mg base N_law_told "_law_told" (defScope (top 63)) ((gs K).fa 44) cdv A outer s H E)) (hr : Room (d + 2) (A.deeper (envOfC "_law_told" (defScope (top 63)) s.heap.objs.size ((gs K).fa 44) cdv))) :
    SSs (cxOf (L2.CX P w) P w K mg base N_law_told "_law_told" (defScope (top 63)) ((gs K).fa 44) cdv A outer s H E) (gs K) (defBody (top 63)) (b_law_told (fns T d)) := by
  unfold b_law_told
  exact sss_one (ss_ret (se_tup (sa_cons (se_call 26 (IH 26 _ rfl) hr (sa_cons (se_var 0) (sa_cons (se_var 1) (sa_nil)))) (sa_cons (se_call 30 (IH 30 _ rfl) hr (sa_cons (se_var 0) (sa_cons (se_var 1) (sa_nil)))) (sa_cons (se_call 29 (IH 29 _ rfl) hr (sa_cons (se_var 0) (sa_cons (se_var 1) (sa_nil)))) (sa_cons (se_call 27 (IH 27 _ rfl) hr (sa_cons (se_var 0) (sa_cons (se_var 1) (sa_nil)))) (sa_cons (se_call 28 (IH 28 _ rfl) hr (sa_cons (se_var 0) (sa_cons (se_var 1) (sa_nil)))) (sa_cons (se_call 31 (IH 31 _ rfl) hr (sa_cons (se_var 0) (sa_cons (se_var 1) (sa_nil)))) (sa_cons (se_ix (se_ix (se_call 33 (IH 33 _ rfl) hr (sa_cons (se_var 0) (sa_cons (se_var 1) (sa_nil)))) (se_int)) (se_int)) (sa_nil))))))))))
theorem d_law_asked (cdv : Value) (A : Around) (outer : List PySem.Env) (s : Shared) (H : Hp) (E : XK) (cf : Cfg (cxOf (L2.CX P w) P w K mg base N_law_asked "_law_asked" (defScope (top 64)) ((gs K).fa 45) cdv A outer s H E)) (hr : Room (d + 2) (A.deeper (envOfC "_law_asked" (defScope (top 64)) s.heap.objs.size ((gs K).fa 45) cdv))) :
    SSs (cxOf (L2.CX P w) P w K mg base N_law_asked "_law_asked" (defScope (top 64)) ((gs K).fa 45) cdv A outer s H E) (gs K) (defBody (top 64)) (b_law_asked (fns T d)) := by
  unfold b_law_asked
  exact sss_cons (ss_set 3 cf (se_call 42 (IH 42 _ rfl) hr (sa_cons (se_var 0) (sa_cons (se_var 1) (sa_nil))))) (sss_cons (ss_set 4 cf (se_ty cr_tupleW (B.bl 10 _ rfl) (sa_cons (se_comp [("card", 7)] cf (si_seq (se_var 2)) (blkOk_by (by kernel_rfl)) (fun _ _ _ _ _ cf => sg_name 7 cf) (fun _ _ _ _ _ cf => sts_nil) (fun _ _ _ _ _ cf => se_call 43 (IH 43 _ rfl) hr (sa_cons (se_var 7) (sa_cons (se_var 3) (sa_nil))))) (sa_nil)))) (sss_cons (ss_if (st_w (sw_or (st_not (st_tru (se_call 36 (IH 36 _ rfl) hr (sa_cons (se_call 44 (IH 44 _ rfl) hr (sa_cons (se_var 1) (sa_cons (se_var 4) (sa_nil)))) (sa_cons (se_call 44 (IH 44 _ rfl) hr (sa_cons (se_var 1) (sa_cons (se_var 2) (sa_nil)))) (sa_nil)))))) (sw_or1 (st_not (st_tru (se_call 36 (IH 36 _ rfl) hr (sa_cons (se_ty cr_tupleW (B.bl 10 _ rfl) (sa_cons (se_comp [("card", 7)] cf (si_seq (se_var 4)) (blkOk_by (by kernel_rfl)) (fun _ _ _ _ _ cf => sg_name 7 cf) (fun _ _ _ _ _ cf => sts_nil) (fun _ _ _ _ _ cf => se_call 43 (IH 43 _ rfl) hr (sa_cons (se_var 7) (sa_cons (se_rev (se_var 3)) (sa_nil))))) (sa_nil))) (sa_cons (se_var 2) (sa_nil))))))))) (sss_one (ss_ret (se_bl))) (sss_nil)) (sss_cons (ss_if (st_cmp (o2_ne (by have := cf.un; omega)) (se_call 29 (IH 29 _ rfl) hr (sa_cons (se_var 1) (sa_cons (se_var 2) (sa_nil)))) (se_bi cr_len (B.bl 5 _ rfl) (sa_cons (se_call 41 (IH 41 _ rfl) hr (sa_cons (se_comp [("card", 7)] cf (si_seq (se_var 2)) (blkOk_by (by kernel_rfl)) (fun _ _ _ _ _ cf => sg_name 7 cf) (fun _ _ _ _ _ cf => sts_nil) (fun _ _ _ _ _ cf => se_call 38 (IH 38 _ rfl) hr (sa_cons (se_var 7) (sa_nil)))) (sa_nil))) (sa_nil)))) (sss_one (ss_ret (se_bl))) (sss_nil)) (sss_cons (ss_if (st_not (st_tru (se_call 36 (IH 36 _ rfl) hr (sa_cons (se_call 32 (IH 32 _ rfl) hr (sa_cons (se_var 1) (sa_cons (se_var 4) (sa_nil)))) (sa_cons (se_ty cr_tupleW (B.bl 10 _ rfl) (sa_cons (se_bi cr_sortedW (B.bl 8 _ rfl) (sa_cons (se_comp [("card", 7)] cf (si_seq (se_call 32 (IH 32 _ rfl) hr (sa_cons (se_var 1) (sa_cons (se_var 2) (sa_nil))))) (blkOk_by (by kernel_rfl)) (fun _ _ _ _ _ cf => sg_name 7 cf) (fun _ _ _ _ _ cf => sts_nil) (fun _ _ _ _ _ cf => se_call 43 (IH 43 _ rfl) hr (sa_cons (se_var 7) (sa_cons (se_var 3) (sa_nil))))) (sa_nil))) (sa_nil))) (sa_nil)))))) (sss_one (ss_ret (se_bl))) (sss_nil)) (sss_cons (ss_if (st_not (st_tru (se_call 36 (IH 36 _ rfl) hr (sa_cons (se_call 25 (IH 25 _ rfl) hr (sa_cons (se_var 1) (sa_cons (se_var 4) (sa_nil)))) (sa_cons (se_call 43 (IH 43 _ rfl) hr (sa_cons (se_call 25 (IH 25 _ rfl) hr (sa_cons (se_var 1) (sa_cons (se_var 2) (sa_nil)))) (sa_cons (se_var 3) (sa_nil)))) (sa_nil)))))) (sss_one (ss_ret (se_bl))) (sss_nil)) (sss_cons (ss_set 5 cf (se_comp [("k", 8)] cf (si_range1 (B.bl 7 _ rfl) (sa_cons (se_var 1) (sa_nil))) (blkOk_by (by kernel_rfl)) (fun _ _ _ _ _ cf => sg_name 8 cf) (fun _ _ _ _ _ cf => sts_one (st_cmp (o2_eq (by have := cf.un; omega)) (se_call 35 (IH 35 _ rfl) hr (sa_cons (se_var 0) (sa_cons (se_int) (sa_nil)))) (se_int))) (fun _ _ _ _ _ cf => se_var 8))) (sss_cons (ss_set 6 cf (se_ty cr_tupleW (B.bl 10 _ rfl) (sa_cons (se_comp [("card", 7)] cf (si_seq (se_var 2)) (blkOk_by (by kernel_rfl)) (fun _ _ _ _ _ cf => sg_name 7 cf) (fun _ _ _ _ _ cf => sts_nil) (fun _ _ _ _ _ cf => se_bin o2_add (se_var 7) (se_if (st_cmp (o2_eq (by have := cf.un; omega)) (se_bin o2_and (se_bi cr_len (B.bl 5 _ rfl) (sa_cons (se_comp [("k", 8)] cf (si_seq (se_var 5)) (blkOk_by (by kernel_rfl)) (fun _ _ _ _ _ cf => sg_name 8 cf) (fun _ _ _ _ _ cf => sts_one (st_cmp (o2_eq (by have := cf.un; omega)) (se_ix (se_var 7) (se_var 8)) (se_str [111]))) (fun _ _ _ _ _ cf => se_var 8)) (sa_nil))) (se_int)) (se_int)) (se_str [111]) (se_str [46])))) (sa_nil)))) (sss_one (ss_ret (se_or (se_cmp (o2_gt2 (by have := cf.un; omega)) (se_var 1) (se_int)) (se_one (se_call 36 (IH 36 _ rfl) hr (sa_cons (se_call 44 (IH 44 _ rfl) hr (sa_cons (se_bin o2_add (se_var 1) (se_int)) (sa_cons (se_var 6) (sa_nil)))) (sa_cons (se_call 44 (IH 44 _ rfl) hr (sa_cons (se_var 1) (sa_cons (se_var 2) (sa_nil)))) (sa_nil)))))))))))))))
theorem d_law_beside (cdv : Value) (A : Around) (outer : List PySem.Env) (s : Shared) (H : Hp) (E : XK) (cf : Cfg (cxOf (L2.CX P w) P w K mg base N_law_beside "_law_beside" (defScope (top 65)) ((gs K).fa 46) cdv A outer s H E)) (hr : Room (d + 2) (A.deeper (envOfC "_law_beside" (defScope (top 65)) s.heap.objs.size ((gs K).fa 46) cdv))) :
    SSs (cxOf (L2.CX P w) P w K mg base N_law_beside "_law_beside" (defScope (top 65)) ((gs K).fa 46) cdv A outer s H E) (gs K) (defBody (top 65)) (b_law_beside (fns T d)) := by
  unfold b_law_beside
  exact sss_cons (ss_asg (se_tup (sa_cons (se_bin o2_add (se_int) (se_call 35 (IH 35 _ rfl) hr (sa_cons (se_var 0) (sa_cons (se_int) (sa_nil))))) (sa_cons (se_bin o2_add (se_int) (se_call 35 (IH 35 _ rfl) hr (sa_cons (se_var 0) (sa_cons (se_int) (sa_nil))))) (sa_nil)))) (sg_tup 2 cf (sgs_cons (sg_name 1 cf) (sgs_cons (sg_name 2 cf) (sgs_nil))) (hl := glen_cons (glen_cons (glen_nil))))) (sss_cons (ss_asg (se_tup (sa_cons (se_sl (se_call 39 (IH 39 _ rfl) hr (sa_cons (se_var 0) (sa_cons (se_var 1) (sa_nil)))) (so_none) (so_some (se_int))) (sa_cons (se_sl (se_call 39 (IH 39 _ rfl) hr (sa_cons (se_var 0) (sa_cons (se_var 2) (sa_nil)))) (so_none) (so_some (se_int))) (sa_nil)))) (sg_tup 2 cf (sgs_cons (sg_name 3 cf) (sgs_cons (sg_name 4 cf) (sgs_nil))) (hl := glen_cons (glen_cons (glen_nil))))) (sss_cons (ss_set 5 cf (se_bin o2_add (se_ty cr_tupleW (B.bl 10 _ rfl) (sa_cons (se_comp [("card", 7)] cf (si_seq (se_var 3)) (blkOk_by (by kernel_rfl)) (fun _ _ _ _ _ cf => sg_name 7 cf) (fun _ _ _ _ _ cf => sts_nil) (fun _ _ _ _ _ cf => se_bin o2_add (se_var 7) (se_bin o2_mulS (se_str [46]) (se_var 2)))) (sa_nil))) (se_ty cr_tupleW (B.bl 10 _ rfl) (sa_cons (se_comp [("card", 7)] cf (si_seq (se_var 4)) (blkOk_by (by kernel_rfl)) (fun _ _ _ _ _ cf => sg_name 7 cf) (fun _ _ _ _ _ cf => sts_nil) (fun _ _ _ _ _ cf => se_bin o2_add (se_bin o2_mulS (se_str [46]) (se_var 1)) (se_var 7))) (sa_nil))))) (sss_cons (ss_setLc 6 [("part", 8)] cf (si_seq (se_call 26 (IH 26 _ rfl) hr (sa_cons (se_bin o2_add (se_var 1) (se_var 2)) (sa_cons (se_var 5) (sa_nil))))) (blkOk_by (by kernel_rfl)) (fun _ _ _ _ _ cf => sg_name 8 cf) (fun _ _ _ _ _ cf => sts_one (st_w (sw_or (st_cmp (o2_lt2 (by have := cf.un; omega)) (se_ix (se_var 8) (se_bin o2_sub (se_bi cr_len (B.bl 5 _ rfl) (sa_cons (se_var 8) (sa_nil))) (se_int))) (se_bi cr_len (B.bl 5 _ rfl) (sa_cons (se_var 3) (sa_nil)))) (sw_or1 (st_cmp (o2_ge2 (by have := cf.un; omega)) (se_ix (se_var 8) (se_int)) (se_bi cr_len (B.bl 5 _ rfl) (sa_cons (se_var 3) (sa_nil)))))))) (fun _ _ _ _ _ cf => se_var 8)) (sss_cons (ss_if (st_cmp (o2_ne (by have := cf.un; omega)) (se_ty cr_tupleW (B.bl 10 _ rfl) (sa_cons (se_comp [("part", 8)] cf (si_seq (se_var 6)) (blkOk_by (by kernel_rfl)) (fun _ _ _ _ _ cf => sg_name 8 cf) (fun _ _ _ _ _ cf => sts_one (st_cmp (o2_lt2 (by have := cf.un; omega)) (se_ix (se_var 8) (se_int)) (se_bi cr_len (B.bl 5 _ rfl) (sa_cons (se_var 3) (sa_nil))))) (fun _ _ _ _ _ cf => se_var 8)) (sa_nil))) (se_call 26 (IH 26 _ rfl) hr (sa_cons (se_var 1) (sa_cons (se_var 3) (sa_nil))))) (sss_one (ss_ret (se_bl))) (sss_nil)) (sss_cons (ss_if (st_cmp (o2_ne (by have := cf.un; omega)) (se_ty cr_tupleW (B.bl 10 _ rfl) (sa_cons (se_comp [("part", 8)] cf (si_seq (se_var 6)) (blkOk_by (by kernel_rfl)) (fun _ _ _ _ _ cf => sg_name 8 cf) (fun _ _ _ _ _ cf => sts_one (st_cmp (o2_ge2 (by have := cf.un; omega)) (se_ix (se_var 8) (se_int)) (se_bi cr_len (B.bl 5 _ rfl) (sa_cons (se_var 3) (sa_nil))))) (fun _ _ _ _ _ cf => se_ty cr_tupleW (B.bl 10 _ rfl) (sa_cons (se_comp [("k", 9)] cf (si_seq (se_var 8)) (blkOk_by (by kernel_rfl)) (fun _ _ _ _ _ cf => sg_name 9 cf) (fun _ _ _ _ _ cf => sts_nil) (fun _ _ _ _ _ cf => se_bin o2_sub (se_var 9) (se_bi cr_len (B.bl 5 _ rfl) (sa_cons (se_var 3) (sa_nil))))) (sa_nil)))) (sa_nil))) (se_call 26 (IH 26 _ rfl) hr (sa_cons (se_var 2) (sa_cons (se_var 4) (sa_nil))))) (sss_one (ss_ret (se_bl))) (sss_nil)) (sss_one (ss_ret (se_and (se_cmp (o2_eq (by have := cf.un; omega)) (se_call 29 (IH 29 _ rfl) hr (sa_cons (se_bin o2_add (se_var 1) (se_var 2)) (sa_cons (se_var 5) (sa_nil)))) (se_bin o2_add (se_call 29 (IH 29 _ rfl) hr (sa_cons (se_var 1) (sa_cons (se_var 3) (sa_nil)))) (se_call 29 (IH 29 _ rfl) hr (sa_cons (se_var 2) (sa_cons (se_var 4) (sa_nil)))))) (se_one (se_cmp (o2_eq (by have := cf.un; omega)) (se_call 31 (IH 31 _ rfl) hr (sa_cons (se_bin o2_add (se_var 1) (se_var 2)) (sa_cons (se_var 5) (sa_nil)))) (se_bin o2_mul (se_call 31 (IH 31 _ rfl) hr (sa_cons (se_var 1) (sa_cons (se_var 3) (sa_nil)))) (se_call 31 (IH 31 _ rfl) hr (sa_cons (se_var 2) (sa_cons (se_var 4) (sa_nil)))))))))))))))
theorem d_law (cdv : Value) (A : Around) (outer : List PySem.Env) (s : Shared) (H : Hp) (E : XK) (cf : Cfg (cxOf (L2.CX P w) P w K mg base N_law "law" (defScope (top 66)) ((gs K).fa 47) cdv A outer s H E)) (hr : Room (d + 2) (A.deeper (envOfC "law" (defScope (top 66)) s.heap.objs.size ((gs K).fa 47) cdv))) :
    SSs (cxOf (L2.CX P w) P w K mg base N_law "law" (defScope (top 66)) ((gs K).fa 47) cdv A outer s H E) (gs K) (defBody (top 66)) (b_law (fns T d)) := by
  unfold b_law
  exact sss_cons (ss_for cf (si_range1 (B.bl 7 _ rfl) (sa_cons (se_bi (cr_max2 cf.calm) (B.bl 15 _ rfl) (sa_cons (se_int) (sa_cons (se_bi (cr_min2 cf.calm) (B.bl 9 _ rfl) (sa_cons (se_bi cr_len (B.bl 5 _ rfl) (sa_cons (se_var 0) (sa_nil))) (sa_cons (se_int) (sa_nil)))) (sa_nil)))) (sa_nil))) (sg_name 1 cf) (sss_cons (ss_set 2 cf (se_call 34 (IH 34 _ rfl) hr (sa_cons (se_var 0) (sa_cons (se_var 1) (sa_nil))))) (sss_cons (ss_for cf (si_seq (se_lst (sa_cons (se_bin o2_add (se_int) (se_call 35 (IH 35 _ rfl) hr (sa_cons (se_var 2) (sa_cons (se_int) (sa_nil))))) (sa_cons (se_bin o2_add (se_int) (se_call 35 (IH 35 _ rfl) hr (sa_cons (se_var 2) (sa_cons (se_int) (sa_nil))))) (sa_nil))))) (sg_name 3 cf) (sss_one (ss_if (st_not (st_tru (se_call 45 (IH 45 _ rfl) hr (sa_cons (se_var 2) (sa_cons (se_var 3) (sa_cons (se_sl (se_call 39 (IH 39 _ rfl) hr (sa_cons (se_var 2) (sa_cons (se_var 3) (sa_nil)))) (so_none) (so_some (se_int))) (sa_nil))))))) (sss_one (ss_ret (se_bl))) (sss_nil)))) (sss_one (ss_if (st_not (st_tru (se_call 46 (IH 46 _ rfl) hr (sa_cons (se_var 2) (sa_nil))))) (sss_one (ss_ret (se_bl))) (sss_nil)))))) (sss_one (ss_ret (se_bl)))
theorem step : AllF P w K mg base (gs K) T D (d + 1) := by
  intro f r h
  obtain ⟨fd, ft⟩ := IH f r h
  refine ⟨fd, ?_⟩
  match f, h with
  | 0, h =>
    have e : r_is_whole = r := Option.some.inj h
    subst e
    exact fn_step (N := N_is_whole) ft rfl rfl rfl s_is_whole (d_is_whole B IH)
  | 1, h =>
    have e : r_is_between = r := Option.some.inj h
    subst e
    exact fn_step (N := N_is_between) ft rfl rfl rfl s_is_between (d_is_between B IH)
  | 2, h =>
    have e : r_is_text_of = r := Option.some.inj h
    subst e
    exact fn_step (N := N_is_text_of) ft rfl rfl rfl s_is_text_of (d_is_text_of B IH)
  | 3, h =>
    have e : r_check_size = r := Option.some.inj h
    subst e
    exact fn_step (N := N_check_size) ft rfl rfl rfl s_check_size (d_check_size B IH)
  | 4, h =>
    have e : r_is_dotted = r := Option.some.inj h
    subst e
    exact fn_step (N := N_is_dotted) ft rfl rfl rfl s_is_dotted (d_is_dotted B IH)
  | 5, h =>
    have e : r_is_goal = r := Option.some.inj h
    subst e
    exact fn_step (N := N_is_goal) ft rfl rfl rfl s_is_goal (d_is_goal B IH)
  | 6, h =>
    have e : r_first_wrong_dotted = r := Option.some.inj h
    subst e
    exact fn_step (N := N_first_wrong_dotted) ft rfl rfl rfl s_first_wrong_dotted (d_first_wrong_dotted B IH)
  | 7, h =>
    have e : r_bits_of = r := Option.some.inj h
    subst e
    exact fn_step (N := N_bits_of) ft rfl rfl rfl s_bits_of (d_bits_of B IH)
  | 8, h =>
    have e : r_card_of = r := Option.some.inj h
    subst e
    exact fn_step (N := N_card_of) ft rfl rfl rfl s_card_of (d_card_of B IH)
  | 9, h =>
    have e : r_sum_of_bits = r := Option.some.inj h
    subst e
    exact fn_step (N := N_sum_of_bits) ft rfl rfl rfl s_sum_of_bits (d_sum_of_bits B IH)
  | 10, h =>
    have e : r_dot_sum_by = r := Option.some.inj h
    subst e
    exact fn_step (N := N_dot_sum_by) ft rfl rfl rfl s_dot_sum_by (d_dot_sum_by B IH)
  | 11, h =>
    have e : r_sums_of_parts = r := Option.some.inj h
    subst e
    exact fn_step (N := N_sums_of_parts) ft rfl rfl rfl s_sums_of_parts (d_sums_of_parts B IH)
  | 12, h =>
    have e : r_parts_with = r := Option.some.inj h
    subst e
    exact fn_step (N := N_parts_with) ft rfl rfl rfl s_parts_with (d_parts_with B IH)
  | 13, h =>
    have e : r_dot_lots_by = r := Option.some.inj h
    subst e
    exact fn_step (N := N_dot_lots_by) ft rfl rfl rfl s_dot_lots_by (d_dot_lots_by B IH)
  | 14, h =>
    have e : r_fewest_lot_by = r := Option.some.inj h
    subst e
    exact fn_step (N := N_fewest_lot_by) ft rfl rfl rfl s_fewest_lot_by (d_fewest_lot_by B IH)
  | 15, h =>
    have e : r_dot_lots_by_size_by = r := Option.some.inj h
    subst e
    exact fn_step (N := N_dot_lots_by_size_by) ft rfl rfl rfl s_dot_lots_by_size_by (d_dot_lots_by_size_by B IH)
  | 16, h =>
    have e : r_freed = r := Option.some.inj h
    subst e
    exact fn_step (N := N_freed) ft rfl rfl rfl s_freed (d_freed B IH)
  | 17, h =>
    have e : r_next_leads = r := Option.some.inj h
    subst e
    exact fn_step (N := N_next_leads) ft rfl rfl rfl s_next_leads (d_next_leads B IH)
  | 18, h =>
    have e : r_least_base = r := Option.some.inj h
    subst e
    exact fn_step (N := N_least_base) ft rfl rfl rfl s_least_base (d_least_base B IH)
  | 19, h =>
    have e : r_rank_by = r := Option.some.inj h
    subst e
    exact fn_step (N := N_rank_by) ft rfl rfl rfl s_rank_by (d_rank_by B IH)
  | 20, h =>
    have e : r_bases_by = r := Option.some.inj h
    subst e
    exact fn_step (N := N_bases_by) ft rfl rfl rfl s_bases_by (d_bases_by B IH)
  | 21, h =>
    have e : r_dot_deck_by = r := Option.some.inj h
    subst e
    exact fn_step (N := N_dot_deck_by) ft rfl rfl rfl s_dot_deck_by (d_dot_deck_by B IH)
  | 22, h =>
    have e : r_dot_completing_by = r := Option.some.inj h
    subst e
    exact fn_step (N := N_dot_completing_by) ft rfl rfl rfl s_dot_completing_by (d_dot_completing_by B IH)
  | 23, h =>
    have e : r_check_dots = r := Option.some.inj h
    subst e
    exact fn_step (N := N_check_dots) ft rfl rfl rfl s_check_dots (d_check_dots B IH)
  | 24, h =>
    have e : r_check_row = r := Option.some.inj h
    subst e
    exact fn_step (N := N_check_row) ft rfl rfl rfl s_check_row (d_check_row B IH)
  | 25, h =>
    have e : r_dot_sum = r := Option.some.inj h
    subst e
    exact fn_step (N := N_dot_sum) ft rfl rfl rfl s_dot_sum (d_dot_sum B IH)
  | 26, h =>
    have e : r_dot_lots = r := Option.some.inj h
    subst e
    exact fn_step (N := N_dot_lots) ft rfl rfl rfl s_dot_lots (d_dot_lots B IH)
  | 27, h =>
    have e : r_fewest_lot = r := Option.some.inj h
    subst e
    exact fn_step (N := N_fewest_lot) ft rfl rfl rfl s_fewest_lot (d_fewest_lot B IH)
  | 28, h =>
    have e : r_dot_lots_by_size = r := Option.some.inj h
    subst e
    exact fn_step (N := N_dot_lots_by_size) ft rfl rfl rfl s_dot_lots_by_size (d_dot_lots_by_size B IH)
  | 29, h =>
    have e : r_rank = r := Option.some.inj h
    subst e
    exact fn_step (N := N_rank) ft rfl rfl rfl s_rank (d_rank B IH)
  | 30, h =>
    have e : r_bases = r := Option.some.inj h
    subst e
    exact fn_step (N := N_bases) ft rfl rfl rfl s_bases (d_bases B IH)
  | 31, h =>
    have e : r_base_count = r := Option.some.inj h
    subst e
    exact fn_step (N := N_base_count) ft rfl rfl rfl s_base_count (d_base_count B IH)
  | 32, h =>
    have e : r_dot_completing = r := Option.some.inj h
    subst e
    exact fn_step (N := N_dot_completing) ft rfl rfl rfl s_dot_completing (d_dot_completing B IH)
  | 33, h =>
    have e : r_certify_dots = r := Option.some.inj h
    subst e
    exact fn_step (N := N_certify_dots) ft rfl rfl rfl s_certify_dots (d_certify_dots B IH)
  | 34, h =>
    have e : r_law_well = r := Option.some.inj h
    subst e
    exact fn_step (N := N_law_well) ft rfl rfl rfl s_law_well (d_law_well B IH)
  | 35, h =>
    have e : r_law_take = r := Option.some.inj h
    subst e
    exact fn_step (N := N_law_take) ft rfl rfl rfl s_law_take (d_law_take B IH)
  | 36, h =>
    have e : r_law_same = r := Option.some.inj h
    subst e
    exact fn_step (N := N_law_same) ft rfl rfl rfl s_law_same (d_law_same B IH)
  | 37, h =>
    have e : r_law_card = r := Option.some.inj h
    subst e
    exact fn_step (N := N_law_card) ft rfl rfl rfl s_law_card (d_law_card B IH)
  | 38, h =>
    have e : r_law_number = r := Option.some.inj h
    subst e
    exact fn_step (N := N_law_number) ft rfl rfl rfl s_law_number (d_law_number B IH)
  | 39, h =>
    have e : r_law_row = r := Option.some.inj h
    subst e
    exact fn_step (N := N_law_row) ft rfl rfl rfl s_law_row (d_law_row B IH)
  | 40, h =>
    have e : r_law_two = r := Option.some.inj h
    subst e
    exact fn_step (N := N_law_two) ft rfl rfl rfl s_law_two (d_law_two B IH)
  | 41, h =>
    have e : r_law_reduced = r := Option.some.inj h
    subst e
    exact fn_step (N := N_law_reduced) ft rfl rfl rfl s_law_reduced (d_law_reduced B IH)
  | 42, h =>
    have e : r_law_drawn = r := Option.some.inj h
    subst e
    exact fn_step (N := N_law_drawn) ft rfl rfl rfl s_law_drawn (d_law_drawn B IH)
  | 43, h =>
    have e : r_law_led = r := Option.some.inj h
    subst e
    exact fn_step (N := N_law_led) ft rfl rfl rfl s_law_led (d_law_led B IH)
  | 44, h =>
    have e : r_law_told = r := Option.some.inj h
    subst e
    exact fn_step (N := N_law_told) ft rfl rfl rfl s_law_told (d_law_told B IH)
  | 45, h =>
    have e : r_law_asked = r := Option.some.inj h
    subst e
    exact fn_step (N := N_law_asked) ft rfl rfl rfl s_law_asked (d_law_asked B IH)
  | 46, h =>
    have e : r_law_beside = r := Option.some.inj h
    subst e
    exact fn_step (N := N_law_beside) ft rfl rfl rfl s_law_beside (d_law_beside B IH)
  | 47, h =>
    have e : r_law = r := Option.some.inj h
    subst e
    exact fn_step (N := N_law) ft rfl rfl rfl s_law (d_law B IH)
  | n + 48, h => exact absurd h (by simp [D])
end
theorem all {P : Program} {w : World} {K : PySem.W.Frag} {mg : Str → Option Value} {base : Heap} (B : Fx K mg) (h0 : AllF P w K mg base (gs K) T D 0) : ∀ d, AllF P w K mg base (gs K) T D d
  | 0 => h0
  | d + 1 => step B (all B h0 d)
/-! the head -/
theorem ob_eq (s : PySem.W.SharedT) : ob s = hk.obs s.abs := obM_eq (HandSHeadRun.getT_eq s)
theorem facts {K : PySem.W.Frag} {h : Heap} {mg : Str → Option Value} (X : K.In h) (G : h.Ns mainGlobals mg) (c : He.SaysD fa fn K) (e : ex K = true) : Fx K mg where
  bl := fun i x hx => by
    have hi : i < BL.length := (List.getElem?_eq_some_iff.mp hx).1
    refine He.free_ok X G (c.fact (48 + i) ?_)
    rw [show fa = fa1 ++ (fa2 ++ fa3) from rfl, List.getElem?_append_right (show fa1.length ≤ 48 + i from Nat.le_add_right _ i), show 48 + i - fa1.length = i from Nat.add_sub_cancel_left _ i, List.getElem?_append_left (by show i < (BL.map _).length; rw [List.length_map]; exact hi)]
    show (BL.map He.Fa.free)[i]? = _
    rw [List.getElem?_map, hx]
    rfl
  c_DOT := He.str_ok X G (c.fact 64 (f := .str "DOT" "o") rfl)
  c_POINT := He.str_ok X G (c.fact 65 (f := .str "POINT" ".") rfl)
  c_LONGEST_ROW := He.int_ok X G (c.fact 66 (f := .int "LONGEST_ROW" (12)) rfl)
  c_MOST_DOTS := He.int_ok X G (c.fact 67 (f := .int "MOST_DOTS" (6)) rfl)
  i_combinations := bltTB_ok X G (by
    have z := e
    simp only [ex, Bool.and_eq_true] at z
    simp only [z])
theorem base0 {P : Program} {w : World} {K : PySem.W.Frag} {h : Heap} {mg : Str → Option Value} {base : Heap} (X : K.In h) (G : h.Ns mainGlobals mg) (c : He.SaysD fa fn K) : AllF P w K mg base (gs K) T D 0 := by
  intro f r hr
  match f, hr with
  | 0, hr =>
    have e : r_is_whole = r := Option.some.inj hr
    subst e
    obtain ⟨fd, F⟩ := c.def_ 0 (d := ⟨(r_is_whole.x, none), r_is_whole.x, r_is_whole.x, defArgs r_is_whole.st, defBody r_is_whole.st, defScope r_is_whole.st, [], []⟩) rfl
    exact ⟨fd, ft_zero (f := 0) (He.glo_ok X G (c.fact 0 (f := .glo r_is_whole.x) rfl)) F (FunD.bindsN F fun _ _ _ _ _ _ us hl => match us, hl with | [_], _ => rfl)⟩
  | 1, hr =>
    have e : r_is_between = r := Option.some.inj hr
    subst e
    obtain ⟨fd, F⟩ := c.def_ 1 (d := ⟨(r_is_between.x, none), r_is_between.x, r_is_between.x, defArgs r_is_between.st, defBody r_is_between.st, defScope r_is_between.st, [], []⟩) rfl
    exact ⟨fd, ft_zero (f := 1) (He.glo_ok X G (c.fact 1 (f := .glo r_is_between.x) rfl)) F (FunD.bindsN F fun _ _ _ _ _ _ us hl => match us, hl with | [_, _, _], _ => rfl)⟩
  | 2, hr =>
    have e : r_is_text_of = r := Option.some.inj hr
    subst e
    obtain ⟨fd, F⟩ := c.def_ 2 (d := ⟨(r_is_text_of.x, none), r_is_text_of.x, r_is_text_of.x, defArgs r_is_text_of.st, defBody r_is_text_of.st, defScope r_is_text_of.st, [], []⟩) rfl
    exact ⟨fd, ft_zero (f := 2) (He.glo_ok X G (c.fact 2 (f := .glo r_is_text_of.x) rfl)) F (FunD.bindsN F fun _ _ _ _ _ _ us hl => match us, hl with | [_, _], _ => rfl)⟩
  | 3, hr =>
    have e : r_check_size = r := Option.some.inj hr
    subst e
    obtain ⟨fd, F⟩ := c.def_ 3 (d := ⟨(r_check_size.x, none), r_check_size.x, r_check_size.x, defArgs r_check_size.st, defBody r_check_size.st, defScope r_check_size.st, [], []⟩) rfl
    exact ⟨fd, ft_zero (f := 3) (He.glo_ok X G (c.fact 3 (f := .glo r_check_size.x) rfl)) F (FunD.bindsN F fun _ _ _ _ _ _ us hl => match us, hl with | [_, _, _], _ => rfl)⟩
  | 4, hr =>
    have e : r_is_dotted = r := Option.some.inj hr
    subst e
    obtain ⟨fd, F⟩ := c.def_ 4 (d := ⟨(r_is_dotted.x, none), r_is_dotted.x, r_is_dotted.x, defArgs r_is_dotted.st, defBody r_is_dotted.st, defScope r_is_dotted.st, [], []⟩) rfl
    exact ⟨fd, ft_zero (f := 4) (He.glo_ok X G (c.fact 4 (f := .glo r_is_dotted.x) rfl)) F (FunD.bindsN F fun _ _ _ _ _ _ us hl => match us, hl with | [_, _], _ => rfl)⟩
  | 5, hr =>
    have e : r_is_goal = r := Option.some.inj hr
    subst e
    obtain ⟨fd, F⟩ := c.def_ 5 (d := ⟨(r_is_goal.x, none), r_is_goal.x, r_is_goal.x, defArgs r_is_goal.st, defBody r_is_goal.st, defScope r_is_goal.st, [], []⟩) rfl
    exact ⟨fd, ft_zero (f := 5) (He.glo_ok X G (c.fact 5 (f := .glo r_is_goal.x) rfl)) F (FunD.bindsN F fun _ _ _ _ _ _ us hl => match us, hl with | [_, _], _ => rfl)⟩
  | 6, hr =>
    have e : r_first_wrong_dotted = r := Option.some.inj hr
    subst e
    obtain ⟨fd, F⟩ := c.def_ 6 (d := ⟨(r_first_wrong_dotted.x, none), r_first_wrong_dotted.x, r_first_wrong_dotted.x, defArgs r_first_wrong_dotted.st, defBody r_first_wrong_dotted.st, defScope r_first_wrong_dotted.st, [], []⟩) rfl
    exact ⟨fd, ft_zero (f := 6) (He.glo_ok X G (c.fact 6 (f := .glo r_first_wrong_dotted.x) rfl)) F (FunD.bindsN F fun _ _ _ _ _ _ us hl => match us, hl with | [_, _], _ => rfl)⟩
  | 7, hr =>
    have e : r_bits_of = r := Option.some.inj hr
    subst e
    obtain ⟨fd, F⟩ := c.def_ 7 (d := ⟨(r_bits_of.x, none), r_bits_of.x, r_bits_of.x, defArgs r_bits_of.st, defBody r_bits_of.st, defScope r_bits_of.st, [], []⟩) rfl
    exact ⟨fd, ft_zero (f := 7) (He.glo_ok X G (c.fact 7 (f := .glo r_bits_of.x) rfl)) F (FunD.bindsN F fun _ _ _ _ _ _ us hl => match us, hl with | [_], _ => rfl)⟩
  | 8, hr =>
    have e : r_card_of = r := Option.some.inj hr
    subst e
    obtain ⟨fd, F⟩ := c.def_ 8 (d := ⟨(r_card_of.x, none), r_card_of.x, r_card_of.x, defArgs r_card_of.st, defBody r_card_of.st, defScope r_card_of.st, [], []⟩) rfl
    exact ⟨fd, ft_zero (f := 8) (He.glo_ok X G (c.fact 8 (f := .glo r_card_of.x) rfl)) F (FunD.bindsN F fun _ _ _ _ _ _ us hl => match us, hl with | [_, _], _ => rfl)⟩
  | 9, hr =>
    have e : r_sum_of_bits = r := Option.some.inj hr
    subst e
    obtain ⟨fd, F⟩ := c.def_ 9 (d := ⟨(r_sum_of_bits.x, none), r_sum_of_bits.x, r_sum_of_bits.x, defArgs r_sum_of_bits.st, defBody r_sum_of_bits.st, defScope r_sum_of_bits.st, [], []⟩) rfl
    exact ⟨fd, ft_zero (f := 9) (He.glo_ok X G (c.fact 9 (f := .glo r_sum_of_bits.x) rfl)) F (FunD.bindsN F fun _ _ _ _ _ _ us hl => match us, hl with | [_], _ => rfl)⟩
  | 10, hr =>
    have e : r_dot_sum_by = r := Option.some.inj hr
    subst e
    obtain ⟨fd, F⟩ := c.def_ 10 (d := ⟨(r_dot_sum_by.x, none), r_dot_sum_by.x, r_dot_sum_by.x, defArgs r_dot_sum_by.st, defBody r_dot_sum_by.st, defScope r_dot_sum_by.st, [], []⟩) rfl
    exact ⟨fd, ft_zero (f := 10) (He.glo_ok X G (c.fact 10 (f := .glo r_dot_sum_by.x) rfl)) F (FunD.bindsN F fun _ _ _ _ _ _ us hl => match us, hl with | [_, _], _ => rfl)⟩
  | 11, hr =>
    have e : r_sums_of_parts = r := Option.some.inj hr
    subst e
    obtain ⟨fd, F⟩ := c.def_ 11 (d := ⟨(r_sums_of_parts.x, none), r_sums_of_parts.x, r_sums_of_parts.x, defArgs r_sums_of_parts.st, defBody r_sums_of_parts.st, defScope r_sums_of_parts.st, [], []⟩) rfl
    exact ⟨fd, ft_zero (f := 11) (He.glo_ok X G (c.fact 11 (f := .glo r_sums_of_parts.x) rfl)) F (FunD.bindsN F fun _ _ _ _ _ _ us hl => match us, hl with | [_], _ => rfl)⟩
  | 12, hr =>
    have e : r_parts_with = r := Option.some.inj hr
    subst e
    obtain ⟨fd, F⟩ := c.def_ 12 (d := ⟨(r_parts_with.x, none), r_parts_with.x, r_parts_with.x, defArgs r_parts_with.st, defBody r_parts_with.st, defScope r_parts_with.st, [], []⟩) rfl
    exact ⟨fd, ft_zero (f := 12) (He.glo_ok X G (c.fact 12 (f := .glo r_parts_with.x) rfl)) F (FunD.bindsN F fun _ _ _ _ _ _ us hl => match us, hl with | [_, _], _ => rfl)⟩
  | 13, hr =>
    have e : r_dot_lots_by = r := Option.some.inj hr
    subst e
    obtain ⟨fd, F⟩ := c.def_ 13 (d := ⟨(r_dot_lots_by.x, none), r_dot_lots_by.x, r_dot_lots_by.x, defArgs r_dot_lots_by.st, defBody r_dot_lots_by.st, defScope r_dot_lots_by.st, [], []⟩) rfl
    exact ⟨fd, ft_zero (f := 13) (He.glo_ok X G (c.fact 13 (f := .glo r_dot_lots_by.x) rfl)) F (FunD.bindsN F fun _ _ _ _ _ _ us hl => match us, hl with | [_], _ => rfl)⟩
  | 14, hr =>
    have e : r_fewest_lot_by = r := Option.some.inj hr
    subst e
    obtain ⟨fd, F⟩ := c.def_ 14 (d := ⟨(r_fewest_lot_by.x, none), r_fewest_lot_by.x, r_fewest_lot_by.x, defArgs r_fewest_lot_by.st, defBody r_fewest_lot_by.st, defScope r_fewest_lot_by.st, [], []⟩) rfl
    exact ⟨fd, ft_zero (f := 14) (He.glo_ok X G (c.fact 14 (f := .glo r_fewest_lot_by.x) rfl)) F (FunD.bindsN F fun _ _ _ _ _ _ us hl => match us, hl with | [_], _ => rfl)⟩
  | 15, hr =>
    have e : r_dot_lots_by_size_by = r := Option.some.inj hr
    subst e
    obtain ⟨fd, F⟩ := c.def_ 15 (d := ⟨(r_dot_lots_by_size_by.x, none), r_dot_lots_by_size_by.x, r_dot_lots_by_size_by.x, defArgs r_dot_lots_by_size_by.st, defBody r_dot_lots_by_size_by.st, defScope r_dot_lots_by_size_by.st, [], []⟩) rfl
    exact ⟨fd, ft_zero (f := 15) (He.glo_ok X G (c.fact 15 (f := .glo r_dot_lots_by_size_by.x) rfl)) F (FunD.bindsN F fun _ _ _ _ _ _ us hl => match us, hl with | [_], _ => rfl)⟩
  | 16, hr =>
    have e : r_freed = r := Option.some.inj hr
    subst e
    obtain ⟨fd, F⟩ := c.def_ 16 (d := ⟨(r_freed.x, none), r_freed.x, r_freed.x, defArgs r_freed.st, defBody r_freed.st, defScope r_freed.st, [], []⟩) rfl
    exact ⟨fd, ft_zero (f := 16) (He.glo_ok X G (c.fact 16 (f := .glo r_freed.x) rfl)) F (FunD.bindsN F fun _ _ _ _ _ _ us hl => match us, hl with | [_, _], _ => rfl)⟩
  | 17, hr =>
    have e : r_next_leads = r := Option.some.inj hr
    subst e
    obtain ⟨fd, F⟩ := c.def_ 17 (d := ⟨(r_next_leads.x, none), r_next_leads.x, r_next_leads.x, defArgs r_next_leads.st, defBody r_next_leads.st, defScope r_next_leads.st, [], []⟩) rfl
    exact ⟨fd, ft_zero (f := 17) (He.glo_ok X G (c.fact 17 (f := .glo r_next_leads.x) rfl)) F (FunD.bindsN F fun _ _ _ _ _ _ us hl => match us, hl with | [_, _], _ => rfl)⟩
  | 18, hr =>
    have e : r_least_base = r := Option.some.inj hr
    subst e
    obtain ⟨fd, F⟩ := c.def_ 18 (d := ⟨(r_least_base.x, none), r_least_base.x, r_least_base.x, defArgs r_least_base.st, defBody r_least_base.st, defScope r_least_base.st, [], []⟩) rfl
    exact ⟨fd, ft_zero (f := 18) (He.glo_ok X G (c.fact 18 (f := .glo r_least_base.x) rfl)) F (FunD.bindsN F fun _ _ _ _ _ _ us hl => match us, hl with | [_], _ => rfl)⟩
  | 19, hr =>
    have e : r_rank_by = r := Option.some.inj hr
    subst e
    obtain ⟨fd, F⟩ := c.def_ 19 (d := ⟨(r_rank_by.x, none), r_rank_by.x, r_rank_by.x, defArgs r_rank_by.st, defBody r_rank_by.st, defScope r_rank_by.st, [], []⟩) rfl
    exact ⟨fd, ft_zero (f := 19) (He.glo_ok X G (c.fact 19 (f := .glo r_rank_by.x) rfl)) F (FunD.bindsN F fun _ _ _ _ _ _ us hl => match us, hl with | [_], _ => rfl)⟩
  | 20, hr =>
    have e : r_bases_by = r := Option.some.inj hr
    subst e
    obtain ⟨fd, F⟩ := c.def_ 20 (d := ⟨(r_bases_by.x, none), r_bases_by.x, r_bases_by.x, defArgs r_bases_by.st, defBody r_bases_by.st, defScope r_bases_by.st, [], []⟩) rfl
    exact ⟨fd, ft_zero (f := 20) (He.glo_ok X G (c.fact 20 (f := .glo r_bases_by.x) rfl)) F (FunD.bindsN F fun _ _ _ _ _ _ us hl => match us, hl with | [_], _ => rfl)⟩
  | 21, hr =>
    have e : r_dot_deck_by = r := Option.some.inj hr
    subst e
    obtain ⟨fd, F⟩ := c.def_ 21 (d := ⟨(r_dot_deck_by.x, none), r_dot_deck_by.x, r_dot_deck_by.x, defArgs r_dot_deck_by.st, defBody r_dot_deck_by.st, defScope r_dot_deck_by.st, [], []⟩) rfl
    exact ⟨fd, ft_zero (f := 21) (He.glo_ok X G (c.fact 21 (f := .glo r_dot_deck_by.x) rfl)) F (FunD.bindsN F fun _ _ _ _ _ _ us hl => match us, hl with | [_], _ => rfl)⟩
  | 22, hr =>
    have e : r_dot_completing_by = r := Option.some.inj hr
    subst e
    obtain ⟨fd, F⟩ := c.def_ 22 (d := ⟨(r_dot_completing_by.x, none), r_dot_completing_by.x, r_dot_completing_by.x, defArgs r_dot_completing_by.st, defBody r_dot_completing_by.st, defScope r_dot_completing_by.st, [], []⟩) rfl
    exact ⟨fd, ft_zero (f := 22) (He.glo_ok X G (c.fact 22 (f := .glo r_dot_completing_by.x) rfl)) F (FunD.bindsN F fun _ _ _ _ _ _ us hl => match us, hl with | [_, _], _ => rfl)⟩
  | 23, hr =>
    have e : r_check_dots = r := Option.some.inj hr
    subst e
    obtain ⟨fd, F⟩ := c.def_ 23 (d := ⟨(r_check_dots.x, none), r_check_dots.x, r_check_dots.x, defArgs r_check_dots.st, defBody r_check_dots.st, defScope r_check_dots.st, [], []⟩) rfl
    exact ⟨fd, ft_zero (f := 23) (He.glo_ok X G (c.fact 23 (f := .glo r_check_dots.x) rfl)) F (FunD.bindsN F fun _ _ _ _ _ _ us hl => match us, hl with | [_], _ => rfl)⟩
  | 24, hr =>
    have e : r_check_row = r := Option.some.inj hr
    subst e
    obtain ⟨fd, F⟩ := c.def_ 24 (d := ⟨(r_check_row.x, none), r_check_row.x, r_check_row.x, defArgs r_check_row.st, defBody r_check_row.st, defScope r_check_row.st, [], []⟩) rfl
    exact ⟨fd, ft_zero (f := 24) (He.glo_ok X G (c.fact 24 (f := .glo r_check_row.x) rfl)) F (FunD.bindsN F fun _ _ _ _ _ _ us hl => match us, hl with | [_, _], _ => rfl)⟩
  | 25, hr =>
    have e : r_dot_sum = r := Option.some.inj hr
    subst e
    obtain ⟨fd, F⟩ := c.def_ 25 (d := ⟨(r_dot_sum.x, none), r_dot_sum.x, r_dot_sum.x, defArgs r_dot_sum.st, defBody r_dot_sum.st, defScope r_dot_sum.st, [], []⟩) rfl
    exact ⟨fd, ft_zero (f := 25) (He.glo_ok X G (c.fact 25 (f := .glo r_dot_sum.x) rfl)) F (FunD.bindsN F fun _ _ _ _ _ _ us hl => match us, hl with | [_, _], _ => rfl)⟩
  | 26, hr =>
    have e : r_dot_lots = r := Option.some.inj hr
    subst e
    obtain ⟨fd, F⟩ := c.def_ 26 (d := ⟨(r_dot_lots.x, none), r_dot_lots.x, r_dot_lots.x, defArgs r_dot_lots.st, defBody r_dot_lots.st, defScope r_dot_lots.st, [], []⟩) rfl
    exact ⟨fd, ft_zero (f := 26) (He.glo_ok X G (c.fact 26 (f := .glo r_dot_lots.x) rfl)) F (FunD.bindsN F fun _ _ _ _ _ _ us hl => match us, hl with | [_, _], _ => rfl)⟩
  | 27, hr =>
    have e : r_fewest_lot = r := Option.some.inj hr
    subst e
    obtain ⟨fd, F⟩ := c.def_ 27 (d := ⟨(r_fewest_lot.x, none), r_fewest_lot.x, r_fewest_lot.x, defArgs r_fewest_lot.st, defBody r_fewest_lot.st, defScope r_fewest_lot.st, [], []⟩) rfl
    exact ⟨fd, ft_zero (f := 27) (He.glo_ok X G (c.fact 27 (f := .glo r_fewest_lot.x) rfl)) F (FunD.bindsN F fun _ _ _ _ _ _ us hl => match us, hl with | [_, _], _ => rfl)⟩
  | 28, hr =>
    have e : r_dot_lots_by_size = r := Option.some.inj hr
    subst e
    obtain ⟨fd, F⟩ := c.def_ 28 (d := ⟨(r_dot_lots_by_size.x, none), r_dot_lots_by_size.x, r_dot_lots_by_size.x, defArgs r_dot_lots_by_size.st, defBody r_dot_lots_by_size.st, defScope r_dot_lots_by_size.st, [], []⟩) rfl
    exact ⟨fd, ft_zero (f := 28) (He.glo_ok X G (c.fact 28 (f := .glo r_dot_lots_by_size.x) rfl)) F (FunD.bindsN F fun _ _ _ _ _ _ us hl => match us, hl with | [_, _], _ => rfl)⟩
  | 29, hr =>
    have e : r_rank = r := Option.some.inj hr
    subst e
    obtain ⟨fd, F⟩ := c.def_ 29 (d := ⟨(r_rank.x, none), r_rank.x, r_rank.x, defArgs r_rank.st, defBody r_rank.st, defScope r_rank.st, [], []⟩) rfl
    exact ⟨fd, ft_zero (f := 29) (He.glo_ok X G (c.fact 29 (f := .glo r_rank.x) rfl)) F (FunD.bindsN F fun _ _ _ _ _ _ us hl => match us, hl with | [_, _], _ => rfl)⟩
  | 30, hr =>
    have e : r_bases = r := Option.some.inj hr
    subst e
    obtain ⟨fd, F⟩ := c.def_ 30 (d := ⟨(r_bases.x, none), r_bases.x, r_bases.x, defArgs r_bases.st, defBody r_bases.st, defScope r_bases.st, [], []⟩) rfl
    exact ⟨fd, ft_zero (f := 30) (He.glo_ok X G (c.fact 30 (f := .glo r_bases.x) rfl)) F (FunD.bindsN F fun _ _ _ _ _ _ us hl => match us, hl with | [_, _], _ => rfl)⟩
  | 31, hr =>
    have e : r_base_count = r := Option.some.inj hr
    subst e
    obtain ⟨fd, F⟩ := c.def_ 31 (d := ⟨(r_base_count.x, none), r_base_count.x, r_base_count.x, defArgs r_base_count.st, defBody r_base_count.st, defScope r_base_count.st, [], []⟩) rfl
    exact ⟨fd, ft_zero (f := 31) (He.glo_ok X G (c.fact 31 (f := .glo r_base_count.x) rfl)) F (FunD.bindsN F fun _ _ _ _ _ _ us hl => match us, hl with | [_, _], _ => rfl)⟩
  | 32, hr =>
    have e : r_dot_completing = r := Option.some.inj hr
    subst e
    obtain ⟨fd, F⟩ := c.def_ 32 (d := ⟨(r_dot_completing.x, none), r_dot_completing.x, r_dot_completing.x, defArgs r_dot_completing.st, defBody r_dot_completing.st, defScope r_dot_completing.st, [], []⟩) rfl
    exact ⟨fd, ft_zero (f := 32) (He.glo_ok X G (c.fact 32 (f := .glo r_dot_completing.x) rfl)) F (FunD.bindsN F fun _ _ _ _ _ _ us hl => match us, hl with | [_, _], _ => rfl)⟩
  | 33, hr =>
    have e : r_certify_dots = r := Option.some.inj hr
    subst e
    obtain ⟨fd, F⟩ := c.def_ 33 (d := ⟨(r_certify_dots.x, none), r_certify_dots.x, r_certify_dots.x, defArgs r_certify_dots.st, defBody r_certify_dots.st, defScope r_certify_dots.st, [], []⟩) rfl
    exact ⟨fd, ft_zero (f := 33) (He.glo_ok X G (c.fact 33 (f := .glo r_certify_dots.x) rfl)) F (FunD.bindsN F fun _ _ _ _ _ _ us hl => match us, hl with | [_, _], _ => rfl)⟩
  | 34, hr =>
    have e : r_law_well = r := Option.some.inj hr
    subst e
    obtain ⟨fd, F⟩ := c.def_ 34 (d := ⟨(r_law_well.x, none), r_law_well.x, r_law_well.x, defArgs r_law_well.st, defBody r_law_well.st, defScope r_law_well.st, [], []⟩) rfl
    exact ⟨fd, ft_zero (f := 34) (He.glo_ok X G (c.fact 34 (f := .glo r_law_well.x) rfl)) F (FunD.bindsN F fun _ _ _ _ _ _ us hl => match us, hl with | [_, _], _ => rfl)⟩
  | 35, hr =>
    have e : r_law_take = r := Option.some.inj hr
    subst e
    obtain ⟨fd, F⟩ := c.def_ 35 (d := ⟨(r_law_take.x, none), r_law_take.x, r_law_take.x, defArgs r_law_take.st, defBody r_law_take.st, defScope r_law_take.st, [], []⟩) rfl
    exact ⟨fd, ft_zero (f := 35) (He.glo_ok X G (c.fact 35 (f := .glo r_law_take.x) rfl)) F (FunD.bindsN F fun _ _ _ _ _ _ us hl => match us, hl with | [_, _], _ => rfl)⟩
  | 36, hr =>
    have e : r_law_same = r := Option.some.inj hr
    subst e
    obtain ⟨fd, F⟩ := c.def_ 36 (d := ⟨(r_law_same.x, none), r_law_same.x, r_law_same.x, defArgs r_law_same.st, defBody r_law_same.st, defScope r_law_same.st, [], []⟩) rfl
    exact ⟨fd, ft_zero (f := 36) (He.glo_ok X G (c.fact 36 (f := .glo r_law_same.x) rfl)) F (FunD.bindsN F fun _ _ _ _ _ _ us hl => match us, hl with | [_, _], _ => rfl)⟩
  | 37, hr =>
    have e : r_law_card = r := Option.some.inj hr
    subst e
    obtain ⟨fd, F⟩ := c.def_ 37 (d := ⟨(r_law_card.x, none), r_law_card.x, r_law_card.x, defArgs r_law_card.st, defBody r_law_card.st, defScope r_law_card.st, [], []⟩) rfl
    exact ⟨fd, ft_zero (f := 37) (He.glo_ok X G (c.fact 37 (f := .glo r_law_card.x) rfl)) F (FunD.bindsN F fun _ _ _ _ _ _ us hl => match us, hl with | [_, _], _ => rfl)⟩
  | 38, hr =>
    have e : r_law_number = r := Option.some.inj hr
    subst e
    obtain ⟨fd, F⟩ := c.def_ 38 (d := ⟨(r_law_number.x, none), r_law_number.x, r_law_number.x, defArgs r_law_number.st, defBody r_law_number.st, defScope r_law_number.st, [], []⟩) rfl
    exact ⟨fd, ft_zero (f := 38) (He.glo_ok X G (c.fact 38 (f := .glo r_law_number.x) rfl)) F (FunD.bindsN F fun _ _ _ _ _ _ us hl => match us, hl with | [_], _ => rfl)⟩
  | 39, hr =>
    have e : r_law_row = r := Option.some.inj hr
    subst e
    obtain ⟨fd, F⟩ := c.def_ 39 (d := ⟨(r_law_row.x, none), r_law_row.x, r_law_row.x, defArgs r_law_row.st, defBody r_law_row.st, defScope r_law_row.st, [], []⟩) rfl
    exact ⟨fd, ft_zero (f := 39) (He.glo_ok X G (c.fact 39 (f := .glo r_law_row.x) rfl)) F (FunD.bindsN F fun _ _ _ _ _ _ us hl => match us, hl with | [_, _], _ => rfl)⟩
  | 40, hr =>
    have e : r_law_two = r := Option.some.inj hr
    subst e
    obtain ⟨fd, F⟩ := c.def_ 40 (d := ⟨(r_law_two.x, none), r_law_two.x, r_law_two.x, defArgs r_law_two.st, defBody r_law_two.st, defScope r_law_two.st, [], []⟩) rfl
    exact ⟨fd, ft_zero (f := 40) (He.glo_ok X G (c.fact 40 (f := .glo r_law_two.x) rfl)) F (FunD.bindsN F fun _ _ _ _ _ _ us hl => match us, hl with | [_], _ => rfl)⟩
  | 41, hr =>
    have e : r_law_reduced = r := Option.some.inj hr
    subst e
    obtain ⟨fd, F⟩ := c.def_ 41 (d := ⟨(r_law_reduced.x, none), r_law_reduced.x, r_law_reduced.x, defArgs r_law_reduced.st, defBody r_law_reduced.st, defScope r_law_reduced.st, [], []⟩) rfl
    exact ⟨fd, ft_zero (f := 41) (He.glo_ok X G (c.fact 41 (f := .glo r_law_reduced.x) rfl)) F (FunD.bindsN F fun _ _ _ _ _ _ us hl => match us, hl with | [_], _ => rfl)⟩
  | 42, hr =>
    have e : r_law_drawn = r := Option.some.inj hr
    subst e
    obtain ⟨fd, F⟩ := c.def_ 42 (d := ⟨(r_law_drawn.x, none), r_law_drawn.x, r_law_drawn.x, defArgs r_law_drawn.st, defBody r_law_drawn.st, defScope r_law_drawn.st, [], []⟩) rfl
    exact ⟨fd, ft_zero (f := 42) (He.glo_ok X G (c.fact 42 (f := .glo r_law_drawn.x) rfl)) F (FunD.bindsN F fun _ _ _ _ _ _ us hl => match us, hl with | [_, _], _ => rfl)⟩
  | 43, hr =>
    have e : r_law_led = r := Option.some.inj hr
    subst e
    obtain ⟨fd, F⟩ := c.def_ 43 (d := ⟨(r_law_led.x, none), r_law_led.x, r_law_led.x, defArgs r_law_led.st, defBody r_law_led.st, defScope r_law_led.st, [], []⟩) rfl
    exact ⟨fd, ft_zero (f := 43) (He.glo_ok X G (c.fact 43 (f := .glo r_law_led.x) rfl)) F (FunD.bindsN F fun _ _ _ _ _ _ us hl => match us, hl with | [_, _], _ => rfl)⟩
  | 44, hr =>
    have e : r_law_told = r := Option.some.inj hr
    subst e
    obtain ⟨fd, F⟩ := c.def_ 44 (d := ⟨(r_law_told.x, none), r_law_told.x, r_law_told.x, defArgs r_law_told.st, defBody r_law_told.st, defScope r_law_told.st, [], []⟩) rfl
    exact ⟨fd, ft_zero (f := 44) (He.glo_ok X G (c.fact 44 (f := .glo r_law_told.x) rfl)) F (FunD.bindsN F fun _ _ _ _ _ _ us hl => match us, hl with | [_, _], _ => rfl)⟩
  | 45, hr =>
    have e : r_law_asked = r := Option.some.inj hr
    subst e
    obtain ⟨fd, F⟩ := c.def_ 45 (d := ⟨(r_law_asked.x, none), r_law_asked.x, r_law_asked.x, defArgs r_law_asked.st, defBody r_law_asked.st, defScope r_law_asked.st, [], []⟩) rfl
    exact ⟨fd, ft_zero (f := 45) (He.glo_ok X G (c.fact 45 (f := .glo r_law_asked.x) rfl)) F (FunD.bindsN F fun _ _ _ _ _ _ us hl => match us, hl with | [_, _, _], _ => rfl)⟩
  | 46, hr =>
    have e : r_law_beside = r := Option.some.inj hr
    subst e
    obtain ⟨fd, F⟩ := c.def_ 46 (d := ⟨(r_law_beside.x, none), r_law_beside.x, r_law_beside.x, defArgs r_law_beside.st, defBody r_law_beside.st, defScope r_law_beside.st, [], []⟩) rfl
    exact ⟨fd, ft_zero (f := 46) (He.glo_ok X G (c.fact 46 (f := .glo r_law_beside.x) rfl)) F (FunD.bindsN F fun _ _ _ _ _ _ us hl => match us, hl with | [_], _ => rfl)⟩
  | 47, hr =>
    have e : r_law = r := Option.some.inj hr
    subst e
    obtain ⟨fd, F⟩ := c.def_ 47 (d := ⟨(r_law.x, none), r_law.x, r_law.x, defArgs r_law.st, defBody r_law.st, defScope r_law.st, [], []⟩) rfl
    exact ⟨fd, ft_zero (f := 47) (He.glo_ok X G (c.fact 47 (f := .glo r_law.x) rfl)) F (FunD.bindsN F fun _ _ _ _ _ _ us hl => match us, hl with | [_], _ => rfl)⟩
  | n + 48, hr => exact absurd hr (by simp [D])
def law (d : Nat) : List W → Store → R W := fns T d 47
end Lw
/-! k63, k60 ..: sums of numbers without carry, plainly: leads, what they span. -/
namespace C63
def stp (x l : Nat) : Nat := if x ^^^ l < x then x ^^^ l else x
def red : List Nat → Nat → Nat
  | [], x => x
  | l :: L, x => red L (stp x l)
def inSp : List Nat → Nat → Prop
  | [], y => y = 0
  | l :: L, y => inSp L y ∨ inSp L (y ^^^ l)
theorem top_bit {l : Nat} (h : l ≠ 0) : l.testBit l.log2 = true := by
  rw [Nat.testBit_eq_decide_div_mod_eq]
  have a := Nat.log2_self_le h
  have b : l < 2 ^ (l.log2 + 1) := Nat.lt_log2_self
  have c : l / 2 ^ l.log2 = 1 := by
    refine Nat.div_eq_of_lt_le (by rw [Nat.one_mul]; exact a) ?_
    rw [Nat.pow_succ] at b
    omega
  rw [c]
  decide
theorem above {l j : Nat} (h : l.log2 < j) : l.testBit j = false := by
  refine Nat.testBit_lt_two_pow (Nat.lt_of_lt_of_le Nat.lt_log2_self ?_)
  exact Nat.pow_le_pow_right (by decide) h
theorem lt_of_bit {n m : Nat} (i : Nat) (hn : n.testBit i = false) (hm : m.testBit i = true) (h : ∀ j, i < j → n.testBit j = m.testBit j) : n < m := by
  rw [Nat.testBit_eq_decide_div_mod_eq, decide_eq_false_iff_not] at hn
  rw [Nat.testBit_eq_decide_div_mod_eq, decide_eq_true_eq] at hm
  have e : n / 2 ^ i / 2 = m / 2 ^ i / 2 := by
    rw [Nat.div_div_eq_div_mul, Nat.div_div_eq_div_mul, ← Nat.pow_succ]
    refine Nat.eq_of_testBit_eq fun j => ?_
    rw [Nat.testBit_div_two_pow, Nat.testBit_div_two_pow]
    exact h _ (by omega)
  have a1 : n < 2 ^ i * (n / 2 ^ i + 1) := Nat.lt_mul_div_succ n (Nat.pow_pos (by decide))
  have a2 : 2 ^ i * (m / 2 ^ i) ≤ m := Nat.mul_div_le m _
  have a3 : n / 2 ^ i + 1 ≤ m / 2 ^ i := by omega
  have a4 : 2 ^ i * (n / 2 ^ i + 1) ≤ 2 ^ i * (m / 2 ^ i) := Nat.mul_le_mul_left _ a3
  omega
theorem few : ∀ (n : Nat) (l : List Nat), l.Nodup → (∀ x ∈ l, x < n) → l.length ≤ n
  | 0, l, _, h => by
    cases l with
    | nil => exact Nat.le_refl 0
    | cons x r => exact absurd (h x (List.mem_cons_self ..)) (Nat.not_lt_zero _)
  | n + 1, l, nd, h => by
    by_cases hm : n ∈ l
    · have ih := few n (l.erase n) (nd.erase n) fun x hx => by
        obtain ⟨h1, h2⟩ := nd.mem_erase_iff.mp hx
        have := h x h2
        omega
      rw [List.length_erase_of_mem hm] at ih
      omega
    · have ih := few n l nd fun x hx => by
        have h1 := h x hx
        have h2 : x ≠ n := fun z => hm (z ▸ hx)
        omega
      omega
theorem stp_eq {l : Nat} (h : l ≠ 0) (x : Nat) : stp x l = if x.testBit l.log2 = true then x ^^^ l else x := by
  unfold stp
  by_cases b : x.testBit l.log2 = true
  · rw [if_pos b, if_pos]
    refine lt_of_bit l.log2 ?_ b fun j hj => ?_
    · rw [Nat.testBit_xor, b, top_bit h]
      rfl
    · rw [Nat.testBit_xor, above hj, Bool.xor_false]
  · rw [if_neg b, if_neg]
    have b : x.testBit l.log2 = false := by simpa using b
    have : x < x ^^^ l := by
      refine lt_of_bit l.log2 b ?_ fun j hj => ?_
      · rw [Nat.testBit_xor, b, top_bit h]
        rfl
      · rw [Nat.testBit_xor, above hj, Bool.xor_false]
    omega
theorem xor_assoc3 (a b c : Nat) : (a ^^^ b) ^^^ c = (a ^^^ c) ^^^ b := by
  rw [Nat.xor_assoc, Nat.xor_comm b c, ← Nat.xor_assoc]
theorem sp_zero : ∀ L, inSp L 0
  | [] => rfl
  | _ :: L => .inl (sp_zero L)
theorem sp_xor : ∀ (L : List Nat) {a b : Nat}, inSp L a → inSp L b → inSp L (a ^^^ b)
  | [], a, b, h, k => by
    have h : a = 0 := h
    have k : b = 0 := k
    rw [h, k]
    exact Nat.xor_self 0
  | l :: L, a, b, h, k => by
    rcases h with h | h
    · rcases k with k | k
      · exact .inl (sp_xor L h k)
      · refine .inr ?_
        rw [Nat.xor_assoc]
        exact sp_xor L h k
    · rcases k with k | k
      · refine .inr ?_
        rw [xor_assoc3]
        exact sp_xor L h k
      · refine .inl ?_
        have z := sp_xor L h k
        rw [Nat.xor_assoc, Nat.xor_comm l, Nat.xor_assoc, Nat.xor_self, Nat.xor_zero] at z
        exact z
theorem sp_red : ∀ (L : List Nat) (x : Nat), inSp L (x ^^^ red L x)
  | [], x => Nat.xor_self x
  | l :: L, x => by
    have ih := sp_red L (stp x l)
    show inSp L (x ^^^ red L (stp x l)) ∨ inSp L (x ^^^ red L (stp x l) ^^^ l)
    unfold stp at ih ⊢
    split at ih
    · refine .inr ?_
      rename_i h
      rw [if_pos h]
      rw [xor_assoc3]
      exact ih
    · rename_i h
      rw [if_neg h]
      exact .inl ih
def Good (L : List Nat) : Prop := (∀ l ∈ L, l ≠ 0) ∧ L.Pairwise fun a b => b.testBit a.log2 = false
theorem Good.tail {l : Nat} {L : List Nat} (h : Good (l :: L)) : Good L := ⟨fun x hx => h.1 x (List.mem_cons_of_mem _ hx), (List.pairwise_cons.mp h.2).2⟩
theorem sp_bit {t : Nat} : ∀ {L : List Nat}, (∀ l ∈ L, l.testBit t = false) → ∀ {y : Nat}, inSp L y → y.testBit t = false
  | [], _, y, h => by
    have h : y = 0 := h
    rw [h]
    exact Nat.zero_testBit t
  | l :: L, hb, y, h => by
    have hL : ∀ l ∈ L, l.testBit t = false := fun x hx => hb x (List.mem_cons_of_mem _ hx)
    rcases h with h | h
    · exact sp_bit hL h
    · have z := sp_bit hL h
      rw [Nat.testBit_xor, hb l (List.mem_cons_self ..), Bool.xor_false] at z
      exact z
theorem sp_clear : ∀ {L : List Nat}, Good L → ∀ {y : Nat}, inSp L y → (∀ l ∈ L, y.testBit l.log2 = false) → y = 0
  | [], _, y, h, _ => h
  | l :: L, g, y, h, hb => by
    have hp := (List.pairwise_cons.mp g.2).1
    rcases h with h | h
    · exact sp_clear g.tail h fun x hx => hb x (List.mem_cons_of_mem _ hx)
    · have z := sp_bit hp h
      rw [Nat.testBit_xor, hb l (List.mem_cons_self ..), top_bit (g.1 l (List.mem_cons_self ..))] at z
      cases z
theorem red_keep {t : Nat} : ∀ {L : List Nat}, (∀ l ∈ L, l ≠ 0 ∧ l.testBit t = false) → ∀ (x : Nat), (red L x).testBit t = x.testBit t
  | [], _, x => rfl
  | l :: L, h, x => by
    have ih := red_keep (t := t) (L := L) (fun y hy => h y (List.mem_cons_of_mem _ hy)) (stp x l)
    show (red L (stp x l)).testBit t = _
    rw [ih, stp_eq (h l (List.mem_cons_self ..)).1]
    split
    · rw [Nat.testBit_xor, (h l (List.mem_cons_self ..)).2, Bool.xor_false]
    · rfl
theorem red_bits : ∀ {L : List Nat}, Good L → ∀ (x l : Nat), l ∈ L → (red L x).testBit l.log2 = false
  | [], _, x, l, h => by cases h
  | a :: L, g, x, l, h => by
    have hp := (List.pairwise_cons.mp g.2).1
    show (red L (stp x a)).testBit l.log2 = false
    rcases List.mem_cons.mp h with e | h
    · subst e
      rw [red_keep fun y hy => ⟨g.tail.1 y hy, hp y hy⟩, stp_eq (g.1 l (List.mem_cons_self ..))]
      split
      · rename_i b
        rw [Nat.testBit_xor, b, top_bit (g.1 l (List.mem_cons_self ..))]
        rfl
      · rename_i b
        simpa using b
    · exact red_bits g.tail _ l h
theorem red_zero {L : List Nat} (g : Good L) (x : Nat) : red L x = 0 ↔ inSp L x := by
  constructor
  · intro h
    have z := sp_red L x
    rw [h, Nat.xor_zero] at z
    exact z
  · intro h
    refine sp_clear g ?_ fun l hl => red_bits g x l hl
    have z := sp_xor L h (sp_red L x)
    rw [← Nat.xor_assoc, Nat.xor_self, Nat.zero_xor] at z
    exact z
theorem good_push {L : List Nat} (g : Good L) {x : Nat} (h : red L x ≠ 0) : Good (L ++ [red L x]) := by
  refine ⟨fun l hl => ?_, ?_⟩
  · rcases List.mem_append.mp hl with z | z
    · exact g.1 l z
    · rw [List.mem_singleton.mp z]
      exact h
  · refine List.pairwise_append.mpr ⟨g.2, List.pairwise_singleton _ _, fun a ha b hb => ?_⟩
    rw [List.mem_singleton.mp hb]
    exact red_bits g x a ha
theorem sp_perm {L M : List Nat} (p : L.Perm M) : ∀ y, inSp L y ↔ inSp M y := by
  induction p with
  | nil => exact fun _ => Iff.rfl
  | cons a p ih => exact fun y => or_congr (ih y) (ih _)
  | swap a b l =>
    intro y
    show ((inSp l y ∨ inSp l (y ^^^ a)) ∨ (inSp l (y ^^^ b) ∨ inSp l (y ^^^ b ^^^ a))) ↔ ((inSp l y ∨ inSp l (y ^^^ b)) ∨ (inSp l (y ^^^ a) ∨ inSp l (y ^^^ a ^^^ b)))
    rw [xor_assoc3 y b a]
    constructor
    · rintro ((h | h) | (h | h))
      · exact .inl (.inl h)
      · exact .inr (.inl h)
      · exact .inl (.inr h)
      · exact .inr (.inr h)
    · rintro ((h | h) | (h | h))
      · exact .inl (.inl h)
      · exact .inr (.inl h)
      · exact .inl (.inr h)
      · exact .inr (.inr h)
  | trans _ _ ih1 ih2 => exact fun y => (ih1 y).trans (ih2 y)
/-- with one more: what is spanned is told by the number itself -/
theorem sp_push (L : List Nat) (x y : Nat) : inSp (L ++ [red L x]) y ↔ (inSp L y ∨ inSp L (y ^^^ x)) := by
  rw [sp_perm (List.perm_append_comm (l₁ := L) (l₂ := [red L x])) y]
  show (inSp L y ∨ inSp L (y ^^^ red L x)) ↔ _
  have s := sp_red L x
  refine or_congr Iff.rfl ⟨fun h => ?_, fun h => ?_⟩
  · have z := sp_xor L h s
    rw [Nat.xor_comm x, ← Nat.xor_assoc, Nat.xor_assoc y, Nat.xor_self, Nat.xor_zero] at z
    exact z
  · have z := sp_xor L h s
    rw [← Nat.xor_assoc, Nat.xor_assoc y, Nat.xor_self, Nat.xor_zero] at z
    exact z
theorem good_tops {L : List Nat} (g : Good L) : (L.map Nat.log2).Nodup := by
  refine List.pairwise_map.mpr ?_
  refine List.Pairwise.imp_of_mem ?_ g.2
  intro a b _ hb h e
  rw [e, top_bit (g.1 b hb)] at h
  cases h
theorem log_le {a b : Nat} (hb : b ≠ 0) (h : b ≤ a) : b.log2 ≤ a.log2 := by
  rcases Nat.lt_or_ge a.log2 b.log2 with z | z
  · have h1 : a < 2 ^ (a.log2 + 1) := Nat.lt_log2_self
    have h2 := Nat.log2_self_le hb
    have h3 : 2 ^ (a.log2 + 1) ≤ 2 ^ b.log2 := Nat.pow_le_pow_right (by decide) z
    omega
  · exact z
theorem good_desc {L M : List Nat} (g : Good L) (p : M.Perm L) (d : M.Pairwise (· ≥ ·)) : Good M := by
  have nz : ∀ l ∈ M, l ≠ 0 := fun l hl => g.1 l (p.mem_iff.mp hl)
  have nd : (M.map Nat.log2).Nodup := (p.map Nat.log2).nodup_iff.mpr (good_tops g)
  refine ⟨nz, ?_⟩
  have nd := List.pairwise_map.mp nd
  refine List.Pairwise.imp_of_mem ?_ (List.pairwise_and_iff.mpr ⟨d, nd⟩)
  rintro a b ha hb ⟨h1, h2⟩
  refine above ?_
  have := log_le (nz b hb) h1
  omega
/-- two ways that go along -/
def Same (L M : List Nat) : Prop := Good L ∧ Good M ∧ L.length = M.length ∧ ∀ y, inSp L y ↔ inSp M y
theorem same_nil : Same [] [] := ⟨⟨fun _ h => (by cases h), List.Pairwise.nil⟩, ⟨fun _ h => (by cases h), List.Pairwise.nil⟩, rfl, fun _ => Iff.rfl⟩
theorem same_zero {L M : List Nat} (s : Same L M) (x : Nat) : red L x = 0 ↔ red M x = 0 := by
  rw [red_zero s.1, red_zero s.2.1]
  exact s.2.2.2 x
theorem same_push {L M M' : List Nat} (s : Same L M) {x : Nat} (h : red L x ≠ 0) (p : M'.Perm (M ++ [red M x])) (d : M'.Pairwise (· ≥ ·)) : Same (L ++ [red L x]) M' := by
  have h2 : red M x ≠ 0 := fun z => h ((same_zero s x).mpr z)
  refine ⟨good_push s.1 h, good_desc (good_push s.2.1 h2) p d, ?_, fun y => ?_⟩
  · rw [p.length_eq, List.length_append, List.length_append, s.2.2.1]
    rfl
  · rw [sp_perm p y, sp_push, sp_push]
    exact or_congr (s.2.2.2 y) (s.2.2.2 _)
theorem red_lt {n : Nat} : ∀ {L : List Nat}, (∀ l ∈ L, l < 2 ^ n) → ∀ {x : Nat}, x < 2 ^ n → red L x < 2 ^ n
  | [], _, x, h => h
  | l :: L, hL, x, h => by
    refine red_lt (fun y hy => hL y (List.mem_cons_of_mem _ hy)) ?_
    unfold stp
    split
    · exact Nat.xor_lt_two_pow h (hL l (List.mem_cons_self ..))
    · exact h
theorem good_few {n : Nat} {L : List Nat} (g : Good L) (h : ∀ l ∈ L, l < 2 ^ n) : L.length ≤ n := by
  have nd := good_tops g
  have z := few n _ nd fun t ht => by
    obtain ⟨l, hl, rfl⟩ := List.mem_map.mp ht
    exact (Nat.log2_lt (g.1 l hl)).mpr (h l hl)
  rw [List.length_map] at z
  exact z
end C63
namespace Lw
open Mp C63
def isStr (r : R W) (s : List Nat) : Bool := match r with
  | .ok (.str t) [] => decide (t = s)
  | _ => false
def isInt (r : R W) (i : Int) : Bool := match r with
  | .ok (.int j) [] => decide (j = i)
  | _ => false
def isTrue (r : R W) : Bool := match r with
  | .ok (.bl true) [] => true
  | _ => false
theorem isStr_ok {r : R W} {s : List Nat} (h : isStr r s = true) : r = .ok (.str s) [] := by
  unfold isStr at h
  split at h
  · rw [of_decide_eq_true h]
  · cases h
theorem isInt_ok {r : R W} {i : Int} (h : isInt r i = true) : r = .ok (.int i) [] := by
  unfold isInt at h
  split at h
  · rw [of_decide_eq_true h]
  · cases h
theorem isTrue_ok {r : R W} (h : isTrue r = true) : r = .ok (.bl true) [] := by
  unfold isTrue at h
  split at h
  · rfl
  · cases h
theorem rangeW_succ (s k : Nat) : rangeW (s : Int) (k + 1) = .int s :: rangeW ((s + 1 : Nat) : Int) k := by
  unfold rangeW
  rw [List.range_succ_eq_map, List.map_cons, List.map_map]
  have e : (s : Int) + ((0 : Nat) : Int) = s := by simp
  rw [e]
  refine congrArg _ (List.map_congr_left fun i _ => ?_)
  show W.int _ = W.int _
  congr 1
  push_cast
  omega
theorem miRng_ok {o : List W → Option (List W)} {ga : MA} {η : Env} {S S1 : Store} {ws xs : List W} (h : ga η S = .ok ws S1) (k : o ws = some xs) : miRng o ga η S = .ok xs S1 := by
  unfold miRng
  rw [h]
  show rOpt (o ws) S1 = _
  rw [k] <;> rfl
theorem fr_ret {T : List Fun} {d k np nv : Nat} {b : Fns → MS} {ws : List W} {η : Env} {S S' : Store} {w : W} (h : T[k]? = some ⟨np, nv, false, true, b⟩) (hl : ws.length = np) (hp : pures ws = true) (hη : ws.map some ++ List.replicate (nv - np) none = η) (e : b (fns T d) η [] = .ret w S') (pw : w.pure = true) : fns T (d + 1) k ws S = .ok w S := by
  rw [fns_fr h hl hp rfl]
  show R.frame S (finS false 0 (b (fns T d) (ws.map some ++ List.replicate (nv - np) none) [])) = _
  rw [hη, e]
  show R.frame S (fin false 0 w S') = _
  unfold fin
  rw [if_pos pw]
  exact if_pos pw
theorem mMeth_ok {c : Nat} {o : OM} {f : ME} {ga : MA} {η : Env} {S S1 S2 S3 : Store} {x w : W} {ws : List W} (hf : f η S = .ok x S1) (hr : recOk c S1 x = true) (hg : ga η S1 = .ok ws S2) (ho : o x ws S2 = some (w, S3)) : mMeth c o f ga η S = .ok w S3 := by
  unfold mMeth
  rw [hf]
  show (if recOk c S1 x = true then (ga η S1).bind fun ws S2 => rOM (o x ws S2) else .stuck) = _
  rw [if_pos hr, hg]
  show rOM (o x ws S2) = _
  rw [ho] <;> rfl
theorem rng1_nat {b : Nat} (hb : b < 1000000) : rng1 [.int (b : Int)] = some (rangeW 0 b) := by
  show (if -4611686018427387904 ≤ (b : Int) ∧ (b : Int) < 4611686018427387904 then some (rangeW 0 ((b : Int)).toNat) else none) = _
  rw [if_pos ⟨by omega, by omega⟩, Int.toNat_natCast]
theorem sDrop_ok {f : ME} {η : Env} {S S1 : Store} {w : W} (h : f η S = .ok w S1) : sDrop f η S = .nx η S1 := by
  unfold sDrop
  rw [h] <;> rfl
theorem mAnd_t {f g : ME} {η : Env} {S S1 : Store} {x : W} (h : f η S = .ok x S1) (ht : truthy S1 x = some true) : mAnd f g η S = g η S1 := by
  unfold mAnd
  rw [h]
  show (rTruth x S1).bind _ = _
  unfold rTruth
  rw [ht]
  rfl
theorem fr_non {T : List Fun} {d k np nv : Nat} {b : Fns → MS} {ws : List W} {η η' : Env} {S S' : Store} (h : T[k]? = some ⟨np, nv, false, true, b⟩) (hl : ws.length = np) (hp : pures ws = true) (hη : ws.map some ++ List.replicate (nv - np) none = η) (e : b (fns T d) η [] = .nx η' S') : fns T (d + 1) k ws S = .ok .non S := by
  rw [fns_fr h hl hp rfl]
  show R.frame S (finS false 0 (b (fns T d) (ws.map some ++ List.replicate (nv - np) none) [])) = _
  rw [hη, e]
  rfl
theorem comp_gen {it : MI} {own : List Nat} {g : MG} {t : MT} {e : ME} {η : Env} {S : Store} {α : Type} {u v : α → W} {l : List α} (hi : it η S = .ok (l.map u) S) (h : ∀ i, i ∈ l → ∃ η1, g (u i) (wipeE η own) S = some (η1, S) ∧ t η1 S = .ok true S ∧ e η1 S = .ok (v i) S) (hl : l.length ≤ bigLine) : mComp it own g t e η S = .ok (.lst (l.map v)) S := by
  unfold mComp
  rw [hi]
  show (noexc (compL g t e (wipeE η own) (l.map u) S [])).bind (fun ws S2 => R.ok (W.lst ws) S2) = _
  have key : ∀ (xs : List α) (acc : List W), (∀ i, i ∈ xs → ∃ η1, g (u i) (wipeE η own) S = some (η1, S) ∧ t η1 S = .ok true S ∧ e η1 S = .ok (v i) S) → acc.length + xs.length ≤ bigLine → compL g t e (wipeE η own) (xs.map u) S acc = .ok (acc ++ xs.map v) S := by
    intro xs
    induction xs with
    | nil =>
      intro acc _ _
      show R.ok acc S = _
      rw [List.map_nil, List.append_nil]
    | cons x r ih =>
      intro acc h hl
      obtain ⟨η1, h1, h2, h3⟩ := h x (List.mem_cons_self ..)
      rw [List.map_cons]
      unfold compL
      simp only [h1, h2, h3, R.bind]
      rw [if_pos True.intro]
      unfold sized
      rw [if_pos (by rw [List.length_cons] at hl; omega), ih (acc ++ [v x]) (fun y hy => h y (List.mem_cons_of_mem _ hy)) (by rw [List.length_append, List.length_singleton]; rw [List.length_cons] at hl; omega), List.append_assoc] <;> rfl
  rw [key l [] h (by simpa using hl), List.nil_append] <;> rfl
/-- a loop over a range, by its index -/
theorem loop_ix {g : MG} {b : MS} (I : Nat → Env → Store → Prop) : ∀ (k s : Nat), (∀ i, s ≤ i → i < s + k → ∀ η S, I i η S → ∃ η1 S1, g (.int (i : Int)) η S = some (η1, S1) ∧ Nx (b η1 S1) (I (i + 1))) → ∀ η S, I s η S → Nx (forL g b (rangeW (s : Int) k) η S) (I (s + k))
  | 0, s, _, η, S, hi => ⟨η, S, rfl, hi⟩
  | k + 1, s, h, η, S, hi => by
    obtain ⟨η1, S1, e1, η2, S2, e2, i2⟩ := h s (Nat.le_refl _) (by omega) η S hi
    rw [rangeW_succ, forL_nx e1 e2]
    have := loop_ix I k (s + 1) (fun i h1 h2 => h i (by omega) (by omega)) η2 S2 i2
    rw [show s + 1 + k = s + (k + 1) by omega] at this
    exact this
theorem nf_call {T : List Fun} {d k np nv : Nat} {keep : Bool} {b : Fns → MS} {ws : List W} {η : Env} {S : Store} (h : T[k]? = some ⟨np, nv, keep, false, b⟩) (hl : ws.length = np) (hη : ws.map some ++ List.replicate (nv - np) none = η) : fns T (d + 1) k ws S = finS keep S.length (b (fns T d) η S) := by
  subst hη
  exact fns_eq h hl
theorem lt_get {S : Store} {i : Nat} {c : Cell} (h : S[i]? = some c) : i < S.length := (List.getElem?_eq_some_iff.mp h).1
theorem get_app {S U : Store} {i : Nat} {c : Cell} (h : S[i]? = some c) : (S ++ U)[i]? = some c := by
  rw [List.getElem?_append_left (lt_get h)]
  exact h
theorem get_new {S : Store} {c : Cell} : (S ++ [c])[S.length]? = some c := by
  rw [List.getElem?_append_right (Nat.le_refl _), Nat.sub_self] <;> rfl
theorem eraseIdx_map' {α β : Type} (f : α → β) : ∀ (l : List α) (k : Nat), (l.map f).eraseIdx k = (l.eraseIdx k).map f
  | [], _ => rfl
  | _ :: _, 0 => rfl
  | x :: r, k + 1 => by
    show f x :: (r.map f).eraseIdx k = f x :: (r.eraseIdx k).map f
    rw [eraseIdx_map' f r k]
theorem erase_perm : ∀ (l : List Nat) (k : Nat) (h : k < l.length), (l[k] :: l.eraseIdx k).Perm l
  | [], _, h => absurd h (Nat.not_lt_zero _)
  | x :: r, 0, _ => .refl _
  | x :: r, k + 1, h => by
    have ih := erase_perm r k (by rw [List.length_cons] at h; omega)
    show ((r[k]'(by rw [List.length_cons] at h; omega)) :: x :: r.eraseIdx k).Perm (x :: r)
    exact (List.Perm.swap _ _ _).trans (ih.cons x)
theorem mCallK_ok {φ : Fns} {f : Nat} {perm : List Nat} {gk : MA} {η : Env} {S S1 S2 : Store} {ws zs : List W} {w : W} (hg : gk η S = .ok ws S1) (hp : perm.all (fun i => decide (i < ws.length)) = true) (hz : (perm.map fun i => ws.getD i .non) = zs) (h : φ f zs S1 = .ok w S2) : mCallK φ f perm gk η S = .ok w S2 := by
  unfold mCallK
  rw [hg]
  show (if _ then _ else _) = _
  rw [if_pos hp, hz]
  exact h
theorem mOr_t {f g : ME} {η : Env} {S S1 : Store} {x : W} (h : f η S = .ok x S1) (ht : truthy S1 x = some true) : mOr f g η S = .ok x S1 := by
  unfold mOr
  rw [h]
  show (rTruth x S1).bind _ = _
  unfold rTruth
  rw [ht]
  rfl
theorem mOr_f {f g : ME} {η : Env} {S S1 : Store} {x : W} (h : f η S = .ok x S1) (ht : truthy S1 x = some false) : mOr f g η S = g η S1 := by
  unfold mOr
  rw [h]
  show (rTruth x S1).bind _ = _
  unfold rTruth
  rw [ht]
  rfl
theorem no2 {f g : ME} {η : Env} {S S1 S2 : Store} (hf : f η S = .ok (.bl true) S1) (hg : g η S1 = .ok (.bl true) S2) : mTOr (mTNot (mTru f)) (mTNot (mTru g)) η S = .ok false S2 := (mTOr_f (mTNot_ok (mTru_ok hf rfl))).trans (mTNot_ok (mTru_ok hg rfl))
theorem ne_int {a : Int} {S : Store} : opNe (.int a) (.int a) S = some (.bl false) := by
  show some (W.bl (!(a == a))) = _
  rw [beq_self_eq_true] <;> rfl
end Lw
namespace Lw
open Mp
/-! an evaluator by tactics: walk_at "mev" proves f η S = .ok ?w ?S', walk_at "mst" a statement's end -/
theorem mNot_ev {f : ME} {η : Env} {S S1 : Store} {x : W} {b : Bool} (h : f η S = .ok x S1) (ht : truthy S1 x = some b) : mNot f η S = .ok (.bl (!b)) S1 := by
  unfold mNot
  rw [h]
  show (rOpt (truthy S1 x) S1).bind _ = _
  rw [ht] <;> rfl
theorem mAnd_tE {f g : ME} {η : Env} {S S1 : Store} {x : W} {r : R W} (h : f η S = .ok x S1) (ht : truthy S1 x = some true) (k : g η S1 = r) : mAnd f g η S = r := (mAnd_t h ht).trans k
theorem mAnd_fE {f g : ME} {η : Env} {S S1 : Store} {x : W} (h : f η S = .ok x S1) (ht : truthy S1 x = some false) : mAnd f g η S = .ok x S1 := by
  unfold mAnd
  rw [h]
  show (rOpt (truthy S1 x) S1).bind _ = _
  rw [ht] <;> rfl
theorem mOr_fE {f g : ME} {η : Env} {S S1 : Store} {x : W} {r : R W} (h : f η S = .ok x S1) (ht : truthy S1 x = some false) (k : g η S1 = r) : mOr f g η S = r := (mOr_f h ht).trans k
theorem mIf_tE {c : MT} {f g : ME} {η : Env} {S S1 : Store} {r : R W} (h : c η S = .ok true S1) (k : f η S1 = r) : mIf c f g η S = r := (mIf_t h).trans k
theorem mIf_fE {c : MT} {f g : ME} {η : Env} {S S1 : Store} {r : R W} (h : c η S = .ok false S1) (k : g η S1 = r) : mIf c f g η S = r := (mIf_f h).trans k
theorem mTAnd_tE {f g : MT} {η : Env} {S S1 : Store} {r : R Bool} (h : f η S = .ok true S1) (k : g η S1 = r) : mTAnd f g η S = r := (mTAnd_t h).trans k
theorem mTOr_fE {f g : MT} {η : Env} {S S1 : Store} {r : R Bool} (h : f η S = .ok false S1) (k : g η S1 = r) : mTOr f g η S = r := (mTOr_f h).trans k
theorem mTNot_tE {f : MT} {η : Env} {S S1 : Store} (h : f η S = .ok true S1) : mTNot f η S = .ok false S1 := mTNot_ok h
theorem mTNot_fE {f : MT} {η : Env} {S S1 : Store} (h : f η S = .ok false S1) : mTNot f η S = .ok true S1 := mTNot_ok h
theorem mTUn_ev {o : W → Store → Option W} {f : ME} {η : Env} {S S1 : Store} {x : W} {b : Bool} (h : f η S = .ok x S1) (k : o x S1 = some (.bl b)) : mTUn o f η S = .ok b S1 := by
  unfold mTUn
  rw [h]
  show (match o x S1 with
    | some (.bl b) => R.ok b S1
    | _ => .stuck) = _
  rw [k]
theorem mSl_ev {f : ME} {lo hi : MO} {η : Env} {S S1 S2 S3 : Store} {x z : W} {l h : Option Int} (hf : f η S = .ok x S1) (hl : lo η S1 = .ok l S2) (hh : hi η S2 = .ok h S3) (k : opSl x l h S3 = some z) : mSl f lo hi η S = .ok z S3 := by
  unfold mSl
  rw [hf]
  show (lo η S1).bind _ = _
  rw [hl]
  show (hi η S2).bind _ = _
  rw [hh]
  show rOpt (opSl x l h S3) S3 = _
  rw [k] <;> rfl
theorem moSome_ev {f : ME} {η : Env} {S S1 : Store} {i : Int} (h : f η S = .ok (.int i) S1) : moSome f η S = .ok (some i) S1 := by
  unfold moSome
  rw [h] <;> rfl
theorem moNone_ev {η : Env} {S : Store} : moNone η S = .ok none S := rfl
theorem mJoin_ev {f g : ME} {η : Env} {S S1 S2 : Store} {a : List Nat} {y z : W} (hf : f η S = .ok (.str a) S1) (hg : g η S1 = .ok y S2) (h : opJoin (.str a) y S2 = some z) : mJoin f g η S = .ok z S2 := by
  unfold mJoin
  rw [hf]
  show (g η S1).bind _ = _
  rw [hg]
  show rOpt (opJoin (.str a) y S2) S2 = _
  rw [h] <;> rfl
theorem miSeq_ev {f : ME} {η : Env} {S S1 : Store} {x : W} {xs : List W} (h : f η S = .ok x S1) (k : seqI x = some xs) : miSeq f η S = .ok xs S1 := by
  unfold miSeq
  rw [h]
  show rOpt (seqI x) S1 = _
  rw [k] <;> rfl
theorem miAll_ev {o : List W → Option (List W)} {ga : MA} {η : Env} {S S1 : Store} {ws xs : List W} (h : ga η S = .ok ws S1) (k : o ws = some xs) : miAll o ga η S = .ok xs S1 := by
  unfold miAll
  rw [h]
  show rOpt (o ws) S1 = _
  rw [k] <;> rfl
theorem sSet_ev {i : Nat} {f : ME} {η η1 : Env} {S S1 : Store} {w : W} (h : f η S = .ok w S1) (e : η.set i (some w) = η1) : sSet i f η S = .nx η1 S1 := (sSet_ok h).trans (by rw [e])
theorem sIf_tE {c : MT} {f g : MS} {η : Env} {S S1 : Store} {r : RS} (h : c η S = .ok true S1) (k : f η S1 = r) : sIf c f g η S = r := (sIf_t h).trans k
theorem sIf_fE {c : MT} {f g : MS} {η : Env} {S S1 : Store} {r : RS} (h : c η S = .ok false S1) (k : g η S1 = r) : sIf c f g η S = r := (sIf_f h).trans k
theorem sNx_ev {η : Env} {S : Store} : sNx η S = .nx η S := rfl
theorem sSeq_nE {f g : MS} {η η1 : Env} {S S1 : Store} {r : RS} (h : f η S = .nx η1 S1) (k : g η1 S1 = r) : sSeq f g η S = r := (sSeq_nx h).trans k
theorem sSeq_rE {f g : MS} {η : Env} {S S1 : Store} {w : W} (h : f η S = .ret w S1) : sSeq f g η S = .ret w S1 := sSeq_ret h
theorem sPar_ev {i j : Nat} {g : MA} {η η1 : Env} {S S1 : Store} {a b : W} (h : g η S = .ok [a, b] S1) (e : (η.set i (some a)).set j (some b) = η1) : sPar i j g η S = .nx η1 S1 := by
  unfold sPar
  rw [h]
  show RS.nx _ S1 = _
  rw [e]
theorem mTup_ev {g : MA} {η : Env} {S S1 : Store} {xs : List W} (hf : g η S = .ok xs S1) (h : xs.length ≤ bigLine) : mTup g η S = .ok (.tup xs) S1 := mTup_ok hf h
end Lw
namespace Lw
open Mp
theorem mCallK2 {φ : Fns} {f : Nat} {gk : MA} {η : Env} {S S1 S2 : Store} {a b w : W} (hg : gk η S = .ok [a, b] S1) (h : φ f [b, a] S1 = .ok w S2) : mCallK φ f [1, 0] gk η S = .ok w S2 := mCallK_ok hg rfl rfl h
end Lw
local macro_rules | `(tactic| walk_at "mop") => `(tactic| first   | with_reducible assumption   | exact Mp.opMod_ok (by decide) | exact Mp.opMod_ok (by omega) | exact Mp.opMul_l (by decide) | exact Mp.opMul_r (by decide) | exact Mp.opDiv_ok (by decide)   | rfl   | fail "mop")
local macro_rules | `(tactic| walk_at "mlen") => `(tactic| first | exact Nat.le_of_ble_eq_true rfl | (simp only [List.length_map, List.length_range, List.length_cons, List.length_nil, List.length_append]; unfold Mp.bigLine; omega))
local macro_rules | `(tactic| walk_at "mev") => `(tactic| first   | with_reducible assumption   | ((with_reducible apply Mp.mVar_ok); rfl)   | with_reducible exact Mp.mC_ok   | with_reducible exact Mp.maNil_ok   | ((with_reducible apply Mp.maCons_ok); walk_at "mev"; walk_at "mev")   | ((with_reducible apply Mp.mBin_ok); walk_at "mev"; walk_at "mev"; walk_at "mop")   | ((with_reducible apply Mp.mUn_ok); walk_at "mev"; walk_at "mop")   | ((with_reducible apply Mp.mBi_ok); walk_at "mev"; walk_at "mop")   | ((with_reducible apply Lw.mTup_ev); walk_at "mev"; walk_at "mlen")   | ((with_reducible apply Mp.mLst_ok); walk_at "mev"; walk_at "mlen")   | ((with_reducible apply Mp.mCall_ok); walk_at "mev"; walk_at "mop")   | ((with_reducible apply Lw.mIf_tE); walk_at "mev"; walk_at "mev")   | ((with_reducible apply Lw.mIf_fE); walk_at "mev"; walk_at "mev")   | ((with_reducible apply Mp.mTCmp_ok); walk_at "mev"; walk_at "mev"; walk_at "mop")   | ((with_reducible apply Lw.mTUn_ev); walk_at "mev"; walk_at "mop")   | ((with_reducible apply Mp.mTru_ok); walk_at "mev"; walk_at "mop")   | ((with_reducible apply Lw.mTNot_tE); walk_at "mev")   | ((with_reducible apply Lw.mTNot_fE); walk_at "mev")   | ((with_reducible apply Mp.mTNot_ok); walk_at "mev")   | ((with_reducible apply Lw.mNot_ev); walk_at "mev"; walk_at "mop")   | ((with_reducible apply Lw.mSl_ev); walk_at "mev"; walk_at "mev"; walk_at "mev"; walk_at "mop")   | ((with_reducible apply Lw.moSome_ev); walk_at "mev")   | with_reducible exact Lw.moNone_ev   | ((with_reducible apply Lw.mJoin_ev); walk_at "mev"; walk_at "mev"; walk_at "mop")   | ((with_reducible apply Lw.miSeq_ev); walk_at "mev"; walk_at "mop")   | ((with_reducible apply Lw.miAll_ev); walk_at "mev"; walk_at "mop")   | ((with_reducible apply Lw.miRng_ok); walk_at "mev"; walk_at "mop")   | ((with_reducible apply Lw.mMeth_ok); walk_at "mev"; walk_at "mop"; walk_at "mev"; walk_at "mop")   | ((with_reducible apply Lw.mAnd_tE); walk_at "mev"; walk_at "mop"; walk_at "mev")   | ((with_reducible apply Lw.mAnd_fE); walk_at "mev"; walk_at "mop")   | ((with_reducible apply Lw.mOr_t); walk_at "mev"; walk_at "mop")   | ((with_reducible apply Lw.mOr_fE); walk_at "mev"; walk_at "mop"; walk_at "mev")   | ((with_reducible apply Lw.mTAnd_tE); walk_at "mev"; walk_at "mev")   | ((with_reducible apply Mp.mTAnd_f); walk_at "mev")   | ((with_reducible apply Mp.mTOr_t); walk_at "mev")   | ((with_reducible apply Lw.mTOr_fE); walk_at "mev"; walk_at "mev")   | fail "mev")
local macro_rules | `(tactic| walk_at "mset") => `(tactic| first | (simp only [List.set_cons_zero, List.set_cons_succ]; rfl) | rfl)
local macro_rules | `(tactic| walk_at "mst") => `(tactic| first   | with_reducible assumption   | ((with_reducible apply Lw.sSet_ev); walk_at "mev"; walk_at "mset")   | ((with_reducible apply Lw.sPar_ev); walk_at "mev"; walk_at "mset")   | ((with_reducible apply Mp.sRet_ok); walk_at "mev")   | ((with_reducible apply Lw.sDrop_ok); walk_at "mev")   | ((with_reducible apply Lw.sIf_tE); walk_at "mev"; walk_at "mst")   | ((with_reducible apply Lw.sIf_fE); walk_at "mev"; walk_at "mst")   | ((with_reducible apply Lw.sSeq_rE); walk_at "mst")   | ((with_reducible apply Lw.sSeq_nE); walk_at "mst"; walk_at "mst")   | ((with_reducible apply Mp.sAsg_ok); walk_at "mev"; rfl)   | with_reducible exact Lw.sNx_ev)
local macro_rules | `(tactic| walk_at "mev") => `(tactic| first | ((with_reducible apply Lw.mCallK2); walk_at "mev"; walk_at "mop") | ((with_reducible apply Lw.mSet_ev); walk_at "mev"; rfl; walk_at "mop"))
namespace Lw
open Mp C63
def ds (n b : Nat) : List Nat := ((List.range n).reverse).map fun k => if b.testBit k then 111 else 46
def dcd (n b : Nat) : W := .str (ds n b)
def nW (n : Nat) : W := .int n
theorem pures_nW : ∀ l : List Nat, pures (l.map nW) = true
  | [] => rfl
  | i :: r => by
    show (true && pures (r.map nW)) = true
    rw [pures_nW r] <;> rfl
theorem pures_dcd (n : Nat) : ∀ l : List Nat, pures (l.map (dcd n)) = true
  | [] => rfl
  | i :: r => by
    show (true && pures (r.map (dcd n))) = true
    rw [pures_dcd n r] <;> rfl
def allD (p : Nat → Nat → Bool) : Bool := [1, 2, 3, 4, 5, 6].all fun n => (List.range (2 ^ n)).all fun b => decide (b = 0) || p n b
theorem mem16 {n : Nat} (h1 : 1 ≤ n) (h6 : n ≤ 6) : n ∈ ([1, 2, 3, 4, 5, 6] : List Nat) := by
  have : n = 1 ∨ n = 2 ∨ n = 3 ∨ n = 4 ∨ n = 5 ∨ n = 6 := by omega
  rcases this with e | e | e | e | e | e <;> simp [e]
theorem allD_ok {p : Nat → Nat → Bool} (h : allD p = true) {n b : Nat} (h1 : 1 ≤ n) (h6 : n ≤ 6) (hb : b < 2 ^ n) (h0 : b ≠ 0) : p n b = true := by
  have z := List.all_eq_true.mp (List.all_eq_true.mp h n (mem16 h1 h6)) b (List.mem_range.mpr hb)
  rw [decide_eq_false h0, Bool.false_or] at z
  exact z
theorem c_bits (d : Nat) : allD (fun n b => isInt (fns T (d + 6) 7 [.str (ds n b)] []) b) = true := by kernel_rfl
theorem c_lnum (d : Nat) : allD (fun n b => isInt (fns T (d + 6) 38 [.str (ds n b)] []) b) = true := by kernel_rfl
theorem c_dot (d : Nat) : allD (fun n b => isTrue (fns T (d + 6) 4 [.int n, .str (ds n b)] [])) = true := by kernel_rfl
theorem bits_ok {d n b : Nat} {S : Store} (h1 : 1 ≤ n) (h6 : n ≤ 6) (hb : b < 2 ^ n) (h0 : b ≠ 0) : fns T (d + 6) 7 [dcd n b] S = .ok (nW b) S := fr_any rfl (isInt_ok (allD_ok (c_bits d) h1 h6 hb h0))
theorem lnum_ok {d n b : Nat} {S : Store} (h1 : 1 ≤ n) (h6 : n ≤ 6) (hb : b < 2 ^ n) (h0 : b ≠ 0) : fns T (d + 6) 38 [dcd n b] S = .ok (nW b) S := fr_any rfl (isInt_ok (allD_ok (c_lnum d) h1 h6 hb h0))
theorem dot_ok {d n b : Nat} {S : Store} (h1 : 1 ≤ n) (h6 : n ≤ 6) (hb : b < 2 ^ n) (h0 : b ≠ 0) : fns T (d + 6) 4 [.int n, dcd n b] S = .ok (.bl true) S := fr_any rfl (isTrue_ok (allD_ok (c_dot d) h1 h6 hb h0))
theorem ds_inj {n a b : Nat} (h1 : 1 ≤ n) (h6 : n ≤ 6) (ha : a < 2 ^ n) (ha0 : a ≠ 0) (hb : b < 2 ^ n) (hb0 : b ≠ 0) (e : ds n a = ds n b) : a = b := by
  have x := bits_ok (d := 0) (S := []) h1 h6 ha ha0
  have y := bits_ok (d := 0) (S := []) h1 h6 hb hb0
  unfold dcd at x y
  rw [e, y] at x
  have z := R.ok.inj x
  have z := W.int.inj z.1
  omega
/-- the row's numbers are of cards, each once -/
def RowOk (n : Nat) (bs : List Nat) : Prop := bs.Nodup ∧ ∀ b ∈ bs, b < 2 ^ n ∧ b ≠ 0
theorem RowOk.tail {n b : Nat} {bs : List Nat} (h : RowOk n (b :: bs)) : RowOk n bs := ⟨(List.nodup_cons.mp h.1).2, fun x hx => h.2 x (List.mem_cons_of_mem _ hx)⟩
theorem freed_loop {φ : Fns} {a b : Option W} : ∀ (L : List Nat) (x : Nat) (y : Option W), ∃ y', forL (gVar 3) (p_freed_2b φ) (L.map nW) [a, b, some (nW x), y] [] = .nx [a, b, some (nW (red L x)), y'] []
  | [], x, y => ⟨y, rfl⟩
  | l :: L, x, y => by
    obtain ⟨y', e⟩ := freed_loop (φ := φ) (a := a) (b := b) L (stp x l) (some (nW l))
    refine ⟨y', ?_⟩
    have step : p_freed_2b φ [a, b, some (nW x), some (nW l)] [] = .nx [a, b, some (nW (stp x l)), some (nW l)] [] := by
      refine (sSet_ok (w := nW (stp x l)) (S1 := []) (mBi_ok (S1 := []) (xs := [nW x, nW (x ^^^ l)]) (maCons_ok (S1 := []) (mVar_ok rfl) (maCons_ok (S1 := []) (mBin_ok (S1 := []) (x := nW x) (y := nW l) (mVar_ok rfl) (mVar_ok rfl) ?_) rfl)) ?_)).trans rfl
      · show (if (0 : Int) ≤ (x : Int) ∧ (0 : Int) ≤ (l : Int) then some (W.int (((x : Int).toNat ^^^ (l : Int).toNat : Nat) : Int)) else none) = _
        rw [if_pos ⟨by omega, by omega⟩, Int.toNat_natCast, Int.toNat_natCast] <;> rfl
      · show some (W.int (if ((x ^^^ l : Nat) : Int) < (x : Int) then ((x ^^^ l : Nat) : Int) else (x : Int))) = some (W.int ((stp x l : Nat) : Int))
        unfold stp
        by_cases h : x ^^^ l < x
        · rw [if_pos (by omega), if_pos h]
        · rw [if_neg (by omega), if_neg h]
    rw [List.map_cons, forL_nx (η1 := [a, b, some (nW x), some (nW l)]) (S1 := []) rfl step, e]
    rfl
theorem freed_ok {d x : Nat} {L : List Nat} {S : Store} : fns T (d + 1) 16 [nW x, .lst (L.map nW)] S = .ok (nW (red L x)) S := by
  obtain ⟨y', e⟩ := freed_loop (φ := fns T d) (a := some (nW x)) (b := some (.lst (L.map nW))) L x none
  refine fr_ret (η := [some (nW x), some (.lst (L.map nW)), none, none]) (b := b_freed) (nv := 4) (S' := []) rfl rfl ?_ rfl ?_ rfl
  · show (true && (pures (L.map nW) && true)) = true
    rw [pures_nW] <;> rfl
  · unfold b_freed
    refine (sSeq_nx (η1 := [some (nW x), some (.lst (L.map nW)), some (nW x), none]) (S1 := []) rfl).trans ?_
    refine (sSeq_nx ((sFor_ok (S1 := []) (xs := L.map nW) rfl).trans e)).trans ?_
    rfl
theorem intsOf_nW (l : List Nat) : intsOf (l.map nW) = some (l.map fun (n : Nat) => (n : Int)) := by
  have := intsOf_map (l.map fun (n : Nat) => (n : Int))
  rw [List.map_map] at this
  exact this
theorem sort_nat (l : List Nat) : ∃ M : List Nat, (sortZ (l.map fun (n : Nat) => (n : Int))).reverse = (M.map fun (n : Nat) => (n : Int)) ∧ M.Perm l ∧ M.Pairwise (· ≥ ·) := by
  have p := sortZ_perm (l.map fun (n : Nat) => (n : Int))
  have a := sortZ_asc (l.map fun (n : Nat) => (n : Int))
  refine ⟨((sortZ (l.map fun (n : Nat) => (n : Int))).reverse).map Int.toNat, ?_, ?_, ?_⟩
  · rw [List.map_map]
    have : ∀ x ∈ (sortZ (l.map fun (n : Nat) => (n : Int))).reverse, ((fun (n : Nat) => (n : Int)) ∘ Int.toNat) x = x := fun x hx => by
      have hx := p.mem_iff.mp (List.mem_reverse.mp hx)
      obtain ⟨k, _, rfl⟩ := List.mem_map.mp hx
      rfl
    rw [List.map_congr_left this, List.map_id']
  · have q := ((List.reverse_perm _).trans p).map Int.toNat
    rw [List.map_map] at q
    have : ∀ x ∈ l, (Int.toNat ∘ fun (n : Nat) => (n : Int)) x = x := fun x _ => rfl
    rw [List.map_congr_left this, List.map_id'] at q
    exact q
  · refine List.pairwise_map.mpr (List.pairwise_reverse.mpr (a.imp fun h => ?_))
    omega
theorem next_ok {d b : Nat} {L : List Nat} {S : Store} (hl : L.length ≤ 100) : ∃ M, fns T (d + 2) 17 [.lst (L.map nW), nW b] S = .ok (.lst (M.map nW)) S ∧ (red L b = 0 → M = L) ∧ (red L b ≠ 0 → M.Perm (L ++ [red L b]) ∧ M.Pairwise (· ≥ ·)) := by
  obtain ⟨M, e, p, q⟩ := sort_nat (L ++ [red L b])
  have e1 : (sSet 2 (mCall (fns T (d + 1)) 16 (maCons (mVar 1) (maCons (mVar 0) (maNil))))) [some (.lst (L.map nW)), some (nW b), none] [] = .nx [some (.lst (L.map nW)), some (nW b), some (nW (red L b))] [] := (sSet_ok (S1 := []) (mCall_ok (S1 := []) (maCons_ok (S1 := []) (mVar_ok rfl) (maCons_ok (S1 := []) (mVar_ok rfl) rfl)) freed_ok)).trans rfl
  have hg : (mTCmp opGt2 (mVar 2) (mC (.int 0))) [some (.lst (L.map nW)), some (nW b), some (nW (red L b))] [] = .ok (decide ((0 : Int) < ((red L b : Nat) : Int))) [] := rfl
  by_cases h : red L b = 0
  · refine ⟨L, ?_, fun _ => rfl, fun z => absurd h z⟩
    refine fr_ret (η := [some (.lst (L.map nW)), some (nW b), none]) (b := b_next_leads) (nv := 3) (S' := []) rfl rfl ?_ rfl ?_ (pures_nW L)
    · show (pures (L.map nW) && (true && true)) = true
      rw [pures_nW] <;> rfl
    · unfold b_next_leads
      refine (sSeq_nx e1).trans (sRet_ok ?_)
      rw [decide_eq_false (by omega)] at hg
      exact (mIf_f hg).trans (mVar_ok rfl)
  · refine ⟨M, ?_, fun z => absurd z h, fun _ => ⟨p, q⟩⟩
    refine fr_ret (η := [some (.lst (L.map nW)), some (nW b), none]) (b := b_next_leads) (nv := 3) (S' := []) rfl rfl ?_ rfl ?_ (pures_nW M)
    · show (pures (L.map nW) && (true && true)) = true
      rw [pures_nW] <;> rfl
    · unfold b_next_leads
      refine (sSeq_nx e1).trans (sRet_ok ?_)
      rw [decide_eq_true (by omega)] at hg
      refine (mIf_t hg).trans ?_
      have el : (mLst (maStar (mVar 0) (maCons (mVar 2) (maNil)))) [some (.lst (L.map nW)), some (nW b), some (nW (red L b))] [] = .ok (.lst ((L ++ [red L b]).map nW)) [] := by
        have := mLst_ok (g := maStar (mVar 0) (maCons (mVar 2) (maNil))) (η := [some (.lst (L.map nW)), some (nW b), some (nW (red L b))]) (S := []) (S1 := []) (xs := L.map nW ++ [nW (red L b)]) rfl (by rw [List.length_append, List.length_map]; show L.length + 1 ≤ bigLine; unfold bigLine; omega)
        rw [this, List.map_append]
        rfl
      have es : (mBi baSorted (maCons (mLst (maStar (mVar 0) (maCons (mVar 2) (maNil)))) (maNil))) [some (.lst (L.map nW)), some (nW b), some (nW (red L b))] [] = .ok (.lst ((sortZ ((L ++ [red L b]).map fun (n : Nat) => (n : Int))).map .int)) [] := by
        refine mBi1_ok el ?_
        show sortedRes false ((L ++ [red L b]).map nW) = _
        unfold sortedRes
        have hn : strsOf ((L ++ [red L b]).map nW) = none := by
          cases L with
          | nil => rfl
          | cons x r => rfl
        rw [hn]
        show (if false = true then none else (intsOf ((L ++ [red L b]).map nW)).map fun ns => W.lst ((sortZ ns).map .int)) = _
        rw [if_neg (by decide), intsOf_nW]
        rfl
      unfold mRevL
      rw [es]
      show R.ok (W.lst ((sortZ ((L ++ [red L b]).map fun (n : Nat) => (n : Int))).map .int).reverse) [] = _
      rw [← List.map_reverse, e, List.map_map]
      rfl
end Lw
namespace Lw
open Mp C63
/-- the law's own leads -/
def lrun : List Nat → List Nat → List Nat
  | [], L => L
  | b :: r, L => lrun r (if red L b = 0 then L else L ++ [red L b])
/-- the places at which cards are taken that are no sums of those ahead -/
def idxs : List Nat → Nat → List Nat → List Nat
  | [], _, _ => []
  | x :: r, s, L => if red L x = 0 then idxs r (s + 1) L else s :: idxs r (s + 1) (L ++ [red L x])
theorem idxs_z {x s : Nat} {r L : List Nat} (h : red L x = 0) : idxs (x :: r) s L = idxs r (s + 1) L := if_pos h
theorem idxs_p {x s : Nat} {r L : List Nat} (h : red L x ≠ 0) : idxs (x :: r) s L = s :: idxs r (s + 1) (L ++ [red L x]) := if_neg h
theorem lrun_len : ∀ (bs L : List Nat), (lrun bs L).length ≤ L.length + bs.length
  | [], L => Nat.le_refl _
  | b :: r, L => by
    have ih := lrun_len r (if red L b = 0 then L else L ++ [red L b])
    show (lrun r _).length ≤ _
    rw [List.length_cons]
    split at ih
    · rename_i h
      rw [if_pos h]
      omega
    · rename_i h
      rw [if_neg h]
      rw [List.length_append, List.length_singleton] at ih
      omega
theorem lrun_good {n : Nat} : ∀ (bs L : List Nat), Good L → (∀ l ∈ L, l < 2 ^ n) → (∀ b ∈ bs, b < 2 ^ n) → Good (lrun bs L) ∧ ∀ l ∈ lrun bs L, l < 2 ^ n
  | [], L, g, hL, _ => ⟨g, hL⟩
  | b :: r, L, g, hL, hb => by
    show Good (lrun r (if red L b = 0 then L else L ++ [red L b])) ∧ _
    have hr : ∀ x ∈ r, x < 2 ^ n := fun x hx => hb x (List.mem_cons_of_mem _ hx)
    by_cases h : red L b = 0
    · rw [show lrun (b :: r) L = lrun r L from congrArg (lrun r) (if_pos h), if_pos h]
      exact lrun_good r L g hL hr
    · rw [show lrun (b :: r) L = lrun r (L ++ [red L b]) from congrArg (lrun r) (if_neg h), if_neg h]
      refine lrun_good r _ (good_push g h) (fun l hl => ?_) hr
      rcases List.mem_append.mp hl with z | z
      · exact hL l z
      · rw [List.mem_singleton.mp z]
        exact red_lt hL (hb b (List.mem_cons_self ..))
theorem base_loop {d n : Nat} (h1 : 1 ≤ n) (h6 : n ≤ 6) {rw_ : Option W} : ∀ (bs : List Nat) (s : Nat) (L Ll : List Nat) (fs : List W) (a b c : Option W), Same Ll L → fs.length = L.length → L.length + bs.length ≤ 20 → (∀ b ∈ bs, b < 2 ^ n ∧ b ≠ 0) →
    ∃ w a' b' c', forL (gTupW (gsCons (gVar 3) (gsCons (gVar 4) (gsNil)))) (p_least_base_2b (fns T (d + 6))) (enumL (s : Int) (bs.map (dcd n))) [rw_, some (.ref 0), some (.lst (L.map nW)), a, b, c] [.lst fs] = .nx [rw_, some (.ref 0), w, a', b', c'] [.lst (fs ++ (idxs bs s Ll).map nW)]
  | [], s, L, Ll, fs, a, b, c, hs, hf, _, _ => ⟨_, a, b, c, by rw [show (idxs [] s Ll).map nW = [] from rfl, List.append_nil] <;> rfl⟩
  | x :: r, s, L, Ll, fs, a, b, c, hs, hf, hl, hb => by
    rw [List.length_cons] at hl
    obtain ⟨hx, hx0⟩ := hb x (List.mem_cons_self ..)
    have hr : ∀ b ∈ r, b < 2 ^ n ∧ b ≠ 0 := fun y hy => hb y (List.mem_cons_of_mem _ hy)
    obtain ⟨M, en, e0, e1⟩ := next_ok (d := d + 4) (b := x) (L := L) (S := [.lst fs]) (by omega)
    have s1 : (sSet 5 (mCall (fns T (d + 6)) 17 (maCons (mVar 2) (maCons (mCall (fns T (d + 6)) 7 (maCons (mVar 4) (maNil))) (maNil))))) [rw_, some (.ref 0), some (.lst (L.map nW)), some (.int s), some (dcd n x), c] [.lst fs] = .nx [rw_, some (.ref 0), some (.lst (L.map nW)), some (.int s), some (dcd n x), some (.lst (M.map nW))] [.lst fs] :=
      (sSet_ok (S1 := [.lst fs]) (mCall_ok (S1 := [.lst fs]) (maCons_ok (S1 := [.lst fs]) (mVar_ok rfl) (maCons_ok (S1 := [.lst fs]) (mCall_ok (S1 := [.lst fs]) (maCons_ok (S1 := [.lst fs]) (mVar_ok rfl) rfl) (bits_ok (d := d) h1 h6 hx hx0)) rfl)) en)).trans rfl
    have tst : (mTCmp opGt2 (mBi baLen (maCons (mVar 5) (maNil))) (mBi baLen (maCons (mVar 2) (maNil)))) [rw_, some (.ref 0), some (.lst (L.map nW)), some (.int s), some (dcd n x), some (.lst (M.map nW))] [.lst fs] = .ok (decide (((L.map nW).length : Int) < ((M.map nW).length : Int))) [.lst fs] := rfl
    rw [List.length_map, List.length_map] at tst
    have head : ∀ (η1 : Env) (S1 : Store), sSeq (sIf (mTCmp opGt2 (mBi baLen (maCons (mVar 5) (maNil))) (mBi baLen (maCons (mVar 2) (maNil)))) (sDrop (mMeth 5 omAppend (mVar 1) (maCons (mVar 3) (maNil)))) (sNx)) (sSet 2 (mVar 5)) [rw_, some (.ref 0), some (.lst (L.map nW)), some (.int s), some (dcd n x), some (.lst (M.map nW))] [.lst fs] = .nx η1 S1 → p_least_base_2b (fns T (d + 6)) [rw_, some (.ref 0), some (.lst (L.map nW)), some (.int s), some (dcd n x), c] [.lst fs] = .nx η1 S1 := fun η1 S1 z => (sSeq_nx s1).trans z
    have hen : enumL (s : Int) ((x :: r).map (dcd n)) = .tup [.int s, dcd n x] :: enumL ((s + 1 : Nat) : Int) (r.map (dcd n)) := rfl
    by_cases h : red Ll x = 0
    · have hM := e0 ((same_zero hs x).mp h)
      subst hM
      rw [decide_eq_false (by omega)] at tst
      have st := head _ _ ((sSeq_nx (sIf_n tst)).trans (show sSet 2 (mVar 5) [rw_, some (.ref 0), some (.lst (M.map nW)), some (.int s), some (dcd n x), some (.lst (M.map nW))] [.lst fs] = .nx [rw_, some (.ref 0), some (.lst (M.map nW)), some (.int s), some (dcd n x), some (.lst (M.map nW))] [.lst fs] from rfl))
      obtain ⟨w, a', b', c', ee⟩ := base_loop (d := d) h1 h6 (rw_ := rw_) r (s + 1) M Ll fs (some (.int s)) (some (dcd n x)) (some (.lst (M.map nW))) hs hf (by omega) hr
      refine ⟨w, a', b', c', ?_⟩
      rw [hen, forL_nx (η1 := [rw_, some (.ref 0), some (.lst (M.map nW)), some (.int s), some (dcd n x), c]) (S1 := [.lst fs]) rfl st, idxs_z h]
      exact ee
    · have hL : red L x ≠ 0 := fun z => h ((same_zero hs x).mpr z)
      obtain ⟨pm, ds_⟩ := e1 hL
      have sm := same_push hs h pm ds_
      have lm : M.length = L.length + 1 := by rw [pm.length_eq, List.length_append] <;> rfl
      rw [decide_eq_true (by omega)] at tst
      have ap : (mMeth 5 omAppend (mVar 1) (maCons (mVar 3) (maNil))) [rw_, some (.ref 0), some (.lst (L.map nW)), some (.int s), some (dcd n x), some (.lst (M.map nW))] [.lst fs] = .ok .non [.lst (fs ++ [.int s])] := by
        refine mMeth_ok (x := .ref 0) (S1 := [.lst fs]) (S2 := [.lst fs]) (ws := [.int s]) (mVar_ok rfl) rfl (maCons_ok (S1 := [.lst fs]) (mVar_ok rfl) rfl) ?_
        show (if (W.int (s : Int)).pure = true ∧ fs.length + 1 ≤ bigLine then some (W.non, ([.lst fs] : Store).set 0 (.lst (fs ++ [.int s]))) else none) = _
        rw [if_pos ⟨rfl, by unfold bigLine; omega⟩]
        rfl
      have st := head _ _ ((sSeq_nx (η1 := [rw_, some (.ref 0), some (.lst (L.map nW)), some (.int s), some (dcd n x), some (.lst (M.map nW))]) (S1 := [.lst (fs ++ [.int s])]) ((sIf_t tst).trans (by unfold sDrop; rw [ap] <;> rfl))).trans (show sSet 2 (mVar 5) [rw_, some (.ref 0), some (.lst (L.map nW)), some (.int s), some (dcd n x), some (.lst (M.map nW))] [.lst (fs ++ [.int s])] = .nx [rw_, some (.ref 0), some (.lst (M.map nW)), some (.int s), some (dcd n x), some (.lst (M.map nW))] [.lst (fs ++ [.int s])] from rfl))
      obtain ⟨w, a', b', c', ee⟩ := base_loop (d := d) h1 h6 (rw_ := rw_) r (s + 1) M (Ll ++ [red Ll x]) (fs ++ [.int s]) (some (.int s)) (some (dcd n x)) (some (.lst (M.map nW))) sm (by rw [List.length_append, lm, hf] <;> rfl) (by omega) hr
      refine ⟨w, a', b', c', ?_⟩
      rw [hen, forL_nx (η1 := [rw_, some (.ref 0), some (.lst (L.map nW)), some (.int s), some (dcd n x), c]) (S1 := [.lst fs]) rfl st, idxs_p h, show fs ++ (s :: idxs r (s + 1) (Ll ++ [red Ll x])).map nW = (fs ++ [.int (s : Int)]) ++ (idxs r (s + 1) (Ll ++ [red Ll x])).map nW by rw [List.append_assoc] <;> rfl]
      exact ee
theorem idxs_len : ∀ (bs : List Nat) (s : Nat) (L : List Nat), (idxs bs s L).length + L.length = (lrun bs L).length
  | [], s, L => Nat.zero_add _
  | x :: r, s, L => by
    by_cases h : red L x = 0
    · rw [idxs_z h, show lrun (x :: r) L = lrun r L from congrArg (lrun r) (if_pos h)]
      exact idxs_len r (s + 1) L
    · rw [idxs_p h, show lrun (x :: r) L = lrun r (L ++ [red L x]) from congrArg (lrun r) (if_neg h), ← idxs_len r (s + 1), List.length_cons, List.length_append, List.length_singleton]
      omega
theorem base_okW {d n : Nat} {bs : List Nat} {S : Store} {w : W} (h1 : 1 ≤ n) (h6 : n ≤ 6) (hb : ∀ b ∈ bs, b < 2 ^ n ∧ b ≠ 0) (hl : bs.length ≤ 20) (hp : pures [w] = true) (hit : (miAll enumW2 (maCons (mVar 0) (maNil))) [some w, some (.ref 0), some (.lst []), none, none, none] [.lst []] = .ok (enumL ((0 : Nat) : Int) (bs.map (dcd n))) [.lst []]) : fns T (d + 7) 18 [w] S = .ok (.lst ((idxs bs 0 []).map nW)) S := by
  obtain ⟨w', a', b', c', e⟩ := base_loop (d := d) h1 h6 (rw_ := some w) bs 0 [] [] [] none none none same_nil rfl (by show 0 + bs.length ≤ 20; omega) hb
  rw [List.nil_append] at e
  have eb : b_least_base (fns T (d + 6)) [some w, none, none, none, none, none] [] = .ret (.ref 0) [.lst ((idxs bs 0 []).map nW)] := by
    unfold b_least_base
    refine (sSeq_nx (η1 := [some w, some (.ref 0), some (.lst []), none, none, none]) (S1 := [.lst []]) rfl).trans ?_
    refine (sSeq_nx ((sFor_ok hit).trans e)).trans ?_
    rfl
  rw [fns_fr rfl rfl hp]
  show R.frame S (finS false 0 (b_least_base (fns T (d + 6)) [some w, none, none, none, none, none] [])) = _
  rw [eb]
  show R.frame S (if pures ((idxs bs 0 []).map nW) = true then R.ok (.lst ((idxs bs 0 []).map nW)) (([.lst ((idxs bs 0 []).map nW)] : Store).take 0) else .stuck) = _
  rw [if_pos (pures_nW _)]
  show (if pures ((idxs bs 0 []).map nW) = true then R.ok (W.lst ((idxs bs 0 []).map nW)) S else .stuck) = _
  rw [if_pos (pures_nW _)]
theorem pures1_tup (n : Nat) (bs : List Nat) : pures [W.tup (bs.map (dcd n))] = true := by
  show (pures (bs.map (dcd n)) && true) = true
  rw [pures_dcd] <;> rfl
theorem pures1_lst (n : Nat) (bs : List Nat) : pures [W.lst (bs.map (dcd n))] = true := by
  show (pures (bs.map (dcd n)) && true) = true
  rw [pures_dcd] <;> rfl
theorem base_ok {d n : Nat} {bs : List Nat} {S : Store} (h1 : 1 ≤ n) (h6 : n ≤ 6) (hb : ∀ b ∈ bs, b < 2 ^ n ∧ b ≠ 0) (hl : bs.length ≤ 20) : fns T (d + 7) 18 [.tup (bs.map (dcd n))] S = .ok (.lst ((idxs bs 0 []).map nW)) S := base_okW h1 h6 hb hl (pures1_tup n bs) rfl
theorem base_okL {d n : Nat} {bs : List Nat} {S : Store} (h1 : 1 ≤ n) (h6 : n ≤ 6) (hb : ∀ b ∈ bs, b < 2 ^ n ∧ b ≠ 0) (hl : bs.length ≤ 20) : fns T (d + 7) 18 [.lst (bs.map (dcd n))] S = .ok (.lst ((idxs bs 0 []).map nW)) S := base_okW h1 h6 hb hl (pures1_lst n bs) rfl
theorem rank_okW {d n : Nat} {bs : List Nat} {S : Store} {w : W} (hp : pures [w] = true) (e : fns T (d + 7) 18 [w] [] = .ok (.lst ((idxs bs 0 []).map nW)) []) : fns T (d + 8) 19 [w] S = .ok (nW (lrun bs []).length) S := by
  refine fr_ret (η := [some w]) (b := b_rank_by) (nv := 1) (S' := []) rfl rfl hp rfl ?_ rfl
  unfold b_rank_by
  refine sRet_ok (mBi1_ok (S1 := []) (mCall_ok (S1 := []) (maCons_ok (S1 := []) (mVar_ok rfl) rfl) e) ?_)
  show some (W.int (((idxs bs 0 []).map nW).length : Int)) = _
  have := idxs_len bs 0 []
  rw [List.length_nil, Nat.add_zero] at this
  rw [List.length_map, this] <;> rfl
theorem rank_ok {d n : Nat} {bs : List Nat} {S : Store} (h1 : 1 ≤ n) (h6 : n ≤ 6) (hb : ∀ b ∈ bs, b < 2 ^ n ∧ b ≠ 0) (hl : bs.length ≤ 20) : fns T (d + 8) 19 [.tup (bs.map (dcd n))] S = .ok (nW (lrun bs []).length) S := rank_okW (n := n) (pures1_tup n bs) (base_ok h1 h6 hb hl)
theorem rank_okL {d n : Nat} {bs : List Nat} {S : Store} (h1 : 1 ≤ n) (h6 : n ≤ 6) (hb : ∀ b ∈ bs, b < 2 ^ n ∧ b ≠ 0) (hl : bs.length ≤ 20) : fns T (d + 8) 19 [.lst (bs.map (dcd n))] S = .ok (nW (lrun bs []).length) S := rank_okW (n := n) (pures1_lst n bs) (base_okL h1 h6 hb hl)
theorem inner_red {φ : Fns} {a : Option W} {L : List Nat} : ∀ (k i : Nat) (x : Nat) (y : Option W), i + k = L.length → ∀ fuel, k < fuel → ∃ y', forR (gVar 3) (p_law_reduced_2b1b φ) 0 fuel i [a, some (.ref 0), some (nW x), y] [.lst (L.map nW)] = .nx [a, some (.ref 0), some (nW (red (L.drop i) x)), y'] [.lst (L.map nW)]
  | 0, i, x, y, hk, fuel + 1, _ => by
    refine ⟨y, ?_⟩
    conv => lhs; unfold forR
    have : itemR 0 i [.lst (L.map nW)] = some none := by
      show some (L.map nW)[i]? = _
      rw [List.getElem?_eq_none (by rw [List.length_map]; omega)]
    rw [this, List.drop_eq_nil_of_le (by omega)]
    rfl
  | k + 1, i, x, y, hk, fuel + 1, hf => by
    have hi : i < L.length := by omega
    obtain ⟨y', e⟩ := inner_red (φ := φ) (a := a) (L := L) k (i + 1) (stp x L[i]) (some (nW L[i])) (by omega) fuel (by omega)
    refine ⟨y', ?_⟩
    conv => lhs; unfold forR
    have it : itemR 0 i [.lst (L.map nW)] = some (some (nW L[i])) := by
      show some (L.map nW)[i]? = _
      rw [List.getElem?_map, List.getElem?_eq_getElem hi] <;> rfl
    have step : p_law_reduced_2b1b φ [a, some (.ref 0), some (nW x), some (nW L[i])] [.lst (L.map nW)] = .nx [a, some (.ref 0), some (nW (stp x L[i])), some (nW L[i])] [.lst (L.map nW)] := by
      refine (sSet_ok (w := nW (stp x L[i])) (S1 := [.lst (L.map nW)]) (mBi_ok (S1 := [.lst (L.map nW)]) (xs := [nW x, nW (x ^^^ L[i])]) (maCons_ok (S1 := [.lst (L.map nW)]) (mVar_ok rfl) (maCons_ok (S1 := [.lst (L.map nW)]) (mBin_ok (S1 := [.lst (L.map nW)]) (x := nW x) (y := nW L[i]) (mVar_ok rfl) (mVar_ok rfl) ?_) rfl)) ?_)).trans rfl
      · show (if (0 : Int) ≤ (x : Int) ∧ (0 : Int) ≤ (L[i] : Int) then some (W.int (((x : Int).toNat ^^^ (L[i] : Int).toNat : Nat) : Int)) else none) = _
        rw [if_pos ⟨by omega, by omega⟩, Int.toNat_natCast, Int.toNat_natCast] <;> rfl
      · show some (W.int (if ((x ^^^ L[i] : Nat) : Int) < (x : Int) then ((x ^^^ L[i] : Nat) : Int) else (x : Int))) = some (W.int ((stp x L[i] : Nat) : Int))
        unfold stp
        by_cases h : x ^^^ L[i] < x
        · rw [if_pos (by omega), if_pos h]
        · rw [if_neg (by omega), if_neg h]
    have eg : gVar 3 (nW L[i]) [a, some (.ref 0), some (nW x), y] [.lst (L.map nW)] = some ([a, some (.ref 0), some (nW x), some (nW L[i])], [.lst (L.map nW)]) := rfl
    simp only [it, eg, step]
    rw [e, List.drop_eq_getElem_cons hi]
    rfl
  | _, _, _, _, _, 0, hf => by omega
theorem red_loop {φ : Fns} {a : Option W} : ∀ (bs L : List Nat) (x y : Option W), L.length + bs.length ≤ 20 → ∃ x' y', forL (gVar 2) (p_law_reduced_2b φ) (bs.map nW) [a, some (.ref 0), x, y] [.lst (L.map nW)] = .nx [a, some (.ref 0), x', y'] [.lst ((lrun bs L).map nW)]
  | [], L, x, y, _ => ⟨x, y, rfl⟩
  | b :: r, L, x, y, hl => by
    rw [List.length_cons] at hl
    obtain ⟨y1, e1⟩ := inner_red (φ := φ) (a := a) (L := L) L.length 0 b y (by omega) 1000000 (by omega)
    rw [List.drop_zero] at e1
    have s1 : p_law_reduced_2b1 φ [a, some (.ref 0), some (nW b), y] [.lst (L.map nW)] = .nx [a, some (.ref 0), some (nW (red L b)), y1] [.lst (L.map nW)] := e1
    have tst : (mTCmp opGt2 (mVar 2) (mC (.int 0))) [a, some (.ref 0), some (nW (red L b)), y1] [.lst (L.map nW)] = .ok (decide ((0 : Int) < ((red L b : Nat) : Int))) [.lst (L.map nW)] := rfl
    by_cases h : red L b = 0
    · rw [decide_eq_false (by omega)] at tst
      have st : p_law_reduced_2b φ [a, some (.ref 0), some (nW b), y] [.lst (L.map nW)] = .nx [a, some (.ref 0), some (nW (red L b)), y1] [.lst (L.map nW)] := (sSeq_nx s1).trans (sIf_n tst)
      obtain ⟨x', y', e⟩ := red_loop (φ := φ) (a := a) r L (some (nW (red L b))) y1 (by omega)
      refine ⟨x', y', ?_⟩
      rw [List.map_cons, forL_nx (η1 := [a, some (.ref 0), some (nW b), y]) (S1 := [.lst (L.map nW)]) rfl st, e, show lrun (b :: r) L = lrun r L from congrArg (lrun r) (if_pos h)]
    · rw [decide_eq_true (by omega)] at tst
      have ap : (mMeth 5 omAppend (mVar 1) (maCons (mVar 2) (maNil))) [a, some (.ref 0), some (nW (red L b)), y1] [.lst (L.map nW)] = .ok .non [.lst ((L ++ [red L b]).map nW)] := by
        refine mMeth_ok (x := .ref 0) (S1 := [.lst (L.map nW)]) (S2 := [.lst (L.map nW)]) (ws := [nW (red L b)]) (mVar_ok rfl) rfl (maCons_ok (S1 := [.lst (L.map nW)]) (mVar_ok rfl) rfl) ?_
        show (if (nW (red L b)).pure = true ∧ (L.map nW).length + 1 ≤ bigLine then some (W.non, ([.lst (L.map nW)] : Store).set 0 (.lst (L.map nW ++ [nW (red L b)]))) else none) = _
        rw [if_pos ⟨rfl, by rw [List.length_map]; unfold bigLine; omega⟩, List.map_append]
        rfl
      have st : p_law_reduced_2b φ [a, some (.ref 0), some (nW b), y] [.lst (L.map nW)] = .nx [a, some (.ref 0), some (nW (red L b)), y1] [.lst ((L ++ [red L b]).map nW)] := (sSeq_nx s1).trans ((sIf_t tst).trans (by unfold sDrop; rw [ap] <;> rfl))
      obtain ⟨x', y', e⟩ := red_loop (φ := φ) (a := a) r (L ++ [red L b]) (some (nW (red L b))) y1 (by rw [List.length_append, List.length_singleton]; omega)
      refine ⟨x', y', ?_⟩
      rw [List.map_cons, forL_nx (η1 := [a, some (.ref 0), some (nW b), y]) (S1 := [.lst (L.map nW)]) rfl st, e, show lrun (b :: r) L = lrun r (L ++ [red L b]) from congrArg (lrun r) (if_neg h)]
theorem reduced_okW {d : Nat} {bs : List Nat} {S : Store} {w : W} (hl : bs.length ≤ 20) (hp : pures [w] = true) (hit : miSeq (mVar 0) [some w, some (.ref 0), none, none] [.lst []] = .ok (bs.map nW) [.lst []]) : fns T (d + 1) 41 [w] S = .ok (.lst ((lrun bs []).map nW)) S := by
  obtain ⟨x', y', e⟩ := red_loop (φ := fns T d) (a := some w) bs [] none none (by show 0 + bs.length ≤ 20; omega)
  rw [fns_fr rfl rfl hp]
  have eb : b_law_reduced (fns T d) [some w, none, none, none] [] = .ret (.ref 0) [.lst ((lrun bs []).map nW)] := by
    unfold b_law_reduced
    refine (sSeq_nx (η1 := [some w, some (.ref 0), none, none]) (S1 := [.lst []]) rfl).trans ?_
    refine (sSeq_nx ((sFor_ok hit).trans e)).trans ?_
    rfl
  show R.frame S (finS false 0 (b_law_reduced (fns T d) [some w, none, none, none] [])) = _
  rw [eb]
  show R.frame S (if pures ((lrun bs []).map nW) = true then R.ok (.lst ((lrun bs []).map nW)) (([.lst ((lrun bs []).map nW)] : Store).take 0) else .stuck) = _
  rw [if_pos (pures_nW _)]
  show (if pures ((lrun bs []).map nW) = true then R.ok (W.lst ((lrun bs []).map nW)) S else .stuck) = _
  rw [if_pos (pures_nW _)]
theorem pures1_nl (l : List Nat) : pures [W.lst (l.map nW)] = true := by
  show (pures (l.map nW) && true) = true
  rw [pures_nW] <;> rfl
theorem reduced_ok {d : Nat} {bs : List Nat} {S : Store} (hl : bs.length ≤ 20) : fns T (d + 1) 41 [.lst (bs.map nW)] S = .ok (.lst ((lrun bs []).map nW)) S := reduced_okW hl (pures1_nl bs) rfl
end Lw
namespace Lw
open Mp C63
def rk (f : List Nat) : Nat := (lrun f []).length
theorem lrun_app : ∀ (f g L : List Nat), lrun (f ++ g) L = lrun g (lrun f L)
  | [], g, L => rfl
  | b :: r, g, L => lrun_app r g (if red L b = 0 then L else L ++ [red L b])
theorem lrun_z {b : Nat} {r L : List Nat} (h : red L b = 0) : lrun (b :: r) L = lrun r L := congrArg (lrun r) (if_pos h)
theorem lrun_p {b : Nat} {r L : List Nat} (h : red L b ≠ 0) : lrun (b :: r) L = lrun r (L ++ [red L b]) := congrArg (lrun r) (if_neg h)
theorem lrun_g : ∀ (f : List Nat) {L : List Nat}, Good L → Good (lrun f L)
  | [], L, g => g
  | b :: r, L, g => by
    by_cases h : red L b = 0
    · rw [lrun_z h]
      exact lrun_g r g
    · rw [lrun_p h]
      exact lrun_g r (good_push g h)
theorem sp_app : ∀ (A B : List Nat) (y : Nat), inSp (A ++ B) y ↔ ∃ a, inSp A a ∧ inSp B (y ^^^ a)
  | [], B, y => by
    constructor
    · intro h
      exact ⟨0, rfl, by rw [Nat.xor_zero]; exact h⟩
    · rintro ⟨a, ha, h⟩
      have ha : a = 0 := ha
      subst ha
      rw [Nat.xor_zero] at h
      exact h
  | l :: A, B, y => by
    show (inSp (A ++ B) y ∨ inSp (A ++ B) (y ^^^ l)) ↔ _
    rw [sp_app A B y, sp_app A B (y ^^^ l)]
    constructor
    · rintro (⟨a, ha, h⟩ | ⟨a, ha, h⟩)
      · exact ⟨a, .inl ha, h⟩
      · refine ⟨a ^^^ l, .inr ?_, ?_⟩
        · rw [Nat.xor_assoc, Nat.xor_self, Nat.xor_zero]
          exact ha
        · rw [← Nat.xor_assoc, xor_assoc3]
          exact h
    · rintro ⟨a, ha | ha, h⟩
      · exact .inl ⟨a, ha, h⟩
      · refine .inr ⟨a ^^^ l, ha, ?_⟩
        rw [Nat.xor_comm a l, ← Nat.xor_assoc, Nat.xor_assoc y, Nat.xor_self, Nat.xor_zero]
        exact h
theorem sp_right {A B : List Nat} {y : Nat} (h : inSp B y) : inSp (A ++ B) y := (sp_app A B y).mpr ⟨0, sp_zero A, by rw [Nat.xor_zero]; exact h⟩
theorem sp_mem {A : List Nat} {x : Nat} (h : x ∈ A) : inSp A x := by
  induction A with
  | nil => cases h
  | cons a r ih =>
    rcases List.mem_cons.mp h with e | h
    · subst e
      exact .inr (by rw [Nat.xor_self]; exact sp_zero r)
    · exact .inl (ih h)
theorem sp_lrun : ∀ (f L : List Nat) (y : Nat), inSp (lrun f L) y ↔ inSp (f ++ L) y
  | [], L, y => Iff.rfl
  | b :: r, L, y => by
    show _ ↔ (inSp (r ++ L) y ∨ inSp (r ++ L) (y ^^^ b))
    by_cases h : red L b = 0
    · rw [lrun_z h, sp_lrun r L y]
      have hb : inSp (r ++ L) b := sp_right (by
        have z := sp_red L b
        rw [h, Nat.xor_zero] at z
        exact z)
      constructor
      · exact .inl
      · rintro (z | z)
        · exact z
        · have := sp_xor _ z hb
          rw [Nat.xor_assoc, Nat.xor_self, Nat.xor_zero] at this
          exact this
    · rw [lrun_p h, sp_lrun r _ y, sp_app, sp_app, sp_app]
      constructor
      · rintro ⟨a, ha, z⟩
        rcases (sp_push L b _).mp z with z | z
        · exact .inl ⟨a, ha, z⟩
        · exact .inr ⟨a, ha, by rw [xor_assoc3]; exact z⟩
      · rintro (⟨a, ha, z⟩ | ⟨a, ha, z⟩)
        · exact ⟨a, ha, (sp_push L b _).mpr (.inl z)⟩
        · exact ⟨a, ha, (sp_push L b _).mpr (.inr (by rw [xor_assoc3]; exact z))⟩
theorem sp_rk (f : List Nat) (y : Nat) : inSp (lrun f []) y ↔ inSp f y := by
  rw [sp_lrun f [] y, List.append_nil]
theorem good_nil : Good [] := same_nil.1
theorem red_iff (f : List Nat) (b : Nat) : red (lrun f []) b = 0 ↔ inSp f b := (red_zero (lrun_g f good_nil) b).trans (sp_rk f b)
theorem rk_snoc (f : List Nat) (b : Nat) : (inSp f b → rk (f ++ [b]) = rk f) ∧ (¬ inSp f b → rk (f ++ [b]) = rk f + 1) := by
  unfold rk
  rw [lrun_app]
  constructor
  · intro h
    rw [lrun_z ((red_iff f b).mpr h)] <;> rfl
  · intro h
    rw [lrun_p fun z => h ((red_iff f b).mp z)]
    show (lrun f [] ++ [_]).length = _
    rw [List.length_append] <;> rfl
theorem log_is {x t : Nat} (h : x.testBit t = true) (k : ∀ j, t < j → x.testBit j = false) : x.log2 = t := by
  have hx : x ≠ 0 := fun z => by
    rw [z, Nat.zero_testBit] at h
    cases h
  rcases Nat.lt_trichotomy x.log2 t with z | z | z
  · rw [above z] at h
    cases h
  · exact z
  · have := k _ z
    rw [top_bit hx] at this
    cases this
theorem log_xor {a b : Nat} (hb : b ≠ 0) (h : a.log2 < b.log2) : (a ^^^ b).log2 = b.log2 := by
  refine log_is ?_ fun j hj => ?_
  · rw [Nat.testBit_xor, above h, top_bit hb] <;> rfl
  · rw [Nat.testBit_xor, above hj, above (by omega)] <;> rfl
theorem sp_top : ∀ {L : List Nat}, Good L → ∀ {y : Nat}, inSp L y → y ≠ 0 → y.log2 ∈ L.map Nat.log2
  | [], _, y, h, hy => absurd h hy
  | l :: L, g, y, h, hy => by
    rcases h with h | h
    · exact List.mem_cons_of_mem _ (sp_top g.tail h hy)
    · have hl := g.1 l (List.mem_cons_self ..)
      by_cases hz : y ^^^ l = 0
      · have : y = l := by
          have e : (y ^^^ l) ^^^ l = 0 ^^^ l := by rw [hz]
          rw [Nat.xor_assoc, Nat.xor_self, Nat.xor_zero, Nat.zero_xor] at e
          exact e
        rw [this]
        exact List.mem_cons_self ..
      · have ih := sp_top g.tail h hz
        have nd := good_tops g
        have ne : l.log2 ≠ (y ^^^ l).log2 := fun z => by
          rw [List.map_cons, List.nodup_cons] at nd
          exact nd.1 (z ▸ ih)
        have ey : y = (y ^^^ l) ^^^ l := by rw [Nat.xor_assoc, Nat.xor_self, Nat.xor_zero]
        rcases Nat.lt_or_gt_of_ne ne with z | z
        · have : y.log2 = (y ^^^ l).log2 := by
            conv => lhs; rw [ey, Nat.xor_comm]
            exact log_xor hz z
          rw [this]
          exact List.mem_cons_of_mem _ ih
        · have : y.log2 = l.log2 := by
            conv => lhs; rw [ey]
            exact log_xor hl z
          rw [this]
          exact List.mem_cons_self ..
theorem nodup_le : ∀ (l m : List Nat), l.Nodup → (∀ x ∈ l, x ∈ m) → l.length ≤ m.length
  | [], m, _, _ => Nat.zero_le _
  | x :: l, m, nd, h => by
    rw [List.nodup_cons] at nd
    have hx := h x (List.mem_cons_self ..)
    have ih := nodup_le l (m.erase x) nd.2 fun y hy => (List.mem_erase_of_ne (show y ≠ x from fun z => nd.1 (by rw [← z]; exact hy))).mpr (h y (List.mem_cons_of_mem _ hy))
    rw [List.length_erase_of_mem hx] at ih
    have : 0 < m.length := List.length_pos_of_mem hx
    rw [List.length_cons]
    omega
theorem rk_mono {f g : List Nat} (h : ∀ y, inSp f y → inSp g y) : rk f ≤ rk g := by
  have gf := lrun_g f good_nil
  have gg := lrun_g g good_nil
  have := nodup_le ((lrun f []).map Nat.log2) ((lrun g []).map Nat.log2) (good_tops gf) fun t ht => by
    obtain ⟨l, hl, rfl⟩ := List.mem_map.mp ht
    exact sp_top gg ((sp_rk g l).mpr (h l ((sp_rk f l).mp (sp_mem hl)))) (gf.1 l hl)
  rw [List.length_map, List.length_map] at this
  exact this
theorem rk_len (f : List Nat) : rk f ≤ f.length := by
  have := lrun_len f []
  rw [List.length_nil, Nat.zero_add] at this
  exact this
theorem sp_sub {f g : List Nat} (h : ∀ x ∈ f, inSp g x) : ∀ y, inSp f y → inSp g y := by
  induction f with
  | nil =>
    intro y hy
    have hy : y = 0 := hy
    rw [hy]
    exact sp_zero g
  | cons a r ih =>
    have ih := ih fun x hx => h x (List.mem_cons_of_mem _ hx)
    intro y hy
    rcases hy with hy | hy
    · exact ih y hy
    · have := sp_xor g (ih _ hy) (h a (List.mem_cons_self ..))
      rw [Nat.xor_assoc, Nat.xor_self, Nat.xor_zero] at this
      exact this
theorem rk_few {n : Nat} {f : List Nat} (h : ∀ b ∈ f, b < 2 ^ n) : rk f ≤ n := by
  obtain ⟨g, gl⟩ := lrun_good (n := n) f [] good_nil (fun l hl => by cases hl) h
  exact good_few g gl
def sel (bs p : List Nat) : List Nat := p.map fun k => bs.getD k 0
theorem sel_app (bs p q : List Nat) : sel bs (p ++ q) = sel bs p ++ sel bs q := List.map_append
def Asc (p : List Nat) : Prop := p.Pairwise (· < ·)
theorem asc_snoc {p : List Nat} {s : Nat} (h : Asc p) (k : ∀ x ∈ p, x < s) : Asc (p ++ [s]) := List.pairwise_append.mpr ⟨h, List.pairwise_singleton _ _, fun a ha b hb => by rw [List.mem_singleton.mp hb]; exact k a ha⟩
theorem idxs_prop (bs : List Nat) : ∀ (r pre L F : List Nat), bs = pre ++ r → Asc F → (∀ x ∈ F, x < pre.length) → Good L → (∀ y, inSp (sel bs F) y ↔ inSp L y) → rk (sel bs F) = F.length → F.length = L.length → (∀ j, j < pre.length → j ∉ F → inSp (sel bs (F.filter fun x => decide (x < j))) (bs.getD j 0)) →
    Asc (F ++ idxs r pre.length L) ∧ (∀ x ∈ F ++ idxs r pre.length L, x < bs.length) ∧ rk (sel bs (F ++ idxs r pre.length L)) = (F ++ idxs r pre.length L).length ∧ (F ++ idxs r pre.length L).length = (lrun r L).length ∧ (∀ j, j < bs.length → j ∉ F ++ idxs r pre.length L → inSp (sel bs ((F ++ idxs r pre.length L).filter fun x => decide (x < j))) (bs.getD j 0))
  | [], pre, L, F, hb, h1, h2, h3, h4, h5, h6, h7 => by
    rw [show idxs [] pre.length L = [] from rfl, List.append_nil]
    rw [List.append_nil] at hb
    rw [hb] at h4 h5 h7 ⊢
    exact ⟨h1, h2, h5, h6, h7⟩
  | x :: r, pre, L, F, hb, h1, h2, h3, h4, h5, h6, h7 => by
    have hx : bs.getD pre.length 0 = x := by
      rw [hb, List.getD_eq_getElem?_getD, List.getElem?_append_right (Nat.le_refl _), Nat.sub_self] <;> rfl
    have hb' : bs = (pre ++ [x]) ++ r := by rw [hb, List.append_assoc] <;> rfl
    have hl' : (pre ++ [x]).length = pre.length + 1 := by rw [List.length_append] <;> rfl
    have fil : (F.filter fun z => decide (z < pre.length)) = F := List.filter_eq_self.mpr fun z hz => decide_eq_true (h2 z hz)
    by_cases h : red L x = 0
    · rw [idxs_z h, lrun_z h]
      have sx : inSp (sel bs F) x := (h4 x).mpr ((red_zero h3 x).mp h)
      have := idxs_prop bs r (pre ++ [x]) L F hb' h1 (fun z hz => by have := h2 z hz; omega) h3 h4 h5 h6 (fun j hj hn => by
        by_cases e : j = pre.length
        · subst e
          rw [fil, hx]
          exact sx
        · exact h7 j (by omega) hn)
      rw [hl'] at this
      exact this
    · rw [idxs_p h, lrun_p h]
      have sx : ¬ inSp (sel bs F) x := fun z => h ((red_zero h3 x).mpr ((h4 x).mp z))
      have es : sel bs (F ++ [pre.length]) = sel bs F ++ [x] := by
        rw [sel_app]
        show _ ++ [bs.getD pre.length 0] = _
        rw [hx]
      have := idxs_prop bs r (pre ++ [x]) (L ++ [red L x]) (F ++ [pre.length]) hb' (asc_snoc h1 h2) (fun z hz => by
        rcases List.mem_append.mp hz with q | q
        · have := h2 z q
          omega
        · rw [List.mem_singleton.mp q]
          omega) (good_push h3 h) (fun y => by
        rw [es, sp_push, sp_perm (List.perm_append_comm (l₁ := sel bs F) (l₂ := [x])) y]
        exact or_congr (h4 y) (h4 _)) (by rw [es, (rk_snoc _ _).2 sx, h5, List.length_append] <;> rfl) (by rw [List.length_append, List.length_append, h6] <;> rfl) (fun j hj hn => by
        have n1 : j ∉ F := fun z => hn (List.mem_append_left _ z)
        have n2 : j ≠ pre.length := fun z => hn (List.mem_append_right _ (List.mem_singleton.mpr z))
        rw [List.filter_append, show ([pre.length].filter fun z => decide (z < j)) = [] by
          rw [List.filter_cons, decide_eq_false (by omega)] <;> rfl, List.append_nil]
        exact h7 j (by omega) n1)
      rw [hl', List.append_assoc] at this
      exact this
/-- the least base -/
def gre (bs : List Nat) : List Nat := idxs bs 0 []
theorem gre_prop (bs : List Nat) : Asc (gre bs) ∧ (∀ x ∈ gre bs, x < bs.length) ∧ rk (sel bs (gre bs)) = (gre bs).length ∧ (gre bs).length = rk bs ∧ ∀ j, j < bs.length → j ∉ gre bs → inSp (sel bs ((gre bs).filter fun x => decide (x < j))) (bs.getD j 0) :=
  idxs_prop bs bs [] [] [] rfl List.Pairwise.nil (fun x hx => by cases hx) good_nil (fun y => Iff.rfl) rfl rfl (fun j hj => by cases hj)
/-- rows of places: all of a length, ascending -/
def loP (r : List Nat) : Nat := if 0 < r.length then r.getD (r.length - 1) 0 + 1 else 0
def nxt (m : Nat) (r : List Nat) : List (List Nat) := (List.range (m - loP r)).map fun i => r ++ [loP r + i]
def lv (m : Nat) : Nat → List (List Nat)
  | 0 => [[]]
  | t + 1 => (lv m t).flatMap (nxt m)
def fd (m : Nat) : Nat → List (List Nat)
  | 0 => [[]]
  | t + 1 => fd m t ++ lv m (t + 1)
theorem loP_snoc (r : List Nat) (x : Nat) : loP (r ++ [x]) = x + 1 := by
  unfold loP
  rw [List.length_append, List.length_singleton, if_pos (by omega), List.getD_eq_getElem?_getD, List.getElem?_append_right (by omega), show r.length + 1 - 1 - r.length = 0 by omega] <;> rfl
theorem lo_asc {r : List Nat} {x : Nat} (h : Asc r) : Asc (r ++ [x]) ↔ loP r ≤ x := by
  rcases List.eq_nil_or_concat r with e | ⟨q, y, e⟩
  · subst e
    exact ⟨fun _ => Nat.zero_le _, fun _ => List.pairwise_singleton _ _⟩
  · rw [List.concat_eq_append] at e
    subst e
    rw [loP_snoc]
    constructor
    · intro z
      exact (List.pairwise_append.mp z).2.2 y (List.mem_append_right _ (List.mem_singleton.mpr rfl)) x (List.mem_singleton.mpr rfl)
    · intro z
      refine asc_snoc h fun w hw => ?_
      rcases List.mem_append.mp hw with u | u
      · have := (List.pairwise_append.mp h).2.2 w u y (List.mem_singleton.mpr rfl)
        omega
      · rw [List.mem_singleton.mp u]
        omega
theorem mem_nxt {m : Nat} {r p : List Nat} : p ∈ nxt m r ↔ ∃ x, p = r ++ [x] ∧ loP r ≤ x ∧ x < m := by
  unfold nxt
  rw [List.mem_map]
  constructor
  · rintro ⟨i, hi, rfl⟩
    have := List.mem_range.mp hi
    exact ⟨loP r + i, rfl, by omega, by omega⟩
  · rintro ⟨x, rfl, h1, h2⟩
    exact ⟨x - loP r, List.mem_range.mpr (by omega), by rw [show loP r + (x - loP r) = x by omega]⟩
theorem mem_lv {m : Nat} : ∀ {t : Nat} {p : List Nat}, p ∈ lv m t ↔ p.length = t ∧ Asc p ∧ ∀ x ∈ p, x < m
  | 0, p => by
    constructor
    · intro h
      rw [List.mem_singleton.mp h]
      exact ⟨rfl, List.Pairwise.nil, fun x hx => by cases hx⟩
    · rintro ⟨h, _, _⟩
      rw [List.length_eq_zero_iff.mp h]
      exact List.mem_singleton.mpr rfl
  | t + 1, p => by
    show p ∈ (lv m t).flatMap (nxt m) ↔ _
    rw [List.mem_flatMap]
    constructor
    · rintro ⟨r, hr, hp⟩
      obtain ⟨h1, h2, h3⟩ := mem_lv.mp hr
      obtain ⟨x, rfl, h4, h5⟩ := mem_nxt.mp hp
      refine ⟨by rw [List.length_append, h1] <;> rfl, (lo_asc h2).mpr h4, fun y hy => ?_⟩
      rcases List.mem_append.mp hy with z | z
      · exact h3 y z
      · rw [List.mem_singleton.mp z]
        exact h5
    · rintro ⟨h1, h2, h3⟩
      rcases List.eq_nil_or_concat p with e | ⟨q, y, e⟩
      · subst e
        cases h1
      · rw [List.concat_eq_append] at e
        subst e
        have hq := (List.pairwise_append.mp h2).1
        refine ⟨q, mem_lv.mpr ⟨?_, hq, fun x hx => h3 x (List.mem_append_left _ hx)⟩, mem_nxt.mpr ⟨y, rfl, (lo_asc hq).mp h2, h3 y (List.mem_append_right _ (List.mem_singleton.mpr rfl))⟩⟩
        rw [List.length_append, List.length_singleton] at h1
        omega
/-- ahead, of like lengths -/
def lexlt : List Nat → List Nat → Prop
  | a :: r, b :: s => a < b ∨ (a = b ∧ lexlt r s)
  | _, _ => False
theorem lex_app : ∀ {r s : List Nat}, lexlt r s → ∀ (x y : List Nat), lexlt (r ++ x) (s ++ y)
  | a :: r, b :: s, h, x, y => h.elim .inl fun z => .inr ⟨z.1, lex_app z.2 x y⟩
theorem lex_same : ∀ (r : List Nat) {x y : List Nat}, lexlt x y → lexlt (r ++ x) (r ++ y)
  | [], _, _, h => h
  | _ :: r, _, _, h => .inr ⟨rfl, lex_same r h⟩
theorem lv_lex (m : Nat) : ∀ t, (lv m t).Pairwise lexlt
  | 0 => List.pairwise_singleton _ _
  | t + 1 => by
    have ih := lv_lex m t
    show ((lv m t).flatMap (nxt m)).Pairwise lexlt
    refine List.pairwise_flatMap.mpr ⟨fun r _ => ?_, ih.imp fun {r s} h p hp q hq => ?_⟩
    · unfold nxt
      refine List.pairwise_map.mpr (List.pairwise_lt_range.imp fun {i j} h => lex_same r ?_)
      exact .inl (by omega)
    · obtain ⟨x, rfl, _⟩ := mem_nxt.mp hp
      obtain ⟨y, rfl, _⟩ := mem_nxt.mp hq
      exact lex_app h _ _
theorem lex_irr : ∀ {r : List Nat}, ¬ lexlt r r
  | a :: r, h => h.elim (fun z => by omega) fun z => lex_irr z.2
theorem lv_nodup (m t : Nat) : (lv m t).Nodup := List.Pairwise.imp (fun {a b} h => show a ≠ b from fun e => by rw [e] at h; exact lex_irr h) (lv_lex m t)
def isB (bs : List Nat) (m : Nat) (p : List Nat) : Bool := decide (rk (sel bs p) = m)
/-- the bases, ascending -/
def bss (bs : List Nat) : List (List Nat) := (lv bs.length (rk bs)).filter (isB bs (rk bs))
theorem mem_bss {bs p : List Nat} : p ∈ bss bs ↔ (p.length = rk bs ∧ Asc p ∧ ∀ x ∈ p, x < bs.length) ∧ rk (sel bs p) = rk bs := by
  unfold bss isB
  rw [List.mem_filter, mem_lv, decide_eq_true_eq]
theorem filter_fd (n : Nat) (P : List Nat → Bool) (m : Nat) : ∀ t, ((fd n t).filter fun p => decide (p.length = m) && P p) = if m ≤ t then (lv n m).filter P else []
  | 0 => by
    by_cases h : m = 0
    · subst h
      rw [if_pos (Nat.le_refl _)]
      show ([[]] : List (List Nat)).filter _ = ([[]] : List (List Nat)).filter _
      rw [List.filter_cons, List.filter_cons]
      rfl
    · rw [if_neg (by omega)]
      show ([[]] : List (List Nat)).filter _ = _
      rw [List.filter_cons, decide_eq_false (show ¬ ([] : List Nat).length = m from fun z => h z.symm)]
      rfl
  | t + 1 => by
    show (fd n t ++ lv n (t + 1)).filter _ = _
    rw [List.filter_append, filter_fd n P m t]
    by_cases h : m = t + 1
    · subst h
      rw [if_neg (by omega), if_pos (Nat.le_refl _), List.nil_append]
      refine List.filter_congr fun p hp => ?_
      rw [decide_eq_true (mem_lv.mp hp).1, Bool.true_and]
    · have : (lv n (t + 1)).filter (fun p => decide (p.length = m) && P p) = [] := List.filter_eq_nil_iff.mpr fun p hp => by
        rw [decide_eq_false (show ¬ p.length = m from fun z => h (z.symm.trans (mem_lv.mp hp).1)), Bool.false_and]
        decide
      rw [this, List.append_nil]
      by_cases hm : m ≤ t
      · rw [if_pos hm, if_pos (by omega)]
      · rw [if_neg hm, if_neg (by omega)]
theorem sel_sub {bs p : List Nat} (h : ∀ x ∈ p, x < bs.length) : ∀ x ∈ sel bs p, x ∈ bs := fun x hx => by
  obtain ⟨k, hk, rfl⟩ := List.mem_map.mp hx
  rw [List.getD_eq_getElem?_getD, List.getElem?_eq_getElem (h k hk)]
  exact List.getElem_mem _
theorem asc_nodup {p : List Nat} (h : Asc p) : p.Nodup := h.imp fun z => Nat.ne_of_lt z
def refl (n : Nat) (p : List Nat) : List Nat := (p.map fun k => n - 1 - k).reverse
end Lw
namespace Lw
open Mp C63
theorem two6 {n : Nat} (h6 : n ≤ 6) : 2 ^ n ≤ 64 := by
  have : 2 ^ n ≤ 2 ^ 6 := Nat.pow_le_pow_right (by decide) h6
  simpa using this
theorem checkd_ok {d n : Nat} {S : Store} (h1 : 1 ≤ n) (h6 : n ≤ 6) : fns T (d + 6) 23 [.int n] S = .ok .non S := by
  have : n = 1 ∨ n = 2 ∨ n = 3 ∨ n = 4 ∨ n = 5 ∨ n = 6 := by omega
  rcases this with e | e | e | e | e | e <;> subst e <;> exact fr_any (S0 := []) (S1 := []) rfl rfl
theorem notin_str {n : Nat} {x : Nat} {S : Store} (h1 : 1 ≤ n) (h6 : n ≤ 6) (hx : x < 2 ^ n ∧ x ≠ 0) : ∀ (ys : List Nat), (∀ y ∈ ys, (y < 2 ^ n ∧ y ≠ 0) ∧ y ≠ x) → opIn (dcd n x) (.tup (ys.map (dcd n))) S = some (.bl false) := by
  intro ys h
  have hf : ∀ ys : List Nat, (ys.map (dcd n)).all flat = true := fun ys => List.all_eq_true.mpr fun w hw => by
    obtain ⟨_, _, rfl⟩ := List.mem_map.mp hw
    rfl
  have hi : ∀ ys : List Nat, (∀ y ∈ ys, (y < 2 ^ n ∧ y ≠ 0) ∧ y ≠ x) → inW (dcd n x) (ys.map (dcd n)) = false := fun ys h => by
    refine Bool.eq_false_iff.mpr fun z => ?_
    obtain ⟨w, hw, e⟩ := List.any_eq_true.mp z
    obtain ⟨y, hy, rfl⟩ := List.mem_map.mp hw
    have e : (ds n y == ds n x) = true := e
    have e := beq_iff_eq.mp e
    obtain ⟨⟨a, b⟩, c⟩ := h y hy
    exact c (ds_inj h1 h6 a b hx.1 hx.2 e)
  have e : opIn (dcd n x) (.tup (ys.map (dcd n))) S = (if flat (dcd n x) = true ∧ (ys.map (dcd n)).all flat = true then some (.bl (inW (dcd n x) (ys.map (dcd n)))) else (match lstOf S (.tup (ys.map (dcd n))) with
      | some ys => if okD (dcd n x) 30 = true ∧ okDs ys 29 = true then some (.bl (inW (dcd n x) ys)) else none
      | none => none)) := by
    unfold dcd
    cases ds n x with
    | nil => rfl
    | cons c r => cases r <;> rfl
  rw [e, if_pos ⟨rfl, hf ys⟩, hi ys h]
theorem wrong_loop {d n : Nat} (h1 : 1 ≤ n) (h6 : n ≤ 6) {nw : Option W} {row : List Nat} (hb : ∀ b ∈ row, b < 2 ^ n ∧ b ≠ 0) (nd : row.Nodup) (hl : row.length ≤ 12) : ∀ (bs pre : List Nat) (a b : Option W), row = pre ++ bs →
    ∃ a' b', forL (gTupW (gsCons (gVar 2) (gsCons (gVar 3) (gsNil)))) (p_first_wrong_dotted_1b (fns T (d + 6))) (enumL ((pre.length : Nat) : Int) (bs.map (dcd n))) [some (.int n), some (.tup (row.map (dcd n))), a, b] [] = .nx [some (.int n), some (.tup (row.map (dcd n))), a', b'] []
  | [], pre, a, b, _ => ⟨a, b, rfl⟩
  | x :: r, pre, a, b, hr => by
    have hx := hb x (by rw [hr]; simp)
    have hpre : ∀ y ∈ pre, (y < 2 ^ n ∧ y ≠ 0) ∧ y ≠ x := fun y hy => by
      refine ⟨hb y (by rw [hr]; exact List.mem_append_left _ hy), fun z => ?_⟩
      rw [hr] at nd
      exact (List.nodup_append.mp nd).2.2 y hy x (List.mem_cons_self ..) z
    have hlen : pre.length + (x :: r).length ≤ 12 := by
      rw [← List.length_append, ← hr]
      exact hl
    rw [List.length_cons] at hlen
    obtain ⟨a', b', e⟩ := wrong_loop (d := d) h1 h6 (nw := nw) hb nd hl r (pre ++ [x]) (some (.int pre.length)) (some (dcd n x)) (by rw [hr, List.append_assoc]; rfl)
    refine ⟨a', b', ?_⟩
    have hsl : (mSl (mVar 1) (moNone) (moSome (mVar 2))) [some (.int n), some (.tup (row.map (dcd n))), some (.int pre.length), some (dcd n x)] [] = .ok (.tup (pre.map (dcd n))) [] := by
      show R.ok (W.tup (cutW (row.map (dcd n)) none (some (pre.length : Int)))) [] = _
      rw [cutW_map]
      have : cutW row none (some (pre.length : Int)) = pre := by
        unfold cutW
        show (row.drop 0).take ((if (pre.length : Int) < 0 then ((pre.length : Int) + row.length).toNat else min ((pre.length : Int)).toNat row.length) - 0) = pre
        rw [if_neg (by omega), Int.toNat_natCast, List.drop_zero, Nat.sub_zero, hr, List.length_append, Nat.min_eq_left (by omega), List.take_left']
        rfl
      rw [this]
    have st : p_first_wrong_dotted_1b (fns T (d + 6)) [some (.int n), some (.tup (row.map (dcd n))), some (.int pre.length), some (dcd n x)] [] = .nx [some (.int n), some (.tup (row.map (dcd n))), some (.int pre.length), some (dcd n x)] [] := by
      refine sIf_n ((mTOr_f (S1 := []) (mTCmp_ok (S1 := []) (x := .int pre.length) (y := .int 12) (mVar_ok rfl) rfl ?_)).trans ((mTOr_f (S1 := []) (mTNot_ok (b := true) (mTru_ok (x := .bl true) (mCall_ok (S1 := []) (maCons_ok (S1 := []) (mVar_ok rfl) (maCons_ok (S1 := []) (mVar_ok rfl) rfl)) (dot_ok (d := d) h1 h6 hx.1 hx.2)) rfl))).trans (mTCmp_ok (S1 := []) (mVar_ok rfl) hsl (notin_str h1 h6 hx pre hpre))))
      show some (W.bl ((pre.length : Int) == 12)) = _
      rw [beq_eq_false_iff_ne.mpr (by omega)]
    show forL _ _ (.tup [.int pre.length, dcd n x] :: enumL ((pre.length : Int) + 1) (r.map (dcd n))) _ _ = _
    rw [forL_nx (η1 := [some (.int n), some (.tup (row.map (dcd n))), some (.int pre.length), some (dcd n x)]) (S1 := []) rfl st]
    rw [List.length_append] at e
    exact e
theorem checkr_ok {d n : Nat} {row : List Nat} {S : Store} (h1 : 1 ≤ n) (h6 : n ≤ 6) (hb : ∀ b ∈ row, b < 2 ^ n ∧ b ≠ 0) (nd : row.Nodup) (hl : row.length ≤ 12) : fns T (d + 8) 24 [.int n, .tup (row.map (dcd n))] S = .ok .non S := by
  have hw : ∀ S : Store, fns T (d + 7) 6 [.int n, .tup (row.map (dcd n))] S = .ok .non S := fun S => by
    obtain ⟨a', b', e⟩ := wrong_loop (d := d) h1 h6 (nw := none) hb nd hl row [] none none rfl
    refine fr_ret (η := [some (.int n), some (.tup (row.map (dcd n))), none, none]) (b := b_first_wrong_dotted) (nv := 4) (S' := []) rfl rfl (by show (true && (pures (row.map (dcd n)) && true)) = true; rw [pures_dcd] <;> rfl) rfl ?_ rfl
    unfold b_first_wrong_dotted
    refine (sSeq_nx ((sFor_ok (S1 := []) (xs := enumL ((([] : List Nat).length : Nat) : Int) (row.map (dcd n))) rfl).trans e)).trans rfl
  refine fr_non (η := [some (.int n), some (.tup (row.map (dcd n))), none]) (η' := [some (.int n), some (.tup (row.map (dcd n))), some .non]) (b := b_check_row) (nv := 3) (S' := []) rfl rfl (by show (true && (pures (row.map (dcd n)) && true)) = true; rw [pures_dcd] <;> rfl) rfl ?_
  unfold b_check_row
  refine (sSeq_nx (sDrop_ok (mCall_ok (S1 := []) (maCons_ok (S1 := []) (mVar_ok rfl) rfl) (checkd_ok (d := d + 1) h1 h6)))).trans ?_
  refine (sSeq_nx (sIf_n (S1 := []) (mTNot_ok (b := true) (mTru_ok (x := .bl true) (mUn_ok (S1 := []) (mVar_ok rfl) rfl) rfl)))).trans ?_
  refine (sSeq_nx (η1 := [some (.int n), some (.tup (row.map (dcd n))), some .non]) (S1 := []) ((sSet_ok (mCall_ok (S1 := []) (maCons_ok (S1 := []) (mVar_ok rfl) (maCons_ok (S1 := []) (mVar_ok rfl) rfl)) (hw []))).trans rfl)).trans ?_
  rfl
theorem rankf_ok {d n : Nat} {row : List Nat} {S : Store} (h1 : 1 ≤ n) (h6 : n ≤ 6) (hb : ∀ b ∈ row, b < 2 ^ n ∧ b ≠ 0) (nd : row.Nodup) (hl : row.length ≤ 12) : fns T (d + 9) 29 [.int n, .tup (row.map (dcd n))] S = .ok (nW (lrun row []).length) S := by
  refine fr_ret (η := [some (.int n), some (.tup (row.map (dcd n)))]) (b := b_rank) (nv := 2) (S' := []) rfl rfl (by show (true && (pures (row.map (dcd n)) && true)) = true; rw [pures_dcd] <;> rfl) rfl ?_ rfl
  unfold b_rank
  refine (sSeq_nx (sDrop_ok (mCall_ok (S1 := []) (maCons_ok (S1 := []) (mVar_ok rfl) (maCons_ok (S1 := []) (mVar_ok rfl) rfl)) (checkr_ok (d := d) h1 h6 hb nd hl)))).trans ?_
  exact sRet_ok (mCall_ok (S1 := []) (maCons_ok (S1 := []) (mVar_ok rfl) rfl) (rank_ok (d := d) h1 h6 hb (by omega)))
end Lw
namespace Lw
open C63
/-! parts and their sums -/
def xs : List Nat → Nat
  | [] => 0
  | b :: r => b ^^^ xs r
theorem xs_app (f g : List Nat) : xs (f ++ g) = xs f ^^^ xs g := by
  induction f with
  | nil => exact (Nat.zero_xor _).symm
  | cons a r ih =>
    show a ^^^ xs (r ++ g) = (a ^^^ xs r) ^^^ xs g
    rw [ih, Nat.xor_assoc]
abbrev PN := List (List Nat × Nat)
def ptsA : List Nat → Nat → PN → PN
  | [], _, acc => acc
  | b :: r, i, acc => ptsA r (i + 1) (acc ++ acc.map fun p => (p.1 ++ [i], p.2 ^^^ b))
def pts (bs : List Nat) : PN := ptsA bs 0 [([], 0)]
/-- all parts of the places below i, with their sums -/
structure PtOk (bs : List Nat) (i : Nat) (acc : PN) : Prop where
  mem : ∀ p, p ∈ acc ↔ (Asc p.1 ∧ ∀ x ∈ p.1, x < i) ∧ p.2 = xs (sel bs p.1)
  nd : (acc.map (·.1)).Nodup
  len : acc.length = 2 ^ i
theorem asc_init {q : List Nat} {x : Nat} (h : Asc (q ++ [x])) : Asc q ∧ ∀ y ∈ q, y < x := by
  obtain ⟨h1, _, h2⟩ := List.pairwise_append.mp h
  exact ⟨h1, fun y hy => h2 y hy x (List.mem_singleton.mpr rfl)⟩
theorem pt_step {bs : List Nat} {i : Nat} {acc : PN} (h : PtOk bs i acc) : PtOk bs (i + 1) (acc ++ acc.map fun p => (p.1 ++ [i], p.2 ^^^ bs.getD i 0)) := by
  have ss : ∀ q, xs (sel bs (q ++ [i])) = xs (sel bs q) ^^^ bs.getD i 0 := fun q => by
    rw [sel_app, xs_app]
    show _ ^^^ (bs.getD i 0 ^^^ 0) = _
    rw [Nat.xor_zero]
  refine ⟨fun p => ?_, ?_, ?_⟩
  · rw [List.mem_append, List.mem_map, h.mem]
    constructor
    · rintro (⟨⟨a, b⟩, c⟩ | ⟨q, hq, rfl⟩)
      · exact ⟨⟨a, fun x hx => Nat.lt_succ_of_lt (b x hx)⟩, c⟩
      · obtain ⟨⟨a, b⟩, c⟩ := (h.mem q).mp hq
        refine ⟨⟨asc_snoc a b, fun x hx => ?_⟩, ?_⟩
        · rcases List.mem_append.mp hx with z | z
          · exact Nat.lt_succ_of_lt (b x z)
          · rw [List.mem_singleton.mp z]
            exact Nat.lt_succ_self i
        · show q.2 ^^^ _ = _
          rw [ss, c]
    · rintro ⟨⟨a, b⟩, c⟩
      obtain ⟨p1, p2⟩ := p
      rcases List.eq_nil_or_concat p1 with e | ⟨q, y, e⟩
      · refine .inl ⟨⟨a, fun x hx => ?_⟩, c⟩
        have e : p1 = [] := e
        have hx : x ∈ p1 := hx
        rw [e] at hx
        cases hx
      · rw [List.concat_eq_append] at e
        have e : p1 = q ++ [y] := e
        subst e
        obtain ⟨a1, a2⟩ := asc_init a
        have hy : y < i + 1 := b y (List.mem_append_right _ (List.mem_singleton.mpr rfl))
        by_cases hyi : y = i
        · subst hyi
          refine .inr ⟨(q, xs (sel bs q)), (h.mem _).mpr ⟨⟨a1, a2⟩, rfl⟩, ?_⟩
          have c : p2 = xs (sel bs (q ++ [y])) := c
          rw [c, ss]
        · refine .inl ⟨⟨a, fun x hx => ?_⟩, c⟩
          rcases List.mem_append.mp hx with z | z
          · have := a2 x z
            omega
          · rw [List.mem_singleton.mp z]
            omega
  · rw [List.map_append, List.nodup_append]
    refine ⟨h.nd, ?_, fun a ha b hb e => ?_⟩
    · rw [List.map_map]
      have e : (acc.map ((fun p : List Nat × Nat => p.1) ∘ fun p => (p.1 ++ [i], p.2 ^^^ bs.getD i 0))) = (acc.map (·.1)).map fun q => q ++ [i] := by rw [List.map_map] <;> rfl
      rw [e]
      exact List.Pairwise.map _ (fun a b hne e => hne (List.append_cancel_right e)) h.nd
    · obtain ⟨p, hp, rfl⟩ := List.mem_map.mp ha
      rw [List.map_map] at hb
      obtain ⟨q, hq, rfl⟩ := List.mem_map.mp hb
      have e : p.1 = q.1 ++ [i] := e
      have := ((h.mem p).mp hp).1.2 i (by rw [e]; exact List.mem_append_right _ (List.mem_singleton.mpr rfl))
      omega
  · rw [List.length_append, List.length_map, h.len, Nat.pow_succ]
    omega
theorem pt_run {bs : List Nat} : ∀ (r : List Nat) (i : Nat) (acc : PN), bs.drop i = r → PtOk bs i acc → PtOk bs (i + r.length) (ptsA r i acc)
  | [], i, acc, _, h => h
  | b :: r, i, acc, e, h => by
    have hb : bs.getD i 0 = b := by
      rw [List.getD_eq_getElem?_getD, ← List.head?_drop, e] <;> rfl
    have e' : bs.drop (i + 1) = r := by rw [← List.drop_drop, e] <;> rfl
    have s := pt_step h
    rw [hb] at s
    have := pt_run r (i + 1) _ e' s
    rw [List.length_cons, show i + (r.length + 1) = i + 1 + r.length by omega]
    exact this
theorem pts_ok (bs : List Nat) : PtOk bs bs.length (pts bs) := by
  have := pt_run (bs := bs) bs 0 [([], 0)] rfl ⟨fun p => ?_, by simp, rfl⟩
  · rw [Nat.zero_add] at this
    exact this
  · rw [List.mem_singleton]
    constructor
    · rintro rfl
      exact ⟨⟨List.Pairwise.nil, fun x hx => by cases hx⟩, rfl⟩
    · rintro ⟨⟨a, b⟩, c⟩
      obtain ⟨p1, p2⟩ := p
      cases p1 with
      | nil =>
        have c : p2 = 0 := c
        rw [c]
      | cons x r => exact absurd (b x (List.mem_cons_self ..)) (by omega)
/-- all parts, by their length, then ascending -/
theorem mem_fd {n : Nat} : ∀ {t : Nat} {p : List Nat}, p ∈ fd n t ↔ p.length ≤ t ∧ Asc p ∧ ∀ x ∈ p, x < n
  | 0, p => by
    constructor
    · intro h
      rw [List.mem_singleton.mp h]
      exact ⟨Nat.le_refl _, List.Pairwise.nil, fun x hx => by cases hx⟩
    · rintro ⟨a, _, _⟩
      have e : p = [] := List.length_eq_zero_iff.mp (by omega)
      rw [e]
      exact List.mem_singleton.mpr rfl
  | t + 1, p => by
    show p ∈ fd n t ++ lv n (t + 1) ↔ _
    rw [List.mem_append, mem_fd, mem_lv]
    constructor
    · rintro (⟨a, b⟩ | ⟨a, b⟩)
      · exact ⟨by omega, b⟩
      · exact ⟨by omega, b⟩
    · rintro ⟨a, b⟩
      by_cases h : p.length = t + 1
      · exact .inr ⟨h, b⟩
      · exact .inl ⟨by omega, b⟩
theorem asc_len {n : Nat} {p : List Nat} (h : Asc p) (k : ∀ x ∈ p, x < n) : p.length ≤ n := by
  have := nodup_le p (List.range n) (asc_nodup h) fun x hx => List.mem_range.mpr (k x hx)
  rwa [List.length_range] at this
theorem mem_fdn {n : Nat} {p : List Nat} : p ∈ fd n n ↔ Asc p ∧ ∀ x ∈ p, x < n := by
  rw [mem_fd]
  exact ⟨fun h => h.2, fun h => ⟨asc_len h.1 h.2, h⟩⟩
/-- by length, then ascending -/
def lenlex (p q : List Nat) : Prop := p.length < q.length ∨ (p.length = q.length ∧ lexlt p q)
theorem fd_sorted (n : Nat) : ∀ t, (fd n t).Pairwise lenlex
  | 0 => List.pairwise_singleton _ _
  | t + 1 => by
    show (fd n t ++ lv n (t + 1)).Pairwise lenlex
    refine List.pairwise_append.mpr ⟨fd_sorted n t, List.Pairwise.imp_of_mem (fun {a b} ha hb h => .inr ⟨(mem_lv.mp ha).1.trans (mem_lv.mp hb).1.symm, h⟩) (lv_lex n (t + 1)), fun a ha b hb => ?_⟩
    have := (mem_fd.mp ha).1
    have := (mem_lv.mp hb).1
    exact .inl (by omega)
theorem lenlex_irr {p : List Nat} : ¬ lenlex p p := fun h => h.elim (fun z => by omega) fun z => lex_irr z.2
theorem fd_nodup (n t : Nat) : (fd n t).Nodup := List.Pairwise.imp (fun {a b} h => show a ≠ b from fun e => by rw [e] at h; exact lenlex_irr h) (fd_sorted n t)
/-- parts with a sum -/
def wth (bs : List Nat) (y : Nat) : List (List Nat) := (fd bs.length bs.length).filter fun p => decide (xs (sel bs p) = y)
theorem mem_wth {bs : List Nat} {y : Nat} {p : List Nat} : p ∈ wth bs y ↔ (Asc p ∧ ∀ x ∈ p, x < bs.length) ∧ xs (sel bs p) = y := by
  unfold wth
  rw [List.mem_filter, mem_fdn, decide_eq_true_eq]
theorem wth_perm (bs : List Nat) (y : Nat) : (((pts bs).filter fun p => decide (p.2 = y)).map (·.1)).Perm (wth bs y) := by
  have h := pts_ok bs
  refine (List.perm_ext_iff_of_nodup ?_ ((fd_nodup _ _).filter _)).mpr fun p => ?_
  · exact List.Nodup.sublist (List.Sublist.map _ (List.filter_sublist)) h.nd
  · show p ∈ _ ↔ p ∈ wth bs y
    rw [mem_wth, List.mem_map]
    constructor
    · rintro ⟨q, hq, rfl⟩
      rw [List.mem_filter, decide_eq_true_eq] at hq
      obtain ⟨a, b⟩ := (h.mem q).mp hq.1
      exact ⟨a, b.symm.trans hq.2⟩
    · rintro ⟨a, b⟩
      exact ⟨(p, y), List.mem_filter.mpr ⟨(h.mem _).mpr ⟨a, b.symm⟩, decide_eq_true rfl⟩, rfl⟩
/-- how many parts have a sum -/
def cnt (bs : List Nat) (y : Nat) : Nat := (pts bs).countP fun p => decide (p.2 = y)
theorem ptsA_snoc (b : Nat) : ∀ (r : List Nat) (i : Nat) (acc : PN), ptsA (r ++ [b]) i acc = ptsA r i acc ++ (ptsA r i acc).map fun p => (p.1 ++ [i + r.length], p.2 ^^^ b)
  | [], i, acc => rfl
  | a :: r, i, acc => by
    show ptsA (r ++ [b]) (i + 1) _ = _
    rw [ptsA_snoc b r (i + 1)]
    show _ = ptsA r (i + 1) _ ++ (ptsA r (i + 1) _).map fun p => (p.1 ++ [i + (r.length + 1)], p.2 ^^^ b)
    rw [show i + (r.length + 1) = i + 1 + r.length by omega]
theorem cnt_snoc (f : List Nat) (b y : Nat) : cnt (f ++ [b]) y = cnt f y + cnt f (y ^^^ b) := by
  unfold cnt pts
  rw [ptsA_snoc, List.countP_append, List.countP_map]
  congr 1
  refine List.countP_congr fun p _ => ?_
  show decide (p.2 ^^^ b = y) = true ↔ decide (p.2 = y ^^^ b) = true
  rw [decide_eq_true_eq, decide_eq_true_eq]
  constructor
  · rintro rfl
    rw [Nat.xor_assoc, Nat.xor_self, Nat.xor_zero]
  · rintro h
    rw [h, Nat.xor_assoc, Nat.xor_self, Nat.xor_zero]
theorem sp_snoc (f : List Nat) (b y : Nat) : inSp (f ++ [b]) y ↔ inSp f y ∨ inSp f (y ^^^ b) := sp_perm (List.perm_append_comm (l₁ := f) (l₂ := [b])) y
theorem cnt_is (f : List Nat) : ∀ y, (inSp f y → cnt f y = 2 ^ (f.length - rk f)) ∧ (¬ inSp f y → cnt f y = 0) := by
  have main : ∀ r : List Nat, ∀ y, (inSp r.reverse y → cnt r.reverse y = 2 ^ (r.reverse.length - rk r.reverse)) ∧ (¬ inSp r.reverse y → cnt r.reverse y = 0) := by
    intro r
    induction r with
    | nil =>
      intro y
      show (y = 0 → cnt [] y = 1) ∧ (¬ y = 0 → cnt [] y = 0)
      have e : cnt [] y = if (0 : Nat) = y then 1 else 0 := by
        unfold cnt pts ptsA
        rw [List.countP_cons, List.countP_nil]
        by_cases h : (0 : Nat) = y
        · rw [if_pos (decide_eq_true h), if_pos h]
        · rw [if_neg (by simpa using h), if_neg h]
      rw [e]
      exact ⟨fun h => if_pos h.symm, fun h => if_neg fun z => h z.symm⟩
    | cons b r ih =>
      intro y
      rw [List.reverse_cons]
      generalize hf : r.reverse = f at *
      have len : (f ++ [b]).length = f.length + 1 := by rw [List.length_append] <;> rfl
      have rl := rk_len f
      rw [cnt_snoc, sp_snoc, len]
      obtain ⟨k1, k2⟩ := rk_snoc f b
      by_cases hb : inSp f b
      · rw [k1 hb]
        have iff : inSp f (y ^^^ b) ↔ inSp f y := ⟨fun h => by
          have := sp_xor f h hb
          rwa [Nat.xor_assoc, Nat.xor_self, Nat.xor_zero] at this, fun h => sp_xor f h hb⟩
        constructor
        · intro h
          have hy : inSp f y := h.elim id iff.mp
          rw [(ih y).1 hy, (ih _).1 (iff.mpr hy), show f.length + 1 - rk f = (f.length - rk f) + 1 by omega, Nat.pow_succ]
          omega
        · intro h
          rw [(ih y).2 fun z => h (.inl z), (ih _).2 fun z => h (.inr z)]
      · rw [k2 hb]
        have no : inSp f y → ¬ inSp f (y ^^^ b) := fun h1 h2 => hb (by
          have := sp_xor f h1 h2
          rwa [← Nat.xor_assoc, Nat.xor_self, Nat.zero_xor] at this)
        constructor
        · intro h
          rw [show f.length + 1 - (rk f + 1) = f.length - rk f by omega]
          rcases h with h | h
          · rw [(ih y).1 h, (ih _).2 (no h)]
            rfl
          · rw [(ih _).1 h, (ih y).2 fun z => no z h, Nat.zero_add]
        · intro h
          rw [(ih y).2 fun z => h (.inl z), (ih _).2 fun z => h (.inr z)]
  intro y
  have := main f.reverse y
  rw [List.reverse_reverse] at this
  exact this
theorem wth_len (bs : List Nat) (y : Nat) : (wth bs y).length = cnt bs y := by
  rw [← (wth_perm bs y).length_eq, List.length_map, ← List.countP_eq_length_filter] <;> rfl
/-- the lots: the parts of the sum 0 but the first -/
theorem wth_zero (bs : List Nat) : ∃ r, wth bs 0 = [] :: r ∧ ∀ p ∈ r, 0 < p.length := by
  have hm : ([] : List Nat) ∈ wth bs 0 := mem_wth.mpr ⟨⟨List.Pairwise.nil, fun x hx => by cases hx⟩, rfl⟩
  have hp : (wth bs 0).Pairwise lenlex := (fd_sorted _ _).filter _
  cases e : wth bs 0 with
  | nil =>
    rw [e] at hm
    cases hm
  | cons q r =>
    rw [e] at hm hp
    have hq : q = [] := by
      rcases List.mem_cons.mp hm with z | z
      · exact z.symm
      · exfalso
        rcases List.rel_of_pairwise_cons hp z with u | ⟨u, v⟩
        · simp at u
        · cases q with
          | nil => exact v
          | cons _ _ => cases u
    subst hq
    refine ⟨r, rfl, fun p hpp => ?_⟩
    rcases List.rel_of_pairwise_cons hp hpp with u | ⟨u, v⟩
    · exact u
    · exact v.elim
def lots (bs : List Nat) : List (List Nat) := (wth bs 0).tail
theorem wth_lots (bs : List Nat) : wth bs 0 = [] :: lots bs ∧ ∀ p ∈ lots bs, 0 < p.length := by
  obtain ⟨r, e, h⟩ := wth_zero bs
  unfold lots
  rw [e]
  exact ⟨rfl, h⟩
theorem mem_lots {bs p : List Nat} : p ∈ lots bs ↔ ((Asc p ∧ ∀ x ∈ p, x < bs.length) ∧ xs (sel bs p) = 0) ∧ 0 < p.length := by
  obtain ⟨e, h⟩ := wth_lots bs
  have hm : p ∈ wth bs 0 ↔ _ := mem_wth
  rw [e, List.mem_cons] at hm
  constructor
  · intro hp
    exact ⟨hm.mp (.inr hp), h p hp⟩
  · rintro ⟨a, b⟩
    rcases hm.mpr a with z | z
    · rw [z] at b
      cases b
    · exact z
theorem lots_len (bs : List Nat) : (lots bs).length = 2 ^ (bs.length - rk bs) - 1 := by
  have e := congrArg List.length (wth_lots bs).1
  rw [wth_len, (cnt_is bs 0).1 (sp_zero bs), List.length_cons] at e
  omega
theorem lots_nil {bs : List Nat} : lots bs = [] ↔ rk bs = bs.length := by
  have hl := lots_len bs
  have rl := rk_len bs
  constructor
  · intro h
    rw [h] at hl
    have hl : 0 = 2 ^ (bs.length - rk bs) - 1 := hl
    have : bs.length - rk bs = 0 := by
      cases z : bs.length - rk bs with
      | zero => rfl
      | succ k =>
        rw [z, Nat.pow_succ] at hl
        have := Nat.pow_pos (n := k) (show 0 < 2 by decide)
        omega
    omega
  · intro h
    rw [h, Nat.sub_self] at hl
    exact List.length_eq_zero_iff.mp hl
end Lw
namespace Lw
open Mp C63
theorem comp_flt {it : MI} {own : List Nat} {g : MG} {t : MT} {e : ME} {η : Env} {S : Store} {α : Type} {u v : α → W} {P : α → Bool} {l : List α} (hi : it η S = .ok (l.map u) S) (h : ∀ i, i ∈ l → ∃ η1, g (u i) (wipeE η own) S = some (η1, S) ∧ t η1 S = .ok (P i) S ∧ (P i = true → e η1 S = .ok (v i) S)) (hl : l.length ≤ bigLine) : mComp it own g t e η S = .ok (.lst ((l.filter P).map v)) S := by
  unfold mComp
  rw [hi]
  show (noexc (compL g t e (wipeE η own) (l.map u) S [])).bind (fun ws S2 => R.ok (W.lst ws) S2) = _
  have key : ∀ (xs : List α) (acc : List W), (∀ i, i ∈ xs → ∃ η1, g (u i) (wipeE η own) S = some (η1, S) ∧ t η1 S = .ok (P i) S ∧ (P i = true → e η1 S = .ok (v i) S)) → acc.length + xs.length ≤ bigLine → compL g t e (wipeE η own) (xs.map u) S acc = .ok (acc ++ (xs.filter P).map v) S := by
    intro xs
    induction xs with
    | nil =>
      intro acc _ _
      show R.ok acc S = _
      rw [List.filter_nil, List.map_nil, List.append_nil]
    | cons x r ih =>
      intro acc h hl
      rw [List.length_cons] at hl
      obtain ⟨η1, h1, h2, h3⟩ := h x (List.mem_cons_self ..)
      have h' : ∀ i, i ∈ r → ∃ η1, g (u i) (wipeE η own) S = some (η1, S) ∧ t η1 S = .ok (P i) S ∧ (P i = true → e η1 S = .ok (v i) S) := fun y hy => h y (List.mem_cons_of_mem _ hy)
      rw [List.map_cons]
      unfold compL
      cases hp : P x with
      | true =>
        rw [hp] at h2
        simp only [h1, h2, h3 hp, R.bind]
        rw [if_pos True.intro]
        unfold sized
        rw [if_pos (by omega), ih (acc ++ [v x]) h' (by rw [List.length_append, List.length_singleton]; omega), List.append_assoc, List.filter_cons, if_pos hp] <;> rfl
      | false =>
        rw [hp] at h2
        simp only [h1, h2, R.bind]
        rw [if_neg (by decide), ih acc h' (by omega), List.filter_cons, if_neg (by rw [hp]; decide)]
  rw [key l [] h (by simpa using hl), List.nil_append] <;> rfl
theorem all_true {S : Store} : ∀ xs : List W, baAll [.lst (xs.map fun _ => W.bl true)] S = some (.bl true)
  | xs => by
    have h : bls (xs.map fun _ => W.bl true) = some (xs.map fun _ => true) := by
      induction xs with
      | nil => rfl
      | cons x r ih =>
        show (bls (r.map fun _ => W.bl true)).map (true :: ·) = _
        rw [ih] <;> rfl
    show (bls (xs.map fun _ => W.bl true)).map (fun bs => W.bl (bs.all id)) = _
    rw [h]
    show some (W.bl ((xs.map fun _ => true).all id)) = _
    have e : (xs.map fun _ => true).all id = true := List.all_eq_true.mpr fun x hx => by
      obtain ⟨_, _, rfl⟩ := List.mem_map.mp hx
      rfl
    rw [e]
theorem all_trues {S : Store} {α : Type} (l : List α) : baAll [.lst (l.map fun _ => W.bl true)] S = some (.bl true) := by
  have := all_true (S := S) (l.map fun _ => W.non)
  rw [List.map_map] at this
  exact this
theorem atW_get {xs : List W} {a : Nat} (h : a < xs.length) : atW xs (a : Int) = some xs[a] := by
  unfold atW ixW
  rw [if_pos (by omega), if_pos (by omega)]
  show xs[((a : Int)).toNat]? = _
  rw [Int.toNat_natCast, List.getElem?_eq_getElem h]
theorem atW_f {α : Type} (f : α → W) (z : α) {l : List α} {a : Nat} (h : a < l.length) : atW (l.map f) (a : Int) = some (f (l.getD a z)) := by
  rw [atW_get (by rw [List.length_map]; exact h), List.getElem_map, List.getD_eq_getElem?_getD, List.getElem?_eq_getElem h] <;> rfl
theorem rangeW_nat (n : Nat) : rangeW 0 n = (List.range n).map nW := by
  unfold rangeW
  exact List.map_congr_left fun i _ => by show W.int (0 + (i : Int)) = W.int (i : Int); rw [Int.zero_add]
/-! same -/
theorem same_int {d : Nat} {a : Int} {S : Store} : fns T (d + 1) 36 [.int a, .int a] S = .ok (.bl true) S := by
  refine fr_ret (η := [some (.int a), some (.int a), none]) (b := b_law_same) (nv := 3) (S' := []) rfl rfl rfl rfl ?_ rfl
  have e : b_law_same (fns T d) [some (.int a), some (.int a), none] [] = .ret (.bl (a == a)) [] := rfl
  rw [e, beq_self_eq_true]
theorem pures2 {w : W} (h : w.pure = true) : pures [w, w] = true := by
  show (w.pure && (w.pure && true)) = true
  rw [h] <;> rfl
theorem same_tup {d : Nat} {ws : List W} {S : Store} (h : ∀ w ∈ ws, fns T d 36 [w, w] [] = .ok (.bl true) []) (hp : pures ws = true) (hl : ws.length < 1000000) : fns T (d + 1) 36 [.tup ws, .tup ws] S = .ok (.bl true) S := by
  refine fr_ret (η := [some (.tup ws), some (.tup ws), none]) (b := b_law_same) (nv := 3) (S' := []) rfl rfl (pures2 hp) rfl ?_ rfl
  unfold b_law_same
  refine sSeq_ret ?_
  rw [sIf_t (S1 := []) (mTru_ok (S1 := []) (x := .bl true) (mUn_ok (S1 := []) (mVar_ok rfl) rfl) rfl)]
  have el : (mBin opEq (mBi baLen (maCons (mVar 0) (maNil))) (mBi baLen (maCons (mVar 1) (maNil)))) [some (.tup ws), some (.tup ws), none] [] = .ok (.bl true) [] := by
    have e : (mBin opEq (mBi baLen (maCons (mVar 0) (maNil))) (mBi baLen (maCons (mVar 1) (maNil)))) [some (.tup ws), some (.tup ws), none] [] = .ok (.bl ((ws.length : Int) == (ws.length : Int))) [] := rfl
    rw [e, beq_self_eq_true]
  refine sRet_ok ((mAnd_t (S1 := []) (x := .bl true) (mUn_ok (S1 := []) (mVar_ok rfl) rfl) rfl).trans ((mAnd_t el rfl).trans ?_))
  refine mBi1_ok (x := .lst ((List.range ws.length).map fun _ => W.bl true)) (S1 := []) (comp_gen (u := nW) ?_ ?_ ?_) (all_trues _)
  · rw [← rangeW_nat]
    exact miRng_ok (ws := [.int (ws.length : Int)]) (maCons_ok (S1 := []) (mBi1_ok (S1 := []) (x := .tup ws) (mVar_ok rfl) rfl) rfl) (rng1_nat hl)
  · intro t ht
    have ht := List.mem_range.mp ht
    have hix : ∀ k : Nat, k < 2 → (mBin opIx (mVar k) (mVar 2)) [some (.tup ws), some (.tup ws), some (nW t)] [] = .ok ws[t] [] := by
      intro k hk
      refine mBin_ok (S1 := []) (x := .tup ws) (y := .int (t : Int)) ?_ (mVar_ok rfl) (atW_get ht)
      match k, hk with
      | 0, _ => rfl
      | 1, _ => rfl
    exact ⟨_, rfl, rfl, mCall_ok (S1 := []) (maCons_ok (S1 := []) (hix 0 (by decide)) (maCons_ok (S1 := []) (hix 1 (by decide)) rfl)) (h _ (List.getElem_mem ht))⟩
  · rw [List.length_range]
    unfold bigLine
    omega
def tW (r : List Nat) : W := .tup (r.map nW)
theorem pures_tW : ∀ rs : List (List Nat), pures (rs.map tW) = true
  | [] => rfl
  | r :: rs => by
    show ((tW r).pure && pures (rs.map tW)) = true
    rw [pures_tW rs, show (tW r).pure = true from pures_nW r]
    rfl
/-! the rows of places as combinations -/
def eqL : List (List Nat) → List (List Nat) → Bool := fun a b => decide (a = b)
def combOk (n k : Nat) : Bool := match combAll n k with
  | some l => decide (l = lv n k)
  | none => false
theorem c_comb : (List.range 13).all (fun n => (List.range 7).all fun k => decide (n < k) || combOk n k) = true := by decide +kernel
theorem comb_lv {n k : Nat} (h : n ≤ 12) (hk : k ≤ 6) (hn : k ≤ n) : combAll n k = some (lv n k) := by
  have z := List.all_eq_true.mp (List.all_eq_true.mp c_comb n (List.mem_range.mpr (by omega))) k (List.mem_range.mpr (by omega))
  rw [decide_eq_false (by omega), Bool.false_or] at z
  unfold combOk at z
  split at z
  · rename_i l e
    rw [e, of_decide_eq_true z]
  · cases z
def lvOk (n t : Nat) : Bool := decide ((lv n t).length ≤ 1000) && decide ((fd n t).length ≤ 5000)
theorem c_lv : (List.range 13).all (fun n => (List.range 13).all fun t => lvOk n t) = true := by decide +kernel
theorem lv_short {n t : Nat} (h : n ≤ 12) (ht : t ≤ 12) : (lv n t).length ≤ 1000 ∧ (fd n t).length ≤ 5000 := by
  have z := List.all_eq_true.mp (List.all_eq_true.mp c_lv n (List.mem_range.mpr (by omega))) t (List.mem_range.mpr (by omega))
  unfold lvOk at z
  rw [Bool.and_eq_true, decide_eq_true_eq, decide_eq_true_eq] at z
  exact z
theorem combR_ok {f g : ME} {η : Env} {S S1 S2 : Store} {n k : Nat} (hf : f η S = .ok (nW n) S1) (hg : g η S1 = .ok (nW k) S2) (h : n ≤ 12) (hk : k ≤ 6) (hn : k ≤ n) : miCombR f g η S = .ok ((lv n k).map tW) S2 := by
  unfold miCombR
  rw [hf]
  show (match nW n with
    | .int n => (g η S1).bind fun y S2 => (match y with
      | .int r => if 0 ≤ n ∧ n ≤ 1000000 ∧ 0 ≤ r ∧ r ≤ 1048576 then rOpt ((combAll n.toNat r.toNat).map fun (l : List (List Nat)) => l.map fun (idx : List Nat) => W.tup (idx.map fun i => (rangeW 0 n.toNat).getD i .non)) S2 else .stuck
      | _ => .stuck)
    | _ => .stuck) = _
  rw [hg]
  show (if 0 ≤ (n : Int) ∧ (n : Int) ≤ 1000000 ∧ 0 ≤ (k : Int) ∧ (k : Int) ≤ 1048576 then rOpt ((combAll ((n : Int)).toNat ((k : Int)).toNat).map fun (l : List (List Nat)) => l.map fun (idx : List Nat) => W.tup (idx.map fun i => (rangeW 0 ((n : Int)).toNat).getD i .non)) S2 else .stuck) = _
  rw [if_pos (by omega), Int.toNat_natCast, Int.toNat_natCast, comb_lv h hk hn]
  show R.ok ((lv n k).map fun (idx : List Nat) => W.tup (idx.map fun i => (rangeW 0 n).getD i .non)) S2 = _
  rw [List.map_congr_left fun idx hi => ?_]
  have hx := (mem_lv.mp hi).2.2
  show W.tup _ = W.tup _
  rw [List.map_congr_left fun i hh => ?_]
  have := hx i hh
  rw [rangeW_nat, List.getD_eq_getElem?_getD, List.getElem?_map, List.getElem?_eq_getElem (by rw [List.length_range]; exact this), List.getElem_range] <;> rfl
/-! the program's bases -/
theorem sel_ok {n : Nat} {bs p : List Nat} {it : MI} {own : List Nat} {g : MG} {e : ME} {η : Env} {S : Store} (hi : it η S = .ok (p.map nW) S) (hp : ∀ x ∈ p, x < bs.length) (h : ∀ k, k ∈ p → ∃ η1, g (nW k) (wipeE η own) S = some (η1, S) ∧ (atW (bs.map (dcd n)) (k : Int) = some (dcd n (bs.getD k 0)) → e η1 S = .ok (dcd n (bs.getD k 0)) S)) (hl : p.length ≤ 1000) : mComp it own g mtYes e η S = .ok (.lst ((sel bs p).map (dcd n))) S := by
  unfold sel
  rw [List.map_map]
  refine comp_gen (u := nW) hi (fun k hk => ?_) (by unfold bigLine; omega)
  obtain ⟨η1, a, b⟩ := h k hk
  exact ⟨η1, a, rfl, b (atW_f (dcd n) 0 (hp k hk))⟩
theorem bby_loop {d n m : Nat} {bs : List Nat} (h1 : 1 ≤ n) (h6 : n ≤ 6) (hb : ∀ b ∈ bs, b < 2 ^ n ∧ b ≠ 0) (hm : m ≤ 12) : ∀ (ps acc : List (List Nat)) (w3 w4 : Option W), (∀ p ∈ ps, p.length = m ∧ ∀ x ∈ p, x < bs.length) → acc.length + ps.length ≤ 100000 →
    ∃ w3', forL (gVar 3) (p_bases_by_3b (fns T (d + 8 + 1))) (ps.map tW) [some (.tup (bs.map (dcd n))), some (.ref 0), some (nW m), w3, w4] [.lst (acc.map tW)] = .nx [some (.tup (bs.map (dcd n))), some (.ref 0), some (nW m), w3', w4] [.lst ((acc ++ ps.filter (isB bs m)).map tW)]
  | [], acc, w3, w4, _, _ => ⟨w3, by rw [List.filter_nil, List.append_nil] <;> rfl⟩
  | p :: ps, acc, w3, w4, h, hl => by
    rw [List.length_cons] at hl
    obtain ⟨pl, px⟩ := h p (List.mem_cons_self ..)
    have h' : ∀ p ∈ ps, p.length = m ∧ ∀ x ∈ p, x < bs.length := fun q hq => h q (List.mem_cons_of_mem _ hq)
    have hs : ∀ b ∈ sel bs p, b < 2 ^ n ∧ b ≠ 0 := fun b hbb => hb b (sel_sub px b hbb)
    have hsl : (sel bs p).length = p.length := List.length_map _
    have ec : (mComp (miSeq (mVar 3)) [4] (gVar 4) (mtYes) (mBin opIx (mVar 0) (mVar 4))) [some (.tup (bs.map (dcd n))), some (.ref 0), some (nW m), some (tW p), w4] [.lst (acc.map tW)] = .ok (.lst ((sel bs p).map (dcd n))) [.lst (acc.map tW)] :=
      sel_ok rfl px (fun k hk => ⟨[some (.tup (bs.map (dcd n))), some (.ref 0), some (nW m), some (tW p), some (nW k)], rfl, fun e => mBin_ok (x := .tup (bs.map (dcd n))) (y := .int (k : Int)) (mVar_ok rfl) (mVar_ok rfl) e⟩) (by omega)
    have et : (mTCmp opEq (mCall (fns T (d + 8 + 1)) 19 (maCons (mComp (miSeq (mVar 3)) [4] (gVar 4) (mtYes) (mBin opIx (mVar 0) (mVar 4))) (maNil))) (mVar 2)) [some (.tup (bs.map (dcd n))), some (.ref 0), some (nW m), some (tW p), w4] [.lst (acc.map tW)] = .ok (isB bs m p) [.lst (acc.map tW)] := by
      refine mTCmp_ok (mCall_ok (maCons_ok ec maNil_ok) (rank_okL (d := d + 1) h1 h6 hs (by omega))) (mVar_ok rfl) ?_
      show some (W.bl (((lrun (sel bs p) []).length : Int) == (m : Int))) = _
      unfold isB rk
      by_cases e : (lrun (sel bs p) []).length = m
      · rw [decide_eq_true e, beq_iff_eq.mpr (by omega)]
      · rw [decide_eq_false e, beq_eq_false_iff_ne.mpr (by omega)]
    cases hi : isB bs m p with
    | true =>
      rw [hi] at et
      obtain ⟨w3', e⟩ := bby_loop (d := d) h1 h6 hb hm ps (acc ++ [p]) (some (tW p)) w4 h' (by rw [List.length_append, List.length_singleton]; omega)
      refine ⟨w3', ?_⟩
      have ap : (mMeth 5 omAppend (mVar 1) (maCons (mVar 3) (maNil))) [some (.tup (bs.map (dcd n))), some (.ref 0), some (nW m), some (tW p), w4] [.lst (acc.map tW)] = .ok .non [.lst ((acc ++ [p]).map tW)] := by
        refine mMeth_ok (x := .ref 0) (S1 := [.lst (acc.map tW)]) (S2 := [.lst (acc.map tW)]) (ws := [tW p]) (mVar_ok rfl) rfl (maCons_ok (mVar_ok rfl) maNil_ok) ?_
        show (if (tW p).pure = true ∧ (acc.map tW).length + 1 ≤ bigLine then some (W.non, ([.lst (acc.map tW)] : Store).set 0 (.lst (acc.map tW ++ [tW p]))) else none) = _
        rw [if_pos ⟨pures_nW p, by rw [List.length_map]; unfold bigLine; omega⟩, List.map_append]
        rfl
      have st : p_bases_by_3b (fns T (d + 8 + 1)) [some (.tup (bs.map (dcd n))), some (.ref 0), some (nW m), some (tW p), w4] [.lst (acc.map tW)] = .nx [some (.tup (bs.map (dcd n))), some (.ref 0), some (nW m), some (tW p), w4] [.lst ((acc ++ [p]).map tW)] := (sIf_t et).trans (sDrop_ok ap)
      rw [List.map_cons, forL_nx (η1 := [some (.tup (bs.map (dcd n))), some (.ref 0), some (nW m), some (tW p), w4]) (S1 := [.lst (acc.map tW)]) rfl st, e, List.filter_cons, if_pos hi, List.append_assoc]
      rfl
    | false =>
      rw [hi] at et
      obtain ⟨w3', e⟩ := bby_loop (d := d) h1 h6 hb hm ps acc (some (tW p)) w4 h' (by omega)
      refine ⟨w3', ?_⟩
      have st : p_bases_by_3b (fns T (d + 8 + 1)) [some (.tup (bs.map (dcd n))), some (.ref 0), some (nW m), some (tW p), w4] [.lst (acc.map tW)] = .nx [some (.tup (bs.map (dcd n))), some (.ref 0), some (nW m), some (tW p), w4] [.lst (acc.map tW)] := sIf_n et
      rw [List.map_cons, forL_nx (η1 := [some (.tup (bs.map (dcd n))), some (.ref 0), some (nW m), some (tW p), w4]) (S1 := [.lst (acc.map tW)]) rfl st, e, List.filter_cons, if_neg (by rw [hi]; decide)]
theorem idxs_rk (bs : List Nat) : ((idxs bs 0 []).map nW).length = rk bs := by
  rw [List.length_map]
  exact (gre_prop bs).2.2.2.1
theorem rk6 {n : Nat} {bs : List Nat} (h6 : n ≤ 6) (hb : ∀ b ∈ bs, b < 2 ^ n ∧ b ≠ 0) : rk bs ≤ 6 := Nat.le_trans (rk_few fun b h => (hb b h).1) h6
theorem bby_ok {d n : Nat} {bs : List Nat} {S : Store} (h1 : 1 ≤ n) (h6 : n ≤ 6) (hb : ∀ b ∈ bs, b < 2 ^ n ∧ b ≠ 0) (hl : bs.length ≤ 12) : fns T (d + 10) 20 [.tup (bs.map (dcd n))] S = .ok (.lst ((bss bs).map tW)) S := by
  have r6 := rk6 h6 hb
  have rl := rk_len bs
  obtain ⟨w3', e⟩ := bby_loop (d := d) (m := rk bs) h1 h6 hb (by omega) (lv bs.length (rk bs)) [] none none (fun p hp => ⟨(mem_lv.mp hp).1, (mem_lv.mp hp).2.2⟩) (by
    have := (lv_short hl (t := rk bs) (by omega)).1
    rw [List.length_nil]
    omega)
  rw [List.nil_append] at e
  have eb : b_bases_by (fns T (d + 8 + 1)) [some (.tup (bs.map (dcd n))), none, none, none, none] [] = .ret (.ref 0) [.lst ((bss bs).map tW)] := by
    unfold b_bases_by
    refine (sSeq_nx (η1 := [some (.tup (bs.map (dcd n))), some (.ref 0), none, none, none]) (S1 := [.lst []]) rfl).trans ?_
    have em : (sSet 2 (mBi baLen (maCons (mCall (fns T (d + 8 + 1)) 18 (maCons (mVar 0) (maNil))) (maNil)))) [some (.tup (bs.map (dcd n))), some (.ref 0), none, none, none] [.lst []] = .nx [some (.tup (bs.map (dcd n))), some (.ref 0), some (nW (rk bs)), none, none] [.lst []] := by
      refine (sSet_ok (mBi1_ok (mCall_ok (maCons_ok (mVar_ok rfl) maNil_ok) (base_ok (d := d + 2) h1 h6 hb (by omega))) (z := nW (rk bs)) ?_)).trans rfl
      show some (W.int (((idxs bs 0 []).map nW).length : Int)) = _
      rw [idxs_rk] <;> rfl
    refine (sSeq_nx em).trans ?_
    have elen : (mBi baLen (maCons (mVar 0) (maNil))) [some (.tup (bs.map (dcd n))), some (.ref 0), some (nW (rk bs)), none, none] [.lst []] = .ok (nW bs.length) [.lst []] := by
      refine mBi1_ok (mVar_ok rfl) ?_
      show some (W.int ((bs.map (dcd n)).length : Int)) = _
      rw [List.length_map] <;> rfl
    refine (sSeq_nx ((sFor_ok (combR_ok elen (mVar_ok rfl) hl r6 rl)).trans e)).trans ?_
    exact sRet_ok (mVar_ok rfl)
  rw [fns_fr rfl rfl (pures1_tup n bs)]
  show R.frame S (finS false 0 (b_bases_by (fns T (d + 8 + 1)) [some (.tup (bs.map (dcd n))), none, none, none, none] [])) = _
  rw [eb]
  show R.frame S (if pures ((bss bs).map tW) = true then R.ok (.lst ((bss bs).map tW)) (([.lst ((bss bs).map tW)] : Store).take 0) else .stuck) = _
  rw [if_pos (pures_tW _)]
  show (if pures ((bss bs).map tW) = true then R.ok (W.lst ((bss bs).map tW)) S else .stuck) = _
  rw [if_pos (pures_tW _)]
theorem bases_f {d n : Nat} {row : List Nat} {S : Store} (h1 : 1 ≤ n) (h6 : n ≤ 6) (hb : ∀ b ∈ row, b < 2 ^ n ∧ b ≠ 0) (nd : row.Nodup) (hl : row.length ≤ 12) : fns T (d + 11) 30 [.int n, .tup (row.map (dcd n))] S = .ok (.tup ((bss row).map tW)) S := by
  refine fr_ret (η := [some (.int n), some (.tup (row.map (dcd n)))]) (b := b_bases) (nv := 2) (S' := []) rfl rfl (by show (true && (pures (row.map (dcd n)) && true)) = true; rw [pures_dcd] <;> rfl) rfl ?_ (pures_tW _)
  unfold b_bases
  refine (sSeq_nx (sDrop_ok (mCall_ok (S1 := []) (maCons_ok (S1 := []) (mVar_ok rfl) (maCons_ok (S1 := []) (mVar_ok rfl) rfl)) (checkr_ok (d := d + 2) h1 h6 hb nd hl)))).trans ?_
  exact sRet_ok (mBi1_ok (S1 := []) (mCall_ok (S1 := []) (maCons_ok (S1 := []) (mVar_ok rfl) rfl) (bby_ok (d := d) h1 h6 hb hl)) rfl)
theorem bcount_f {d n : Nat} {row : List Nat} {S : Store} (h1 : 1 ≤ n) (h6 : n ≤ 6) (hb : ∀ b ∈ row, b < 2 ^ n ∧ b ≠ 0) (nd : row.Nodup) (hl : row.length ≤ 12) : fns T (d + 11) 31 [.int n, .tup (row.map (dcd n))] S = .ok (nW (bss row).length) S := by
  refine fr_ret (η := [some (.int n), some (.tup (row.map (dcd n)))]) (b := b_base_count) (nv := 2) (S' := []) rfl rfl (by show (true && (pures (row.map (dcd n)) && true)) = true; rw [pures_dcd] <;> rfl) rfl ?_ rfl
  unfold b_base_count
  refine (sSeq_nx (sDrop_ok (mCall_ok (S1 := []) (maCons_ok (S1 := []) (mVar_ok rfl) (maCons_ok (S1 := []) (mVar_ok rfl) rfl)) (checkr_ok (d := d + 2) h1 h6 hb nd hl)))).trans ?_
  refine sRet_ok (mBi1_ok (S1 := []) (mCall_ok (S1 := []) (maCons_ok (S1 := []) (mVar_ok rfl) rfl) (bby_ok (d := d) h1 h6 hb hl)) ?_)
  show some (W.int (((bss row).map tW).length : Int)) = _
  rw [List.length_map] <;> rfl
end Lw
namespace Lw
open Mp C63
def zI (n : Nat) : Int := n
def eP (p : List Nat × Nat) : List Int × Int := (p.1.map zI, zI p.2)
theorem map_zI (l : List Nat) : (l.map zI).map W.int = l.map nW := by rw [List.map_map] <;> rfl
theorem kvW_eP (p : List Nat × Nat) : kvW (eP p) = .tup [tW p.1, nW p.2] := by
  show W.tup [.tup ((p.1.map zI).map .int), .int (zI p.2)] = _
  rw [map_zI] <;> rfl
theorem ints_zI (l : List Nat) : intsOf (l.map nW) = some (l.map zI) := intsOf_nW l
theorem xor_nat {a b : Nat} {S : Store} : opXor (nW a) (nW b) S = some (nW (a ^^^ b)) := by
  show (if 0 ≤ (a : Int) ∧ 0 ≤ (b : Int) then some (W.int (((a : Int).toNat ^^^ (b : Int).toNat : Nat) : Int)) else none) = _
  rw [if_pos (by omega), Int.toNat_natCast, Int.toNat_natCast] <;> rfl
abbrev sG : MG := gTupW (gsCons (gVar 2) (gsCons (gVar 3) (gsNil)))
abbrev sG2 : MG := gTupW (gsCons (gVar 4) (gsCons (gVar 5) (gsNil)))
abbrev sGa : MA := maStar (mVar 4) (maCons (mVar 2) (maNil))
abbrev sFv (φ : Fns) : ME := mBin opXor (mVar 5) (mCall φ 7 (maCons (mVar 3) (maNil)))
theorem news_ok {d n b i : Nat} {w0 x y : Option W} (h1 : 1 ≤ n) (h6 : n ≤ 6) (hb : b < 2 ^ n ∧ b ≠ 0) : ∀ acc : PN, (∀ p ∈ acc, p.1.length ≤ 100) → newsL sG2 [4, 5] sGa (sFv (fns T (d + 6))) [w0, none, some (nW i), some (dcd n b), x, y] (acc.map eP) = some ((acc.map fun p => (p.1 ++ [i], p.2 ^^^ b)).map eP)
  | [], _ => rfl
  | p :: acc, h => by
    have hp := h p (List.mem_cons_self ..)
    have ih := news_ok (w0 := w0) (x := x) (y := y) (d := d) (i := i) h1 h6 hb acc fun q hq => h q (List.mem_cons_of_mem _ hq)
    rw [List.map_cons, List.map_cons, List.map_cons]
    have eg : sG2 (kvW (eP p)) (wipeE [w0, none, some (nW i), some (dcd n b), x, y] [4, 5]) [] = some ([w0, none, some (nW i), some (dcd n b), some (tW p.1), some (nW p.2)], []) := by rw [kvW_eP] <;> rfl
    have ea : sGa [w0, none, some (nW i), some (dcd n b), some (tW p.1), some (nW p.2)] [] = .ok ((p.1 ++ [i]).map nW) [] := by
      show R.ok (p.1.map nW ++ [nW i]) [] = _
      rw [List.map_append] <;> rfl
    have ev : sFv (fns T (d + 6)) [w0, none, some (nW i), some (dcd n b), some (tW p.1), some (nW p.2)] [] = .ok (.int (zI (p.2 ^^^ b))) [] := mBin_ok (S1 := []) (x := nW p.2) (y := nW b) (mVar_ok rfl) (mCall_ok (S1 := []) (maCons_ok (mVar_ok rfl) maNil_ok) (bits_ok (d := d) h1 h6 hb.1 hb.2)) xor_nat
    unfold newsL
    simp only [eg, ea, ints_zI, ev]
    rw [if_pos (by rw [List.length_map, List.length_append, List.length_singleton]; unfold bigLine; omega), ih]
    rfl
theorem eP_inj {a b : List Nat} (h : a.map zI = b.map zI) : a = b := by
  have := congrArg (fun l : List Int => l.map Int.toNat) h
  simp only [List.map_map] at this
  have e : (Int.toNat ∘ zI) = id := funext fun n => Int.toNat_natCast n
  rwa [e, List.map_id, List.map_id] at this
theorem sums_run {d n : Nat} {bs : List Nat} {w0 : Option W} (h1 : 1 ≤ n) (h6 : n ≤ 6) (hb : ∀ b ∈ bs, b < 2 ^ n ∧ b ≠ 0) (hl : bs.length ≤ 20) : ∀ (r : List Nat) (i : Nat) (acc : PN) (a2 a3 a4 a5 : Option W), bs.drop i = r → i + r.length = bs.length → PtOk bs i acc →
    sumsL sG sG2 [4, 5] sGa (sFv (fns T (d + 6))) (enumL (i : Int) (r.map (dcd n))) [w0, none, a2, a3, a4, a5] (acc.map eP) = some ((ptsA r i acc).map eP)
  | [], i, acc, a2, a3, a4, a5, _, _, _ => rfl
  | b :: r, i, acc, a2, a3, a4, a5, e, hi, h => by
    have hbi : bs.getD i 0 = b := by
      rw [List.getD_eq_getElem?_getD, ← List.head?_drop, e] <;> rfl
    have hbm : b ∈ bs := by
      have : b ∈ bs.drop i := by rw [e]; exact List.mem_cons_self ..
      exact List.mem_of_mem_drop this
    have e' : bs.drop (i + 1) = r := by rw [← List.drop_drop, e] <;> rfl
    have s := pt_step h
    rw [hbi] at s
    rw [List.length_cons] at hi
    have lens : ∀ p ∈ acc, p.1.length ≤ 100 := fun p hp => by
      obtain ⟨⟨a, c⟩, _⟩ := (h.mem p).mp hp
      have := asc_len a c
      omega
    show sumsL sG sG2 [4, 5] sGa (sFv (fns T (d + 6))) (.tup [.int (i : Int), dcd n b] :: enumL ((i : Int) + 1) (r.map (dcd n))) [w0, none, a2, a3, a4, a5] (acc.map eP) = _
    unfold sumsL
    have eg : sG (.tup [.int (i : Int), dcd n b]) [w0, none, a2, a3, a4, a5] [] = some ([w0, none, some (nW i), some (dcd n b), a4, a5], []) := rfl
    simp only [eg, news_ok (d := d) (i := i) (w0 := w0) (x := a4) (y := a5) h1 h6 (hb b hbm) acc lens]
    rw [← List.map_append]
    have hc : (((acc ++ acc.map fun p => (p.1 ++ [i], p.2 ^^^ b)).map eP).map (·.1)).Nodup ∧ ((acc ++ acc.map fun p => (p.1 ++ [i], p.2 ^^^ b)).map eP).length ≤ 8000000 := by
      refine ⟨?_, ?_⟩
      · rw [List.map_map]
        have e2 : ((acc ++ acc.map fun p => (p.1 ++ [i], p.2 ^^^ b)).map ((fun p : List Int × Int => p.1) ∘ eP)) = ((acc ++ acc.map fun p => (p.1 ++ [i], p.2 ^^^ b)).map (·.1)).map fun l => l.map zI := by rw [List.map_map] <;> rfl
        rw [e2]
        exact List.Pairwise.map _ (fun a b hne e => hne (eP_inj e)) s.nd
      · rw [List.length_map, s.len]
        have : 2 ^ (i + 1) ≤ 2 ^ 20 := Nat.pow_le_pow_right (by decide) (by omega)
        have : (2 : Nat) ^ 20 = 1048576 := by decide
        omega
    rw [if_pos hc]
    · have := sums_run (d := d) (w0 := w0) h1 h6 hb hl r (i + 1) _ (some (nW i)) (some (dcd n b)) a4 a5 e' (by omega) s
      rw [show ((i + 1 : Nat) : Int) = (i : Int) + 1 from rfl] at this
      exact this
theorem pures_eP : ∀ l : PN, pures ((l.map eP).map fun p => W.tup (p.1.map .int)) = true ∧ pures ((l.map eP).map fun p => W.int p.2) = true
  | [] => ⟨rfl, rfl⟩
  | p :: l => by
    obtain ⟨a, b⟩ := pures_eP l
    refine ⟨?_, ?_⟩
    · show ((W.tup ((p.1.map zI).map .int)).pure && pures ((l.map eP).map fun p => W.tup (p.1.map .int))) = true
      rw [a, map_zI, show (W.tup (p.1.map nW)).pure = true from pures_nW p.1] <;> rfl
    · exact b
theorem sumsp_ok {d n : Nat} {bs : List Nat} {S : Store} (h1 : 1 ≤ n) (h6 : n ≤ 6) (hb : ∀ b ∈ bs, b < 2 ^ n ∧ b ≠ 0) (hl : bs.length ≤ 20) : fns T (d + 7) 11 [.tup (bs.map (dcd n))] S = .ok (pkD ((pts bs).map eP)) S := by
  refine fr_ret (η := [some (.tup (bs.map (dcd n))), none, none, none, none, none]) (b := b_sums_of_parts) (nv := 6) (S' := []) rfl rfl (pures1_tup n bs) rfl ?_ ?_
  · have e := sums_run (d := d) (w0 := some (.tup (bs.map (dcd n)))) h1 h6 hb hl bs 0 [([], 0)] none none none none rfl (Nat.zero_add _) (by
      have := pts_ok []
      refine ⟨fun p => ?_, by simp, rfl⟩
      rw [List.mem_singleton]
      constructor
      · rintro rfl
        exact ⟨⟨List.Pairwise.nil, fun x hx => by cases hx⟩, rfl⟩
      · rintro ⟨⟨a, b⟩, c⟩
        obtain ⟨p1, p2⟩ := p
        cases p1 with
        | nil =>
          have c : p2 = 0 := c
          rw [c]
        | cons x r => exact absurd (b x (List.mem_cons_self ..)) (by omega))
    unfold b_sums_of_parts mSums
    have ei : (miAll enumW2 (maCons (mVar 0) (maNil))) [some (.tup (bs.map (dcd n))), none, none, none, none, none] [] = .ok (enumL 0 (bs.map (dcd n))) [] := rfl
    simp only [ei]
    show (match sumsL sG sG2 [4, 5] sGa (sFv (fns T (d + 6))) (enumL 0 (bs.map (dcd n))) [some (.tup (bs.map (dcd n))), none, none, none, none, none] [([], 0)] with
      | some acc => RS.ret (pkD acc) []
      | none => .stuck) = _
    rw [show ([([], 0)] : PK) = ([([], 0)] : PN).map eP from rfl, show (0 : Int) = ((0 : Nat) : Int) from rfl, e] <;> rfl
  · show (pures (.bl true :: ((pts bs).map eP).map fun p => W.tup (p.1.map .int)) && pures (((pts bs).map eP).map fun p => W.int p.2)) = true
    rw [(pures_eP (pts bs)).2]
    show (true && pures (((pts bs).map eP).map fun p => W.tup (p.1.map .int)) && true) = true
    rw [(pures_eP (pts bs)).1] <;> rfl
/-! sorted pairs -/
theorem leP_trans (a b c : Int × List Int) (h : leP a b = true) (k : leP b c = true) : leP a c = true := by
  unfold leP at *
  by_cases e1 : a.1 = b.1
  · rw [if_pos e1] at h
    by_cases e2 : b.1 = c.1
    · rw [if_pos e2] at k
      rw [if_pos (e1.trans e2)]
      exact decide_eq_true (List.le_trans (of_decide_eq_true h) (of_decide_eq_true k))
    · rw [if_neg e2] at k
      rw [if_neg (fun z => e2 (e1.symm.trans z))]
      have := of_decide_eq_true k
      exact decide_eq_true (by omega)
  · rw [if_neg e1] at h
    have h := of_decide_eq_true h
    by_cases e2 : b.1 = c.1
    · rw [if_neg (fun z => e1 (z.trans e2.symm))]
      exact decide_eq_true (by omega)
    · rw [if_neg e2] at k
      have k := of_decide_eq_true k
      rw [if_neg (by omega)]
      exact decide_eq_true (by omega)
theorem leP_total (a b : Int × List Int) : (leP a b || leP b a) = true := by
  unfold leP
  rw [Bool.or_eq_true]
  by_cases e : a.1 = b.1
  · rw [if_pos e, if_pos e.symm]
    exact (List.le_total a.2 b.2).imp decide_eq_true decide_eq_true
  · rw [if_neg e, if_neg fun z => e z.symm]
    by_cases h : a.1 < b.1
    · exact .inl (decide_eq_true h)
    · exact .inr (decide_eq_true (by omega))
theorem leP_anti (a b : Int × List Int) (h : leP a b = true) (k : leP b a = true) : a = b := by
  unfold leP at *
  by_cases e : a.1 = b.1
  · rw [if_pos e] at h
    rw [if_pos e.symm] at k
    exact Prod.ext e (List.le_antisymm (of_decide_eq_true h) (of_decide_eq_true k))
  · rw [if_neg e] at h
    rw [if_neg fun z => e z.symm] at k
    have h := of_decide_eq_true h
    have k := of_decide_eq_true k
    omega
def lP (p : List Nat) : Int × List Int := (zI p.length, p.map zI)
theorem lex_lt : ∀ {p q : List Nat}, lexlt p q → p.map zI < q.map zI
  | a :: r, b :: s, h => by
    rw [List.map_cons, List.map_cons, List.cons_lt_cons_iff]
    rcases h with h | ⟨h, k⟩
    · exact .inl (by show (a : Int) < (b : Int); omega)
    · exact .inr ⟨by rw [h], lex_lt k⟩
theorem lenlex_le {p q : List Nat} (h : lenlex p q) : leP (lP p) (lP q) = true := by
  show (if (p.length : Int) = (q.length : Int) then decide (p.map zI ≤ q.map zI) else decide ((p.length : Int) < (q.length : Int))) = true
  rcases h with h | ⟨h, k⟩
  · rw [if_neg (by omega)]
    exact decide_eq_true (by omega)
  · rw [if_pos (by omega)]
    exact decide_eq_true (List.le_of_lt (lex_lt k))
theorem sort_parts {L M : List (List Nat)} (p : L.Perm M) (s : M.Pairwise lenlex) : (L.map lP).mergeSort leP = M.map lP := by
  refine List.Perm.eq_of_pairwise (le := fun a b => leP a b = true) (fun a b _ _ => leP_anti a b) (List.pairwise_mergeSort leP_trans leP_total _) (List.pairwise_map.mpr (s.imp lenlex_le)) ?_
  exact (List.mergeSort_perm _ _).trans (p.map lP)
theorem pW_lP (p : List Nat) : pW (lP p) = .tup [nW p.length, tW p] := by
  show W.tup [.int (zI p.length), .tup ((p.map zI).map .int)] = _
  rw [map_zI] <;> rfl
theorem pairsQ_lP : ∀ L : List (List Nat), pairsQ (L.map fun p => W.tup [nW p.length, tW p]) = some (L.map lP)
  | [] => rfl
  | p :: L => by
    show (intsOf (p.map nW)).bind (fun k' => (pairsQ (L.map fun p => W.tup [nW p.length, tW p])).map ((zI p.length, k') :: ·)) = _
    rw [ints_zI, pairsQ_lP L] <;> rfl
theorem rowsD_eP : ∀ acc : PK, rowsD (acc.map fun p => W.tup (p.1.map .int)) (acc.map fun p => W.int p.2) = some acc
  | [] => rfl
  | (k, v) :: acc => by
    show (intsOf (k.map .int)).bind (fun k' => (rowsD (acc.map fun p => W.tup (p.1.map .int)) (acc.map fun p => W.int p.2)).map ((k', v) :: ·)) = _
    have : ∀ k : List Int, intsOf (k.map .int) = some k := fun k => by
      induction k with
      | nil => rfl
      | cons i r ih =>
        show (intsOf (r.map .int)).map (i :: ·) = _
        rw [ih] <;> rfl
    rw [this, rowsD_eP acc] <;> rfl
theorem compL_flt {g : MG} {t : MT} {e : ME} {η : Env} {S : Store} {α : Type} {u v : α → W} {P : α → Bool} : ∀ (l : List α) (acc : List W), (∀ i, i ∈ l → ∃ η1, g (u i) η S = some (η1, S) ∧ t η1 S = .ok (P i) S ∧ (P i = true → e η1 S = .ok (v i) S)) → acc.length + l.length ≤ bigLine → compL g t e η (l.map u) S acc = .ok (acc ++ (l.filter P).map v) S
  | [], acc, _, _ => by
    show R.ok acc S = _
    rw [List.filter_nil, List.map_nil, List.append_nil]
  | x :: r, acc, h, hl => by
    rw [List.length_cons] at hl
    obtain ⟨η1, h1, h2, h3⟩ := h x (List.mem_cons_self ..)
    have h' : ∀ i, i ∈ r → ∃ η1, g (u i) η S = some (η1, S) ∧ t η1 S = .ok (P i) S ∧ (P i = true → e η1 S = .ok (v i) S) := fun y hy => h y (List.mem_cons_of_mem _ hy)
    rw [List.map_cons]
    unfold compL
    cases hp : P x with
    | true =>
      rw [hp] at h2
      simp only [h1, h2, h3 hp, R.bind]
      rw [if_pos True.intro]
      unfold sized
      rw [if_pos (by omega), compL_flt r (acc ++ [v x]) h' (by rw [List.length_append, List.length_singleton]; omega), List.append_assoc, List.filter_cons, if_pos hp] <;> rfl
    | false =>
      rw [hp] at h2
      simp only [h1, h2, R.bind]
      rw [if_neg (by decide), compL_flt r acc h' (by omega), List.filter_cons, if_neg (by rw [hp]; decide)]
theorem okDs_of {l : List W} {k : Nat} (h : ∀ w ∈ l, okD w k = true) : okDs l k = true := by
  induction l with
  | nil => rfl
  | cons x r ih =>
    show (okD x k && okDs r k) = true
    rw [h x (List.mem_cons_self ..), ih fun w hw => h w (List.mem_cons_of_mem _ hw)] <;> rfl
theorem okD_nW (l : List Nat) (k : Nat) : okDs (l.map nW) k = true := okDs_of fun w hw => by
  obtain ⟨n, _, rfl⟩ := List.mem_map.mp hw
  cases k <;> rfl
theorem fd_len12 {n : Nat} (h : n ≤ 12) : (fd n n).length ≤ 5000 := (lv_short h h).2
theorem wth_le {bs : List Nat} (hl : bs.length ≤ 12) (y : Nat) : (wth bs y).length ≤ 5000 := Nat.le_trans (List.length_filter_le _ _) (fd_len12 hl)
theorem pwith_ok {d n y : Nat} {bs : List Nat} {S : Store} (h1 : 1 ≤ n) (h6 : n ≤ 6) (hb : ∀ b ∈ bs, b < 2 ^ n ∧ b ≠ 0) (hl : bs.length ≤ 12) : fns T (d + 8) 12 [.tup (bs.map (dcd n)), nW y] S = .ok (.lst ((wth bs y).map tW)) S := by
  refine fr_ret (η := [some (.tup (bs.map (dcd n))), some (nW y), none, none, none, none]) (b := b_parts_with) (nv := 6) (S' := []) rfl rfl (by show ((W.tup (bs.map (dcd n))).pure && true) = true; rw [show (W.tup (bs.map (dcd n))).pure = true from pures_dcd n bs] <;> rfl) rfl ?_ (pures_tW _)
  have hlen : (pts bs).length ≤ 4096 := by
    rw [(pts_ok bs).len]
    exact Nat.pow_le_pow_right (n := 2) (by decide) hl
  have hmask : maskE [some (.tup (bs.map (dcd n))), some (nW y), none, none, none, none] = [some (.tup (bs.map (dcd n))), some (nW y), none, none, none, none] := by
    have ok : okD (.tup (bs.map (dcd n))) 60 = true := by
      show (decide (0 < 60) && okDs (bs.map (dcd n)) 59) = true
      rw [okDs_of fun w hw => by
        obtain ⟨b, _, rfl⟩ := List.mem_map.mp hw
        rfl] <;> rfl
    unfold maskE
    simp only [List.map_cons, List.map_nil]
    rw [if_pos ok]
    rfl
  have e1 : (mCompT (mCall (fns T (d + 7)) 11 (maCons (mVar 0) (maNil))) [3, 4] (gTupW (gsCons (gVar 3) (gsCons (gVar 4) (gsNil)))) (mTCmp opEq (mVar 4) (mVar 1)) (mTup (maCons (mBi baLen (maCons (mVar 3) (maNil))) (maCons (mVar 3) (maNil))))) [some (.tup (bs.map (dcd n))), some (nW y), none, none, none, none] [] = .ok (.lst (((pts bs).filter fun p => decide (p.2 = y)).map fun p => W.tup [nW p.1.length, tW p.1])) [] := by
    have es : (mCall (fns T (d + 7)) 11 (maCons (mVar 0) (maNil))) [some (.tup (bs.map (dcd n))), some (nW y), none, none, none, none] [] = .ok (pkD ((pts bs).map eP)) [] := mCall_ok (S1 := []) (maCons_ok (mVar_ok rfl) maNil_ok) (sumsp_ok (d := d) h1 h6 hb (by omega))
    have ec : compL (gTupW (gsCons (gVar 3) (gsCons (gVar 4) (gsNil)))) (mTCmp opEq (mVar 4) (mVar 1)) (mTup (maCons (mBi baLen (maCons (mVar 3) (maNil))) (maCons (mVar 3) (maNil)))) (wipeE [some (.tup (bs.map (dcd n))), some (nW y), none, none, none, none] [3, 4]) (((pts bs).map eP).map kvW) [] [] = .ok (((pts bs).filter fun p => decide (p.2 = y)).map fun p => W.tup [nW p.1.length, tW p.1]) [] := by
      rw [List.map_map]
      refine (compL_flt (u := kvW ∘ eP) (pts bs) [] (fun p hp => ⟨[some (.tup (bs.map (dcd n))), some (nW y), none, some (tW p.1), some (nW p.2), none], ?_, ?_, fun _ => ?_⟩) (by rw [List.length_nil]; unfold bigLine; omega)).trans (by rw [List.nil_append])
      · show (gTupW (gsCons (gVar 3) (gsCons (gVar 4) (gsNil)))) (kvW (eP p)) _ [] = _
        rw [kvW_eP] <;> rfl
      · refine mTCmp_ok (S1 := []) (mVar_ok rfl) (mVar_ok rfl) ?_
        show some (W.bl ((p.2 : Int) == (y : Int))) = _
        by_cases e : p.2 = y
        · rw [decide_eq_true e, beq_iff_eq.mpr (by omega)]
        · rw [decide_eq_false e, beq_eq_false_iff_ne.mpr (by omega)]
      · exact mTup_ok (maCons_ok (S1 := []) (mBi1_ok (S1 := []) (mVar_ok rfl) (by
          show some (W.int ((p.1.map nW).length : Int)) = _
          rw [List.length_map] <;> rfl)) (maCons_ok (mVar_ok rfl) maNil_ok)) (by show 2 ≤ bigLine; decide)
    have eo : okDs (((pts bs).filter fun p => decide (p.2 = y)).map fun p => W.tup [nW p.1.length, tW p.1]) 60 = true := okDs_of fun w hw => by
      obtain ⟨p, _, rfl⟩ := List.mem_map.mp hw
      show (true && (okDs (p.1.map nW) 58 && true)) = true
      rw [okD_nW] <;> rfl
    have er := rowsD_eP ((pts bs).map eP)
    unfold mCompT
    simp only [es]
    unfold pkD
    simp only [er, hmask]
    simp only [ec]
    rw [if_pos eo]
  unfold b_parts_with
  refine (sSeq_nx (η1 := [some (.tup (bs.map (dcd n))), some (nW y), some (.lst (((pts bs).filter fun p => decide (p.2 = y)).map fun p => W.tup [nW p.1.length, tW p.1])), none, none, none]) (S1 := []) ((sSet_ok e1).trans rfl)).trans ?_
  have e2 : (miSeq (mBi baSortP (maCons (mVar 2) (maNil)))) [some (.tup (bs.map (dcd n))), some (nW y), some (.lst (((pts bs).filter fun p => decide (p.2 = y)).map fun p => W.tup [nW p.1.length, tW p.1])), none, none, none] [] = .ok ((wth bs y).map fun p => W.tup [nW p.length, tW p]) [] := by
    have eb : (mBi baSortP (maCons (mVar 2) (maNil))) [some (.tup (bs.map (dcd n))), some (nW y), some (.lst (((pts bs).filter fun p => decide (p.2 = y)).map fun p => W.tup [nW p.1.length, tW p.1])), none, none, none] [] = .ok (.lst ((wth bs y).map fun p => W.tup [nW p.length, tW p])) [] := by
      refine mBi1_ok (S1 := []) (mVar_ok rfl) ?_
      show (pairsQ (((pts bs).filter fun p => decide (p.2 = y)).map fun p => W.tup [nW p.1.length, tW p.1])).map (fun ps => W.lst ((ps.mergeSort leP).map pW)) = _
      have em : (((pts bs).filter fun p => decide (p.2 = y)).map fun p => W.tup [nW p.1.length, tW p.1]) = (((pts bs).filter fun p => decide (p.2 = y)).map (·.1)).map fun p => W.tup [nW p.length, tW p] := by rw [List.map_map] <;> rfl
      rw [em, pairsQ_lP]
      show some (W.lst ((((((pts bs).filter fun p => decide (p.2 = y)).map (·.1)).map lP).mergeSort leP).map pW)) = _
      rw [sort_parts (wth_perm bs y) ((fd_sorted _ _).filter _), List.map_map]
      congr 2
      exact List.map_congr_left fun p _ => pW_lP p
    unfold miSeq
    rw [eb] <;> rfl
  refine sRet_ok (comp_gen (u := fun p : List Nat => W.tup [nW p.length, tW p]) (v := tW) e2 (fun p hp => ⟨[some (.tup (bs.map (dcd n))), some (nW y), some (.lst (((pts bs).filter fun p => decide (p.2 = y)).map fun p => W.tup [nW p.1.length, tW p.1])), some (tW p), none, some (nW p.length)], rfl, rfl, mVar_ok rfl⟩) ?_)
  have := wth_le hl y
  unfold bigLine
  omega
end Lw
namespace Lw
open Mp C63
def dk (n : Nat) : List Nat := (List.range (2 ^ n - 1)).map fun i => i + 1
theorem dk_mem {n b : Nat} (h : b ∈ dk n) : b < 2 ^ n ∧ b ≠ 0 := by
  obtain ⟨i, hi, rfl⟩ := List.mem_map.mp h
  have := List.mem_range.mp hi
  have hp : 0 < 2 ^ n := Nat.pow_pos (by decide)
  exact ⟨by omega, by omega⟩
theorem dk_nodup (n : Nat) : (dk n).Nodup := by
  refine List.pairwise_map.mpr ?_
  exact List.nodup_range.imp fun h => by omega
theorem dk_len (n : Nat) : (dk n).length = 2 ^ n - 1 := by
  unfold dk
  rw [List.length_map, List.length_range]
theorem dk_rng (n : Nat) : rangeW 1 (2 ^ n - 1) = (dk n).map nW := by
  unfold rangeW dk
  rw [List.map_map]
  exact List.map_congr_left fun i _ => by show W.int (1 + (i : Int)) = W.int ((i + 1 : Nat) : Int); rw [show (1 + (i : Int)) = ((i + 1 : Nat) : Int) by omega]
theorem c_card (d : Nat) : allD (fun n b => isStr (fns T (d + 6) 37 [.int b, .int n] []) (ds n b)) = true := by kernel_rfl
theorem card_ok {d n b : Nat} {S : Store} (h1 : 1 ≤ n) (h6 : n ≤ 6) (hb : b < 2 ^ n) (h0 : b ≠ 0) : fns T (d + 6) 37 [nW b, .int n] S = .ok (dcd n b) S := fr_any rfl (isStr_ok (allD_ok (c_card d) h1 h6 hb h0))
theorem c_two (d : Nat) : ([1, 2, 3, 4, 5, 6] : List Nat).all (fun n => isInt (fns T (d + 6) 40 [.int (n : Nat)] []) (2 ^ n : Nat)) = true := by kernel_rfl
theorem two_ok {d n : Nat} {S : Store} (h1 : 1 ≤ n) (h6 : n ≤ 6) : fns T (d + 6) 40 [.int n] S = .ok (nW (2 ^ n)) S := fr_any rfl (isInt_ok (List.all_eq_true.mp (c_two d) n (mem16 h1 h6)))
/-- what stands while a row is drawn -/
structure Rw (S : Store) (i L F n : Nat) (l f : List Nat) : Prop where
  hw : Well S i
  hl : S[L]? = some (.lst (l.map nW))
  hf : S[F]? = some (.lst (f.map nW))
  hp : (l ++ f).Perm (dk n)
  iL : i ≠ L
  iF : i ≠ F
  LF : L ≠ F
theorem Rw.of {S S1 : Store} {i L F n : Nat} {l f : List Nat} (h : Rw S i L F n l f) (w : Well S1 i) (o : ∀ j, j ≠ i → S1[j]? = S[j]?) : Rw S1 i L F n l f := ⟨w, by rw [o _ h.iL.symm]; exact h.hl, by rw [o _ h.iF.symm]; exact h.hf, h.hp, h.iL, h.iF, h.LF⟩
theorem well_set {S : Store} {i j : Nat} {c : Cell} (h : Well S i) (n : i ≠ j) : Well (S.set j c) i := by
  obtain ⟨a, b, c', ha, hb, e⟩ := h
  exact ⟨a, b, c', ha, hb, by rw [List.getElem?_set_ne n.symm]; exact e⟩
theorem Rw.move {S : Store} {i L F n : Nat} {l f l' f' : List Nat} (h : Rw S i L F n l f) (p : (l' ++ f').Perm (dk n)) : Rw ((S.set L (.lst (l'.map nW))).set F (.lst (f'.map nW))) i L F n l' f' := by
  refine ⟨well_set (well_set h.hw h.iL) h.iF, ?_, ?_, p, h.iL, h.iF, h.LF⟩
  · rw [List.getElem?_set_ne h.LF.symm, List.getElem?_set_self (lt_get h.hl)]
  · rw [List.getElem?_set_self (by rw [List.length_set]; exact lt_get h.hf)]
theorem dk_le {n : Nat} (h6 : n ≤ 6) : (dk n).length ≤ 63 := by
  have := two6 h6
  rw [dk_len]
  omega
theorem Rw.len {S : Store} {i L F n : Nat} {l f : List Nat} (h : Rw S i L F n l f) : l.length + f.length = (dk n).length := by
  have := h.hp.length_eq
  rw [List.length_append] at this
  exact this
theorem len_ref {k r : Nat} {η : Env} {S : Store} {l : List Nat} (e : η[k]? = some (some (.ref r))) (h : S[r]? = some (.lst (l.map nW))) : (mBi baLen (maCons (mVar k) (maNil))) η S = .ok (nW l.length) S := by
  refine mBi1_ok (mVar_ok e) ?_
  show ((match S[r]? with | some (Cell.lst xs) => some xs | _ => none) : Option (List W)).map (fun xs => W.int xs.length) = _
  rw [h]
  show some (W.int ((l.map nW).length : Int)) = _
  rw [List.length_map] <;> rfl
theorem rec5 {r : Nat} {S : Store} {xs : List W} (h : S[r]? = some (.lst xs)) : recOk 5 S (.ref r) = true := by
  show (match S[r]? with | some (.lst _) => true | _ => false) = true
  rw [h]
theorem append_ok {k r : Nat} {e : ME} {η : Env} {S S1 : Store} {f : List Nat} {x : Nat} (e0 : η[k]? = some (some (.ref r))) (h0 : S[r]? = some (.lst (f.map nW))) (he : e η S = .ok (nW x) S1) (h : S1[r]? = some (.lst (f.map nW))) (hl : f.length ≤ 1000) : (mMeth 5 omAppend (mVar k) (maCons e (maNil))) η S = .ok .non (S1.set r (.lst ((f ++ [x]).map nW))) := by
  refine mMeth_ok (mVar_ok e0) (rec5 h0) (maCons_ok he maNil_ok) ?_
  show (match S1[r]? with
    | some (.lst xs) => if (nW x).pure = true ∧ xs.length + 1 ≤ bigLine then some (W.non, S1.set r (.lst (xs ++ [nW x]))) else none
    | _ => none) = _
  rw [h]
  show (if (nW x).pure = true ∧ (f.map nW).length + 1 ≤ bigLine then some (W.non, S1.set r (.lst (f.map nW ++ [nW x]))) else none) = _
  rw [if_pos ⟨rfl, by rw [List.length_map]; unfold bigLine; omega⟩, List.map_append]
  rfl
theorem pop_ok {k r : Nat} {e : ME} {η : Env} {S S1 : Store} {l : List Nat} {v : Int} (e0 : η[k]? = some (some (.ref r))) (h0 : S[r]? = some (.lst (l.map nW))) (he : e η S = .ok (.int v) S1) (h : S1[r]? = some (.lst (l.map nW))) (hv : 0 ≤ v) (hvl : v < (l.length : Int)) (hl : l.length ≤ 1000) : (mMeth 5 omPopAt (mVar k) (maCons e (maNil))) η S = .ok (nW (l[v.toNat]'(by omega))) (S1.set r (.lst ((l.eraseIdx v.toNat).map nW))) := by
  have lv : v.toNat < l.length := by omega
  refine mMeth_ok (mVar_ok e0) (rec5 h0) (maCons_ok he maNil_ok) ?_
  show (match S1[r]? with
    | some (.lst xs) => if 0 ≤ v ∧ v < (xs.length : Int) ∧ v < 9223372036854775808 then (xs[v.toNat]?).map (fun w => (w, S1.set r (.lst (xs.eraseIdx v.toNat)))) else none
    | _ => none) = _
  rw [h]
  show (if 0 ≤ v ∧ v < (((l.map nW).length : Nat) : Int) ∧ v < 9223372036854775808 then ((l.map nW)[v.toNat]?).map (fun w => (w, S1.set r (.lst ((l.map nW).eraseIdx v.toNat)))) else none) = _
  rw [List.length_map, if_pos ⟨hv, hvl, by omega⟩, List.getElem?_map, List.getElem?_eq_getElem lv, eraseIdx_map']
  rfl
theorem inW_nat (m : Nat) (l : List Nat) : inW (nW m) (l.map nW) = decide (m ∈ l) := by
  induction l with
  | nil => rfl
  | cons a r ih =>
    show (eqW (nW a) (nW m) || inW (nW m) (r.map nW)) = _
    rw [ih, show eqW (nW a) (nW m) = ((a : Int) == (m : Int)) from rfl]
    by_cases e : a = m
    · subst e
      rw [beq_self_eq_true, Bool.true_or, decide_eq_true (List.mem_cons_self ..)]
    · rw [beq_eq_false_iff_ne.mpr (by omega), Bool.false_or]
      by_cases h : m ∈ r
      · rw [decide_eq_true h, decide_eq_true (List.mem_cons_of_mem _ h)]
      · rw [decide_eq_false h, decide_eq_false fun z => h ((List.mem_cons.mp z).resolve_left fun q => e q.symm)]
theorem flat_nat (l : List Nat) : (l.map nW).all flat = true := List.all_eq_true.mpr fun w hw => by
  obtain ⟨_, _, rfl⟩ := List.mem_map.mp hw
  rfl
theorem in_ref {m r : Nat} {l : List Nat} {S : Store} (h : S[r]? = some (.lst (l.map nW))) : opIn (nW m) (.ref r) S = some (.bl (decide (m ∈ l))) := by
  show (match ((match S[r]? with | some (Cell.lst xs) => some xs | _ => none) : Option (List W)) with
    | some ys => if flat (nW m) = true ∧ ys.all flat = true then some (W.bl (inW (nW m) ys)) else
        (match lstOf S (.ref r) with
        | some ys => if okD (nW m) 30 = true ∧ okDs ys 29 = true then some (.bl (inW (nW m) ys)) else none
        | none => none)
    | none => none) = _
  rw [h]
  show (if flat (nW m) = true ∧ (l.map nW).all flat = true then some (W.bl (inW (nW m) (l.map nW))) else _) = _
  rw [if_pos ⟨rfl, flat_nat l⟩, inW_nat]
theorem remove_ok {k r q m : Nat} {η : Env} {S : Store} {l : List Nat} (e0 : η[k]? = some (some (.ref r))) (eq : η[q]? = some (some (nW m))) (h : S[r]? = some (.lst (l.map nW))) (hm : m ∈ l) : ∃ j, ∃ hj : j < l.length, l[j] = m ∧ (mMeth 5 omRemoveI (mVar k) (maCons (mVar q) (maNil))) η S = .ok .non (S.set r (.lst ((l.eraseIdx j).map nW))) := by
  have hm' : ((m : Nat) : Int) ∈ l.map fun (n : Nat) => (n : Int) := List.mem_map_of_mem hm
  obtain ⟨f1, _⟩ := idxOf_first hm'
  obtain ⟨hj, ej⟩ := List.getElem?_eq_some_iff.mp f1
  have hj' : (l.map fun (n : Nat) => (n : Int)).idxOf (m : Int) < l.length := by rw [List.length_map] at hj; exact hj
  refine ⟨_, hj', ?_, ?_⟩
  · rw [List.getElem_map] at ej
    omega
  · refine mMeth_ok (mVar_ok e0) (rec5 h) (maCons_ok (mVar_ok eq) maNil_ok) ?_
    show (match S[r]? with
      | some (.lst xs) => (match intsOf xs with
        | some ns => if ((m : Nat) : Int) ∈ ns then some (W.non, S.set r (.lst (xs.eraseIdx (ns.idxOf (m : Int))))) else none
        | none => none)
      | _ => none) = _
    rw [h]
    show (match intsOf (l.map nW) with
        | some ns => if ((m : Nat) : Int) ∈ ns then some (W.non, S.set r (.lst ((l.map nW).eraseIdx (ns.idxOf (m : Int))))) else none
        | none => none) = _
    rw [intsOf_nW]
    show (if ((m : Nat) : Int) ∈ l.map (fun (n : Nat) => (n : Int)) then some (W.non, S.set r (.lst ((l.map nW).eraseIdx ((l.map fun (n : Nat) => (n : Int)).idxOf (m : Int))))) else none) = _
    rw [if_pos hm', eraseIdx_map']
theorem ix_ref {k r : Nat} {e : ME} {η : Env} {S S1 : Store} {f : List Nat} {v : Int} (e0 : η[k]? = some (some (.ref r))) (he : e η S = .ok (.int v) S1) (h : S1[r]? = some (.lst (f.map nW))) (hv : 0 ≤ v) (hvl : v < (f.length : Int)) : (mBin opIx (mVar k) e) η S = .ok (nW (f.getD v.toNat 0)) S1 := by
  refine mBin_ok (S1 := S) (x := .ref r) (mVar_ok e0) he ?_
  show ((match S1[r]? with | some (Cell.lst xs) => some xs | _ => none) : Option (List W)).bind (fun xs => atW xs v) = _
  rw [h]
  show atW (f.map nW) v = _
  have := atW_f nW 0 (l := f) (a := v.toNat) (by omega)
  rw [show ((v.toNat : Nat) : Int) = v by omega] at this
  exact this
end Lw
namespace Lw
open Mp C63
theorem compR_ok {g : MG} {e : ME} {η : Env} {S : Store} {r : Nat} {α : Type} {u v : α → W} {f : List α} (hc : S[r]? = some (.lst (f.map u))) (h : ∀ x, x ∈ f → ∃ η1, g (u x) η S = some (η1, S) ∧ e η1 S = .ok (v x) S) : ∀ (k i fuel : Nat) (acc : List W), i + k = f.length → k < fuel → acc.length + k ≤ bigLine → compR g mtYes e η r fuel i S acc = .ok (acc ++ (f.drop i).map v) S
  | 0, i, fuel + 1, acc, hk, _, _ => by
    unfold compR
    have : itemR r i S = some none := by
      unfold itemR
      rw [hc]
      show some (f.map u)[i]? = _
      rw [List.getElem?_eq_none (by rw [List.length_map]; omega)]
    rw [this, List.drop_eq_nil_of_le (by omega), List.map_nil, List.append_nil]
  | k + 1, i, fuel + 1, acc, hk, hf, hl => by
    have hi : i < f.length := by omega
    unfold compR
    have it : itemR r i S = some (some (u f[i])) := by
      unfold itemR
      rw [hc]
      show some (f.map u)[i]? = _
      rw [List.getElem?_map, List.getElem?_eq_getElem hi] <;> rfl
    obtain ⟨η1, h1, h2⟩ := h f[i] (List.getElem_mem hi)
    simp only [it, h1, h2, mtYes, R.bind]
    rw [if_pos True.intro]
    unfold sized
    rw [if_pos (by omega), compR_ok hc h k (i + 1) fuel (acc ++ [v f[i]]) (by omega) (by omega) (by rw [List.length_append, List.length_singleton]; omega), List.append_assoc, List.drop_eq_getElem_cons hi]
    rfl
  | _, _, 0, _, _, hf, _ => by omega
theorem mCompD_ok {f e : ME} {own : List Nat} {g : MG} {η : Env} {S S1 : Store} {r : Nat} {ws : List W} (hf : f η S = .ok (.ref r) S1) (h : compR g mtYes e (wipeE η own) r 1000000 0 S1 [] = .ok ws S1) : mCompD false f own g mtYes e η S = .ok (.lst ws) S1 := by
  have hc : compD g mtYes e (wipeE η own) (.ref r) S1 = .ok ws S1 := by
    unfold compD refI
    dsimp only
    exact h
  unfold mCompD
  rw [hf]
  show (noexc (compD g mtYes e (wipeE η own) (.ref r) S1)).bind _ = _
  rw [hc]
  rfl
theorem mRg2_ok {f g : ME} {η : Env} {S S1 S2 : Store} {i j : Int} (hf : f η S = .ok (.int i) S1) (hg : g η S1 = .ok (.int j) S2) (h : 0 ≤ i ∧ i ≤ 1000000 ∧ 0 ≤ j ∧ j ≤ 1000000) : mRg2 1 f g η S = .ok (.ref S2.length) (S2 ++ [.lst (rangeW i (j - i).toNat)]) := by
  unfold mRg2
  rw [hf]
  show ((g η S1).bind _) = _
  rw [hg]
  show rgOut 1 i j S2 = _
  unfold rgOut
  rw [if_pos h] <;> rfl
abbrev rE (i n L sh F q : Nat) (tw mw : Option W) : Env := [some (.ref i), some (nW n), some (.ref L), some (nW sh), some (.ref F), some (nW q), tw, mw, none]
theorem row_else {d i n L sh F q : Nat} {tw mw : Option W} {S : Store} {l f : List Nat} (h6 : n ≤ 6) (h : Rw S i L F n l f) : ∃ S1 l' f', (sIf (mTCmp opGt2 (mBi baLen (maCons (mVar 2) (maNil))) (mC (.int 0))) (sDrop (mMeth 5 omAppend (mVar 4) (maCons (mMeth 5 omPopAt (mVar 2) (maCons (mCall (fns T (d + 1)) 35 (maCons (mVar 0) (maCons (mBi baMin2 (maCons (mBi baLen (maCons (mVar 2) (maNil))) (maCons (mIf (mTCmp opEq (mVar 3) (mC (.int 2))) (mC (.int 4)) (mBi baLen (maCons (mVar 2) (maNil)))) (maNil)))) (maNil)))) (maNil))) (maNil)))) (sNx)) (rE i n L sh F q tw mw) S = .nx (rE i n L sh F q tw mw) S1 ∧ Rw S1 i L F n l' f' ∧ S1.length = S.length ∧ f'.length ≤ f.length + 1 := by
  have hd := dk_le h6
  have hlen := h.len
  have elen : (mBi baLen (maCons (mVar 2) (maNil))) (rE i n L sh F q tw mw) S = .ok (nW l.length) S := len_ref rfl h.hl
  have tst : (mTCmp opGt2 (mBi baLen (maCons (mVar 2) (maNil))) (mC (.int 0))) (rE i n L sh F q tw mw) S = .ok (decide ((0 : Int) < (l.length : Int))) S := mTCmp_ok elen mC_ok rfl
  by_cases h0 : l.length = 0
  · rw [decide_eq_false (by omega)] at tst
    exact ⟨S, l, f, sIf_n tst, h, rfl, by omega⟩
  · rw [decide_eq_true (by omega)] at tst
    have eM : ∃ M : Nat, 0 < M ∧ (mIf (mTCmp opEq (mVar 3) (mC (.int 2))) (mC (.int 4)) (mBi baLen (maCons (mVar 2) (maNil)))) (rE i n L sh F q tw mw) S = .ok (nW M) S := by
      have et : (mTCmp opEq (mVar 3) (mC (.int 2))) (rE i n L sh F q tw mw) S = .ok ((sh : Int) == 2) S := mTCmp_ok (x := nW sh) (S1 := S) (mVar_ok rfl) mC_ok rfl
      by_cases e : sh = 2
      · rw [beq_iff_eq.mpr (show (sh : Int) = 2 by omega)] at et
        exact ⟨4, by decide, mIf_t et⟩
      · rw [beq_eq_false_iff_ne.mpr (show (sh : Int) ≠ 2 by omega)] at et
        exact ⟨l.length, by omega, (mIf_f et).trans elen⟩
    obtain ⟨M, hM, eM⟩ := eM
    have emin : (mBi baMin2 (maCons (mBi baLen (maCons (mVar 2) (maNil))) (maCons (mIf (mTCmp opEq (mVar 3) (mC (.int 2))) (mC (.int 4)) (mBi baLen (maCons (mVar 2) (maNil)))) (maNil)))) (rE i n L sh F q tw mw) S = .ok (.int (if (M : Int) < (l.length : Int) then (M : Int) else (l.length : Int))) S := mBi_ok (maCons_ok elen (maCons_ok eM maNil_ok)) rfl
    obtain ⟨v, v0, v1, S1, ec, w1, l1, o1⟩ := take_call (T := T) (d := d) (k := 35) (S := S) (i := i) (n := if (M : Int) < (l.length : Int) then (M : Int) else (l.length : Int)) rfl h.hw (by split <;> omega) (by split <;> omega)
    have hv : v < (l.length : Int) := by split at v1 <;> omega
    have h1 := h.of w1 o1
    have ecall : (mCall (fns T (d + 1)) 35 (maCons (mVar 0) (maCons (mBi baMin2 (maCons (mBi baLen (maCons (mVar 2) (maNil))) (maCons (mIf (mTCmp opEq (mVar 3) (mC (.int 2))) (mC (.int 4)) (mBi baLen (maCons (mVar 2) (maNil)))) (maNil)))) (maNil)))) (rE i n L sh F q tw mw) S = .ok (.int v) S1 := mCall_ok (maCons_ok (mVar_ok rfl) (maCons_ok emin maNil_ok)) ec
    have epop := pop_ok (k := 2) (r := L) (η := rE i n L sh F q tw mw) rfl h.hl ecall h1.hl v0 hv (by omega)
    have lvv : v.toNat < l.length := by omega
    have eap := append_ok (k := 4) (r := F) (η := rE i n L sh F q tw mw) (f := f) rfl h.hf epop (by rw [List.getElem?_set_ne h.LF]; exact h1.hf) (by omega)
    refine ⟨_, l.eraseIdx v.toNat, f ++ [l[v.toNat]], (sIf_t tst).trans (sDrop_ok eap), h1.move ?_, by rw [List.length_set, List.length_set, l1], by rw [List.length_append] <;> exact Nat.le_refl _⟩
    refine List.Perm.trans ?_ h.hp
    refine List.Perm.trans (l₂ := (l[v.toNat] :: l.eraseIdx v.toNat) ++ f) ?_ ((erase_perm l v.toNat lvv).append_right f)
    refine List.Perm.trans (l₂ := (f ++ [l[v.toNat]]) ++ l.eraseIdx v.toNat) List.perm_append_comm ?_
    refine List.Perm.trans (l₂ := f ++ (l[v.toNat] :: l.eraseIdx v.toNat)) ?_ List.perm_append_comm
    rw [List.append_assoc]
    exact .refl _
theorem row_then {d i n L sh F q : Nat} {tw mw : Option W} {S : Store} {l f : List Nat} (h6 : n ≤ 6) (h : Rw S i L F n l f) (hf : 1 < f.length) : ∃ S1 l' f' mw', (sSeq (sSet 7 (mBin opXor (mBin opIx (mVar 4) (mCall (fns T (d + 1)) 35 (maCons (mVar 0) (maCons (mBi baLen (maCons (mVar 4) (maNil))) (maNil))))) (mBin opIx (mVar 4) (mCall (fns T (d + 1)) 35 (maCons (mVar 0) (maCons (mBi baLen (maCons (mVar 4) (maNil))) (maNil))))))) (sIf (mTCmp opIn (mVar 7) (mVar 2)) (sSeq (sDrop (mMeth 5 omRemoveI (mVar 2) (maCons (mVar 7) (maNil)))) (sDrop (mMeth 5 omAppend (mVar 4) (maCons (mVar 7) (maNil))))) (sNx))) (rE i n L sh F q tw mw) S = .nx (rE i n L sh F q tw mw') S1 ∧ Rw S1 i L F n l' f' ∧ S1.length = S.length ∧ f'.length ≤ f.length + 1 := by
  have hd := dk_le h6
  have hlen := h.len
  have ix : ∀ (S : Store), Rw S i L F n l f → ∃ (a : Nat) (S1 : Store), (mBin opIx (mVar 4) (mCall (fns T (d + 1)) 35 (maCons (mVar 0) (maCons (mBi baLen (maCons (mVar 4) (maNil))) (maNil))))) (rE i n L sh F q tw mw) S = .ok (nW a) S1 ∧ Rw S1 i L F n l f ∧ S1.length = S.length := by
    intro S h
    obtain ⟨v, v0, v1, S1, ec, w1, l1, o1⟩ := take_call (T := T) (d := d) (k := 35) (S := S) (i := i) (n := (f.length : Int)) rfl h.hw (by omega) (by omega)
    have h1 := h.of w1 o1
    exact ⟨_, S1, ix_ref rfl (mCall_ok (maCons_ok (mVar_ok rfl) (maCons_ok (len_ref rfl h.hf) maNil_ok)) ec) h1.hf v0 v1, h1, l1⟩
  obtain ⟨a, S1, e1, h1, l1⟩ := ix S h
  obtain ⟨b, S2, e2, h2, l2⟩ := ix S1 h1
  have s7 : (sSet 7 (mBin opXor (mBin opIx (mVar 4) (mCall (fns T (d + 1)) 35 (maCons (mVar 0) (maCons (mBi baLen (maCons (mVar 4) (maNil))) (maNil))))) (mBin opIx (mVar 4) (mCall (fns T (d + 1)) 35 (maCons (mVar 0) (maCons (mBi baLen (maCons (mVar 4) (maNil))) (maNil))))))) (rE i n L sh F q tw mw) S = .nx (rE i n L sh F q tw (some (nW (a ^^^ b)))) S2 := by
    refine (sSet_ok (mBin_ok e1 e2 (z := nW (a ^^^ b)) ?_)).trans rfl
    show (if (0 : Int) ≤ (a : Int) ∧ (0 : Int) ≤ (b : Int) then some (W.int (((a : Int).toNat ^^^ (b : Int).toNat : Nat) : Int)) else none) = _
    rw [if_pos ⟨by omega, by omega⟩, Int.toNat_natCast, Int.toNat_natCast] <;> rfl
  have tst : (mTCmp opIn (mVar 7) (mVar 2)) (rE i n L sh F q tw (some (nW (a ^^^ b)))) S2 = .ok (decide (a ^^^ b ∈ l)) S2 := mTCmp_ok (S1 := S2) (x := nW (a ^^^ b)) (y := .ref L) (mVar_ok rfl) (mVar_ok rfl) (in_ref h2.hl)
  by_cases hm : a ^^^ b ∈ l
  · rw [decide_eq_true hm] at tst
    obtain ⟨j, hj, ej, er⟩ := remove_ok (k := 2) (q := 7) (η := rE i n L sh F q tw (some (nW (a ^^^ b)))) rfl rfl h2.hl hm
    have eap := append_ok (k := 4) (r := F) (η := rE i n L sh F q tw (some (nW (a ^^^ b)))) (S := S2.set L (.lst ((l.eraseIdx j).map nW))) (S1 := S2.set L (.lst ((l.eraseIdx j).map nW))) (f := f) (e := mVar 7) (x := a ^^^ b) rfl (by rw [List.getElem?_set_ne h.LF]; exact h2.hf) (mVar_ok rfl) (by rw [List.getElem?_set_ne h.LF]; exact h2.hf) (by omega)
    refine ⟨_, l.eraseIdx j, f ++ [a ^^^ b], some (nW (a ^^^ b)), (sSeq_nx s7).trans ((sIf_t tst).trans ((sSeq_nx (sDrop_ok er)).trans (sDrop_ok eap))), h2.move ?_, by rw [List.length_set, List.length_set, l2, l1], by rw [List.length_append] <;> exact Nat.le_refl _⟩
    refine List.Perm.trans ?_ h.hp
    rw [← ej]
    refine List.Perm.trans (l₂ := (l[j] :: l.eraseIdx j) ++ f) ?_ ((erase_perm l j hj).append_right f)
    refine List.Perm.trans (l₂ := (f ++ [l[j]]) ++ l.eraseIdx j) List.perm_append_comm ?_
    refine List.Perm.trans (l₂ := f ++ (l[j] :: l.eraseIdx j)) ?_ List.perm_append_comm
    rw [List.append_assoc]
    exact .refl _
  · rw [decide_eq_false hm] at tst
    exact ⟨S2, l, f, _, (sSeq_nx s7).trans (sIf_n tst), h2, by rw [l2, l1], by omega⟩
theorem row_body {d i n L sh F q : Nat} {tw mw : Option W} {S : Store} {l f : List Nat} (h6 : n ≤ 6) (h : Rw S i L F n l f) : ∃ S1 l' f' mw', p_law_row_3b (fns T (d + 1)) (rE i n L sh F q tw mw) S = .nx (rE i n L sh F q tw mw') S1 ∧ Rw S1 i L F n l' f' ∧ S1.length = S.length ∧ f'.length ≤ f.length + 1 := by
  have els : ∀ (S0 : Store), Rw S0 i L F n l f → S0.length = S.length → (mTAnd (mTCmp opEq (mVar 3) (mC (.int 1))) (mTAnd (mTCmp opGt2 (mBi baLen (maCons (mVar 4) (maNil))) (mC (.int 1))) (mTCmp opEq (mCall (fns T (d + 1)) 35 (maCons (mVar 0) (maCons (mC (.int 2)) (maNil)))) (mC (.int 0))))) (rE i n L sh F q tw mw) S = .ok false S0 → ∃ S1 l' f' mw', p_law_row_3b (fns T (d + 1)) (rE i n L sh F q tw mw) S = .nx (rE i n L sh F q tw mw') S1 ∧ Rw S1 i L F n l' f' ∧ S1.length = S.length ∧ f'.length ≤ f.length + 1 := by
    intro S0 h0 l0 e
    obtain ⟨S1, l', f', e1, r1, l1, f1⟩ := row_else (d := d) (sh := sh) (q := q) (tw := tw) (mw := mw) h6 h0
    exact ⟨S1, l', f', mw, (sIf_f e).trans e1, r1, by rw [l1, l0], f1⟩
  have e1 : (mTCmp opEq (mVar 3) (mC (.int 1))) (rE i n L sh F q tw mw) S = .ok ((sh : Int) == 1) S := mTCmp_ok (x := nW sh) (S1 := S) (mVar_ok rfl) mC_ok rfl
  have e2 : (mTCmp opGt2 (mBi baLen (maCons (mVar 4) (maNil))) (mC (.int 1))) (rE i n L sh F q tw mw) S = .ok (decide ((1 : Int) < (f.length : Int))) S := mTCmp_ok (len_ref rfl h.hf) mC_ok rfl
  by_cases hs : sh = 1
  · rw [beq_iff_eq.mpr (show (sh : Int) = 1 by omega)] at e1
    by_cases hf : 1 < f.length
    · rw [decide_eq_true (by omega)] at e2
      obtain ⟨v, v0, v1, S1, ec, w1, l1, o1⟩ := take_call (T := T) (d := d) (k := 35) (S := S) (i := i) (n := 2) rfl h.hw (by decide) (by decide)
      have h1 := h.of w1 o1
      have e3 : (mTCmp opEq (mCall (fns T (d + 1)) 35 (maCons (mVar 0) (maCons (mC (.int 2)) (maNil)))) (mC (.int 0))) (rE i n L sh F q tw mw) S = .ok (v == 0) S1 := mTCmp_ok (S1 := S1) (x := .int v) (mCall_ok (S1 := S) (maCons_ok (mVar_ok rfl) (maCons_ok mC_ok maNil_ok)) ec) mC_ok rfl
      by_cases hv : v = 0
      · rw [beq_iff_eq.mpr hv] at e3
        obtain ⟨S2, l', f', mw', e4, r4, l4, f4⟩ := row_then (d := d) (sh := sh) (q := q) (tw := tw) (mw := mw) h6 h1 hf
        exact ⟨S2, l', f', mw', (sIf_t ((mTAnd_t e1).trans ((mTAnd_t e2).trans e3))).trans e4, r4, by rw [l4, l1], f4⟩
      · rw [beq_eq_false_iff_ne.mpr hv] at e3
        exact els S1 h1 l1 ((mTAnd_t e1).trans ((mTAnd_t e2).trans e3))
    · rw [decide_eq_false (by omega)] at e2
      exact els S h rfl ((mTAnd_t e1).trans (mTAnd_f e2))
  · rw [beq_eq_false_iff_ne.mpr (show (sh : Int) ≠ 1 by omega)] at e1
    exact els S h rfl (mTAnd_f e1)
theorem row_loop {d i n L sh F q : Nat} {S : Store} (h6 : n ≤ 6) (h : Rw S i L F n (dk n) []) : ∃ S1 l f tw mw, forL (gVar 6) (p_law_row_3b (fns T (d + 1))) (rangeW ((0 : Nat) : Int) q) (rE i n L sh F q none none) S = .nx (rE i n L sh F q tw mw) S1 ∧ Rw S1 i L F n l f ∧ S1.length = S.length ∧ f.length ≤ q := by
  have hl := loop_ix (g := gVar 6) (b := p_law_row_3b (fns T (d + 1))) (fun t η S' => ∃ l f tw mw, η = rE i n L sh F q tw mw ∧ Rw S' i L F n l f ∧ S'.length = S.length ∧ f.length ≤ t) q 0 (fun t _ ht η S' ⟨l, f, tw, mw, he, hr, hn, hf⟩ => by
    subst he
    obtain ⟨S1, l', f', mw', e, r, n1, f1⟩ := row_body (d := d) (sh := sh) (q := q) (tw := some (.int (t : Int))) (mw := mw) h6 hr
    exact ⟨_, _, rfl, Nx.eq e ⟨l', f', _, mw', rfl, r, by rw [n1, hn], by omega⟩⟩) (rE i n L sh F q none none) S ⟨dk n, [], none, none, rfl, h, rfl, Nat.le_refl _⟩
  obtain ⟨η, S1, e, l, f, tw, mw, he, hr, hn, hf⟩ := hl
  subst he
  rw [Nat.zero_add] at hf
  exact ⟨S1, l, f, tw, mw, e, hr, hn, hf⟩
/-- a drawn row -/
theorem row_ok {d i n : Nat} {S : Store} (h1 : 1 ≤ n) (h6 : n ≤ 6) (hw : Well S i) : ∃ (f : List Nat) (S' : Store), fns T (d + 8) 39 [.ref i, nW n] S = .ok (.tup (f.map (dcd n))) S' ∧ f.Nodup ∧ (∀ b ∈ f, b < 2 ^ n ∧ b ≠ 0) ∧ f.length ≤ 12 ∧ Well S' i ∧ S'.length = S.length := by
  have hi : i < S.length := by
    obtain ⟨_, _, _, _, _, e⟩ := hw
    exact lt_get e
  have hd := dk_le h6
  have hp : 0 < 2 ^ n := Nat.pow_pos (by decide)
  have h64 := two6 h6
  have w1 : Well (S ++ [.lst ((dk n).map nW)]) i := by
    obtain ⟨a, b, c, ha, hb, e⟩ := hw
    exact ⟨a, b, c, ha, hb, get_app e⟩
  obtain ⟨x, x0, x1, S2, ec2, w2, l2, o2⟩ := take_call (T := T) (d := d + 6) (k := 35) (S := S ++ [.lst ((dk n).map nW)]) (i := i) (n := 3) rfl w1 (by decide) (by decide)
  obtain ⟨sh, hsh⟩ : ∃ sh : Nat, x = (sh : Int) := ⟨x.toNat, by omega⟩
  subst hsh
  have c2 : S2[S.length]? = some (.lst ((dk n).map nW)) := by rw [o2 _ (by omega)]; exact get_new
  have w3 : Well (S2 ++ [.lst []]) i := by
    obtain ⟨a, b, c, ha, hb, e⟩ := w2
    exact ⟨a, b, c, ha, hb, get_app e⟩
  have c3 : (S2 ++ [Cell.lst []])[S.length]? = some (.lst ((dk n).map nW)) := get_app c2
  have l2' : S2.length = S.length + 1 := by rw [l2, List.length_append] <;> rfl
  obtain ⟨y, y0, y1, S3, ec3, w4, l3, o3⟩ := take_call (T := T) (d := d + 6) (k := 35) (S := S2 ++ [.lst []]) (i := i) (n := (if ((dk n).length : Int) < 12 then ((dk n).length : Int) else 12) + 1) rfl w3 (by split <;> omega) (by split <;> omega)
  obtain ⟨q, hq⟩ : ∃ q : Nat, y = (q : Int) := ⟨y.toNat, by omega⟩
  subst hq
  have q12 : q ≤ 12 := by split at y1 <;> omega
  have rw0 : Rw S3 i S.length S2.length n (dk n) [] := ⟨w4, by rw [o3 _ (by omega)]; exact c3, by rw [o3 _ (by omega)]; exact get_new, by rw [List.append_nil], by omega, by omega, by omega⟩
  obtain ⟨S4, l, f, tw, mw, el, hr, l4, hf⟩ := row_loop (d := d + 6) (sh := sh) (q := q) h6 rw0
  have nd : (l ++ f).Nodup := hr.hp.nodup_iff.mpr (dk_nodup n)
  have hb : ∀ b ∈ f, b < 2 ^ n ∧ b ≠ 0 := fun b hbb => dk_mem (hr.hp.mem_iff.mp (List.mem_append_right l hbb))
  have l3' : S4.length = S.length + 2 := by rw [l4, l3, List.length_append, l2'] <;> rfl
  refine ⟨f, S4.take S.length, ?_, (List.nodup_append.mp nd).2.1, hb, by omega, ?_, by rw [List.length_take, l3']; omega⟩
  · refine (nf_call (η := [some (.ref i), some (nW n), none, none, none, none, none, none, none]) (np := 2) (nv := 9) (keep := false) (b := b_law_row) rfl rfl rfl).trans ?_
    have eb : b_law_row (fns T (d + 7)) [some (.ref i), some (nW n), none, none, none, none, none, none, none] S = .ret (.tup (f.map (dcd n))) S4 := by
      unfold b_law_row
      have p0 : (sPar 2 3 (maCons (mRg2 1 (mC (.int 1)) (mCall (fns T (d + 7)) 40 (maCons (mVar 1) (maNil)))) (maCons (mCall (fns T (d + 7)) 35 (maCons (mVar 0) (maCons (mC (.int 3)) (maNil)))) (maNil)))) [some (.ref i), some (nW n), none, none, none, none, none, none, none] S = .nx [some (.ref i), some (nW n), some (.ref S.length), some (nW sh), none, none, none, none, none] S2 := by
        have er : (mRg2 1 (mC (.int 1)) (mCall (fns T (d + 7)) 40 (maCons (mVar 1) (maNil)))) [some (.ref i), some (nW n), none, none, none, none, none, none, none] S = .ok (.ref S.length) (S ++ [.lst ((dk n).map nW)]) := by
          have := mRg2_ok (i := 1) (j := ((2 ^ n : Nat) : Int)) (f := mC (.int 1)) (g := mCall (fns T (d + 7)) 40 (maCons (mVar 1) (maNil))) (η := [some (.ref i), some (nW n), none, none, none, none, none, none, none]) (S := S) (S1 := S) (S2 := S) mC_ok (mCall_ok (S1 := S) (maCons_ok (S1 := S) (mVar_ok rfl) maNil_ok) (two_ok (d := d + 1) h1 h6)) (by omega)
          rw [show (((2 ^ n : Nat) : Int) - 1).toNat = 2 ^ n - 1 by omega, dk_rng] at this
          exact this
        unfold sPar
        rw [maCons_ok er (maCons_ok (mCall_ok (maCons_ok (mVar_ok rfl) (maCons_ok mC_ok maNil_ok)) ec2) maNil_ok)]
        rfl
      refine (sSeq_nx p0).trans ?_
      have p1 : (sPar 4 5 (maCons (mLstS (maNil)) (maCons (mCall (fns T (d + 7)) 35 (maCons (mVar 0) (maCons (mBin opAdd (mBi baMin2 (maCons (mC (.int 12)) (maCons (mBi baLen (maCons (mVar 2) (maNil))) (maNil)))) (mC (.int 1))) (maNil)))) (maNil)))) [some (.ref i), some (nW n), some (.ref S.length), some (nW sh), none, none, none, none, none] S2 = .nx (rE i n S.length sh S2.length q none none) S3 := by
        have e0 : (mLstS (maNil)) [some (.ref i), some (nW n), some (.ref S.length), some (nW sh), none, none, none, none, none] S2 = .ok (.ref S2.length) (S2 ++ [.lst []]) := mLstS_ok (xs := []) maNil_ok rfl (by show 0 ≤ bigLine; decide)
        have em : (mBin opAdd (mBi baMin2 (maCons (mC (.int 12)) (maCons (mBi baLen (maCons (mVar 2) (maNil))) (maNil)))) (mC (.int 1))) [some (.ref i), some (nW n), some (.ref S.length), some (nW sh), none, none, none, none, none] (S2 ++ [.lst []]) = .ok (.int ((if ((dk n).length : Int) < 12 then ((dk n).length : Int) else 12) + 1)) (S2 ++ [.lst []]) := mBin_ok (mBi_ok (maCons_ok mC_ok (maCons_ok (len_ref rfl c3) maNil_ok)) rfl) mC_ok rfl
        unfold sPar
        rw [maCons_ok e0 (maCons_ok (mCall_ok (maCons_ok (mVar_ok rfl) (maCons_ok em maNil_ok)) ec3) maNil_ok)]
        rfl
      refine (sSeq_nx p1).trans ?_
      have hit : (miRng rng1 (maCons (mVar 5) (maNil))) (rE i n S.length sh S2.length q none none) S3 = .ok (rangeW ((0 : Nat) : Int) q) S3 := miRng_ok (ws := [.int (q : Int)]) (maCons_ok (mVar_ok rfl) maNil_ok) (rng1_nat (by omega))
      refine (sSeq_nx ((sFor_ok hit).trans el)).trans ?_
      refine sRet_ok (mBi1_ok (x := .lst (f.map (dcd n))) (S1 := S4) ?_ rfl)
      have ecr := compR_ok (g := gVar 8) (e := mCall (fns T (d + 7)) 37 (maCons (mVar 8) (maCons (mVar 1) (maNil)))) (η := rE i n S.length sh S2.length q tw mw) (S := S4) (r := S2.length) (u := nW) (v := dcd n) (f := f) hr.hf (fun x hx => ⟨[some (.ref i), some (nW n), some (.ref S.length), some (nW sh), some (.ref S2.length), some (nW q), tw, mw, some (nW x)], rfl, mCall_ok (S1 := S4) (maCons_ok (mVar_ok rfl) (maCons_ok (mVar_ok rfl) maNil_ok)) (card_ok (d := d + 1) h1 h6 (hb x hx).1 (hb x hx).2)⟩) f.length 0 1000000 [] (by omega) (by omega) (by show 0 + f.length ≤ bigLine; unfold bigLine; omega)
      rw [List.drop_zero, List.nil_append] at ecr
      exact mCompD_ok (own := [8]) (η := rE i n S.length sh S2.length q tw mw) (mVar_ok rfl) ecr
    rw [eb]
    show (if pures (f.map (dcd n)) = true then R.ok (W.tup (f.map (dcd n))) (S4.take S.length) else .stuck) = _
    rw [if_pos (pures_dcd n f)]
  · obtain ⟨a, b, c, ha, hb', e⟩ := hr.hw
    exact ⟨a, b, c, ha, hb', by rw [List.getElem?_take, if_pos hi]; exact e⟩
end Lw
namespace Lw
open Mp C63
theorem rngW (a b : Nat) (ha : a < 1000000) (hb : b < 1000000) : rng2 [.int (a : Int), .int (b : Int)] = some ((List.range (b - a)).map fun i => nW (a + i)) := by
  show (if -4611686018427387904 ≤ (a : Int) ∧ (a : Int) < 4611686018427387904 ∧ -4611686018427387904 ≤ (b : Int) ∧ (b : Int) < 4611686018427387904 then some (rangeW (a : Int) (((b : Int) - (a : Int)).toNat)) else none) = _
  rw [if_pos (by omega), show ((b : Int) - (a : Int)).toNat = b - a by omega]
  unfold rangeW
  exact congrArg some (List.map_congr_left fun i _ => by show W.int ((a : Int) + (i : Int)) = W.int ((a + i : Nat) : Int); rw [Int.natCast_add])
abbrev pE (m : Nat) (w1 w2 w3 : Option W) (acc : List (List Nat)) (w5 w6 : Option W) : Env := [some (nW m), w1, w2, w3, some (.lst (acc.map tW)), w5, w6]
end Lw
namespace Lw
open Mp C63
theorem cut1 {α : Type} (x : α) (l : List α) : cutW (x :: l) (some 1) none = l := by
  unfold cutW
  show ((x :: l).drop (min 1 (l.length + 1))).take ((l.length + 1) - min 1 (l.length + 1)) = l
  rw [Nat.min_eq_left (by omega)]
  show l.take (l.length + 1 - 1) = l
  rw [Nat.add_sub_cancel, List.take_length]
theorem lotsby_ok {d n : Nat} {bs : List Nat} {S : Store} (h1 : 1 ≤ n) (h6 : n ≤ 6) (hb : ∀ b ∈ bs, b < 2 ^ n ∧ b ≠ 0) (hl : bs.length ≤ 12) : fns T (d + 9) 13 [.tup (bs.map (dcd n))] S = .ok (.lst ((lots bs).map tW)) S := by
  refine fr_ret (η := [some (.tup (bs.map (dcd n)))]) (b := b_dot_lots_by) (nv := 1) (S' := []) rfl rfl (pures1_tup n bs) rfl ?_ (pures_tW _)
  have e := pwith_ok (d := d) (y := 0) (S := []) h1 h6 hb hl
  simp only [b_dot_lots_by, List.all_cons, List.all_nil, List.map_cons, List.map_nil, List.getD_cons_zero, List.getD_cons_succ, Nat.reduceLT, Nat.lt_add_one, Nat.zero_lt_succ, decide_true, decide_false, Bool.and_true, Bool.and_self, sSeq, sSet, sDrop, sRet, sRetN, sIf, sNx, mCall, mCallK, maCons, maNil, mVar, mC, mBin, mUn, mBi, mIf, mTup, mLst, mTAnd, mTOr, mTNot, mTru, mTCmp, mAnd, mOr, mNot, mSl, moSome, moNone, miRng, miAll, sPar, sPar3, mtYes, gVar, R.bind, R.toS, RS.next, rOpt, rTruth, truthy, sized, bigLine, List.getElem?_cons_zero, List.getElem?_cons_succ, List.set_cons_zero, List.set_cons_succ, List.length_cons, List.length_nil, Nat.reduceAdd, Nat.reduceLeDiff, if_true, if_false, ite_true, ite_false, reduceIte, Bool.not_true, Bool.not_false, Bool.false_eq_true, finS, fin, reduceCtorEq, show W.int 0 = nW 0 from rfl, e, opSl, (wth_lots bs).1]
  simp only [lstOf, Option.map, cut1]
theorem dotlots_f {d n : Nat} {row : List Nat} {S : Store} (h1 : 1 ≤ n) (h6 : n ≤ 6) (hb : ∀ b ∈ row, b < 2 ^ n ∧ b ≠ 0) (nd : row.Nodup) (hl : row.length ≤ 12) : fns T (d + 10) 26 [.int n, .tup (row.map (dcd n))] S = .ok (.tup ((lots row).map tW)) S := by
  refine fr_ret (η := [some (.int n), some (.tup (row.map (dcd n)))]) (b := b_dot_lots) (nv := 2) (S' := []) rfl rfl (by show (true && (pures (row.map (dcd n)) && true)) = true; rw [pures_dcd] <;> rfl) rfl ?_ (pures_tW _)
  simp only [b_dot_lots, List.all_cons, List.all_nil, List.map_cons, List.map_nil, List.getD_cons_zero, List.getD_cons_succ, Nat.reduceLT, Nat.lt_add_one, Nat.zero_lt_succ, decide_true, decide_false, Bool.and_true, Bool.and_self, sSeq, sSet, sDrop, sRet, sRetN, sIf, sNx, mCall, mCallK, maCons, maNil, mVar, mC, mBin, mUn, mBi, mIf, mTup, mLst, mTAnd, mTOr, mTNot, mTru, mTCmp, mAnd, mOr, mNot, mSl, moSome, moNone, miRng, miAll, sPar, sPar3, mtYes, gVar, R.bind, R.toS, RS.next, rOpt, rTruth, truthy, sized, bigLine, List.getElem?_cons_zero, List.getElem?_cons_succ, List.set_cons_zero, List.set_cons_succ, List.length_cons, List.length_nil, Nat.reduceAdd, Nat.reduceLeDiff, if_true, if_false, ite_true, ite_false, reduceIte, Bool.not_true, Bool.not_false, Bool.false_eq_true, finS, fin, reduceCtorEq, checkr_ok (d := d + 1) (S := []) h1 h6 hb nd hl, lotsby_ok (d := d) (S := []) h1 h6 hb hl, baTuple, lstOf, Option.map]
def firstW : List (List Nat) → W
  | [] => .non
  | p :: _ => tW p
theorem okD_tW (L : List (List Nat)) {k : Nat} (h : 0 < k) : okDs (L.map tW) k = true := okDs_of fun w hw => by
  obtain ⟨p, _, rfl⟩ := List.mem_map.mp hw
  show (decide (0 < k) && okDs (p.map nW) (k - 1)) = true
  rw [okD_nW, decide_eq_true h] <;> rfl
theorem firstW_pure (L : List (List Nat)) : (firstW L).pure = true := by
  cases L with
  | nil => rfl
  | cons p r => exact pures_nW p
end Lw
namespace Lw
open Mp C63
theorem dpos (k : Nat) : decide ((0 : Int) < (k : Int)) = decide (0 < k) := by
  by_cases z : 0 < k
  · rw [decide_eq_true z, decide_eq_true (by omega)]
  · rw [decide_eq_false z, decide_eq_false (by omega)]
theorem ix0 {L : List (List Nat)} {p : List Nat} {S : Store} : opIx (.lst (tW p :: L.map tW)) (.int 0) S = some (tW p) := atW_f tW [] (l := p :: L) (a := 0) (by simp)
theorem len_row {n : Nat} {bs : List Nat} {S : Store} : baLen [.tup (bs.map (dcd n))] S = some (nW bs.length) := by
  show some (W.int ((bs.map (dcd n)).length : Int)) = _
  rw [List.length_map] <;> rfl
theorem len_tl {bs : List Nat} {S : Store} : baLen [tW bs] S = some (nW bs.length) := by
  show some (W.int ((bs.map nW).length : Int)) = _
  rw [List.length_map] <;> rfl
theorem eqWs_nil {L : List (List Nat)} : eqWs (L.map tW) [] = decide (L = []) := by
  cases L <;> rfl
theorem fewby_ok {d n : Nat} {bs : List Nat} {S : Store} (h1 : 1 ≤ n) (h6 : n ≤ 6) (hb : ∀ b ∈ bs, b < 2 ^ n ∧ b ≠ 0) (hl : bs.length ≤ 12) : fns T (d + 10) 14 [.tup (bs.map (dcd n))] S = .ok (firstW (lots bs)) S := by
  refine fr_ret (η := [some (.tup (bs.map (dcd n))), none]) (b := b_fewest_lot_by) (nv := 2) (S' := []) rfl rfl (pures1_tup n bs) rfl ?_ (firstW_pure _)
  have e := lotsby_ok (d := d) (S := []) h1 h6 hb hl
  have en : opNe (.lst ((lots bs).map tW)) (.lst []) [] = some (.bl (!decide (lots bs = []))) := by
    show (if (decide (0 < 30) && okDs ((lots bs).map tW) 29) = true ∧ true = true then some (W.bl (!eqWs ((lots bs).map tW) [])) else none) = _
    rw [okD_tW _ (by decide), if_pos ⟨rfl, rfl⟩, eqWs_nil]
  simp only [b_fewest_lot_by, List.all_cons, List.all_nil, List.map_cons, List.map_nil, List.getD_cons_zero, List.getD_cons_succ, Nat.reduceLT, Nat.lt_add_one, Nat.zero_lt_succ, decide_true, decide_false, Bool.and_true, Bool.and_self, sSeq, sSet, sDrop, sRet, sRetN, sIf, sNx, mCall, mCallK, maCons, maNil, mVar, mC, mBin, mUn, mBi, mIf, mTup, mLst, mTAnd, mTOr, mTNot, mTru, mTCmp, mAnd, mOr, mNot, mSl, moSome, moNone, miRng, miAll, sPar, sPar3, mtYes, gVar, R.bind, R.toS, RS.next, rOpt, rTruth, truthy, sized, bigLine, List.getElem?_cons_zero, List.getElem?_cons_succ, List.set_cons_zero, List.set_cons_succ, List.length_cons, List.length_nil, Nat.reduceAdd, Nat.reduceLeDiff, if_true, if_false, ite_true, ite_false, reduceIte, Bool.not_true, Bool.not_false, Bool.false_eq_true, finS, fin, reduceCtorEq, e, en]
  cases z : lots bs with
  | nil => rfl
  | cons p r =>
    rw [decide_eq_false (fun z => by cases z)]
    simp only [ix0, List.all_cons, List.all_nil, List.map_cons, List.map_nil, List.getD_cons_zero, List.getD_cons_succ, Nat.reduceLT, Nat.lt_add_one, Nat.zero_lt_succ, decide_true, decide_false, Bool.and_true, Bool.and_self, sSeq, sSet, sDrop, sRet, sRetN, sIf, sNx, mCall, mCallK, maCons, maNil, mVar, mC, mBin, mUn, mBi, mIf, mTup, mLst, mTAnd, mTOr, mTNot, mTru, mTCmp, mAnd, mOr, mNot, mSl, moSome, moNone, miRng, miAll, sPar, sPar3, mtYes, gVar, R.bind, R.toS, RS.next, rOpt, rTruth, truthy, sized, bigLine, List.getElem?_cons_zero, List.getElem?_cons_succ, List.set_cons_zero, List.set_cons_succ, List.length_cons, List.length_nil, Nat.reduceAdd, Nat.reduceLeDiff, if_true, if_false, ite_true, ite_false, reduceIte, Bool.not_true, Bool.not_false, Bool.false_eq_true, finS, fin, reduceCtorEq]
    rfl
theorem few_f {d n : Nat} {row : List Nat} {S : Store} (h1 : 1 ≤ n) (h6 : n ≤ 6) (hb : ∀ b ∈ row, b < 2 ^ n ∧ b ≠ 0) (nd : row.Nodup) (hl : row.length ≤ 12) : fns T (d + 11) 27 [.int n, .tup (row.map (dcd n))] S = .ok (firstW (lots row)) S := by
  refine fr_ret (η := [some (.int n), some (.tup (row.map (dcd n)))]) (b := b_fewest_lot) (nv := 2) (S' := []) rfl rfl (by show (true && (pures (row.map (dcd n)) && true)) = true; rw [pures_dcd] <;> rfl) rfl ?_ (firstW_pure _)
  simp only [b_fewest_lot, List.all_cons, List.all_nil, List.map_cons, List.map_nil, List.getD_cons_zero, List.getD_cons_succ, Nat.reduceLT, Nat.lt_add_one, Nat.zero_lt_succ, decide_true, decide_false, Bool.and_true, Bool.and_self, sSeq, sSet, sDrop, sRet, sRetN, sIf, sNx, mCall, mCallK, maCons, maNil, mVar, mC, mBin, mUn, mBi, mIf, mTup, mLst, mTAnd, mTOr, mTNot, mTru, mTCmp, mAnd, mOr, mNot, mSl, moSome, moNone, miRng, miAll, sPar, sPar3, mtYes, gVar, R.bind, R.toS, RS.next, rOpt, rTruth, truthy, sized, bigLine, List.getElem?_cons_zero, List.getElem?_cons_succ, List.set_cons_zero, List.set_cons_succ, List.length_cons, List.length_nil, Nat.reduceAdd, Nat.reduceLeDiff, if_true, if_false, ite_true, ite_false, reduceIte, Bool.not_true, Bool.not_false, Bool.false_eq_true, finS, fin, reduceCtorEq, checkr_ok (d := d + 2) (S := []) h1 h6 hb nd hl, fewby_ok (d := d) (S := []) h1 h6 hb hl]
end Lw
namespace Lw
open Mp C63
end Lw
namespace Lw
open C63
/-! dots put in another order -/
def obt : (Nat → Bool) → Nat → Nat
  | _, 0 => 0
  | f, k + 1 => 2 * obt (fun j => f (j + 1)) k + (f 0).toNat
def phi (n : Nat) (ord : List Nat) (b : Nat) : Nat := obt (fun t => b.testBit (n - 1 - ord.getD (n - 1 - t) 0)) n
theorem xor_lt {n a b : Nat} (ha : a < 2 ^ n) (hb : b < 2 ^ n) : a ^^^ b < 2 ^ n := Nat.xor_lt_two_pow ha hb
/-- a map that goes along with sums -/
structure Lin (n : Nat) (φ : Nat → Nat) : Prop where
  xor : ∀ a b, φ (a ^^^ b) = φ a ^^^ φ b
  zero : φ 0 = 0
  inj : ∀ a b, a < 2 ^ n → b < 2 ^ n → φ a = φ b → a = b
theorem sp_img {n : Nat} {φ : Nat → Nat} (L : Lin n φ) : ∀ {f : List Nat}, (∀ b ∈ f, b < 2 ^ n) → ∀ {z : Nat}, inSp (f.map φ) z ↔ ∃ y, y < 2 ^ n ∧ inSp f y ∧ z = φ y
  | [], _, z => by
    constructor
    · intro h
      have h : z = 0 := h
      exact ⟨0, Nat.pow_pos (by decide), rfl, by rw [h, L.zero]⟩
    · rintro ⟨y, _, hy, rfl⟩
      have hy : y = 0 := hy
      rw [hy]
      exact L.zero
  | a :: r, h, z => by
    have hr : ∀ b ∈ r, b < 2 ^ n := fun b hb => h b (List.mem_cons_of_mem _ hb)
    have ha := h a (List.mem_cons_self ..)
    show (inSp (r.map φ) z ∨ inSp (r.map φ) (z ^^^ φ a)) ↔ _
    rw [sp_img L hr, sp_img L hr]
    constructor
    · rintro (⟨y, q, hy, rfl⟩ | ⟨y, q, hy, e⟩)
      · exact ⟨y, q, .inl hy, rfl⟩
      · refine ⟨y ^^^ a, xor_lt q ha, .inr (by rw [Nat.xor_assoc, Nat.xor_self, Nat.xor_zero]; exact hy), ?_⟩
        rw [L.xor, ← e, Nat.xor_assoc, Nat.xor_self, Nat.xor_zero]
    · rintro ⟨y, q, hy | hy, rfl⟩
      · exact .inl ⟨y, q, hy, rfl⟩
      · exact .inr ⟨y ^^^ a, xor_lt q ha, hy, (L.xor y a).symm⟩
theorem sp_img_mem {n : Nat} {φ : Nat → Nat} (L : Lin n φ) {f : List Nat} (h : ∀ b ∈ f, b < 2 ^ n) {b : Nat} (hb : b < 2 ^ n) : inSp (f.map φ) (φ b) ↔ inSp f b := by
  rw [sp_img L h]
  constructor
  · rintro ⟨y, q, hy, e⟩
    rw [L.inj b y hb q e]
    exact hy
  · intro hy
    exact ⟨b, hb, hy, rfl⟩
theorem rk_img {n : Nat} {φ : Nat → Nat} (L : Lin n φ) {f : List Nat} (h : ∀ b ∈ f, b < 2 ^ n) : rk (f.map φ) = rk f := by
  have main : ∀ r : List Nat, (∀ b ∈ r, b < 2 ^ n) → rk (r.reverse.map φ) = rk r.reverse := by
    intro r
    induction r with
    | nil =>
      intro _
      rfl
    | cons c r ih =>
      intro h
      have hr : ∀ b ∈ r, b < 2 ^ n := fun b hb => h b (List.mem_cons_of_mem _ hb)
      have ih := ih hr
      have hc := h c (List.mem_cons_self ..)
      have hrr : ∀ b ∈ r.reverse, b < 2 ^ n := fun b hb => hr b (List.mem_reverse.mp hb)
      rw [List.reverse_cons, List.map_append]
      show rk (r.reverse.map φ ++ [φ c]) = rk (r.reverse ++ [c])
      obtain ⟨x1, x2⟩ := rk_snoc (r.reverse.map φ) (φ c)
      obtain ⟨y1, y2⟩ := rk_snoc r.reverse c
      by_cases z : inSp r.reverse c
      · rw [y1 z, x1 ((sp_img_mem L hrr hc).mpr z), ih]
      · rw [y2 z, x2 fun q => z ((sp_img_mem L hrr hc).mp q), ih]
  have := main f.reverse fun b hb => h b (List.mem_reverse.mp hb)
  rw [List.reverse_reverse] at this
  exact this
end Lw
namespace Lw
open C63
theorem xs_lt {n : Nat} : ∀ {f : List Nat}, (∀ b ∈ f, b < 2 ^ n) → xs f < 2 ^ n
  | [], _ => Nat.pow_pos (by decide)
  | a :: r, h => Nat.xor_lt_two_pow (h a (List.mem_cons_self ..)) (xs_lt fun b hb => h b (List.mem_cons_of_mem _ hb))
theorem lots_sorted (bs : List Nat) : (lots bs).Pairwise lenlex := by
  have : (wth bs 0).Pairwise lenlex := (fd_sorted _ _).filter _
  rw [(wth_lots bs).1] at this
  exact (List.pairwise_cons.mp this).2
/-- two rows in this order with the same members -/
theorem lex_asym : ∀ {r s : List Nat}, lexlt r s → ¬ lexlt s r
  | a :: r, b :: s, h, k => by
    rcases h with h | ⟨h, h2⟩ <;> rcases k with k | ⟨k, k2⟩
    · omega
    · omega
    · omega
    · exact lex_asym h2 k2
theorem lenlex_asym {p q : List Nat} (h : lenlex p q) : ¬ lenlex q p := fun k => by
  rcases h with h | ⟨h, h2⟩ <;> rcases k with k | ⟨k, k2⟩
  · omega
  · omega
  · omega
  · exact lex_asym h2 k2
/-- a card taken out -/
def shf (k : Nat) (p : List Nat) : List Nat := p.map fun j => if j < k then j else j - 1
def uns (k : Nat) (p : List Nat) : List Nat := p.map fun j => if j < k then j else j + 1
def era (k : Nat) (bs : List Nat) : List Nat := bs.take k ++ bs.drop (k + 1)
end Lw
namespace Lw
open Mp C63
/-! sums of rows, cards as texts; points too -/
theorem c_cardof (d : Nat) : ([1, 2, 3, 4, 5, 6] : List Nat).all (fun n => (List.range (2 ^ n)).all fun b => isStr (fns T (d + 6) 8 [.int (n : Nat), .int (b : Nat)] []) (ds n b)) = true := by kernel_rfl
theorem cardof_ok {d n b : Nat} {S : Store} (h1 : 1 ≤ n) (h6 : n ≤ 6) (hb : b < 2 ^ n) : fns T (d + 6) 8 [.int n, nW b] S = .ok (dcd n b) S := fr_any rfl (isStr_ok (List.all_eq_true.mp (List.all_eq_true.mp (c_cardof d) n (mem16 h1 h6)) b (List.mem_range.mpr hb)))
theorem sbits_loop {φ : Fns} {w0 : Option W} : ∀ (l : List Nat) (a : Nat) (x : Option W), ∃ x', forL (gVar 2) (p_sum_of_bits_2b φ) (l.map nW) [w0, some (nW a), x] [] = .nx [w0, some (nW (a ^^^ xs l)), x'] []
  | [], a, x => ⟨x, by
    rw [show xs [] = 0 from rfl, Nat.xor_zero] <;> rfl⟩
  | b :: r, a, x => by
    obtain ⟨x', e⟩ := sbits_loop (φ := φ) (w0 := w0) r (a ^^^ b) (some (nW b))
    refine ⟨x', ?_⟩
    rw [show xs (b :: r) = b ^^^ xs r from rfl, ← Nat.xor_assoc, ← e]
    rfl
theorem sbits_ok {d : Nat} {l : List Nat} {S : Store} : fns T (d + 1) 9 [.lst (l.map nW)] S = .ok (nW (xs l)) S := by
  refine fr_ret (η := [some (.lst (l.map nW)), none, none]) (b := b_sum_of_bits) (nv := 3) (S' := []) rfl rfl (pures1_nl l) rfl ?_ rfl
  obtain ⟨x', e⟩ := sbits_loop (φ := fns T d) (w0 := some (.lst (l.map nW))) l 0 none
  rw [Nat.zero_xor] at e
  unfold b_sum_of_bits
  exact (sSeq_nx (η1 := [some (.lst (l.map nW)), some (nW 0), none]) (S1 := []) rfl).trans ((sSeq_nx ((sFor_ok (S1 := []) (xs := l.map nW) rfl).trans e)).trans rfl)
theorem sumby_ok {d n : Nat} {bs : List Nat} {S : Store} (h1 : 1 ≤ n) (h6 : n ≤ 6) (hb : ∀ b ∈ bs, b < 2 ^ n ∧ b ≠ 0) (hl : bs.length ≤ 1000) : fns T (d + 7) 10 [.int n, .tup (bs.map (dcd n))] S = .ok (dcd n (xs bs)) S := by
  refine fr_ret (η := [some (.int n), some (.tup (bs.map (dcd n))), none]) (b := b_dot_sum_by) (nv := 3) (S' := []) rfl rfl (by show (true && (pures (bs.map (dcd n)) && true)) = true; rw [pures_dcd] <;> rfl) rfl ?_ rfl
  unfold b_dot_sum_by
  have ec : (mComp (miSeq (mVar 1)) [2] (gVar 2) (mtYes) (mCall (fns T (d + 6)) 7 (maCons (mVar 2) (maNil)))) [some (.int n), some (.tup (bs.map (dcd n))), none] [] = .ok (.lst (bs.map nW)) [] := comp_gen (u := dcd n) rfl (fun b hbb => ⟨_, rfl, rfl, mCall_ok (S1 := []) (maCons_ok (mVar_ok rfl) maNil_ok) (bits_ok (d := d) h1 h6 (hb b hbb).1 (hb b hbb).2)⟩) (by unfold bigLine; omega)
  exact sRet_ok (mCall_ok (S1 := []) (xs := [.int n, nW (xs bs)]) (maCons_ok (mVar_ok rfl) (maCons_ok (mCall_ok (S1 := []) (maCons_ok ec maNil_ok) (sbits_ok (d := d + 5))) maNil_ok)) (cardof_ok (d := d) h1 h6 (xs_lt fun b h => (hb b h).1)))
theorem sum_f {d n : Nat} {row : List Nat} {S : Store} (h1 : 1 ≤ n) (h6 : n ≤ 6) (hb : ∀ b ∈ row, b < 2 ^ n ∧ b ≠ 0) (nd : row.Nodup) (hl : row.length ≤ 12) : fns T (d + 9) 25 [.int n, .tup (row.map (dcd n))] S = .ok (dcd n (xs row)) S := by
  refine fr_ret (η := [some (.int n), some (.tup (row.map (dcd n)))]) (b := b_dot_sum) (nv := 2) (S' := []) rfl rfl (by show (true && (pures (row.map (dcd n)) && true)) = true; rw [pures_dcd] <;> rfl) rfl ?_ rfl
  simp only [b_dot_sum, List.all_cons, List.all_nil, List.map_cons, List.map_nil, List.getD_cons_zero, List.getD_cons_succ, Nat.reduceLT, Nat.lt_add_one, Nat.zero_lt_succ, decide_true, decide_false, Bool.and_true, Bool.and_self, sSeq, sSet, sDrop, sRet, sRetN, sIf, sNx, mCall, mCallK, maCons, maNil, mVar, mC, mBin, mUn, mBi, mIf, mTup, mLst, mTAnd, mTOr, mTNot, mTru, mTCmp, mAnd, mOr, mNot, mSl, moSome, moNone, miRng, miAll, sPar, sPar3, mtYes, gVar, R.bind, R.toS, RS.next, rOpt, rTruth, truthy, sized, bigLine, List.getElem?_cons_zero, List.getElem?_cons_succ, List.set_cons_zero, List.set_cons_succ, List.length_cons, List.length_nil, Nat.reduceAdd, Nat.reduceLeDiff, if_true, if_false, ite_true, ite_false, reduceIte, Bool.not_true, Bool.not_false, Bool.false_eq_true, finS, fin, reduceCtorEq, checkr_ok (d := d) (S := []) h1 h6 hb nd hl, sumby_ok (d := d + 1) (S := []) h1 h6 hb (show row.length ≤ 1000 by omega)]
theorem same_str {d : Nat} {s : List Nat} {S : Store} : fns T (d + 1) 36 [.str s, .str s] S = .ok (.bl true) S := by
  refine fr_ret (η := [some (.str s), some (.str s), none]) (b := b_law_same) (nv := 3) (S' := []) rfl rfl rfl rfl ?_ rfl
  have e : b_law_same (fns T d) [some (.str s), some (.str s), none] [] = .ret (.bl (s == s)) [] := rfl
  rw [e, beq_self_eq_true]
theorem same_tD {d n : Nat} {bs : List Nat} {S : Store} (hl : bs.length < 1000000) : fns T (d + 2) 36 [.tup (bs.map (dcd n)), .tup (bs.map (dcd n))] S = .ok (.bl true) S := same_tup (fun w hw => by
  obtain ⟨r, h, rfl⟩ := List.mem_map.mp hw
  exact same_str) (pures_dcd n bs) (by rw [List.length_map]; exact hl)
end Lw
namespace Lw
open Mp C63
/-! k69: lots by their size -/
def cnts (bs : List Nat) : List Nat := (List.range bs.length).map fun k => ((lots bs).map List.length).count (k + 1)
theorem cnts_len (bs : List Nat) : (cnts bs).length = bs.length := by
  unfold cnts
  rw [List.length_map, List.length_range]
theorem lots_few {bs : List Nat} (hl : bs.length ≤ 12) : (lots bs).length ≤ 5000 := by
  have := wth_le hl 0
  rw [(wth_lots bs).1, List.length_cons] at this
  omega
theorem lot_len {bs p : List Nat} (hp : p ∈ lots bs) : p.length ≤ bs.length := by
  obtain ⟨⟨⟨a, b⟩, _⟩, _⟩ := mem_lots.mp hp
  exact asc_len a b
theorem eqN {a b : Nat} : ((a : Int) == (b : Int)) = decide (a = b) := by
  by_cases c : a = b
  · rw [c, decide_eq_true rfl]
    exact beq_self_eq_true _
  · rw [decide_eq_false c]
    exact beq_eq_false_iff_ne.mpr (by omega)
theorem count_zI (l : List Nat) (k : Nat) : (l.map fun (n : Nat) => (n : Int)).count (k : Int) = l.count k := by
  induction l with
  | nil => rfl
  | cons x l ih =>
    rw [List.map_cons, List.count_cons, List.count_cons, ih, eqN]
    by_cases c : x = k
    · rw [c, decide_eq_true rfl, beq_self_eq_true]
    · rw [decide_eq_false c, beq_eq_false_iff_ne.mpr c]
theorem byszby_ok {d n : Nat} {bs : List Nat} {S : Store} (h1 : 1 ≤ n) (h6 : n ≤ 6) (hb : ∀ b ∈ bs, b < 2 ^ n ∧ b ≠ 0) (hl : bs.length ≤ 12) : fns T (d + 10) 15 [.tup (bs.map (dcd n))] S = .ok (.lst ((cnts bs).map nW)) S := by
  refine fr_ret (η := [some (.tup (bs.map (dcd n))), none, none, none]) (b := b_dot_lots_by_size_by) (nv := 4) (S' := []) rfl rfl (pures1_tup n bs) rfl ?_ (pures_nW _)
  have hf := lots_few hl
  have hit : (miSeq (mCall (fns T (d + 9)) 13 (maCons (mVar 0) (maNil)))) [some (.tup (bs.map (dcd n))), none, none, none] [] = .ok ((lots bs).map tW) [] := by
    unfold miSeq
    rw [mCall_ok (S1 := []) (maCons_ok (S1 := []) (mVar_ok rfl) maNil_ok) (lotsby_ok (d := d) h1 h6 hb hl)]
    rfl
  have e1 : (mComp (miSeq (mCall (fns T (d + 9)) 13 (maCons (mVar 0) (maNil)))) [2] (gVar 2) (mtYes) (mBi baLen (maCons (mVar 2) (maNil)))) [some (.tup (bs.map (dcd n))), none, none, none] [] = .ok (.lst (((lots bs).map List.length).map nW)) [] := by
    rw [List.map_map]
    exact comp_gen (u := tW) hit (fun p hp => ⟨[some (.tup (bs.map (dcd n))), none, some (tW p), none], rfl, rfl, mBi1_ok (S1 := []) (mVar_ok rfl) len_tl⟩) (by unfold bigLine; omega)
  unfold b_dot_lots_by_size_by
  refine (sSeq_nx (η1 := [some (.tup (bs.map (dcd n))), some (.lst (((lots bs).map List.length).map nW)), none, none]) (S1 := []) ((sSet_ok e1).trans rfl)).trans ?_
  obtain ⟨η1, hη⟩ : ∃ η1 : Nat → Env, η1 = fun k => [some (.tup (bs.map (dcd n))), some (.lst (((lots bs).map List.length).map nW)), none, some (nW (1 + k))] := ⟨_, rfl⟩
  have hi : (miRng rng2 (maCons (mC (.int 1)) (maCons (mBin opAdd (mBi baLen (maCons (mVar 0) (maNil))) (mC (.int 1))) (maNil)))) [some (.tup (bs.map (dcd n))), some (.lst (((lots bs).map List.length).map nW)), none, none] [] = .ok ((List.range bs.length).map fun i => nW (1 + i)) [] := by
    refine miRng_ok (ws := [.int ((1 : Nat) : Int), .int ((bs.length + 1 : Nat) : Int)]) (maCons_ok (S1 := []) mC_ok (maCons_ok (S1 := []) (mBin_ok (S1 := []) (mBi1_ok (S1 := []) (mVar_ok rfl) len_row) mC_ok rfl) rfl)) ?_
    rw [rngW 1 (bs.length + 1) (by decide) (by omega), Nat.add_sub_cancel]
  have hc : ∀ k, (mMeth 5 omCountI (mVar 1) (maCons (mVar 3) (maNil))) (η1 k) [] = .ok (nW (((lots bs).map List.length).count (k + 1))) [] := fun k => by
    rw [hη]
    refine mMeth_ok (S1 := []) (S2 := []) (x := .lst (((lots bs).map List.length).map nW)) (ws := [nW (1 + k)]) (mVar_ok rfl) rfl (maCons_ok (S1 := []) (mVar_ok rfl) rfl) ?_
    have e : omCountI (.lst (((lots bs).map List.length).map nW)) [nW (1 + k)] [] = (intsOf (((lots bs).map List.length).map nW)).map (fun ns => (W.int (ns.count ((1 + k : Nat) : Int) : Nat), ([] : Store))) := rfl
    rw [e, intsOf_nW]
    show some (W.int (((((lots bs).map List.length).map fun (n : Nat) => (n : Int)).count ((1 + k : Nat) : Int) : Nat)), ([] : Store)) = _
    rw [count_zI, Nat.add_comm 1 k]
    rfl
  have hm : (mComp (miRng rng2 (maCons (mC (.int 1)) (maCons (mBin opAdd (mBi baLen (maCons (mVar 0) (maNil))) (mC (.int 1))) (maNil)))) [3] (gVar 3) (mtYes) (mMeth 5 omCountI (mVar 1) (maCons (mVar 3) (maNil)))) [some (.tup (bs.map (dcd n))), some (.lst (((lots bs).map List.length).map nW)), none, none] [] = .ok (.lst ((List.range bs.length).map fun k => nW (((lots bs).map List.length).count (k + 1)))) [] :=
    comp_gen (u := fun i => nW (1 + i)) hi (fun k _ => ⟨η1 k, by rw [hη] <;> rfl, rfl, hc k⟩) (by rw [List.length_range]; unfold bigLine; omega)
  refine sRet_ok (hm.trans ?_)
  unfold cnts
  rw [List.map_map] <;> rfl
theorem bysz_f {d n : Nat} {bs : List Nat} {S : Store} (h1 : 1 ≤ n) (h6 : n ≤ 6) (hb : ∀ b ∈ bs, b < 2 ^ n ∧ b ≠ 0) (nd : bs.Nodup) (hl : bs.length ≤ 12) : fns T (d + 11) 28 [.int n, .tup (bs.map (dcd n))] S = .ok (tW (cnts bs)) S := by
  refine fr_ret (η := [some (.int n), some (.tup (bs.map (dcd n)))]) (b := b_dot_lots_by_size) (nv := 2) (S' := []) rfl rfl (by show (true && (pures (bs.map (dcd n)) && true)) = true; rw [pures_dcd] <;> rfl) rfl ?_ (pures_nW _)
  unfold b_dot_lots_by_size
  refine (sSeq_nx (sDrop_ok (mCall_ok (S1 := []) (maCons_ok (S1 := []) (mVar_ok rfl) (maCons_ok (S1 := []) (mVar_ok rfl) rfl)) (checkr_ok (d := d + 2) h1 h6 hb nd hl)))).trans ?_
  exact sRet_ok (mBi1_ok (S1 := []) (mCall_ok (S1 := []) (maCons_ok (S1 := []) (mVar_ok rfl) rfl) (byszby_ok (d := d) h1 h6 hb hl)) rfl)
/-- lots counted one by one -/
def lotq (bs p : List Nat) : Bool := decide (0 < p.length) && decide (xs (sel bs p) = 0)
def addAt (f : List Nat) (k : Nat) : List Nat := f.set k (f.getD k 0 + 1)
def tally (bs : List Nat) : List (List Nat) → List Nat → List Nat
  | [], f => f
  | p :: L, f => tally bs L (if lotq bs p = true then addAt f (p.length - 1) else f)
end Lw
namespace Lw
open Mp
/-! general: a store kept but for the well; comprehensions that draw -/
def Kp (i : Nat) (S0 S : Store) : Prop := Well S i ∧ S.length = S0.length ∧ ∀ j, j ≠ i → S[j]? = S0[j]?
theorem Kp.refl {i : Nat} {S : Store} (h : Well S i) : Kp i S S := ⟨h, rfl, fun _ _ => rfl⟩
theorem Kp.next {i : Nat} {S0 S S' : Store} (k : Kp i S0 S) (h : Well S' i) (l : S'.length = S.length) (o : ∀ j, j ≠ i → S'[j]? = S[j]?) : Kp i S0 S' := ⟨h, l.trans k.2.1, fun j hj => (o j hj).trans (k.2.2 j hj)⟩
theorem Kp.trans {i : Nat} {S0 S S' : Store} (k : Kp i S0 S) (k2 : Kp i S S') : Kp i S0 S' := k.next k2.1 k2.2.1 k2.2.2
end Lw
namespace Lw
open Mp C63
/-! lemmas from other parts -/
theorem strsOf_map : ∀ l : List (List Nat), strsOf (l.map W.str) = some l
  | [] => rfl
  | x :: r => by
    show (strsOf (r.map W.str)).map (x :: ·) = _
    rw [strsOf_map r] <;> rfl
theorem join_ok {g : ME} {η : Env} {S S' : Store} {L : List Nat} (h : g η S = .ok (.lst (L.map fun c => .str [c])) S') (hl : L.length ≤ 1000) : mJoin (mC (.str [])) g η S = .ok (.str L) S' := by
  unfold mJoin
  show ((g η S).bind fun y S2 => rOpt (opJoin (.str []) y S2) S2) = _
  rw [h]
  show rOpt (opJoin (.str []) (.lst (L.map fun c => .str [c])) S') S' = _
  have e1 : (L.map fun c => W.str [c]) = (L.map fun c => [c]).map W.str := by rw [List.map_map] <;> rfl
  have e2 : ∀ L : List Nat, joinW [] (L.map fun c => [c]) = L := fun L => by
    induction L with
    | nil => rfl
    | cons x r ih =>
      cases r with
      | nil => rfl
      | cons y s =>
        show [x] ++ [] ++ joinW [] ((y :: s).map fun c => [c]) = _
        rw [ih] <;> rfl
  have e3 : ∀ L : List Nat, ((L.map fun c => [c]).map (·.length)).sum = L.length := fun L => by
    induction L with
    | nil => rfl
    | cons x r ih =>
      rw [List.map_cons, List.map_cons, List.sum_cons, ih]
      simp only [List.length_cons, List.length_nil]
      omega
  show rOpt ((strsOf (L.map fun c => W.str [c])).bind (fun zs => if (zs.map (·.length)).sum + zs.length * ([] : List Nat).length ≤ bigLine then some (W.str (joinW [] zs)) else none)) S' = _
  rw [e1, strsOf_map]
  show rOpt (if ((L.map fun c => [c]).map (·.length)).sum + (L.map fun c => [c]).length * 0 ≤ bigLine then some (W.str (joinW [] (L.map fun c => [c]))) else none) S' = _
  rw [e3, e2, if_pos (by unfold bigLine; omega)] <;> rfl
theorem fin_ref {n : Nat} {S : Store} {xs : List W} (h : S[n]? = some (.lst xs)) (hp : pures xs = true) : fin false n (.ref n) S = .ok (.lst xs) (S.take n) := by
  unfold fin
  have e : (W.ref n).pure = false := rfl
  rw [if_neg (by rw [e]; decide)]
  show (if n < n then R.ok (W.ref n) (S.take n) else (match S[n]? with
    | some (.lst xs) => if pures xs = true then (if false = true then .ok (.ref n) (S.take n ++ [.lst xs]) else .ok (.lst xs) (S.take n)) else .stuck
    | _ => .stuck)) = _
  rw [if_neg (Nat.lt_irrefl n), h]
  show (if pures xs = true then _ else _) = _
  rw [if_pos hp] <;> rfl
theorem nf_refl {T : List Fun} {d k np nv : Nat} {b : Fns → MS} {ws xs : List W} {η : Env} {S S' : Store} (h : T[k]? = some ⟨np, nv, false, false, b⟩) (hl : ws.length = np) (hη : ws.map some ++ List.replicate (nv - np) none = η) (e : b (fns T d) η S = .ret (.ref S.length) S') (hx : S'[S.length]? = some (.lst xs)) (hp : pures xs = true) : fns T (d + 1) k ws S = .ok (.lst xs) (S'.take S.length) := by
  rw [nf_call (keep := false) h hl hη, e]
  exact fin_ref hx hp
theorem compS_of {it : MI} {own : List Nat} {g : MG} {t : MT} {e : ME} {η : Env} {S S' : Store} {ws : List W} (h : mComp it own g t e η S = .ok (.lst ws) S') (hp : pures ws = true) : mCompS it own g t e η S = .ok (.ref S'.length) (S' ++ [.lst ws]) := by
  unfold mComp at h
  unfold mCompS
  cases ei : it η S with
  | stuck => rw [ei] at h; cases h
  | exc c x S1 => rw [ei] at h; cases h
  | ok xs S1 =>
    rw [ei] at h
    replace h : (noexc (compL g t e (wipeE η own) xs S1 [])).bind (fun ws S2 => R.ok (W.lst ws) S2) = .ok (.lst ws) S' := h
    show (noexc (compL g t e (wipeE η own) xs S1 [])).bind (fun (ws : List W) (S2 : Store) => if pures ws = true then R.ok (W.ref S2.length) (S2 ++ [.lst ws]) else R.stuck) = _
    cases ec : noexc (compL g t e (wipeE η own) xs S1 []) with
    | stuck => rw [ec] at h; cases h
    | exc c x S2 => rw [ec] at h; cases h
    | ok ws' S2 =>
      rw [ec] at h
      replace h : R.ok (W.lst ws') S2 = .ok (.lst ws) S' := h
      injection h with h1 h2
      injection h1 with h1
      subst h1 h2
      exact if_pos hp
end Lw
namespace Lw
open Mp C63
/-! rows led by maps that go along with sums: plain -/
section
variable {n : Nat} {φ : Nat → Nat} {bs : List Nat}
theorem xs_img (L : Lin n φ) : ∀ f : List Nat, xs (f.map φ) = φ (xs f)
  | [] => L.zero.symm
  | a :: r => by
    show φ a ^^^ xs (r.map φ) = φ (a ^^^ xs r)
    rw [xs_img L r, L.xor]
theorem getD_map0 (h0 : φ 0 = 0) (bs : List Nat) (k : Nat) : (bs.map φ).getD k 0 = φ (bs.getD k 0) := by
  rw [List.getD_eq_getElem?_getD, List.getD_eq_getElem?_getD, List.getElem?_map]
  cases bs[k]? with
  | none => exact h0.symm
  | some x => rfl
theorem sel_img (h0 : φ 0 = 0) (p : List Nat) : sel (bs.map φ) p = (sel bs p).map φ := by
  unfold sel
  rw [List.map_map]
  exact List.map_congr_left fun k _ => getD_map0 h0 bs k
theorem sel_lt (hb : ∀ b ∈ bs, b < 2 ^ n) (p : List Nat) : ∀ b ∈ sel bs p, b < 2 ^ n := fun b hm => by
  obtain ⟨k, _, rfl⟩ := List.mem_map.mp hm
  rw [List.getD_eq_getElem?_getD]
  cases e : bs[k]? with
  | none => exact Nat.pow_pos (by decide)
  | some x => exact hb x (List.mem_of_getElem? e)
theorem lots_img (L : Lin n φ) (hb : ∀ b ∈ bs, b < 2 ^ n) : lots (bs.map φ) = lots bs := by
  unfold lots wth
  rw [List.length_map]
  refine congrArg List.tail (List.filter_congr fun p _ => ?_)
  rw [sel_img L.zero, xs_img L]
  refine decide_eq_decide.mpr ⟨fun e => L.inj _ _ (xs_lt (sel_lt hb p)) (Nat.pow_pos (by decide)) (e.trans L.zero.symm), fun e => by rw [e, L.zero]⟩
theorem bss_img (L : Lin n φ) (hb : ∀ b ∈ bs, b < 2 ^ n) : bss (bs.map φ) = bss bs := by
  unfold bss
  rw [List.length_map, rk_img L hb]
  refine List.filter_congr fun p _ => ?_
  unfold isB
  rw [sel_img L.zero, rk_img L (sel_lt hb p)]
theorem cnts_img (L : Lin n φ) (hb : ∀ b ∈ bs, b < 2 ^ n) : cnts (bs.map φ) = cnts bs := by
  unfold cnts
  rw [List.length_map, lots_img L hb]
theorem row_img (L : Lin n φ) {m : Nat} (hm : ∀ b, b < 2 ^ n → φ b < 2 ^ m) (hb : ∀ b ∈ bs, b < 2 ^ n ∧ b ≠ 0) (nd : bs.Nodup) : (∀ b ∈ bs.map φ, b < 2 ^ m ∧ b ≠ 0) ∧ (bs.map φ).Nodup := by
  refine ⟨fun b h => ?_, ?_⟩
  · obtain ⟨a, ha, rfl⟩ := List.mem_map.mp h
    obtain ⟨h1, h2⟩ := hb a ha
    exact ⟨hm a h1, fun e => h2 (L.inj a 0 h1 (Nat.pow_pos (by decide)) (e.trans L.zero.symm))⟩
  · have key : ∀ l : List Nat, (∀ b ∈ l, b < 2 ^ n) → l.Nodup → (l.map φ).Nodup := fun l => by
      induction l with
      | nil => exact fun _ _ => .nil
      | cons x r ih =>
        intro hl hn
        have n2 := List.nodup_cons.mp hn
        refine List.nodup_cons.mpr ⟨fun q => ?_, ih (fun b hb => hl b (List.mem_cons_of_mem _ hb)) n2.2⟩
        obtain ⟨y, hy, e⟩ := List.mem_map.mp q
        exact n2.1 (by rw [← L.inj y x (hl y (List.mem_cons_of_mem _ hy)) (hl x (List.mem_cons_self ..)) e]; exact hy)
    exact key bs (fun b h => (hb b h).1) nd
end
/-! one dot's sign added to another one's -/
def tg (n : Nat) (p : Nat × Nat) (b : Nat) : Nat := if b.testBit (n - 1 - p.2) = true then b ^^^ 2 ^ (n - 1 - p.1) else b
theorem tg_bit (n : Nat) (p : Nat × Nat) (b j : Nat) : (tg n p b).testBit j = (b.testBit j ^^ (b.testBit (n - 1 - p.2) && decide (n - 1 - p.1 = j))) := by
  unfold tg
  by_cases h : b.testBit (n - 1 - p.2) = true
  · rw [if_pos h, Nat.testBit_xor, Nat.testBit_two_pow, h, Bool.true_and]
  · rw [if_neg h, Bool.eq_false_iff.mpr h, Bool.false_and, Bool.xor_false]
section
variable {n : Nat} {p : Nat × Nat}
theorem tg_lt (h1 : p.1 < n) {b : Nat} (hb : b < 2 ^ n) : tg n p b < 2 ^ n := by
  unfold tg
  split
  · exact xor_lt hb (Nat.pow_lt_pow_right (by decide) (by omega))
  · exact hb
theorem tg_tg (h1 : p.1 < n) (h2 : p.2 < n) (ne : p.1 ≠ p.2) (b : Nat) : tg n p (tg n p b) = b := by
  refine Nat.eq_of_testBit_eq fun j => ?_
  rw [tg_bit, tg_bit, tg_bit, decide_eq_false (show ¬ n - 1 - p.1 = n - 1 - p.2 by omega), Bool.and_false, Bool.xor_false, Bool.xor_assoc, Bool.xor_self, Bool.xor_false]
theorem tg_lin (h1 : p.1 < n) (h2 : p.2 < n) (ne : p.1 ≠ p.2) : Lin n (tg n p) := by
  refine ⟨fun a b => Nat.eq_of_testBit_eq fun j => ?_, ?_, fun a b _ _ e => ?_⟩
  · rw [tg_bit, Nat.testBit_xor, Nat.testBit_xor, Nat.testBit_xor, tg_bit, tg_bit]
    cases a.testBit j <;> cases b.testBit j <;> cases a.testBit (n - 1 - p.2) <;> cases b.testBit (n - 1 - p.2) <;> cases decide (n - 1 - p.1 = j) <;> rfl
  · unfold tg
    rw [Nat.zero_testBit] <;> rfl
  · rw [← tg_tg h1 h2 ne a, e, tg_tg h1 h2 ne b]
end
def ledN (n : Nat) (ls : List (Nat × Nat)) (b : Nat) : Nat := ls.foldl (fun b p => tg n p b) b
def Lds (n : Nat) (ls : List (Nat × Nat)) : Prop := ∀ p ∈ ls, p.1 < n ∧ p.2 < n ∧ p.1 ≠ p.2
section
variable {n : Nat}
theorem led_lin : ∀ {ls : List (Nat × Nat)}, Lds n ls → Lin n (ledN n ls) ∧ ∀ b, b < 2 ^ n → ledN n ls b < 2 ^ n
  | [], _ => ⟨⟨fun _ _ => rfl, rfl, fun _ _ _ _ e => e⟩, fun _ h => h⟩
  | p :: r, h => by
    obtain ⟨h1, h2, ne⟩ := h p (List.mem_cons_self ..)
    obtain ⟨L, k⟩ := led_lin (ls := r) fun q hq => h q (List.mem_cons_of_mem _ hq)
    have T := tg_lin h1 h2 ne
    refine ⟨⟨fun a b => ?_, ?_, fun a b ha hb e => ?_⟩, fun b hb => k _ (tg_lt h1 hb)⟩
    · show ledN n r (tg n p (a ^^^ b)) = ledN n r (tg n p a) ^^^ ledN n r (tg n p b)
      rw [T.xor, L.xor]
    · show ledN n r (tg n p 0) = 0
      rw [T.zero, L.zero]
    · exact T.inj a b ha hb (L.inj _ _ (tg_lt h1 ha) (tg_lt h1 hb) e)
theorem led_back {ls : List (Nat × Nat)} (h : Lds n ls) : ∀ b, ledN n ls.reverse (ledN n ls b) = b := by
  induction ls with
  | nil => exact fun _ => rfl
  | cons p r ih =>
    intro b
    obtain ⟨h1, h2, ne⟩ := h p (List.mem_cons_self ..)
    have ih := ih (fun q hq => h q (List.mem_cons_of_mem _ hq)) (tg n p b)
    unfold ledN at ih ⊢
    rw [List.reverse_cons, List.foldl_append]
    show tg n p (r.reverse.foldl (fun b p => tg n p b) (r.foldl (fun b p => tg n p b) (tg n p b))) = b
    rw [ih, tg_tg h1 h2 ne]
end
/-! a dot more -/
def prt (n : Nat) (ks : List Nat) (b : Nat) : Bool := ks.foldr (fun k x => b.testBit (n - 1 - k) ^^ x) false
def up (n : Nat) (ks : List Nat) (b : Nat) : Nat := 2 * b + (prt n ks b).toNat
theorem prt_xor (n a b : Nat) : ∀ ks : List Nat, prt n ks (a ^^^ b) = (prt n ks a ^^ prt n ks b)
  | [] => rfl
  | k :: r => by
    show ((a ^^^ b).testBit (n - 1 - k) ^^ prt n r (a ^^^ b)) = ((a.testBit (n - 1 - k) ^^ prt n r a) ^^ (b.testBit (n - 1 - k) ^^ prt n r b))
    rw [prt_xor n a b r, Nat.testBit_xor]
    cases a.testBit (n - 1 - k) <;> cases b.testBit (n - 1 - k) <;> cases prt n r a <;> cases prt n r b <;> rfl
theorem prt_zero (n : Nat) : ∀ ks : List Nat, prt n ks 0 = false
  | [] => rfl
  | k :: r => by
    show ((0 : Nat).testBit (n - 1 - k) ^^ prt n r 0) = false
    rw [prt_zero n r, Nat.zero_testBit] <;> rfl
theorem prt_len (n b : Nat) : ∀ ks : List Nat, decide (((ks.filter fun k => b.testBit (n - 1 - k)).length % 2) = 1) = prt n ks b
  | [] => rfl
  | k :: r => by
    show _ = (b.testBit (n - 1 - k) ^^ prt n r b)
    rw [← prt_len n b r, List.filter_cons]
    cases h : b.testBit (n - 1 - k) with
    | false => rw [if_neg (by decide), Bool.false_xor]
    | true =>
      rw [if_pos rfl, List.length_cons, Bool.true_xor]
      by_cases q : (r.filter fun k => b.testBit (n - 1 - k)).length % 2 = 1
      · rw [decide_eq_true q, decide_eq_false (by omega)] <;> rfl
      · rw [decide_eq_false q, decide_eq_true (by omega)] <;> rfl
theorem up_bit0 (n : Nat) (ks : List Nat) (b : Nat) : (up n ks b).testBit 0 = prt n ks b := by
  unfold up
  rw [Nat.testBit_zero]
  cases prt n ks b with
  | false => exact decide_eq_false (by show ¬ (2 * b + 0) % 2 = 1; omega)
  | true => exact decide_eq_true (by show (2 * b + 1) % 2 = 1; omega)
theorem up_bits (n : Nat) (ks : List Nat) (b j : Nat) : (up n ks b).testBit (j + 1) = b.testBit j := by
  rw [Nat.testBit_succ]
  have : up n ks b / 2 = b := by
    unfold up
    cases prt n ks b with
    | false => show (2 * b + 0) / 2 = b; omega
    | true => show (2 * b + 1) / 2 = b; omega
  rw [this]
theorem up_lin (n : Nat) (ks : List Nat) : Lin n (up n ks) ∧ ∀ b, b < 2 ^ n → up n ks b < 2 ^ (n + 1) := by
  refine ⟨⟨fun a b => Nat.eq_of_testBit_eq fun j => ?_, ?_, fun a b _ _ e => ?_⟩, fun b hb => ?_⟩
  · cases j with
    | zero => rw [Nat.testBit_xor, up_bit0, up_bit0, up_bit0, prt_xor]
    | succ j => rw [Nat.testBit_xor, up_bits, up_bits, up_bits, Nat.testBit_xor]
  · unfold up
    rw [prt_zero] <;> rfl
  · refine Nat.eq_of_testBit_eq fun j => ?_
    rw [← up_bits n ks a j, e, up_bits]
  · unfold up
    rw [Nat.pow_succ]
    cases prt n ks b with
    | false => show 2 * b + 0 < _; omega
    | true => show 2 * b + 1 < _; omega
end Lw
namespace Lw
open Mp C63
/-! two rows beside one another: plain -/
def shl (k b : Nat) : Nat := b <<< k
section
variable {n k : Nat} {A C : List Nat}
theorem shl_bit (k b j : Nat) : (shl k b).testBit j = (decide (k ≤ j) && b.testBit (j - k)) := Nat.testBit_shiftLeft b
theorem shl_lin (n k : Nat) : Lin n (shl k) ∧ ∀ b, b < 2 ^ n → shl k b < 2 ^ (n + k) := by
  refine ⟨⟨fun a b => Nat.eq_of_testBit_eq fun j => ?_, Nat.zero_shiftLeft k, fun a b _ _ e => Nat.eq_of_testBit_eq fun j => ?_⟩, fun b hb => ?_⟩
  · rw [Nat.testBit_xor, shl_bit, shl_bit, shl_bit, Nat.testBit_xor]
    cases decide (k ≤ j) <;> simp
  · have := congrArg (fun x : Nat => x.testBit (j + k)) e
    simp only [shl_bit] at this
    rw [decide_eq_true (by omega), Bool.true_and, Bool.true_and, Nat.add_sub_cancel] at this
    exact this
  · unfold shl
    rw [Nat.shiftLeft_eq, Nat.pow_add]
    exact Nat.mul_lt_mul_of_pos_right hb (Nat.pow_pos (by decide))
/-- high: nothing below k; low: nothing from k on -/
def Hi (k y : Nat) : Prop := ∀ j, j < k → y.testBit j = false
theorem hi_shl (k b : Nat) : Hi k (shl k b) := fun j hj => by
  rw [shl_bit, decide_eq_false (by omega), Bool.false_and]
theorem hi_xor {a b : Nat} (ha : Hi k a) (hb : Hi k b) : Hi k (a ^^^ b) := fun j hj => by
  rw [Nat.testBit_xor, ha j hj, hb j hj] <;> rfl
theorem hi_low {a : Nat} (ha : Hi k a) (hl : a < 2 ^ k) : a = 0 := Nat.eq_of_testBit_eq fun j => by
  rw [Nat.zero_testBit]
  rcases Nat.lt_or_ge j k with h | h
  · exact ha j h
  · exact Nat.testBit_lt_two_pow (Nat.lt_of_lt_of_le hl (Nat.pow_le_pow_right (by decide) h))
theorem sp_hi : ∀ {A : List Nat}, (∀ a ∈ A, Hi k a) → ∀ {y : Nat}, inSp A y → Hi k y
  | [], _, y, h => by
    have h : y = 0 := h
    rw [h]
    exact fun j _ => Nat.zero_testBit j
  | a :: r, h, y, hy => by
    have hr : ∀ b ∈ r, Hi k b := fun b hb => h b (List.mem_cons_of_mem _ hb)
    rcases hy with z | z
    · exact sp_hi hr z
    · have q := hi_xor (sp_hi hr z) (h a (List.mem_cons_self ..))
      rw [Nat.xor_assoc, Nat.xor_self, Nat.xor_zero] at q
      exact q
theorem sp_low : ∀ {C : List Nat}, (∀ c ∈ C, c < 2 ^ k) → ∀ {y : Nat}, inSp C y → y < 2 ^ k
  | [], _, y, h => by
    have h : y = 0 := h
    rw [h]
    exact Nat.pow_pos (by decide)
  | a :: r, h, y, hy => by
    have hr : ∀ b ∈ r, b < 2 ^ k := fun b hb => h b (List.mem_cons_of_mem _ hb)
    rcases hy with z | z
    · exact sp_low hr z
    · have q := xor_lt (sp_low hr z) (h a (List.mem_cons_self ..))
      rw [Nat.xor_assoc, Nat.xor_self, Nat.xor_zero] at q
      exact q
theorem sp_two (hA : ∀ a ∈ A, Hi k a) (hC : ∀ c ∈ C, c < 2 ^ k) {y : Nat} (hy : y < 2 ^ k) : inSp (A ++ C) y ↔ inSp C y := by
  refine ⟨fun h => ?_, sp_right⟩
  obtain ⟨a, ha, hc⟩ := (sp_app A C y).mp h
  have l := xor_lt hy (sp_low hC hc)
  rw [← Nat.xor_assoc, Nat.xor_self, Nat.zero_xor] at l
  have a0 := hi_low (sp_hi hA ha) l
  rw [a0, Nat.xor_zero] at hc
  exact hc
theorem rk_two (hA : ∀ a ∈ A, Hi k a) (hC : ∀ c ∈ C, c < 2 ^ k) : rk (A ++ C) = rk A + rk C := by
  have main : ∀ r : List Nat, (∀ c ∈ r, c < 2 ^ k) → rk (A ++ r.reverse) = rk A + rk r.reverse := fun r => by
    induction r with
    | nil =>
      intro _
      rw [List.reverse_nil, List.append_nil] <;> rfl
    | cons c r ih =>
      intro h
      have hr : ∀ b ∈ r, b < 2 ^ k := fun b hb => h b (List.mem_cons_of_mem _ hb)
      have ih := ih hr
      have hrr : ∀ b ∈ r.reverse, b < 2 ^ k := fun b hb => hr b (List.mem_reverse.mp hb)
      rw [List.reverse_cons, ← List.append_assoc]
      obtain ⟨x1, x2⟩ := rk_snoc (A ++ r.reverse) c
      obtain ⟨y1, y2⟩ := rk_snoc r.reverse c
      have st := sp_two hA hrr (h c (List.mem_cons_self ..))
      by_cases z : inSp r.reverse c
      · rw [y1 z, x1 (st.mpr z), ih]
      · rw [y2 z, x2 fun q => z (st.mp q), ih]
        omega
  have := main C.reverse fun b hb => hC b (List.mem_reverse.mp hb)
  rw [List.reverse_reverse] at this
  exact this
/-! parts of the two rows together -/
theorem sel_left {p : List Nat} (h : ∀ x ∈ p, x < A.length) : sel (A ++ C) p = sel A p := List.map_congr_left fun x hx => by
  rw [List.getD_eq_getElem?_getD, List.getD_eq_getElem?_getD, List.getElem?_append_left (h x hx)]
theorem sel_right (q : List Nat) : sel (A ++ C) (q.map (· + A.length)) = sel C q := by
  unfold sel
  rw [List.map_map]
  refine List.map_congr_left fun x _ => ?_
  show (A ++ C).getD (x + A.length) 0 = C.getD x 0
  rw [List.getD_eq_getElem?_getD, List.getD_eq_getElem?_getD, List.getElem?_append_right (by omega), Nat.add_sub_cancel]
theorem asc_split {a : Nat} : ∀ {p : List Nat}, Asc p → p = p.filter (fun x => decide (x < a)) ++ ((p.filter fun x => decide (a ≤ x)).map (· - a)).map (· + a)
  | [], _ => rfl
  | x :: r, h => by
    have h2 := List.pairwise_cons.mp h
    have ih := asc_split (a := a) h2.2
    rw [List.filter_cons, List.filter_cons]
    by_cases c : x < a
    · rw [if_pos (decide_eq_true c), if_neg (by simp; omega), List.cons_append, ← ih]
    · have n1 : r.filter (fun x => decide (x < a)) = [] := List.filter_eq_nil_iff.mpr fun y hy => by
        have := h2.1 y hy
        simp
        omega
      rw [if_neg (by simp [c]), if_pos (by simp; omega), n1, List.nil_append, List.map_cons, List.map_cons]
      rw [n1, List.nil_append] at ih
      rw [← ih, Nat.sub_add_cancel (by omega)]
theorem asc_map {a : Nat} {q : List Nat} (h : Asc q) : Asc (q.map (· + a)) := List.Pairwise.map _ (fun x y z => by show x + a < y + a; omega) h
theorem asc_join {a : Nat} {p q : List Nat} (hp : Asc p) (hq : Asc q) (l : ∀ x ∈ p, x < a) : Asc (p ++ q.map (· + a)) := List.pairwise_append.mpr ⟨hp, asc_map hq, fun x hx y hy => by
  obtain ⟨z, _, rfl⟩ := List.mem_map.mp hy
  have := l x hx
  show x < z + a
  omega⟩
theorem join_inj {a : Nat} {p p' q q' : List Nat} (l : ∀ x ∈ p, x < a) (l' : ∀ x ∈ p', x < a) (e : p ++ q.map (· + a) = p' ++ q'.map (· + a)) : p = p' ∧ q = q' := by
  have f : ∀ (p q : List Nat), (∀ x ∈ p, x < a) → (p ++ q.map (· + a)).filter (fun x => decide (x < a)) = p := fun p q l => by
    rw [List.filter_append, List.filter_eq_self.mpr fun x hx => decide_eq_true (l x hx), List.filter_eq_nil_iff.mpr fun x hx => by
      obtain ⟨z, _, rfl⟩ := List.mem_map.mp hx
      simp, List.append_nil]
  have e1 : p = p' := by rw [← f p q l, e, f p' q' l']
  subst e1
  refine ⟨rfl, ?_⟩
  have e2 := List.append_cancel_left e
  have g : ∀ x y : Nat, x + a = y + a → x = y := fun x y h => by omega
  exact (List.map_inj_right fun x y h => g x y h).mp e2
/-- bases of both rows: a base of each -/
theorem mem_two (hA : ∀ a ∈ A, Hi k a) (hC : ∀ c ∈ C, c < 2 ^ k) {p : List Nat} : p ∈ bss (A ++ C) ↔ ∃ x ∈ bss A, ∃ y ∈ bss C, p = x ++ y.map (· + A.length) := by
  have rs : ∀ x y : List Nat, (∀ t ∈ x, t < A.length) → (∀ t ∈ y, t < C.length) → rk (sel (A ++ C) (x ++ y.map (· + A.length))) = rk (sel A x) + rk (sel C y) := fun x y hx hy => by
    rw [sel_app, sel_left hx, sel_right, rk_two (fun a ha => hA a (sel_sub hx a ha)) (fun c hc => hC c (sel_sub hy c hc))]
  have le : ∀ (B x : List Nat), (∀ t ∈ x, t < B.length) → rk (sel B x) ≤ rk B ∧ rk (sel B x) ≤ x.length := fun B x hx => by
    refine ⟨rk_mono fun y hy => sp_sub (fun z hz => sp_mem (sel_sub hx z hz)) y hy, ?_⟩
    have := rk_len (sel B x)
    unfold sel at this ⊢
    rw [List.length_map] at this
    exact this
  constructor
  · intro h
    obtain ⟨⟨h1, h2, h3⟩, h4⟩ := mem_bss.mp h
    have es := asc_split (a := A.length) h2
    obtain ⟨x, hx⟩ : ∃ x, x = p.filter (fun x => decide (x < A.length)) := ⟨_, rfl⟩
    obtain ⟨y, hy⟩ : ∃ y, y = (p.filter fun x => decide (A.length ≤ x)).map (· - A.length) := ⟨_, rfl⟩
    rw [← hx, ← hy] at es
    have lx : ∀ t ∈ x, t < A.length := fun t ht => by
      rw [hx] at ht
      exact of_decide_eq_true (List.mem_filter.mp ht).2
    have ly : ∀ t ∈ y, t < C.length := fun t ht => by
      rw [hy] at ht
      obtain ⟨u, hu, rfl⟩ := List.mem_map.mp ht
      have z := List.mem_filter.mp hu
      have z1 := h3 u z.1
      have z2 := of_decide_eq_true z.2
      rw [List.length_append] at z1
      show u - A.length < C.length
      omega
    have ax : Asc x := by rw [hx]; exact List.Pairwise.filter _ h2
    have ay : Asc y := by
      rw [hy]
      refine List.pairwise_map.mpr (List.Pairwise.imp_of_mem (fun {u v} hu hv z => ?_) (List.Pairwise.filter _ h2))
      have z1 := of_decide_eq_true (List.mem_filter.mp hu).2
      have z2 := of_decide_eq_true (List.mem_filter.mp hv).2
      show u - A.length < v - A.length
      omega
    rw [es, rs x y lx ly, rk_two hA hC] at h4
    rw [es, List.length_append, List.length_map, rk_two hA hC] at h1
    have b1 := le A x lx
    have b2 := le C y ly
    exact ⟨x, mem_bss.mpr ⟨⟨by omega, ax, lx⟩, by omega⟩, y, mem_bss.mpr ⟨⟨by omega, ay, ly⟩, by omega⟩, es⟩
  · rintro ⟨x, hx, y, hy, rfl⟩
    obtain ⟨⟨a1, a2, a3⟩, a4⟩ := mem_bss.mp hx
    obtain ⟨⟨c1, c2, c3⟩, c4⟩ := mem_bss.mp hy
    refine mem_bss.mpr ⟨⟨?_, asc_join a2 c2 a3, fun t ht => ?_⟩, ?_⟩
    · rw [List.length_append, List.length_map, rk_two hA hC, a1, c1]
    · rw [List.length_append]
      rcases List.mem_append.mp ht with q | q
      · have := a3 t q; omega
      · obtain ⟨u, hu, rfl⟩ := List.mem_map.mp q
        have := c3 u hu
        show u + A.length < _
        omega
    · rw [rs x y a3 c3, rk_two hA hC, a4, c4]
theorem bss_nodup (bs : List Nat) : (bss bs).Nodup := (lv_nodup _ _).filter _
theorem count_two (hA : ∀ a ∈ A, Hi k a) (hC : ∀ c ∈ C, c < 2 ^ k) : (bss (A ++ C)).length = (bss A).length * (bss C).length := by
  have nd : ∀ l : List (List Nat), (∀ x ∈ l, x ∈ bss A) → l.Nodup → (l.flatMap fun x => (bss C).map fun y => x ++ y.map (· + A.length)).Nodup := fun l => by
    induction l with
    | nil => exact fun _ _ => .nil
    | cons x r ih =>
      intro hl hn
      have n2 := List.nodup_cons.mp hn
      have ax := (mem_bss.mp (hl x (List.mem_cons_self ..))).1.2.2
      rw [List.flatMap_cons]
      refine List.nodup_append.mpr ⟨?_, ih (fun y hy => hl y (List.mem_cons_of_mem _ hy)) n2.2, fun a ha b hb e => ?_⟩
      · refine List.Pairwise.map _ (fun y z ne e => ne (join_inj ax ax e).2) (bss_nodup C)
      · subst e
        obtain ⟨y, _, rfl⟩ := List.mem_map.mp ha
        obtain ⟨x', hx', hq⟩ := List.mem_flatMap.mp hb
        obtain ⟨y', _, e⟩ := List.mem_map.mp hq
        have ax' := (mem_bss.mp (hl x' (List.mem_cons_of_mem _ hx'))).1.2.2
        exact n2.1 (by rw [← (join_inj ax' ax e).1]; exact hx')
  have pm : (bss (A ++ C)).Perm ((bss A).flatMap fun x => (bss C).map fun y => x ++ y.map (· + A.length)) := (List.perm_ext_iff_of_nodup (bss_nodup _) (nd (bss A) (fun _ h => h) (bss_nodup A))).mpr fun p => by
    rw [mem_two hA hC, List.mem_flatMap]
    constructor
    · rintro ⟨x, hx, y, hy, rfl⟩
      exact ⟨x, hx, List.mem_map.mpr ⟨y, hy, rfl⟩⟩
    · rintro ⟨x, hx, h⟩
      obtain ⟨y, hy, rfl⟩ := List.mem_map.mp h
      exact ⟨x, hx, y, hy, rfl⟩
  rw [pm.length_eq]
  have ln : ∀ l : List (List Nat), (l.flatMap fun x => (bss C).map fun y => x ++ y.map (· + A.length)).length = l.length * (bss C).length := fun l => by
    induction l with
    | nil => rw [List.flatMap_nil, List.length_nil, Nat.zero_mul]
    | cons x r ih => rw [List.flatMap_cons, List.length_append, List.length_map, ih, List.length_cons, Nat.add_mul, Nat.one_mul, Nat.add_comm]
  exact ln _
/-! lots of both rows -/
theorem order_ext {l l' : List (List Nat)} (h : l.Pairwise lenlex) (h' : l'.Pairwise lenlex) (e : ∀ p, p ∈ l ↔ p ∈ l') : l = l' := by
  have nd : ∀ {l : List (List Nat)}, l.Pairwise lenlex → l.Nodup := fun h => h.imp fun {a b} z e => by
    rw [e] at z
    exact lenlex_irr z
  induction l generalizing l' with
  | nil =>
    cases l' with
    | nil => rfl
    | cons x r => exact absurd ((e x).mpr (List.mem_cons_self ..)) List.not_mem_nil
  | cons x r ih =>
    cases l' with
    | nil => exact absurd ((e x).mp (List.mem_cons_self ..)) List.not_mem_nil
    | cons y s =>
      have h1 := List.pairwise_cons.mp h
      have h2 := List.pairwise_cons.mp h'
      have n1 := List.nodup_cons.mp (nd h)
      have n2 := List.nodup_cons.mp (nd h')
      have xy : x = y := by
        rcases List.mem_cons.mp ((e x).mp (List.mem_cons_self ..)) with q | q
        · exact q
        · rcases List.mem_cons.mp ((e y).mpr (List.mem_cons_self ..)) with q2 | q2
          · exact q2.symm
          · exact absurd (h2.1 x q) fun z => lenlex_asym z (h1.1 y q2)
      subst xy
      refine congrArg (x :: ·) (ih h1.2 h2.2 fun p => ⟨fun hp => ?_, fun hp => ?_⟩)
      · rcases List.mem_cons.mp ((e p).mp (List.mem_cons_of_mem _ hp)) with q | q
        · rw [q] at hp
          exact absurd hp n1.1
        · exact q
      · rcases List.mem_cons.mp ((e p).mpr (List.mem_cons_of_mem _ hp)) with q | q
        · rw [q] at hp
          exact absurd hp n2.1
        · exact q
end
end Lw
namespace Lw
open Mp C63
/-! the law's "same"; what is told of a row; cards led -/
inductive Sd : Nat → W → Prop
  | non {k : Nat} : Sd k .non
  | bl {k : Nat} (b : Bool) : Sd k (.bl b)
  | int {k : Nat} (i : Int) : Sd k (.int i)
  | str {k : Nat} (s : List Nat) : Sd k (.str s)
  | tup {k : Nat} (xs : List W) : (∀ x ∈ xs, Sd k x) → xs.length ≤ 100000 → Sd (k + 1) (.tup xs)
theorem Sd.up {k : Nat} {w : W} (h : Sd k w) : ∀ j, k ≤ j → Sd j w := by
  induction h with
  | non => exact fun _ _ => .non
  | bl b => exact fun _ _ => .bl b
  | int i => exact fun _ _ => .int i
  | str s => exact fun _ _ => .str s
  | tup xs h hl ih =>
    intro j hj
    obtain ⟨j, rfl⟩ : ∃ i, j = i + 1 := ⟨j - 1, by omega⟩
    exact .tup xs (fun x hx => ih x hx j (by omega)) hl
theorem pures_all' : ∀ {xs : List W}, (∀ x ∈ xs, x.pure = true) → pures xs = true
  | [], _ => rfl
  | x :: r, h => by
    show (x.pure && pures r) = true
    rw [h x (List.mem_cons_self ..), pures_all' fun y hy => h y (List.mem_cons_of_mem _ hy)] <;> rfl
theorem Sd.pure {k : Nat} {w : W} (h : Sd k w) : w.pure = true := by
  induction h with
  | non => rfl
  | bl b => rfl
  | int i => rfl
  | str s => rfl
  | tup xs h hl ih => exact pures_all' ih
theorem sd_c {k : Nat} {x : W} {l : List W} (hx : Sd k x) (hl : ∀ p ∈ l, Sd k p) : ∀ p ∈ x :: l, Sd k p := fun p hp => by
  rcases List.mem_cons.mp hp with e | e
  · rw [e]; exact hx
  · exact hl p e
theorem sd_n {k : Nat} : ∀ p ∈ ([] : List W), Sd k p := fun p hp => by cases hp
theorem sd_tW {p : List Nat} (h : p.length ≤ 100000) : Sd 1 (tW p) := .tup _ (fun x hx => by
  obtain ⟨s, _, rfl⟩ := List.mem_map.mp hx
  exact .int s) (by rw [List.length_map]; exact h)
theorem sd_tTW {L : List (List Nat)} (h : L.length ≤ 100000) (hp : ∀ p ∈ L, p.length ≤ 100000) : Sd 2 (.tup (L.map tW)) := .tup _ (fun x hx => by
  obtain ⟨s, hs, rfl⟩ := List.mem_map.mp hx
  exact sd_tW (hp s hs)) (by rw [List.length_map]; exact h)
theorem same_refl : ∀ {k : Nat} {w : W}, Sd k w → ∀ (d : Nat) (S : Store), fns T (d + k + 1) 36 [w, w] S = .ok (.bl true) S := by
  intro k w h
  induction h with
  | non =>
    intro d S
    exact fr_ret (η := [some .non, some .non, none]) (b := b_law_same) (nv := 3) (S' := []) rfl rfl rfl rfl rfl rfl
  | bl b =>
    intro d S
    refine fr_ret (η := [some (.bl b), some (.bl b), none]) (b := b_law_same) (nv := 3) (S' := []) rfl rfl rfl rfl ?_ rfl
    cases b <;> rfl
  | int i => exact fun d S => same_int
  | str s =>
    intro d S
    rename_i k
    refine fr_ret (η := [some (.str s), some (.str s), none]) (b := b_law_same) (nv := 3) (S' := []) rfl rfl rfl rfl ?_ rfl
    have z : b_law_same (fns T (d + k)) [some (.str s), some (.str s), none] [] = .ret (.bl (s == s)) [] := rfl
    rw [z, beq_self_eq_true]
  | tup xs hx hl ih =>
    intro d S
    exact same_tup (fun w hw => ih w hw d []) (pures_all' fun x h => (hx x h).pure) (by omega)
theorem same_at {k D : Nat} {w : W} (h : Sd k w) (hd : k + 1 ≤ D) (S : Store) : fns T D 36 [w, w] S = .ok (.bl true) S := by
  obtain ⟨d, rfl⟩ : ∃ d, D = d + k + 1 := ⟨D - (k + 1), by omega⟩
  exact same_refl h d S
/-! told -/
def wS : List Nat := [115, 117, 109, 115]
def wL : List Nat := [115, 117, 109, 108, 101, 115, 115]
def zT (bs : List Nat) : List Nat := if rk bs = bs.length then wL else wS
def papW (bs : List Nat) : W := if rk bs = bs.length then .tup [] else firstW (lots bs)
theorem first_pure : ∀ L : List (List Nat), (firstW L).pure = true
  | [] => rfl
  | p :: _ => pures_nW p
theorem papW_pure (bs : List Nat) : (papW bs).pure = true := by
  unfold papW
  split
  · rfl
  · exact first_pure _
theorem bss_few {bs : List Nat} (hl : bs.length ≤ 12) : (bss bs).length ≤ 5000 := by
  have e := filter_fd bs.length (isB bs (rk bs)) (rk bs) bs.length
  rw [if_pos (rk_len bs)] at e
  unfold bss
  rw [← e]
  exact Nat.le_trans (List.length_filter_le _ _) (fd_len12 hl)
section
variable {d n : Nat} {bs : List Nat} {S : Store}
theorem cert_ok (h1 : 1 ≤ n) (h6 : n ≤ 6) (hb : ∀ b ∈ bs, b < 2 ^ n ∧ b ≠ 0) (nd : bs.Nodup) (hl : bs.length ≤ 12) : fns T (d + 11) 33 [.int n, .tup (bs.map (dcd n))] S = .ok (.tup [.tup [.str (zT bs), .int n, .tup (bs.map (dcd n))], papW bs]) S := by
  refine fr_ret (η := [some (.int n), some (.tup (bs.map (dcd n))), none]) (b := b_certify_dots) (nv := 3) (S' := []) rfl rfl (by show (true && (pures (bs.map (dcd n)) && true)) = true; rw [pures_dcd] <;> rfl) rfl ?_ (by
    show ((true && (true && (pures (bs.map (dcd n)) && true))) && ((papW bs).pure && true)) = true
    rw [pures_dcd, papW_pure] <;> rfl)
  unfold b_certify_dots
  refine (sSeq_nx (sDrop_ok (mCall_ok (S1 := []) (maCons_ok (S1 := []) (mVar_ok rfl) (maCons_ok (S1 := []) (mVar_ok rfl) rfl)) (checkr_ok (d := d + 2) h1 h6 hb nd hl)))).trans ?_
  refine (sSeq_nx (η1 := [some (.int n), some (.tup (bs.map (dcd n))), some (firstW (lots bs))]) (S1 := []) ((sSet_ok (mCall_ok (S1 := []) (maCons_ok (S1 := []) (mVar_ok rfl) rfl) (fewby_ok (d := d) h1 h6 hb hl))).trans rfl)).trans ?_
  refine sRet_ok ?_
  unfold zT papW
  by_cases c : rk bs = bs.length
  · rw [if_pos c, if_pos c, lots_nil.mpr c]
    exact (mIf_t (S1 := []) rfl).trans rfl
  · rw [if_neg c, if_neg c]
    cases h : lots bs with
    | nil => exact absurd (lots_nil.mp h) c
    | cons p r => exact (mIf_f (S1 := []) rfl).trans rfl
def toldW (bs : List Nat) : W := .tup [.tup ((lots bs).map tW), .tup ((bss bs).map tW), nW (rk bs), firstW (lots bs), tW (cnts bs), nW (bss bs).length, .str (zT bs)]
theorem told_sd (hl : bs.length ≤ 12) : Sd 3 (toldW bs) := by
  have l1 := lots_few hl
  have l2 := bss_few hl
  have fl : ∀ p ∈ lots bs, p.length ≤ 100000 := fun p hp => by
    have := lot_len hp
    omega
  have fb : ∀ p ∈ bss bs, p.length ≤ 100000 := fun p hp => by
    have := (mem_bss.mp hp).1.1
    have := rk_len bs
    omega
  have ff : Sd 2 (firstW (lots bs)) := by
    cases e : lots bs with
    | nil => exact .non
    | cons p r => exact (sd_tW (fl p (by rw [e]; exact List.mem_cons_self ..))).up 2 (by decide)
  exact .tup _ (sd_c (sd_tTW (by omega) fl) (sd_c (sd_tTW (by omega) fb) (sd_c (.int _) (sd_c ff (sd_c ((sd_tW (by rw [cnts_len]; omega)).up 2 (by decide)) (sd_c (.int _) (sd_c (.str _) sd_n))))))) (by show 7 ≤ 100000; decide)
theorem told_ok (h1 : 1 ≤ n) (h6 : n ≤ 6) (hb : ∀ b ∈ bs, b < 2 ^ n ∧ b ≠ 0) (nd : bs.Nodup) (hl : bs.length ≤ 12) : fns T (d + 12) 44 [.int n, .tup (bs.map (dcd n))] S = .ok (toldW bs) S := by
  refine fr_ret (η := [some (.int n), some (.tup (bs.map (dcd n)))]) (b := b_law_told) (nv := 2) (S' := []) rfl rfl (by show (true && (pures (bs.map (dcd n)) && true)) = true; rw [pures_dcd] <;> rfl) rfl ?_ (told_sd hl).pure
  unfold b_law_told
  have A : (maCons (mVar 0) (maCons (mVar 1) (maNil))) [some (.int n), some (.tup (bs.map (dcd n)))] [] = .ok [.int n, .tup (bs.map (dcd n))] [] := rfl
  have i0 : opIx (.tup [.tup [.str (zT bs), .int n, .tup (bs.map (dcd n))], papW bs]) (.int 0) ([] : Store) = some (.tup [.str (zT bs), .int n, .tup (bs.map (dcd n))]) := rfl
  have i1 : opIx (.tup [.str (zT bs), .int n, .tup (bs.map (dcd n))]) (.int 0) ([] : Store) = some (.str (zT bs)) := rfl
  exact sRet_ok (mTup_ok (maCons_ok (mCall_ok A (dotlots_f (d := d + 1) h1 h6 hb nd hl)) (maCons_ok (mCall_ok A (bases_f (d := d) h1 h6 hb nd hl)) (maCons_ok (mCall_ok A (rankf_ok (d := d + 2) h1 h6 hb nd hl)) (maCons_ok (mCall_ok A (few_f (d := d) h1 h6 hb nd hl)) (maCons_ok (mCall_ok A (bysz_f (d := d) h1 h6 hb nd hl)) (maCons_ok (mCall_ok A (bcount_f (d := d) h1 h6 hb nd hl)) (maCons_ok (mBin_ok (mBin_ok (mCall_ok A (cert_ok (d := d) h1 h6 hb nd hl)) mC_ok i0) mC_ok i1) maNil_ok))))))) (by show 7 ≤ bigLine; decide))
theorem told_img {φ : Nat → Nat} (L : Lin n φ) (hb : ∀ b ∈ bs, b < 2 ^ n) : toldW (bs.map φ) = toldW bs := by
  unfold toldW zT
  rw [lots_img L hb, bss_img L hb, rk_img L hb, cnts_img L hb, List.length_map]
end
/-! a card led -/
def sgn (n b : Nat) : List Nat := ((List.range n).reverse).map fun k => if b.testBit k = true then 1 else 0
theorem sgn_len (n b : Nat) : (sgn n b).length = n := by
  unfold sgn
  rw [List.length_map, List.length_reverse, List.length_range]
theorem sgn_get {n b k : Nat} (h : k < n) : (sgn n b)[k]? = some (if b.testBit (n - 1 - k) = true then 1 else 0) := by
  unfold sgn
  rw [List.getElem?_map, List.getElem?_reverse (by rw [List.length_range]; exact h), List.length_range, List.getElem?_range (by omega)] <;> rfl
theorem sgn_getD {n b k : Nat} (h : k < n) : (sgn n b).getD k 0 = if b.testBit (n - 1 - k) = true then 1 else 0 := by
  rw [List.getD_eq_getElem?_getD, sgn_get h] <;> rfl
theorem sgn_set {n b : Nat} {p : Nat × Nat} (h1 : p.1 < n) (h2 : p.2 < n) : (sgn n b).set p.1 ((sgn n b).getD p.1 0 ^^^ (sgn n b).getD p.2 0) = sgn n (tg n p b) := by
  apply List.ext_getElem?
  intro j
  rcases Nat.lt_or_ge j n with hj | hj
  · rw [sgn_get hj, tg_bit]
    by_cases e : p.1 = j
    · subst e
      rw [List.getElem?_set_self (by rw [sgn_len]; exact hj), sgn_getD h1, sgn_getD h2, decide_eq_true rfl, Bool.and_true]
      cases b.testBit (n - 1 - p.1) <;> cases b.testBit (n - 1 - p.2) <;> rfl
    · rw [List.getElem?_set_ne e, sgn_get hj, decide_eq_false (by omega), Bool.and_false, Bool.xor_false]
  · rw [List.getElem?_eq_none (by rw [List.length_set, sgn_len]; exact hj), List.getElem?_eq_none (by rw [sgn_len]; exact hj)]
def pW (p : Nat × Nat) : W := .tup [nW p.1, nW p.2]
def leE (n b0 : Nat) (ls : List (Nat × Nat)) (a c : Option W) : Env := [some (dcd n b0), some (.lst (ls.map pW)), some (.ref 0), a, c, none]
section
variable {d n : Nat} {S : Store}
theorem led_loop {b0 : Nat} {ls0 : List (Nat × Nat)} : ∀ (ls : List (Nat × Nat)) (b : Nat) (a c : Option W), Lds n ls → ∃ a' c', forL (gTupW (gsCons (gVar 3) (gsCons (gVar 4) (gsNil)))) (p_law_led_2b (fns T d)) (ls.map pW) (leE n b0 ls0 a c) [.lst ((sgn n b).map nW)] = .nx (leE n b0 ls0 a' c') [.lst ((sgn n (ledN n ls b)).map nW)]
  | [], b, a, c, _ => ⟨a, c, rfl⟩
  | p :: r, b, a, c, h => by
    obtain ⟨h1, h2, ne⟩ := h p (List.mem_cons_self ..)
    obtain ⟨a', c', e⟩ := led_loop (b0 := b0) (ls0 := ls0) r (tg n p b) (some (nW p.1)) (some (nW p.2)) fun q hq => h q (List.mem_cons_of_mem _ hq)
    refine ⟨a', c', ?_⟩
    have hS : ([.lst ((sgn n b).map nW)] : Store)[0]? = some (.lst ((sgn n b).map nW)) := rfl
    have ix : ∀ k, k < n → opIx (.ref 0) (nW k) ([.lst ((sgn n b).map nW)] : Store) = some (nW ((sgn n b).getD k 0)) := fun k hk => opIx_ref hS (atW_f nW 0 (by rw [sgn_len]; exact hk))
    have ex : opXor (nW ((sgn n b).getD p.1 0)) (nW ((sgn n b).getD p.2 0)) ([.lst ((sgn n b).map nW)] : Store) = some (nW ((sgn n b).getD p.1 0 ^^^ (sgn n b).getD p.2 0)) := by
      show (if 0 ≤ (((sgn n b).getD p.1 0 : Nat) : Int) ∧ 0 ≤ (((sgn n b).getD p.2 0 : Nat) : Int) then some (W.int (((((sgn n b).getD p.1 0 : Nat) : Int).toNat ^^^ (((sgn n b).getD p.2 0 : Nat) : Int).toNat : Nat) : Int)) else none) = _
      rw [if_pos ⟨by omega, by omega⟩, Int.toNat_natCast, Int.toNat_natCast] <;> rfl
    have hb : p_law_led_2b (fns T d) (leE n b0 ls0 (some (nW p.1)) (some (nW p.2))) [.lst ((sgn n b).map nW)] = .nx (leE n b0 ls0 (some (nW p.1)) (some (nW p.2))) [.lst ((sgn n (tg n p b)).map nW)] := by
      unfold p_law_led_2b
      refine sAsg_ok (mBin_ok (mBin_ok (mVar_ok rfl) (mVar_ok rfl) (ix p.1 h1)) (mBin_ok (mVar_ok rfl) (mVar_ok rfl) (ix p.2 h2)) ex) (gIdx_ok (mVar_ok rfl) (mVar_ok rfl) ((setAt_ref (i := 0) (k := (p.1 : Int)) hS ⟨by omega, by rw [List.length_map, sgn_len]; omega⟩ rfl).trans ?_))
      rw [Int.toNat_natCast, ← List.map_set, sgn_set h1 h2] <;> rfl
    rw [List.map_cons, forL_nx (η1 := leE n b0 ls0 (some (nW p.1)) (some (nW p.2))) (S1 := [.lst ((sgn n b).map nW)]) rfl hb]
    exact e
theorem lled_ok {b : Nat} {ls : List (Nat × Nat)} (h6 : n ≤ 10) (h : Lds n ls) (hl : ls.length ≤ 100) : fns T (d + 1) 43 [dcd n b, .lst (ls.map pW)] S = .ok (dcd n (ledN n ls b)) S := by
  obtain ⟨a, c, e⟩ := led_loop (d := d) (n := n) (b0 := b) (ls0 := ls) ls b none none h
  refine fr_ret (η := [some (dcd n b), some (.lst (ls.map pW)), none, none, none, none]) (b := b_law_led) (nv := 6) (S' := [.lst ((sgn n (ledN n ls b)).map nW)]) rfl rfl (by
    show (true && (pures (ls.map pW) && true)) = true
    rw [pures_all' fun x hx => by
      obtain ⟨p, _, rfl⟩ := List.mem_map.mp hx
      rfl]
    rfl) rfl ?_ rfl
  unfold b_law_led
  have dl : (ds n b).length = n := by
    unfold ds
    rw [List.length_map, List.length_reverse, List.length_range]
  have c1 := comp_gen (S := []) (it := miSeq (mVar 0)) (own := [5]) (g := gVar 5) (t := mtYes) (e := mIf (mTCmp opEq (mVar 5) (mC (.str [111]))) (mC (.int 1)) (mC (.int 0))) (η := [some (dcd n b), some (.lst (ls.map pW)), none, none, none, none]) (u := fun k : Nat => W.str [if b.testBit k then 111 else 46]) (v := fun k : Nat => nW (if b.testBit k = true then 1 else 0)) (l := (List.range n).reverse) (by
    refine miSeq_ev (mVar_ok rfl) ?_
    show some ((ds n b).map fun c => W.str [c]) = _
    unfold ds
    rw [List.map_map] <;> rfl) (fun k _ => ⟨[some (dcd n b), some (.lst (ls.map pW)), none, none, none, some (.str [if b.testBit k then 111 else 46])], rfl, rfl, by
      cases b.testBit k <;> rfl⟩) (by rw [List.length_reverse, List.length_range]; unfold bigLine; omega)
  have e1 : ((List.range n).reverse.map fun k : Nat => nW (if b.testBit k = true then 1 else 0)) = (sgn n b).map nW := by
    unfold sgn
    rw [List.map_map] <;> rfl
  rw [e1] at c1
  refine sSeq_nE (η1 := leE n b ls none none) (S1 := [.lst ((sgn n b).map nW)]) (sSet_ev (compS_of c1 (pures_nW _)) rfl) (sSeq_nE (η1 := leE n b ls a c) (S1 := [.lst ((sgn n (ledN n ls b)).map nW)]) ?_ (sRet_ok ?_))
  · unfold p_law_led_2
    exact (sFor_ok (S1 := [.lst ((sgn n b).map nW)]) (xs := ls.map pW) rfl).trans e
  · refine join_ok (L := ds n (ledN n ls b)) ?_ (by
      unfold ds
      rw [List.length_map, List.length_reverse, List.length_range]
      omega)
    have cr := compR_ok (g := gVar 5) (e := mIf (mTCmp opEq (mVar 5) (mC (.int 1))) (mC (.str [111])) (mC (.str [46]))) (η := wipeE (leE n b ls a c) [5]) (S := [.lst ((sgn n (ledN n ls b)).map nW)]) (r := 0) (u := nW) (v := fun x : Nat => W.str [if x = 1 then 111 else 46]) (f := sgn n (ledN n ls b)) rfl (fun x hx => ⟨[some (dcd n b), some (.lst (ls.map pW)), some (.ref 0), a, c, some (nW x)], rfl, by
      have hx : x = 0 ∨ x = 1 := by
        unfold sgn at hx
        obtain ⟨k, _, rfl⟩ := List.mem_map.mp hx
        split <;> simp
      rcases hx with rfl | rfl <;> rfl⟩) n 0 1000000 [] (by rw [sgn_len]; omega) (by omega) (by rw [List.length_nil]; unfold bigLine; omega)
    rw [List.drop_zero, List.nil_append] at cr
    have e2 : ((sgn n (ledN n ls b)).map fun x : Nat => W.str [if x = 1 then 111 else 46]) = (ds n (ledN n ls b)).map fun c => W.str [c] := by
      unfold sgn ds
      rw [List.map_map, List.map_map]
      refine List.map_congr_left fun k _ => ?_
      show W.str [if (if (ledN n ls b).testBit k = true then 1 else 0) = 1 then 111 else 46] = W.str [if (ledN n ls b).testBit k = true then 111 else 46]
      by_cases h : (ledN n ls b).testBit k = true
      · simp only [h, if_true]
      · simp only [h, if_false]
        rfl
    rw [e2] at cr
    exact mCompD_ok (r := 0) (mVar_ok rfl) cr
end
end Lw
namespace Lw
open Mp C63
/-! drawn leadings -/
def drE (i n F : Nat) (t o : Option W) : Env := [some (.ref i), some (nW n), some (.ref F), t, o]
def DrI (i n F L : Nat) (k : Nat) (η : Env) (S : Store) : Prop := ∃ t o ls, η = drE i n F t o ∧ S[F]? = some (.lst (ls.map pW)) ∧ Well S i ∧ S.length = L ∧ Lds n ls ∧ ls.length = k
theorem pW_pure (ls : List (Nat × Nat)) : pures (ls.map pW) = true := pures_all' fun x hx => by
  obtain ⟨p, _, rfl⟩ := List.mem_map.mp hx
  rfl
theorem drawn_body {d i n F L k : Nat} {η : Env} {S : Store} (h2 : 2 ≤ n) (h6 : n ≤ 6) (hF : i ≠ F) (hk : k < 100) (h : DrI i n F L k η S) : ∃ η1 S1, gVar 3 (.int (k : Int)) η S = some (η1, S1) ∧ Nx (p_law_drawn_2b (fns T (d + 1)) η1 S1) (DrI i n F L (k + 1)) := by
  obtain ⟨t, o, ls, rfl, hS, hw, hL, hd, hl⟩ := h
  refine ⟨drE i n F (some (nW k)) o, S, rfl, ?_⟩
  obtain ⟨x, x0, x1, S2, e2, w2, l2, o2⟩ := take_call (T := T) (d := d) (k := 35) (S := S) (i := i) (n := (n : Int)) rfl hw (by omega) (by omega)
  obtain ⟨y, y0, y1, S3, e3, w3, l3, o3⟩ := take_call (T := T) (d := d) (k := 35) (S := S2) (i := i) (n := (n : Int) - 1) rfl w2 (by omega) (by omega)
  obtain ⟨a, rfl⟩ : ∃ a : Nat, x = (a : Int) := ⟨x.toNat, by omega⟩
  obtain ⟨b, rfl⟩ : ∃ b : Nat, y = (b : Int) := ⟨y.toNat, by omega⟩
  have c1 : (mCall (fns T (d + 1)) 35 (maCons (mVar 0) (maCons (mVar 1) (maNil)))) (drE i n F (some (nW k)) o) S = .ok (nW a) S2 := mCall_ok (S1 := S) (maCons_ok (S1 := S) (mVar_ok rfl) (maCons_ok (S1 := S) (mVar_ok rfl) maNil_ok)) e2
  refine Nx.seq (η1 := drE i n F (some (nW k)) (some (nW a))) (S1 := S2) ((sSet_ok c1).trans rfl) ?_
  have c2 : (mCall (fns T (d + 1)) 35 (maCons (mVar 0) (maCons (mBin opSub (mVar 1) (mC (.int 1))) (maNil)))) (drE i n F (some (nW k)) (some (nW a))) S2 = .ok (nW b) S3 := mCall_ok (S1 := S2) (maCons_ok (S1 := S2) (mVar_ok rfl) (maCons_ok (S1 := S2) (mBin_ok (mVar_ok rfl) mC_ok rfl) maNil_ok)) e3
  have hm : ((((a : Int) + 1) + (b : Int)) % (n : Int)) = (((a + 1 + b) % n : Nat) : Int) := by rw [Int.natCast_emod] <;> rfl
  have c3 : (mTup (maCons (mVar 4) (maCons (mBin opMod (mBi baInt (maCons (mBin opAdd (mBin opAdd (mVar 4) (mC (.int 1))) (mCall (fns T (d + 1)) 35 (maCons (mVar 0) (maCons (mBin opSub (mVar 1) (mC (.int 1))) (maNil))))) (maNil))) (mVar 1)) (maNil)))) (drE i n F (some (nW k)) (some (nW a))) S2 = .ok (pW (a, (a + 1 + b) % n)) S3 := by
    refine mTup_ok (maCons_ok (mVar_ok rfl) (maCons_ok (mBin_ok (x := .int (((a : Int) + 1) + (b : Int))) (mBi1_ok (mBin_ok (mBin_ok (mVar_ok rfl) mC_ok rfl) c2 rfl) rfl) (mVar_ok rfl) ?_) maNil_ok)) (by show 2 ≤ bigLine; decide)
    show (if (0 : Int) < (n : Int) then some (W.int ((((a : Int) + 1) + (b : Int)) % (n : Int))) else none) = _
    rw [if_pos (by omega), hm] <;> rfl
  have hS3 : S3[F]? = some (.lst (ls.map pW)) := by rw [o3 _ (fun e => hF e.symm), o2 _ (fun e => hF e.symm), hS]
  have ap : (mMeth 5 omAppend (mVar 2) (maCons (mTup (maCons (mVar 4) (maCons (mBin opMod (mBi baInt (maCons (mBin opAdd (mBin opAdd (mVar 4) (mC (.int 1))) (mCall (fns T (d + 1)) 35 (maCons (mVar 0) (maCons (mBin opSub (mVar 1) (mC (.int 1))) (maNil))))) (maNil))) (mVar 1)) (maNil)))) (maNil))) (drE i n F (some (nW k)) (some (nW a))) S2 = .ok .non (S3.set F (.lst ((ls ++ [(a, (a + 1 + b) % n)]).map pW))) := by
    have hS2 : S2[F]? = some (.lst (ls.map pW)) := by rw [o2 _ (fun e => hF e.symm), hS]
    refine mMeth_ok (x := .ref F) (S1 := S2) (S2 := S3) (ws := [pW (a, (a + 1 + b) % n)]) (mVar_ok rfl) (by
      show (match S2[F]? with
        | some (.lst _) => true
        | _ => false) = true
      rw [hS2]) (maCons_ok c3 maNil_ok) ?_
    show (match S3[F]? with
      | some (.lst xs) => if (pW (a, (a + 1 + b) % n)).pure = true ∧ xs.length + 1 ≤ bigLine then some (W.non, S3.set F (.lst (xs ++ [pW (a, (a + 1 + b) % n)]))) else none
      | _ => none) = _
    rw [hS3]
    show (if (pW (a, (a + 1 + b) % n)).pure = true ∧ (ls.map pW).length + 1 ≤ bigLine then some (W.non, S3.set F (.lst (ls.map pW ++ [pW (a, (a + 1 + b) % n)]))) else none) = _
    rw [if_pos ⟨rfl, by rw [List.length_map, hl]; unfold bigLine; omega⟩, List.map_append] <;> rfl
  have hFl : F < S3.length := lt_get hS3
  refine Nx.eq (sDrop_ok ap) ⟨_, _, ls ++ [(a, (a + 1 + b) % n)], rfl, List.getElem?_set_self hFl, ?_, by rw [List.length_set, l3, l2, hL], fun p hp => ?_, by rw [List.length_append, hl] <;> rfl⟩
  · obtain ⟨u, v, z, hu, hv, e⟩ := w3
    exact ⟨u, v, z, hu, hv, by rw [List.getElem?_set_ne (fun e => hF e.symm)]; exact e⟩
  · rcases List.mem_append.mp hp with q | q
    · exact hd p q
    · rw [List.mem_singleton.mp q]
      refine ⟨by show a < n; omega, Nat.mod_lt _ (by omega), ?_⟩
      show a ≠ (a + 1 + b) % n
      intro e
      rcases Nat.lt_or_ge (a + 1 + b) n with c | c
      · rw [Nat.mod_eq_of_lt c] at e
        omega
      · rw [Nat.mod_eq_sub_mod c, Nat.mod_eq_of_lt (by omega)] at e
        omega
theorem drawn_ok {d i n : Nat} {S : Store} (h2 : 2 ≤ n) (h6 : n ≤ 6) (hw : Well S i) : ∃ ls S', fns T (d + 2) 42 [.ref i, nW n] S = .ok (.lst (ls.map pW)) S' ∧ Lds n ls ∧ ls.length ≤ 6 ∧ Well S' i ∧ S'.length = S.length := by
  have hi : i < S.length := by
    obtain ⟨_, _, _, _, _, e⟩ := hw
    exact lt_get e
  have w1 : Well (S ++ [.lst []]) i := by
    obtain ⟨a, b, c, ha, hb, e⟩ := hw
    exact ⟨a, b, c, ha, hb, get_app e⟩
  obtain ⟨x, x0, x1, S2, e2, w2, l2, o2⟩ := take_call (T := T) (d := d) (k := 35) (S := S ++ [.lst []]) (i := i) (n := 6) rfl w1 (by decide) (by decide)
  obtain ⟨a, rfl⟩ : ∃ a : Nat, x = (a : Int) := ⟨x.toNat, by omega⟩
  have lp := loop_ix (g := gVar 3) (b := p_law_drawn_2b (fns T (d + 1))) (DrI i n S.length (S.length + 1)) (a + 1) 0 (fun k _ hk η S' h => drawn_body (d := d) h2 h6 (by omega) (by omega) h) (drE i n S.length none none) S2 ⟨none, none, [], rfl, by rw [o2 _ (by omega)]; exact get_new, w2, by rw [l2, List.length_append] <;> rfl, fun p hp => (by cases hp), rfl⟩
  obtain ⟨η, S3, el, t, o, ls, rfl, hS, w3, hL, hd, hl⟩ := lp
  have c1 : (mCall (fns T (d + 1)) 35 (maCons (mVar 0) (maCons (mC (.int 6)) (maNil)))) (drE i n S.length none none) (S ++ [.lst []]) = .ok (nW a) S2 := mCall_ok (S1 := S ++ [.lst []]) (maCons_ok (mVar_ok rfl) (maCons_ok mC_ok maNil_ok)) e2
  have hit : (miRng rng1 (maCons (mBin opAdd (mC (.int 1)) (mCall (fns T (d + 1)) 35 (maCons (mVar 0) (maCons (mC (.int 6)) (maNil))))) (maNil))) (drE i n S.length none none) (S ++ [.lst []]) = .ok (rangeW ((0 : Nat) : Int) (a + 1)) S2 := miRng_ok (ws := [.int ((a + 1 : Nat) : Int)]) (maCons_ok (mBin_ok mC_ok c1 (by
    show some (W.int (1 + (a : Int))) = _
    rw [show (1 : Int) + (a : Int) = ((a + 1 : Nat) : Int) by omega])) maNil_ok) (rng1_nat (by omega))
  have eb : b_law_drawn (fns T (d + 1)) [some (.ref i), some (nW n), none, none, none] S = .ret (.ref S.length) S3 := by
    unfold b_law_drawn
    refine (sSeq_nx (η1 := drE i n S.length none none) (S1 := S ++ [.lst []]) ((sSet_ok (mLstS_ok (xs := []) maNil_ok rfl (by show 0 ≤ bigLine; decide))).trans rfl)).trans ?_
    refine (sSeq_nx ((sFor_ok hit).trans el)).trans ?_
    exact sRet_ok (mVar_ok rfl)
  refine ⟨ls, S3.take S.length, nf_refl (np := 2) (nv := 5) (b := b_law_drawn) (η := [some (.ref i), some (nW n), none, none, none]) rfl rfl rfl eb hS (pW_pure ls), hd, by omega, ?_, by rw [List.length_take, hL]; omega⟩
  obtain ⟨u, v, z, hu, hv, e⟩ := w3
  exact ⟨u, v, z, hu, hv, by rw [List.getElem?_take, if_pos hi]; exact e⟩
end Lw
namespace Lw
open Mp C63
/-! lemmas of other parts: the cards that complete; sorted cards -/
theorem shl_nat {n : Nat} {S : Store} (h : n ≤ 6) : opShl (.int 1) (nW n) S = some (nW (2 ^ n)) := by
  show (if 0 ≤ (n : Int) ∧ (n : Int) ≤ 1000000 ∧ ((1 : Int)).natAbs < 18446744073709551616 then some (W.int (1 * 2 ^ ((n : Int)).toNat)) else none) = _
  rw [if_pos ⟨by omega, by omega, by decide⟩, Int.toNat_natCast, Int.one_mul]
  show some (W.int (2 ^ n)) = some (W.int ((2 ^ n : Nat) : Int))
  rw [Int.natCast_pow] <;> rfl
theorem rng_dk {n : Nat} (h6 : n ≤ 6) : rng2 [.int 1, nW (2 ^ n)] = some ((dk n).map nW) := by
  have h := rngW 1 (2 ^ n) (by decide) (by have := two6 h6; omega)
  refine h.trans ?_
  unfold dk
  rw [List.map_map]
  refine congrArg some (List.map_congr_left fun i _ => ?_)
  show W.int ((1 + i : Nat) : Int) = W.int ((i + 1 : Nat) : Int)
  rw [Nat.add_comm]
theorem deckby_ok {d n : Nat} {S : Store} (h1 : 1 ≤ n) (h6 : n ≤ 6) : fns T (d + 7) 21 [nW n] S = .ok (.lst ((dk n).map (dcd n))) S := by
  refine fr_ret (η := [some (nW n), none]) (b := b_dot_deck_by) (nv := 2) (S' := []) rfl rfl rfl rfl ?_ (pures_dcd _ _)
  unfold b_dot_deck_by
  refine sRet_ok (comp_gen (u := nW) (miRng_ok (ws := [.int 1, nW (2 ^ n)]) (maCons_ok (S1 := []) mC_ok (maCons_ok (mBin_ok (S1 := []) mC_ok (mVar_ok rfl) (shl_nat h6)) maNil_ok)) (rng_dk h6)) (fun b hb => ?_) (by have := dk_le h6; unfold bigLine; omega))
  exact ⟨_, rfl, rfl, mCall_ok (S1 := []) (maCons_ok (mVar_ok rfl) (maCons_ok (mVar_ok rfl) maNil_ok)) (cardof_ok (d := d) h1 h6 (dk_mem hb).1)⟩
theorem strs_dcd (n : Nat) : ∀ l : List Nat, strsOf (l.map (dcd n)) = some (l.map (ds n))
  | [] => rfl
  | x :: r => by
    show (strsOf (r.map (dcd n))).map (ds n x :: ·) = _
    rw [strs_dcd n r] <;> rfl
theorem okDs_dcd (n : Nat) : ∀ (l : List Nat) (k : Nat), okDs (l.map (dcd n)) k = true
  | [], _ => rfl
  | x :: r, k => by
    show (true && okDs (r.map (dcd n)) k) = true
    rw [okDs_dcd n r k] <;> rfl
def spB (bs : List Nat) (y : Nat) : Bool := decide (red (lrun bs []) y = 0)
theorem spB_iff {bs : List Nat} {y : Nat} : spB bs y = true ↔ inSp bs y := by
  unfold spB
  rw [decide_eq_true_eq, red_iff]
def addN : List Nat → List Nat → List Nat
  | acc, [] => acc
  | acc, x :: r => addN (if x ∈ acc then acc else acc ++ [x]) r
theorem addN_mem : ∀ (l acc : List Nat) (y : Nat), y ∈ addN acc l ↔ y ∈ acc ∨ y ∈ l
  | [], acc, y => by
    show y ∈ acc ↔ _
    simp
  | x :: r, acc, y => by
    show y ∈ addN (if x ∈ acc then acc else acc ++ [x]) r ↔ _
    rw [addN_mem r, List.mem_cons]
    by_cases h : x ∈ acc
    · rw [if_pos h]
      constructor
      · exact fun z => z.elim .inl fun z => .inr (.inr z)
      · rintro (z | z | z)
        · exact .inl z
        · rw [z]; exact .inl h
        · exact .inr z
    · rw [if_neg h, List.mem_append, List.mem_singleton, or_assoc]
theorem has_nW (x : Nat) : ∀ acc : List Nat, hasKey (nW x) (acc.map nW) = decide (x ∈ acc)
  | [] => by simp [hasKey]
  | y :: r => by
    show (decide ((y : Int) = (x : Int)) || hasKey (nW x) (r.map nW)) = _
    rw [has_nW x r]
    by_cases h : y = x
    · rw [decide_eq_true (p := (y : Int) = (x : Int)) (by omega), decide_eq_true (p := x ∈ y :: r) (by rw [h]; exact List.mem_cons_self ..)] <;> rfl
    · rw [decide_eq_false (by omega), Bool.false_or]
      exact decide_eq_decide.mpr ⟨fun z => List.mem_cons_of_mem _ z, fun z => (List.mem_cons.mp z).elim (fun q => absurd q.symm h) id⟩
theorem set_true (k : W) : ∀ acc : List Nat, setKey k (.bl true) (acc.map nW) (acc.map fun _ => .bl true) = acc.map fun _ => .bl true
  | [] => rfl
  | y :: r => by
    show (if keqW (nW y) k = true then W.bl true else .bl true) :: setKey k (.bl true) (r.map nW) (r.map fun _ => .bl true) = _
    rw [set_true k r]
    split <;> rfl
theorem dcomp_sums {g : MG} {ek ev : ME} {η : Env} : ∀ (l acc : List Nat), acc.length + l.length ≤ 100000 → (∀ x ∈ l, ∃ η1, g (nW x) η [] = some (η1, []) ∧ ek η1 [] = .ok (nW x) [] ∧ ev η1 [] = .ok (.bl true) []) →
    dcompL g mtYes ek ev η (l.map nW) [] (acc.map nW) (acc.map fun _ => .bl true) = .ok ((addN acc l).map nW, (addN acc l).map fun _ => .bl true) []
  | [], acc, _, _ => rfl
  | x :: r, acc, hl, h => by
    rw [List.length_cons] at hl
    obtain ⟨η1, h1, h2, h3⟩ := h x (List.mem_cons_self ..)
    have ih := dcomp_sums (g := g) (ek := ek) (ev := ev) (η := η) r (if x ∈ acc then acc else acc ++ [x]) (by
      split
      · omega
      · rw [List.length_append, List.length_singleton]; omega) fun y hy => h y (List.mem_cons_of_mem _ hy)
    rw [List.map_cons]
    unfold dcompL
    simp only [h1, mtYes, R.bind, h2, h3, if_true]
    have hk : isKey (nW x) = true := rfl
    rw [if_pos hk]
    unfold sized
    rw [if_pos (by rw [List.length_map]; unfold bigLine; omega)]
    have e1 : putKs (nW x) (acc.map nW) = (if x ∈ acc then acc else acc ++ [x]).map nW := by
      unfold putKs
      rw [has_nW]
      by_cases hx : x ∈ acc
      · rw [if_pos hx, if_pos (decide_eq_true hx)]
      · rw [if_neg hx, if_neg (by rw [decide_eq_false hx]; decide), List.map_append] <;> rfl
    have e2 : putVs (nW x) (.bl true) (acc.map nW) (acc.map fun _ => W.bl true) = (if x ∈ acc then acc else acc ++ [x]).map fun _ => W.bl true := by
      unfold putVs
      rw [has_nW]
      by_cases hx : x ∈ acc
      · rw [if_pos hx, if_pos (decide_eq_true hx), set_true]
      · rw [if_neg hx, if_neg (by rw [decide_eq_false hx]; decide), List.map_append] <;> rfl
    rw [e1, e2]
    exact ih
def sums (bs : List Nat) : List Nat := (pts bs).map (·.2)
theorem mem_sums (bs : List Nat) (y : Nat) : y ∈ sums bs ↔ inSp bs y := by
  have h := cnt_is bs y
  constructor
  · intro hy
    refine Classical.byContradiction fun n => ?_
    have z := h.2 n
    obtain ⟨p, hp, e⟩ := List.mem_map.mp hy
    have : 0 < cnt bs y := List.countP_pos_iff.mpr ⟨p, hp, decide_eq_true e⟩
    omega
  · intro hy
    have z := h.1 hy
    have : 0 < cnt bs y := by
      rw [z]
      exact Nat.two_pow_pos _
    obtain ⟨p, hp, e⟩ := List.countP_pos_iff.mp this
    exact List.mem_map.mpr ⟨p, hp, of_decide_eq_true e⟩
def keysOf (bs : List Nat) : List Nat := addN [] (sums bs)
theorem keysOf_mem (bs : List Nat) (y : Nat) : y ∈ keysOf bs ↔ inSp bs y := by
  unfold keysOf
  rw [addN_mem, mem_sums]
  simp
theorem sums_len {bs : List Nat} (hl : bs.length ≤ 12) : (sums bs).length ≤ 4096 := by
  unfold sums
  rw [List.length_map, (pts_ok bs).len]
  exact Nat.pow_le_pow_right (n := 2) (by decide) hl
theorem okD_row {n : Nat} {bs : List Nat} {k : Nat} (hk : 0 < k) : okD (.tup (bs.map (dcd n))) k = true := by
  show (decide (0 < k) && okDs (bs.map (dcd n)) (k - 1)) = true
  rw [decide_eq_true hk, okDs_dcd] <;> rfl
def dctN (l : List Nat) : W := .dct (.bl false :: l.map nW) (l.map fun _ => .bl true)
theorem dcompV_ok {d n i : Nat} {bs : List Nat} {f : ME} {own : List Nat} {g : MG} {ek ev : ME} {η : Env} (h1 : 1 ≤ n) (h6 : n ≤ 6) (hb : ∀ b ∈ bs, b < 2 ^ n ∧ b ≠ 0) (hl : bs.length ≤ 12) (hf : f η [] = .ok (pkD ((pts bs).map eP)) []) (hm : maskE η = η)
    (h : ∀ x, ∃ η1, g (nW x) (wipeE η own) [] = some (η1, []) ∧ ek η1 [] = .ok (nW x) [] ∧ ev η1 [] = .ok (.bl true) []) : mDCompV f own g mtYes ek ev η [] = .ok (dctN (keysOf bs)) [] := by
  have er := rowsD_eP ((pts bs).map eP)
  have el : ((pts bs).map eP).map (fun p => W.int p.2) = (sums bs).map nW := by
    unfold sums
    rw [List.map_map, List.map_map] <;> rfl
  have ed := dcomp_sums (g := g) (ek := ek) (ev := ev) (η := wipeE η own) (sums bs) [] (by have := sums_len hl; rw [List.length_nil]; omega) fun x _ => h x
  have ok : okDs ((keysOf bs).map fun _ => W.bl true) 60 = true := okDs_of fun w hw => by
    obtain ⟨_, _, rfl⟩ := List.mem_map.mp hw
    rfl
  unfold mDCompV
  simp only [hf]
  unfold pkD
  simp only [er, hm]
  rw [el]
  have ed : dcompL g mtYes ek ev (wipeE η own) ((sums bs).map nW) [] [] [] = .ok ((keysOf bs).map nW, (keysOf bs).map fun _ => .bl true) [] := ed
  rw [ed]
  show (if okDs ((keysOf bs).map fun _ => W.bl true) 60 = true then _ else _) = _
  rw [if_pos ok] <;> rfl
theorem in_str {n x : Nat} {ys : List Nat} {S : Store} (hx : x ∈ ys) : opIn (dcd n x) (.tup (ys.map (dcd n))) S = some (.bl true) := by
  have hf : (ys.map (dcd n)).all flat = true := List.all_eq_true.mpr fun w hw => by
    obtain ⟨_, _, rfl⟩ := List.mem_map.mp hw
    rfl
  have hi : inW (dcd n x) (ys.map (dcd n)) = true := List.any_eq_true.mpr ⟨dcd n x, List.mem_map_of_mem hx, by
    show (ds n x == ds n x) = true
    exact beq_self_eq_true _⟩
  have e : opIn (dcd n x) (.tup (ys.map (dcd n))) S = (if flat (dcd n x) = true ∧ (ys.map (dcd n)).all flat = true then some (.bl (inW (dcd n x) (ys.map (dcd n)))) else (match lstOf S (.tup (ys.map (dcd n))) with
      | some ys => if okD (dcd n x) 30 = true ∧ okDs ys 29 = true then some (.bl (inW (dcd n x) ys)) else none
      | none => none)) := by
    unfold dcd
    cases ds n x with
    | nil => rfl
    | cons c r => cases r <;> rfl
  rw [e, if_pos ⟨rfl, hf⟩, hi]
def cpl (n : Nat) (bs : List Nat) : List Nat := (dk n).filter fun y => spB bs y && !decide (y ∈ bs)
theorem cplby_ok {d n : Nat} {bs : List Nat} {S : Store} (h1 : 1 ≤ n) (h6 : n ≤ 6) (hb : ∀ b ∈ bs, b < 2 ^ n ∧ b ≠ 0) (hl : bs.length ≤ 12) : fns T (d + 8) 22 [.int n, .tup (bs.map (dcd n))] S = .ok (.lst ((cpl n bs).map (dcd n))) S := by
  refine fr_ret (η := [some (.int n), some (.tup (bs.map (dcd n))), none, none, none]) (b := b_dot_completing_by) (nv := 5) (S' := []) rfl rfl (by show (true && (pures (bs.map (dcd n)) && true)) = true; rw [pures_dcd] <;> rfl) rfl ?_ (pures_dcd n _)
  unfold b_dot_completing_by
  have e0 := sumsp_ok (d := d) (S := []) h1 h6 hb (by omega)
  have e1 : (mDCompV (mCall (fns T (d + 7)) 11 (maCons (mVar 1) (maNil))) [3] (gVar 3) (mtYes) (mVar 3) (mC (.bl true))) [some (.int n), some (.tup (bs.map (dcd n))), none, none, none] [] = .ok (dctN (keysOf bs)) [] := by
    refine dcompV_ok (d := d) (i := 0) h1 h6 hb hl (by walk_at "mev") ?_ fun x => ⟨[some (.int n), some (.tup (bs.map (dcd n))), none, some (nW x), none], rfl, rfl, rfl⟩
    unfold maskE
    simp only [List.map_cons, List.map_nil]
    rw [if_pos (okD_row (n := n) (bs := bs) (k := 60) (by decide))]
    rfl
  have e3 : fns T (d + 7) 21 [.int n] [] = .ok (.lst ((dk n).map (dcd n))) [] := deckby_ok (d := d) (n := n) (S := []) h1 h6
  refine sSeq_nE (η1 := [some (.int n), some (.tup (bs.map (dcd n))), some (dctN (keysOf bs)), none, none]) (S1 := []) (by walk_at "mst") (sRet_ok ?_)
  refine comp_flt (u := dcd n) (v := dcd n) (l := dk n) (P := fun y => spB bs y && !decide (y ∈ bs)) (by walk_at "mev") (fun y hy => ⟨[some (.int n), some (.tup (bs.map (dcd n))), some (dctN (keysOf bs)), none, some (dcd n y)], rfl, ?_, fun _ => mVar_ok rfl⟩) (by have := dk_le (n := n) h6; unfold bigLine; omega)
  have hy := dk_mem hy
  have e4 := bits_ok (d := d + 1) (S := []) h1 h6 hy.1 hy.2
  have e5 : opInD (nW y) (dctN (keysOf bs)) [] = some (.bl (spB bs y)) := by
    show some (W.bl (hasKey (nW y) ((keysOf bs).map nW))) = _
    rw [has_nW]
    have : decide (y ∈ keysOf bs) = spB bs y := by
      rw [Bool.eq_iff_iff, decide_eq_true_eq, keysOf_mem, spB_iff]
    rw [this]
  have t1 : (mTCmp opInD (mCall (fns T (d + 7)) 7 (maCons (mVar 4) (maNil))) (mVar 2)) [some (.int n), some (.tup (bs.map (dcd n))), some (dctN (keysOf bs)), none, some (dcd n y)] [] = .ok (spB bs y) [] := by walk_at "mev"
  have t2 : (mTCmp opNotInD (mVar 4) (mVar 1)) [some (.int n), some (.tup (bs.map (dcd n))), some (dctN (keysOf bs)), none, some (dcd n y)] [] = .ok (!decide (y ∈ bs)) [] := by
    refine mTCmp_ok (S1 := []) (mVar_ok rfl) (mVar_ok rfl) ?_
    show opNotIn (dcd n y) (.tup (bs.map (dcd n))) [] = _
    unfold opNotIn
    by_cases c : y ∈ bs
    · rw [in_str c, decide_eq_true c]
    · rw [notin_str h1 h6 hy bs fun z hz => ⟨hb z hz, fun e => c (e ▸ hz)⟩, decide_eq_false c]
  cases q : spB bs y with
  | true =>
    rw [q] at t1
    exact (mTAnd_t t1).trans t2
  | false =>
    rw [q] at t1
    exact mTAnd_f t1
theorem cpl_f {d n : Nat} {row : List Nat} {S : Store} (h1 : 1 ≤ n) (h6 : n ≤ 6) (hb : ∀ b ∈ row, b < 2 ^ n ∧ b ≠ 0) (nd : row.Nodup) (hl : row.length ≤ 12) : fns T (d + 9) 32 [.int n, .tup (row.map (dcd n))] S = .ok (.tup ((cpl n row).map (dcd n))) S := by
  refine fr_ret (η := [some (.int n), some (.tup (row.map (dcd n)))]) (b := b_dot_completing) (nv := 2) (S' := []) rfl rfl (by show (true && (pures (row.map (dcd n)) && true)) = true; rw [pures_dcd] <;> rfl) rfl ?_ (pures_dcd n _)
  have e1 := checkr_ok (d := d) (S := []) h1 h6 hb nd hl
  have e2 := cplby_ok (d := d) (S := []) h1 h6 hb hl
  unfold b_dot_completing
  walk_at "mst"
def ltTbl (n : Nat) : Bool := (List.range (2 ^ n)).all fun a => (List.range (2 ^ n)).all fun b => decide (ltN (ds n a) (ds n b) = decide (a < b))
theorem c_lt : ([1, 2, 3, 4, 5, 6] : List Nat).all ltTbl = true := by decide +kernel
theorem lt_ds {n a b : Nat} (h1 : 1 ≤ n) (h6 : n ≤ 6) (ha : a < 2 ^ n) (hb : b < 2 ^ n) : ltN (ds n a) (ds n b) = decide (a < b) :=
  of_decide_eq_true (List.all_eq_true.mp (List.all_eq_true.mp (List.all_eq_true.mp c_lt n (mem16 h1 h6)) a (List.mem_range.mpr ha)) b (List.mem_range.mpr hb))
theorem sortN_eq {l m : List (List Nat)} (p : m.Perm l) (a : AscN m) : sortN l = m :=
  List.Perm.eq_of_pairwise (le := fun a b => ltN b a = false) (fun a b _ _ h k => ltN_tot k h) (sortN_asc l) a ((sortN_perm l).trans p.symm)
theorem asc_ds {n : Nat} {l : List Nat} (h1 : 1 ≤ n) (h6 : n ≤ 6) (hl : ∀ b ∈ l, b < 2 ^ n) (ha : l.Pairwise (· < ·)) : AscN (l.map (ds n)) :=
  List.pairwise_map.mpr (ha.imp_of_mem fun {a b} x y z => by rw [lt_ds h1 h6 (hl b y) (hl a x), decide_eq_false (by omega)])
theorem mem_dk {n y : Nat} : y ∈ dk n ↔ y < 2 ^ n ∧ y ≠ 0 := by
  refine ⟨dk_mem, fun h => ?_⟩
  unfold dk
  exact List.mem_map.mpr ⟨y - 1, List.mem_range.mpr (by omega), by omega⟩
theorem dk_asc (n : Nat) : (dk n).Pairwise (· < ·) := by
  unfold dk
  exact List.pairwise_map.mpr (List.pairwise_lt_range.imp fun h => by omega)
theorem mem_cpl {n y : Nat} {bs : List Nat} : y ∈ cpl n bs ↔ (y < 2 ^ n ∧ y ≠ 0) ∧ inSp bs y ∧ y ∉ bs := by
  unfold cpl
  rw [List.mem_filter, mem_dk, Bool.and_eq_true, spB_iff, Bool.not_eq_true', decide_eq_false_iff_not]
theorem cpl_asc (n : Nat) (bs : List Nat) : (cpl n bs).Pairwise (· < ·) := List.Pairwise.filter _ (dk_asc n)
/-- the cards that complete a row led: those of the row, led and sorted -/
theorem sorted_cpl {n : Nat} {φ : Nat → Nat} {bs : List Nat} {S : Store} (L : Lin n φ) (lt : ∀ b, b < 2 ^ n → φ b < 2 ^ n) (h1 : 1 ≤ n) (h6 : n ≤ 6) (hb : ∀ b ∈ bs, b < 2 ^ n) : baSorted [.lst ((cpl n bs).map fun y => dcd n (φ y))] S = some (.lst ((cpl n (bs.map φ)).map (dcd n))) := by
  have e0 : ((cpl n bs).map fun y => dcd n (φ y)) = ((cpl n bs).map φ).map (dcd n) := by rw [List.map_map] <;> rfl
  rw [e0]
  show sortedRes false (((cpl n bs).map φ).map (dcd n)) = _
  unfold sortedRes
  rw [strs_dcd]
  show some (W.lst ((sortN (((cpl n bs).map φ).map (ds n))).map W.str)) = _
  have hc : ∀ y ∈ cpl n (bs.map φ), y < 2 ^ n := fun y hy => (mem_cpl.mp hy).1.1
  have zero : ∀ y, y < 2 ^ n → φ y = 0 → y = 0 := fun y hy e => L.inj y 0 hy (Nat.pow_pos (by decide)) (e.trans L.zero.symm)
  rw [sortN_eq (m := (cpl n (bs.map φ)).map (ds n)) (List.Perm.map _ ((List.perm_ext_iff_of_nodup ((cpl_asc n _).imp Nat.ne_of_lt) ?_).mpr fun y => ?_)) (asc_ds h1 h6 hc (cpl_asc n _)), List.map_map]
  · rfl
  · refine List.pairwise_map.mpr ((cpl_asc n bs).imp_of_mem fun {a b} ha hb z e => ?_)
    have := L.inj a b (mem_cpl.mp ha).1.1 (mem_cpl.mp hb).1.1 e
    omega
  · constructor
    · intro h
      obtain ⟨⟨y1, y2⟩, y3, y4⟩ := mem_cpl.mp h
      obtain ⟨z, z1, z2, rfl⟩ := (sp_img L hb).mp y3
      exact List.mem_map.mpr ⟨z, mem_cpl.mpr ⟨⟨z1, fun e => y2 (by rw [e, L.zero])⟩, z2, fun q => y4 (List.mem_map_of_mem q)⟩, rfl⟩
    · intro h
      obtain ⟨z, hz, rfl⟩ := List.mem_map.mp h
      obtain ⟨⟨z1, z2⟩, z3, z4⟩ := mem_cpl.mp hz
      refine mem_cpl.mpr ⟨⟨lt z z1, fun e => z2 (zero z z1 e)⟩, (sp_img_mem L hb z1).mpr z3, fun q => ?_⟩
      obtain ⟨w, w1, e⟩ := List.mem_map.mp q
      rw [L.inj w z (hb w w1) z1 e] at w1
      exact z4 w1
end Lw
namespace Lw
open Mp C63
/-! a row led, asked -/
theorem compL_sub {g : MG} {t : MT} {e : ME} {η : Env} {α : Type} {u : α → W} (I : Store → Prop) : ∀ (l : List α) (acc : List W) (S : Store), I S → (∀ x, x ∈ l → ∀ S, I S → ∃ η1 b S', g (u x) η S = some (η1, S) ∧ t η1 S = .ok b S' ∧ I S' ∧ e η1 S' = .ok (u x) S') → acc.length + l.length ≤ bigLine → ∃ (r : List α) (S' : Store), r.Sublist l ∧ compL g t e η (l.map u) S acc = .ok (acc ++ r.map u) S' ∧ I S'
  | [], acc, S, hi, _, _ => ⟨[], S, List.Sublist.refl _, by rw [List.map_nil, List.append_nil] <;> rfl, hi⟩
  | x :: r, acc, S, hi, h, hl => by
    rw [List.length_cons] at hl
    obtain ⟨η1, b, S1, h1, h2, i1, h3⟩ := h x (List.mem_cons_self ..) S hi
    cases b with
    | true =>
      obtain ⟨q, S2, s2, e2, i2⟩ := compL_sub I r (acc ++ [u x]) S1 i1 (fun y hy => h y (List.mem_cons_of_mem _ hy)) (by rw [List.length_append, List.length_singleton]; omega)
      refine ⟨x :: q, S2, s2.cons_cons x, ?_, i2⟩
      rw [List.map_cons]
      unfold compL
      simp only [h1, h2, h3, R.bind]
      rw [if_pos True.intro]
      unfold sized
      rw [if_pos (by omega)]
      rw [e2, List.append_assoc] <;> rfl
    | false =>
      obtain ⟨q, S2, s2, e2, i2⟩ := compL_sub I r acc S1 i1 (fun y hy => h y (List.mem_cons_of_mem _ hy)) (by omega)
      refine ⟨q, S2, s2.cons x, ?_, i2⟩
      rw [List.map_cons]
      unfold compL
      simp only [h1, h2, R.bind]
      rw [if_neg (by decide)]
      exact e2
theorem mComp_of {it : MI} {own : List Nat} {g : MG} {t : MT} {e : ME} {η : Env} {S S1 S2 : Store} {xs ws : List W} (hi : it η S = .ok xs S1) (hc : compL g t e (wipeE η own) xs S1 [] = .ok ws S2) : mComp it own g t e η S = .ok (.lst ws) S2 := by
  unfold mComp
  rw [hi]
  show (noexc (compL g t e (wipeE η own) xs S1 [])).bind (fun ws S2 => R.ok (W.lst ws) S2) = _
  rw [hc]
  rfl
theorem ds_get {n b k : Nat} (h : k < n) : (ds n b)[k]? = some (if b.testBit (n - 1 - k) = true then 111 else 46) := by
  unfold ds
  rw [List.getElem?_map, List.getElem?_reverse (by rw [List.length_range]; exact h), List.length_range, List.getElem?_range (by omega)] <;> rfl
theorem ds_len2 (n b : Nat) : (ds n b).length = n := by
  unfold ds
  rw [List.length_map, List.length_reverse, List.length_range]
theorem ds_ix {n b k : Nat} {S : Store} (h : k < n) : opIx (dcd n b) (nW k) S = some (.str [if b.testBit (n - 1 - k) = true then 111 else 46]) := by
  show (ixW (ds n b).length (k : Int)).bind (fun j => (ds n b)[j]?.map fun c => W.str [c]) = _
  unfold ixW
  rw [if_pos (by omega), if_pos (by rw [ds_len2]; omega)]
  show ((ds n b)[((k : Int)).toNat]?.map fun c => W.str [c]) = _
  rw [Int.toNat_natCast, ds_get h] <;> rfl
theorem ds_up (n : Nat) (ks : List Nat) (b : Nat) : ds (n + 1) (up n ks b) = ds n b ++ [if prt n ks b = true then 111 else 46] := by
  unfold ds
  rw [List.range_succ_eq_map, List.reverse_cons, List.map_append, ← List.map_reverse, List.map_map]
  congr 1
  · refine List.map_congr_left fun k _ => ?_
    show (if (up n ks b).testBit (k + 1) = true then 111 else 46) = _
    rw [up_bits]
  · show [if (up n ks b).testBit 0 = true then 111 else 46] = _
    rw [up_bit0]
abbrev aE (i n : Nat) (bs : List Nat) (c3 c4 c5 c6 c7 : Option W) : Env := [some (.ref i), some (nW n), some (.tup (bs.map (dcd n))), c3, c4, c5, c6, c7, none]
section
variable {d i n : Nat} {bs : List Nat} {S : Store} {c3 c4 c5 c6 : Option W} {ls : List (Nat × Nat)} {l : List Nat}
theorem led_comp {it : MI} {h : ME} (h6 : n ≤ 6) (hi : it (aE i n bs c3 c4 c5 c6 none) S = .ok (l.map (dcd n)) S) (hh : ∀ w, h (aE i n bs c3 c4 c5 c6 (some w)) S = .ok (.lst (ls.map pW)) S) (hd : Lds n ls) (hl : ls.length ≤ 100) (ll : l.length ≤ 100000) :
    mComp it [7] (gVar 7) (mtYes) (mCall (fns T (d + 1)) 43 (maCons (mVar 7) (maCons h (maNil)))) (aE i n bs c3 c4 c5 c6 none) S = .ok (.lst (l.map fun b => dcd n (ledN n ls b))) S :=
  comp_gen (u := dcd n) (v := fun b => dcd n (ledN n ls b)) (l := l) hi (fun b _ => ⟨aE i n bs c3 c4 c5 c6 (some (dcd n b)), rfl, rfl, mCall_ok (maCons_ok (mVar_ok rfl) (maCons_ok (hh _) maNil_ok)) (lled_ok (d := d) (by omega) hd hl)⟩) (by unfold bigLine; omega)
theorem longer_comp {ks : List Nat} (h6 : n ≤ 6) (hk : ∀ k ∈ ks, k < n) (hkl : ks.length ≤ 100) (ll : bs.length ≤ 100000) :
    mComp (miSeq (mVar 2)) [7] (gVar 7) (mtYes) (mBin opAdd (mVar 7) (mIf (mTCmp opEq (mBin opAnd (mBi baLen (maCons (mComp (miSeq (mVar 5)) [8] (gVar 8) (mTCmp opEq (mBin opIx (mVar 7) (mVar 8)) (mC (.str [111]))) (mVar 8)) (maNil))) (mC (.int 1))) (mC (.int 1))) (mC (.str [111])) (mC (.str [46])))) (aE i n bs c3 c4 (some (.lst (ks.map nW))) c6 none) S = .ok (.lst ((bs.map (up n ks)).map (dcd (n + 1)))) S := by
  rw [List.map_map]
  refine comp_gen (u := dcd n) (v := fun b => dcd (n + 1) (up n ks b)) (l := bs) rfl (fun b _ => ⟨aE i n bs c3 c4 (some (.lst (ks.map nW))) c6 (some (dcd n b)), rfl, rfl, ?_⟩) (by unfold bigLine; omega)
  have c1 : (mComp (miSeq (mVar 5)) [8] (gVar 8) (mTCmp opEq (mBin opIx (mVar 7) (mVar 8)) (mC (.str [111]))) (mVar 8)) (aE i n bs c3 c4 (some (.lst (ks.map nW))) c6 (some (dcd n b))) S = .ok (.lst ((ks.filter fun k => b.testBit (n - 1 - k)).map nW)) S := by
    refine comp_flt (u := nW) (v := nW) (l := ks) (P := fun k => b.testBit (n - 1 - k)) rfl (fun k hkm => ⟨[some (.ref i), some (nW n), some (.tup (bs.map (dcd n))), c3, c4, some (.lst (ks.map nW)), c6, some (dcd n b), some (nW k)], rfl, mTCmp_ok (mBin_ok (mVar_ok rfl) (mVar_ok rfl) (ds_ix (hk k hkm))) mC_ok ?_, fun _ => mVar_ok rfl⟩) (by unfold bigLine; omega)
    cases b.testBit (n - 1 - k) <;> rfl
  have c2 : (mBin opAnd (mBi baLen (maCons (mComp (miSeq (mVar 5)) [8] (gVar 8) (mTCmp opEq (mBin opIx (mVar 7) (mVar 8)) (mC (.str [111]))) (mVar 8)) (maNil))) (mC (.int 1))) (aE i n bs c3 c4 (some (.lst (ks.map nW))) c6 (some (dcd n b))) S = .ok (nW ((ks.filter fun k => b.testBit (n - 1 - k)).length % 2)) S := by
    refine mBin_ok (x := nW (ks.filter fun k => b.testBit (n - 1 - k)).length) (mBi1_ok c1 ?_) mC_ok ?_
    · show some (W.int ((((ks.filter fun k => b.testBit (n - 1 - k)).map nW).length : Nat) : Int)) = _
      rw [List.length_map] <;> rfl
    · generalize (ks.filter fun k => b.testBit (n - 1 - k)).length = m
      show (if 0 ≤ (m : Int) ∧ 0 ≤ (1 : Int) then some (W.int (((m : Int).toNat &&& (1 : Int).toNat : Nat) : Int)) else none) = _
      rw [if_pos ⟨by omega, by decide⟩, Int.toNat_natCast]
      show some (W.int ((m &&& 1 : Nat) : Int)) = _
      rw [Nat.and_one_is_mod] <;> rfl
  have t3 : (mTCmp opEq (mBin opAnd (mBi baLen (maCons (mComp (miSeq (mVar 5)) [8] (gVar 8) (mTCmp opEq (mBin opIx (mVar 7) (mVar 8)) (mC (.str [111]))) (mVar 8)) (maNil))) (mC (.int 1))) (mC (.int 1))) (aE i n bs c3 c4 (some (.lst (ks.map nW))) c6 (some (dcd n b))) S = .ok (prt n ks b) S := by
    refine mTCmp_ok c2 mC_ok ?_
    rw [← prt_len]
    generalize (ks.filter fun k => b.testBit (n - 1 - k)).length % 2 = m
    show some (W.bl ((m : Int) == 1)) = _
    refine congrArg (fun z => some (W.bl z)) ?_
    rw [Bool.eq_iff_iff, beq_iff_eq, decide_eq_true_eq]
    omega
  have e1 : (mIf (mTCmp opEq (mBin opAnd (mBi baLen (maCons (mComp (miSeq (mVar 5)) [8] (gVar 8) (mTCmp opEq (mBin opIx (mVar 7) (mVar 8)) (mC (.str [111]))) (mVar 8)) (maNil))) (mC (.int 1))) (mC (.int 1))) (mC (.str [111])) (mC (.str [46]))) (aE i n bs c3 c4 (some (.lst (ks.map nW))) c6 (some (dcd n b))) S = .ok (.str [if prt n ks b = true then 111 else 46]) S := by
    cases q : prt n ks b with
    | true =>
      rw [q] at t3
      exact (mIf_t t3).trans rfl
    | false =>
      rw [q] at t3
      exact (mIf_f t3).trans rfl
  refine mBin_ok (mVar_ok rfl) e1 ?_
  show (if (ds n b).length + 1 ≤ bigLine then some (W.str (ds n b ++ [if prt n ks b = true then 111 else 46])) else none) = some (dcd (n + 1) (up n ks b))
  rw [if_pos (by rw [ds_len2]; unfold bigLine; omega), ← ds_up] <;> rfl
end
end Lw
namespace Lw
open Mp C63
theorem map_led {n : Nat} {φ : Nat → Nat} (l : List Nat) : (l.map fun b => dcd n (φ b)) = (l.map φ).map (dcd n) := by rw [List.map_map] <;> rfl
theorem lds_rev {n : Nat} {ls : List (Nat × Nat)} (h : Lds n ls) : Lds n ls.reverse := fun p hp => h p (List.mem_reverse.mp hp)
section
variable {d i n : Nat} {bs : List Nat} {S : Store}
theorem some_comp {c3 c4 c5 c6 : Option W} (h6 : n ≤ 6) (hw : Well S i) : ∃ (ks : List Nat) (S' : Store), (∀ k ∈ ks, k < n) ∧ ks.length ≤ 6 ∧ mComp (miRng rng1 (maCons (mVar 1) (maNil))) [8] (gVar 8) (mTCmp opEq (mCall (fns T (d + 1)) 35 (maCons (mVar 0) (maCons (mC (.int 2)) (maNil)))) (mC (.int 0))) (mVar 8) (aE i n bs c3 c4 c5 c6 none) S = .ok (.lst (ks.map nW)) S' ∧ Well S' i ∧ S'.length = S.length := by
  obtain ⟨r, S', hs, ec, w, l⟩ := compL_sub (α := Nat) (g := gVar 8) (t := mTCmp opEq (mCall (fns T (d + 1)) 35 (maCons (mVar 0) (maCons (mC (.int 2)) (maNil)))) (mC (.int 0))) (e := mVar 8) (η := aE i n bs c3 c4 c5 c6 none) (u := nW) (fun S' => Well S' i ∧ S'.length = S.length) (List.range n) [] S ⟨hw, rfl⟩ (fun k _ S1 hh => by
    obtain ⟨w1, l1⟩ := hh
    obtain ⟨x, x0, x1, S2, e2, w2, l2, _⟩ := take_call (T := T) (d := d) (k := 35) (S := S1) (i := i) (n := 2) rfl w1 (by decide) (by decide)
    refine ⟨[some (.ref i), some (nW n), some (.tup (bs.map (dcd n))), c3, c4, c5, c6, none, some (nW k)], (x == 0), S2, rfl, mTCmp_ok (mCall_ok (S1 := S1) (maCons_ok (mVar_ok rfl) (maCons_ok mC_ok maNil_ok)) e2) mC_ok rfl, ⟨w2, l2.trans l1⟩, mVar_ok rfl⟩) (by rw [List.length_range, List.length_nil]; unfold bigLine; omega)
  refine ⟨r, S', fun k hk => List.mem_range.mp (hs.subset hk), Nat.le_trans hs.length_le (by rw [List.length_range]; exact h6), ?_, w, l⟩
  refine mComp_of (S1 := S) (xs := (List.range n).map nW) (miRng_ok (ws := [nW n]) (maCons_ok (mVar_ok rfl) maNil_ok) ?_) ec
  exact (rng1_nat (by omega)).trans (congrArg some (rangeW_nat n))
theorem asked_ok (h2 : 2 ≤ n) (h6 : n ≤ 6) (hb : ∀ b ∈ bs, b < 2 ^ n ∧ b ≠ 0) (nd : bs.Nodup) (hl : bs.length ≤ 12) (hw : Well S i) : ∃ S', fns T (d + 13) 45 [.ref i, nW n, .tup (bs.map (dcd n))] S = .ok (.bl true) S' ∧ Well S' i ∧ S'.length = S.length := by
  have h1 : 1 ≤ n := by omega
  have hi : i < S.length := by
    obtain ⟨_, _, _, _, _, e⟩ := hw
    exact lt_get e
  have hb' : ∀ b ∈ bs, b < 2 ^ n := fun b h => (hb b h).1
  obtain ⟨ls, S1, ed, hd, hl6, w1, l1⟩ := drawn_ok (d := d + 10) h2 h6 hw
  obtain ⟨L, lt⟩ := led_lin hd
  obtain ⟨rb, rn⟩ := row_img L lt hb nd
  have rl : (bs.map (ledN n ls)).length ≤ 12 := by rw [List.length_map]; exact hl
  obtain ⟨ks, S2, hk, hkl, es, w2, l2⟩ := some_comp (d := d + 11) (bs := bs) (c3 := some (.lst (ls.map pW))) (c4 := some (.tup ((bs.map (ledN n ls)).map (dcd n)))) (c5 := none) (c6 := none) h6 w1
  refine ⟨S2.take S.length, ?_, ?_, by rw [List.length_take]; omega⟩
  · refine (nf_call (η := aE i n bs none none none none none) (np := 3) (nv := 9) (keep := false) (b := b_law_asked) rfl rfl rfl).trans ?_
    have eb : b_law_asked (fns T (d + 12)) (aE i n bs none none none none none) S = .ret (.bl true) S2 := by
      unfold b_law_asked
      refine sSeq_nE (η1 := aE i n bs (some (.lst (ls.map pW))) none none none none) (S1 := S1) (sSet_ev (mCall_ok (S1 := S) (maCons_ok (mVar_ok rfl) (maCons_ok (mVar_ok rfl) maNil_ok)) ed) rfl) ?_
      refine sSeq_nE (η1 := aE i n bs (some (.lst (ls.map pW))) (some (.tup ((bs.map (ledN n ls)).map (dcd n)))) none none none) (S1 := S1) (sSet_ev (mBi1_ok (led_comp (d := d + 11) (l := bs) h6 rfl (fun _ => rfl) hd (by omega) (by omega)) (by rw [map_led] <;> rfl)) rfl) ?_
      -- what is told; led back
      have q1 : (mCall (fns T (d + 12)) 36 (maCons (mCall (fns T (d + 12)) 44 (maCons (mVar 1) (maCons (mVar 4) (maNil)))) (maCons (mCall (fns T (d + 12)) 44 (maCons (mVar 1) (maCons (mVar 2) (maNil)))) (maNil)))) (aE i n bs (some (.lst (ls.map pW))) (some (.tup ((bs.map (ledN n ls)).map (dcd n)))) none none none) S1 = .ok (.bl true) S1 := by
        have t1 := told_ok (d := d) (S := S1) h1 h6 rb rn rl
        rw [told_img L hb'] at t1
        exact mCall_ok (S1 := S1) (maCons_ok (mCall_ok (S1 := S1) (maCons_ok (mVar_ok rfl) (maCons_ok (mVar_ok rfl) maNil_ok)) t1) (maCons_ok (mCall_ok (S1 := S1) (maCons_ok (mVar_ok rfl) (maCons_ok (mVar_ok rfl) maNil_ok)) (told_ok (d := d) h1 h6 hb nd hl)) maNil_ok)) (same_at (told_sd hl) (by omega) S1)
      have q2 : (mCall (fns T (d + 12)) 36 (maCons (mBi baTuple (maCons (mComp (miSeq (mVar 4)) [7] (gVar 7) (mtYes) (mCall (fns T (d + 12)) 43 (maCons (mVar 7) (maCons (mRev (mVar 3)) (maNil))))) (maNil))) (maCons (mVar 2) (maNil)))) (aE i n bs (some (.lst (ls.map pW))) (some (.tup ((bs.map (ledN n ls)).map (dcd n)))) none none none) S1 = .ok (.bl true) S1 := by
        have back : (bs.map (ledN n ls)).map (ledN n ls.reverse) = bs := by
          rw [List.map_map]
          exact (List.map_congr_left fun b _ => led_back hd b).trans (List.map_id _)
        refine mCall_ok (S1 := S1) (maCons_ok (x := .tup (bs.map (dcd n))) (mBi1_ok (led_comp (d := d + 11) (ls := ls.reverse) (l := bs.map (ledN n ls)) h6 rfl (fun _ => ?_) (lds_rev hd) (by rw [List.length_reverse]; omega) (by omega)) (by rw [map_led, back] <;> rfl)) (maCons_ok (mVar_ok rfl) maNil_ok)) (same_tD (d := d + 10) (by omega))
        rw [List.map_reverse] <;> rfl
      refine sSeq_nE (sIf_n (no2 q1 q2)) ?_
      -- rank
      have q3 : (mTCmp opNe (mCall (fns T (d + 12)) 29 (maCons (mVar 1) (maCons (mVar 2) (maNil)))) (mBi baLen (maCons (mCall (fns T (d + 12)) 41 (maCons (mComp (miSeq (mVar 2)) [7] (gVar 7) (mtYes) (mCall (fns T (d + 12)) 38 (maCons (mVar 7) (maNil)))) (maNil))) (maNil)))) (aE i n bs (some (.lst (ls.map pW))) (some (.tup ((bs.map (ledN n ls)).map (dcd n)))) none none none) S1 = .ok false S1 := by
        have c1 : (mComp (miSeq (mVar 2)) [7] (gVar 7) (mtYes) (mCall (fns T (d + 12)) 38 (maCons (mVar 7) (maNil)))) (aE i n bs (some (.lst (ls.map pW))) (some (.tup ((bs.map (ledN n ls)).map (dcd n)))) none none none) S1 = .ok (.lst (bs.map nW)) S1 := comp_gen (u := dcd n) (v := nW) (l := bs) rfl (fun b h => ⟨aE i n bs (some (.lst (ls.map pW))) (some (.tup ((bs.map (ledN n ls)).map (dcd n)))) none none (some (dcd n b)), rfl, rfl, mCall_ok (S1 := S1) (maCons_ok (mVar_ok rfl) maNil_ok) (lnum_ok (d := d + 6) h1 h6 (hb b h).1 (hb b h).2)⟩) (by unfold bigLine; omega)
        refine mTCmp_ok (mCall_ok (S1 := S1) (maCons_ok (mVar_ok rfl) (maCons_ok (mVar_ok rfl) maNil_ok)) (rankf_ok (d := d + 3) h1 h6 hb nd hl)) (mBi1_ok (mCall_ok (S1 := S1) (maCons_ok c1 maNil_ok) (reduced_ok (d := d + 11) (by omega))) (z := nW (lrun bs []).length) ?_) ne_int
        show some (W.int ((((lrun bs []).map nW).length : Nat) : Int)) = _
        rw [List.length_map] <;> rfl
      refine sSeq_nE (sIf_n q3) ?_
      -- the cards that complete it
      have q4 : (mCall (fns T (d + 12)) 36 (maCons (mCall (fns T (d + 12)) 32 (maCons (mVar 1) (maCons (mVar 4) (maNil)))) (maCons (mBi baTuple (maCons (mBi baSorted (maCons (mComp (miSeq (mCall (fns T (d + 12)) 32 (maCons (mVar 1) (maCons (mVar 2) (maNil))))) [7] (gVar 7) (mtYes) (mCall (fns T (d + 12)) 43 (maCons (mVar 7) (maCons (mVar 3) (maNil))))) (maNil))) (maNil))) (maNil)))) (aE i n bs (some (.lst (ls.map pW))) (some (.tup ((bs.map (ledN n ls)).map (dcd n)))) none none none) S1 = .ok (.bl true) S1 := by
        have cl : ∀ b : List Nat, (cpl n b).length ≤ 63 := fun b => Nat.le_trans (List.length_filter_le _ _) (dk_le h6)
        have := cl bs
        have := cl (bs.map (ledN n ls))
        exact mCall_ok (S1 := S1) (maCons_ok (mCall_ok (S1 := S1) (maCons_ok (mVar_ok rfl) (maCons_ok (mVar_ok rfl) maNil_ok)) (cpl_f (d := d + 3) h1 h6 rb rn rl)) (maCons_ok (mBi1_ok (mBi1_ok (led_comp (d := d + 11) (l := cpl n bs) h6 (miSeq_ev (mCall_ok (S1 := S1) (maCons_ok (mVar_ok rfl) (maCons_ok (mVar_ok rfl) maNil_ok)) (cpl_f (d := d + 3) h1 h6 hb nd hl)) rfl) (fun _ => rfl) hd (by omega) (by omega)) (sorted_cpl L lt h1 h6 hb')) rfl) maNil_ok)) (same_tD (d := d + 10) (by omega))
      refine sSeq_nE (sIf_n (mTNot_ok (b := true) (mTru_ok q4 rfl))) ?_
      -- sums
      have q5 : (mCall (fns T (d + 12)) 36 (maCons (mCall (fns T (d + 12)) 25 (maCons (mVar 1) (maCons (mVar 4) (maNil)))) (maCons (mCall (fns T (d + 12)) 43 (maCons (mCall (fns T (d + 12)) 25 (maCons (mVar 1) (maCons (mVar 2) (maNil)))) (maCons (mVar 3) (maNil)))) (maNil)))) (aE i n bs (some (.lst (ls.map pW))) (some (.tup ((bs.map (ledN n ls)).map (dcd n)))) none none none) S1 = .ok (.bl true) S1 := by
        have t1 := sum_f (d := d + 3) (S := S1) h1 h6 rb rn rl
        rw [xs_img L] at t1
        exact mCall_ok (S1 := S1) (maCons_ok (mCall_ok (S1 := S1) (maCons_ok (mVar_ok rfl) (maCons_ok (mVar_ok rfl) maNil_ok)) t1) (maCons_ok (mCall_ok (S1 := S1) (maCons_ok (mCall_ok (S1 := S1) (maCons_ok (mVar_ok rfl) (maCons_ok (mVar_ok rfl) maNil_ok)) (sum_f (d := d + 3) h1 h6 hb nd hl)) (maCons_ok (mVar_ok rfl) maNil_ok)) (lled_ok (d := d + 11) (by omega) hd (by omega))) maNil_ok)) (same_str (d := d + 11))
      refine sSeq_nE (sIf_n (mTNot_ok (b := true) (mTru_ok q5 rfl))) ?_
      -- a dot more
      refine sSeq_nE (η1 := aE i n bs (some (.lst (ls.map pW))) (some (.tup ((bs.map (ledN n ls)).map (dcd n)))) (some (.lst (ks.map nW))) none none) (S1 := S2) (sSet_ev es rfl) ?_
      refine sSeq_nE (η1 := aE i n bs (some (.lst (ls.map pW))) (some (.tup ((bs.map (ledN n ls)).map (dcd n)))) (some (.lst (ks.map nW))) (some (.tup ((bs.map (up n ks)).map (dcd (n + 1))))) none) (S1 := S2) (sSet_ev (mBi1_ok (longer_comp h6 hk (by omega) (by omega)) rfl) rfl) (sRet_ok ?_)
      by_cases c : 5 < n
      · exact mOr_t (x := .bl true) (mBin_ok (mVar_ok rfl) mC_ok (by
          show some (W.bl (decide ((5 : Int) < (n : Int)))) = _
          rw [decide_eq_true (by omega)])) rfl
      · refine (mOr_f (S1 := S2) (x := .bl false) (mBin_ok (mVar_ok rfl) mC_ok (by
          show some (W.bl (decide ((5 : Int) < (n : Int)))) = _
          rw [decide_eq_false (by omega)])) rfl).trans ?_
        obtain ⟨U, ult⟩ := up_lin n ks
        obtain ⟨ub, un⟩ := row_img U ult hb nd
        have t1 := told_ok (d := d) (n := n + 1) (S := S2) (by omega) (by omega) ub un (by rw [List.length_map]; exact hl)
        rw [told_img U hb'] at t1
        exact mCall_ok (S1 := S2) (maCons_ok (mCall_ok (S1 := S2) (maCons_ok (mBin_ok (mVar_ok rfl) mC_ok rfl) (maCons_ok (mVar_ok rfl) maNil_ok)) t1) (maCons_ok (mCall_ok (S1 := S2) (maCons_ok (mVar_ok rfl) (maCons_ok (mVar_ok rfl) maNil_ok)) (told_ok (d := d) h1 h6 hb nd hl)) maNil_ok)) (same_at (told_sd hl) (by omega) S2)
    rw [eb] <;> rfl
  · obtain ⟨u, v, z, hu, hv, e⟩ := w2
    exact ⟨u, v, z, hu, hv, by rw [List.getElem?_take, if_pos hi]; exact e⟩
end
end Lw
namespace Lw
open Mp C63
/-! two rows beside one another, asked -/
theorem cut_tk {α : Type} (f : List α) (m : Nat) : cutW f none (some (m : Int)) = f.take m := by
  unfold cutW
  show (f.drop 0).take ((if (m : Int) < 0 then ((m : Int) + f.length).toNat else min ((m : Int)).toNat f.length) - 0) = _
  rw [if_neg (by omega), List.drop_zero, Nat.sub_zero, Int.toNat_natCast]
  by_cases h : f.length ≤ m
  · rw [Nat.min_eq_right h, List.take_of_length_le (Nat.le_refl _), List.take_of_length_le h]
  · rw [Nat.min_eq_left (by omega)]
def PP (a : Nat) (p : List Nat) : Bool := decide (p.getD (p.length - 1) 0 < a) || decide (a ≤ p.getD 0 0)
theorem head_le : ∀ {p : List Nat}, Asc p → ∀ x ∈ p, p.getD 0 0 ≤ x
  | y :: r, h, x, hx => by
    show y ≤ x
    rcases List.mem_cons.mp hx with e | e
    · omega
    · have := (List.pairwise_cons.mp h).1 x e
      omega
theorem le_last : ∀ {p : List Nat}, Asc p → ∀ x ∈ p, x ≤ p.getD (p.length - 1) 0
  | [y], h, x, hx => by
    rw [List.mem_singleton.mp hx]
    exact Nat.le_refl _
  | y :: z :: r, h, x, hx => by
    have h2 := List.pairwise_cons.mp h
    have ih := le_last (p := z :: r) h2.2
    show x ≤ (z :: r).getD ((z :: r).length - 1) 0
    rcases List.mem_cons.mp hx with e | e
    · have a1 := h2.1 z (List.mem_cons_self ..)
      have a2 := ih z (List.mem_cons_self ..)
      omega
    · exact ih x e
theorem head_mem {p : List Nat} (h : 0 < p.length) : p.getD 0 0 ∈ p := by
  cases p with
  | nil => cases h
  | cons x r => exact List.mem_cons_self ..
theorem last_mem {p : List Nat} (h : 0 < p.length) : p.getD (p.length - 1) 0 ∈ p := by
  rw [List.getD_eq_getElem?_getD, List.getElem?_eq_getElem (by omega)]
  exact List.getElem_mem _
section
variable {A C : List Nat}
theorem lots_left : ((lots (A ++ C)).filter (PP A.length)).filter (fun p => decide (p.getD 0 0 < A.length)) = lots A := by
  refine order_ext (((lots_sorted _).filter _).filter _) (lots_sorted _) fun p => ?_
  rw [List.mem_filter, List.mem_filter]
  constructor
  · rintro ⟨⟨h1, h2⟩, h3⟩
    obtain ⟨⟨⟨a1, a2⟩, a3⟩, a4⟩ := mem_lots.mp h1
    have h3 := of_decide_eq_true h3
    unfold PP at h2
    rw [Bool.or_eq_true, decide_eq_true_eq, decide_eq_true_eq] at h2
    have la : ∀ x ∈ p, x < A.length := fun x hx => by
      have := le_last a1 x hx
      omega
    rw [sel_left la] at a3
    exact mem_lots.mpr ⟨⟨⟨a1, la⟩, a3⟩, a4⟩
  · intro h
    obtain ⟨⟨⟨a1, a2⟩, a3⟩, a4⟩ := mem_lots.mp h
    refine ⟨⟨mem_lots.mpr ⟨⟨⟨a1, fun x hx => ?_⟩, by rw [sel_left a2]; exact a3⟩, a4⟩, ?_⟩, decide_eq_true (a2 _ (head_mem a4))⟩
    · have := a2 x hx
      rw [List.length_append]
      omega
    · unfold PP
      rw [decide_eq_true (a2 _ (last_mem a4)), Bool.true_or]
theorem lex_shift {a : Nat} : ∀ {p q : List Nat}, lexlt p q → lexlt (p.map (· + a)) (q.map (· + a))
  | x :: r, y :: s, h => by
    show x + a < y + a ∨ (x + a = y + a ∧ lexlt (r.map (· + a)) (s.map (· + a)))
    rcases h with h | ⟨h1, h2⟩
    · exact .inl (by omega)
    · exact .inr ⟨by omega, lex_shift h2⟩
theorem lenlex_shift {a : Nat} {p q : List Nat} (h : lenlex p q) : lenlex (p.map (· + a)) (q.map (· + a)) := by
  unfold lenlex
  rw [List.length_map, List.length_map]
  rcases h with h | ⟨h1, h2⟩
  · exact .inl h
  · exact .inr ⟨h1, lex_shift h2⟩
theorem lots_right : ((lots (A ++ C)).filter (PP A.length)).filter (fun p => decide (A.length ≤ p.getD 0 0)) = (lots C).map fun p => p.map (· + A.length) := by
  refine order_ext (((lots_sorted _).filter _).filter _) (List.Pairwise.map _ (fun p q h => lenlex_shift h) (lots_sorted _)) fun p => ?_
  rw [List.mem_filter, List.mem_filter, List.mem_map]
  constructor
  · rintro ⟨⟨h1, h2⟩, h3⟩
    obtain ⟨⟨⟨a1, a2⟩, a3⟩, a4⟩ := mem_lots.mp h1
    have h3 := of_decide_eq_true h3
    have ge : ∀ x ∈ p, A.length ≤ x := fun x hx => Nat.le_trans h3 (head_le a1 x hx)
    have e : (p.map (· - A.length)).map (· + A.length) = p := by
      rw [List.map_map]
      refine (List.map_congr_left fun x hx => ?_).trans (List.map_id _)
      have := ge x hx
      show x - A.length + A.length = x
      omega
    refine ⟨p.map (· - A.length), mem_lots.mpr ⟨⟨⟨?_, fun x hx => ?_⟩, ?_⟩, by rw [List.length_map]; exact a4⟩, e⟩
    · refine List.pairwise_map.mpr (List.Pairwise.imp_of_mem (fun {u v} hu hv z => ?_) a1)
      have := ge u hu
      have := ge v hv
      omega
    · obtain ⟨y, hy, rfl⟩ := List.mem_map.mp hx
      have := ge y hy
      have := a2 y hy
      rw [List.length_append] at this
      show y - A.length < C.length
      omega
    · rw [← e, sel_right] at a3
      exact a3
  · rintro ⟨q, hq, rfl⟩
    obtain ⟨⟨⟨a1, a2⟩, a3⟩, a4⟩ := mem_lots.mp hq
    have hd : A.length ≤ (q.map (· + A.length)).getD 0 0 := by
      cases q with
      | nil => cases a4
      | cons x r =>
        show A.length ≤ x + A.length
        omega
    refine ⟨⟨mem_lots.mpr ⟨⟨⟨asc_map a1, fun x hx => ?_⟩, by rw [sel_right]; exact a3⟩, by rw [List.length_map]; exact a4⟩, ?_⟩, decide_eq_true hd⟩
    · obtain ⟨y, hy, rfl⟩ := List.mem_map.mp hx
      have := a2 y hy
      rw [List.length_append]
      show y + A.length < _
      omega
    · unfold PP
      rw [decide_eq_true hd, Bool.or_true]
end
theorem ds_two {a b x y : Nat} (hy : y < 2 ^ b) : ds (a + b) (shl b x ^^^ y) = ds a x ++ ds b y := by
  unfold ds
  rw [Nat.add_comm a b, List.range_add, List.reverse_append, List.map_append, ← List.map_reverse, List.map_map]
  congr 1
  · refine List.map_congr_left fun k _ => ?_
    show (if (shl b x ^^^ y).testBit (b + k) = true then 111 else 46) = _
    rw [Nat.testBit_xor, shl_bit, decide_eq_true (by omega), Nat.add_sub_cancel_left, Bool.true_and, Nat.testBit_lt_two_pow (Nat.lt_of_lt_of_le hy (Nat.pow_le_pow_right (by decide) (by omega))), Bool.xor_false]
  · refine List.map_congr_left fun k hk => ?_
    have hk := List.mem_range.mp (List.mem_reverse.mp hk)
    rw [Nat.testBit_xor, shl_bit, decide_eq_false (by omega), Bool.false_and, Bool.false_xor]
theorem points_ok {n : Nat} {S : Store} (h1 : 1 ≤ n) (h6 : n ≤ 6) : opMulS (.str [46]) (nW n) S = some (dcd n 0) := by
  show (if 1 ≤ (n : Int) ∧ (n : Int) ≤ 1000 then some (W.str (List.replicate ((n : Int)).toNat 46)) else none) = _
  rw [if_pos (by omega), Int.toNat_natCast]
  refine congrArg (fun z => some (W.str z)) ?_
  refine List.ext_getElem? fun j => ?_
  by_cases h : j < n
  · rw [ds_get h, Nat.zero_testBit, List.getElem?_replicate, if_pos h] <;> rfl
  · rw [List.getElem?_eq_none (by rw [List.length_replicate]; omega), List.getElem?_eq_none (by rw [ds_len2]; omega)]
theorem eqWs_nat : ∀ p : List Nat, eqWs (p.map nW) (p.map nW) = true
  | [] => rfl
  | x :: r => by
    show (((x : Int) == (x : Int)) && eqWs (r.map nW) (r.map nW)) = true
    rw [eqWs_nat r, beq_self_eq_true] <;> rfl
theorem ne_tT {L : List (List Nat)} {S : Store} : opNe (.tup (L.map tW)) (.tup (L.map tW)) S = some (.bl false) := by
  have ok : okD (.tup (L.map tW)) 30 = true := by
    show (decide (0 < 30) && okDs (L.map tW) (30 - 1)) = true
    rw [okDs_of fun w hw => (by
      obtain ⟨p, _, rfl⟩ := List.mem_map.mp hw
      show (decide (0 < 29) && okDs (p.map nW) 28) = true
      rw [okDs_of fun w hw => (by
        obtain ⟨x, _, rfl⟩ := List.mem_map.mp hw
        rfl : okD w 28 = true)] <;> rfl : okD w (30 - 1) = true)] <;> rfl
  show (if okD (.tup (L.map tW)) 30 = true ∧ okD (.tup (L.map tW)) 30 = true then some (W.bl (!eqWs (L.map tW) (L.map tW))) else none) = _
  have e : eqWs (L.map tW) (L.map tW) = true := by
    induction L with
    | nil => rfl
    | cons p r ih =>
      show (eqWs (p.map nW) (p.map nW) && eqWs (r.map tW) (r.map tW)) = true
      have ok' : okD (.tup (r.map tW)) 30 = true := by
        show (decide (0 < 30) && okDs (r.map tW) (30 - 1)) = true
        rw [okDs_of fun w hw => (by
          obtain ⟨p, _, rfl⟩ := List.mem_map.mp hw
          show (decide (0 < 29) && okDs (p.map nW) 28) = true
          rw [okDs_of fun w hw => (by
            obtain ⟨x, _, rfl⟩ := List.mem_map.mp hw
            rfl : okD w 28 = true)] <;> rfl : okD w (30 - 1) = true)] <;> rfl
      rw [eqWs_nat, ih ok'] <;> rfl
  rw [if_pos ⟨ok, ok⟩, e] <;> rfl
end Lw
namespace Lw
open Mp C63
abbrev bE (i a b : Nat) (c3 c4 c5 c6 c7 c8 c9 : Option W) : Env := [some (.ref i), some (nW a), some (nW b), c3, c4, c5, c6, c7, c8, c9]
theorem two_row {a b : Nat} {R O : List Nat} (hR : ∀ x ∈ R, x < 2 ^ a ∧ x ≠ 0) (nR : R.Nodup) (hO : ∀ x ∈ O, x < 2 ^ b ∧ x ≠ 0) (nO : O.Nodup) : (∀ x ∈ R.map (shl b) ++ O, x < 2 ^ (a + b) ∧ x ≠ 0) ∧ (R.map (shl b) ++ O).Nodup := by
  obtain ⟨L, lt⟩ := shl_lin a b
  obtain ⟨r1, r2⟩ := row_img L lt hR nR
  refine ⟨fun x hx => ?_, List.nodup_append.mpr ⟨r2, nO, fun x hx y hy e => ?_⟩⟩
  · rcases List.mem_append.mp hx with h | h
    · exact r1 x h
    · exact ⟨Nat.lt_of_lt_of_le (hO x h).1 (Nat.pow_le_pow_right (by decide) (by omega)), (hO x h).2⟩
  · subst e
    obtain ⟨z, _, rfl⟩ := List.mem_map.mp hx
    exact (hO _ hy).2 (hi_low (hi_shl b z) (hO _ hy).1)
theorem ix_head {p : List Nat} {S : Store} (h : 0 < p.length) : opIx (tW p) (.int 0) S = some (nW (p.getD 0 0)) := atW_f nW 0 h
theorem ix_last {p : List Nat} {S : Store} (h : 0 < p.length) : opIx (tW p) (.int ((p.length : Int) - 1)) S = some (nW (p.getD (p.length - 1) 0)) := by
  rw [show ((p.length : Int) - 1) = ((p.length - 1 : Nat) : Int) by omega]
  exact atW_f nW 0 (by omega)
section
variable {d i a b : Nat} {R O : List Nat} {S : Store} {c5 c6 : Option W}
theorem both_comp (ha : 1 ≤ a) (ha6 : a ≤ 6) (hb : 1 ≤ b) (hb6 : b ≤ 6) (hO : ∀ x ∈ O, x < 2 ^ b ∧ x ≠ 0) (lR : R.length ≤ 6) (lO : O.length ≤ 6) :
    (mBin opAdd (mBi baTuple (maCons (mComp (miSeq (mVar 3)) [7] (gVar 7) (mtYes) (mBin opAdd (mVar 7) (mBin opMulS (mC (.str [46])) (mVar 2)))) (maNil))) (mBi baTuple (maCons (mComp (miSeq (mVar 4)) [7] (gVar 7) (mtYes) (mBin opAdd (mBin opMulS (mC (.str [46])) (mVar 1)) (mVar 7))) (maNil)))) (bE i a b (some (.tup (R.map (dcd a)))) (some (.tup (O.map (dcd b)))) none none none none none) S = .ok (.tup ((R.map (shl b) ++ O).map (dcd (a + b)))) S := by
  have s1 : ∀ (x y : Nat), opAdd (dcd a x) (dcd b y) S = some (.str (ds a x ++ ds b y)) := fun x y => by
    show (if (ds a x).length + (ds b y).length ≤ bigLine then some (W.str (ds a x ++ ds b y)) else none) = _
    rw [if_pos (by rw [ds_len2, ds_len2]; unfold bigLine; omega)]
  have e1 : (mComp (miSeq (mVar 3)) [7] (gVar 7) (mtYes) (mBin opAdd (mVar 7) (mBin opMulS (mC (.str [46])) (mVar 2)))) (bE i a b (some (.tup (R.map (dcd a)))) (some (.tup (O.map (dcd b)))) none none none none none) S = .ok (.lst (R.map fun x => dcd (a + b) (shl b x))) S :=
    comp_gen (u := dcd a) (v := fun x => dcd (a + b) (shl b x)) (l := R) rfl (fun x _ => ⟨bE i a b (some (.tup (R.map (dcd a)))) (some (.tup (O.map (dcd b)))) none none (some (dcd a x)) none none, rfl, rfl, mBin_ok (mVar_ok rfl) (mBin_ok mC_ok (mVar_ok rfl) (points_ok hb hb6)) (by
      rw [s1, ← ds_two (Nat.pow_pos (by decide)), Nat.xor_zero] <;> rfl)⟩) (by unfold bigLine; omega)
  have e2 : (mComp (miSeq (mVar 4)) [7] (gVar 7) (mtYes) (mBin opAdd (mBin opMulS (mC (.str [46])) (mVar 1)) (mVar 7))) (bE i a b (some (.tup (R.map (dcd a)))) (some (.tup (O.map (dcd b)))) none none none none none) S = .ok (.lst (O.map (dcd (a + b)))) S :=
    comp_gen (u := dcd b) (v := dcd (a + b)) (l := O) rfl (fun x hx => ⟨bE i a b (some (.tup (R.map (dcd a)))) (some (.tup (O.map (dcd b)))) none none (some (dcd b x)) none none, rfl, rfl, mBin_ok (mBin_ok mC_ok (mVar_ok rfl) (points_ok ha ha6)) (mVar_ok rfl) (by
      rw [s1, ← ds_two (hO x hx).1, (shl_lin 1 b).1.zero, Nat.zero_xor] <;> rfl)⟩) (by unfold bigLine; omega)
  refine mBin_ok (x := .tup (R.map fun x => dcd (a + b) (shl b x))) (y := .tup (O.map (dcd (a + b)))) (mBi1_ok e1 rfl) (mBi1_ok e2 rfl) ?_
  show (if (R.map fun x => dcd (a + b) (shl b x)).length + (O.map (dcd (a + b))).length ≤ bigLine then some (W.tup ((R.map fun x => dcd (a + b) (shl b x)) ++ O.map (dcd (a + b)))) else none) = _
  rw [if_pos (by rw [List.length_map, List.length_map]; unfold bigLine; omega), List.map_append, List.map_map] <;> rfl
theorem len_rowB {η : Env} {n : Nat} (h : η[3]? = some (some (.tup (R.map (dcd n))))) : (mBi baLen (maCons (mVar 3) (maNil))) η S = .ok (nW R.length) S := mBi1_ok (mVar_ok h) (by
  show some (W.int (((R.map (dcd n)).length : Nat) : Int)) = _
  rw [List.length_map] <;> rfl)
theorem len_part {η : Env} {p : List Nat} (h : η[8]? = some (some (tW p))) : (mBi baLen (maCons (mVar 8) (maNil))) η S = .ok (nW p.length) S := mBi1_ok (mVar_ok h) (by
  show some (W.int (((p.map nW).length : Nat) : Int)) = _
  rw [List.length_map] <;> rfl)
theorem beside_ok (hw : Well S i) : ∃ S', fns T (d + 13) 46 [.ref i] S = .ok (.bl true) S' ∧ Well S' i ∧ S'.length = S.length := by
  have hi : i < S.length := by
    obtain ⟨_, _, _, _, _, e⟩ := hw
    exact lt_get e
  obtain ⟨x, x0, x1, S1, e1, w1, l1, _⟩ := take_call (T := T) (d := d + 11) (k := 35) (S := S) (i := i) (n := 3) rfl hw (by decide) (by decide)
  obtain ⟨y, y0, y1, S2, e2, w2, l2, _⟩ := take_call (T := T) (d := d + 11) (k := 35) (S := S1) (i := i) (n := 3) rfl w1 (by decide) (by decide)
  obtain ⟨a, ha⟩ : ∃ a : Nat, 1 + x = (a : Int) := ⟨(1 + x).toNat, by omega⟩
  obtain ⟨b, hb⟩ : ∃ b : Nat, 1 + y = (b : Int) := ⟨(1 + y).toNat, by omega⟩
  obtain ⟨f, S3, e3, n3, h3, _, w3, l3⟩ := row_ok (d := d + 4) (n := a) (by omega) (by omega) w2
  obtain ⟨g, S4, e4, n4, h4, _, w4, l4⟩ := row_ok (d := d + 4) (n := b) (by omega) (by omega) w3
  obtain ⟨R, hR⟩ : ∃ R, R = f.take 6 := ⟨_, rfl⟩
  obtain ⟨O, hO⟩ : ∃ O, O = g.take 6 := ⟨_, rfl⟩
  have lR : R.length ≤ 6 := by rw [hR, List.length_take]; omega
  have lO : O.length ≤ 6 := by rw [hO, List.length_take]; omega
  have bR : ∀ x ∈ R, x < 2 ^ a ∧ x ≠ 0 := fun x hx => h3 x (List.mem_of_mem_take (hR ▸ hx))
  have bO : ∀ x ∈ O, x < 2 ^ b ∧ x ≠ 0 := fun x hx => h4 x (List.mem_of_mem_take (hO ▸ hx))
  have nR : R.Nodup := by rw [hR]; exact n3.sublist (List.take_sublist ..)
  have nO : O.Nodup := by rw [hO]; exact n4.sublist (List.take_sublist ..)
  obtain ⟨bB, nB⟩ := two_row bR nR bO nO
  obtain ⟨L, lt⟩ := shl_lin a b
  have lA : (R.map (shl b)).length = R.length := List.length_map ..
  have lB : (R.map (shl b) ++ O).length ≤ 12 := by rw [List.length_append, lA]; omega
  have iL := lots_img L (fun x h => (bR x h).1)
  have iR := rk_img L (fun x h => (bR x h).1)
  have iB := bss_img L (fun x h => (bR x h).1)
  have hiA : ∀ z ∈ R.map (shl b), Hi b z := fun z hz => by
    obtain ⟨x, _, rfl⟩ := List.mem_map.mp hz
    exact hi_shl b x
  have lowO : ∀ z ∈ O, z < 2 ^ b := fun z hz => (bO z hz).1
  have rT := rk_two hiA lowO
  have cT := count_two hiA lowO
  rw [iR] at rT
  rw [iB] at cT
  have fR := bss_few (bs := R) (by omega)
  have fO := bss_few (bs := O) (by omega)
  refine ⟨S4.take S.length, ?_, ?_, by rw [List.length_take]; omega⟩
  · refine (nf_call (η := [some (.ref i), none, none, none, none, none, none, none, none, none]) (np := 1) (nv := 10) (keep := false) (b := b_law_beside) rfl rfl rfl).trans ?_
    have eb : b_law_beside (fns T (d + 12)) [some (.ref i), none, none, none, none, none, none, none, none, none] S = .ret (.bl true) S4 := by
      unfold b_law_beside
      have p1 : (mTup (maCons (mBin opAdd (mC (.int 1)) (mCall (fns T (d + 12)) 35 (maCons (mVar 0) (maCons (mC (.int 3)) (maNil))))) (maCons (mBin opAdd (mC (.int 1)) (mCall (fns T (d + 12)) 35 (maCons (mVar 0) (maCons (mC (.int 3)) (maNil))))) (maNil)))) [some (.ref i), none, none, none, none, none, none, none, none, none] S = .ok (.tup [nW a, nW b]) S2 :=
        mTup_ok (maCons_ok (mBin_ok mC_ok (mCall_ok (S1 := S) (maCons_ok (mVar_ok rfl) (maCons_ok mC_ok maNil_ok)) e1) (by show some (W.int (1 + x)) = _; rw [ha] <;> rfl)) (maCons_ok (mBin_ok mC_ok (mCall_ok (S1 := S1) (maCons_ok (mVar_ok rfl) (maCons_ok mC_ok maNil_ok)) e2) (by show some (W.int (1 + y)) = _; rw [hb] <;> rfl)) maNil_ok)) (by show 2 ≤ bigLine; decide)
      refine sSeq_nE (η1 := bE i a b none none none none none none none) (S1 := S2) (sAsg_ok p1 rfl) ?_
      have p2 : (mTup (maCons (mSl (mCall (fns T (d + 12)) 39 (maCons (mVar 0) (maCons (mVar 1) (maNil)))) (moNone) (moSome (mC (.int 6)))) (maCons (mSl (mCall (fns T (d + 12)) 39 (maCons (mVar 0) (maCons (mVar 2) (maNil)))) (moNone) (moSome (mC (.int 6)))) (maNil)))) (bE i a b none none none none none none none) S2 = .ok (.tup [.tup (R.map (dcd a)), .tup (O.map (dcd b))]) S4 := by
        have sl : ∀ (n : Nat) (f : List Nat), cutW (f.map (dcd n)) none (some 6) = (f.take 6).map (dcd n) := fun n f => by
          rw [cutW_map]
          exact congrArg _ (cut_tk f 6)
        have q1 : (mSl (mCall (fns T (d + 12)) 39 (maCons (mVar 0) (maCons (mVar 1) (maNil)))) (moNone) (moSome (mC (.int 6)))) (bE i a b none none none none none none none) S2 = .ok (.tup (R.map (dcd a))) S3 := by
          have c2 : (mCall (fns T (d + 12)) 39 (maCons (mVar 0) (maCons (mVar 1) (maNil)))) (bE i a b none none none none none none none) S2 = .ok (.tup (f.map (dcd a))) S3 := mCall_ok (S1 := S2) (maCons_ok (mVar_ok rfl) (maCons_ok (mVar_ok rfl) maNil_ok)) e3
          unfold mSl moSome
          rw [c2]
          show Mp.R.ok (W.tup (cutW (f.map (dcd a)) none (some 6))) S3 = _
          rw [sl, ← hR]
        have q2 : (mSl (mCall (fns T (d + 12)) 39 (maCons (mVar 0) (maCons (mVar 2) (maNil)))) (moNone) (moSome (mC (.int 6)))) (bE i a b none none none none none none none) S3 = .ok (.tup (O.map (dcd b))) S4 := by
          have c2 : (mCall (fns T (d + 12)) 39 (maCons (mVar 0) (maCons (mVar 2) (maNil)))) (bE i a b none none none none none none none) S3 = .ok (.tup (g.map (dcd b))) S4 := mCall_ok (S1 := S3) (maCons_ok (mVar_ok rfl) (maCons_ok (mVar_ok rfl) maNil_ok)) e4
          unfold mSl moSome
          rw [c2]
          show Mp.R.ok (W.tup (cutW (g.map (dcd b)) none (some 6))) S4 = _
          rw [sl, ← hO]
        exact mTup_ok (maCons_ok q1 (maCons_ok q2 maNil_ok)) (by show 2 ≤ bigLine; decide)
      refine sSeq_nE (η1 := bE i a b (some (.tup (R.map (dcd a)))) (some (.tup (O.map (dcd b)))) none none none none none) (S1 := S4) (sAsg_ok p2 rfl) ?_
      refine sSeq_nE (η1 := bE i a b (some (.tup (R.map (dcd a)))) (some (.tup (O.map (dcd b)))) (some (.tup ((R.map (shl b) ++ O).map (dcd (a + b))))) none none none none) (S1 := S4) (sSet_ev (both_comp (by omega) (by omega) (by omega) (by omega) bO lR lO) rfl) ?_
      -- lots
      have el := dotlots_f (d := d + 2) (S := S4) (n := a + b) (by omega) (by omega) bB nB lB
      have lL := lots_few lB
      have P6 : (mComp (miSeq (mCall (fns T (d + 12)) 26 (maCons (mBin opAdd (mVar 1) (mVar 2)) (maCons (mVar 5) (maNil))))) [8] (gVar 8) (mTOr (mTCmp opLt2 (mBin opIx (mVar 8) (mBin opSub (mBi baLen (maCons (mVar 8) (maNil))) (mC (.int 1)))) (mBi baLen (maCons (mVar 3) (maNil)))) (mTCmp opGe2 (mBin opIx (mVar 8) (mC (.int 0))) (mBi baLen (maCons (mVar 3) (maNil))))) (mVar 8)) (bE i a b (some (.tup (R.map (dcd a)))) (some (.tup (O.map (dcd b)))) (some (.tup ((R.map (shl b) ++ O).map (dcd (a + b))))) none none none none) S4 = .ok (.lst (((lots (R.map (shl b) ++ O)).filter (PP R.length)).map tW)) S4 := by
        refine comp_flt (u := tW) (v := tW) (P := PP R.length) (l := lots (R.map (shl b) ++ O)) (miSeq_ev (mCall_ok (S1 := S4) (maCons_ok (mBin_ok (mVar_ok rfl) (mVar_ok rfl) rfl) (maCons_ok (mVar_ok rfl) maNil_ok)) el) rfl) (fun p hp => ⟨bE i a b (some (.tup (R.map (dcd a)))) (some (.tup (O.map (dcd b)))) (some (.tup ((R.map (shl b) ++ O).map (dcd (a + b))))) none none (some (tW p)) none, rfl, ?_, fun _ => mVar_ok rfl⟩) (by unfold bigLine; omega)
        have pp := (mem_lots.mp hp).2
        have t1 : (mTCmp opLt2 (mBin opIx (mVar 8) (mBin opSub (mBi baLen (maCons (mVar 8) (maNil))) (mC (.int 1)))) (mBi baLen (maCons (mVar 3) (maNil)))) (bE i a b (some (.tup (R.map (dcd a)))) (some (.tup (O.map (dcd b)))) (some (.tup ((R.map (shl b) ++ O).map (dcd (a + b))))) none none (some (tW p)) none) S4 = .ok (decide (p.getD (p.length - 1) 0 < R.length)) S4 := by
          refine mTCmp_ok (mBin_ok (mVar_ok rfl) (mBin_ok (len_part rfl) mC_ok rfl) (ix_last pp)) (len_rowB rfl) ?_
          show some (W.bl (decide (((p.getD (p.length - 1) 0 : Nat) : Int) < (R.length : Int)))) = _
          rw [decide_eq_decide.mpr (show ((p.getD (p.length - 1) 0 : Nat) : Int) < (R.length : Int) ↔ p.getD (p.length - 1) 0 < R.length by omega)]
        have t2 : (mTCmp opGe2 (mBin opIx (mVar 8) (mC (.int 0))) (mBi baLen (maCons (mVar 3) (maNil)))) (bE i a b (some (.tup (R.map (dcd a)))) (some (.tup (O.map (dcd b)))) (some (.tup ((R.map (shl b) ++ O).map (dcd (a + b))))) none none (some (tW p)) none) S4 = .ok (decide (R.length ≤ p.getD 0 0)) S4 := by
          refine mTCmp_ok (mBin_ok (mVar_ok rfl) mC_ok (ix_head pp)) (len_rowB rfl) ?_
          show some (W.bl (decide ((R.length : Int) ≤ ((p.getD 0 0 : Nat) : Int)))) = _
          rw [decide_eq_decide.mpr (show (R.length : Int) ≤ ((p.getD 0 0 : Nat) : Int) ↔ R.length ≤ p.getD 0 0 by omega)]
        unfold PP
        cases q : decide (p.getD (p.length - 1) 0 < R.length) with
        | true =>
          rw [q] at t1
          exact mTOr_t t1
        | false =>
          rw [q] at t1
          exact (mTOr_f t1).trans t2
      refine sSeq_nE (η1 := bE i a b (some (.tup (R.map (dcd a)))) (some (.tup (O.map (dcd b)))) (some (.tup ((R.map (shl b) ++ O).map (dcd (a + b))))) (some (.lst (((lots (R.map (shl b) ++ O)).filter (PP R.length)).map tW))) none none none) (S1 := S4) (sSet_ev P6 rfl) ?_
      have lF : ((lots (R.map (shl b) ++ O)).filter (PP R.length)).length ≤ 5000 := Nat.le_trans (List.length_filter_le _ _) lL
      have pos : ∀ p ∈ (lots (R.map (shl b) ++ O)).filter (PP R.length), 0 < p.length := fun p hp => (mem_lots.mp (List.mem_filter.mp hp).1).2
      have left := lots_left (A := R.map (shl b)) (C := O)
      have right := lots_right (A := R.map (shl b)) (C := O)
      rw [lA, iL] at left
      rw [lA] at right
      -- the left ones
      have P7 : (mTCmp opNe (mBi baTuple (maCons (mComp (miSeq (mVar 6)) [8] (gVar 8) (mTCmp opLt2 (mBin opIx (mVar 8) (mC (.int 0))) (mBi baLen (maCons (mVar 3) (maNil)))) (mVar 8)) (maNil))) (mCall (fns T (d + 12)) 26 (maCons (mVar 1) (maCons (mVar 3) (maNil))))) (bE i a b (some (.tup (R.map (dcd a)))) (some (.tup (O.map (dcd b)))) (some (.tup ((R.map (shl b) ++ O).map (dcd (a + b))))) (some (.lst (((lots (R.map (shl b) ++ O)).filter (PP R.length)).map tW))) none none none) S4 = .ok false S4 := by
        have c1 := comp_flt (S := S4) (it := miSeq (mVar 6)) (own := [8]) (g := gVar 8) (t := mTCmp opLt2 (mBin opIx (mVar 8) (mC (.int 0))) (mBi baLen (maCons (mVar 3) (maNil)))) (e := mVar 8) (η := bE i a b (some (.tup (R.map (dcd a)))) (some (.tup (O.map (dcd b)))) (some (.tup ((R.map (shl b) ++ O).map (dcd (a + b))))) (some (.lst (((lots (R.map (shl b) ++ O)).filter (PP R.length)).map tW))) none none none) (u := tW) (v := tW) (P := fun p => decide (p.getD 0 0 < R.length)) (l := (lots (R.map (shl b) ++ O)).filter (PP R.length)) rfl (fun p hp => ⟨bE i a b (some (.tup (R.map (dcd a)))) (some (.tup (O.map (dcd b)))) (some (.tup ((R.map (shl b) ++ O).map (dcd (a + b))))) (some (.lst (((lots (R.map (shl b) ++ O)).filter (PP R.length)).map tW))) none (some (tW p)) none, rfl, mTCmp_ok (mBin_ok (mVar_ok rfl) mC_ok (ix_head (pos p hp))) (len_rowB rfl) (by
          show some (W.bl (decide (((p.getD 0 0 : Nat) : Int) < (R.length : Int)))) = _
          rw [decide_eq_decide.mpr (show ((p.getD 0 0 : Nat) : Int) < (R.length : Int) ↔ p.getD 0 0 < R.length by omega)]), fun _ => mVar_ok rfl⟩) (by unfold bigLine; omega)
        rw [left] at c1
        exact mTCmp_ok (mBi1_ok c1 rfl) (mCall_ok (S1 := S4) (maCons_ok (mVar_ok rfl) (maCons_ok (mVar_ok rfl) maNil_ok)) (dotlots_f (d := d + 2) (by omega) (by omega) bR nR (by omega))) ne_tT
      refine sSeq_nE (sIf_n P7) ?_
      -- the right ones
      have P8 : (mTCmp opNe (mBi baTuple (maCons (mComp (miSeq (mVar 6)) [8] (gVar 8) (mTCmp opGe2 (mBin opIx (mVar 8) (mC (.int 0))) (mBi baLen (maCons (mVar 3) (maNil)))) (mBi baTuple (maCons (mComp (miSeq (mVar 8)) [9] (gVar 9) (mtYes) (mBin opSub (mVar 9) (mBi baLen (maCons (mVar 3) (maNil))))) (maNil)))) (maNil))) (mCall (fns T (d + 12)) 26 (maCons (mVar 2) (maCons (mVar 4) (maNil))))) (bE i a b (some (.tup (R.map (dcd a)))) (some (.tup (O.map (dcd b)))) (some (.tup ((R.map (shl b) ++ O).map (dcd (a + b))))) (some (.lst (((lots (R.map (shl b) ++ O)).filter (PP R.length)).map tW))) none none none) S4 = .ok false S4 := by
        have c1 := comp_flt (S := S4) (it := miSeq (mVar 6)) (own := [8]) (g := gVar 8) (t := mTCmp opGe2 (mBin opIx (mVar 8) (mC (.int 0))) (mBi baLen (maCons (mVar 3) (maNil)))) (e := mBi baTuple (maCons (mComp (miSeq (mVar 8)) [9] (gVar 9) (mtYes) (mBin opSub (mVar 9) (mBi baLen (maCons (mVar 3) (maNil))))) (maNil))) (η := bE i a b (some (.tup (R.map (dcd a)))) (some (.tup (O.map (dcd b)))) (some (.tup ((R.map (shl b) ++ O).map (dcd (a + b))))) (some (.lst (((lots (R.map (shl b) ++ O)).filter (PP R.length)).map tW))) none none none) (u := tW) (v := fun p => tW (p.map (· - R.length))) (P := fun p => decide (R.length ≤ p.getD 0 0)) (l := (lots (R.map (shl b) ++ O)).filter (PP R.length)) rfl (fun p hp => ⟨bE i a b (some (.tup (R.map (dcd a)))) (some (.tup (O.map (dcd b)))) (some (.tup ((R.map (shl b) ++ O).map (dcd (a + b))))) (some (.lst (((lots (R.map (shl b) ++ O)).filter (PP R.length)).map tW))) none (some (tW p)) none, rfl, mTCmp_ok (mBin_ok (mVar_ok rfl) mC_ok (ix_head (pos p hp))) (len_rowB rfl) (by
          show some (W.bl (decide ((R.length : Int) ≤ ((p.getD 0 0 : Nat) : Int)))) = _
          rw [decide_eq_decide.mpr (show (R.length : Int) ≤ ((p.getD 0 0 : Nat) : Int) ↔ R.length ≤ p.getD 0 0 by omega)]), fun hge => ?_⟩) (by unfold bigLine; omega)
        · rw [right, List.map_map] at c1
          have ec : (lots O).map ((fun p => tW (p.map (· - R.length))) ∘ fun p => p.map (· + R.length)) = (lots O).map tW := List.map_congr_left fun p _ => by
            show tW ((p.map (· + R.length)).map (· - R.length)) = _
            rw [List.map_map]
            refine congrArg tW ((List.map_congr_left fun x _ => ?_).trans (List.map_id _))
            show x + R.length - R.length = x
            omega
          rw [ec] at c1
          exact mTCmp_ok (mBi1_ok c1 rfl) (mCall_ok (S1 := S4) (maCons_ok (mVar_ok rfl) (maCons_ok (mVar_ok rfl) maNil_ok)) (dotlots_f (d := d + 2) (by omega) (by omega) bO nO (by omega))) ne_tT
        · have hge := of_decide_eq_true hge
          have hp2 := mem_lots.mp (List.mem_filter.mp hp).1
          have ge : ∀ x ∈ p, R.length ≤ x := fun x hx => Nat.le_trans hge (head_le hp2.1.1.1 x hx)
          have pl : p.length ≤ 12 := by
            have := lot_len (List.mem_filter.mp hp).1
            omega
          have ci := comp_gen (S := S4) (it := miSeq (mVar 8)) (own := [9]) (g := gVar 9) (t := mtYes) (e := mBin opSub (mVar 9) (mBi baLen (maCons (mVar 3) (maNil)))) (η := bE i a b (some (.tup (R.map (dcd a)))) (some (.tup (O.map (dcd b)))) (some (.tup ((R.map (shl b) ++ O).map (dcd (a + b))))) (some (.lst (((lots (R.map (shl b) ++ O)).filter (PP R.length)).map tW))) none (some (tW p)) none) (u := nW) (v := fun x => nW (x - R.length)) (l := p) rfl (fun x hx => ⟨bE i a b (some (.tup (R.map (dcd a)))) (some (.tup (O.map (dcd b)))) (some (.tup ((R.map (shl b) ++ O).map (dcd (a + b))))) (some (.lst (((lots (R.map (shl b) ++ O)).filter (PP R.length)).map tW))) none (some (tW p)) (some (nW x)), rfl, rfl, mBin_ok (mVar_ok rfl) (len_rowB rfl) (by
            have := ge x hx
            show some (W.int ((x : Int) - (R.length : Int))) = some (W.int ((x - R.length : Nat) : Int))
            rw [show (x : Int) - (R.length : Int) = ((x - R.length : Nat) : Int) by omega])⟩) (by unfold bigLine; omega)
          refine mBi1_ok ci ?_
          show some (W.tup (p.map fun x => nW (x - R.length))) = some (W.tup ((p.map (· - R.length)).map nW))
          rw [List.map_map] <;> rfl
      refine sSeq_nE (sIf_n P8) (sRet_ok ?_)
      -- rank and count
      have m1 : (mBin opEq (mCall (fns T (d + 12)) 29 (maCons (mBin opAdd (mVar 1) (mVar 2)) (maCons (mVar 5) (maNil)))) (mBin opAdd (mCall (fns T (d + 12)) 29 (maCons (mVar 1) (maCons (mVar 3) (maNil)))) (mCall (fns T (d + 12)) 29 (maCons (mVar 2) (maCons (mVar 4) (maNil)))))) (bE i a b (some (.tup (R.map (dcd a)))) (some (.tup (O.map (dcd b)))) (some (.tup ((R.map (shl b) ++ O).map (dcd (a + b))))) (some (.lst (((lots (R.map (shl b) ++ O)).filter (PP R.length)).map tW))) none none none) S4 = .ok (.bl true) S4 := by
        refine mBin_ok (mCall_ok (S1 := S4) (maCons_ok (mBin_ok (mVar_ok rfl) (mVar_ok rfl) rfl) (maCons_ok (mVar_ok rfl) maNil_ok)) (rankf_ok (d := d + 3) (n := a + b) (by omega) (by omega) bB nB lB)) (mBin_ok (mCall_ok (S1 := S4) (maCons_ok (mVar_ok rfl) (maCons_ok (mVar_ok rfl) maNil_ok)) (rankf_ok (d := d + 3) (by omega) (by omega) bR nR (by omega))) (mCall_ok (S1 := S4) (maCons_ok (mVar_ok rfl) (maCons_ok (mVar_ok rfl) maNil_ok)) (rankf_ok (d := d + 3) (by omega) (by omega) bO nO (by omega))) rfl) ?_
        have rT : (lrun (R.map (shl b) ++ O) []).length = (lrun R []).length + (lrun O []).length := rT
        rw [rT]
        show some (W.bl ((((lrun R []).length + (lrun O []).length : Nat) : Int) == ((lrun R []).length : Int) + ((lrun O []).length : Int))) = _
        rw [show (((lrun R []).length + (lrun O []).length : Nat) : Int) = ((lrun R []).length : Int) + ((lrun O []).length : Int) from rfl, beq_self_eq_true]
      have m2 : (mBin opEq (mCall (fns T (d + 12)) 31 (maCons (mBin opAdd (mVar 1) (mVar 2)) (maCons (mVar 5) (maNil)))) (mBin opMul (mCall (fns T (d + 12)) 31 (maCons (mVar 1) (maCons (mVar 3) (maNil)))) (mCall (fns T (d + 12)) 31 (maCons (mVar 2) (maCons (mVar 4) (maNil)))))) (bE i a b (some (.tup (R.map (dcd a)))) (some (.tup (O.map (dcd b)))) (some (.tup ((R.map (shl b) ++ O).map (dcd (a + b))))) (some (.lst (((lots (R.map (shl b) ++ O)).filter (PP R.length)).map tW))) none none none) S4 = .ok (.bl true) S4 := by
        refine mBin_ok (x := nW ((bss R).length * (bss O).length)) (y := .int (((bss R).length : Int) * ((bss O).length : Int))) ?_ (mBin_ok (mCall_ok (S1 := S4) (maCons_ok (mVar_ok rfl) (maCons_ok (mVar_ok rfl) maNil_ok)) (bcount_f (d := d + 1) (by omega) (by omega) bR nR (by omega))) (mCall_ok (S1 := S4) (maCons_ok (mVar_ok rfl) (maCons_ok (mVar_ok rfl) maNil_ok)) (bcount_f (d := d + 1) (by omega) (by omega) bO nO (by omega))) ?_) ?_
        · rw [← cT]
          exact mCall_ok (S1 := S4) (maCons_ok (mBin_ok (mVar_ok rfl) (mVar_ok rfl) rfl) (maCons_ok (mVar_ok rfl) maNil_ok)) (bcount_f (d := d + 1) (n := a + b) (by omega) (by omega) bB nB lB)
        · show (if mulOk ((bss R).length : Int) ((bss O).length : Int) = true then some (W.int (((bss R).length : Int) * ((bss O).length : Int))) else none) = _
          rw [if_pos (by
            unfold mulOk
            rw [decide_eq_true (by omega), Bool.true_or])]
        · show some (W.bl ((((bss R).length * (bss O).length : Nat) : Int) == ((bss R).length : Int) * ((bss O).length : Int))) = _
          rw [Int.natCast_mul, beq_self_eq_true]
      exact (mAnd_t m1 rfl).trans m2
    rw [eb] <;> rfl
  · obtain ⟨u, v, z, hu, hv, e⟩ := w4
    exact ⟨u, v, z, hu, hv, by rw [List.getElem?_take, if_pos hi]; exact e⟩
end
end Lw
namespace Lw
open Mp C63
abbrev gE (w : W) (a b c : Option W) : Env := [some w, a, b, c]
theorem row_take {n : Nat} {bs : List Nat} : cutW (bs.map (dcd n)) none (some 10) = (bs.take 10).map (dcd n) := by
  rw [cutW_map]
  exact congrArg _ (cut_tk bs 10)
theorem law_sizes {w : W} {t : Option W} {i : Nat} (x : W) (hx : ∃ m, x = nW m ∧ 2 ≤ m ∧ m ≤ 6) (η : Env) (S : Store) (hi : Well S i ∧ ∃ y, η = gE w t (some (.ref i)) y) :
    ∃ η1 S1, gVar 3 x η S = some (η1, S1) ∧ Nx (p_law_1b2b (fns T 59) η1 S1) fun η S => Well S i ∧ ∃ y, η = gE w t (some (.ref i)) y := by
  obtain ⟨m, rfl, h2, h6⟩ := hx
  obtain ⟨hw, y, rfl⟩ := hi
  refine ⟨_, _, rfl, ?_⟩
  obtain ⟨f, S1, er, nd, hb, hl, w1, l1⟩ := row_ok (d := 51) (n := m) (by omega) h6 hw
  have er : fns T 59 39 [.ref i, nW m] S = .ok (.tup (f.map (dcd m))) S1 := er
  obtain ⟨S2, ea, w2, l2⟩ := asked_ok (d := 46) (i := i) (n := m) (bs := f.take 10) (S := S1) h2 h6 (fun b h => hb b (List.mem_of_mem_take h)) (nd.sublist (List.take_sublist ..)) (by rw [List.length_take]; omega) w1
  have ea : fns T 59 45 [.ref i, nW m, .tup ((f.take 10).map (dcd m))] S1 = .ok (.bl true) S2 := ea
  have c2 : (mCall (fns T 59) 39 (maCons (mVar 2) (maCons (mVar 3) (maNil)))) (gE w t (some (.ref i)) (some (nW m))) S = .ok (.tup (f.map (dcd m))) S1 := mCall_ok (S1 := S) (maCons_ok (S1 := S) (mVar_ok rfl) (maCons_ok (S1 := S) (mVar_ok rfl) maNil_ok)) er
  have c3 : (mSl (mCall (fns T 59) 39 (maCons (mVar 2) (maCons (mVar 3) (maNil)))) (moNone) (moSome (mC (.int 10)))) (gE w t (some (.ref i)) (some (nW m))) S = .ok (.tup ((f.take 10).map (dcd m))) S1 := by
    unfold mSl moSome
    rw [c2]
    show R.ok (W.tup (cutW (f.map (dcd m)) none (some 10))) S1 = _
    rw [row_take]
  have c1 : (mCall (fns T 59) 45 (maCons (mVar 2) (maCons (mVar 3) (maCons (mSl (mCall (fns T 59) 39 (maCons (mVar 2) (maCons (mVar 3) (maNil)))) (moNone) (moSome (mC (.int 10)))) (maNil))))) (gE w t (some (.ref i)) (some (nW m))) S = .ok (.bl true) S2 := mCall_ok (maCons_ok (S1 := S) (mVar_ok rfl) (maCons_ok (S1 := S) (mVar_ok rfl) (maCons_ok c3 maNil_ok))) ea
  exact ⟨_, S2, sIf_n (mTNot_ok (b := true) (mTru_ok c1 rfl)), w2, _, rfl⟩
theorem law_turns {w : W} {ns : List Int} (hl : ns.length ≤ 63) (ew : w = .scr (ns.map .int)) (n : Nat) (hn : n ≤ 10) (x : W) (hx : x ∈ rangeW 0 n) (η : Env) (S : Store) (hi : ∃ a b c, η = gE w a b c) :
    ∃ η1 S1, gVar 1 x η S = some (η1, S1) ∧ Nx (p_law_1b (fns T 59) η1 S1) fun η _ => ∃ a b c, η = gE w a b c := by
  obtain ⟨t, ht, rfl⟩ := mem_range hx
  obtain ⟨a, b, c, rfl⟩ := hi
  refine ⟨_, _, rfl, ?_⟩
  obtain ⟨p, q, hp, hq, ec⟩ := well_call (T := T) (d := 58) (k := 34) (t := t) (S := S) rfl hl (by omega)
  have ewc : (mCall (fns T 59) 34 (maCons (mVar 0) (maCons (mVar 1) (maNil)))) (gE w (some (.int (0 + (t : Int)))) b c) S = .ok (.ref S.length) (S ++ [.lst [.int p, .int q, .int 0]]) :=
    mCall_ok (S1 := S) (xs := [w, .int t]) (maCons_ok (mVar_ok rfl) (maCons_ok (S1 := S) (x := .int t) (mVar_ok (by show some (some (W.int (0 + (t : Int)))) = _; rw [Int.zero_add])) rfl)) (by rw [ew]; exact ec)
  refine Nx.seq (η1 := gE w (some (.int (0 + (t : Int)))) (some (.ref S.length)) c) (S1 := S ++ [.lst [.int p, .int q, .int 0]]) ((sSet_ok ewc).trans rfl) ?_
  have w0 : Well (S ++ [.lst [.int p, .int q, .int 0]]) S.length := Well.new hp hq
  obtain ⟨v, v0, v1, S1, et, w1, l1, _⟩ := take_call (T := T) (d := 58) (k := 35) (n := 5) rfl w0 (by decide) (by decide)
  obtain ⟨u, u0, u1, S2, eu, w2, l2, _⟩ := take_call (T := T) (d := 58) (k := 35) (n := 3) rfl w1 (by decide) (by decide)
  have et : fns T 59 35 [.ref S.length, .int 5] (S ++ [.lst [.int p, .int q, .int 0]]) = .ok (.int v) S1 := et
  have eu : fns T 59 35 [.ref S.length, .int 3] S1 = .ok (.int u) S2 := eu
  have hit : (miSeq (mLst (maCons (mBin opAdd (mC (.int 2)) (mCall (fns T 59) 35 (maCons (mVar 2) (maCons (mC (.int 5)) (maNil))))) (maCons (mBin opAdd (mC (.int 2)) (mCall (fns T 59) 35 (maCons (mVar 2) (maCons (mC (.int 3)) (maNil))))) (maNil))))) (gE w (some (.int (0 + (t : Int)))) (some (.ref S.length)) c) (S ++ [.lst [.int p, .int q, .int 0]]) = .ok [.int (2 + v), .int (2 + u)] S2 := by
    have c1 : (mCall (fns T 59) 35 (maCons (mVar 2) (maCons (mC (.int 5)) (maNil)))) (gE w (some (.int (0 + (t : Int)))) (some (.ref S.length)) c) (S ++ [.lst [.int p, .int q, .int 0]]) = .ok (.int v) S1 := mCall_ok (S1 := S ++ [.lst [.int p, .int q, .int 0]]) (maCons_ok (mVar_ok rfl) (maCons_ok mC_ok maNil_ok)) et
    have c2 : (mCall (fns T 59) 35 (maCons (mVar 2) (maCons (mC (.int 3)) (maNil)))) (gE w (some (.int (0 + (t : Int)))) (some (.ref S.length)) c) S1 = .ok (.int u) S2 := mCall_ok (S1 := S1) (maCons_ok (mVar_ok rfl) (maCons_ok mC_ok maNil_ok)) eu
    have e1 : (mBin opAdd (mC (.int 2)) (mCall (fns T 59) 35 (maCons (mVar 2) (maCons (mC (.int 5)) (maNil))))) (gE w (some (.int (0 + (t : Int)))) (some (.ref S.length)) c) (S ++ [.lst [.int p, .int q, .int 0]]) = .ok (.int (2 + v)) S1 := mBin_ok (S1 := S ++ [.lst [.int p, .int q, .int 0]]) mC_ok c1 rfl
    have e2 : (mBin opAdd (mC (.int 2)) (mCall (fns T 59) 35 (maCons (mVar 2) (maCons (mC (.int 3)) (maNil))))) (gE w (some (.int (0 + (t : Int)))) (some (.ref S.length)) c) S1 = .ok (.int (2 + u)) S2 := mBin_ok (S1 := S1) mC_ok c2 rfl
    have e0 : (mLst (maCons (mBin opAdd (mC (.int 2)) (mCall (fns T 59) 35 (maCons (mVar 2) (maCons (mC (.int 5)) (maNil))))) (maCons (mBin opAdd (mC (.int 2)) (mCall (fns T 59) 35 (maCons (mVar 2) (maCons (mC (.int 3)) (maNil))))) (maNil)))) (gE w (some (.int (0 + (t : Int)))) (some (.ref S.length)) c) (S ++ [.lst [.int p, .int q, .int 0]]) = .ok (.lst [.int (2 + v), .int (2 + u)]) S2 := mLst_ok (maCons_ok e1 (maCons_ok e2 maNil_ok)) (by show 2 ≤ bigLine; decide)
    unfold miSeq
    rw [e0]
    rfl
  have lp := Nx.sfor (g := gVar 3) (b := p_law_1b2b (fns T 59)) (I := fun η S' => Well S' S.length ∧ ∃ y, η = gE w (some (.int (0 + (t : Int)))) (some (.ref S.length)) y) hit (fun x hx η S' hi => law_sizes x (by
    simp only [List.mem_cons, List.not_mem_nil, or_false] at hx
    rcases hx with e | e <;> subst e
    · exact ⟨(2 + v).toNat, by show W.int (2 + v) = W.int (((2 + v).toNat : Nat) : Int); rw [Int.toNat_of_nonneg (by omega)], by omega, by omega⟩
    · exact ⟨(2 + u).toNat, by show W.int (2 + u) = W.int (((2 + u).toNat : Nat) : Int); rw [Int.toNat_of_nonneg (by omega)], by omega, by omega⟩) η S' hi) ⟨w2, c, rfl⟩
  refine Nx.seqN lp fun η S' h => ?_
  obtain ⟨w5, y, rfl⟩ := h
  obtain ⟨S6, eb, w6, l6⟩ := beside_ok (d := 46) w5
  have eb : fns T 59 46 [.ref S.length] S' = .ok (.bl true) S6 := eb
  have cb : (mCall (fns T 59) 46 (maCons (mVar 2) (maNil))) (gE w (some (.int (0 + (t : Int)))) (some (.ref S.length)) y) S' = .ok (.bl true) S6 := mCall_ok (S1 := S') (maCons_ok (mVar_ok rfl) maNil_ok) eb
  exact ⟨_, S6, sIf_n (mTNot_ok (b := true) (mTru_ok cb rfl)), _, _, _, rfl⟩
theorem law_ok (ns : List Int) (hl : ns.length ≤ 63) : Rt (b_law (fns T 59) [some (.scr (ns.map .int)), none, none, none] []) (.bl true) := by
  unfold b_law
  refine Rt.seqN (Nx.sfor (S1 := []) (xs := rangeW 0 (if (if (7 : Int) < (ns.map W.int).length then (7 : Int) else (ns.map W.int).length) > 4 then (if (7 : Int) < (ns.map W.int).length then (7 : Int) else (ns.map W.int).length) else 4).toNat) (fun η _ => ∃ a b c, η = gE (.scr (ns.map .int)) a b c) ?_ (law_turns hl rfl _ ?_) ⟨_, _, _, rfl⟩) fun η S h => ⟨S, rfl⟩
  · show rOpt (if _ then _ else _) _ = _
    rw [if_pos (by split <;> split <;> omega)] <;> rfl
  · split <;> split <;> omega
theorem main (ns : List Int) (hl : ns.length ≤ 63) : ∃ S, law 60 [.scr (ns.map .int)] [] = .ok (.bl true) S := law_end (d := 59) (nv := 4) (b := b_law) rfl (law_ok ns hl)
end Lw
open PySem PySem.W PySem.Calls PyProof.Rows
theorem PySem.Challenge.cw_threealike_k70_whole_rows_led_by_dots_holds : PySem.Challenge.rw_threealike_k70_whole_rows_led_by_dots.Holds := by
  w_on; o_law
  refine HandSHeadRun.head_imp (r := OpenLaw.row PySem.Challenge.rw_threealike_k70_whole_rows_led_by_dots) (q := view (OpenLaw.row PySem.Challenge.rw_threealike_k70_whole_rows_led_by_dots).prog [0, 66]) (H := Lw.hk) (ob := Lw.ob) (M := 60000) (loose := Lw.loose) (d := HandSHeadRun.topDef (OpenLaw.row PySem.Challenge.rw_threealike_k70_whole_rows_led_by_dots).prog 66) (kwd := []) Lw.ob_eq
    Lw.run (by kernel_rfl) (by kernel_rfl) (by kernel_rfl) (by rfl) (by first | assumption | decide +kernel) (by decide +kernel) ⟨rfl, rfl, rfl, rfl, rfl, by decide +kernel⟩ ?hw ?hc
  case hw => exact ⟨[.list []], by decide +kernel, by decide +kernel⟩
  case hc =>
    refine L2.walk_ofE (l := PySem.Challenge.rw_threealike_k70_whole_rows_led_by_dots) (n := 63) (k := 60 + 2) (x := "script") (CX := L2.CX0) rfl (by decide) (by kernel_rfl) ⟨rfl, by decide, by decide⟩ ?F (fun _ _ _ _ z => z)
    intro w mg fa h Y G hmg0
    obtain ⟨K, KX, c, e⟩ := Y
    have hmg : mg ("law" : PySem.Str) = some (.ref fa) := by
      have e : (HandSHeadRun.topDef (OpenLaw.row PySem.Challenge.rw_threealike_k70_whole_rows_led_by_dots).prog 66).name = ("law" : PySem.Str) := by kernel_rfl
      rw [← e]
      exact hmg0
    have B := Lw.facts KX G c e
    obtain ⟨fd, F⟩ := c.def_ 47 (d := ⟨(Lw.r_law.x, none), Lw.r_law.x, Lw.r_law.x, L2.defArgs Lw.r_law.st, L2.defBody Lw.r_law.st, L2.defScope Lw.r_law.st, [], []⟩) rfl
    have ea := hmg.symm.trans (He.glo_ok KX G (c.fact 47 (f := .glo "law") rfl))
    cases ea
    have b := L2.FunD.bindsA (ps := ["script"]) F fun _ _ _ _ _ _ us hl => match us, hl with | [_], _ => rfl
    refine ⟨K, fd, fun vs H Q _ => Mp.spF K (Lw.gs K) 1 (Lw.law 60) vs H Q fun _ _ _ => False, KX, fun s v => b s [v] rfl, fun H a ns hl ho hs => Mp.law_sp ho hs (Lw.main ns hl), fun base hb hg => ?_⟩
    obtain ⟨fd', ft⟩ := Lw.all (P := (PySem.Challenge.rw_threealike_k70_whole_rows_led_by_dots).prog) (w := w) (base := base) B (Lw.base0 KX G c) 60 47 Lw.r_law rfl
    have ok := Mp.noexc_fn ft.ok
    have el := Mp.same_fd F ft.F
    subst el
    exact ok
#print axioms PySem.Challenge.cw_threealike_k70_whole_rows_led_by_dots_holds
