import PyProof.Rows.All
import Wide.All
import OpenK.AllK
import Wide.FinOn
import HandS.WordsExc
import HandS.SortInts
import HandS.Base
import HandS.Call
import HandS.List
import HandS.Dict
import HandS.Conv
import HandS.Wide
import HandS.IsInst
import HandS.Strs
import HandS.Deep
import HandS.ListItems
import HandS.Small
import HandS.Comp
import HandS.Ends
import HandS.Iter
import HandS.Words
import HandS.Exc
import HandS.Evl
import HandS.SetFor
import PyProof.SliceList
import HandS.EndBits
import PySem.Challenge.RW_purserbook_k32_whole_least_of_all_lists
set_option Elab.async false
set_option linter.all false
set_option maxRecDepth 100000
set_option autoImplicit false
/-! QQ: a plain semantics: data by value, a store of live cells. Part s: the semantics. -/
namespace QQ
open PySem L2

inductive Dt where
  | non | bl (b : Bool) | int (i : Int) | str (x : Str) | ty (n : String) | glb (x : Str) | loc (l : Nat)
  | tup (xs : List Dt) | lst (xs : List Dt) | fls (xs : List Dt) | dct (kvs : List (Key × Dt)) | obj (c : Str) (fs : List (Str × Dt))
inductive Ob where
  | lst (xs : List Dt) | dct (kvs : List (Key × Dt)) | obj (c : Str) (fs : List (Str × Dt))
inductive Cel where
  | live (o : Ob) | lock (o : Ob) | dead
abbrev Mem := List Cel
abbrev Fra := List (Option Dt)

inductive Res (α : Type) where
  | ok (a : α) (s : Mem) | ex (c : Str) (fs : List (Str × Dt)) (s : Mem) | no
def M (α : Type) := Mem → Res α
def M.pure {α : Type} (a : α) : M α := fun s => .ok a s
def M.bind {α β : Type} (m : M α) (k : α → M β) : M β := fun s => match m s with
  | .ok a s' => k a s'
  | .ex c fs s' => .ex c fs s'
  | .no => .no
instance : Monad M where
  pure := M.pure
  bind := M.bind
def stuck {α : Type} : M α := fun _ => .no
def getM : M Mem := fun s => .ok s s
def setM (s : Mem) : M Unit := fun _ => .ok () s
def raise {α : Type} (c : Str) (fs : List (Str × Dt)) : M α := fun s => .ex c fs s
def ofO {α : Type} : Option α → M α
  | some a => M.pure a
  | none => stuck
abbrev Op1 (α : Type) := Mem → Option (α × Mem)
def lift {α : Type} (g : Op1 α) : M α := fun s => match g s with
  | some (d, s') => .ok d s'
  | none => .no
theorem pure_run {α : Type} (a : α) (s : Mem) : (pure a : M α) s = .ok a s := rfl
theorem Mpure_run {α : Type} (a : α) (s : Mem) : (M.pure a : M α) s = .ok a s := rfl
theorem bind_run {α β : Type} (m : M α) (k : α → M β) (s : Mem) : (m >>= k) s = match m s with | .ok a s' => k a s' | .ex c fs s' => .ex c fs s' | .no => .no := rfl
theorem bind_ok {α β : Type} {m : M α} {k : α → M β} {s s' : Mem} {a : α} (h : m s = .ok a s') : (m >>= k) s = k a s' := by
  rw [bind_run, h]
theorem pure_bind_M {α β : Type} (a : α) (k : α → M β) : ((pure a : M α) >>= k) = k a := rfl
theorem Mpure_bind_M {α β : Type} (a : α) (k : α → M β) : ((M.pure a : M α) >>= k) = k a := rfl
theorem bind_assoc_M {α β γ : Type} (m : M α) (k : α → M β) (l : β → M γ) : ((m >>= k) >>= l) = (m >>= fun x => k x >>= l) := by
  funext s
  simp only [bind_run]
  cases m s <;> rfl
theorem ofO_some {α : Type} (a : α) : ofO (some a) = (M.pure a : M α) := rfl
theorem stuck_run {α : Type} (s : Mem) : (stuck : M α) s = .no := rfl
theorem lift_run {α : Type} (g : Op1 α) (s : Mem) : lift g s = match g s with | some (d, s') => .ok d s' | none => .no := rfl
theorem lift_ok {α : Type} {g : Op1 α} {s s' : Mem} {d : α} (h : g s = some (d, s')) : lift g s = .ok d s' := by
  rw [lift_run, h]

/-! ### data -/
section
variable {κ α : Type} [DecidableEq κ]
def kGet (kvs : List (κ × α)) (k : κ) : Option α := (kvs.find? fun kv => decide (kv.1 = k)).map (·.2)
def kPut (kvs : List (κ × α)) (k : κ) (v : α) : List (κ × α) :=
  if (kvs.any fun kv => decide (kv.1 = k)) = true then kvs.map (fun kv => if kv.1 = k then (kv.1, v) else kv) else kvs ++ [(k, v)]
def kDrop (kvs : List (κ × α)) (k : κ) : List (κ × α) := kvs.filter fun kv => decide (kv.1 ≠ k)
def kMerge (kvs more : List (κ × α)) : List (κ × α) := more.foldl (fun acc kv => kPut acc kv.1 kv.2) kvs
end
def keyD : Dt → Option Key
  | .int i => some (.inl i)
  | .str x => some (.inr x)
  | _ => none
def dKey : Key → Dt
  | .inl i => .int i
  | .inr x => .str x
/-- the items of a list -/
def items (s : Mem) : Dt → Option (List Dt)
  | .lst xs => some xs
  | .fls xs => some xs
  | .loc l => match s[l]? with
    | some (.live (.lst xs)) => some xs
    | _ => none
  | _ => none
def itemsT : Dt → Option (List Dt)
  | .tup xs => some xs
  | _ => none
/-- of a list, of a tuple -/
def itemsA (s : Mem) : Dt → Option (List Dt)
  | .tup xs => some xs
  | d => items s d
def pairsOf (s : Mem) : Dt → Option (List (Key × Dt))
  | .dct kvs => some kvs
  | .loc l => match s[l]? with
    | some (.live (.dct kvs)) => some kvs
    | some (.lock (.dct kvs)) => some kvs
    | _ => none
  | _ => none
def fieldsOf (s : Mem) : Dt → Option (Str × List (Str × Dt))
  | .obj c fs => some (c, fs)
  | .loc l => match s[l]? with
    | some (.live (.obj c fs)) => some (c, fs)
    | _ => none
  | _ => none
def newC (o : Ob) : Op1 Dt := fun s => some (.loc s.length, s ++ [.live o])
def mkL (own : Bool) (xs : List Dt) : Op1 Dt := fun s => if xs.length ≤ sizeLine then (if own = true then newC (.lst xs) s else some (.lst xs, s)) else none
def mkD (own : Bool) (kvs : List (Key × Dt)) : Op1 Dt := fun s => if kvs.length ≤ sizeLine then (if own = true then newC (.dct kvs) s else some (.dct kvs, s)) else none
def mkT (xs : List Dt) : Op1 Dt := fun s => if xs.length ≤ sizeLine then some (.tup xs, s) else none
def ret1 {α : Type} (d : α) : Op1 α := fun s => some (d, s)
def fail1 {α : Type} : Op1 α := fun _ => none
/-- as PyData, cells of lists read -/
def tot {α : Type} : List (Option α) → Option (List α)
  | [] => some []
  | some a :: r => (tot r).map (a :: ·)
  | none :: _ => none
mutual
def py : Dt → Option PyData
  | .non => some .none
  | .bl b => some (.bool b)
  | .int i => some (.int i)
  | .str x => some (.str x)
  | .tup xs => (pys xs).map .tuple
  | .lst xs => (pys xs).map .list
  | .fls xs => (pys xs).map .list
  | .ty _ => none
  | .glb _ => none
  | .loc _ => none
  | .dct _ => none
  | .obj _ _ => none
def pys : List Dt → Option (List PyData)
  | [] => some []
  | d :: r => (py d).bind fun a => (pys r).map (a :: ·)
end
def pyM (s : Mem) : Dt → Option PyData
  | .loc l => (items s (.loc l)).bind fun xs => (pys xs).map .list
  | .tup xs => (pysM s xs).map .tuple
  | d => py d
where
  pysM (s : Mem) : List Dt → Option (List PyData)
    | [] => some []
    | d :: r => (pyM1 s d).bind fun a => (pysM s r).map (a :: ·)
  pyM1 (s : Mem) : Dt → Option PyData
    | .loc l => (items s (.loc l)).bind fun xs => (pys xs).map .list
    | d => py d
def isScal : Dt → Bool
  | .int _ => true
  | .str _ => true
  | .bl _ => true
  | .non => true
  | _ => false
def scalEq : Dt → Dt → Option Bool
  | .int a, .int b => some (decide (a = b))
  | .str a, .str b => some (decide (a = b))
  | .bl a, .bl b => some (decide (a = b))
  | .int _, .str _ => some false
  | .str _, .int _ => some false
  | .bl _, .str _ => some false
  | .str _, .bl _ => some false
  | .non, .int _ => some false
  | .int _, .non => some false
  | .non, .str _ => some false
  | .str _, .non => some false
  | .non, .bl _ => some false
  | .bl _, .non => some false
  | .non, .non => some true
  | _, _ => none
def deepEq (s : Mem) (x y : Dt) : Option Bool := (pyM s x).bind fun d => (pyM s y).bind fun e => if (SeqAt.shaped d && SeqAt.shaped e) = true then some (PyData.eqv d e) else none
def eqD (x y : Dt) (s : Mem) : Option Bool := if (isScal x && isScal y) = true then scalEq x y else deepEq s x y
def flatD : Dt → Bool
  | .non => true
  | .bl _ => true
  | .int _ => true
  | .str _ => true
  | _ => false
def eqF : Dt → Dt → Bool
  | .non, .non => true
  | .bl a, .bl b => a == b
  | .bl a, .int b => (if a then 1 else 0) == b
  | .int a, .bl b => a == (if b then 1 else 0)
  | .int a, .int b => a == b
  | .str a, .str b => a == b
  | _, _ => false
/-- x in y -/
def inD (x y : Dt) (s : Mem) : Option Bool := match pairsOf s y with
  | some kvs => (keyD x).map fun k => (kGet kvs k).isSome
  | none => (itemsA s y).bind fun xs =>
    if (flatD x && xs.all flatD) = true then some (xs.any fun z => eqF z x)
    else match itemsT y with
      | some _ => none
      | none => (pyM s x).bind fun d => (pys xs).bind fun ds => if (SeqAt.shaped d && SeqAt.shaped (.list ds)) = true then some (ds.any fun z => PyData.eqv z d) else none
def cmpD (op : CmpOp) (x y : Dt) (s : Mem) : Option Bool := match op with
  | .Eq => eqD x y s
  | .NotEq => (eqD x y s).map (!·)
  | .Lt => match x, y with
    | .int i, .int j => some (decide (i < j))
    | _, _ => none
  | .LtE => match x, y with
    | .int i, .int j => some (decide (i ≤ j))
    | _, _ => none
  | .Gt => match x, y with
    | .int i, .int j => some (decide (j < i))
    | _, _ => none
  | .GtE => match x, y with
    | .int i, .int j => some (decide (j ≤ i))
    | _, _ => none
  | .In => inD x y s
  | .NotIn => (inD x y s).map (!·)
  | .Is => match y with
    | .non => some (match x with | .non => true | _ => false)
    | _ => none
  | .IsNot => match y with
    | .non => some (match x with | .non => false | _ => true)
    | _ => none
def mulOk (i j : Int) : Bool := (decide (-(2 ^ 64) < i ∧ i < 2 ^ 64) || decide (-(2 ^ 64) < j ∧ j < 2 ^ 64)) || decide (i.natAbs.log2 + j.natAbs.log2 < 1000000)
def divOk (j : Int) : Prop := 0 < j ∧ j.natAbs.log2 < 9000
instance (j : Int) : Decidable (divOk j) := by unfold divOk; exact inferInstance
def addD (own : Bool) (x y : Dt) : Op1 Dt := fun s => match x, y with
  | .int i, .int j => some (.int (i + j), s)
  | .fls _, _ => none
  | _, .fls _ => none
  | x, y => (items s x).bind fun xs => (items s y).bind fun ys => mkL own (xs ++ ys) s
def mulD (own : Bool) (x y : Dt) : Op1 Dt := fun s => match x, y with
  | .int i, .int j => if mulOk i j = true then some (.int (i * j), s) else none
  | .fls _, _ => none
  | x, .int k => (items s x).bind fun xs => if -(2 ^ 63) ≤ k ∧ k < 2 ^ 63 ∧ xs.length * k.toNat ≤ sizeLine then mkL own (List.replicate k.toNat xs).flatten s else none
  | _, _ => none
def intD (f : Int → Int → Option Int) (x y : Dt) : Op1 Dt := fun s => match x, y with
  | .int i, .int j => (f i j).map fun k => (.int k, s)
  | _, _ => none
def binD (op : Operator) (own : Bool) (x y : Dt) : Op1 Dt := match op with
  | .Add => addD own x y
  | .Sub => intD (fun i j => some (i - j)) x y
  | .Mult => mulD own x y
  | .FloorDiv => intD (fun i j => if divOk j then some (i / j) else none) x y
  | .Mod => intD (fun i j => if 0 < j then some (i % j) else none) x y
  | .Pow => intD (fun i j => if 0 ≤ j ∧ j ≤ 1000000 ∧ i.natAbs < 2 ^ 64 then some (i ^ j.toNat) else none) x y
  | _ => fail1
/-- o[i] -/
def ixD (o i : Dt) (s : Mem) : Option Dt := match pairsOf s o with
  | some kvs => (keyD i).bind fun k => kGet kvs k
  | none => match i with
    | .int j => (itemsA s o).bind fun xs => atI xs j
    | _ => none
def cutD (xs : List Dt) (lo hi : Option Int) : List Dt := (xs.drop (HT.sIx xs.length 0 lo)).take (HT.sIx xs.length xs.length hi - HT.sIx xs.length 0 lo)
/-- o[lo:hi] of a list -/
def slD (own : Bool) (o : Dt) (lo hi : Option Int) : Op1 Dt := fun s => (items s o).bind fun xs => mkL own (cutD xs lo hi) s
/-- o[lo:hi:c] of a list -/
def pickL {α : Type} (xs : List α) (lo hi : Option Int) (c : Int) : List α := (PySem.sliceRange (sliceBounds lo hi (some c) xs.length).1 (sliceBounds lo hi (some c) xs.length).2.1 (sliceBounds lo hi (some c) xs.length).2.2).filterMap (xs[·]?)
def slS (own : Bool) (o : Dt) (lo hi : Option Int) (c : Int) : Op1 Dt := fun s => (items s o).bind fun xs => if c = 0 then none else mkL own (pickL xs lo hi c) s
def intsOf : List Dt → Option (List Int)
  | [] => some []
  | .int i :: r => (intsOf r).map (i :: ·)
  | _ :: _ => none
def boolsOf : List Dt → Option (List Bool)
  | [] => some []
  | .bl i :: r => (boolsOf r).map (i :: ·)
  | _ :: _ => none
def trueD (x : Dt) (s : Mem) : Option Bool := match x with
  | .non => some false
  | .bl b => some b
  | .int i => some (i != 0)
  | _ => (itemsA s x).map fun xs => !xs.isEmpty
def tyOfD (x : Dt) (s : Mem) : Option String := match x with
  | .non => some "NoneType"
  | .bl _ => some "bool"
  | .int _ => some "int"
  | .str _ => some "str"
  | .tup _ => some "tuple"
  | .lst _ => some "list"
  | .dct _ => some "dict"
  | .loc l => (match s[l]? with
    | some (.live (.lst _)) => some "list"
    | some (.live (.dct _)) => some "dict"
    | _ => none)
  | _ => none
def tyIs (m n : String) : Option Bool :=
  if n = "list" then some (decide (m = "list")) else if n = "tuple" then some (decide (m = "tuple")) else if n = "str" then some (decide (m = "str"))
  else if n = "bool" then some (decide (m = "bool")) else if n = "int" then some (decide (m = "int") || decide (m = "bool")) else none
def isTy (x t : Dt) (s : Mem) : Option Bool := match t with
  | .ty n => (tyOfD x s).bind fun m => tyIs m n
  | _ => none
def minL : List Int → Option Int
  | [] => none
  | x :: r => some (r.foldl (fun a b => if b < a then b else a) x)
def insI (x : Int) : List Int → List Int
  | [] => [x]
  | y :: r => if x ≤ y then x :: y :: r else y :: insI x r
def srtI : List Int → List Int
  | [] => []
  | x :: r => insI x (srtI r)
/-- tuples of ints and texts, by their items -/
def keysOf : List Dt → Option (List Key)
  | [] => some []
  | d :: r => (keyD d).bind fun k => (keysOf r).map (k :: ·)
def tupsOf : List Dt → Option (List (List Key))
  | [] => some []
  | .tup xs :: r => (keysOf xs).bind fun ns => (tupsOf r).map (ns :: ·)
  | _ :: _ => none
def ltK : Key → Key → Bool
  | .inl i, .inl j => decide (i < j)
  | .inr x, .inr y => decide (x.cps.toList < y.cps.toList)
  | .inl _, .inr _ => true
  | .inr _, .inl _ => false
def lexK : List Key → List Key → Bool
  | [], [] => false
  | [], _ :: _ => true
  | _ :: _, [] => false
  | a :: r, b :: t => if a = b then lexK r t else ltK a b
def shK (t : List Key) : List Bool := t.map fun k => match k with
  | .inl _ => true
  | .inr _ => false
def insK (x : List Key) : List (List Key) → List (List Key)
  | [] => [x]
  | y :: r => if lexK y x = true then y :: insK x r else x :: y :: r
def srtK : List (List Key) → List (List Key)
  | [] => []
  | x :: r => insK x (srtK r)
/-- all of one shape, none empty -/
def oneSh (ts : List (List Key)) : Bool := ts.all fun t => !t.isEmpty && decide (shK t = shK (ts.headD []))
def dedI : List Int → List Int
  | [] => []
  | x :: r => if x ∈ r then dedI r else x :: dedI r
def sortD (own : Bool) (xs : List Dt) : Op1 Dt := fun s => match intsOf xs with
  | some ns => mkL own ((srtI ns).map .int) s
  | none => (tupsOf xs).bind fun ts => if oneSh ts = true then mkL own ((srtK ts).map fun t => .tup (t.map dKey)) s else none
def bLen (v : Dt) : Op1 Dt := fun s => match pairsOf s v with
  | some kvs => some (.int kvs.length, s)
  | none => (itemsA s v).map fun xs => (.int xs.length, s)
def bList (own : Bool) (v : Dt) : Op1 Dt := fun s => match pairsOf s v with
  | some kvs => mkL own (kvs.map fun kv => dKey kv.1) s
  | none => (itemsA s v).bind fun xs => mkL own xs s
def bSum (v : Dt) : Op1 Dt := fun s => (items s v).bind fun xs => (intsOf xs).map fun ns => (.int ns.sum, s)
def bMin1 (v : Dt) : Op1 Dt := fun s => (items s v).bind fun xs => (intsOf xs).bind fun ns => (minL ns).map fun m => (.int m, s)
def bMin2 (x y : Dt) : Op1 Dt := intD (fun i j => some (if j < i then j else i)) x y
def bAll (v : Dt) : Op1 Dt := fun s => (items s v).bind fun xs => (boolsOf xs).map fun bs => (.bl (bs.all id), s)
def bAny (v : Dt) : Op1 Dt := fun s => (items s v).bind fun xs => (boolsOf xs).map fun bs => (.bl (bs.any id), s)
def bSorted (own : Bool) (v : Dt) : Op1 Dt := fun s => (items s v).bind fun xs => sortD own xs s
def bIsi (v t : Dt) : Op1 Dt := fun s => (isTy v t s).map fun b => (.bl b, s)
def pairD : Dt → Option (Key × Dt)
  | .tup [k, v] => (keyD k).map fun k' => (k', v)
  | _ => none
def bDict (own : Bool) (v : Dt) : Op1 Dt := fun s => (items s v).bind fun xs => (tot (xs.map pairD)).bind fun kvs => mkD own (kMerge [] kvs) s
/-- a built-in by its name -/
def blt1 (x : Str) (own : Bool) (v : Dt) : Op1 Dt :=
  if x = "len" then bLen v else if x = "list" then bList own v else if x = "sum" then bSum v else if x = "min" then bMin1 v
  else if x = "all" then bAll v else if x = "any" then bAny v else if x = "sorted" then bSorted own v else if x = "dict" then bDict own v else fail1
def blt2 (x : Str) (v t : Dt) : Op1 Dt := if x = "min" then bMin2 v t else if x = "isinstance" then bIsi v t else fail1
def bltD (x : Str) (own : Bool) (vs : List Dt) : Op1 Dt := match vs with
  | [v] => blt1 x own v
  | [v, t] => blt2 x v t
  | _ => fail1
/-- a built-in's method -/
def mAppend (o v : Dt) : Op1 Dt := fun s => match o with
  | .loc l => (match s[l]? with
    | some (.live (.lst xs)) => if xs.length < sizeLine then some (.non, s.set l (.live (.lst (xs ++ [v])))) else none
    | _ => none)
  | _ => none
def mExtend (o v : Dt) : Op1 Dt := fun s => match o with
  | .loc l => (match s[l]? with
    | some (.live (.lst xs)) => (match v with
      | .fls _ => none
      | _ => (items s v).bind fun ys => if xs.length + ys.length ≤ sizeLine then some (.non, s.set l (.live (.lst (xs ++ ys)))) else none)
    | _ => none)
  | _ => none
def mPopL (o i : Dt) : Op1 Dt := fun s => match o with
  | .loc l => (match s[l]? with
    | some (.live (.lst xs)) => (match i with
      | .int j => if 0 ≤ j ∧ j < 2 ^ 63 then (xs[j.toNat]?).map fun y => (y, s.set l (.live (.lst (xs.eraseIdx j.toNat)))) else none
      | _ => none)
    | _ => none)
  | _ => none
def mPopD (o i : Dt) : Op1 Dt := fun s => match o with
  | .loc l => (match s[l]? with
    | some (.live (.dct kvs)) => (keyD i).bind fun k => (kGet kvs k).map fun y => (y, s.set l (.live (.dct (kDrop kvs k))))
    | _ => none)
  | _ => none
def mGet1 (o k : Dt) : Op1 Dt := fun s => (pairsOf s o).bind fun kvs => (keyD k).map fun k' => ((kGet kvs k').getD .non, s)
def mGet2 (o k d : Dt) : Op1 Dt := fun s => (pairsOf s o).bind fun kvs => (keyD k).map fun k' => ((kGet kvs k').getD d, s)
def isLoc (l : Nat) : Dt → Bool
  | .loc l' => decide (l' = l)
  | _ => false
def mUpdate (o v : Dt) : Op1 Dt := fun s => match o with
  | .loc l => (match s[l]? with
    | some (.live (.dct kvs)) => if isLoc l v = true then none
        else (pairsOf s v).bind fun more => if kvs.length + more.length ≤ sizeLine then some (.non, s.set l (.live (.dct (kMerge kvs more)))) else none
    | _ => none)
  | _ => none
/-- the receiver's type, where the method is one of these -/
def kindD (m : Str) (x : Dt) (s : Mem) : Option String := match pairsOf s x with
  | some _ => if m = "get" ∨ m = "pop" ∨ m = "update" then some "dict" else none
  | none => match items s x with
    | some _ => if m = "append" ∨ m = "extend" ∨ m = "pop" then some "list" else none
    | none => none
def mtd1 (t : String) (m : Str) (own : Bool) (o v : Dt) : Op1 Dt :=
  if t = "list" then (if m = "append" then mAppend o v else if m = "extend" then mExtend o v else if m = "pop" then mPopL o v else fail1)
  else if t = "dict" then (if m = "get" then mGet1 o v else if m = "pop" then mPopD o v else if m = "update" then mUpdate o v else fail1)
  else fail1
def mtd2 (t : String) (m : Str) (o v u : Dt) : Op1 Dt := if t = "dict" then (if m = "get" then mGet2 o v u else fail1) else fail1
def mtdD (t : String) (m : Str) (own : Bool) (o : Dt) (vs : List Dt) : Op1 Dt := match vs with
  | [v] => mtd1 t m own o v
  | [v, u] => mtd2 t m o v u
  | _ => fail1
/-- o[i] = v -/
def setD (o i v : Dt) : Op1 Unit := fun s => match o with
  | .loc l => (match s[l]? with
    | some (.live (.lst xs)) => (match i with
      | .int j => (ixN xs.length j).map fun n => ((), s.set l (.live (.lst (xs.set n v))))
      | _ => none)
    | some (.live (.dct kvs)) => (keyD i).bind fun k => if kvs.length < sizeLine then some ((), s.set l (.live (.dct (kPut kvs k v)))) else none
    | _ => none)
  | _ => none
def putFD (f : Str) (v : Dt) : List (Str × Dt) → List (Str × Dt)
  | [] => [(f, v)]
  | (g, u) :: r => if g = f then (g, v) :: r else (g, u) :: putFD f v r
/-- o.f = v -/
def setFD (o : Dt) (f : Str) (v : Dt) : Op1 Unit := fun s => match o with
  | .loc l => (match s[l]? with
    | some (.live (.obj c fs)) => if fs.length < 1000 then some ((), s.set l (.live (.obj c (putFD f v fs)))) else none
    | _ => none)
  | _ => none
/-- a cell becomes a datum -/
def frzD (d : Dt) : Op1 Dt := fun s => match d with
  | .loc l => (match s[l]? with
    | some (.live (.lst xs)) => some (.lst xs, s.set l .dead)
    | some (.live (.dct xs)) => some (.dct xs, s.set l .dead)
    | some (.live (.obj c fs)) => some (.obj c fs, s.set l .dead)
    | _ => none)
  | _ => none

def rd {α : Type} (g : Mem → Option α) : M α := fun s => match g s with | some a => .ok a s | none => .no
theorem rd_run {α : Type} (g : Mem → Option α) (s : Mem) : rd g s = match g s with | some a => .ok a s | none => .no := rfl
theorem rd_ok {α : Type} {g : Mem → Option α} {s : Mem} {a : α} (h : g s = some a) : rd g s = .ok a s := by rw [rd_run, h]
def wipeD (φ : Fra) : List Nat → Fra
  | [] => φ
  | v :: vs => (wipeD φ vs).set v none
end QQ

/-! QQ, part o: sorted of tuples of ints and texts, of one shape, any number of them. -/
namespace QQ
open PySem L2
theorem str_ext {x y : Str} (h : x.cps.toList = y.cps.toList) : x = y := by
  cases x; cases y; simp at h; subst h; rfl
theorem ltK_asym : ∀ a b : Key, ltK a b = true → ltK b a = false
  | .inl i, .inl j, h => by simp only [ltK, decide_eq_true_eq] at h ⊢; exact decide_eq_false (by omega)
  | .inr x, .inr y, h => by simp only [ltK, decide_eq_true_eq] at h ⊢; exact decide_eq_false (fun q => List.lt_irrefl _ (List.lt_trans h q))
  | .inl _, .inr _, _ => rfl
  | .inr _, .inl _, h => by cases h
theorem ltK_irr (a : Key) : ltK a a = false := by
  cases h : ltK a a with
  | false => rfl
  | true => rw [ltK_asym a a h] at h; cases h
theorem ltK_tri : ∀ a b : Key, ltK a b = false → ltK b a = false → a = b
  | .inl i, .inl j, h, k => by
    simp only [ltK, decide_eq_false_iff_not] at h k
    have : i = j := by omega
    rw [this]
  | .inr x, .inr y, h, k => by
    simp only [ltK, decide_eq_false_iff_not] at h k
    have h1 : y.cps.toList ≤ x.cps.toList := List.not_lt.mp h
    have h2 : x.cps.toList ≤ y.cps.toList := List.not_lt.mp k
    rw [str_ext (List.le_antisymm h2 h1)]
  | .inl _, .inr _, h, _ => by cases h
  | .inr _, .inl _, _, h => by cases h
theorem ltK_trans : ∀ a b c : Key, ltK a b = true → ltK b c = true → ltK a c = true
  | .inl i, .inl j, .inl k, h, q => by simp only [ltK, decide_eq_true_eq] at h q ⊢; omega
  | .inr x, .inr y, .inr z, h, q => by simp only [ltK, decide_eq_true_eq] at h q ⊢; exact List.lt_trans h q
  | .inl _, .inl _, .inr _, _, _ => rfl
  | .inl _, .inr _, .inr _, _, _ => rfl
  | .inl _, .inr _, .inl _, _, h => by cases h
  | .inr _, .inl _, _, h, _ => by cases h
  | .inr _, .inr _, .inl _, _, h => by cases h
theorem lexK_asym : ∀ a b : List Key, lexK a b = true → lexK b a = false
  | [], [], h => by cases h
  | [], _ :: _, _ => rfl
  | _ :: _, [], h => by cases h
  | a :: r, b :: t, h => by
    simp only [lexK] at h ⊢
    by_cases e : a = b
    · subst e
      rw [if_pos rfl] at h ⊢
      exact lexK_asym r t h
    · rw [if_neg e] at h
      rw [if_neg (fun q => e q.symm)]
      exact ltK_asym a b h
theorem lexK_irr (a : List Key) : lexK a a = false := by
  cases h : lexK a a with
  | false => rfl
  | true => rw [lexK_asym a a h] at h; cases h
theorem lexK_tri : ∀ a b : List Key, lexK a b = false → lexK b a = false → a = b
  | [], [], _, _ => rfl
  | [], _ :: _, h, _ => by cases h
  | _ :: _, [], _, h => by cases h
  | a :: r, b :: t, h, k => by
    simp only [lexK] at h k
    by_cases e : a = b
    · subst e
      rw [if_pos rfl] at h k
      rw [lexK_tri r t h k]
    · rw [if_neg e] at h
      rw [if_neg (fun q => e q.symm)] at k
      exact absurd (ltK_tri a b h k) e
theorem lexK_trans : ∀ a b c : List Key, lexK a b = true → lexK b c = true → lexK a c = true
  | [], [], _, h, _ => by cases h
  | [], _ :: _, [], _, h => by cases h
  | [], _ :: _, _ :: _, _, _ => rfl
  | _ :: _, [], _, h, _ => by cases h
  | _ :: _, _ :: _, [], _, h => by cases h
  | a :: r, b :: t, c :: u, h, k => by
    simp only [lexK] at h k ⊢
    by_cases e : a = b
    · subst e
      rw [if_pos rfl] at h
      by_cases f : a = c
      · subst f
        rw [if_pos rfl] at k ⊢
        exact lexK_trans r t u h k
      · rw [if_neg f] at k ⊢
        exact k
    · rw [if_neg e] at h
      by_cases f : b = c
      · subst f
        rw [if_neg e]
        exact h
      · rw [if_neg f] at k
        have hac := ltK_trans a b c h k
        have hne : a ≠ c := fun q => by
          subst q
          rw [ltK_irr] at hac
          cases hac
        rw [if_neg hne]
        exact hac
theorem swoK {α : Type} (k : α → List Key) : SrtO.Swo fun x y => lexK (k x) (k y) := by
  refine ⟨fun x y h => lexK_asym _ _ h, fun x y z h1 h2 => ?_⟩
  cases h : lexK (k z) (k x) with
  | false => rfl
  | true =>
    cases q : lexK (k x) (k y) with
    | true =>
      have h3 := lexK_trans _ _ _ h q
      have h4 := lexK_asym _ _ h3
      rw [h2] at h3
      cases h3
    | false =>
      have e : k x = k y := lexK_tri _ _ q h1
      rw [e] at h
      rw [h2] at h
      cases h
/-- sorted, none before an earlier one -/
def SrtdK (l : List (List Key)) : Prop := l.Pairwise fun x y => lexK y x = false
theorem insK_perm (x : List Key) : ∀ l, (insK x l).Perm (x :: l)
  | [] => List.Perm.refl _
  | y :: r => by
    unfold insK
    split
    · exact ((insK_perm x r).cons y).trans (List.Perm.swap x y r)
    · exact List.Perm.refl _
theorem srtK_perm : ∀ l, (srtK l).Perm l
  | [] => List.Perm.refl _
  | x :: r => (insK_perm x _).trans ((srtK_perm r).cons x)
theorem insK_srtd (x : List Key) : ∀ l, SrtdK l → SrtdK (insK x l)
  | [], _ => List.pairwise_singleton _ _
  | y :: r, h => by
    have h' := List.pairwise_cons.mp h
    unfold insK
    split
    · rename_i hl
      refine List.pairwise_cons.mpr ⟨fun z hz => ?_, insK_srtd x r h'.2⟩
      rcases List.mem_cons.mp ((insK_perm x r).mem_iff.mp hz) with rfl | hz
      · exact lexK_asym _ _ hl
      · exact h'.1 z hz
    · rename_i hl
      have hl : lexK y x = false := by
        cases q : lexK y x with
        | false => rfl
        | true => exact absurd q hl
      refine List.pairwise_cons.mpr ⟨fun z hz => ?_, h⟩
      rcases List.mem_cons.mp hz with rfl | hz
      · exact hl
      · cases q : lexK z x with
        | false => rfl
        | true =>
          have q1 := h'.1 z hz
          have e := (swoK (fun t : List Key => t)).tr x y z hl q1
          rw [q] at e
          cases e
theorem srtK_srtd : ∀ l, SrtdK (srtK l)
  | [] => List.Pairwise.nil
  | x :: r => insK_srtd x _ (srtK_srtd r)
theorem srtd_uniq : ∀ {l m : List (List Key)}, SrtdK l → SrtdK m → l.Perm m → l = m
  | [], m, _, _, p => (List.Perm.nil_eq p)
  | x :: l, [], _, _, p => absurd p.length_eq (by simp)
  | x :: l, y :: m, hl, hm, p => by
    have hl' := List.pairwise_cons.mp hl
    have hm' := List.pairwise_cons.mp hm
    have e : x = y := by
      rcases List.mem_cons.mp (p.mem_iff.mp (List.mem_cons_self (a := x) (l := l))) with e | hx
      · exact e
      · rcases List.mem_cons.mp (p.mem_iff.mpr (List.mem_cons_self (a := y) (l := m))) with e | hy
        · exact e.symm
        · exact lexK_tri _ _ (hm'.1 x hx) (hl'.1 y hy)
    subst e
    rw [srtd_uniq hl'.2 hm'.2 (List.Perm.cons_inv p)]

/-! ### the rule -/
def KeyIs (k : Key) (u : Value) : Prop := keyIs k u = true
def TupIs (h : Heap) (t : List Key) (u : Value) : Prop := ∃ (a : Addr) (o : Obj) (its : List Value) (n : Nat), u = .ref a ∧ h.get? a = some o ∧ o.cls = .type "tuple" ∧ o.data = .seq its.toArray n ∧ Paired KeyIs t its
theorem keyIs_uniq {k k' : Key} {u : Value} (h : KeyIs k u) (h' : KeyIs k' u) : k = k' := by
  rcases keyIs_shape h with ⟨i, t, rfl, rfl⟩ | ⟨x, t, rfl, rfl⟩
  · rcases keyIs_shape h' with ⟨j, u, rfl, e⟩ | ⟨y, u, rfl, e⟩
    · injection e with e1 _; rw [e1]
    · exact nomatch e
  · rcases keyIs_shape h' with ⟨j, u, rfl, e⟩ | ⟨y, u, rfl, e⟩
    · exact nomatch e
    · injection e with e1 _; rw [e1]
theorem keysIs_uniq : ∀ {t t' : List Key} {us : List Value}, Paired KeyIs t us → Paired KeyIs t' us → t = t'
  | _, _, _, .nil, .nil => rfl
  | _, _, _, .cons h r, .cons h' r' => by rw [keyIs_uniq h h', keysIs_uniq r r']
theorem TupIs.uniq {h : Heap} {t t' : List Key} {u : Value} (x : TupIs h t u) (y : TupIs h t' u) : t = t' := by
  obtain ⟨a, o, its, n, rfl, e, _, d, r⟩ := x
  obtain ⟨a', o', its', n', q, e', _, d', r'⟩ := y
  cases q
  rw [e] at e'
  cases e'
  rw [d] at d'
  cases d'
  exact keysIs_uniq r r'
theorem TupIs.keeps {h h' : Heap} {t : List Key} {u : Value} (x : TupIs h t u) (k : ∀ b o, h.get? b = some o → o.cls = .type "tuple" → h'.get? b = some o) : TupIs h' t u := by
  obtain ⟨a, o, its, n, rfl, e, c, d, r⟩ := x
  exact ⟨a, o, its, n, rfl, k a o e c, c, d, r⟩
open Classical in
noncomputable def keyOf (h : Heap) (u : Value) : List Key := if q : ∃ t, TupIs h t u then Classical.choose q else []
theorem keyOf_eq {h : Heap} {t : List Key} {u : Value} (x : TupIs h t u) : keyOf h u = t := by
  unfold keyOf
  have q : ∃ t, TupIs h t u := ⟨t, x⟩
  rw [dif_pos q]
  exact (Classical.choose_spec q).uniq x
section
variable {prog : Program} {w : World} {A : Around} {s : Shared} {E : Value → Shared → Prop}
open PyProof.Rows PySem.W in
theorem lt_key (c : Bool) {k k' : Key} {u v : Value} {Q : Bool → Shared → Prop} (h : KeyIs k u) (h' : KeyIs k' v) (hs : shK [k] = shK [k']) (q : Q (ltK k k') s) : wpAny (model prog w) A (oneLt' c u v) Q E s := by
  rcases keyIs_shape h with ⟨i, t, rfl, rfl⟩ | ⟨x, t, rfl, rfl⟩
  · rcases keyIs_shape h' with ⟨j, t', rfl, rfl⟩ | ⟨y, t', rfl, rfl⟩
    · cases c with
      | true => exact oneLt_int q
      | false => exact kat_one _ _ (lt_int (Q := PySem.W.BoolBack Q) q)
    · cases hs
  · rcases keyIs_shape h' with ⟨j, t', rfl, rfl⟩ | ⟨y, t', rfl, rfl⟩
    · cases hs
    · cases c with
      | true => exact oneLt_str q
      | false => exact kat_one _ _ (lt_str (Q := PySem.W.BoolBack Q) q)

open PyProof.Rows PySem.W in
theorem kat_keys {b fin : Bool} {Q : Bool → Shared → Prop} (hf : fin = false) : ∀ (t t' : List Key) (us vs : List Value) (i : Nat), Paired KeyIs t us → Paired KeyIs t' vs → shK t = shK t' → Q (lexK t t') s → KatLex prog w A b fin Q (us.zip vs) i s
  | [], [], _, _, i, .nil, .nil, _, q => kat_nil (by rw [hf]; exact q)
  | [], _ :: _, _, _, i, _, _, h, _ => by simp [shK] at h
  | _ :: _, [], _, _, i, _, _, h, _ => by simp [shK] at h
  | k :: t, k' :: t', _, _, i, .cons (l₂ := us) h r, .cons (l₂ := vs) h' r', hs, q => by
    have hs1 : shK [k] = shK [k'] := by
      simp only [shK, List.map_cons, List.map_nil, List.cons.injEq] at hs ⊢
      exact ⟨hs.1, trivial⟩
    have hs2 : shK t = shK t' := by
      simp only [shK, List.map_cons, List.cons.injEq] at hs
      exact hs.2
    refine kat_cons ((mixKind prog w).eqBool h h' ?_)
    simp only [lexK] at q
    refine kat_go (fun e => ?_) (fun e => ?_)
    · have e := of_decide_eq_true e
      rw [if_pos e] at q
      exact kat_yes (kat_keys hf t t' us vs (i + 1) r r' hs2 q)
    · have e := of_decide_eq_false e
      rw [if_neg e] at q
      exact kat_no (lt_key _ h h' hs1 q)
open PyProof.Rows PySem.W in
theorem tup_cmp {vs : List Value} {b : Bool} {κ : Value → List Key} (hp : ∀ v ∈ vs, TupIs s.heap (κ v) v) (hsh : ∀ v ∈ vs, ∀ u ∈ vs, shK (κ v) = shK (κ u)) :
    SrtO.Cmp prog w A s (tuples' b) (fun p => p.1 ∈ vs) (SrtO.lt2 fun v u => lexK (κ v) (κ u)) := by
  intro p q hm hm'
  have h1 := hp _ hm
  have h2 := hp _ hm'
  have hs := hsh _ hm _ hm'
  show wpAny (model prog w) A (keyLt' (tuples' b) p.1 q.1) (fun r s' => s' = s ∧ r = lexK (κ p.1) (κ q.1)) (fun _ _ => False) s
  generalize κ p.1 = t at *
  generalize κ q.1 = t' at *
  generalize p.1 = x at *
  generalize q.1 = y at *
  obtain ⟨a, o, its, n, rfl, ho, hc, hd, r⟩ := h1
  obtain ⟨a', o', its', n', rfl, ho', hc', hd', r'⟩ := h2
  have hl : its.length = its'.length := by
    rw [← r.length, ← r'.length]
    have := congrArg List.length hs
    simpa [shK] using this
  refine PySem.W.kat_lt ho hd ho' hd' (kat_keys (by simp [hl]) t t' _ _ 0 (by simpa using r) (by simpa using r') hs ⟨rfl, rfl⟩)
open PyProof.Rows PySem.W in
theorem tup_firsts {h : Heap} (c : Bool) : ∀ {vs : List Value}, (∀ v ∈ vs, ∃ k t, TupIs h (k :: t) v ∧ shK [k] = [c]) → ∃ fs : List Value, KatTups h vs fs ∧ fs.length = vs.length ∧ ∀ f ∈ fs, ∃ k, KeyIs k f ∧ shK [k] = [c]
  | [], _ => ⟨[], KatTups.nil, rfl, fun _ hm => by simp at hm⟩
  | v :: vs, hp => by
    obtain ⟨fs, h1, h2, h3⟩ := tup_firsts c (vs := vs) fun v' hm => hp v' (List.mem_cons_of_mem _ hm)
    obtain ⟨k, t, ⟨a, o, its, n, e, ho, hc, hd, r⟩, hk⟩ := hp v (List.mem_cons_self ..)
    cases r with
    | @cons _ f _ fr hf rr =>
      refine ⟨f :: fs, ⟨⟨a, o, _, n, e, ho, hc, hd, by simp⟩, h1⟩, by simp [h2], fun g hm => ?_⟩
      rcases List.mem_cons.mp hm with rfl | hm
      · exact ⟨k, hf, hk⟩
      · exact h3 g hm
open PyProof.Rows PySem.W in
theorem tups_sortable {a : Addr} {vs : List Value} {κ : Value → List Key} (h0 : 0 < vs.length) (hp : ∀ v ∈ vs, TupIs s.heap (κ v) v) (hne : ∀ v ∈ vs, κ v ≠ []) (hsh : ∀ v ∈ vs, ∀ u ∈ vs, shK (κ v) = shK (κ u))
    (ha : ∀ o, s.heap.get? a = some o → o.cls ≠ .type "tuple") : SrtO.SortableO prog w A s a vs fun v u => lexK (κ v) (κ u) := by
  intro h' keep
  have kp : ∀ v ∈ vs, TupIs h' (κ v) v := fun v hm => (hp v hm).keeps fun b o e c => keep b o (fun z => by subst z; exact ha o e c) e
  obtain ⟨v0, hv0⟩ : ∃ v0, v0 ∈ vs := by
    cases vs with
    | nil => simp at h0
    | cons v _ => exact ⟨v, List.mem_cons_self ..⟩
  obtain ⟨k0, t0, e0⟩ : ∃ k t, κ v0 = k :: t := by
    cases e : κ v0 with
    | nil => exact absurd e (hne v0 hv0)
    | cons k t => exact ⟨k, t, rfl⟩
  obtain ⟨c, hc⟩ : ∃ c, shK [k0] = [c] := by cases k0 <;> exact ⟨_, rfl⟩
  obtain ⟨fs, h1, h2, h3⟩ := tup_firsts (h := h') c (vs := vs) fun v hm => by
    have x := kp v hm
    have e1 := hne v hm
    have e2 := hsh v hm v0 hv0
    generalize κ v = t at *
    cases t with
    | nil => exact absurd rfl e1
    | cons k t =>
      refine ⟨k, t, x, ?_⟩
      rw [e0] at e2
      simp only [shK, List.map_cons, List.map_nil, List.cons.injEq] at e2 hc ⊢
      exact ⟨e2.1.trans hc.1, trivial⟩
  refine ⟨tuples' true, fun Q E hq => ?_, tup_cmp kp hsh⟩
  cases c with
  | true =>
    refine kat_kind (T := .type "int") h1 (by omega) (fun f hm => ?_) (by rfl) ?_
    · obtain ⟨k, hf, hk⟩ := h3 f hm
      rcases keyIs_shape hf with ⟨i, t, rfl, rfl⟩ | ⟨x, t, rfl, rfl⟩
      · exact Looks.now
      · cases hk
    · have e : (Value.type "int" != Value.type "tuple") = true := by decide +kernel
      rw [e]
      exact hq
  | false =>
    refine kat_kind (T := .type "str") h1 (by omega) (fun f hm => ?_) (by rfl) ?_
    · obtain ⟨k, hf, hk⟩ := h3 f hm
      rcases keyIs_shape hf with ⟨i, t, rfl, rfl⟩ | ⟨x, t, rfl, rfl⟩
      · cases hk
      · exact Looks.now
    · have e : (Value.type "str" != Value.type "tuple") = true := by decide +kernel
      rw [e]
      exact hq
end
/-- sorted(xs) of tuples of ints and texts, of one shape -/
def rSortK (K : PySem.W.Frag) : List V → Hp → VK → Prop := fun vs H Q => ∃ (a : Addr) (xs : List V) (ts : List (List Key)), vs = [V.ref a] ∧ SqL K H a xs ∧ Paired (fun t x => ∃ q, x = V.ref q ∧ SqT K H q (t.map kV)) ts xs ∧ oneSh ts = true ∧
  ∀ ys p, (∀ F : List Key → V → Prop, Paired F ts xs → Paired F (srtK ts) ys) → H p = none → Q (.ref p) (upd H p (.lst ys))
theorem kV_is' {k : Key} {u : Value} (h : RelV (kV k) u) : KeyIs k u := by
  cases k with
  | inl i => obtain ⟨t, q⟩ := (show ∃ t, u = Value.int i t from h); subst q; exact keyIs_int i t
  | inr x => obtain ⟨t, q⟩ := (show ∃ t, u = Value.str x t from h); subst q; exact keyIs_str x t
theorem tupIs_of {X : Cx} {pins : List (Addr × Obj)} {σ : L2.St} {H : Hp} {s : Shared} (I : Inv X pins σ H s) {q : Addr} {t : List Key} (h : SqT X.K H q (t.map kV)) : TupIs s.heap t (.ref q) := by
  obtain ⟨its, rv, ⟨o, ho, hc, n, hd⟩, hz⟩ := I.tuple h
  refine ⟨q, o, its, n, rfl, ho, hc, hd, ?_⟩
  clear ho hc hd hz
  have go : ∀ (t : List Key) (us : List Value), Vals (t.map kV) us → Paired KeyIs t us := by
    intro t
    induction t with
    | nil => intro us r; cases r; exact .nil
    | cons k t ih =>
      intro us r
      cases r with
      | cons h r => exact .cons (kV_is' h) (ih _ r)
  exact go t its rv
theorem keys_of {X : Cx} {pins : List (Addr × Obj)} {σ : L2.St} {H : Hp} {s : Shared} (I : Inv X pins σ H s) : ∀ {ts : List (List Key)} {xs : List V} {us : List Value}, Paired (fun t x => ∃ q, x = V.ref q ∧ SqT X.K H q (t.map kV)) ts xs → Vals xs us →
    ts = us.map (keyOf s.heap) ∧ (∀ u ∈ us, TupIs s.heap (keyOf s.heap u) u) ∧ ∀ u ∈ us, ∃ q, u = .ref q ∧ SqT X.K H q ((keyOf s.heap u).map kV)
  | _, _, _, .nil, .nil => ⟨rfl, fun _ h => by simp at h, fun _ h => by simp at h⟩
  | t :: ts, x :: xs, u :: us, .cons h r, .cons h' r' => by
    obtain ⟨q, rfl, hq⟩ := h
    obtain rfl : u = Value.ref q := h'
    have ht := tupIs_of I hq
    have e := keyOf_eq ht
    obtain ⟨h1, h2, h3⟩ := keys_of I r r'
    refine ⟨by rw [List.map_cons, e, h1], fun u hm => ?_, fun u hm => ?_⟩
    · rcases List.mem_cons.mp hm with rfl | hm
      · rw [e]; exact ht
      · exact h2 u hm
    · rcases List.mem_cons.mp hm with rfl | hm
      · exact ⟨q, rfl, by rw [e]; exact hq⟩
      · exact h3 u hm
theorem paired_map {α β γ : Type} {F : α → β → Prop} (f : γ → α) (g : γ → β) : ∀ (l : List γ), (∀ u ∈ l, F (f u) (g u)) → Paired F (l.map f) (l.map g)
  | [], _ => .nil
  | u :: l, h => .cons (h u (List.mem_cons_self ..)) (paired_map f g l fun v hv => h v (List.mem_cons_of_mem _ hv))
theorem paired_unmap {α β γ : Type} {F : α → β → Prop} (f : γ → α) (g : γ → β) : ∀ (l : List γ), Paired F (l.map f) (l.map g) → ∀ u ∈ l, F (f u) (g u)
  | [], _, _, h => by simp at h
  | v :: l, h, u, hu => by
    rw [List.map_cons, List.map_cons] at h
    cases h with
    | cons h r =>
      rcases List.mem_cons.mp hu with rfl | hu
      · exact h
      · exact paired_unmap f g l r u hu
theorem cr_sortK {X : Cx} : CallR X (.builtin "sorted") (rSortK X.K) := by
  intro pins s σ H vs us Q I r h
  obtain ⟨a, xs, ts, rfl, hs, hx, hsh, q⟩ := h
  obtain ⟨its, rv, hl, hz⟩ := I.list hs
  obtain ⟨u, rfl, ru⟩ := vals1 r
  obtain rfl : u = Value.ref a := ru
  obtain ⟨h1, h2, h3⟩ := keys_of I hx rv
  have e1 : xs = its.map backV := by
    refine (refs_back rv fun x hm => ?_).1
    obtain ⟨t, q, e, _⟩ := Paired.right hx x hm
    exact ⟨q, e⟩
  generalize hκ : keyOf s.heap = κ at h1 h2 h3
  have hall : ∀ u ∈ its, κ u ≠ [] ∧ shK (κ u) = shK (ts.headD []) := fun u hu => by
    have hm : κ u ∈ ts := by rw [h1]; exact List.mem_map.mpr ⟨u, hu, rfl⟩
    have := List.all_eq_true.mp hsh _ hm
    rw [Bool.and_eq_true, decide_eq_true_eq] at this
    refine ⟨fun z => ?_, this.2⟩
    rw [z] at this
    simp at this
  have hlen : its.length ≤ sizeLine := by rw [← rv.length]; simpa [rv.length] using hz
  refine SrtO.sorted_ord (ltv := fun v u => lexK (κ v) (κ u)) (swoK κ) hl.isList hlen (fun h2' h₁ a' ha kk => ?_) fun out hso hst => ?_
  · refine tups_sortable (s := { s with heap := h₁ }) (by omega) (fun v hm => (h2 v hm).keeps fun b o e _ => (kk b o e).2) (fun v hm => (hall v hm).1) (fun v hm u hm' => (hall v hm).2.trans (hall u hm').2.symm) fun o e => ?_
    have e' : some o = some (PyProof.Rows.seqObj "list" its.toArray 0) := e.symm.trans ha
    cases e'
    intro c
    have c : Value.type "list" = Value.type "tuple" := c
    injection c with c
    exact absurd c (by decide)
  · have hmem : ∀ u ∈ out, u ∈ its := fun u hu => hst.perm.mem_iff.mp hu
    have hrefs : ∀ u ∈ out, ∃ b, u = Value.ref b := fun u hu => let ⟨b, e, _⟩ := h3 u (hmem u hu); ⟨b, e⟩
    obtain ⟨ep, he'⟩ := PyProof.Rows.sortedAll_at s.heap its out.toArray
    have hs1 : SrtdK (out.map κ) := List.pairwise_map.mpr hso
    have hts : out.map κ = srtK ts := srtd_uniq hs1 (srtK_srtd ts) (by rw [h1]; exact (hst.perm.map κ).trans (srtK_perm _).symm)
    have hp : ∀ F : List Key → V → Prop, Paired F ts xs → Paired F (srtK ts) (out.map backV) := by
      intro F hF
      rw [← hts]
      refine paired_map κ backV out fun u hu => ?_
      rw [h1, e1] at hF
      exact paired_unmap κ backV its hF u (hmem u hu)
    have hlo : (out.map backV).length ≤ sizeLine := by rw [List.length_map, hst.perm.length_eq]; exact hlen
    exact ⟨.ref _, upd H (s.heap.objs.size + 1) (.lst (out.map backV)), I.laid (t' := s.toks) (fun _ _ => PyProof.Rows.sortedAll_old) (Nat.le_succ _) ⟨hlo, out, ep, vals_back hrefs, he'⟩, rfl, q _ _ hp (I.hok.fresh (Nat.le_succ _))⟩
end QQ

/-! QQ: a plain semantics (data by value, a store of live cells) over the hand layer. Part a: data, store, relation. -/
namespace QQ
open PySem L2

/-! ### what stands for what -/
section
variable (K : PySem.W.Frag) (mg : Str → Option Value)
mutual
inductive VD (B : Hp) (ρ : List Addr) : Dt → V → Prop
  | non : VD B ρ .non .non
  | bl (b : Bool) : VD B ρ (.bl b) (.bl b)
  | int (i : Int) : VD B ρ (.int i) (.int i)
  | str (x : Str) : VD B ρ (.str x) (.str x)
  | ty (n : String) : VD B ρ (.ty n) (.ty n)
  | glb {x : Str} {a : Addr} : mg x = some (.ref a) → VD B ρ (.glb x) (.ref a)
  | loc {l : Nat} {a : Addr} : ρ[l]? = some a → VD B ρ (.loc l) (.ref a)
  | tup {ds : List Dt} {a : Addr} {vs : List V} : SqT K B a vs → VDs B ρ ds vs → VD B ρ (.tup ds) (.ref a)
  | lst {ds : List Dt} {a : Addr} {vs : List V} : B a = some (.lst vs) → VDs B ρ ds vs → VD B ρ (.lst ds) (.ref a)
  | fls {ds : List Dt} {a : Addr} {vs : List V} : SqL K B a vs → VDs B ρ ds vs → VD B ρ (.fls ds) (.ref a)
  | dct {ds : List (Key × Dt)} {a : Addr} {kvs : List (Key × V)} : B a = some (.dK kvs) → VDp B ρ ds kvs → VD B ρ (.dct ds) (.ref a)
  | obj {c : Str} {ds : List (Str × Dt)} {a C dx : Addr} {fs : List (Str × V)} : mg c = some (.ref C) → B a = some (.ins C dx fs) → VDp B ρ ds fs → VD B ρ (.obj c ds) (.ref a)
inductive VDs (B : Hp) (ρ : List Addr) : List Dt → List V → Prop
  | nil : VDs B ρ [] []
  | cons {d : Dt} {v : V} {ds : List Dt} {vs : List V} : VD B ρ d v → VDs B ρ ds vs → VDs B ρ (d :: ds) (v :: vs)
inductive VDp (B : Hp) (ρ : List Addr) : {κ : Type} → List (κ × Dt) → List (κ × V) → Prop
  | nil {κ : Type} : VDp B ρ ([] : List (κ × Dt)) []
  | cons {κ : Type} {k : κ} {d : Dt} {v : V} {ds : List (κ × Dt)} {vs : List (κ × V)} : VD B ρ d v → VDp B ρ ds vs → VDp B ρ ((k, d) :: ds) ((k, v) :: vs)
end

structure Ext (B : Hp) (ρ : List Addr) (B' : Hp) (ρ' : List Addr) : Prop where
  b : ∀ a o, B a = some o → B' a = some o
  r : ρ <+: ρ'
variable {K mg}
theorem Ext.refl {B : Hp} {ρ : List Addr} : Ext B ρ B ρ := ⟨fun _ _ h => h, List.prefix_refl _⟩
theorem Ext.trans {B B1 B2 : Hp} {ρ ρ1 ρ2 : List Addr} (h : Ext B ρ B1 ρ1) (k : Ext B1 ρ1 B2 ρ2) : Ext B ρ B2 ρ2 := ⟨fun a o e => k.b a o (h.b a o e), h.r.trans k.r⟩
theorem pre_get {ρ ρ' : List Addr} (h : ρ <+: ρ') {l : Nat} {a : Addr} (e : ρ[l]? = some a) : ρ'[l]? = some a := by
  obtain ⟨t, rfl⟩ := h
  have hl : l < ρ.length := (List.getElem?_eq_some_iff.mp e).1
  rw [List.getElem?_append_left hl]
  exact e
theorem sqT_mono {B B' : Hp} (h : ∀ a o, B a = some o → B' a = some o) {a : Addr} {vs : List V} (e : SqT K B a vs) : SqT K B' a vs := Evl.ex_t h e
theorem sqL_mono {B B' : Hp} (h : ∀ a o, B a = some o → B' a = some o) {a : Addr} {vs : List V} (e : SqL K B a vs) : SqL K B' a vs := Evl.ex_l h e
theorem VD.ext {B B' : Hp} {ρ ρ' : List Addr} (x : Ext B ρ B' ρ') {d : Dt} {v : V} (h : VD K mg B ρ d v) : VD K mg B' ρ' d v :=
  VD.rec (motive_1 := fun d v _ => VD K mg B' ρ' d v) (motive_2 := fun ds vs _ => VDs K mg B' ρ' ds vs) (motive_3 := fun {κ} ds vs _ => VDp K mg B' ρ' ds vs)
    .non .bl .int .str .ty (fun e => .glb e) (fun e => .loc (pre_get x.r e)) (fun e _ r => .tup (sqT_mono x.b e) r) (fun e _ r => .lst (x.b _ _ e) r) (fun e _ r => .fls (sqL_mono x.b e) r)
    (fun e _ r => .dct (x.b _ _ e) r) (fun m e _ r => .obj m (x.b _ _ e) r) .nil (fun _ _ h t => .cons h t) .nil (fun _ _ h t => .cons h t) h
theorem VDs.ext {B B' : Hp} {ρ ρ' : List Addr} (x : Ext B ρ B' ρ') : ∀ {ds : List Dt} {vs : List V}, VDs K mg B ρ ds vs → VDs K mg B' ρ' ds vs
  | [], _, h => by cases h; exact .nil
  | d :: ds, _, h => by cases h with | cons e r => exact .cons (e.ext x) (VDs.ext x r)
theorem VDp.ext {κ : Type} {B B' : Hp} {ρ ρ' : List Addr} (x : Ext B ρ B' ρ') : ∀ {ds : List (κ × Dt)} {vs : List (κ × V)}, VDp K mg B ρ ds vs → VDp K mg B' ρ' ds vs
  | [], _, h => by cases h; exact .nil
  | (k, d) :: ds, _, h => by cases h with | cons e r => exact .cons (e.ext x) (VDp.ext x r)

theorem VDs.length {B : Hp} {ρ : List Addr} : ∀ {ds : List Dt} {vs : List V}, VDs K mg B ρ ds vs → ds.length = vs.length
  | [], _, h => by cases h; rfl
  | d :: ds, _, h => by cases h with | cons e r => rw [List.length_cons, List.length_cons, VDs.length r]
theorem VDs.get {B : Hp} {ρ : List Addr} : ∀ {ds : List Dt} {vs : List V} {i : Nat} {d : Dt}, VDs K mg B ρ ds vs → ds[i]? = some d → ∃ v, vs[i]? = some v ∧ VD K mg B ρ d v
  | [], _, _, _, _, e => by simp at e
  | _ :: _, _, 0, _, .cons h _, e => by simp at e; subst e; exact ⟨_, rfl, h⟩
  | _ :: _, _, i + 1, _, .cons _ t, e => by
    obtain ⟨v, h1, h2⟩ := VDs.get (i := i) t (by simpa using e)
    exact ⟨v, by simpa using h1, h2⟩
theorem VDs.append {B : Hp} {ρ : List Addr} : ∀ {ds es : List Dt} {vs us : List V}, VDs K mg B ρ ds vs → VDs K mg B ρ es us → VDs K mg B ρ (ds ++ es) (vs ++ us)
  | [], _, _, _, .nil, k => k
  | _ :: _, _, _, _, .cons h t, k => .cons h (VDs.append t k)
theorem VDs.take {B : Hp} {ρ : List Addr} : ∀ {ds : List Dt} {vs : List V} (n : Nat), VDs K mg B ρ ds vs → VDs K mg B ρ (ds.take n) (vs.take n)
  | _, _, 0, _ => .nil
  | [], _, _ + 1, .nil => .nil
  | _ :: _, _, n + 1, .cons h t => .cons h (VDs.take n t)
theorem VDs.drop {B : Hp} {ρ : List Addr} : ∀ {ds : List Dt} {vs : List V} (n : Nat), VDs K mg B ρ ds vs → VDs K mg B ρ (ds.drop n) (vs.drop n)
  | _, _, 0, h => h
  | [], _, _ + 1, .nil => .nil
  | _ :: _, _, n + 1, .cons _ t => VDs.drop n t
theorem VDs.set {B : Hp} {ρ : List Addr} {d : Dt} {v : V} (r : VD K mg B ρ d v) : ∀ {ds : List Dt} {vs : List V} (i : Nat), VDs K mg B ρ ds vs → VDs K mg B ρ (ds.set i d) (vs.set i v)
  | [], _, _, .nil => .nil
  | _ :: _, _, 0, .cons _ t => .cons r t
  | _ :: _, _, i + 1, .cons h t => .cons h (VDs.set r i t)
theorem VDs.dropLast {B : Hp} {ρ : List Addr} : ∀ {ds : List Dt} {vs : List V}, VDs K mg B ρ ds vs → VDs K mg B ρ ds.dropLast vs.dropLast
  | [], _, .nil => .nil
  | [_], _, .cons _ .nil => .nil
  | _ :: _ :: _, _, .cons h (.cons h2 t) => .cons h (VDs.dropLast (.cons h2 t))
theorem VDs.eraseIdx {B : Hp} {ρ : List Addr} : ∀ {ds : List Dt} {vs : List V} (i : Nat), VDs K mg B ρ ds vs → VDs K mg B ρ (ds.eraseIdx i) (vs.eraseIdx i)
  | [], _, _, .nil => .nil
  | _ :: _, _, 0, .cons _ t => t
  | _ :: _, _, i + 1, .cons h t => .cons h (VDs.eraseIdx i t)
theorem VDs.reverse {B : Hp} {ρ : List Addr} : ∀ {ds : List Dt} {vs : List V}, VDs K mg B ρ ds vs → VDs K mg B ρ ds.reverse vs.reverse
  | [], _, .nil => .nil
  | _ :: _, _, .cons h t => by rw [List.reverse_cons, List.reverse_cons]; exact (VDs.reverse t).append (.cons h .nil)
theorem VDs.one {B : Hp} {ρ : List Addr} {d : Dt} {v : V} (h : VD K mg B ρ d v) : VDs K mg B ρ [d] [v] := .cons h .nil
theorem VDp.length {κ : Type} {B : Hp} {ρ : List Addr} : ∀ {ds : List (κ × Dt)} {vs : List (κ × V)}, VDp K mg B ρ ds vs → ds.length = vs.length
  | [], _, h => by cases h; rfl
  | d :: ds, _, h => by cases h with | cons e r => rw [List.length_cons, List.length_cons, VDp.length r]

def isFz : HO → Bool
  | .frz _ _ => true
  | _ => false
def isDk : HO → Bool
  | .dK _ => true
  | .dT _ => true
  | _ => false
variable (K mg) in
def ObR (B : Hp) (ρ : List Addr) : Ob → HO → Prop
  | .lst ds, .lst vs => VDs K mg B ρ ds vs
  | .dct ds, .dK kvs => VDp K mg B ρ ds kvs
  | .obj c ds, .ins C _ fs => mg c = some (.ref C) ∧ VDp K mg B ρ ds fs
  | _, _ => False
variable (K mg) in
def CelOk (B : Hp) (ρ : List Addr) (H : Hp) (a : Addr) : Cel → Prop
  | .live o => ∃ u, H a = some u ∧ B a = none ∧ ObR K mg B ρ o u
  | .lock o => ∃ od u, H a = some (.frz od u) ∧ B a = none ∧ ObR K mg B ρ o u
  | .dead => H a ≠ none
/-- the data B and the private part p lie in the heap, the store's cells at ρ -/
structure RelS (K : PySem.W.Frag) (mg : Str → Option Value) (p B : Hp) (ρ : List Addr) (s : Mem) (H : Hp) : Prop where
  sub : ∀ a u, B a = some u → H a = some u ∨ (isDk u = true ∧ ∃ o, H a = some (.frz o u))
  len : ρ.length = s.length
  nd : ρ.Nodup
  cel : ∀ (l : Nat) (a : Addr) (c : Cel), ρ[l]? = some a → s[l]? = some c → CelOk K mg B ρ H a c
  prv : ∀ a o, p a = some o → H a = some o ∧ (isFz o = false → B a = none ∧ a ∉ ρ)
theorem ObR.ext {B B' : Hp} {ρ ρ' : List Addr} (x : Ext B ρ B' ρ') : ∀ {o : Ob} {u : HO}, ObR K mg B ρ o u → ObR K mg B' ρ' o u := by
  intro o u h
  cases o <;> cases u <;> simp only [ObR] at h ⊢ <;> first | exact h.ext x | exact ⟨h.1, h.2.ext x⟩
theorem RelS.sqT {p B H : Hp} {ρ : List Addr} {s : Mem} {a : Addr} {vs : List V} (R : RelS K mg p B ρ s H) (h : SqT K B a vs) : SqT K H a vs := by
  rcases h with h | h
  · rcases h with h | ⟨o, h⟩
    · rcases R.sub _ _ h with q | ⟨q, _⟩
      · exact .inl (.inl q)
      · cases q
    · rcases R.sub _ _ h with q | ⟨q, _⟩
      · exact .inl (.inr ⟨o, q⟩)
      · cases q
  · exact .inr h
theorem RelS.sqL {p B H : Hp} {ρ : List Addr} {s : Mem} {a : Addr} {vs : List V} (R : RelS K mg p B ρ s H) (h : SqL K B a vs) : SqL K H a vs := by
  rcases h with h | h
  · rcases h with h | ⟨o, h⟩
    · rcases R.sub _ _ h with q | ⟨q, _⟩
      · exact .inl (.inl q)
      · cases q
    · rcases R.sub _ _ h with q | ⟨q, _⟩
      · exact .inl (.inr ⟨o, q⟩)
      · cases q
  · exact .inr h
theorem RelS.lst {p B H : Hp} {ρ : List Addr} {s : Mem} {a : Addr} {vs : List V} (R : RelS K mg p B ρ s H) (h : B a = some (.lst vs)) : H a = some (.lst vs) := by
  rcases R.sub _ _ h with q | ⟨q, _⟩
  · exact q
  · cases q
theorem RelS.ins {p B H : Hp} {ρ : List Addr} {s : Mem} {a C dx : Addr} {fs : List (Str × V)} (R : RelS K mg p B ρ s H) (h : B a = some (.ins C dx fs)) : H a = some (.ins C dx fs) := by
  rcases R.sub _ _ h with q | ⟨q, _⟩
  · exact q
  · cases q
theorem RelS.dk {p B H : Hp} {ρ : List Addr} {s : Mem} {a : Addr} {kvs : List (Key × V)} (R : RelS K mg p B ρ s H) (h : B a = some (.dK kvs)) : Rd H a (.dK kvs) := by
  rcases R.sub _ _ h with q | ⟨_, o, q⟩
  · exact .inl q
  · exact .inr ⟨o, q⟩
theorem RelS.celH {p B H : Hp} {ρ : List Addr} {s : Mem} (R : RelS K mg p B ρ s H) {l : Nat} {a : Addr} (e : ρ[l]? = some a) : H a ≠ none := by
  have hl : l < ρ.length := (List.getElem?_eq_some_iff.mp e).1
  have hs : l < s.length := by rw [← R.len]; exact hl
  have c := R.cel l a _ e (List.getElem?_eq_getElem hs)
  intro z
  generalize s[l] = c' at c
  cases c' with
  | live o => obtain ⟨u, h, _⟩ := c; rw [z] at h; cases h
  | lock o => obtain ⟨od, u, h, _⟩ := c; rw [z] at h; cases h
  | dead => exact c z
theorem RelS.fresh {p B H : Hp} {ρ : List Addr} {s : Mem} (R : RelS K mg p B ρ s H) {q : Addr} (h : H q = none) : B q = none ∧ q ∉ ρ ∧ p q = none := by
  refine ⟨?_, fun hm => ?_, ?_⟩
  · cases e : B q with
    | none => rfl
    | some u =>
      rcases R.sub _ _ e with z | ⟨_, o, z⟩
      · rw [h] at z; cases z
      · rw [h] at z; cases z
  · obtain ⟨l, e⟩ := List.getElem?_of_mem hm
    exact R.celH e h
  · cases e : p q with
    | none => rfl
    | some o =>
      have z := (R.prv _ _ e).1
      rw [h] at z; cases z
/-- a heap that keeps all of H -/
theorem CelOk.keep {B B' H H' : Hp} {ρ ρ' : List Addr} {a : Addr} {c : Cel} (x : Ext B ρ B' ρ') (hk : H' a = H a) (hb : B a = none → B' a = none) (h : CelOk K mg B ρ H a c) : CelOk K mg B' ρ' H' a c := by
  cases c with
  | live o => obtain ⟨u, e, n, r⟩ := h; exact ⟨u, by rw [hk]; exact e, hb n, r.ext x⟩
  | lock o => obtain ⟨od, u, e, n, r⟩ := h; exact ⟨od, u, by rw [hk]; exact e, hb n, r.ext x⟩
  | dead => exact fun z => h (by rw [← hk]; exact z)
/-- a new datum -/
theorem RelS.newB {p B H : Hp} {ρ : List Addr} {s : Mem} (R : RelS K mg p B ρ s H) {q : Addr} (o : HO) (h : H q = none) : Ext B ρ (upd B q o) ρ ∧ RelS K mg p (upd B q o) ρ s (upd H q o) := by
  obtain ⟨hB, hρ, hp⟩ := R.fresh h
  have x : Ext B ρ (upd B q o) ρ := ⟨fun a u e => by rw [upd_ne (ne_of_none e hB)]; exact e, List.prefix_refl _⟩
  refine ⟨x, ⟨fun a u e => ?_, R.len, R.nd, fun l a c e1 e2 => ?_, fun a u e => ?_⟩⟩
  · by_cases ha : a = q
    · subst ha; rw [upd_same] at e; cases e; exact .inl upd_same
    · rw [upd_ne ha] at e
      rw [upd_ne ha]
      exact R.sub a u e
  · have ha : a ≠ q := fun z => hρ (z ▸ List.mem_of_getElem? e1)
    exact (R.cel l a c e1 e2).keep x (upd_ne ha) (fun n => by rw [upd_ne ha]; exact n)
  · obtain ⟨h1, h2⟩ := R.prv a u e
    have ha : a ≠ q := fun z => by subst z; rw [hp] at e; cases e
    exact ⟨by rw [upd_ne ha]; exact h1, fun z => ⟨by rw [upd_ne ha]; exact (h2 z).1, (h2 z).2⟩⟩
/-- a new private thing -/
theorem RelS.newP {p B H : Hp} {ρ : List Addr} {s : Mem} (R : RelS K mg p B ρ s H) {q : Addr} (o : HO) (h : H q = none) : RelS K mg (upd p q o) B ρ s (upd H q o) := by
  obtain ⟨hB, hρ, hp⟩ := R.fresh h
  refine ⟨fun a u e => ?_, R.len, R.nd, fun l a c e1 e2 => ?_, fun a u e => ?_⟩
  · have ha : a ≠ q := ne_of_none e hB
    rw [upd_ne ha]
    exact R.sub a u e
  · have ha : a ≠ q := fun z => hρ (z ▸ List.mem_of_getElem? e1)
    exact (R.cel l a c e1 e2).keep Ext.refl (upd_ne ha) (fun n => n)
  · by_cases ha : a = q
    · subst ha; rw [upd_same] at e; cases e; exact ⟨upd_same, fun _ => ⟨hB, hρ⟩⟩
    · rw [upd_ne ha] at e
      obtain ⟨h1, h2⟩ := R.prv a u e
      exact ⟨by rw [upd_ne ha]; exact h1, h2⟩
/-- a private thing changes -/
theorem RelS.setP {p B H : Hp} {ρ : List Addr} {s : Mem} (R : RelS K mg p B ρ s H) {q : Addr} {o' : HO} (o : HO) (h : p q = some o') (hz : isFz o' = false) : RelS K mg (upd p q o) B ρ s (upd H q o) := by
  obtain ⟨hH, hh⟩ := R.prv q o' h
  obtain ⟨hB, hρ⟩ := hh hz
  refine ⟨fun a u e => ?_, R.len, R.nd, fun l a c e1 e2 => ?_, fun a u e => ?_⟩
  · have ha : a ≠ q := ne_of_none e hB
    rw [upd_ne ha]
    exact R.sub a u e
  · have ha : a ≠ q := fun z => hρ (z ▸ List.mem_of_getElem? e1)
    exact (R.cel l a c e1 e2).keep Ext.refl (upd_ne ha) (fun n => n)
  · by_cases ha : a = q
    · subst ha; rw [upd_same] at e; cases e; exact ⟨upd_same, fun _ => ⟨hB, hρ⟩⟩
    · rw [upd_ne ha] at e
      obtain ⟨h1, h2⟩ := R.prv a u e
      exact ⟨by rw [upd_ne ha]; exact h1, h2⟩
/-- a private thing becomes a datum -/
theorem RelS.toB {p p' B H : Hp} {ρ : List Addr} {s : Mem} (R : RelS K mg p' B ρ s H) {q : Addr} {o : HO} (h : p' q = some o) (hz : isFz o = false) (hp : ∀ a u, p a = some u → p' a = some u ∧ a ≠ q) : Ext B ρ (upd B q o) ρ ∧ RelS K mg p (upd B q o) ρ s H := by
  obtain ⟨hH, hh⟩ := R.prv q o h
  obtain ⟨hB, hρ⟩ := hh hz
  have x : Ext B ρ (upd B q o) ρ := ⟨fun a u e => by rw [upd_ne (ne_of_none e hB)]; exact e, List.prefix_refl _⟩
  refine ⟨x, ⟨fun a u e => ?_, R.len, R.nd, fun l a c e1 e2 => ?_, fun a u e => ?_⟩⟩
  · by_cases ha : a = q
    · subst ha; rw [upd_same] at e; cases e; exact .inl hH
    · rw [upd_ne ha] at e
      exact R.sub a u e
  · have ha : a ≠ q := fun z => hρ (z ▸ List.mem_of_getElem? e1)
    exact (R.cel l a c e1 e2).keep x rfl (fun n => by rw [upd_ne ha]; exact n)
  · obtain ⟨e', ha⟩ := hp a u e
    obtain ⟨h1, h2⟩ := R.prv a u e'
    exact ⟨h1, fun z => ⟨by rw [upd_ne ha]; exact (h2 z).1, (h2 z).2⟩⟩
theorem RelS.lessP {p p' B H : Hp} {ρ : List Addr} {s : Mem} (R : RelS K mg p' B ρ s H) (hp : ∀ a u, p a = some u → p' a = some u) : RelS K mg p B ρ s H :=
  ⟨R.sub, R.len, R.nd, R.cel, fun a u e => R.prv a u (hp a u e)⟩
theorem nodup_snoc {ρ : List Addr} (h : ρ.Nodup) {q : Addr} (hq : q ∉ ρ) : (ρ ++ [q]).Nodup := by
  rw [List.nodup_append]
  refine ⟨h, by simp, ?_⟩
  intro a ha b hb
  simp at hb
  subst hb
  exact fun z => hq (z ▸ ha)
theorem ObR.nf {B : Hp} {ρ : List Addr} {o : Ob} {u : HO} (h : ObR K mg B ρ o u) : isFz u = false := by
  cases o <;> cases u <;> simp only [ObR] at h <;> rfl
/-- a private thing becomes a cell -/
theorem RelS.toC {p p' B H : Hp} {ρ : List Addr} {s : Mem} (R : RelS K mg p' B ρ s H) {q : Addr} {o : HO} {c : Ob} (h : p' q = some o) (hp : ∀ a u, p a = some u → p' a = some u ∧ a ≠ q) (r : ObR K mg B ρ c o) :
    Ext B ρ B (ρ ++ [q]) ∧ RelS K mg p B (ρ ++ [q]) (s ++ [.live c]) H := by
  obtain ⟨hH, hh⟩ := R.prv q o h
  obtain ⟨hB, hρ⟩ := hh r.nf
  have x : Ext B ρ B (ρ ++ [q]) := ⟨fun _ _ e => e, List.prefix_append _ _⟩
  refine ⟨x, ⟨R.sub, by simp [R.len], nodup_snoc R.nd hρ, fun l a c' e1 e2 => ?_, fun a u e => ?_⟩⟩
  · by_cases hl : l < ρ.length
    · rw [List.getElem?_append_left hl] at e1
      rw [List.getElem?_append_left (by rw [← R.len]; exact hl)] at e2
      exact (R.cel l a c' e1 e2).keep x rfl (fun n => n)
    · have hl' : l = ρ.length := by
        have := (List.getElem?_eq_some_iff.mp e1).1
        simp at this
        omega
      subst hl'
      simp at e1
      rw [R.len] at e2
      simp at e2
      subst e1 e2
      exact ⟨o, hH, hB, r.ext x⟩
  · obtain ⟨e', ha⟩ := hp a u e
    obtain ⟨h1, h2⟩ := R.prv a u e'
    refine ⟨h1, fun y => ⟨(h2 y).1, fun hm => ?_⟩⟩
    rcases List.mem_append.mp hm with z | z
    · exact (h2 y).2 z
    · simp at z; exact ha z
/-- a new cell -/
theorem RelS.newC {p B H : Hp} {ρ : List Addr} {s : Mem} (R : RelS K mg p B ρ s H) {q : Addr} {o : HO} {c : Ob} (h : H q = none) (r : ObR K mg B ρ c o) :
    Ext B ρ B (ρ ++ [q]) ∧ RelS K mg p B (ρ ++ [q]) (s ++ [.live c]) (upd H q o) := by
  have R' := R.newP o h
  refine R'.toC upd_same (fun a u e => ?_) r
  have ha : a ≠ q := fun z => by subst z; rw [(R.fresh h).2.2] at e; cases e
  exact ⟨by rw [upd_ne ha]; exact e, ha⟩
/-- a cell changes -/
theorem RelS.setC {p B H : Hp} {ρ : List Addr} {s : Mem} (R : RelS K mg p B ρ s H) {l : Nat} {a : Addr} {c' : Cel} {o : HO} (e1 : ρ[l]? = some a) (hB : B a = none) (hpa : p a = none) (r : CelOk K mg B ρ (upd H a o) a c') :
    RelS K mg p B ρ (s.set l c') (upd H a o) := by
  refine ⟨fun b u e => ?_, by simp [R.len], R.nd, fun l' b c2 e3 e4 => ?_, fun b u e => ?_⟩
  · have ha : b ≠ a := ne_of_none e hB
    rw [upd_ne ha]
    exact R.sub b u e
  · by_cases hl : l' = l
    · subst hl
      rw [e1] at e3
      cases e3
      have : l' < s.length := by rw [← R.len]; exact (List.getElem?_eq_some_iff.mp e1).1
      rw [List.getElem?_set_self this] at e4
      cases e4
      exact r
    · rw [List.getElem?_set_ne (Ne.symm hl)] at e4
      have hb : b ≠ a := fun z => by
        subst z
        have h1 := List.getElem?_eq_some_iff.mp e1
        have h2 := List.getElem?_eq_some_iff.mp e3
        obtain ⟨i1, q1⟩ := h1
        obtain ⟨i2, q2⟩ := h2
        exact hl ((List.getElem_inj R.nd).mp (q2.trans q1.symm))
      exact (R.cel l' b c2 e3 e4).keep Ext.refl (upd_ne hb) (fun n => n)
  · obtain ⟨h1, h2⟩ := R.prv b u e
    have ha : b ≠ a := fun z => by subst z; rw [hpa] at e; cases e
    exact ⟨by rw [upd_ne ha]; exact h1, h2⟩
/-- a live cell's place is not private -/
theorem RelS.liveP {p B H : Hp} {ρ : List Addr} {s : Mem} (R : RelS K mg p B ρ s H) {l : Nat} {a : Addr} {u : HO} (e1 : ρ[l]? = some a) (hH : H a = some u) (hz : isFz u = false) : p a = none := by
  cases q : p a with
  | none => rfl
  | some o =>
    obtain ⟨h1, h2⟩ := R.prv a o q
    rw [hH] at h1
    cases h1
    exact absurd (List.mem_of_getElem? e1) (h2 hz).2
/-- a cell becomes a datum -/
theorem RelS.freeze {p B H : Hp} {ρ : List Addr} {s : Mem} (R : RelS K mg p B ρ s H) {l : Nat} {a : Addr} {o : HO} (e1 : ρ[l]? = some a) (hB : B a = none) (hH : H a = some o) (hz : isFz o = false) :
    Ext B ρ (upd B a o) ρ ∧ RelS K mg p (upd B a o) ρ (s.set l .dead) H := by
  have x : Ext B ρ (upd B a o) ρ := ⟨fun b u e => by rw [upd_ne (ne_of_none e hB)]; exact e, List.prefix_refl _⟩
  refine ⟨x, ⟨fun b u e => ?_, by simp [R.len], R.nd, fun l' b c2 e3 e4 => ?_, fun b u e => ?_⟩⟩
  · by_cases hb : b = a
    · subst hb; rw [upd_same] at e; cases e; exact .inl hH
    · rw [upd_ne hb] at e
      exact R.sub b u e
  · by_cases hl : l' = l
    · subst hl
      rw [e1] at e3
      cases e3
      have : l' < s.length := by rw [← R.len]; exact (List.getElem?_eq_some_iff.mp e1).1
      rw [List.getElem?_set_self this] at e4
      cases e4
      exact fun z => by rw [hH] at z; cases z
    · rw [List.getElem?_set_ne (Ne.symm hl)] at e4
      have hb : b ≠ a := fun z => by
        subst z
        obtain ⟨i1, q1⟩ := List.getElem?_eq_some_iff.mp e1
        obtain ⟨i2, q2⟩ := List.getElem?_eq_some_iff.mp e3
        exact hl ((List.getElem_inj R.nd).mp (q2.trans q1.symm))
      exact (R.cel l' b c2 e3 e4).keep x rfl (fun n => by rw [upd_ne hb]; exact n)
  · obtain ⟨h1, h2⟩ := R.prv b u e
    have ha : b ≠ a := fun z => by subst z; rw [R.liveP e1 hH hz] at e; cases e
    exact ⟨h1, fun z => ⟨by rw [upd_ne ha]; exact (h2 z).1, (h2 z).2⟩⟩

/-! ### frames, what is wanted of a run -/
variable (K mg) in
structure FrR (B : Hp) (ρ : List Addr) (φ : Fra) (σ : L2.St) : Prop where
  len : φ.length = σ.length
  get : ∀ (i : Nat) (d : Dt), φ[i]? = some (some d) → ∃ v, σ[i]? = some (some v) ∧ VD K mg B ρ d v
theorem FrR.ext {B B' : Hp} {ρ ρ' : List Addr} {φ : Fra} {σ : L2.St} (h : FrR K mg B ρ φ σ) (x : Ext B ρ B' ρ') : FrR K mg B' ρ' φ σ :=
  ⟨h.len, fun i d e => let ⟨v, q, r⟩ := h.get i d e; ⟨v, q, r.ext x⟩⟩
theorem FrR.set {B : Hp} {ρ : List Addr} {φ : Fra} {σ : L2.St} (h : FrR K mg B ρ φ σ) {d : Dt} {v : V} (i : Nat) (r : VD K mg B ρ d v) : FrR K mg B ρ (φ.set i (some d)) (σ.set i (some v)) := by
  refine ⟨by simp [h.len], fun j e q => ?_⟩
  by_cases hj : i = j
  · subst hj
    have hi : i < φ.length := by have := (List.getElem?_eq_some_iff.mp q).1; simpa using this
    rw [List.getElem?_set_self hi] at q
    cases q
    exact ⟨v, List.getElem?_set_self (by rw [← h.len]; exact hi), r⟩
  · rw [List.getElem?_set_ne hj] at q
    rw [List.getElem?_set_ne hj]
    exact h.get j e q
theorem FrR.unset {B : Hp} {ρ : List Addr} {φ : Fra} {σ : L2.St} (h : FrR K mg B ρ φ σ) (i : Nat) : FrR K mg B ρ (φ.set i none) (σ.set i none) := by
  refine ⟨by simp [h.len], fun j e q => ?_⟩
  by_cases hj : i = j
  · subst hj
    have hi : i < φ.length := by have := (List.getElem?_eq_some_iff.mp q).1; simpa using this
    rw [List.getElem?_set_self hi] at q
    cases q
  · rw [List.getElem?_set_ne hj] at q
    rw [List.getElem?_set_ne hj]
    exact h.get j e q
theorem FrR.wipe {B : Hp} {ρ : List Addr} {φ : Fra} {σ : L2.St} (h : FrR K mg B ρ φ σ) : ∀ vs : List Nat, FrR K mg B ρ (wipeD φ vs) (L2.wipe σ vs)
  | [] => h
  | v :: vs => (h.wipe vs).unset v

abbrev WX := Value → Option Addr → L2.St → Hp → Prop
variable (K mg) in
/-- an exception as it lies -/
def ExR (B : Hp) (ρ : List Addr) (H : Hp) (fs : List (Str × Dt)) : Option Addr → Prop
  | none => fs = []
  | some d => ∃ vs, H d = some (.xd vs) ∧ VDp K mg B ρ fs vs
variable (K mg) in
def WR {α β : Type} (W : WX) (σ : L2.St) (p B : Hp) (ρ : List Addr) (r : Res α) (V' : Hp → List Addr → α → β → Prop) (Q : β → Hp → Prop) : Prop :=
  match r with
  | .ok a s' => ∀ B' ρ' H' b, Ext B ρ B' ρ' → RelS K mg p B' ρ' s' H' → V' B' ρ' a b → Q b H'
  | .ex c fs s' => ∀ B' ρ' H' C o, Ext B ρ B' ρ' → RelS K mg p B' ρ' s' H' → mg c = some (.ref C) → ExR K mg B' ρ' H' fs o → W (.ref C) o σ H'
  | .no => False
abbrev WE (K : PySem.W.Frag) (mg : Str → Option Value) (W : WX) (σ : L2.St) (p B : Hp) (ρ : List Addr) (r : Res Dt) (Q : VK) : Prop := WR K mg W σ p B ρ r (VD K mg) Q
theorem WR.mono {α β : Type} {W : WX} {σ : L2.St} {p B : Hp} {ρ : List Addr} {r : Res α} {V' : Hp → List Addr → α → β → Prop} {Q Q' : β → Hp → Prop} (h : WR K mg W σ p B ρ r V' Q) (hq : ∀ b H, Q b H → Q' b H) : WR K mg W σ p B ρ r V' Q' := by
  cases r with
  | ok a s' => exact fun B' ρ' H' b x r v => hq _ _ (h B' ρ' H' b x r v)
  | ex c fs s' => exact h
  | no => exact h
theorem WR.ext {α β : Type} {W : WX} {σ : L2.St} {p B B1 : Hp} {ρ ρ1 : List Addr} {r : Res α} {V' : Hp → List Addr → α → β → Prop} {Q : β → Hp → Prop} (h : WR K mg W σ p B ρ r V' Q) (x : Ext B ρ B1 ρ1) : WR K mg W σ p B1 ρ1 r V' Q := by
  cases r with
  | ok a s' => exact fun B' ρ' H' b y r v => h B' ρ' H' b (x.trans y) r v
  | ex c fs s' => exact fun B' ρ' H' C o y r m e => h B' ρ' H' C o (x.trans y) r m e
  | no => exact h
theorem WR.bind {α γ β δ : Type} {W : WX} {σ : L2.St} {p B : Hp} {ρ : List Addr} {m : M α} {k : α → M γ} {s : Mem} {V' : Hp → List Addr → γ → δ → Prop} {V1 : Hp → List Addr → α → β → Prop} {Q : δ → Hp → Prop}
    (h : WR K mg W σ p B ρ ((m >>= k) s) V' Q) : WR K mg W σ p B ρ (m s) V1 (fun v H' => ∃ B' ρ' s' d, Ext B ρ B' ρ' ∧ RelS K mg p B' ρ' s' H' ∧ V1 B' ρ' d v ∧ WR K mg W σ p B' ρ' (k d s') V' Q) := by
  rw [bind_run] at h
  cases e : m s with
  | ok a s' =>
    rw [e] at h
    exact fun B' ρ' H' b x r v => ⟨B', ρ', s', a, x, r, v, h.ext x⟩
  | ex c fs s' => rw [e] at h; exact h
  | no => rw [e] at h; exact h
/-- an expression's reading by its run -/
def T (K : PySem.W.Frag) (mg : Str → Option Value) (W : WX) (f : Fra → M Dt) : TE := fun σ H Q => ∃ p B ρ φ s, RelS K mg p B ρ s H ∧ FrR K mg B ρ φ σ ∧ WE K mg W σ p B ρ (f φ s) Q
def TL (K : PySem.W.Frag) (mg : Str → Option Value) (W : WX) (f : Fra → M (List Dt)) : TA := fun σ H Q => ∃ p B ρ φ s, RelS K mg p B ρ s H ∧ FrR K mg B ρ φ σ ∧ WR K mg W σ p B ρ (f φ s) (VDs K mg) Q
def TB (K : PySem.W.Frag) (mg : Str → Option Value) (W : WX) (f : Fra → M Bool) : TT := fun σ H Q => ∃ p B ρ φ s, RelS K mg p B ρ s H ∧ FrR K mg B ρ φ σ ∧ WR K mg W σ p B ρ (f φ s) (fun _ _ a b => a = b) Q
end
end QQ

/-! QQ, part b: the operations by values are what the hand layer's rules say. -/
namespace QQ
open PySem L2
section
variable {K : PySem.W.Frag} {mg : Str → Option Value} {p B H : Hp} {ρ : List Addr} {s : Mem}
/-- what is wanted of an operation that raises nothing -/
def WO (K : PySem.W.Frag) (mg : Str → Option Value) {α β : Type} (p B : Hp) (ρ : List Addr) (r : Option (α × Mem)) (V' : Hp → List Addr → α → β → Prop) (Q : β → Hp → Prop) : Prop :=
  match r with
  | some (a, s') => ∀ B' ρ' H' b, Ext B ρ B' ρ' → RelS K mg p B' ρ' s' H' → V' B' ρ' a b → Q b H'
  | none => False
theorem WR.lift {α β : Type} {W : WX} {σ : L2.St} {g : Op1 α} {V' : Hp → List Addr → α → β → Prop} {Q : β → Hp → Prop} (h : WR K mg W σ p B ρ (lift g s) V' Q) : WO K mg p B ρ (g s) V' Q := by
  unfold QQ.lift at h
  unfold WO
  cases e : g s with
  | none => rw [e] at h; exact h
  | some r => rw [e] at h; obtain ⟨a, s'⟩ := r; exact h
theorem WR.rd {α β : Type} {W : WX} {σ : L2.St} {g : Mem → Option α} {V' : Hp → List Addr → α → β → Prop} {Q : β → Hp → Prop} (h : WR K mg W σ p B ρ (rd g s) V' Q) :
    ∃ a, g s = some a ∧ ∀ B' ρ' H' b, Ext B ρ B' ρ' → RelS K mg p B' ρ' s H' → V' B' ρ' a b → Q b H' := by
  unfold QQ.rd at h
  cases e : g s with
  | none => rw [e] at h; exact h.elim
  | some r => rw [e] at h; exact ⟨r, rfl, h⟩
theorem WR.rdb {α β γ : Type} {W : WX} {σ : L2.St} {g : Mem → Option γ} {k : γ → M α} {V' : Hp → List Addr → α → β → Prop} {Q : β → Hp → Prop} (h : WR K mg W σ p B ρ ((QQ.rd g >>= k) s) V' Q) :
    ∃ a, g s = some a ∧ WR K mg W σ p B ρ (k a s) V' Q := by
  rw [bind_run, rd_run] at h
  cases e : g s with
  | none => rw [e] at h; exact h.elim
  | some r => rw [e] at h; exact ⟨r, rfl, h⟩
theorem WR.ofO {α β γ : Type} {W : WX} {σ : L2.St} {o : Option γ} {k : γ → M α} {V' : Hp → List Addr → α → β → Prop} {Q : β → Hp → Prop} (h : WR K mg W σ p B ρ ((QQ.ofO o >>= k) s) V' Q) :
    ∃ a, o = some a ∧ WR K mg W σ p B ρ (k a s) V' Q := by
  cases o with
  | none => exact h.elim
  | some r => exact ⟨r, rfl, h⟩
theorem WO.bind {α β γ : Type} {o : Option γ} {f : γ → Option (α × Mem)} {V' : Hp → List Addr → α → β → Prop} {Q : β → Hp → Prop} (h : WO K mg p B ρ (o.bind f) V' Q) : ∃ a, o = some a ∧ WO K mg p B ρ (f a) V' Q := by
  cases o with
  | none => exact h.elim
  | some r => exact ⟨r, rfl, h⟩
theorem WO.map {α β γ : Type} {o : Option γ} {f : γ → α × Mem} {V' : Hp → List Addr → α → β → Prop} {Q : β → Hp → Prop} (h : WO K mg p B ρ (o.map f) V' Q) : ∃ a, o = some a ∧ WO K mg p B ρ (some (f a)) V' Q := by
  cases o with
  | none => exact h.elim
  | some r => exact ⟨r, rfl, h⟩
/-- the same store -/
theorem WO.here {α β : Type} {a : α} {b : β} {V' : Hp → List Addr → α → β → Prop} {Q : β → Hp → Prop} (h : WO K mg p B ρ (some (a, s)) V' Q) (R : RelS K mg p B ρ s H) (v : V' B ρ a b) : Q b H := h B ρ H b Ext.refl R v

theorem items_ok {x : Dt} {v : V} {xs : List Dt} (R : RelS K mg p B ρ s H) (r : VD K mg B ρ x v) (e : items s x = some xs) :
    ∃ a vs, v = .ref a ∧ SqL K H a vs ∧ VDs K mg B ρ xs vs ∧ ((∀ ys, x ≠ .fls ys) → H a = some (.lst vs)) := by
  cases r with
  | lst h1 h2 =>
    cases e
    exact ⟨_, _, rfl, Evl.sq_of (R.lst h1), h2, fun _ => R.lst h1⟩
  | fls h1 h2 =>
    cases e
    exact ⟨_, _, rfl, R.sqL h1, h2, fun z => (z _ rfl).elim⟩
  | @loc l a h1 =>
    have hl : l < s.length := by rw [← R.len]; exact (List.getElem?_eq_some_iff.mp h1).1
    have hc := R.cel l a _ h1 (List.getElem?_eq_getElem hl)
    simp only [items] at e
    rw [List.getElem?_eq_getElem hl] at e
    generalize s[l] = c at e hc
    cases c with
    | live o =>
      cases o with
      | lst ys =>
        cases e
        obtain ⟨u, hu, _, q⟩ := hc
        cases u <;> simp only [ObR] at q
        exact ⟨_, _, rfl, Evl.sq_of hu, q, fun _ => hu⟩
      | dct ys => cases e
      | obj c fs => cases e
    | lock o => cases e
    | dead => cases e
  | _ => cases e
theorem itemsT_ok {x : Dt} {v : V} {xs : List Dt} (R : RelS K mg p B ρ s H) (r : VD K mg B ρ x v) (e : itemsT x = some xs) : ∃ a vs, v = .ref a ∧ SqT K H a vs ∧ VDs K mg B ρ xs vs := by
  cases r with
  | tup h1 h2 =>
    cases e
    exact ⟨_, _, rfl, R.sqT h1, h2⟩
  | _ => cases e
theorem itemsA_ok {x : Dt} {v : V} {xs : List Dt} (R : RelS K mg p B ρ s H) (r : VD K mg B ρ x v) (e : itemsA s x = some xs) : ∃ a vs, v = .ref a ∧ (SqL K H a vs ∨ SqT K H a vs) ∧ VDs K mg B ρ xs vs := by
  cases x with
  | tup ys =>
    obtain ⟨a, vs, h1, h2, h3⟩ := itemsT_ok R r e
    exact ⟨a, vs, h1, .inr h2, h3⟩
  | _ =>
    obtain ⟨a, vs, h1, h2, h3, _⟩ := items_ok R r e
    exact ⟨a, vs, h1, .inl h2, h3⟩
theorem pairs_ok {x : Dt} {v : V} {kvs : List (Key × Dt)} (R : RelS K mg p B ρ s H) (r : VD K mg B ρ x v) (e : pairsOf s x = some kvs) : ∃ a ks, v = .ref a ∧ Rd H a (.dK ks) ∧ VDp K mg B ρ kvs ks := by
  cases r with
  | dct h1 h2 =>
    cases e
    exact ⟨_, _, rfl, R.dk h1, h2⟩
  | @loc l a h1 =>
    have hl : l < s.length := by rw [← R.len]; exact (List.getElem?_eq_some_iff.mp h1).1
    have hc := R.cel l a _ h1 (List.getElem?_eq_getElem hl)
    simp only [pairsOf] at e
    rw [List.getElem?_eq_getElem hl] at e
    generalize s[l] = c at e hc
    cases c with
    | live o =>
      cases o with
      | dct ys =>
        cases e
        obtain ⟨u, hu, _, q⟩ := hc
        cases u <;> simp only [ObR] at q
        exact ⟨_, _, rfl, .inl hu, q⟩
      | lst ys => cases e
      | obj c fs => cases e
    | lock o =>
      cases o with
      | dct ys =>
        cases e
        obtain ⟨od, u, hu, _, q⟩ := hc
        cases u <;> simp only [ObR] at q
        exact ⟨_, _, rfl, .inr ⟨od, hu⟩, q⟩
      | lst ys => cases e
      | obj c fs => cases e
    | dead => cases e
  | _ => cases e
theorem cell_at {l : Nat} {a : Addr} {c : Cel} (R : RelS K mg p B ρ s H) (h : ρ[l]? = some a) (e : s[l]? = some c) : CelOk K mg B ρ H a c := R.cel l a c h e
theorem fields_ok {x : Dt} {v : V} {c : Str} {fs : List (Str × Dt)} (R : RelS K mg p B ρ s H) (r : VD K mg B ρ x v) (e : fieldsOf s x = some (c, fs)) : ∃ a C dx vs, v = .ref a ∧ mg c = some (.ref C) ∧ H a = some (.ins C dx vs) ∧ VDp K mg B ρ fs vs := by
  cases r with
  | obj h1 h2 h3 =>
    cases e
    exact ⟨_, _, _, _, rfl, h1, R.ins h2, h3⟩
  | @loc l a h1 =>
    simp only [fieldsOf] at e
    cases q : s[l]? with
    | none => rw [q] at e; cases e
    | some cc =>
      rw [q] at e
      have hc := R.cel l a _ h1 q
      cases cc with
      | live o =>
        cases o with
        | obj c' fs' =>
          cases e
          obtain ⟨u, hu, _, q⟩ := hc
          cases u <;> simp only [ObR] at q
          obtain ⟨q1, q2⟩ := q
          exact ⟨_, _, _, _, rfl, q1, hu, q2⟩
        | dct ys => cases e
        | lst ys => cases e
      | lock o => cases o <;> cases e
      | dead => cases e
  | _ => cases e
theorem VDp.lookup {c : Str} : ∀ {ds : List (Str × Dt)} {vs : List (Str × V)} {d : Dt}, VDp K mg B ρ ds vs → ds.lookup c = some d → ∃ v, vs.lookup c = some v ∧ VD K mg B ρ d v
  | [], _, _, _, e => by cases e
  | (k, d') :: ds, _, d, h, e => by
    cases h with
    | cons h t =>
      rw [List.lookup_cons] at e ⊢
      split at e
      · cases e; exact ⟨_, rfl, h⟩
      · exact VDp.lookup t e
theorem VDp.lookup_none {c : Str} : ∀ {ds : List (Str × Dt)} {vs : List (Str × V)}, VDp K mg B ρ ds vs → ds.lookup c = none → vs.lookup c = none
  | [], _, h, _ => by cases h; rfl
  | (k, d') :: ds, _, h, e => by
    cases h with
    | cons h t =>
      rw [List.lookup_cons] at e ⊢
      split at e
      · cases e
      · exact VDp.lookup_none t e
section
variable {κ : Type} [DecidableEq κ]
theorem VDp.get {k : κ} : ∀ {ds : List (κ × Dt)} {vs : List (κ × V)}, VDp K mg B ρ ds vs → (kGet ds k = none ∧ valV vs k = none) ∨ ∃ d v, kGet ds k = some d ∧ valV vs k = some v ∧ VD K mg B ρ d v
  | [], _, h => by cases h; exact .inl ⟨rfl, rfl⟩
  | (k', d') :: ds, _, h => by
    cases h with
    | cons h t =>
      unfold kGet valV
      rw [List.find?_cons, List.find?_cons]
      by_cases e : k' = k
      · rw [decide_eq_true e]
        exact .inr ⟨_, _, rfl, rfl, h⟩
      · rw [decide_eq_false e]
        exact VDp.get t
theorem VDp.any {k : κ} : ∀ {ds : List (κ × Dt)} {vs : List (κ × V)}, VDp K mg B ρ ds vs → (ds.any fun kv => decide (kv.1 = k)) = (vs.any fun kv => decide (kv.1 = k))
  | [], _, h => by cases h; rfl
  | (k', d') :: ds, _, h => by
    cases h with
    | cons h t => rw [List.any_cons, List.any_cons, VDp.any t]
theorem VDp.append : ∀ {ds es : List (κ × Dt)} {vs us : List (κ × V)}, VDp K mg B ρ ds vs → VDp K mg B ρ es us → VDp K mg B ρ (ds ++ es) (vs ++ us)
  | [], _, _, _, h, k => by cases h; exact k
  | (_, _) :: _, _, _, _, h, k => by cases h with | cons h t => exact .cons h (VDp.append t k)
theorem VDp.put {k : κ} {d : Dt} {v : V} {ds : List (κ × Dt)} {vs : List (κ × V)} (h : VDp K mg B ρ ds vs) (r : VD K mg B ρ d v) : VDp K mg B ρ (kPut ds k d) (putK vs k v) := by
  have all : ∀ {ds : List (κ × Dt)} {vs : List (κ × V)}, VDp K mg B ρ ds vs → VDp K mg B ρ (ds.map fun kv => if kv.1 = k then (kv.1, d) else kv) (vs.map fun kv => if kv.1 = k then (kv.1, v) else kv) := by
    intro ds
    induction ds with
    | nil => intro vs h; cases h; exact .nil
    | cons x xs ih =>
      intro vs h
      cases h with
      | @cons _ k' d' v' _ _ h t =>
        rw [List.map_cons, List.map_cons]
        by_cases e : k' = k
        · simp only [e, if_true]
          exact .cons r (ih t)
        · simp only [e, if_false]
          exact .cons h (ih t)
  unfold kPut putK
  rw [h.any]
  split
  · exact all h
  · exact h.append (.cons r .nil)
theorem VDp.kdrop {k : κ} : ∀ {ds : List (κ × Dt)} {vs : List (κ × V)}, VDp K mg B ρ ds vs → VDp K mg B ρ (kDrop ds k) (dropK vs k)
  | [], _, h => by cases h; exact .nil
  | (k', d') :: ds, _, h => by
    cases h with
    | cons h t =>
      unfold kDrop dropK
      rw [List.filter_cons, List.filter_cons]
      split
      · exact .cons h (VDp.kdrop t)
      · exact VDp.kdrop t
end
theorem VDp.merge : ∀ {more : List (Key × Dt)} {ms : List (Key × V)} {ds : List (Key × Dt)} {vs : List (Key × V)}, VDp K mg B ρ more ms → VDp K mg B ρ ds vs → VDp K mg B ρ (kMerge ds more) (mergeK vs ms)
  | [], _, _, _, h, k => by cases h; exact k
  | (x, d) :: more, _, ds, vs, h, k => by
    cases h with
    | @cons _ _ _ v _ ms h t =>
      show VDp K mg B ρ (kMerge (kPut ds x d) more) (mergeK (putK vs x v) ms)
      exact VDp.merge t (k.put h)
theorem keyD_ok {x : Dt} {v : V} {k : Key} (r : VD K mg B ρ x v) (e : keyD x = some k) : v = kV k := by
  cases r <;> cases e <;> rfl
theorem dKey_ok (k : Key) : VD K mg B ρ (dKey k) (kV k) := by
  cases k with
  | inl i => exact .int i
  | inr x => exact .str x

/-! ### making -/
theorem mkL_ok {own : Bool} {xs : List Dt} {vs : List V} {Q : VK} (R : RelS K mg p B ρ s H) (r : VDs K mg B ρ xs vs) (h : WO K mg p B ρ (mkL own xs s) (VD K mg) Q) :
    vs.length ≤ sizeLine ∧ ∀ q, H q = none → Q (.ref q) (upd H q (.lst vs)) := by
  unfold mkL at h
  by_cases hl : xs.length ≤ sizeLine
  · rw [if_pos hl] at h
    refine ⟨by rw [← r.length]; exact hl, fun q hq => ?_⟩
    cases own with
    | true =>
      obtain ⟨x, R'⟩ := R.newC (c := .lst xs) (o := .lst vs) hq r
      refine h B (ρ ++ [q]) _ _ x R' (.loc ?_)
      show (ρ ++ [q])[s.length]? = some q
      rw [← R.len]
      simp
    | false =>
      obtain ⟨x, R'⟩ := R.newB (.lst vs) hq
      exact h _ ρ _ _ x R' (.lst upd_same (r.ext x))
  · rw [if_neg hl] at h; exact h.elim
/-- .. of a list that lies there, private -/
theorem mkL_at {own : Bool} {xs : List Dt} {vs : List V} {Q : VK} {q : Addr} {p' : Hp} (R : RelS K mg p' B ρ s H) (hq : p' q = some (.lst vs)) (hp : ∀ a u, p a = some u → p' a = some u ∧ a ≠ q) (r : VDs K mg B ρ xs vs)
    (h : WO K mg p B ρ (mkL own xs s) (VD K mg) Q) : Q (.ref q) H := by
  unfold mkL at h
  by_cases hl : xs.length ≤ sizeLine
  · rw [if_pos hl] at h
    cases own with
    | true =>
      obtain ⟨x, R'⟩ := R.toC (c := .lst xs) (o := .lst vs) hq hp r
      refine h B (ρ ++ [q]) _ _ x R' (.loc ?_)
      show (ρ ++ [q])[s.length]? = some q
      rw [← R.len]
      simp
    | false =>
      obtain ⟨x, R'⟩ := R.toB hq rfl hp
      exact h _ ρ _ _ x R' (.lst upd_same (r.ext x))
  · rw [if_neg hl] at h; exact h.elim
theorem mkL_len {own : Bool} {xs : List Dt} {Q : VK} (h : WO K mg p B ρ (mkL own xs s) (VD K mg) Q) : xs.length ≤ sizeLine := by
  unfold mkL at h
  by_cases hl : xs.length ≤ sizeLine
  · exact hl
  · rw [if_neg hl] at h; exact h.elim
theorem mkD_ok {own : Bool} {xs : List (Key × Dt)} {vs : List (Key × V)} {Q : VK} (R : RelS K mg p B ρ s H) (r : VDp K mg B ρ xs vs) (h : WO K mg p B ρ (mkD own xs s) (VD K mg) Q) :
    vs.length ≤ sizeLine ∧ ∀ q, H q = none → Q (.ref q) (upd H q (.dK vs)) := by
  unfold mkD at h
  by_cases hl : xs.length ≤ sizeLine
  · rw [if_pos hl] at h
    refine ⟨by rw [← r.length]; exact hl, fun q hq => ?_⟩
    cases own with
    | true =>
      obtain ⟨x, R'⟩ := R.newC (c := .dct xs) (o := .dK vs) hq r
      refine h B (ρ ++ [q]) _ _ x R' (.loc ?_)
      show (ρ ++ [q])[s.length]? = some q
      rw [← R.len]
      simp
    | false =>
      obtain ⟨x, R'⟩ := R.newB (.dK vs) hq
      exact h _ ρ _ _ x R' (.dct upd_same (r.ext x))
  · rw [if_neg hl] at h; exact h.elim
theorem mkT_ok {xs : List Dt} {vs : List V} {Q : VK} (R : RelS K mg p B ρ s H) (r : VDs K mg B ρ xs vs) (h : WO K mg p B ρ (mkT xs s) (VD K mg) Q) :
    vs.length ≤ sizeLine ∧ ∀ q, H q = none → Q (.ref q) (upd H q (.tup vs)) := by
  unfold mkT at h
  by_cases hl : xs.length ≤ sizeLine
  · rw [if_pos hl] at h
    refine ⟨by rw [← r.length]; exact hl, fun q hq => ?_⟩
    obtain ⟨x, R'⟩ := R.newB (.tup vs) hq
    exact h _ ρ _ _ x R' (.tup (Evl.st_of upd_same) (r.ext x))
  · rw [if_neg hl] at h; exact h.elim
end
end QQ

namespace QQ
open PySem L2
section
variable {K : PySem.W.Frag} {mg : Str → Option Value} {p B H : Hp} {ρ : List Addr} {s : Mem}
/-! ### data for == -/
mutual
theorem py_ok (R : RelS K mg p B ρ s H) : ∀ (x : Dt) (v : V) (d : PyData), VD K mg B ρ x v → py x = some d → Dp K H v d
  | .non, _, _, r, e => by cases r; simp only [py] at e; cases e; exact .non
  | .bl _, _, _, r, e => by cases r; simp only [py] at e; cases e; exact .bl _
  | .int _, _, _, r, e => by cases r; simp only [py] at e; cases e; exact .int _
  | .str _, _, _, r, e => by cases r; simp only [py] at e; cases e; exact .str _
  | .tup xs, _, _, r, e => by
    cases r with
    | tup h1 h2 =>
      simp only [py] at e
      cases q : pys xs with
      | none => rw [q] at e; cases e
      | some ds => rw [q] at e; cases e; exact .tup (R.sqT h1) (pys_ok R xs _ _ h2 q)
  | .lst xs, _, _, r, e => by
    cases r with
    | lst h1 h2 =>
      simp only [py] at e
      cases q : pys xs with
      | none => rw [q] at e; cases e
      | some ds => rw [q] at e; cases e; exact .lst (Evl.sq_of (R.lst h1)) (pys_ok R xs _ _ h2 q)
  | .fls xs, _, _, r, e => by
    cases r with
    | fls h1 h2 =>
      simp only [py] at e
      cases q : pys xs with
      | none => rw [q] at e; cases e
      | some ds => rw [q] at e; cases e; exact .lst (R.sqL h1) (pys_ok R xs _ _ h2 q)
  | .ty _, _, _, _, e => by simp only [py] at e; cases e
  | .glb _, _, _, _, e => by simp only [py] at e; cases e
  | .loc _, _, _, _, e => by simp only [py] at e; cases e
  | .dct _, _, _, _, e => by simp only [py] at e; cases e
  | .obj _ _, _, _, _, e => by simp only [py] at e; cases e
theorem pys_ok (R : RelS K mg p B ρ s H) : ∀ (xs : List Dt) (vs : List V) (ds : List PyData), VDs K mg B ρ xs vs → pys xs = some ds → DpAll K H vs ds
  | [], _, _, r, e => by cases r; simp only [pys] at e; cases e; exact .nil
  | x :: xs, _, _, r, e => by
    cases r with
    | cons h t =>
      simp only [pys] at e
      cases q : py x with
      | none => rw [q] at e; cases e
      | some d =>
        rw [q] at e
        cases q2 : pys xs with
        | none => rw [q2] at e; cases e
        | some ds => rw [q2] at e; cases e; exact .cons (py_ok R x _ _ h q) (pys_ok R xs _ _ t q2)
end
theorem loc_ok (R : RelS K mg p B ρ s H) {l : Nat} {v : V} {d : PyData} (r : VD K mg B ρ (.loc l) v) (e : ((items s (.loc l)).bind fun xs => (pys xs).map PyData.list) = some d) : Dp K H v d := by
  cases q : items s (.loc l) with
  | none => rw [q] at e; cases e
  | some xs =>
    rw [q] at e
    obtain ⟨a, vs, rfl, h1, h2, _⟩ := items_ok R r q
    cases q2 : pys xs with
    | none => simp only [q2, Option.bind_some, Option.map_none] at e; cases e
    | some ds => simp only [q2, Option.bind_some, Option.map_some] at e; cases e; exact .lst h1 (pys_ok R xs _ _ h2 q2)
theorem pyM1_ok (R : RelS K mg p B ρ s H) : ∀ (x : Dt) (v : V) (d : PyData), VD K mg B ρ x v → pyM.pyM1 s x = some d → Dp K H v d := by
  intro x v d r e
  cases x with
  | loc l => exact loc_ok R r (by simpa only [pyM.pyM1] using e)
  | _ => exact py_ok R _ _ _ r (by simpa only [pyM.pyM1] using e)
theorem pysM_ok (R : RelS K mg p B ρ s H) : ∀ (xs : List Dt) (vs : List V) (ds : List PyData), VDs K mg B ρ xs vs → pyM.pysM s xs = some ds → DpAll K H vs ds
  | [], _, _, r, e => by cases r; simp only [pyM.pysM] at e; cases e; exact .nil
  | x :: xs, _, _, r, e => by
    cases r with
    | cons h t =>
      simp only [pyM.pysM] at e
      cases q : pyM.pyM1 s x with
      | none => rw [q] at e; cases e
      | some d =>
        rw [q] at e
        cases q2 : pyM.pysM s xs with
        | none => rw [q2] at e; cases e
        | some ds => rw [q2] at e; cases e; exact .cons (pyM1_ok R x _ _ h q) (pysM_ok R xs _ _ t q2)
theorem pyM_ok (R : RelS K mg p B ρ s H) {x : Dt} {v : V} {d : PyData} (r : VD K mg B ρ x v) (e : pyM s x = some d) : Dp K H v d := by
  cases x with
  | loc l => exact loc_ok R r (by simpa only [pyM] using e)
  | tup xs =>
    cases r with
    | tup h1 h2 =>
      simp only [pyM] at e
      cases q : pyM.pysM s xs with
      | none => rw [q] at e; cases e
      | some ds => rw [q] at e; cases e; exact .tup (R.sqT h1) (pysM_ok R xs _ _ h2 q)
  | _ => exact py_ok R _ _ _ r (by simpa only [pyM] using e)

theorem OpR.or {X : Cx} {f : Value → Value → Sem Value} {r r' : R2} (h : OpR X f r) (h' : OpR X f r') : OpR X f (fun x y H Q => r x y H Q ∨ r' x y H Q) := by
  intro pins s σ H x y v u Q I rx ry q
  rcases q with q | q
  · exact h pins s σ H x y v u Q I rx ry q
  · exact h' pins s σ H x y v u Q I rx ry q
/-- an operation whose rule is chosen by the values -/
def Opx (X : Cx) (f : Value → Value → Sem Value) (v w : V) (H : Hp) (Q : VK) : Prop := ∃ r, OpR X f r ∧ r v w H Q
theorem opr_x {X : Cx} {f : Value → Value → Sem Value} : OpR X f (Opx X f) := fun pins s σ H x y v u Q I rx ry ⟨r, o, q⟩ => o pins s σ H x y v u Q I rx ry q

variable {X : Cx} {x y : Dt} {v w : V}
theorem scal_ok {c : Bool} (rx : VD K mg B ρ x v) (ry : VD K mg B ρ y w) (e : scalEq x y = some c) : scal v w = true ∧ c = decide (v = w) := by
  cases rx <;> cases ry <;> simp only [scalEq] at e <;> cases e <;> first | exact ⟨rfl, rfl⟩ | (refine ⟨rfl, ?_⟩; simp)
theorem eqD_ok {c : Bool} {Q : VK} (hK : X.K = K) (hu : X.A.units + 64 < cLine) (R : RelS K mg p B ρ s H) (rx : VD K mg B ρ x v) (ry : VD K mg B ρ y w) (e : eqD x y s = some c) (q : Q (.bl c) H) : Opx X (compareOp .Eq) v w H Q := by
  subst hK
  unfold eqD at e
  split at e
  · obtain ⟨h1, h2⟩ := scal_ok rx ry e
    exact ⟨_, op_eq, h1, by rw [← h2]; exact q⟩
  · unfold deepEq at e
    cases q1 : pyM s x with
    | none => rw [q1] at e; cases e
    | some d =>
      rw [q1] at e
      cases q2 : pyM s y with
      | none => rw [q2] at e; cases e
      | some d' =>
        rw [q2] at e
        simp only [Option.bind_some] at e
        split at e
        · cases e
          rename_i hs
          rw [Bool.and_eq_true] at hs
          exact ⟨_, op_eqD hu, d, d', pyM_ok R rx q1, pyM_ok R ry q2, hs.1, hs.2, q⟩
        · cases e
theorem neD_ok {c : Bool} {Q : VK} (hK : X.K = K) (hu : X.A.units + 64 < cLine) (R : RelS K mg p B ρ s H) (rx : VD K mg B ρ x v) (ry : VD K mg B ρ y w) (e : eqD x y s = some c) (q : Q (.bl (!c)) H) : Opx X (compareOp .NotEq) v w H Q := by
  subst hK
  unfold eqD at e
  split at e
  · obtain ⟨h1, h2⟩ := scal_ok rx ry e
    exact ⟨_, op_ne, h1, by rw [← h2]; exact q⟩
  · unfold deepEq at e
    cases q1 : pyM s x with
    | none => rw [q1] at e; cases e
    | some d =>
      rw [q1] at e
      cases q2 : pyM s y with
      | none => rw [q2] at e; cases e
      | some d' =>
        rw [q2] at e
        simp only [Option.bind_some] at e
        split at e
        · cases e
          rename_i hs
          rw [Bool.and_eq_true] at hs
          exact ⟨_, op_neD hu, d, d', pyM_ok R rx q1, pyM_ok R ry q2, hs.1, hs.2, q⟩
        · cases e
theorem flat_ok (r : VD K mg B ρ x v) (h : flatD x = true) : flatV v = true := by
  cases r <;> first | rfl | cases h
theorem flats_ok : ∀ {xs : List Dt} {vs : List V}, VDs K mg B ρ xs vs → xs.all flatD = true → vs.all flatV = true
  | [], _, r, _ => by cases r; rfl
  | x :: xs, _, r, h => by
    cases r with
    | cons h1 t =>
      rw [List.all_cons, Bool.and_eq_true] at h ⊢
      exact ⟨flat_ok h1 h.1, flats_ok t h.2⟩
theorem eqF_ok {x y : Dt} {v w : V} (rx : VD K mg B ρ x v) (ry : VD K mg B ρ y w) (hx : flatD x = true) (hy : flatD y = true) : eqV v w = eqF x y := by
  cases rx <;> cases hx <;> cases ry <;> first | rfl | cases hy
theorem inF_ok {x : Dt} {v : V} (rx : VD K mg B ρ x v) (hx : flatD x = true) : ∀ {xs : List Dt} {vs : List V}, VDs K mg B ρ xs vs → xs.all flatD = true → inV v vs = xs.any fun z => eqF z x
  | [], _, r, _ => by cases r; rfl
  | z :: xs, _, r, h => by
    cases r with
    | cons h1 t =>
      rw [List.all_cons, Bool.and_eq_true] at h
      unfold inV
      rw [List.any_cons, List.any_cons, eqF_ok h1 rx h.1 hx]
      have := inF_ok rx hx t h.2
      unfold inV at this
      rw [this]
theorem dget_of {kvs : List (Key × Dt)} {ks : List (Key × V)} {a : Addr} {k : Key} (hd : Rd H a (.dK ks)) (h : VDp K mg B ρ kvs ks) : (kGet kvs k = none ∧ DGet H a (kV k) none) ∨ ∃ d u, kGet kvs k = some d ∧ VD K mg B ρ d u ∧ DGet H a (kV k) (some u) := by
  rcases h.get (k := k) with ⟨h1, h2⟩ | ⟨d, u, h1, h2, h3⟩
  · exact .inl ⟨h1, .inl ⟨ks, k, hd, rfl, h2.symm⟩⟩
  · exact .inr ⟨d, u, h1, h3, .inl ⟨ks, k, hd, rfl, h2.symm⟩⟩
def rDIn : R2 := fun y x H Q => ∃ a o, x = .ref a ∧ DGet H a y o ∧ Q (.bl o.isSome) H
theorem op_din (hu : X.A.units + 1 < cLine) : OpR X (compareOp .In) rDIn := by
  intro pins s σ H y x iv u Q I ry rx ⟨a, o, ex, g, q⟩
  subst ex
  obtain rfl : u = Value.ref a := rx
  exact d_in hu I g ry fun s3 I3 => ⟨.bl o.isSome, H, I3, rfl, q⟩
def rDNotIn : R2 := fun y x H Q => ∃ a o, x = .ref a ∧ DGet H a y o ∧ Q (.bl (!o.isSome)) H
theorem op_dnotin (hu : X.A.units + 1 < cLine) : OpR X (compareOp .NotIn) rDNotIn := by
  intro pins s σ H y x iv u Q I ry rx ⟨a, o, ex, g, q⟩
  subst ex
  obtain rfl : u = Value.ref a := rx
  exact d_notIn hu I g ry fun s3 I3 => ⟨.bl (!o.isSome), H, I3, rfl, q⟩
/-- x in y: a rule and its answer, both ways -/
theorem inD_ok {c : Bool} {Q : VK} (hK : X.K = K) (hu : X.A.units + 65 < cLine) (R : RelS K mg p B ρ s H) (rx : VD K mg B ρ x v) (ry : VD K mg B ρ y w) (e : inD x y s = some c) :
    (Q (.bl c) H → Opx X (compareOp .In) v w H Q) ∧ (Q (.bl (!c)) H → Opx X (compareOp .NotIn) v w H Q) := by
  subst hK
  unfold inD at e
  cases q1 : pairsOf s y with
  | some kvs =>
    rw [q1] at e
    simp only at e
    obtain ⟨a, ks, rfl, hd, hp⟩ := pairs_ok R ry q1
    cases q2 : keyD x with
    | none => rw [q2] at e; cases e
    | some k =>
      rw [q2] at e
      cases e
      obtain rfl := keyD_ok rx q2
      rcases dget_of (k := k) hd hp with ⟨h1, h2⟩ | ⟨d, u, h1, _, h2⟩
      · exact ⟨fun q => ⟨_, op_din (by omega), a, none, rfl, h2, by have q : Q (.bl (kGet kvs k).isSome) H := q; rw [h1] at q; exact q⟩, fun q => ⟨_, op_dnotin (by omega), a, none, rfl, h2, by have q : Q (.bl (!(kGet kvs k).isSome)) H := q; rw [h1] at q; exact q⟩⟩
      · exact ⟨fun q => ⟨_, op_din (by omega), a, some u, rfl, h2, by have q : Q (.bl (kGet kvs k).isSome) H := q; rw [h1] at q; exact q⟩, fun q => ⟨_, op_dnotin (by omega), a, some u, rfl, h2, by have q : Q (.bl (!(kGet kvs k).isSome)) H := q; rw [h1] at q; exact q⟩⟩
  | none =>
    rw [q1] at e
    simp only at e
    cases q2 : itemsA s y with
    | none => rw [q2] at e; cases e
    | some xs =>
      rw [q2] at e
      simp only [Option.bind_some] at e
      split at e
      · rename_i hf
        rw [Bool.and_eq_true] at hf
        cases e
        obtain ⟨a, vs, rfl, h1, h2⟩ := itemsA_ok R ry q2
        have hi := inF_ok rx hf.1 h2 hf.2
        exact ⟨fun q => ⟨_, op_in_seq, a, vs, rfl, h1, flat_ok rx hf.1, flats_ok h2 hf.2, by rw [if_neg Bool.false_ne_true, hi]; exact q⟩,
          fun q => ⟨_, op_notIn_seq, a, vs, rfl, h1, flat_ok rx hf.1, flats_ok h2 hf.2, by rw [if_pos rfl, hi]; exact q⟩⟩
      · cases q3 : itemsT y with
        | some ys => rw [q3] at e; cases e
        | none =>
          rw [q3] at e
          simp only at e
          cases q4 : pyM s x with
          | none => rw [q4] at e; cases e
          | some d =>
            rw [q4] at e
            cases q5 : pys xs with
            | none => rw [q5] at e; cases e
            | some ds =>
              rw [q5] at e
              simp only [Option.bind_some] at e
              split at e
              · rename_i hs
                rw [Bool.and_eq_true] at hs
                cases e
                have q2' : items s y = some xs := by
                  cases y <;> first | exact q2 | cases q3
                obtain ⟨a, vs, rfl, h1, h2, _⟩ := items_ok R ry q2'
                have hD : Dp X.K H (.ref a) (.list ds) := .lst h1 (pys_ok R xs _ _ h2 q5)
                exact ⟨fun q => ⟨_, op_inD hu, d, ds, pyM_ok R rx q4, hD, hs.1, hs.2, q⟩, fun q => ⟨_, op_notInD hu, d, ds, pyM_ok R rx q4, hD, hs.1, hs.2, q⟩⟩
              · cases e
theorem cmpD_ok {op : CmpOp} {c : Bool} {Q : VK} (hK : X.K = K) (hu : X.A.units + 65 < cLine) (R : RelS K mg p B ρ s H) (rx : VD K mg B ρ x v) (ry : VD K mg B ρ y w) (e : cmpD op x y s = some c) (q : Q (.bl c) H) : Opx X (compareOp op) v w H Q := by
  cases op with
  | Eq => exact eqD_ok hK (by omega) R rx ry e q
  | NotEq =>
    simp only [cmpD] at e
    cases q1 : eqD x y s with
    | none => rw [q1] at e; cases e
    | some b => rw [q1] at e; cases e; exact neD_ok hK (by omega) R rx ry q1 q
  | In => exact (inD_ok hK hu R rx ry e).1 q
  | NotIn =>
    simp only [cmpD] at e
    cases q1 : inD x y s with
    | none => rw [q1] at e; cases e
    | some b => rw [q1] at e; cases e; exact (inD_ok hK hu R rx ry q1).2 q
  | Lt => cases rx <;> cases ry <;> simp only [cmpD] at e <;> cases e; exact ⟨_, op_lt, _, _, rfl, rfl, q⟩
  | LtE => cases rx <;> cases ry <;> simp only [cmpD] at e <;> cases e; exact ⟨_, op_le, _, _, rfl, rfl, q⟩
  | Gt => cases rx <;> cases ry <;> simp only [cmpD] at e <;> cases e; exact ⟨_, op_gt, _, _, rfl, rfl, q⟩
  | GtE => cases rx <;> cases ry <;> simp only [cmpD] at e <;> cases e; exact ⟨_, op_ge, _, _, rfl, rfl, q⟩
  | Is =>
    cases ry <;> simp only [cmpD] at e <;> cases e
    refine ⟨_, op_isN, rfl, ?_⟩
    cases rx <;> exact q
  | IsNot =>
    cases ry <;> simp only [cmpD] at e <;> cases e
    refine ⟨_, op_notN, rfl, ?_⟩
    cases rx <;> exact q
end
end QQ

namespace QQ
open PySem L2
section
variable {K : PySem.W.Frag} {mg : Str → Option Value} {p B H : Hp} {ρ : List Addr} {s : Mem}
variable {X : Cx} {x y : Dt} {v w : V}
theorem intD_ok {f : Int → Int → Option Int} {Q : VK} (R : RelS K mg p B ρ s H) (rx : VD K mg B ρ x v) (ry : VD K mg B ρ y w) (h : WO K mg p B ρ (intD f x y s) (VD K mg) Q) : ∃ i j k, v = .int i ∧ w = .int j ∧ f i j = some k ∧ Q (.int k) H := by
  cases rx <;> cases ry <;> first | exact h.elim | skip
  rename_i i j
  simp only [intD] at h
  obtain ⟨k, e, h⟩ := h.map
  exact ⟨i, j, k, rfl, rfl, e, h.here R (.int k)⟩
theorem mulOk_ok {i j : Int} (h : mulOk i j = true) : CMul i j ∨ CMulW i j := by
  unfold mulOk at h
  rw [Bool.or_eq_true, Bool.or_eq_true, decide_eq_true_eq, decide_eq_true_eq, decide_eq_true_eq] at h
  exact h
theorem rep_ok {B : Hp} {ρ : List Addr} {xs : List Dt} {vs : List V} (h : VDs K mg B ρ xs vs) : ∀ n : Nat, VDs K mg B ρ (List.replicate n xs).flatten (List.replicate n vs).flatten
  | 0 => .nil
  | n + 1 => by
    rw [List.replicate_succ, List.replicate_succ, List.flatten_cons, List.flatten_cons]
    exact h.append (rep_ok h n)
theorem not_fls {x : Dt} {xs : List Dt} (h : (∀ ys, x ≠ .fls ys) → H (0 : Addr) = none → True) : True := trivial
theorem binD_ok {op : Operator} {own : Bool} {Q : VK} (R : RelS K mg p B ρ s H) (rx : VD K mg B ρ x v) (ry : VD K mg B ρ y w) (h : WO K mg p B ρ (binD op own x y s) (VD K mg) Q) : Opx X (binaryOp op) v w H Q := by
  have cat : (∀ ys, x ≠ .fls ys) → (∀ ys, y ≠ .fls ys) → ∀ {own : Bool}, WO K mg p B ρ ((items s x).bind fun xs => (items s y).bind fun ys => mkL own (xs ++ ys) s) (VD K mg) Q → Opx X (binaryOp .Add) v w H Q := by
    intro nx ny own h
    obtain ⟨xs, e1, h⟩ := h.bind
    obtain ⟨ys, e2, h⟩ := h.bind
    obtain ⟨a, vs, rfl, _, h1, h2⟩ := items_ok R rx e1
    obtain ⟨b, us, rfl, _, h3, h4⟩ := items_ok R ry e2
    obtain ⟨h5, h6⟩ := mkL_ok R (h1.append h3) h
    exact ⟨_, op_cat, a, b, vs, us, rfl, rfl, h2 nx, h4 ny, by rw [← List.length_append]; exact h5, h6⟩
  cases op with
  | Add =>
    simp only [binD, addD] at h
    split at h
    · cases rx; cases ry
      exact ⟨_, op_add, _, _, rfl, rfl, h.here R (.int _)⟩
    · exact h.elim
    · exact h.elim
    · rename_i n1 n2 n3
      exact cat (fun ys e => n1 ys e) (fun ys e => n2 ys e) h
  | Sub =>
    obtain ⟨i, j, k, rfl, rfl, e, q⟩ := intD_ok R rx ry h
    cases e
    exact ⟨_, op_sub, i, j, rfl, rfl, q⟩
  | Mult =>
    simp only [binD, mulD] at h
    split at h
    · cases rx; cases ry
      split at h
      · rename_i hm
        rcases mulOk_ok hm with hm | hm
        · exact ⟨_, op_mul, _, _, rfl, rfl, hm, h.here R (.int _)⟩
        · exact ⟨_, op_mulW, _, _, rfl, rfl, hm, h.here R (.int _)⟩
      · exact h.elim
    · exact h.elim
    · rename_i n1 n2
      cases ry
      obtain ⟨xs, e1, h⟩ := h.bind
      split at h
      · rename_i hk
        obtain ⟨a, vs, rfl, _, h1, h2⟩ := items_ok R rx e1
        obtain ⟨h5, h6⟩ := mkL_ok R (rep_ok h1 _) h
        exact ⟨_, op_rep, a, _, vs, rfl, rfl, h2 (fun ys e => n2 ys e), hk.1, hk.2.1, by rw [← h1.length]; exact hk.2.2, h6⟩
      · exact h.elim
    · exact h.elim
  | FloorDiv =>
    obtain ⟨i, j, k, rfl, rfl, e, q⟩ := intD_ok R rx ry h
    split at e
    · rename_i hc
      cases e
      exact ⟨_, op_fdivW, i, j, rfl, rfl, hc, q⟩
    · cases e
  | Mod =>
    obtain ⟨i, j, k, rfl, rfl, e, q⟩ := intD_ok R rx ry h
    split at e
    · rename_i hc
      cases e
      exact ⟨_, op_mod, i, j, rfl, rfl, hc, q⟩
    · cases e
  | Pow =>
    obtain ⟨i, j, k, rfl, rfl, e, q⟩ := intD_ok R rx ry h
    split at e
    · rename_i hc
      cases e
      exact ⟨_, op_pow, i, j, rfl, rfl, hc, q⟩
    · cases e
  | _ => exact h.elim

/-- an item: a sequence's or a dict's -/
theorem atI_ok {B : Hp} {ρ : List Addr} {xs : List Dt} {vs : List V} {i : Int} {d : Dt} (h : VDs K mg B ρ xs vs) (e : atI xs i = some d) : ∃ v, atI vs i = some v ∧ VD K mg B ρ d v := by
  unfold atI at e ⊢
  rw [← h.length]
  cases q : ixN xs.length i with
  | none => rw [q] at e; cases e
  | some j =>
    rw [q] at e
    exact h.get e
def rDGet : R2 := fun x y H Q => ∃ a v, x = .ref a ∧ DGet H a y (some v) ∧ Q v H
theorem ix_dict (hu : X.A.units + 1 < cLine) : IxR X rDGet := by
  intro value slice pins s σ H x y v u Q I rx ry ⟨a, z, ex, g, q⟩ hs
  subst ex
  obtain rfl : v = Value.ref a := rx
  exact PyProof.Rows.tail_any (dict_typeIs I g) PySem.F.slot_dict_getitem.lookup (d_getItem hu I g ry fun w' s3 I3 rw' => ⟨z, H, I3, rw', q⟩) hs
def Ixx (X : Cx) (v w : V) (H : Hp) (Q : VK) : Prop := ∃ r, IxR X r ∧ r v w H Q
theorem ixr_x : IxR X (Ixx X) := fun value slice pins s σ H x y v u Q I rx ry ⟨r, o, q⟩ hs => o value slice pins s σ H x y v u Q I rx ry q hs
theorem ixD_ok {d : Dt} {Q : VK} (hK : X.K = K) (hu : X.A.units + 1 < cLine) (R : RelS K mg p B ρ s H) (rx : VD K mg B ρ x v) (ry : VD K mg B ρ y w) (e : ixD x y s = some d) (q : ∀ u, VD K mg B ρ d u → Q u H) : Ixx X v w H Q := by
  subst hK
  unfold ixD at e
  cases q1 : pairsOf s x with
  | some kvs =>
    rw [q1] at e
    simp only at e
    obtain ⟨a, ks, rfl, hd, hp⟩ := pairs_ok R rx q1
    cases q2 : keyD y with
    | none => rw [q2] at e; cases e
    | some k =>
      rw [q2] at e
      simp only [Option.bind_some] at e
      obtain rfl := keyD_ok ry q2
      rcases dget_of (k := k) hd hp with ⟨h1, _⟩ | ⟨d', u, h1, h3, h2⟩
      · rw [h1] at e; cases e
      · rw [h1] at e
        cases e
        exact ⟨_, ix_dict hu, a, u, rfl, h2, q u h3⟩
  | none =>
    rw [q1] at e
    simp only at e
    cases ry with
    | int j =>
      simp only at e
      cases q2 : itemsA s x with
      | none => rw [q2] at e; cases e
      | some xs =>
        rw [q2] at e
        simp only [Option.bind_some] at e
        obtain ⟨a, vs, rfl, h1, h2⟩ := itemsA_ok R rx q2
        obtain ⟨u, h3, h4⟩ := atI_ok h2 e
        rcases h1 with h1 | h1
        · exact ⟨_, ix_list, a, vs, j, u, rfl, rfl, h1, h3, q u h4⟩
        · exact ⟨_, ix_tup, a, vs, j, u, rfl, rfl, h1, h3, q u h4⟩
    | _ => simp only at e; cases e
theorem cut_ok {B : Hp} {ρ : List Addr} {xs : List Dt} {vs : List V} (h : VDs K mg B ρ xs vs) (lo hi : Option Int) : VDs K mg B ρ (cutD xs lo hi) (cutV vs lo hi) := by
  unfold cutD cutV
  rw [h.length]
  exact (h.drop _).take _
theorem slD_ok {own : Bool} {lo hi : Option Int} {Q : VK} (hK : X.K = K) (R : RelS K mg p B ρ s H) (rx : VD K mg B ρ x v) (h : WO K mg p B ρ (slD own x lo hi s) (VD K mg) Q) : rSlL X.K v lo hi H Q := by
  subst hK
  unfold slD at h
  obtain ⟨xs, e, h⟩ := h.bind
  obtain ⟨a, vs, rfl, h1, h2, _⟩ := items_ok R rx e
  obtain ⟨h5, h6⟩ := mkL_ok R (cut_ok h2 lo hi) h
  exact ⟨a, vs, rfl, h1, h6⟩
theorem emp_ok {B : Hp} {ρ : List Addr} {xs : List Dt} {vs : List V} (h : VDs K mg B ρ xs vs) : xs.isEmpty = vs.isEmpty := by
  cases h <;> rfl
theorem trueD_ok {b : Bool} (hK : X.K = K) (R : RelS K mg p B ρ s H) (rx : VD K mg B ρ x v) (e : trueD x s = some b) : TruV X.K v H b := by
  subst hK
  have big : ∀ {xs : List Dt}, itemsA s x = some xs → b = !xs.isEmpty → TruV X.K v H b := by
    intro xs e hb
    obtain ⟨a, vs, rfl, h1, h2⟩ := itemsA_ok R rx e
    rw [emp_ok h2] at hb
    rcases h1 with h1 | h1
    · exact .inl ⟨vs, h1, hb⟩
    · exact .inr (.inl ⟨vs, h1, hb⟩)
  cases rx with
  | non => simp only [trueD] at e; cases e; rfl
  | bl => simp only [trueD] at e; cases e; rfl
  | int => simp only [trueD] at e; cases e; rfl
  | _ =>
    simp only [trueD] at e
    obtain ⟨xs, e1, e2⟩ := Option.map_eq_some_iff.mp e
    exact big e1 e2.symm

/-! ### stores -/
theorem putF_ok {B : Hp} {ρ : List Addr} {d : Dt} {u : V} {f : Str} (r : VD K mg B ρ d u) : ∀ {fs : List (Str × Dt)} {vs : List (Str × V)}, VDp K mg B ρ fs vs → VDp K mg B ρ (putFD f d fs) (putF f u vs)
  | [], _, h => by cases h; exact .cons r .nil
  | (g, e) :: fs, _, h => by
    cases h with
    | cons h t =>
      unfold putFD putF
      split
      · exact .cons r t
      · exact .cons h (putF_ok r t)
theorem loc_inv {l : Nat} {v : V} (r : VD K mg B ρ (.loc l) v) : ∃ a, v = .ref a ∧ ρ[l]? = some a := by
  cases r with
  | loc h => exact ⟨_, rfl, h⟩
/-- o[i] = d -/
def rPut : V → V → V → Hp → (Hp → Prop) → Prop := fun o i v H Q => ∃ a H4, o = .ref a ∧ DPut H a i v H4 ∧ Q H4
theorem set_dict (hu : X.A.units + 1 < cLine) : PSet X rPut := by
  intro pins s σ H o i v ov iv u Q I ro ri rv ⟨a, H4, eo, g, q⟩
  subst eo
  obtain rfl : ov = Value.ref a := ro
  exact d_setItem hu I g ri rv fun s4 I4 => ⟨H4, I4, q⟩
def Stx (X : Cx) (o i v : V) (H : Hp) (Q : Hp → Prop) : Prop := ∃ r, PSet X r ∧ r o i v H Q
theorem set_x : PSet X (Stx X) := fun pins s σ H o i v ov iv u Q I r1 r2 r3 ⟨r, h, q⟩ => h pins s σ H o i v ov iv u Q I r1 r2 r3 q
theorem live_at {l : Nat} {a : Addr} {o : Ob} (R : RelS K mg p B ρ s H) (h : ρ[l]? = some a) (e : s[l]? = some (.live o)) : ∃ u, H a = some u ∧ B a = none ∧ ObR K mg B ρ o u := R.cel l a _ h e
/-- a cell's new content -/
theorem RelS.put {l : Nat} {a : Addr} {o : Ob} {u u' : HO} (R : RelS K mg p B ρ s H) (h : ρ[l]? = some a) (hB : B a = none) (hH : H a = some u') (hz : isFz u' = false) (r : ObR K mg B ρ o u) : RelS K mg p B ρ (s.set l (.live o)) (upd H a u) :=
  R.setC h hB (R.liveP h hH hz) ⟨u, upd_same, hB, r⟩
theorem setD_ok {o i d : Dt} {vo vi vd : V} {Q : Hp → Prop} (hu : X.A.units + 1 < cLine) (R : RelS K mg p B ρ s H) (ro : VD K mg B ρ o vo) (ri : VD K mg B ρ i vi) (rd : VD K mg B ρ d vd)
    (h : WO K mg p B ρ (setD o i d s) (fun _ _ (_ : Unit) (_ : Unit) => True) (fun _ H' => Q H')) : Stx X vo vi vd H Q := by
  cases o with
  | loc l =>
    obtain ⟨a, rfl, hl⟩ := loc_inv ro
    simp only [setD] at h
    split at h
    · rename_i xs e
      obtain ⟨u, hH, hB, r⟩ := live_at R hl e
      cases u <;> simp only [ObR] at r
      rename_i vs
      cases ri with
      | int j =>
        obtain ⟨n, e2, h⟩ := h.map
        refine ⟨_, set_list, a, vs, j, n, rfl, rfl, hH, by rw [← r.length]; exact e2, ?_⟩
        exact h B ρ _ () Ext.refl (R.put hl hB hH rfl (o := .lst (xs.set n d)) (u := .lst (vs.set n vd)) (r.set rd n)) trivial
      | _ => exact h.elim
    · rename_i kvs e
      obtain ⟨u, hH, hB, r⟩ := live_at R hl e
      cases u <;> simp only [ObR] at r
      rename_i ks
      obtain ⟨k, e2, h⟩ := h.bind
      obtain rfl := keyD_ok ri e2
      split at h
      · rename_i hz
        refine ⟨_, set_dict hu, a, _, rfl, DPut.k hH (by rw [← r.length]; exact hz), ?_⟩
        exact h B ρ _ () Ext.refl (R.put hl hB hH rfl (o := .dct (kPut kvs k d)) (u := .dK (putK ks k vd)) (r.put rd)) trivial
      · exact h.elim
    · exact h.elim
  | _ => exact h.elim
/-- a cell becomes a datum: nothing happens -/
theorem frzD_ok {Q : VK} (R : RelS K mg p B ρ s H) (rx : VD K mg B ρ x v) (h : WO K mg p B ρ (frzD x s) (VD K mg) Q) : Q v H := by
  cases x with
  | loc l =>
    obtain ⟨a, rfl, hl⟩ := loc_inv rx
    simp only [frzD] at h
    split at h
    · rename_i xs e
      obtain ⟨u, hH, hB, r⟩ := live_at R hl e
      cases u <;> simp only [ObR] at r
      obtain ⟨x', R'⟩ := R.freeze hl hB hH rfl
      exact h _ ρ H _ x' R' (.lst upd_same (r.ext x'))
    · rename_i xs e
      obtain ⟨u, hH, hB, r⟩ := live_at R hl e
      cases u <;> simp only [ObR] at r
      obtain ⟨x', R'⟩ := R.freeze hl hB hH rfl
      exact h _ ρ H _ x' R' (.dct upd_same (r.ext x'))
    · rename_i c fs e
      obtain ⟨u, hH, hB, r⟩ := live_at R hl e
      cases u <;> simp only [ObR] at r
      obtain ⟨x', R'⟩ := R.freeze hl hB hH rfl
      exact h _ ρ H _ x' R' (.obj r.1 upd_same (r.2.ext x'))
    · exact h.elim
  | _ => exact h.elim
end
end QQ

namespace QQ
open PySem L2
section
variable {K : PySem.W.Frag} {mg : Str → Option Value} {p B H : Hp} {ρ : List Addr} {s : Mem}
variable {X : Cx} {x y : Dt} {v w : V}
theorem intsOf_ok {B : Hp} {ρ : List Addr} : ∀ {xs : List Dt} {vs : List V} {ns : List Int}, VDs K mg B ρ xs vs → intsOf xs = some ns → vs = ns.map V.int
  | [], _, _, r, e => by cases r; cases e; rfl
  | d :: xs, _, ns, r, e => by
    cases r with
    | cons h t =>
      cases h <;> simp only [intsOf] at e <;> first | cases e | skip
      obtain ⟨ms, e1, e2⟩ := Option.map_eq_some_iff.mp e
      subst e2
      rw [intsOf_ok t e1]
      rfl
theorem boolsOf_ok {B : Hp} {ρ : List Addr} : ∀ {xs : List Dt} {vs : List V} {ns : List Bool}, VDs K mg B ρ xs vs → boolsOf xs = some ns → vs = ns.map V.bl
  | [], _, _, r, e => by cases r; cases e; rfl
  | d :: xs, _, ns, r, e => by
    cases r with
    | cons h t =>
      cases h <;> simp only [boolsOf] at e <;> first | cases e | skip
      obtain ⟨ms, e1, e2⟩ := Option.map_eq_some_iff.mp e
      subst e2
      rw [boolsOf_ok t e1]
      rfl
theorem ints_ok {B : Hp} {ρ : List Addr} : ∀ ns : List Int, VDs K mg B ρ (ns.map .int) (ns.map V.int)
  | [] => .nil
  | n :: ns => .cons (.int n) (ints_ok ns)
theorem keysOf_ok {B : Hp} {ρ : List Addr} : ∀ {xs : List Dt} {vs : List V} {ns : List Key}, VDs K mg B ρ xs vs → keysOf xs = some ns → vs = ns.map kV
  | [], _, _, r, e => by cases r; cases e; rfl
  | d :: xs, _, ns, r, e => by
    cases r with
    | cons h t =>
      simp only [keysOf] at e
      obtain ⟨k, e1, e⟩ := Option.bind_eq_some_iff.mp e
      obtain ⟨ms, e2, e3⟩ := Option.map_eq_some_iff.mp e
      subst e3
      rw [keyD_ok h e1, keysOf_ok t e2]
      rfl
theorem keys_ok {B : Hp} {ρ : List Addr} : ∀ ns : List Key, VDs K mg B ρ (ns.map dKey) (ns.map kV)
  | [] => .nil
  | n :: ns => .cons (dKey_ok n) (keys_ok ns)
theorem tupsOf_ok (R : RelS K mg p B ρ s H) : ∀ {xs : List Dt} {vs : List V} {ts : List (List Key)}, VDs K mg B ρ xs vs → tupsOf xs = some ts → Paired (fun t x => ∃ q, x = V.ref q ∧ SqT K B q (t.map kV)) ts vs
  | [], _, _, r, e => by cases r; cases e; exact .nil
  | d :: xs, _, ts, r, e => by
    cases r with
    | cons h t =>
      cases h <;> simp only [tupsOf] at e <;> first | cases e | skip
      rename_i q us h1 h2
      obtain ⟨k, e1, e⟩ := Option.bind_eq_some_iff.mp e
      obtain ⟨ms, e2, e3⟩ := Option.map_eq_some_iff.mp e
      subst e3
      have e4 := keysOf_ok h2 e1
      subst e4
      exact .cons ⟨q, rfl, h1⟩ (tupsOf_ok R t e2)
theorem tups_back {B : Hp} {ρ : List Addr} : ∀ {ts : List (List Key)} {ys : List V}, Paired (fun t x => ∃ q, x = V.ref q ∧ SqT K B q (t.map kV)) ts ys → VDs K mg B ρ (ts.map fun t => .tup (t.map dKey)) ys
  | _, _, .nil => .nil
  | _, _, .cons ⟨q, e, h⟩ r => by
    subst e
    exact .cons (.tup h (keys_ok _)) (tups_back r)
/-- the least -/
theorem minF (ns : List Int) : ∀ x : Int, (ns.foldl (fun a b => if b < a then b else a) x ∈ x :: ns) ∧ ∀ y ∈ x :: ns, ns.foldl (fun a b => if b < a then b else a) x ≤ y := by
  induction ns with
  | nil => intro x; exact ⟨List.mem_cons_self .., fun y hy => by simp at hy; rw [hy]; exact Int.le_refl _⟩
  | cons b ns ih =>
    intro x
    rw [List.foldl_cons]
    obtain ⟨h1, h2⟩ := ih (if b < x then b else x)
    refine ⟨?_, fun y hy => ?_⟩
    · rcases List.mem_cons.mp h1 with e | hm
      · rw [e]
        split
        · exact List.mem_cons_of_mem _ (List.mem_cons_self ..)
        · exact List.mem_cons_self ..
      · exact List.mem_cons_of_mem _ (List.mem_cons_of_mem _ hm)
    · have h3 := h2 _ (List.mem_cons_self ..)
      have hx : (if b < x then b else x) ≤ x := by split <;> omega
      have hb : (if b < x then b else x) ≤ b := by split <;> omega
      rcases List.mem_cons.mp hy with rfl | hy
      · exact Int.le_trans h3 hx
      · rcases List.mem_cons.mp hy with rfl | hy
        · exact Int.le_trans h3 hb
        · exact h2 y (List.mem_cons_of_mem _ hy)
theorem minL_ok {ns : List Int} {m : Int} (e : minL ns = some m) : 0 < ns.length ∧ ∀ z, z ∈ ns → (∀ y, y ∈ ns → z ≤ y) → z = m := by
  cases ns with
  | nil => cases e
  | cons x r =>
    simp only [minL] at e
    cases e
    obtain ⟨h1, h2⟩ := minF r x
    refine ⟨by simp, fun z hz h => ?_⟩
    have := h _ h1
    have := h2 z hz
    omega
/-- ints in order -/
theorem insI_perm (x : Int) : ∀ l, (insI x l).Perm (x :: l)
  | [] => List.Perm.refl _
  | y :: r => by
    unfold insI
    split
    · exact List.Perm.refl _
    · exact ((insI_perm x r).cons y).trans (List.Perm.swap x y r)
theorem srtI_perm : ∀ l, (srtI l).Perm l
  | [] => List.Perm.refl _
  | x :: r => (insI_perm x _).trans ((srtI_perm r).cons x)
theorem insI_srtd (x : Int) : ∀ l : List Int, l.Pairwise (· ≤ ·) → (insI x l).Pairwise (· ≤ ·)
  | [], _ => List.pairwise_singleton _ _
  | y :: r, h => by
    have h' := List.pairwise_cons.mp h
    unfold insI
    split
    · rename_i hl
      refine List.pairwise_cons.mpr ⟨fun z hz => ?_, h⟩
      rcases List.mem_cons.mp hz with rfl | hz
      · exact hl
      · exact Int.le_trans hl (h'.1 z hz)
    · rename_i hl
      refine List.pairwise_cons.mpr ⟨fun z hz => ?_, insI_srtd x r h'.2⟩
      rcases List.mem_cons.mp ((insI_perm x r).mem_iff.mp hz) with rfl | hz
      · omega
      · exact h'.1 z hz
theorem srtI_srtd : ∀ l : List Int, (srtI l).Pairwise (· ≤ ·)
  | [] => List.Pairwise.nil
  | x :: r => insI_srtd x _ (srtI_srtd r)
theorem srt_uniq : ∀ {l m : List Int}, l.Pairwise (· ≤ ·) → m.Pairwise (· ≤ ·) → l.Perm m → l = m
  | [], m, _, _, p => (List.Perm.nil_eq p)
  | x :: l, [], _, _, p => absurd p.length_eq (by simp)
  | x :: l, y :: m, hl, hm, p => by
    have hl' := List.pairwise_cons.mp hl
    have hm' := List.pairwise_cons.mp hm
    have e : x = y := by
      have h1 : x ≤ y := by
        rcases List.mem_cons.mp (p.mem_iff.mpr (List.mem_cons_self (a := y) (l := m))) with e | hy
        · omega
        · exact hl'.1 y hy
      have h2 : y ≤ x := by
        rcases List.mem_cons.mp (p.mem_iff.mp (List.mem_cons_self (a := x) (l := l))) with e | hy
        · omega
        · exact hm'.1 x hy
      omega
    subst e
    rw [srt_uniq hl'.2 hm'.2 (List.Perm.cons_inv p)]
theorem mkL_sz {own : Bool} {n m : Nat} {xs : List Dt} {Q : VK} (h : WO K mg p B ρ (mkL own xs s) (VD K mg) Q) : xs.length ≤ sizeLine := mkL_len h
theorem sortD_ok {own : Bool} {xs : List Dt} {Q : VK} (hK : X.K = K) (R : RelS K mg p B ρ s H) (rx : VD K mg B ρ x v) (e : items s x = some xs) (h : WO K mg p B ρ (sortD own xs s) (VD K mg) Q) : ∃ r, CallR X (.builtin "sorted") r ∧ r [v] H Q := by
  subst hK
  obtain ⟨a, vs, rfl, h1, h2, _⟩ := items_ok R rx e
  unfold sortD at h
  split at h
  · rename_i ns e2
    have e3 := intsOf_ok h2 e2
    subst e3
    refine ⟨_, cr_sortedI, a, ns, rfl, h1, fun ns' q hp hs hq => ?_⟩
    have : ns' = srtI ns := srt_uniq hs (srtI_srtd ns) (hp.trans (srtI_perm ns).symm)
    subst this
    exact (mkL_ok R (ints_ok (srtI ns)) h).2 q hq
  · obtain ⟨ts, e2, h⟩ := h.bind
    split at h
    · rename_i hs
      have hp := tupsOf_ok R h2 e2
      refine ⟨_, cr_sortK, a, vs, ts, rfl, h1, Paired.mono (fun t z ⟨q, e, k⟩ => ⟨q, e, R.sqT k⟩) hp, hs, fun ys q hy hq => ?_⟩
      exact (mkL_ok R (tups_back (hy _ hp)) h).2 q hq
    · exact h.elim

/-! ### built-ins by their names -/
def Blt (X : Cx) (x : Str) (vs : List V) (H : Hp) (Q : VK) : Prop :=
  (∃ id r, bootBuiltins x = some (.builtin id) ∧ CallR X (.builtin id) r ∧ r vs H Q) ∨ ∃ n r, bootBuiltins x = some (.type n) ∧ CallR X (.type n) r ∧ r vs H Q
def rLenR : List V → Hp → VK → Prop := fun xs H Q => ∃ a ks, xs = [.ref a] ∧ Rd H a (.dK ks) ∧ Q (.int ks.length) H
theorem cr_lenR : CallR X (.builtin "len") rLenR := by
  intro pins s σ H xs us Q I r ⟨a, ks, e, hd, q⟩
  subst e
  obtain ⟨u, rfl, ru⟩ := vals1 r
  obtain rfl : u = Value.ref a := ru
  exact d_len I hd fun t s' I' => ⟨.int ks.length, H, I', ⟨t, rfl⟩, q⟩
def rListR : List V → Hp → VK → Prop := fun xs H Q => ∃ a ks, xs = [.ref a] ∧ Rd H a (.dK ks) ∧ ∀ q, H q = none → Q (.ref q) (upd H q (.lst (ks.map fun kv => kV kv.1)))
theorem cr_listR (hc : X.calm = true) : CallR X (.type "list") rListR := by
  intro pins s σ H xs us Q I r ⟨a, ks, e, hd, q⟩
  subst e
  obtain ⟨u, rfl, ru⟩ := vals1 r
  obtain rfl : u = Value.ref a := ru
  obtain ⟨hz, hsm, es, rel, hdict⟩ := dk_rd I.hok hd
  obtain ⟨ep, hat⟩ := hdict.dictAt
  have hlen : ks.length = es.length := rel.length
  have hnew : H s.heap.objs.size = none := I.hok.fresh (Nat.le_refl _)
  refine PySem.W.kdl_call (PySem.W.kdl_dict (knd := mixKind X.prog X.w) (kvs := es) (ep := ep) hsm) (I.ok.hd hc) hat (by rw [← hlen]; exact hz) fun h' tk out c' hkeep hout hits => ?_
  have hvals : Vals (ks.map fun kv => kV kv.1) out.toList := by
    refine vals_of_at (by rw [List.length_map, hlen, ← hits.1]; simp) fun j x u hx hu => ?_
    obtain ⟨k, y, hk, hi⟩ := hits.2 j u (by rw [← Array.getElem?_toList]; exact hu)
    have hk1 : (ks.map (·.1))[j]? = some k := by rw [KV.keys rel, List.getElem?_map, hk]; rfl
    obtain ⟨kv, hkv, e⟩ := List.getElem?_map ▸ hk1 |> Option.map_eq_some_iff.mp
    rw [List.getElem?_map, hkv] at hx
    cases hx
    show RelV (kV kv.1) u
    rw [e]
    exact keyIs_rel hi
  exact ⟨.ref s.heap.objs.size, _, I.laid (a := s.heap.objs.size) (o := .lst (ks.map fun kv => kV kv.1)) (t' := tk) hkeep (Nat.le_refl _) ⟨by rw [List.length_map]; exact hz, out.toList, c', hvals, by rw [Array.toArray_toList]; exact hout⟩, rfl, q _ hnew⟩
theorem keysD_ok {B : Hp} {ρ : List Addr} : ∀ {kvs : List (Key × Dt)} {ks : List (Key × V)}, VDp K mg B ρ kvs ks → VDs K mg B ρ (kvs.map fun kv => dKey kv.1) (ks.map fun kv => kV kv.1)
  | [], _, h => by cases h; exact .nil
  | (k, d) :: kvs, _, h => by cases h with | cons h t => exact .cons (dKey_ok k) (keysD_ok t)
theorem tyOf_ok {m : String} (hK : X.K = K) (R : RelS K mg p B ρ s H) (rx : VD K mg B ρ x v) (e : tyOfD x s = some m) : TyX X.K H v (.type m) := by
  subst hK
  cases rx with
  | non => simp only [tyOfD] at e; cases e; exact .base .non
  | bl => simp only [tyOfD] at e; cases e; exact .base (.bl _)
  | int => simp only [tyOfD] at e; cases e; exact .base (.int _)
  | str => simp only [tyOfD] at e; cases e; exact .base (.str _)
  | tup h1 h2 =>
    simp only [tyOfD] at e; cases e
    rcases R.sqT h1 with h | ⟨o, its, n, h, c, _⟩
    · rcases h with h | ⟨o, h⟩
      · exact .base (.tup h)
      · exact .fTuple h
    · exact .kTuple h c
  | lst h1 h2 => simp only [tyOfD] at e; cases e; exact .base (.lst (R.lst h1))
  | dct h1 h2 =>
    simp only [tyOfD] at e; cases e
    rcases R.dk h1 with h | ⟨o, h⟩
    · exact .base (.dK h)
    · exact .fDict h
  | @loc l a h1 =>
    simp only [tyOfD] at e
    cases q : s[l]? with
    | none => rw [q] at e; cases e
    | some c =>
      rw [q] at e
      have hc := R.cel l a _ h1 q
      cases c with
      | live o =>
        obtain ⟨u, hu, _, r⟩ := hc
        cases o <;> cases u <;> simp only [ObR] at r
        · cases e; exact .base (.lst hu)
        · cases e; exact .base (.dK hu)
        · cases e
      | lock o => cases o <;> cases e
      | dead => cases e
  | _ => simp only [tyOfD] at e; cases e
theorem tyIs_ok {m n : String} {b : Bool} (hm : tyOfD x s = some m) (e : tyIs m n = some b) : PySem.W.kitOne K (.type m) (.type n) = some b := by
  have hms : m ∈ ["NoneType", "bool", "int", "str", "tuple", "list", "dict"] := by
    unfold tyOfD at hm
    split at hm <;> first | (cases hm; decide) | skip
    split at hm <;> first | (cases hm; decide) | skip
    all_goals cases hm
  unfold tyIs at e
  refine kit_ty ?_
  simp only [List.mem_cons, List.not_mem_nil, or_false] at hms
  split at e
  · subst_vars; cases e; rcases hms with rfl | rfl | rfl | rfl | rfl | rfl | rfl <;> decide +kernel
  split at e
  · subst_vars; cases e; rcases hms with rfl | rfl | rfl | rfl | rfl | rfl | rfl <;> decide +kernel
  split at e
  · subst_vars; cases e; rcases hms with rfl | rfl | rfl | rfl | rfl | rfl | rfl <;> decide +kernel
  split at e
  · subst_vars; cases e; rcases hms with rfl | rfl | rfl | rfl | rfl | rfl | rfl <;> decide +kernel
  split at e
  · subst_vars; cases e; rcases hms with rfl | rfl | rfl | rfl | rfl | rfl | rfl <;> decide +kernel
  cases e
theorem tot_ok {B : Hp} {ρ : List Addr} : ∀ {xs : List Dt} {vs : List V} {kvs : List (Key × Dt)}, VDs K mg B ρ xs vs → tot (xs.map pairD) = some kvs →
    ∃ (ps : List Addr) (ks : List (Key × V)), vs = ps.map V.ref ∧ Paired (fun p kv => SqT K B p [kV kv.1, kv.2]) ps ks ∧ VDp K mg B ρ kvs ks
  | [], _, _, r, e => by cases r; cases e; exact ⟨[], [], rfl, .nil, .nil⟩
  | d :: xs, _, kvs, r, e => by
    cases r with
    | cons h t =>
      rw [List.map_cons] at e
      cases q : pairD d with
      | none => rw [q] at e; cases e
      | some kv =>
        rw [q] at e
        simp only [tot] at e
        obtain ⟨r, e1, e2⟩ := Option.map_eq_some_iff.mp e
        obtain ⟨ps, ks, e4, h3, h4⟩ := tot_ok t e1
        subst e4 e2
        unfold pairD at q
        split at q
        · cases h with
          | tup h1 h2 =>
            cases h2 with
            | cons hk h2 =>
              cases h2 with
              | cons hd h2 =>
                cases h2
                obtain ⟨k', q1, q2⟩ := Option.map_eq_some_iff.mp q
                subst q2
                have := keyD_ok hk q1
                subst this
                exact ⟨_ :: ps, (k', _) :: ks, rfl, .cons h1 h3, .cons hd h4⟩
        · cases q
section
variable {Q : VK}
theorem bLen_ok (hK : X.K = K) (R : RelS K mg p B ρ s H) (rx : VD K mg B ρ x v) (h : WO K mg p B ρ (bLen x s) (VD K mg) Q) : ∃ r, CallR X (.builtin "len") r ∧ r [v] H Q := by
  subst hK
  unfold bLen at h
  split at h
  · rename_i kvs e1
    obtain ⟨a, ks, rfl, hd, hp⟩ := pairs_ok R rx e1
    exact ⟨_, cr_lenR, a, ks, rfl, hd, by rw [← hp.length]; exact h.here R (.int _)⟩
  · obtain ⟨xs, e2, h⟩ := h.map
    obtain ⟨a, vs, rfl, h1, h2⟩ := itemsA_ok R rx e2
    exact ⟨_, call_len_seq, a, vs, rfl, h1, by rw [← h2.length]; exact h.here R (.int _)⟩
theorem bList_ok {own : Bool} (hK : X.K = K) (hc : X.calm = true) (R : RelS K mg p B ρ s H) (rx : VD K mg B ρ x v) (h : WO K mg p B ρ (bList own x s) (VD K mg) Q) : ∃ r, CallR X (.type "list") r ∧ r [v] H Q := by
  subst hK
  unfold bList at h
  split at h
  · rename_i kvs e1
    obtain ⟨a, ks, rfl, hd, hp⟩ := pairs_ok R rx e1
    exact ⟨_, cr_listR hc, a, ks, rfl, hd, (mkL_ok R (keysD_ok hp) h).2⟩
  · obtain ⟨xs, e2, h⟩ := h.bind
    obtain ⟨a, vs, rfl, h1, h2⟩ := itemsA_ok R rx e2
    exact ⟨_, call_list_of, a, vs, rfl, h1, (mkL_ok R h2 h).2⟩
theorem bSum_ok (hK : X.K = K) (hc : X.calm = true) (R : RelS K mg p B ρ s H) (rx : VD K mg B ρ x v) (h : WO K mg p B ρ (bSum x s) (VD K mg) Q) : ∃ r, CallR X (.builtin "sum") r ∧ r [v] H Q := by
  subst hK
  obtain ⟨xs, e2, h⟩ := WO.bind h
  obtain ⟨ns, e3, h⟩ := h.map
  obtain ⟨a, vs, rfl, h1, h2, _⟩ := items_ok R rx e2
  have := intsOf_ok h2 e3
  subst this
  exact ⟨_, cr_sum hc, a, ns, rfl, h1, h.here R (.int _)⟩
theorem bMin1_ok (hK : X.K = K) (hc : X.calm = true) (R : RelS K mg p B ρ s H) (rx : VD K mg B ρ x v) (h : WO K mg p B ρ (bMin1 x s) (VD K mg) Q) : ∃ r, CallR X (.builtin "min") r ∧ r [v] H Q := by
  subst hK
  obtain ⟨xs, e2, h⟩ := WO.bind h
  obtain ⟨ns, e3, h⟩ := h.bind
  obtain ⟨m, e4, h⟩ := h.map
  obtain ⟨a, vs, rfl, h1, h2, _⟩ := items_ok R rx e2
  have := intsOf_ok h2 e3
  subst this
  obtain ⟨h5, h6⟩ := minL_ok e4
  exact ⟨_, cr_min hc, a, ns, rfl, h1, h5, fun z hz hle => by rw [h6 z hz hle]; exact h.here R (.int _)⟩
theorem bMin2_ok (hc : X.calm = true) (R : RelS K mg p B ρ s H) (rx : VD K mg B ρ x v) (ry : VD K mg B ρ y w) (h : WO K mg p B ρ (bMin2 x y s) (VD K mg) Q) : ∃ r, CallR X (.builtin "min") r ∧ r [v, w] H Q := by
  obtain ⟨i, j, k, rfl, rfl, e, q⟩ := intD_ok R rx ry h
  cases e
  exact ⟨_, call_min2 hc, i, j, rfl, q⟩
theorem bAll_ok (hK : X.K = K) (hc : X.calm = true) (R : RelS K mg p B ρ s H) (rx : VD K mg B ρ x v) (h : WO K mg p B ρ (bAll x s) (VD K mg) Q) : ∃ r, CallR X (.builtin "all") r ∧ r [v] H Q := by
  subst hK
  obtain ⟨xs, e2, h⟩ := WO.bind h
  obtain ⟨ns, e3, h⟩ := h.map
  obtain ⟨a, vs, rfl, h1, h2, _⟩ := items_ok R rx e2
  have := boolsOf_ok h2 e3
  subst this
  exact ⟨_, cr_all hc, a, ns, rfl, h1, h.here R (.bl _)⟩
theorem bAny_ok (hK : X.K = K) (hc : X.calm = true) (R : RelS K mg p B ρ s H) (rx : VD K mg B ρ x v) (h : WO K mg p B ρ (bAny x s) (VD K mg) Q) : ∃ r, CallR X (.builtin "any") r ∧ r [v] H Q := by
  subst hK
  obtain ⟨xs, e2, h⟩ := WO.bind h
  obtain ⟨ns, e3, h⟩ := h.map
  obtain ⟨a, vs, rfl, h1, h2, _⟩ := items_ok R rx e2
  have := boolsOf_ok h2 e3
  subst this
  exact ⟨_, cr_any hc, a, ns, rfl, h1, h.here R (.bl _)⟩
theorem bSorted_ok {own : Bool} (hK : X.K = K) (R : RelS K mg p B ρ s H) (rx : VD K mg B ρ x v) (h : WO K mg p B ρ (bSorted own x s) (VD K mg) Q) : ∃ r, CallR X (.builtin "sorted") r ∧ r [v] H Q := by
  obtain ⟨xs, e2, h⟩ := WO.bind h
  exact sortD_ok hK R rx e2 h
theorem bIsi_ok (hK : X.K = K) (R : RelS K mg p B ρ s H) (rx : VD K mg B ρ x v) (ry : VD K mg B ρ y w) (h : WO K mg p B ρ (bIsi x y s) (VD K mg) Q) : ∃ r, CallR X (.builtin "isinstance") r ∧ r [v, w] H Q := by
  subst hK
  unfold bIsi at h
  obtain ⟨b, e2, h'⟩ := h.map
  have hq : Q (.bl b) H := h'.here R (.bl _)
  clear h h'
  cases ry with
  | ty n =>
    simp only [isTy] at e2
    obtain ⟨m, e3, e4⟩ := Option.bind_eq_some_iff.mp e2
    exact ⟨_, call_isi, _, _, _, _, b, rfl, .ty _, tyOf_ok rfl R rx e3, tyIs_ok e3 e4, hq⟩
  | _ => simp only [isTy] at e2; cases e2
theorem bDict_ok {own : Bool} (hK : X.K = K) (hc : X.calm = true) (R : RelS K mg p B ρ s H) (rx : VD K mg B ρ x v) (h : WO K mg p B ρ (bDict own x s) (VD K mg) Q) : ∃ r, CallR X (.type "dict") r ∧ r [v] H Q := by
  subst hK
  obtain ⟨xs, e2, h⟩ := WO.bind h
  obtain ⟨kvs, e3, h⟩ := h.bind
  obtain ⟨a, vs, rfl, h1, h2, _⟩ := items_ok R rx e2
  obtain ⟨ps, ks, rfl, h3, h4⟩ := tot_ok h2 e3
  exact ⟨_, call_dictP hc, a, ps, ks, rfl, h1, Paired.mono (fun _ _ k => R.sqT k) h3, (mkD_ok R (VDp.merge h4 .nil) h).2⟩
theorem blt_b {x : Str} {vs : List V} {id : String} (hb : bootBuiltins x = some (.builtin id)) (h : ∃ r, CallR X (.builtin id) r ∧ r vs H Q) : Blt X x vs H Q := let ⟨r, h1, h2⟩ := h; .inl ⟨id, r, hb, h1, h2⟩
theorem blt_t {x : Str} {vs : List V} {id : String} (hb : bootBuiltins x = some (.type id)) (h : ∃ r, CallR X (.type id) r ∧ r vs H Q) : Blt X x vs H Q := let ⟨r, h1, h2⟩ := h; .inr ⟨id, r, hb, h1, h2⟩
theorem bltD_ok {f : Str} {own : Bool} {ds : List Dt} {vs : List V} (hK : X.K = K) (hc : X.calm = true) (R : RelS K mg p B ρ s H) (r : VDs K mg B ρ ds vs) (h : WO K mg p B ρ (bltD f own ds s) (VD K mg) Q) : Blt X f vs H Q := by
  cases r with
  | nil => exact h.elim
  | cons rx t =>
    cases t with
    | nil =>
      simp only [bltD, blt1] at h
      by_cases e : f = "len"
      · subst e; exact blt_b (by decide +kernel) (bLen_ok hK R rx h)
      rw [if_neg e] at h; clear e
      by_cases e : f = "list"
      · subst e; exact blt_t (by decide +kernel) (bList_ok hK hc R rx h)
      rw [if_neg e] at h; clear e
      by_cases e : f = "sum"
      · subst e; exact blt_b (by decide +kernel) (bSum_ok hK hc R rx h)
      rw [if_neg e] at h; clear e
      by_cases e : f = "min"
      · subst e; exact blt_b (by decide +kernel) (bMin1_ok hK hc R rx h)
      rw [if_neg e] at h; clear e
      by_cases e : f = "all"
      · subst e; exact blt_b (by decide +kernel) (bAll_ok hK hc R rx h)
      rw [if_neg e] at h; clear e
      by_cases e : f = "any"
      · subst e; exact blt_b (by decide +kernel) (bAny_ok hK hc R rx h)
      rw [if_neg e] at h; clear e
      by_cases e : f = "sorted"
      · subst e; exact blt_b (by decide +kernel) (bSorted_ok hK R rx h)
      rw [if_neg e] at h; clear e
      by_cases e : f = "dict"
      · subst e; exact blt_t (by decide +kernel) (bDict_ok hK hc R rx h)
      rw [if_neg e] at h
      exact h.elim
    | cons ry t =>
      cases t with
      | nil =>
        simp only [bltD, blt2] at h
        by_cases e : f = "min"
        · subst e; exact blt_b (by decide +kernel) (bMin2_ok hc R rx ry h)
        rw [if_neg e] at h; clear e
        by_cases e : f = "isinstance"
        · subst e; exact blt_b (by decide +kernel) (bIsi_ok hK R rx ry h)
        rw [if_neg e] at h
        exact h.elim
      | cons => exact h.elim
end
end
end QQ

namespace QQ
open PySem L2
section
variable {K : PySem.W.Frag} {mg : Str → Option Value} {p B H : Hp} {ρ : List Addr} {s : Mem}
variable {X : Cx} {x y z : Dt} {v w u : V} {Q : VK}
/-- a receiver's type, a dict that is walked too -/
def tyR (K : PySem.W.Frag) (T : String) (x : V) (H : Hp) : Prop := tyV K T x H ∨ (T = "dict" ∧ ∃ a, x = .ref a ∧ IsD H a)
theorem tyR_is {pins : List (Addr × Obj)} {σ : L2.St} {H : Hp} {s : Shared} {T : String} {x : V} {v : Value} (I : Inv X pins σ H s) (r : RelV x v) (ty : tyR X.K T x H) :
    s.TypeIs v T ∧ ∀ a, v = .ref a → ∃ ob, s.heap.get? a = some ob ∧ ob.dict = none := by
  rcases ty with ty | ⟨rfl, a, rfl, d⟩
  · exact tyV_is I r ty
  · obtain rfl : v = Value.ref a := r
    obtain ⟨t1, t2, _⟩ := isD_at I d
    exact ⟨t1, t2⟩
def mid (t : String) (m : Str) : String :=
  if t = "list" then (if m = "append" then "list.append" else if m = "extend" then "list.extend" else "list.pop")
  else (if m = "get" then "dict.get" else if m = "pop" then "dict.pop" else "dict.update")
theorem mid_append : mid "list" "append" = "list.append" := by decide +kernel
theorem mid_extend : mid "list" "extend" = "list.extend" := by decide +kernel
theorem mid_popL : mid "list" "pop" = "list.pop" := by decide +kernel
theorem mid_get : mid "dict" "get" = "dict.get" := by decide +kernel
theorem mid_popD : mid "dict" "pop" = "dict.pop" := by decide +kernel
theorem mid_update : mid "dict" "update" = "dict.update" := by decide +kernel
structure MFact (t : String) (m : Str) : Prop where
  pl : PlainAttrs t
  sl : Slot t m (mid t m)
  ty : typeOf (.builtin (mid t m)) = pure (.type "method_descriptor")
theorem kindD_ok {t : String} {m : Str} (hK : X.K = K) (R : RelS K mg p B ρ s H) (rx : VD K mg B ρ x v) (e : kindD m x s = some t) : tyR X.K t v H ∧ MFact t m := by
  subst hK
  unfold kindD at e
  split at e
  · rename_i kvs e1
    obtain ⟨a, ks, rfl, hd, _⟩ := pairs_ok R rx e1
    split at e
    · rename_i hm
      cases e
      refine ⟨.inr ⟨rfl, a, rfl, .inl ⟨ks, hd⟩⟩, ?_⟩
      rcases hm with rfl | rfl | rfl
      · exact ⟨PySem.F.plainAttrs_dict, by rw [mid_get]; exact PySem.F.slot_dict_get, by rw [mid_get]; exact PySem.F.type_dict_get⟩
      · exact ⟨PySem.F.plainAttrs_dict, by rw [mid_popD]; exact PySem.F.slot_dict_pop, by rw [mid_popD]; exact PySem.F.type_dict_pop⟩
      · exact ⟨PySem.F.plainAttrs_dict, by rw [mid_update]; exact PySem.F.slot_dict_update, by rw [mid_update]; exact PySem.F.type_dict_update⟩
    · cases e
  · split at e
    · rename_i xs e1
      obtain ⟨a, vs, rfl, h1, _, _⟩ := items_ok R rx e1
      split at e
      · rename_i hm
        cases e
        refine ⟨.inl (.inl ⟨rfl, vs, h1⟩), ?_⟩
        rcases hm with rfl | rfl | rfl
        · exact ⟨PySem.F.plainAttrs_list, by rw [mid_append]; exact PySem.F.slot_list_append, by rw [mid_append]; exact PySem.F.type_list_append⟩
        · exact ⟨PySem.F.plainAttrs_list, by rw [mid_extend]; exact PySem.F.slot_list_extend, by rw [mid_extend]; exact PySem.F.type_list_extend⟩
        · exact ⟨PySem.F.plainAttrs_list, by rw [mid_popL]; exact PySem.F.slot_list_pop, by rw [mid_popL]; exact PySem.F.type_list_pop⟩
      · cases e
    · cases e
/-- a built-in's method by its type and name -/
def Mtx (X : Cx) (T : String) (m : Str) (x : V) (vs : List V) (H : Hp) (Q : VK) : Prop := ∃ r, MtR X (mid T m) r ∧ r x vs H Q
theorem mx_append : MtR X (mid "list" "append") rAppend := by rw [mid_append]; exact mt_append
theorem mx_extend : MtR X (mid "list" "extend") rExtend := by rw [mid_extend]; exact mt_extend
theorem mx_popAt : MtR X (mid "list" "pop") rPopAt := by rw [mid_popL]; exact mt_popAt
theorem mAppend_ok (R : RelS K mg p B ρ s H) (rx : VD K mg B ρ x v) (ry : VD K mg B ρ y w) (h : WO K mg p B ρ (mAppend x y s) (VD K mg) Q) : Mtx X "list" "append" v [w] H Q := by
  cases x with
  | loc l =>
    obtain ⟨a, rfl, hl⟩ := loc_inv rx
    simp only [mAppend] at h
    split at h
    · rename_i xs e
      obtain ⟨o, hH, hB, r⟩ := live_at R hl e
      cases o <;> simp only [ObR] at r
      rename_i vs
      split at h
      · rename_i hz
        refine ⟨_, mx_append, a, vs, w, rfl, rfl, hH, by rw [← r.length]; exact hz, ?_⟩
        exact h B ρ _ _ Ext.refl (R.put hl hB hH rfl (o := .lst (xs ++ [y])) (u := .lst (vs ++ [w])) (r.append (.one ry))) .non
      · exact h.elim
    · exact h.elim
  | _ => exact h.elim
theorem mExtend_ok (R : RelS K mg p B ρ s H) (rx : VD K mg B ρ x v) (ry : VD K mg B ρ y w) (h : WO K mg p B ρ (mExtend x y s) (VD K mg) Q) : Mtx X "list" "extend" v [w] H Q := by
  cases x with
  | loc l =>
    obtain ⟨a, rfl, hl⟩ := loc_inv rx
    simp only [mExtend] at h
    split at h
    · rename_i xs e
      obtain ⟨o, hH, hB, r⟩ := live_at R hl e
      cases o <;> simp only [ObR] at r
      rename_i vs
      split at h
      · exact h.elim
      · rename_i nf
        obtain ⟨ys, e2, h⟩ := h.bind
        obtain ⟨b, us, rfl, _, h2, h3⟩ := items_ok R ry e2
        split at h
        · rename_i hz
          refine ⟨_, mx_extend, a, b, vs, us, rfl, rfl, hH, h3 (fun ys e => nf ys e), by rw [← r.length, ← h2.length]; exact hz, ?_⟩
          exact h B ρ _ _ Ext.refl (R.put hl hB hH rfl (o := .lst (xs ++ ys)) (u := .lst (vs ++ us)) (r.append h2)) .non
        · exact h.elim
    · exact h.elim
  | _ => exact h.elim
theorem mPopL_ok (R : RelS K mg p B ρ s H) (rx : VD K mg B ρ x v) (ry : VD K mg B ρ y w) (h : WO K mg p B ρ (mPopL x y s) (VD K mg) Q) : Mtx X "list" "pop" v [w] H Q := by
  cases x with
  | loc l =>
    obtain ⟨a, rfl, hl⟩ := loc_inv rx
    simp only [mPopL] at h
    split at h
    · rename_i xs e
      obtain ⟨o, hH, hB, r⟩ := live_at R hl e
      cases o <;> simp only [ObR] at r
      rename_i vs
      cases ry with
      | int j =>
        simp only at h
        split at h
        · rename_i hj
          obtain ⟨d, e2, h⟩ := h.map
          obtain ⟨u, hu, ru⟩ := r.get e2
          have hlt : j.toNat < vs.length := (List.getElem?_eq_some_iff.mp hu).1
          have hix : seqIndex? j vs.length = some j.toNat := (ixN_seq (n := vs.length) (i := j) (j := j.toNat) (by unfold ixN; rw [if_pos hj.1, if_pos (by omega)])).1
          refine ⟨_, mx_popAt, a, vs, j, j.toNat, u, rfl, rfl, hH, by omega, hj.2, hix, hu, ?_⟩
          exact h B ρ _ _ Ext.refl (R.put hl hB hH rfl (o := .lst (xs.eraseIdx j.toNat)) (u := .lst (vs.eraseIdx j.toNat)) (r.eraseIdx _)) ru
        · exact h.elim
      | _ => exact h.elim
    · exact h.elim
  | _ => exact h.elim
def rPopK : V → List V → Hp → VK → Prop := fun x vs H Q => ∃ a ks k u, x = .ref a ∧ vs = [kV k] ∧ H a = some (.dK ks) ∧ valV ks k = some u ∧ Q u (upd H a (.dK (dropK ks k)))
theorem mt_popK : MtR X "dict.pop" rPopK := by
  intro pins s σ H x xs v us Q I rx r ⟨a, ks, k, u, ex, es, hH, hv, q⟩
  subst ex es
  obtain rfl : v = Value.ref a := rx
  obtain ⟨w, rfl, rw'⟩ := vals1 r
  exact d_pop I hH rw' hv (.inl rfl) fun w' s' I' r' => ⟨u, _, I', r', q⟩
theorem mx_popK : MtR X (mid "dict" "pop") rPopK := by rw [mid_popD]; exact mt_popK
theorem mPopD_ok (R : RelS K mg p B ρ s H) (rx : VD K mg B ρ x v) (ry : VD K mg B ρ y w) (h : WO K mg p B ρ (mPopD x y s) (VD K mg) Q) : Mtx X "dict" "pop" v [w] H Q := by
  cases x with
  | loc l =>
    obtain ⟨a, rfl, hl⟩ := loc_inv rx
    simp only [mPopD] at h
    split at h
    · rename_i kvs e
      obtain ⟨o, hH, hB, r⟩ := live_at R hl e
      cases o <;> simp only [ObR] at r
      rename_i ks
      obtain ⟨k, e2, h⟩ := h.bind
      obtain ⟨d, e3, h⟩ := h.map
      obtain rfl := keyD_ok ry e2
      rcases r.get (k := k) with ⟨h1, _⟩ | ⟨d', u, h1, h2, h3⟩
      · rw [h1] at e3; cases e3
      · rw [h1] at e3
        cases e3
        refine ⟨_, mx_popK, a, ks, k, u, rfl, rfl, hH, h2, ?_⟩
        exact h B ρ _ _ Ext.refl (R.put hl hB hH rfl (o := .dct (kDrop kvs k)) (u := .dK (dropK ks k)) r.kdrop) h3
    · exact h.elim
  | _ => exact h.elim
def rGetK1 : V → List V → Hp → VK → Prop := fun x vs H Q => ∃ a y o, x = .ref a ∧ vs = [y] ∧ DGet H a y o ∧ Q (o.getD .non) H
theorem mt_getK1 (hu : X.A.units + 1 < cLine) : MtR X "dict.get" rGetK1 := by
  intro pins s σ H x xs v us Q I rx r ⟨a, y, o, ex, es, g, q⟩
  subst ex es
  obtain rfl : v = Value.ref a := rx
  obtain ⟨w, rfl, rw'⟩ := vals1 r
  exact d_get1 hu I g rw' fun w' s' I' r' => ⟨_, H, I', r', q⟩
theorem mx_getK1 (hu : X.A.units + 1 < cLine) : MtR X (mid "dict" "get") rGetK1 := by rw [mid_get]; exact mt_getK1 hu
def rGetK2 : V → List V → Hp → VK → Prop := fun x vs H Q => ∃ a y z o, x = .ref a ∧ vs = [y, z] ∧ DGet H a y o ∧ Q (o.getD z) H
theorem mt_getK2 (hu : X.A.units + 1 < cLine) : MtR X "dict.get" rGetK2 := by
  intro pins s σ H x xs v us Q I rx r ⟨a, y, z, o, ex, es, g, q⟩
  subst ex es
  obtain rfl : v = Value.ref a := rx
  obtain ⟨w1, w2, rfl, r1, r2⟩ := vals2 r
  exact d_get2 hu I g r1 r2 fun w' s' I' r' => ⟨_, H, I', r', q⟩
theorem mx_getK2 (hu : X.A.units + 1 < cLine) : MtR X (mid "dict" "get") rGetK2 := by rw [mid_get]; exact mt_getK2 hu
theorem mGet1_ok (hu : X.A.units + 1 < cLine) (R : RelS K mg p B ρ s H) (rx : VD K mg B ρ x v) (ry : VD K mg B ρ y w) (h : WO K mg p B ρ (mGet1 x y s) (VD K mg) Q) : Mtx X "dict" "get" v [w] H Q := by
  obtain ⟨kvs, e1, h⟩ := WO.bind h
  obtain ⟨k, e2, h⟩ := h.map
  obtain ⟨a, ks, rfl, hd, hp⟩ := pairs_ok R rx e1
  obtain rfl := keyD_ok ry e2
  refine ⟨_, mx_getK1 hu, ?_⟩
  rcases dget_of (k := k) hd hp with ⟨h1, h2⟩ | ⟨d, u, h1, h3, h2⟩
  · rw [h1] at h
    exact ⟨a, _, _, rfl, rfl, h2, h.here R .non⟩
  · rw [h1] at h
    exact ⟨a, _, _, rfl, rfl, h2, h.here R h3⟩
theorem mGet2_ok (hu : X.A.units + 1 < cLine) (R : RelS K mg p B ρ s H) (rx : VD K mg B ρ x v) (ry : VD K mg B ρ y w) (rz : VD K mg B ρ z u) (h : WO K mg p B ρ (mGet2 x y z s) (VD K mg) Q) : Mtx X "dict" "get" v [w, u] H Q := by
  obtain ⟨kvs, e1, h⟩ := WO.bind h
  obtain ⟨k, e2, h⟩ := h.map
  obtain ⟨a, ks, rfl, hd, hp⟩ := pairs_ok R rx e1
  obtain rfl := keyD_ok ry e2
  refine ⟨_, mx_getK2 hu, ?_⟩
  rcases dget_of (k := k) hd hp with ⟨h1, h2⟩ | ⟨d, u', h1, h3, h2⟩
  · rw [h1] at h
    exact ⟨a, _, _, _, rfl, rfl, h2, h.here R rz⟩
  · rw [h1] at h
    exact ⟨a, _, _, _, rfl, rfl, h2, h.here R h3⟩
def rUpdK : V → List V → Hp → VK → Prop := fun x vs H Q => ∃ a b ks ms, x = .ref a ∧ vs = [.ref b] ∧ a ≠ b ∧ H a = some (.dK ks) ∧ Rd H b (.dK ms) ∧ ks.length + ms.length ≤ sizeLine ∧ Q .non (upd H a (.dK (mergeK ks ms)))
theorem mt_updK : MtR X "dict.update" rUpdK := by
  intro pins s σ H x xs v us Q I rx r ⟨a, b, ks, ms, ex, es, hab, hH, hb, hz, q⟩
  subst ex es
  obtain rfl : v = Value.ref a := rx
  obtain ⟨w, rfl, rw'⟩ := vals1 r
  obtain rfl : w = Value.ref b := rw'
  obtain ⟨z1, n1, es1, r1, d1⟩ := dk_of I.hok hH
  obtain ⟨z2, n2, es2, r2, d2⟩ := dk_rd I.hok hb
  have l1 : ks.length = es1.length := r1.length
  have l2 : ms.length = es2.length := r2.length
  refine PySem.call_meetsIn PySem.F.slot_dict_update d1.typeIs PySem.F.entry_dict_update (PySem.F.args_dict_update_2 _ _) (meets_dict_update (mixKind X.prog X.w) a b hab n2) ⟨es1, es2, d1, d2, by omega, fun h' d1' d2' sb => ?_⟩
  have he : ∃ o, h'.get? a = some o := let ⟨o, _, _, ho, _⟩ := d1'; ⟨o, ho⟩
  have hl : (mergeK ks ms).length ≤ sizeLine := Nat.le_trans (length_mergeK ms ks) hz
  exact ⟨.non, _, d_write (t' := s.toks) I (by rw [hH]; trivial) sb he (dk_new hl n1 (KV.merge r2 r1) d1'), rfl, q⟩
theorem mx_updK : MtR X (mid "dict" "update") rUpdK := by rw [mid_update]; exact mt_updK
theorem mUpdate_ok (R : RelS K mg p B ρ s H) (rx : VD K mg B ρ x v) (ry : VD K mg B ρ y w) (h : WO K mg p B ρ (mUpdate x y s) (VD K mg) Q) : Mtx X "dict" "update" v [w] H Q := by
  cases x with
  | loc l =>
    obtain ⟨a, rfl, hl⟩ := loc_inv rx
    simp only [mUpdate] at h
    split at h
    · rename_i kvs e
      obtain ⟨o, hH, hB, r⟩ := live_at R hl e
      cases o <;> simp only [ObR] at r
      rename_i ks
      split at h
      · exact h.elim
      · rename_i hn
        obtain ⟨more, e2, h⟩ := h.bind
        split at h
        · rename_i hz
          obtain ⟨b, ms, rfl, hd, hp⟩ := pairs_ok R ry e2
          have hab : a ≠ b := by
            intro z
            subst z
            cases ry with
            | @loc l' _ hl' =>
              have : l' = l := by
                obtain ⟨i1, q1⟩ := List.getElem?_eq_some_iff.mp hl
                obtain ⟨i2, q2⟩ := List.getElem?_eq_some_iff.mp hl'
                exact (List.getElem_inj R.nd).mp (q2.trans q1.symm)
              subst this
              exact hn (by simp [isLoc])
            | dct h1 _ => rw [hB] at h1; cases h1
            | _ => cases e2
          refine ⟨_, mx_updK, a, b, ks, ms, rfl, rfl, hab, hH, hd, by rw [← r.length, ← hp.length]; exact hz, ?_⟩
          exact h B ρ _ _ Ext.refl (R.put hl hB hH rfl (o := .dct (kMerge kvs more)) (u := .dK (mergeK ks ms)) (hp.merge r)) .non
        · exact h.elim
    · exact h.elim
  | _ => exact h.elim
theorem mtdD_ok {t : String} {m : Str} {own : Bool} {ds : List Dt} {vs : List V} (hu : X.A.units + 1 < cLine) (R : RelS K mg p B ρ s H) (rx : VD K mg B ρ x v) (r : VDs K mg B ρ ds vs) (h : WO K mg p B ρ (mtdD t m own x ds s) (VD K mg) Q) : Mtx X t m v vs H Q := by
  cases r with
  | nil => exact h.elim
  | cons r1 r =>
    cases r with
    | nil =>
      simp only [mtdD, mtd1] at h
      by_cases e : t = "list"
      · subst e
        rw [if_pos rfl] at h
        by_cases e : m = "append"
        · subst e; exact mAppend_ok R rx r1 h
        rw [if_neg e] at h; clear e
        by_cases e : m = "extend"
        · subst e; exact mExtend_ok R rx r1 h
        rw [if_neg e] at h; clear e
        by_cases e : m = "pop"
        · subst e; exact mPopL_ok R rx r1 h
        rw [if_neg e] at h
        exact h.elim
      rw [if_neg e] at h; clear e
      by_cases e : t = "dict"
      · subst e
        rw [if_pos rfl] at h
        by_cases e : m = "get"
        · subst e; exact mGet1_ok hu R rx r1 h
        rw [if_neg e] at h; clear e
        by_cases e : m = "pop"
        · subst e; exact mPopD_ok R rx r1 h
        rw [if_neg e] at h; clear e
        by_cases e : m = "update"
        · subst e; exact mUpdate_ok R rx r1 h
        rw [if_neg e] at h
        exact h.elim
      rw [if_neg e] at h
      exact h.elim
    | cons r2 r =>
      cases r with
      | nil =>
        simp only [mtdD, mtd2] at h
        by_cases e : t = "dict"
        · subst e
          rw [if_pos rfl] at h
          by_cases e : m = "get"
          · subst e; exact mGet2_ok hu R rx r1 r2 h
          rw [if_neg e] at h
          exact h.elim
        rw [if_neg e] at h
        exact h.elim
      | cons => exact h.elim
end
end QQ

/-! QQ, part c: the syntax, held against the program's text; each construct by its rule. -/
namespace QQ
open PySem L2
section
variable {K : PySem.W.Frag} {mg : Str → Option Value} {W : WX} {X : Cx}
theorem pe_of {e : Expr} {t : TE} {f : Fra → M Dt} (h : PE X e t) (k : ∀ σ H Q, T K mg W f σ H Q → t σ H Q) : PE X e (T K mg W f) := ⟨fun pins s σ H Q I q => h.run pins s σ H Q I (k σ H Q q)⟩
theorem pt_of {e : Expr} {t : TT} {f : Fra → M Bool} (h : PT X e t) (k : ∀ σ H Q, TB K mg W f σ H Q → t σ H Q) : PT X e (TB K mg W f) := ⟨fun pins s σ H Q I q => h.run pins s σ H Q I (k σ H Q q)⟩
theorem pw_of {e : Expr} {t : TT} {f : Fra → M Bool} (h : PW X e t) (k : ∀ σ H Q, TB K mg W f σ H Q → t σ H Q) : PW X e (TB K mg W f) := ⟨fun wh pins s σ H Q I q => h.run wh pins s σ H Q I (k σ H Q q)⟩
theorem pa_of {e : List Expr} {t : TA} {f : Fra → M (List Dt)} (h : PA X e t) (k : ∀ σ H Q, TL K mg W f σ H Q → t σ H Q) : PA X e (TL K mg W f) := ⟨fun pos pins s σ H Q I q => h.run pos pins s σ H Q I (k σ H Q q)⟩
section
variable {σ : L2.St} {H : Hp} {p B : Hp} {ρ : List Addr} {φ : Fra} {s : Mem}
theorem WR.pure {α β : Type} {a : α} {b : β} {V' : Hp → List Addr → α → β → Prop} {Q : β → Hp → Prop} (h : WR K mg W σ p B ρ ((pure a : M α) s) V' Q) (R : RelS K mg p B ρ s H) (v : V' B ρ a b) : Q b H := h B ρ H b Ext.refl R v
/-- one expression, then what hangs on it -/
theorem step1 {α β : Type} {fa : Fra → M Dt} {k : Dt → M α} {V' : Hp → List Addr → α → β → Prop} {Q : β → Hp → Prop} {R' : V → Hp → Prop} (R : RelS K mg p B ρ s H) (F : FrR K mg B ρ φ σ) (h : WR K mg W σ p B ρ ((fa φ >>= k) s) V' Q)
    (hk : ∀ d v p' B' ρ' s' H', p' = p → Ext B ρ B' ρ' → RelS K mg p' B' ρ' s' H' → FrR K mg B' ρ' φ σ → VD K mg B' ρ' d v → WR K mg W σ p' B' ρ' (k d s') V' Q → R' v H') : T K mg W fa σ H R' :=
  ⟨p, B, ρ, φ, s, R, F, (WR.bind h).mono fun v H' ⟨B', ρ', s', d, x, r, q, w⟩ => hk d v p B' ρ' s' H' rfl x r (F.ext x) q w⟩
theorem stepB {α β : Type} {fa : Fra → M Bool} {k : Bool → M α} {V' : Hp → List Addr → α → β → Prop} {Q : β → Hp → Prop} {R' : Bool → Hp → Prop} (R : RelS K mg p B ρ s H) (F : FrR K mg B ρ φ σ) (h : WR K mg W σ p B ρ ((fa φ >>= k) s) V' Q)
    (hk : ∀ d B' ρ' s' H', Ext B ρ B' ρ' → RelS K mg p B' ρ' s' H' → FrR K mg B' ρ' φ σ → WR K mg W σ p B' ρ' (k d s') V' Q → R' d H') : TB K mg W fa σ H R' :=
  ⟨p, B, ρ, φ, s, R, F, (WR.bind (V1 := fun _ _ (a b : Bool) => a = b) h).mono fun v H' ⟨B', ρ', s', d, x, r, q, w⟩ => q ▸ hk d B' ρ' s' H' x r (F.ext x) w⟩
theorem stepL {α β : Type} {fa : Fra → M (List Dt)} {k : List Dt → M α} {V' : Hp → List Addr → α → β → Prop} {Q : β → Hp → Prop} {R' : List V → Hp → Prop} (R : RelS K mg p B ρ s H) (F : FrR K mg B ρ φ σ) (h : WR K mg W σ p B ρ ((fa φ >>= k) s) V' Q)
    (hk : ∀ d v B' ρ' s' H', Ext B ρ B' ρ' → RelS K mg p B' ρ' s' H' → FrR K mg B' ρ' φ σ → VDs K mg B' ρ' d v → WR K mg W σ p B' ρ' (k d s') V' Q → R' v H') : TL K mg W fa σ H R' :=
  ⟨p, B, ρ, φ, s, R, F, (WR.bind (V1 := VDs K mg) h).mono fun v H' ⟨B', ρ', s', d, x, r, q, w⟩ => hk d v B' ρ' s' H' x r (F.ext x) q w⟩
end
variable {a b c e : Expr} {fa fb fc : Fra → M Dt} {pos : Pos}
theorem q_var {i : Nat} {x : Str} (hN : X.N[i]? = some x) (hv : Vis X.env.scope x) (hd : (x == ("__debug__" : Str)) = false) (hcd : (x == ("__classdict__" : Str)) = false) : PE X (.Name x pos) (T K mg W fun φ => ofO (φ[i]?.join)) := by
  refine pe_of (pe_var hN hv hd hcd) fun σ H Q ⟨p, B, ρ, φ, s, R, F, h⟩ => ?_
  have h : WE K mg W σ p B ρ (ofO (φ[i]?.join) s) Q := h
  cases q : φ[i]?.join with
  | none => rw [q] at h; exact h.elim
  | some d =>
    rw [q] at h
    obtain ⟨v, h1, h2⟩ := F.get i d (Option.join_eq_some_iff.mp q)
    exact ⟨v, h1, h.pure R h2⟩
theorem q_cst {d : Dt} {v : V} (h : PE X e (tC v)) (hv : ∀ B ρ, VD K mg B ρ d v) : PE X e (T K mg W fun _ => pure d) :=
  pe_of h fun σ H Q ⟨p, B, ρ, φ, s, R, F, h⟩ => h.pure R (hv B ρ)
theorem q_bin {op : Operator} {own : Bool} (ha : PE X a (T K mg W fa)) (hb : PE X b (T K mg W fb)) : PE X (.BinOp a op b pos) (T K mg W fun φ => do let x ← fa φ; let y ← fb φ; lift (binD op own x y)) := by
  refine pe_of (pe_op opr_x ha hb) fun σ H Q ⟨p, B, ρ, φ, s, R, F, h⟩ => step1 R F h fun x v p1 B1 ρ1 s1 H1 e1 x1 R1 F1 v1 h1 => ?_
  subst e1
  exact step1 R1 F1 h1 fun y w p2 B2 ρ2 s2 H2 e2 x2 R2 F2 v2 h2 => by subst e2; exact binD_ok R2 (v1.ext x2) v2 h2.lift
theorem q_cmp {op : CmpOp} (hK : X.K = K) (hu : X.A.units + 65 < cLine) (hm : behindInMarks op b = false) (ha : PE X a (T K mg W fa)) (hb : PE X b (T K mg W fb)) :
    PE X (.Compare a [op] [b] pos) (T K mg W fun φ => do let x ← fa φ; let y ← fb φ; let c ← rd (cmpD op x y); pure (.bl c)) := by
  refine pe_of (pe_cmpR opr_x ha hb hm) fun σ H Q ⟨p, B, ρ, φ, s, R, F, h⟩ => step1 R F h fun x v p1 B1 ρ1 s1 H1 e1 x1 R1 F1 v1 h1 => ?_
  subst e1
  refine step1 R1 F1 h1 fun y w p2 B2 ρ2 s2 H2 e2 x2 R2 F2 v2 h2 => ?_
  subst e2
  obtain ⟨c, e, h3⟩ := h2.rdb
  exact cmpD_ok hK hu R2 (v1.ext x2) v2 e (h3.pure R2 (.bl c))
/-- the same as a test -/
theorem q_cmpT {op : CmpOp} (hK : X.K = K) (hu : X.A.units + 65 < cLine) (hm : behindInMarks op b = false) (ha : PE X a (T K mg W fa)) (hb : PE X b (T K mg W fb)) :
    PT X (.Compare a [op] [b] pos) (TB K mg W fun φ => do let z ← (do let x ← fa φ; let y ← fb φ; let c ← rd (cmpD op x y); pure (.bl c)); rd (trueD z)) := by
  refine pt_of (pt_cmpR opr_x ha hb hm) fun σ H Q ⟨p, B, ρ, φ, s, R, F, h⟩ => ?_
  simp only [bind_assoc_M, pure_bind_M] at h
  refine step1 R F h fun x v p1 B1 ρ1 s1 H1 e1 x1 R1 F1 v1 h1 => ?_
  subst e1
  refine step1 R1 F1 h1 fun y w p2 B2 ρ2 s2 H2 e2 x2 R2 F2 v2 h2 => ?_
  subst e2
  obtain ⟨c, e, h3⟩ := h2.rdb
  obtain ⟨c', e', h4⟩ := h3.rd
  cases e'
  exact cmpD_ok hK hu R2 (v1.ext x2) v2 e ⟨c, rfl, h4 B2 ρ2 H2 c Ext.refl R2 rfl⟩

theorem nofold {op : CmpOp} {b : Expr} (h : ∀ xs k p, b ≠ .Set xs k p) : behindInMarks op b = false := by
  cases b with
  | Set xs k p => exact absurd rfl (h xs k p)
  | _ => rfl
theorem q_chn {o1 o2 : CmpOp} (hK : X.K = K) (hu : X.A.units + 65 < cLine) (hm : lastMarks [o1, o2] [b, c] = false) (ha : PE X a (T K mg W fa)) (hb : PE X b (T K mg W fb)) (hc : PE X c (T K mg W fc)) :
    PE X (.Compare a [o1, o2] [b, c] pos) (T K mg W fun φ => do let x ← fa φ; let y ← fb φ; let k ← rd (cmpD o1 x y); if k = true then (do let z ← fc φ; let k2 ← rd (cmpD o2 y z); pure (.bl k2)) else pure (.bl false)) := by
  refine pe_of (pe_chain opr_x opr_x ha hb hc hm) fun σ H Q ⟨p, B, ρ, φ, s, R, F, h⟩ => step1 R F h fun x v p1 B1 ρ1 s1 H1 e1 x1 R1 F1 v1 h1 => ?_
  subst e1
  refine step1 R1 F1 h1 fun y w p2 B2 ρ2 s2 H2 e2 x2 R2 F2 v2 h2 => ?_
  subst e2
  obtain ⟨k, e, h3⟩ := h2.rdb
  refine cmpD_ok hK hu R2 (v1.ext x2) v2 e ⟨k, rfl, ?_⟩
  cases k with
  | false =>
    rw [if_neg Bool.false_ne_true] at h3 ⊢
    exact h3.pure R2 (.bl false)
  | true =>
    rw [if_pos rfl] at h3 ⊢
    refine step1 R2 F2 h3 fun z u p3 B3 ρ3 s3 H3 e3 x3 R3 F3 v3 h4 => ?_
    subst e3
    obtain ⟨k2, e', h5⟩ := h4.rdb
    exact cmpD_ok hK hu R3 (v2.ext x3) v3 e' (h5.pure R3 (.bl k2))
theorem q_chnT {o1 o2 : CmpOp} (hK : X.K = K) (hu : X.A.units + 65 < cLine) (hm : lastMarks [o1, o2] [b, c] = false) (ha : PE X a (T K mg W fa)) (hb : PE X b (T K mg W fb)) (hc : PE X c (T K mg W fc)) :
    PT X (.Compare a [o1, o2] [b, c] pos) (TB K mg W fun φ => do
      let z ← (do let x ← fa φ; let y ← fb φ; let k ← rd (cmpD o1 x y); if k = true then (do let z ← fc φ; let k2 ← rd (cmpD o2 y z); pure (.bl k2)) else pure (.bl false))
      rd (trueD z)) := by
  refine pt_of (pt_chain opr_x opr_x ha hb hc hm) fun σ H Q ⟨p, B, ρ, φ, s, R, F, h⟩ => ?_
  simp only [bind_assoc_M] at h
  refine step1 R F h fun x v p1 B1 ρ1 s1 H1 e1 x1 R1 F1 v1 h1 => ?_
  subst e1
  refine step1 R1 F1 h1 fun y w p2 B2 ρ2 s2 H2 e2 x2 R2 F2 v2 h2 => ?_
  subst e2
  obtain ⟨k, e, h3⟩ := h2.rdb
  refine cmpD_ok hK hu R2 (v1.ext x2) v2 e ⟨k, rfl, ?_⟩
  cases k with
  | false =>
    rw [if_neg Bool.false_ne_true] at h3 ⊢
    rw [pure_bind_M] at h3
    obtain ⟨c', e', h4⟩ := h3.rd
    cases e'
    exact ⟨false, rfl, h4 B2 ρ2 H2 false Ext.refl R2 rfl⟩
  | true =>
    rw [if_pos rfl] at h3 ⊢
    simp only [bind_assoc_M] at h3
    refine step1 R2 F2 h3 fun z u p3 B3 ρ3 s3 H3 e3 x3 R3 F3 v3 h4 => ?_
    subst e3
    obtain ⟨k2, e', h5⟩ := h4.rdb
    rw [pure_bind_M] at h5
    obtain ⟨c', e2, h6⟩ := h5.rd
    cases e2
    exact cmpD_ok hK hu R3 (v2.ext x3) v3 e' ⟨_, rfl, h6 B3 ρ3 H3 _ Ext.refl R3 rfl⟩
/-- a test of a value -/
theorem q_tru (hK : X.K = K) (ha : PE X a (T K mg W fa)) (he : ∀ whole, isTrue a X.env whole = (do let v ← whole; standAt a.pos; holding [v] (truthy v))) :
    PT X a (TB K mg W fun φ => do let x ← fa φ; rd (trueD x)) := by
  refine pt_of (pt_truth ha he) fun σ H Q ⟨p, B, ρ, φ, s, R, F, h⟩ => step1 R F h fun x v p1 B1 ρ1 s1 H1 e1 x1 R1 F1 v1 h1 => ?_
  subst e1
  obtain ⟨b, e, h2⟩ := h1.rd
  exact ⟨b, trueD_ok hK R1 v1 e, h2 B1 ρ1 H1 b Ext.refl R1 rfl⟩
theorem q_not (ha : PE X a (T K mg W fa)) : PE X (.UnaryOp .Not a pos) (T K mg W fun φ => do let x ← fa φ; match x with | .bl b => pure (.bl (!b)) | _ => stuck) := by
  refine pe_of (pe_not ha) fun σ H Q ⟨p, B, ρ, φ, s, R, F, h⟩ => step1 R F h fun x v p1 B1 ρ1 s1 H1 e1 x1 R1 F1 v1 h1 => ?_
  subst e1
  cases v1 <;> first | exact h1.elim | skip
  exact ⟨_, rfl, h1.pure R1 (.bl _)⟩
variable {ga gb : Fra → M Bool}
theorem q_notT (ha : PT X a (TB K mg W ga)) : PT X (.UnaryOp .Not a pos) (TB K mg W fun φ => do let b ← ga φ; pure (!b)) := by
  refine pt_of (pt_not ha) fun σ H Q ⟨p, B, ρ, φ, s, R, F, h⟩ => stepB R F h fun d B1 ρ1 s1 H1 x1 R1 F1 h1 => ?_
  exact h1.pure R1 rfl
theorem q_ife (hc : PT X c (TB K mg W ga)) (ha : PE X a (T K mg W fa)) (hb : PE X b (T K mg W fb)) : PE X (.IfExp c a b pos) (T K mg W fun φ => do let t ← ga φ; if t = true then fa φ else fb φ) := by
  refine pe_of (pe_ifExp hc ha hb) fun σ H Q ⟨p, B, ρ, φ, s, R, F, h⟩ => stepB R F h fun d B1 ρ1 s1 H1 x1 R1 F1 h1 => ?_
  cases d with
  | true => exact ⟨p, B1, ρ1, φ, s1, R1, F1, h1⟩
  | false => exact ⟨p, B1, ρ1, φ, s1, R1, F1, h1⟩
/-! and, or -/
variable {es : List Expr}
theorem q_and (ha : PE X a (T K mg W fa)) (hb : PE X (.BoolOp .And (b :: es) pos) (T K mg W fb)) :
    PE X (.BoolOp .And (a :: b :: es) pos) (T K mg W fun φ => do let x ← fa φ; match x with | .bl c => (if c = true then fb φ else pure (.bl c)) | _ => stuck) := by
  refine pe_of (pe_and ha hb) fun σ H Q ⟨p, B, ρ, φ, s, R, F, h⟩ => step1 R F h fun x v p1 B1 ρ1 s1 H1 e1 x1 R1 F1 v1 h1 => ?_
  subst e1
  cases v1 <;> first | exact h1.elim | skip
  rename_i c
  refine ⟨c, rfl, ?_⟩
  cases c with
  | true => exact ⟨_, B1, ρ1, φ, s1, R1, F1, h1⟩
  | false => exact h1.pure R1 (.bl false)
theorem q_or (ha : PE X a (T K mg W fa)) (hb : PE X (.BoolOp .Or (b :: es) pos) (T K mg W fb)) :
    PE X (.BoolOp .Or (a :: b :: es) pos) (T K mg W fun φ => do let x ← fa φ; match x with | .bl c => (if c = false then fb φ else pure (.bl c)) | _ => stuck) := by
  refine pe_of (pe_or ha hb) fun σ H Q ⟨p, B, ρ, φ, s, R, F, h⟩ => step1 R F h fun x v p1 B1 ρ1 s1 H1 e1 x1 R1 F1 v1 h1 => ?_
  subst e1
  cases v1 <;> first | exact h1.elim | skip
  rename_i c
  refine ⟨c, rfl, ?_⟩
  cases c with
  | true => exact h1.pure R1 (.bl true)
  | false => exact ⟨_, B1, ρ1, φ, s1, R1, F1, h1⟩
theorem q_andT (ha : PT X a (TB K mg W ga)) (hb : PW X (.BoolOp .And (b :: es) pos) (TB K mg W gb)) : PW X (.BoolOp .And (a :: b :: es) pos) (TB K mg W fun φ => do let b ← ga φ; if b = true then gb φ else pure b) := by
  refine pw_of (pw_and ha hb) fun σ H Q ⟨p, B, ρ, φ, s, R, F, h⟩ => stepB R F h fun d B1 ρ1 s1 H1 x1 R1 F1 h1 => ?_
  cases d with
  | true => exact ⟨p, B1, ρ1, φ, s1, R1, F1, h1⟩
  | false => exact h1.pure R1 rfl
theorem q_orT (ha : PT X a (TB K mg W ga)) (hb : PW X (.BoolOp .Or (b :: es) pos) (TB K mg W gb)) : PW X (.BoolOp .Or (a :: b :: es) pos) (TB K mg W fun φ => do let b ← ga φ; if b = false then gb φ else pure b) := by
  refine pw_of (pw_or ha hb) fun σ H Q ⟨p, B, ρ, φ, s, R, F, h⟩ => stepB R F h fun d B1 ρ1 s1 H1 x1 R1 F1 h1 => ?_
  cases d with
  | false => exact ⟨p, B1, ρ1, φ, s1, R1, F1, h1⟩
  | true => exact h1.pure R1 rfl
/-! argument lists, displays, items -/
variable {la : Fra → M (List Dt)}
def noStar : Expr → Bool
  | .Starred _ _ => false
  | _ => true
theorem star_ok (h : noStar e = true) : starEach (e :: es) X.env = (false, eval e X.env) :: starEach es X.env := by
  cases e <;> first | rfl | cases h
theorem q_nil : PA X [] (TL K mg W fun _ => pure []) := pa_of pa_nil fun σ H Q ⟨p, B, ρ, φ, s, R, F, h⟩ => WR.pure (b := []) h R .nil
theorem q_cons (hn : noStar e = true) (ha : PE X e (T K mg W fa)) (hb : PA X es (TL K mg W la)) : PA X (e :: es) (TL K mg W fun φ => do let x ← fa φ; let xs ← la φ; pure (x :: xs)) := by
  refine pa_of (pa_cons ha hb (star_ok hn)) fun σ H Q ⟨p, B, ρ, φ, s, R, F, h⟩ => step1 R F h fun x v p1 B1 ρ1 s1 H1 e1 x1 R1 F1 v1 h1 => ?_
  subst e1
  exact stepL R1 F1 h1 fun y w B2 ρ2 s2 H2 x2 R2 F2 v2 h2 => h2.pure R2 (.cons (v1.ext x2) v2)
theorem q_tup {k : Nat} (h : PA X es (TL K mg W la)) : PE X (.Tuple es k pos) (T K mg W fun φ => do let xs ← la φ; lift (mkT xs)) := by
  refine pe_of (pe_tup h) fun σ H Q ⟨p, B, ρ, φ, s, R, F, h⟩ => stepL R F h fun y w B2 ρ2 s2 H2 x2 R2 F2 v2 h2 => ?_
  exact mkT_ok R2 v2 h2.lift
theorem q_lst {own : Bool} (h : PA X es (TL K mg W la)) : PE X (.List es pos) (T K mg W fun φ => do let xs ← la φ; lift (mkL own xs)) := by
  refine pe_of (pe_lst h) fun σ H Q ⟨p, B, ρ, φ, s, R, F, h⟩ => stepL R F h fun y w B2 ρ2 s2 H2 x2 R2 F2 v2 h2 => ?_
  exact mkL_ok R2 v2 h2.lift
theorem q_dis {own : Bool} : PE X (.Dict [] [] pos) (T K mg W fun _ => lift (mkD own [])) := by
  refine pe_of pe_dnewK fun σ H Q ⟨p, B, ρ, φ, s, R, F, h⟩ => ?_
  exact (mkD_ok R .nil (WR.lift h)).2
def noSlice : Expr → Bool
  | .Slice _ _ _ _ => false
  | _ => true
theorem plain_ix (h : noSlice b = true) : PlainIx b := by
  intro o i
  cases b <;> first | rfl | cases h
theorem q_ix (hK : X.K = K) (hu : X.A.units + 1 < cLine) (hn : noSlice b = true) (ha : PE X a (T K mg W fa)) (hb : PE X b (T K mg W fb)) : PE X (.Subscript a b pos) (T K mg W fun φ => do let x ← fa φ; let y ← fb φ; rd (ixD x y)) := by
  refine pe_of (pe_ix ixr_x ha hb (plain_ix hn)) fun σ H Q ⟨p, B, ρ, φ, s, R, F, h⟩ => step1 R F h fun x v p1 B1 ρ1 s1 H1 e1 x1 R1 F1 v1 h1 => ?_
  subst e1
  refine step1 R1 F1 h1 fun y w p2 B2 ρ2 s2 H2 e2 x2 R2 F2 v2 h2 => ?_
  subst e2
  obtain ⟨d, e, h3⟩ := h2.rd
  exact ixD_ok hK hu R2 (v1.ext x2) v2 e fun u hu => h3 B2 ρ2 H2 u Ext.refl R2 hu
/-- a part of a slice, there or not -/
def TO' (K : PySem.W.Frag) (mg : Str → Option Value) (W : WX) (f : Fra → M (Option Int)) : TO := fun σ H Q => ∃ p B ρ φ s, RelS K mg p B ρ s H ∧ FrR K mg B ρ φ σ ∧ WR K mg W σ p B ρ (f φ s) (fun _ _ (a b : Option Int) => a = b) Q
theorem po_of {e : Option Expr} {t : TO} {f : Fra → M (Option Int)} (h : PO X e t) (k : ∀ σ H Q, TO' K mg W f σ H Q → t σ H Q) : PO X e (TO' K mg W f) := ⟨fun pins s σ H Q I q => h.run pins s σ H Q I (k σ H Q q)⟩
theorem q_part0 : PO X none (TO' K mg W fun _ => pure none) := po_of po_none fun σ H Q ⟨p, B, ρ, φ, s, R, F, h⟩ => WR.pure (b := none) h R rfl
theorem q_part1 (ha : PE X a (T K mg W fa)) : PO X (some a) (TO' K mg W fun φ => do let x ← fa φ; match x with | .int i => pure (some i) | _ => stuck) := by
  refine po_of (po_some ha) fun σ H Q ⟨p, B, ρ, φ, s, R, F, h⟩ => step1 R F h fun x v p1 B1 ρ1 s1 H1 e1 x1 R1 F1 v1 h1 => ?_
  subst e1
  cases v1 <;> first | exact h1.elim | skip
  exact ⟨_, rfl, WR.pure (b := some _) h1 R1 rfl⟩
theorem stepO {σ : L2.St} {H : Hp} {p B : Hp} {ρ : List Addr} {φ : Fra} {s : Mem} {α β : Type} {fa : Fra → M (Option Int)} {k : Option Int → M α} {V' : Hp → List Addr → α → β → Prop} {Q : β → Hp → Prop} {R' : Option Int → Hp → Prop} (R : RelS K mg p B ρ s H) (F : FrR K mg B ρ φ σ) (h : WR K mg W σ p B ρ ((fa φ >>= k) s) V' Q)
    (hk : ∀ d B' ρ' s' H', Ext B ρ B' ρ' → RelS K mg p B' ρ' s' H' → FrR K mg B' ρ' φ σ → WR K mg W σ p B' ρ' (k d s') V' Q → R' d H') : TO' K mg W fa σ H R' :=
  ⟨p, B, ρ, φ, s, R, F, (WR.bind (V1 := fun _ _ (a b : Option Int) => a = b) h).mono fun v H' ⟨B', ρ', s', d, x, r, q, w⟩ => q ▸ hk d B' ρ' s' H' x r (F.ext x) w⟩
theorem q_slc {own : Bool} {lo hi : Option Expr} {fl fh : Fra → M (Option Int)} {p2 : Pos} (hK : X.K = K) (ha : PE X a (T K mg W fa)) (hl : PO X lo (TO' K mg W fl)) (hh : PO X hi (TO' K mg W fh)) :
    PE X (.Subscript a (.Slice lo hi none p2) pos) (T K mg W fun φ => do let x ← fa φ; let l ← fl φ; let h ← fh φ; lift (slD own x l h)) := by
  refine pe_of (pe_slice sl_list ha hl hh) fun σ H Q ⟨p, B, ρ, φ, s, R, F, h⟩ => step1 R F h fun x v p1 B1 ρ1 s1 H1 e1 x1 R1 F1 v1 h1 => ?_
  subst e1
  refine stepO R1 F1 h1 fun l B2 ρ2 s2 H2 x2 R2 F2 h2 => stepO R2 F2 h2 fun u B3 ρ3 s3 H3 x3 R3 F3 h3 => ?_
  exact slD_ok hK R3 (v1.ext (x2.trans x3)) h3.lift
/-! fields -/
def baseOk : Expr → Bool
  | .Call (.Name _ _) [] [] _ => false
  | _ => true
theorem base_ok {m : Str} (h : baseOk a = true) : attributeBase a m X.env (eval a X.env) = eval a X.env := by
  unfold attributeBase
  split
  · cases h
  · rfl
theorem q_fld {f : Str} {fd : Str → Str → Bool} (hb : baseOk a = true) (ha : PE X a (T K mg W fa)) (hf : ∀ c C, fd c f = true → mg c = some (.ref C) → Cls X.K C ∧ NoAttr X.K C f) :
    PE X (.Attribute a f pos) (T K mg W fun φ => do let x ← fa φ; rd fun s => (fieldsOf s x).bind fun cf => if fd cf.1 f = true then cf.2.lookup f else none) := by
  refine pe_of (pe_fld ha (base_ok hb)) fun σ H Q ⟨p, B, ρ, φ, s, R, F, h⟩ => step1 R F h fun x v p1 B1 ρ1 s1 H1 e1 x1 R1 F1 v1 h1 => ?_
  subst e1
  obtain ⟨d, e, h2⟩ := h1.rd
  obtain ⟨cf, e2, e3⟩ := Option.bind_eq_some_iff.mp e
  obtain ⟨c, fs⟩ := cf
  split at e3
  · rename_i hfd
    obtain ⟨a, C, dx, vs, rfl, hm, hH, hp⟩ := fields_ok R1 v1 e2
    obtain ⟨u, hu, ru⟩ := hp.lookup e3
    obtain ⟨h3, h4⟩ := hf c C hfd hm
    exact ⟨a, C, dx, vs, u, rfl, hH, h3, h4, hu, h2 B1 ρ1 H1 u Ext.refl R1 ru⟩
  · cases e3
theorem q_frz (ha : PE X a (T K mg W fa)) : PE X a (T K mg W fun φ => do let x ← fa φ; lift (frzD x)) := by
  refine pe_of ha fun σ H Q ⟨p, B, ρ, φ, s, R, F, h⟩ => step1 R F h fun x v p1 B1 ρ1 s1 H1 e1 x1 R1 F1 v1 h1 => ?_
  subst e1
  exact frzD_ok R1 v1 h1.lift
end
end QQ

/-! QQ, part e: the syntax, its runs. -/
namespace QQ
open PySem L2
/-! ### syntax -/
inductive Tg where
  | nm (i : Nat) | tp (is : List Nat)
mutual
inductive Ex where
  | var (i : Nat) | cst (d : Dt) | glb (x : Str)
  | bin (op : Operator) (own : Bool) (a b : Ex)
  | cmp (op : CmpOp) (a b : Ex) | chn (o1 o2 : CmpOp) (a b c : Ex)
  | bop (k : Bool) (es : Exs) | neg (a : Ex) | nt (a : Ex) | ife (c a b : Ex)
  | tup (es : Exs) | lst (own : Bool) (es : Exs) | dis (own : Bool)
  | ix (o i : Ex) | slc (own : Bool) (o : Ex) (lo hi : Exs) | sls (own : Bool) (o : Ex) (lo hi : Exs) (st : Ex)
  | fld (o : Ex) (f : Str)
  | call (x : Str) (es : Exs) (d : Nat) | make (x : Str) (es : Exs) | meth (o : Ex) (m : Str) (es : Exs) (d : Nat)
  | blt (own : Bool) (x : Str) (es : Exs) | mtd (own : Bool) (o : Ex) (m : Str) (es : Exs)
  | lc (own : Bool) (ow : List (Str × Nat)) (g : Tg) (it : It) (cs : Exs) (e : Ex)
  | srtSet (own : Bool) (e : Ex)
  | frz (e : Ex)
inductive Exs where
  | nil | cons (e : Ex) (es : Exs)
inductive It where
  | seq (e : Ex) | rng (es : Exs) | enu (e : Ex) | zip (a b : Ex) | itm (e : Ex) | key (e : Ex)
end
mutual
inductive Sm where
  | expr (e : Ex) | asg (g : Tg) (e : Ex) | par (i j : Nat) (es : Exs)
  | aug (i : Nat) (op : Operator) (e : Ex) | six (o i e : Ex) | aix (op : Operator) (o i e : Ex) | sfd (o : Ex) (f : Str) (e : Ex)
  | ite (c : Ex) (a b : Sms) | whl (c : Ex) (b : Sms) | frs (g : Tg) (it : It) (b : Sms)
  | ret (e : Ex) | retN | pas | brk | ctn
inductive Sms where
  | nil | cons (s : Sm) (r : Sms)
end

/-! ### runs -/
inductive Fl where
  | nx | rt (d : Dt) | bk | ct
/-- a statement's run: how it ended, the frame -/
inductive RS where
  | ok (f : Fl) (φ : Fra) (s : Mem) | ex (c : Str) (fs : List (Str × Dt)) (φ : Fra) (s : Mem) | no
abbrev MS := Mem → RS
def inE {α : Type} (m : M α) (φ : Fra) (k : α → MS) : MS := fun s => match m s with
  | .ok a s' => k a s'
  | .ex c fs s' => .ex c fs φ s'
  | .no => .no
def doneS (f : Fl) (φ : Fra) : MS := fun s => .ok f φ s
def bindS (m : MS) (k : Fra → MS) : MS := fun s => match m s with
  | .ok .nx φ s' => k φ s'
  | r => r
def noEx {α : Type} (m : M α) : M α := fun s => match m s with
  | .ok a s' => .ok a s'
  | _ => .no
structure Gs where
  fn : Str → List Dt → M Dt
  mt : Str → Str → Option Str
  con : Str → Option Dt
  fd : Str → Str → Bool
  df : Str → Nat
inductive Gd where
  | sl (l : Nat) (xs : List Dt) | lk (l : Nat) (o : Ob)
def Gd.on (s : Mem) : Gd → Prop
  | .sl l xs => s[l]? = some (.live (.lst xs))
  | .lk l o => s[l]? = some (.lock o)
def enter : List Gd → Mem → Mem
  | [], s => s
  | .sl _ _ :: r, s => enter r s
  | .lk l o :: r, s => enter r (s.set l (.lock o))
def leave : List Gd → Mem → Mem
  | [], s => s
  | .sl _ _ :: r, s => leave r s
  | .lk l o :: r, s => leave r (s.set l (.live o))
open Classical in
noncomputable def guard (gs : List Gd) : M Unit := fun s => if ∀ g ∈ gs, g.on s then .ok () s else .no
def enterM (gs : List Gd) : M Unit := fun s => .ok () (enter gs s)
def leaveM (gs : List Gd) : M Unit := fun s => .ok () (leave gs s)
def setsT : List Nat → List Dt → Fra → Option Fra
  | [], [], φ => some φ
  | i :: is, d :: ds, φ => setsT is ds (φ.set i (some d))
  | _, _, _ => none
def asgT : Tg → Dt → Fra → Option Fra
  | .nm i, d, φ => some (φ.set i (some d))
  | .tp is, .tup ds, φ => setsT is ds φ
  | .tp _, _, _ => none
/-- a loop's turn: what comes behind it -/
noncomputable def loopS (gs : List Gd) (m : MS) (k : Fra → MS) : MS := fun s => match m s with
  | .ok .nx φ s' => k φ s'
  | .ok .ct φ s' => k φ s'
  | .ok .bk φ s' => inE (guard gs) φ (fun _ => doneS .nx φ) s'
  | .ok (.rt d) φ s' => inE (guard gs) φ (fun _ => doneS (.rt d) φ) s'
  | r => r
noncomputable def forS (gs : List Gd) (g : Tg) (body : Fra → MS) : List Dt → Fra → MS
  | [], φ => inE (guard gs) φ fun _ => doneS .nx φ
  | x :: xs, φ => inE (guard gs) φ fun _ => inE (ofO (asgT g x φ)) φ fun φ1 => loopS gs (body φ1) (forS gs g body xs)
def leaveS (gs : List Gd) : RS → RS
  | .ok f φ s => .ok f φ (leave gs s)
  | r => r
noncomputable def lcS (gs : List Gd) (g : Tg) (φ : Fra) (ow : List Nat) (cs : Fra → M Bool) (e : Fra → M Dt) : List Dt → M (List Dt)
  | [] => do guard gs; pure []
  | x :: xs => do
    guard gs
    let φ1 ← ofO (asgT g x (wipeD φ ow))
    let b ← noEx (cs φ1)
    if b = true then do
      let y ← noEx (e φ1)
      let ys ← lcS gs g φ ow cs e xs
      pure (y :: ys)
    else lcS gs g φ ow cs e xs
noncomputable def whileN (c : Fra → M Bool) (b : Fra → MS) : Nat → Fra → MS
  | 0, _ => fun _ => .no
  | n + 1, φ => inE (c φ) φ fun t => if t = true then loopS [] (b φ) (whileN c b n) else doneS .nx φ
open Classical in
noncomputable def whileS (c : Fra → M Bool) (b : Fra → MS) (φ : Fra) : MS := fun s =>
  if h : ∃ n, whileN c b n φ s ≠ .no then whileN c b (Classical.choose h) φ s else .no
/-- o[i], not of a tuple -/
def ixL (o i : Dt) (s : Mem) : Option Dt := match o with
  | .tup _ => none
  | _ => ixD o i s
def negD : Dt → Option Dt
  | .int i => some (.int (-i))
  | _ => none
/-- x op= y -/
def augD (op : Operator) : Dt → Dt → Option Dt
  | .int i, .int j => match op with
    | .Add => some (.int (i + j))
    | .Sub => some (.int (i - j))
    | _ => none
  | _, _ => none
def rangeD : List Dt → Option (List Dt)
  | [.int j] => if -(2 ^ 62) ≤ j ∧ j < 2 ^ 62 then some ((List.range j.toNat).map fun (k : Nat) => .int ((0 : Int) + k)) else none
  | [.int i, .int j] => if (-(2 ^ 62) ≤ i ∧ i < 2 ^ 62) ∧ -(2 ^ 62) ≤ j ∧ j < 2 ^ 62 then some ((List.range (j - i).toNat).map fun (k : Nat) => .int (i + k)) else none
  | [.int i, .int j, .int c] => if ((-(2 ^ 62) ≤ i ∧ i < 2 ^ 62) ∧ -(2 ^ 62) ≤ j ∧ j < 2 ^ 62) ∧ 0 < c ∧ c < 2 ^ 30 then some ((List.range (if i < j then (j - i - 1) / c + 1 else 0).toNat).map fun (k : Nat) => .int (i + k * c)) else none
  | _ => none
def seqSrc (d : Dt) (s : Mem) : Option (List Dt × List Gd) := match d with
  | .tup xs => some (xs, [])
  | .lst xs => some (xs, [])
  | .fls xs => some (xs, [])
  | .loc l => (match s[l]? with
    | some (.live (.lst xs)) => some (xs, [.sl l xs])
    | some (.live (.dct kvs)) => some (kvs.map fun kv => dKey kv.1, [.lk l (.dct kvs)])
    | _ => none)
  | .dct kvs => some (kvs.map fun kv => dKey kv.1, [])
  | _ => none
def lstSrc (d : Dt) (s : Mem) : Option (List Dt × List Gd) := match d with
  | .lst xs => some (xs, [])
  | .fls xs => some (xs, [])
  | .loc l => (match s[l]? with
    | some (.live (.lst xs)) => some (xs, [.sl l xs])
    | _ => none)
  | _ => none
def itmSrc (d : Dt) (s : Mem) : Option (List Dt × List Gd) := match d with
  | .dct kvs => some (kvs.map fun kv => .tup [dKey kv.1, kv.2], [])
  | .loc l => (match s[l]? with
    | some (.live (.dct kvs)) => some (kvs.map fun kv => .tup [dKey kv.1, kv.2], [.lk l (.dct kvs)])
    | _ => none)
  | _ => none
def enumD (n : Nat) : List Dt → List Dt
  | [] => []
  | x :: r => .tup [.int n, x] :: enumD (n + 1) r
def zipD : List Dt → List Dt → List Dt
  | x :: r, y :: t => .tup [x, y] :: zipD r t
  | _, _ => []
def optI : List Dt → Option (Option Int)
  | [] => some none
  | [.int i] => some (some i)
  | _ => none
mutual
noncomputable def ev (G : Gs) : Ex → Fra → M Dt
  | .var i, φ => ofO (φ[i]?.join)
  | .cst d, _ => pure d
  | .glb x, _ => ofO (G.con x)
  | .bin op own a b, φ => do
    let x ← ev G a φ
    let y ← ev G b φ
    lift (binD op own x y)
  | .cmp op a b, φ => do
    let x ← ev G a φ
    let y ← ev G b φ
    let c ← rd (cmpD op x y)
    pure (.bl c)
  | .chn o1 o2 a b c, φ => do
    let x ← ev G a φ
    let y ← ev G b φ
    let k ← rd (cmpD o1 x y)
    if k = true then do
      let z ← ev G c φ
      let k2 ← rd (cmpD o2 y z)
      pure (.bl k2)
    else pure (.bl false)
  | .bop k es, φ => evB G k es φ
  | .neg a, φ => do
    let x ← ev G a φ
    ofO (negD x)
  | .nt a, φ => do
    let x ← ev G a φ
    match x with
    | .bl b => pure (.bl (!b))
    | _ => stuck
  | .ife c a b, φ => do
    let t ← tst G c φ
    if t = true then ev G a φ else ev G b φ
  | .tup es, φ => do
    let xs ← evs G es φ
    lift (mkT xs)
  | .lst own es, φ => do
    let xs ← evs G es φ
    lift (mkL own xs)
  | .dis own, _ => lift (mkD own [])
  | .ix o i, φ => do
    let x ← ev G o φ
    let y ← ev G i φ
    rd (ixD x y)
  | .slc own o lo hi, φ => do
    let x ← ev G o φ
    let l ← evs G lo φ
    let l ← ofO (optI l)
    let h ← evs G hi φ
    let h ← ofO (optI h)
    lift (slD own x l h)
  | .sls own o lo hi st, φ => do
    let x ← ev G o φ
    let l ← evs G lo φ
    let l ← ofO (optI l)
    let h ← evs G hi φ
    let h ← ofO (optI h)
    let c ← ev G st φ
    match c with
    | .int i => lift (slS own x l h i)
    | _ => stuck
  | .fld o f, φ => do
    let x ← ev G o φ
    rd fun s => (fieldsOf s x).bind fun cf => if G.fd cf.1 f = true then cf.2.lookup f else none
  | .call x es d, φ => do
    let xs ← evs G es φ
    if d ≤ G.df x then G.fn x (xs ++ List.replicate d .non) else stuck
  | .make x es, φ => do
    let xs ← evs G es φ
    let q ← ofO (G.mt x "__init__")
    let l ← lift (newC (.obj x []))
    let r ← G.fn q (l :: xs)
    match r with
    | .non => pure l
    | _ => stuck
  | .meth o m es d, φ => do
    let x ← ev G o φ
    let q ← rd fun s => (fieldsOf s x).bind fun cf => if (cf.2.lookup m).isNone = true then G.mt cf.1 m else none
    let xs ← evs G es φ
    if d ≤ G.df q then G.fn q ((x :: xs) ++ List.replicate d .non) else stuck
  | .blt own x es, φ => do
    let xs ← evs G es φ
    lift (bltD x own xs)
  | .mtd own o m es, φ => do
    let x ← ev G o φ
    let t ← rd (kindD m x)
    let xs ← evs G es φ
    lift (mtdD t m own x xs)
  | .lc own ow g it cs e, φ => do
    let r ← src G it φ
    enterM r.2
    let ys ← lcS r.2 g φ (ow.map (·.2)) (tsts G cs) (ev G e) r.1
    leaveM r.2
    lift (mkL own ys)
  | .srtSet own e, φ => do
    let x ← ev G e φ
    lift fun s => (items s x).bind fun xs => (intsOf xs).bind fun ns => if ns.length < 64 then mkL own ((srtI (dedI ns)).map .int) s else none
  | .frz e, φ => do
    let x ← ev G e φ
    lift (frzD x)
noncomputable def evs (G : Gs) : Exs → Fra → M (List Dt)
  | .nil, _ => pure []
  | .cons e es, φ => do
    let x ← ev G e φ
    let xs ← evs G es φ
    pure (x :: xs)
/-- and (k), or: all but the last True or False -/
noncomputable def evB (G : Gs) (k : Bool) : Exs → Fra → M Dt
  | .nil, _ => stuck
  | .cons e .nil, φ => ev G e φ
  | .cons e es, φ => do
    let x ← ev G e φ
    match x with
    | .bl b => if b = k then evB G k es φ else pure (.bl b)
    | _ => stuck
/-- a test -/
noncomputable def tst (G : Gs) : Ex → Fra → M Bool
  | .bop k es, φ => tstB G k es φ
  | .nt a, φ => do
    let b ← tst G a φ
    pure (!b)
  | .ife _ _ _, _ => stuck
  | .frz _, _ => stuck
  | e, φ => do
    let x ← ev G e φ
    rd (trueD x)
noncomputable def tstB (G : Gs) (k : Bool) : Exs → Fra → M Bool
  | .nil, _ => stuck
  | .cons e .nil, φ => tst G e φ
  | .cons e es, φ => do
    let b ← tst G e φ
    if b = k then tstB G k es φ else pure b
/-- a clause's tests, none or one -/
noncomputable def tsts (G : Gs) : Exs → Fra → M Bool
  | .nil, _ => pure true
  | .cons e .nil, φ => tst G e φ
  | .cons _ (.cons _ _), _ => stuck
noncomputable def src (G : Gs) : It → Fra → M (List Dt × List Gd)
  | .seq e, φ => do
    let x ← ev G e φ
    rd (seqSrc x)
  | .rng es, φ => do
    let xs ← evs G es φ
    let r ← ofO (rangeD xs)
    pure (r, [])
  | .enu e, φ => do
    let x ← ev G e φ
    let r ← rd (lstSrc x)
    pure (enumD 0 r.1, r.2)
  | .zip a b, φ => do
    let x ← ev G a φ
    let y ← ev G b φ
    let r ← rd (lstSrc x)
    let t ← rd (lstSrc y)
    pure (zipD r.1 t.1, r.2 ++ t.2)
  | .itm e, φ => do
    let x ← ev G e φ
    rd (itmSrc x)
  | .key e, φ => do
    let x ← ev G e φ
    rd (seqSrc x)
end
mutual
noncomputable def exec (G : Gs) : Sm → Fra → MS
  | .expr e, φ => inE (ev G e φ) φ fun _ => doneS .nx φ
  | .asg g e, φ => inE (ev G e φ) φ fun x => inE (ofO (asgT g x φ)) φ fun φ' => doneS .nx φ'
  | .par i j es, φ => inE (evs G es φ) φ fun xs => match xs with
    | [a, b] => doneS .nx ((φ.set i (some a)).set j (some b))
    | _ => fun _ => .no
  | .aug i op e, φ => inE (do let x ← ofO (φ[i]?.join); let y ← ev G e φ; ofO (augD op x y)) φ fun z => doneS .nx (φ.set i (some z))
  | .six o i e, φ => inE (do let x ← ev G e φ; let a ← ev G o φ; let b ← ev G i φ; lift (setD a b x)) φ fun _ => doneS .nx φ
  | .aix op o i e, φ => inE (do let a ← ev G o φ; let b ← ev G i φ; let x ← rd (ixL a b); let y ← ev G e φ; let z ← ofO (augD op x y); lift (setD a b z)) φ fun _ => doneS .nx φ
  | .sfd o f e, φ => inE (do let y ← ev G e φ; let x ← ev G o φ; rd (fun s => (fieldsOf s x).bind fun cf => if G.fd cf.1 f = true then some () else none); lift (setFD x f y)) φ fun _ => doneS .nx φ
  | .ite c a b, φ => inE (tst G c φ) φ fun t => if t = true then execs G a φ else execs G b φ
  | .whl c b, φ => whileS (tst G c) (execs G b) φ
  | .frs g it b, φ => inE (src G it φ) φ fun r s => leaveS r.2 (forS r.2 g (execs G b) r.1 φ (enter r.2 s))
  | .ret e, φ => inE (ev G e φ) φ fun x => doneS (.rt x) φ
  | .retN, φ => doneS (.rt .non) φ
  | .pas, φ => doneS .nx φ
  | .brk, φ => doneS .bk φ
  | .ctn, φ => doneS .ct φ
noncomputable def execs (G : Gs) : Sms → Fra → MS
  | .nil, φ => doneS .nx φ
  | .cons s r, φ => bindS (exec G s φ) fun φ' => execs G r φ'
end
end QQ

/-! QQ, part d: calls. -/
namespace QQ
open PySem L2
/-- the promise of a run by values -/
def spOf (K : PySem.W.Frag) (mg : Str → Option Value) (n : Nat) (g : List Dt → M Dt) : Sp := fun vs H Q E => vs.length = n ∧ ∃ p B ρ s ds, RelS K mg p B ρ s H ∧ VDs K mg B ρ ds vs ∧ WR K mg (fun c o _ H => E c o H) [] p B ρ (g ds s) (VD K mg) Q
structure Sg where
  bn : List Str
  fns : List Str
  mks : List Str
/-- a def at f that runs as g does, asked with n values, d of them None by default -/
structure FnAt (X : Cx) (k : Nat) (f : Addr) (n d : Nat) (g : List Dt → M Dt) : Prop where
  ex : ∃ (fd : FuncData) (ps : List Str), FnOk X.prog X.w X.K X.mg X.base (L2.CX X.prog X.w) k f fd ps (spOf X.K X.mg n g) ∧ Binds X.K fd ps (List.replicate d Value.none)
/-- what the program's names are -/
structure Wld (X : Cx) (G : Gs) (S : Sg) (k : Nat) : Prop where
  bn : ∀ x ∈ S.bn, X.mg x = none ∧ x ≠ "__name__" ∧ (x == ("__debug__" : Str)) = false
  fn : ∀ x ∈ S.fns, (x == ("__debug__" : Str)) = false ∧ ∃ f, X.mg x = some (.ref f) ∧ PySem.W.keepIn X.K (.ref f) = true ∧ ∀ ds s d, G.fn x ds s ≠ .no → d ≤ G.df x → FnAt X k f ds.length d (G.fn x)
  mt : ∀ c m q, G.mt c m = some q → ∀ C, X.mg c = some (.ref C) → Cls X.K C ∧ ∃ f, Meth X.K C m f ∧ ∀ ds s d, G.fn q ds s ≠ .no → d ≤ G.df q → FnAt X k f ds.length d (G.fn q)
  mks : ∀ x ∈ S.mks, (x == ("__debug__" : Str)) = false ∧ ∃ C, X.mg x = some (.ref C) ∧ PySem.W.keepIn X.K (.ref C) = true ∧ ∀ q ds s, G.mt x "__init__" = some q → G.fn q ds s ≠ .no → ∃ f, Mk X.K C f ∧ FnAt X k f ds.length 0 (G.fn q)
  fd : ∀ c C f, G.fd c f = true → X.mg c = some (.ref C) → Cls X.K C ∧ NoAttr X.K C f
  con : ∀ x d, G.con x = some d → (x == ("__debug__" : Str)) = false ∧ x ≠ "__name__" ∧ ∃ v, (∀ B ρ, VD X.K X.mg B ρ d v) ∧ ((∃ u, X.mg x = some u ∧ RelV v u) ∨ (X.mg x = none ∧ ∃ u, bootBuiltins x = some u ∧ RelV v u))
structure Good (X : Cx) (G : Gs) (S : Sg) (k : Nat) (W : WX) : Prop where
  calm : X.calm = true
  nd : X.N.Nodup
  room : Room (k + 1) X.A
  tk : Takes X W
  wld : Wld X G S k
section
variable {X : Cx} {W : WX} {G : Gs} {S : Sg} {k : Nat}
theorem WR.wish {α β : Type} {K : PySem.W.Frag} {mg : Str → Option Value} {W W' : WX} {σ σ' : L2.St} {p B : Hp} {ρ : List Addr} {r : Res α} {V' : Hp → List Addr → α → β → Prop} {Q : β → Hp → Prop} (h : WR K mg W σ p B ρ r V' Q) (hw : ∀ c o H, W c o σ H → W' c o σ' H) : WR K mg W' σ' p B ρ r V' Q := by
  cases r with
  | ok a s' => exact h
  | ex c fs s' => exact fun B' ρ' H' C o y r m e => hw _ _ _ (h B' ρ' H' C o y r m e)
  | no => exact h
theorem WR.ne {α β : Type} {K : PySem.W.Frag} {mg : Str → Option Value} {W : WX} {σ : L2.St} {p B : Hp} {ρ : List Addr} {r : Res α} {V' : Hp → List Addr → α → β → Prop} {Q : β → Hp → Prop} (h : WR K mg W σ p B ρ r V' Q) : r ≠ .no := by
  intro e
  rw [e] at h
  exact h
open PySem.Spec PyProof.Rows in
/-- a def is called: what it raises is wished for at these slots -/
theorem run_fnW {f : Addr} {fd : FuncData} {ps : List Str} {sp : Sp} {ds : List Value} {dvs : List V} {pins : List (Addr × Obj)} {σ : L2.St} {H : Hp} {s : Shared} {Q : VK} {us : List Value} {vs : List V}
    (F : FnOk X.prog X.w X.K X.mg X.base (L2.CX X.prog X.w) k f fd ps sp) (hr : Room k X.A) (hb : Binds X.K fd ps ds) (hd : Vals dvs ds) (tk : Takes X W)
    (I : Inv X pins σ H s) (r : Vals vs us) (h : sp (vs ++ dvs) H Q (fun c o H => W c o σ H)) : wpAny (model X.prog X.w) X.A (PySem.call (.ref f) us) (EP X pins σ Q) X.xe s := by
  have r2 : Vals (vs ++ dvs) (us ++ ds) := r.append hd
  have hl : (us ++ ds).length = ps.length := by rw [← r2.length]; exact F.len _ _ _ _ h
  refine wpAny_call (codeAny_mono (F.run X.A X.stack s H ⟨us, []⟩ (us ++ ds) (vs ++ dvs) Q _ hr I.env0 (hb s us I.kIn hl) r2 h) fun r s' hq => ?_)
  match r, hq with
  | .error e, hq => exact tk e s' (XE.of_call I (fun _ _ _ h => h) hq)
  | .ok (.ret u), hq => exact I.after hq
open PySem.Spec PyProof.Rows in
theorem run_makeW {C f : Addr} {fd : FuncData} {ps : List Str} {sp : Sp} {pins : List (Addr × Obj)} {σ : L2.St} {H : Hp} {s : Shared} {Q : VK} {us : List Value} {vs : List V} (M : Mk X.K C f) (F : FnOk X.prog X.w X.K X.mg X.base (L2.CX X.prog X.w) k f fd ps sp) (hr : Room (k + 1) X.A)
    (hb : Binds X.K fd ps []) (tk : Takes X W) (I : Inv X pins σ H s) (r : Vals vs us)
    (h : ∀ x dx, H x = none → H dx = none → dx ≠ x → sp (.ref x :: vs) (upd (upd H dx (.own x)) x (.ins C dx [])) (fun v H2 => v = .non ∧ Q (.ref x) H2) (fun c o H => W c o σ H)) :
    wpAny (model X.prog X.w) X.A (PySem.call (.ref C) us) (EP X pins σ Q) X.xe s := by
  have hq := h (s.heap.objs.size + 1) s.heap.objs.size (I.hok.fresh (Nat.le_succ _)) (I.hok.fresh (Nat.le_refl _)) (Nat.ne_of_lt (Nat.lt_succ_self _))
  have I2 := Inv.made (C := C) I
  have r2 : Vals (V.ref (s.heap.objs.size + 1) :: vs) (Value.ref (s.heap.objs.size + 1) :: us) := .cons rfl r
  have hl : (Value.ref (s.heap.objs.size + 1) :: us ++ []).length = ps.length := by
    have e := r2.length
    rw [F.len _ _ _ _ hq] at e
    rw [List.append_nil]
    exact e.symm
  have hbb := hb _ (Value.ref (s.heap.objs.size + 1) :: us) I2.kIn hl
  rw [List.append_nil] at hbb
  refine wpAny_call (make_map (f := f) I.kIn M.makes M.init (beq_iff_eq.mp M.fn) (codeAny_mono (F.run _ X.stack _ _ ⟨Value.ref (s.heap.objs.size + 1) :: us, []⟩ (Value.ref (s.heap.objs.size + 1) :: us) _ _ _ (hr.make C us [])
    (I2.env0.make C us []) hbb r2 hq) fun r s' hq' => ?_))
  match r, hq' with
  | .error e, hq' => exact tk e s' (XE.of_call I2 (fun _ _ _ h => h) hq')
  | .ok (.ret u), hq' =>
    obtain ⟨v, H', I3, rv, ev, q3⟩ := I2.after hq'
    subst ev
    exact ⟨rv, ⟨V.ref (s.heap.objs.size + 1), H', I3, rfl, q3⟩⟩

/-! ### argument lists without stars -/
theorem star_any : ∀ {es : List Expr} {pos : Pos}, es.all noStar = true → (backTo pos (starEach es X.env)).any (·.1) = false
  | [], _, _ => rfl
  | e :: es, pos, h => by
    rw [List.all_cons, Bool.and_eq_true] at h
    rw [star_ok h.1]
    show (false || (backTo pos (starEach es X.env)).any (·.1)) = false
    rw [star_any h.2]
    rfl
theorem star_all : ∀ {es : List Expr} {pos : Pos}, es.all noStar = true → (backTo pos (starEach es X.env)).all (fun x => !x.1) = true
  | [], _, _ => rfl
  | e :: es, pos, h => by
    rw [List.all_cons, Bool.and_eq_true] at h
    rw [star_ok h.1]
    show (true && (backTo pos (starEach es X.env)).all (fun x => !x.1)) = true
    rw [star_all h.2]
    rfl
variable {es : List Expr} {la : Fra → M (List Dt)} {x : Str} {pos apos px : Pos}
theorem nons_ok {K : PySem.W.Frag} {mg : Str → Option Value} {B : Hp} {ρ : List Addr} : ∀ n : Nat, VDs K mg B ρ (List.replicate n .non) (List.replicate n V.non)
  | 0 => .nil
  | n + 1 => .cons .non (nons_ok n)
theorem nons_v : ∀ n : Nat, Vals (List.replicate n V.non) (List.replicate n Value.none)
  | 0 => .nil
  | n + 1 => .cons rfl (nons_v n)
theorem no_if {α : Type} {c : Prop} [Decidable c] {m : M α} {s : Mem} (h : (if c then m else stuck) s ≠ .no) : c ∧ m s ≠ .no := by
  by_cases hc : c
  · rw [if_pos hc] at h; exact ⟨hc, h⟩
  · rw [if_neg hc] at h; exact absurd rfl h
variable {e o : Expr} {fo : Fra → M Dt} {m : Str} {p B H : Hp} {ρ : List Addr} {sm : Mem} {σ : L2.St} {Q : VK} {d : Nat}
/-- the arguments have come: the call runs -/
theorem call_go (g : Good X G S k W) {f : Addr} {q : Str} (hfn : ∀ ds s d, G.fn q ds s ≠ .no → d ≤ G.df q → FnAt X k f ds.length d (G.fn q)) {pins : List (Addr × Obj)} {us : List Value} {s1 : Shared} {vs : List V} {ds : List Dt}
    (I : Inv X pins σ H s1) (r : Vals vs us) (R : RelS X.K X.mg p B ρ sm H) (v : VDs X.K X.mg B ρ ds vs) (h : WE X.K X.mg W σ p B ρ ((if d ≤ G.df q then G.fn q (ds ++ List.replicate d .non) else stuck) sm) Q) :
    wpAny (model X.prog X.w) X.A (PySem.call (.ref f) us) (EP X pins σ Q) X.xe s1 := by
  obtain ⟨hd, hne⟩ := no_if h.ne
  rw [if_pos hd] at h
  obtain ⟨fd, ps, F1, hb⟩ := (hfn _ _ d hne hd).ex
  exact run_fnW F1 (g.room.mono (Nat.le_succ k)) hb (nons_v d) g.tk I r ⟨by rw [List.length_append, List.length_append, v.length, List.length_replicate, List.length_replicate], p, B, ρ, sm, _, R, v.append (nons_ok d), h.wish fun _ _ _ h => h⟩
open PySem.Spec PyProof.Rows in
theorem q_call0 (g : Good X G S k W) (hg : Gl X x) (hx : x ∈ S.fns) :
    PE X (.Call (.Name x px) [] [] pos) (T X.K X.mg W fun _ => if d ≤ G.df x then G.fn x ([] ++ List.replicate d .non) else stuck) := by
  obtain ⟨hdb, f, hm, hkp, hfn⟩ := g.wld.fn x hx
  refine ⟨fun pins s σ H Q I ⟨p, B, ρ, φ, sm, R, F, h⟩ => ?_⟩
  refine wpAny_Call_Name_kw (ld_glob I hg hm ?_ hdb)
  exact PySem.W.callWith_K0 I.kIn hkp (call_go g hfn I .nil R .nil h)
open PySem.Spec PyProof.Rows in
theorem q_call (g : Good X G S k W) (hg : Gl X x) (hx : x ∈ S.fns) (hs : (e :: es).all noStar = true) (ha : PA X (e :: es) (TL X.K X.mg W la)) :
    PE X (.Call (.Name x px) (e :: es) [] pos) (T X.K X.mg W fun φ => do let xs ← la φ; if d ≤ G.df x then G.fn x (xs ++ List.replicate d .non) else stuck) := by
  obtain ⟨hdb, f, hm, hkp, hfn⟩ := g.wld.fn x hx
  rw [List.all_cons, Bool.and_eq_true] at hs
  refine ⟨fun pins s σ H Q I ⟨p, B, ρ, φ, sm, R, F, h⟩ => ?_⟩
  refine wpAny_Call_Name_kw (ld_glob I hg hm ?_ hdb)
  refine PySem.W.callWith_K (h₀ := X.base) I.ok.mod.kin hkp (thn (ha.run pos pins s σ H (fun vs H1 => ∃ B1 ρ1 sm1 ds, RelS X.K X.mg p B1 ρ1 sm1 H1 ∧ VDs X.K X.mg B1 ρ1 ds vs ∧ WE X.K X.mg W σ p B1 ρ1 ((if d ≤ G.df x then G.fn x (ds ++ List.replicate d .non) else stuck) sm1) Q) I
    (stepL R F h fun y w B2 ρ2 s2 H2 x2 R2 F2 v2 h2 => ⟨B2, ρ2, s2, y, R2, v2, h2⟩)) fun us s1 ⟨vs, H1, I1, r, B1, ρ1, sm1, ds, R1, v1, h1⟩ => ⟨I1.kIn, ?_⟩) (star_ok hs.1) (star_any hs.2)
  exact call_go g hfn I1 r R1 v1 h1
/-- a method is found -/
theorem find_go (g : Good X G S k W) {x : Dt} {v : V} {q : Str} (R : RelS X.K X.mg p B ρ sm H) (rx : VD X.K X.mg B ρ x v)
    (e : ((fieldsOf sm x).bind fun cf => if (cf.2.lookup m).isNone = true then G.mt cf.1 m else none) = some q) :
    ∃ a C dx fs f, v = .ref a ∧ H a = some (.ins C dx fs) ∧ Cls X.K C ∧ fs.lookup m = none ∧ Meth X.K C m f ∧ ∀ ds s d, G.fn q ds s ≠ .no → d ≤ G.df q → FnAt X k f ds.length d (G.fn q) := by
  obtain ⟨cf, e1, e2⟩ := Option.bind_eq_some_iff.mp e
  obtain ⟨c, fs⟩ := cf
  split at e2
  · rename_i hn
    obtain ⟨a, C, dx, vs, rfl, hm, hH, hp⟩ := fields_ok R rx e1
    obtain ⟨hc, f, hf, hfn⟩ := g.wld.mt c m q e2 C hm
    have hl : fs.lookup m = none := by
      cases z : fs.lookup m with
      | none => rfl
      | some d => rw [z] at hn; cases hn
    exact ⟨a, C, dx, vs, f, rfl, hH, hc, hp.lookup_none hl, hf, hfn⟩
  · cases e2
open PySem.Spec PyProof.Rows in
theorem q_meth0 {pl : Sem Bool} (g : Good X G S k W) (ho : PE X o (T X.K X.mg W fo))
    (ht : eval (.Call (.Attribute o m apos) [] [] pos) X.env = (do
      let ov ← eval o X.env
      standAt apos.atName
      let (f, first) ← holding [ov] (getMethod ov m pl)
      callWith pos f first (backTo pos (starEach [] X.env)) (backToKw pos (keywordEach [] X.env)))) :
    PE X (.Call (.Attribute o m apos) [] [] pos) (T X.K X.mg W fun φ => do
      let x ← fo φ
      let q ← rd fun s => (fieldsOf s x).bind fun cf => if (cf.2.lookup m).isNone = true then G.mt cf.1 m else none
      if d ≤ G.df q then G.fn q ((x :: []) ++ List.replicate d .non) else stuck) := by
  refine ⟨fun pins s σ H Q I ⟨p, B, ρ, φ, sm, R, F, h⟩ => ?_⟩
  refine PySem.W.methodCall_KW (pl := pl) (thn (ho.run pins s σ H (fun v H1 => ∃ B1 ρ1 sm1 d1, RelS X.K X.mg p B1 ρ1 sm1 H1 ∧ VD X.K X.mg B1 ρ1 d1 v ∧ WE X.K X.mg W σ p B1 ρ1 ((do
      let q ← rd fun s => (fieldsOf s d1).bind fun cf => if (cf.2.lookup m).isNone = true then G.mt cf.1 m else none
      if d ≤ G.df q then G.fn q ((d1 :: []) ++ List.replicate d .non) else stuck : M Dt) sm1) Q) I
    (step1 R F h fun y w p2 B2 ρ2 s2 H2 e2 x2 R2 F2 v2 h2 => by subst e2; exact ⟨B2, ρ2, s2, y, R2, v2, h2⟩)) fun u s1 ⟨x, H1, I1, rx, B1, ρ1, sm1, d1, R1, v1, h1⟩ => ?_) ht
  obtain ⟨q, e, h1⟩ := h1.rdb
  obtain ⟨a, C, dx, fs, f, rfl, hH, hc, hl, hf, hfn⟩ := find_go g R1 v1 e
  obtain rfl : u = Value.ref a := rx
  refine getmeth_ok I1 hH hc hf hl ?_
  exact PySem.W.callWith_K0 (first := [.ref a]) I1.kIn hf.kp (call_go g hfn (us := [.ref a]) (vs := [.ref a]) I1 (.cons rfl .nil) R1 (.cons v1 .nil) h1)
open PySem.Spec PyProof.Rows in
theorem q_meth {pl : Sem Bool} (g : Good X G S k W) (ho : PE X o (T X.K X.mg W fo)) (hs : (e :: es).all noStar = true) (ha : PA X (e :: es) (TL X.K X.mg W la))
    (ht : eval (.Call (.Attribute o m apos) (e :: es) [] pos) X.env = (do
      let ov ← eval o X.env
      standAt apos.atName
      let (f, first) ← holding [ov] (getMethod ov m pl)
      callWith pos f first (backTo pos (starEach (e :: es) X.env)) (backToKw pos (keywordEach [] X.env)))) :
    PE X (.Call (.Attribute o m apos) (e :: es) [] pos) (T X.K X.mg W fun φ => do
      let x ← fo φ
      let q ← rd fun s => (fieldsOf s x).bind fun cf => if (cf.2.lookup m).isNone = true then G.mt cf.1 m else none
      let xs ← la φ
      if d ≤ G.df q then G.fn q ((x :: xs) ++ List.replicate d .non) else stuck) := by
  rw [List.all_cons, Bool.and_eq_true] at hs
  refine ⟨fun pins s σ H Q I ⟨p, B, ρ, φ, sm, R, F, h⟩ => ?_⟩
  refine PySem.W.methodCall_KW (pl := pl) (thn (ho.run pins s σ H (fun v H1 => ∃ B1 ρ1 sm1 d1, RelS X.K X.mg p B1 ρ1 sm1 H1 ∧ FrR X.K X.mg B1 ρ1 φ σ ∧ VD X.K X.mg B1 ρ1 d1 v ∧ WE X.K X.mg W σ p B1 ρ1 ((do
      let q ← rd fun s => (fieldsOf s d1).bind fun cf => if (cf.2.lookup m).isNone = true then G.mt cf.1 m else none
      let xs ← la φ
      if d ≤ G.df q then G.fn q ((d1 :: xs) ++ List.replicate d .non) else stuck : M Dt) sm1) Q) I
    (step1 R F h fun y w p2 B2 ρ2 s2 H2 e2 x2 R2 F2 v2 h2 => by subst e2; exact ⟨B2, ρ2, s2, y, R2, F2, v2, h2⟩)) fun u s1 ⟨x, H1, I1, rx, B1, ρ1, sm1, d1, R1, F1, v1, h1⟩ => ?_) ht
  obtain ⟨q, e, h1⟩ := h1.rdb
  obtain ⟨a, C, dx, fs, f, rfl, hH, hc, hl, hf, hfn⟩ := find_go g R1 v1 e
  obtain rfl : u = Value.ref a := rx
  refine getmeth_ok I1 hH hc hf hl ?_
  refine PySem.W.callWith_K (first := [.ref a]) (h₀ := X.base) I.ok.mod.kin hf.kp (thn (ha.run pos pins s1 σ H1 (fun vs H2 => ∃ B2 ρ2 sm2 ds, RelS X.K X.mg p B2 ρ2 sm2 H2 ∧ VDs X.K X.mg B2 ρ2 (d1 :: ds) (.ref a :: vs) ∧ WE X.K X.mg W σ p B2 ρ2 ((if d ≤ G.df q then G.fn q ((d1 :: ds) ++ List.replicate d .non) else stuck : M Dt) sm2) Q) I1
    (stepL R1 F1 h1 fun y w B2 ρ2 s2 H2 x2 R2 F2 v2 h2 => ⟨B2, ρ2, s2, y, R2, .cons (v1.ext x2) v2, h2⟩)) fun us s2 ⟨vs, H2, I2, r, B2, ρ2, sm2, ds, R2, v2, h2⟩ => ⟨I2.kIn, ?_⟩) (star_ok hs.1) (star_any hs.2)
  exact call_go g hfn (us := .ref a :: us) (vs := .ref a :: vs) I2 (.cons rfl r) R2 v2 h2
/-- a new instance -/
theorem make_go (g : Good X G S k W) {C : Addr} (hC : X.mg x = some (.ref C)) (hmk : ∀ q ds s, G.mt x "__init__" = some q → G.fn q ds s ≠ .no → ∃ f, Mk X.K C f ∧ FnAt X k f ds.length 0 (G.fn q)) {pins : List (Addr × Obj)} {us : List Value} {s1 : Shared} {vs : List V} {ds : List Dt}
    (I : Inv X pins σ H s1) (r : Vals vs us) (R : RelS X.K X.mg p B ρ sm H) (v : VDs X.K X.mg B ρ ds vs) (h : WE X.K X.mg W σ p B ρ ((do
      let q ← ofO (G.mt x "__init__")
      let l ← lift (newC (.obj x []))
      let r ← G.fn q (l :: ds)
      match r with
      | .non => pure l
      | _ => stuck : M Dt) sm) Q) : wpAny (model X.prog X.w) X.A (PySem.call (.ref C) us) (EP X pins σ Q) X.xe s1 := by
  obtain ⟨q, e, h⟩ := h.ofO
  have h : WE X.K X.mg W σ p B ρ ((G.fn q (.loc sm.length :: ds) >>= fun r => match r with
      | .non => pure (.loc sm.length)
      | _ => stuck) (sm ++ [.live (.obj x [])])) Q := h
  have hne : G.fn q (.loc sm.length :: ds) (sm ++ [.live (.obj x [])]) ≠ .no := by
    intro z
    have := h.ne
    rw [bind_run, z] at this
    exact this rfl
  obtain ⟨f, hMk, ⟨fd, ps, F1, hb⟩⟩ := hmk q _ _ e hne
  refine run_makeW hMk F1 g.room hb g.tk I r fun ad dx h1 h2 h3 => ?_
  obtain ⟨hB, hρ, hp⟩ := R.fresh h2
  have hn : upd H dx (.own ad) ad = none := by rw [upd_ne (Ne.symm h3)]; exact h1
  -- the instance's own dict is not tracked
  have R1 : RelS X.K X.mg p B ρ sm (upd H dx (.own ad)) := (R.newP (.own ad) h2).lessP fun a u e => by
    have : a ≠ dx := fun z => by subst z; rw [hp] at e; cases e
    rw [upd_ne this]
    exact e
  obtain ⟨x2, R2⟩ := R1.newC (c := .obj x []) (o := .ins C dx []) hn ⟨hC, .nil⟩
  refine ⟨by rw [List.length_cons, List.length_cons, v.length], p, B, _, _, .loc sm.length :: ds, R2, .cons (.loc ?_) (v.ext x2), ?_⟩
  · rw [← R.len]; simp
  · refine (WR.bind (V1 := VD X.K X.mg) (h.ext x2) |>.wish fun _ _ _ h => h).mono fun z H' ⟨B3, ρ3, s3, d3, x3, R3, v3, h3⟩ => ?_
    cases v3 <;> first | exact h3.elim | skip
    exact ⟨rfl, WR.pure h3 R3 (.loc (pre_get x3.r (by rw [← R.len]; simp)))⟩
open PySem.Spec PyProof.Rows in
theorem q_make0 (g : Good X G S k W) (hg : Gl X x) (hx : x ∈ S.mks) :
    PE X (.Call (.Name x px) [] [] pos) (T X.K X.mg W fun _ => do
      let q ← ofO (G.mt x "__init__")
      let l ← lift (newC (.obj x []))
      let r ← G.fn q (l :: [])
      match r with
      | .non => pure l
      | _ => stuck) := by
  obtain ⟨hdb, C, hm, hkp, hmk⟩ := g.wld.mks x hx
  refine ⟨fun pins s σ H Q I ⟨p, B, ρ, φ, sm, R, F, h⟩ => ?_⟩
  refine wpAny_Call_Name_kw (ld_glob I hg hm ?_ hdb)
  exact PySem.W.callWith_K0 I.kIn hkp (make_go g hm hmk I .nil R .nil h)
open PySem.Spec PyProof.Rows in
theorem q_make (g : Good X G S k W) (hg : Gl X x) (hx : x ∈ S.mks) (hs : (e :: es).all noStar = true) (ha : PA X (e :: es) (TL X.K X.mg W la)) :
    PE X (.Call (.Name x px) (e :: es) [] pos) (T X.K X.mg W fun φ => do
      let xs ← la φ
      let q ← ofO (G.mt x "__init__")
      let l ← lift (newC (.obj x []))
      let r ← G.fn q (l :: xs)
      match r with
      | .non => pure l
      | _ => stuck) := by
  obtain ⟨hdb, C, hm, hkp, hmk⟩ := g.wld.mks x hx
  rw [List.all_cons, Bool.and_eq_true] at hs
  refine ⟨fun pins s σ H Q I ⟨p, B, ρ, φ, sm, R, F, h⟩ => ?_⟩
  refine wpAny_Call_Name_kw (ld_glob I hg hm ?_ hdb)
  refine PySem.W.callWith_K (h₀ := X.base) I.ok.mod.kin hkp (thn (ha.run pos pins s σ H (fun vs H1 => ∃ B1 ρ1 sm1 ds, RelS X.K X.mg p B1 ρ1 sm1 H1 ∧ VDs X.K X.mg B1 ρ1 ds vs ∧ WE X.K X.mg W σ p B1 ρ1 ((do
      let q ← ofO (G.mt x "__init__")
      let l ← lift (newC (.obj x []))
      let r ← G.fn q (l :: ds)
      match r with
      | .non => pure l
      | _ => stuck : M Dt) sm1) Q) I
    (stepL R F h fun y w B2 ρ2 s2 H2 x2 R2 F2 v2 h2 => ⟨B2, ρ2, s2, y, R2, v2, h2⟩)) fun us s1 ⟨vs, H1, I1, r, B1, ρ1, sm1, ds, R1, v1, h1⟩ => ⟨I1.kIn, ?_⟩) (star_ok hs.1) (star_any hs.2)
  exact make_go g hm hmk I1 r R1 v1 h1
def isBT : Option Value → Bool
  | some (.builtin _) => true
  | some (.type _) => true
  | _ => false
open PySem.Spec PyProof.Rows in
/-- a built-in by its name -/
theorem q_blt {own : Bool} (g : Good X G S k W) (hg : Gl X x) (hx : x ∈ S.bn) (hb : isBT (bootBuiltins x) = true) (hs : (e :: es).all noStar = true) (ha : PA X (e :: es) (TL X.K X.mg W la)) :
    PE X (.Call (.Name x px) (e :: es) [] pos) (T X.K X.mg W fun φ => do let xs ← la φ; lift (bltD x own xs)) := by
  obtain ⟨hm, hn, hdb⟩ := g.wld.bn x hx
  rw [List.all_cons, Bool.and_eq_true] at hs
  refine ⟨fun pins s σ H Q I ⟨p, B, ρ, φ, sm, R, F, h⟩ => ?_⟩
  have hA := ha.run pos pins s σ H (fun vs H1 => Blt X x vs H1 Q) I (stepL R F h fun y w B2 ρ2 s2 H2 x2 R2 F2 v2 h2 => bltD_ok rfl g.calm R2 v2 h2.lift)
  cases hbv : bootBuiltins x with
  | none => rw [hbv] at hb; cases hb
  | some bv =>
    rw [hbv] at hb
    refine wpAny_Call_Name_kw (ld_blt I hg hm hbv ?_ hn hdb)
    cases bv with
    | builtin id =>
      refine callWith_builtin1 (thn hA fun us s1 ⟨vs, H1, I1, r1, q1⟩ => ?_) (star_ok hs.1) (star_any hs.2)
      rcases q1 with ⟨id', r, e1, hc, q⟩ | ⟨n, r, e1, hc, q⟩
      · rw [hbv] at e1; cases e1; exact hc pins s1 σ H1 vs us Q I1 r1 q
      · rw [hbv] at e1; cases e1
    | type n =>
      refine callWith_type1 (thn hA fun us s1 ⟨vs, H1, I1, r1, q1⟩ => ?_) (star_ok hs.1) (star_any hs.2)
      rcases q1 with ⟨id', r, e1, hc, q⟩ | ⟨n, r, e1, hc, q⟩
      · rw [hbv] at e1; cases e1
      · rw [hbv] at e1; cases e1; exact hc pins s1 σ H1 vs us Q I1 r1 q
    | _ => cases hb
open PySem.Spec PyProof.Rows in
/-- a built-in's method -/
theorem q_mtd {own : Bool} (g : Good X G S k W) (hbo : baseOk o = true) (ho : PE X o (T X.K X.mg W fo)) (hs : (e :: es).all noStar = true) (hlen : decide ((e :: es).length < 30) = true) (hline : (apos.endLine == pos.line) = true) (ha : PA X (e :: es) (TL X.K X.mg W la)) :
    PE X (.Call (.Attribute o m apos) (e :: es) [] pos) (T X.K X.mg W fun φ => do let x ← fo φ; let t ← rd (kindD m x); let xs ← la φ; lift (mtdD t m own x xs)) := by
  have hs' := hs
  rw [List.all_cons, Bool.and_eq_true] at hs'
  refine ⟨fun pins s σ H Q I ⟨p, B, ρ, φ, sm, R, F, h⟩ => ?_⟩
  have hfew : ((backTo pos (starEach (e :: es) X.env)).all (fun x => !x.1) && (backToKw pos (keywordEach [] X.env)).all (fun x => x.1.isSome)
      && decide ((e :: es).length + ([] : List Keyword).length + (if ([] : List Keyword).isEmpty then 0 else 1) < 30)) = true := by
    rw [star_all hs]
    exact hlen
  refine wpAny_Call_method_late (base_ok hbo) hfew hline rfl (thn (ho.run pins s σ H (fun v H1 => ∃ B1 ρ1 sm1 d1, RelS X.K X.mg p B1 ρ1 sm1 H1 ∧ FrR X.K X.mg B1 ρ1 φ σ ∧ VD X.K X.mg B1 ρ1 d1 v ∧ WE X.K X.mg W σ p B1 ρ1 ((do let t ← rd (kindD m d1); let xs ← la φ; lift (mtdD t m own d1 xs) : M Dt) sm1) Q) I
    (step1 R F h fun y w p2 B2 ρ2 s2 H2 e2 x2 R2 F2 v2 h2 => by subst e2; exact ⟨B2, ρ2, s2, y, R2, F2, v2, h2⟩)) fun u s1 ⟨x, H1, I1, rx, B1, ρ1, sm1, d1, R1, F1, v1, h1⟩ => ?_)
  obtain ⟨t, e1, h1⟩ := h1.rdb
  obtain ⟨ty, mf⟩ := kindD_ok (X := X) rfl R1 v1 e1
  obtain ⟨t1, t2⟩ := tyR_is I1 rx ty
  have hu : X.A.units + 1 < cLine := Nat.lt_of_le_of_lt (Nat.add_le_add_left (by decide) _) g.room.units
  have hA := ha.run pos pins s1 σ H1 (fun vs H2 => Mtx X t m x vs H2 Q) I1 (stepL R1 F1 h1 fun y w B2 ρ2 s2 H2 x2 R2 F2 v2 h2 => mtdD_ok hu R2 (v1.ext x2) v2 h2.lift)
  refine ⟨t, mid t m, mf.pl, mf.sl, mf.ty, t1, t2, ?_⟩
  rw [star_ok hs'.1] at hA ⊢
  refine Calls.callWith_builtin (by show (false || (backTo pos (starEach es X.env)).any (·.1)) = false; rw [star_any hs'.2] <;> rfl) (Calls.evalArgs_plain ?_)
  exact thn hA fun us s2 ⟨vs, H2, I2, r2, r, hr, q2⟩ => hr pins s2 σ H2 x vs u us Q I2 rx r2 q2
end
end QQ

/-! QQ, part f: what is walked. -/
namespace QQ
open PySem L2
section
variable {X : Cx} {W : WX} {p p1 B H : Hp} {ρ : List Addr} {s : Mem} {σ : L2.St}
/-- a lock is taken off, or none -/
def Unl (X : Cx) (H H' : Hp) : Prop := H' = H ∨ ∃ d od u, H d = some (.frz od u) ∧ (∀ o' u', X.H_0 d ≠ some (.frz o' u')) ∧ H' = upd H d u
theorem inv_unl {pins : List (Addr × Obj)} {s : Shared} {H' : Hp} (I : Inv X pins σ H s) (h : Unl X H H') : Inv X pins σ H' s := by
  rcases h with rfl | ⟨d, od, u, e, hn, rfl⟩
  · exact I
  · exact I.unlock e hn
structure ItOk (X : Cx) (p : Hp) (J : L2.It) (B : Hp) (ρ : List Addr) (xs : List Dt) (gs : List Gd) : Prop where
  go : ∀ (i : Nat) (p' : Hp), (∀ a u, p a = some u → p' a = some u) → ∀ (B' : Hp) (ρ' : List Addr) (s' : Mem) (H' : Hp), Ext B ρ B' ρ' → RelS X.K X.mg p' B' ρ' s' H' → (∀ g ∈ gs, g.on s') → i < xs.length → J.go i H'
  yld : ∀ (i : Nat) (p' : Hp), (∀ a u, p a = some u → p' a = some u) → ∀ (d : Dt) (B' : Hp) (ρ' : List Addr) (s' : Mem) (H' : Hp) (v : V) (H2 : Hp), Ext B ρ B' ρ' → RelS X.K X.mg p' B' ρ' s' H' → (∀ g ∈ gs, g.on s') → xs[i]? = some d → J.yld i H' v H2 →
    ∃ B2, Ext B' ρ' B2 ρ' ∧ RelS X.K X.mg p' B2 ρ' s' H2 ∧ VD X.K X.mg B2 ρ' d v
  stop : ∀ (p' : Hp), (∀ a u, p a = some u → p' a = some u) → ∀ (B' : Hp) (ρ' : List Addr) (s' : Mem) (H' : Hp), Ext B ρ B' ρ' → RelS X.K X.mg p' B' ρ' s' H' → (∀ g ∈ gs, g.on s') → J.stop xs.length H'
structure SrcAt (X : Cx) (p p1 B : Hp) (ρ : List Addr) (s : Mem) (xs : List Dt) (gs : List Gd) (J : L2.It) (H : Hp) : Prop where
  rel : RelS X.K X.mg p1 B ρ (enter gs s) H
  it : ItOk X p1 J B ρ xs gs
  le : ∀ a u, p a = some u → p1 a = some u
  bk : ∀ (B' : Hp) (ρ' : List Addr) (s' : Mem) (H' : Hp), Ext B ρ B' ρ' → RelS X.K X.mg p1 B' ρ' s' H' → (∀ g ∈ gs, g.on s') → ∃ H2, Unl X H' H2 ∧ RelS X.K X.mg p B' ρ' (leave gs s') H2
/-- what is wanted of a source's run -/
def WI (X : Cx) (W : WX) (σ : L2.St) (p B : Hp) (ρ : List Addr) (r : Res (List Dt × List Gd)) (R : L2.It → Hp → Prop) : Prop := match r with
  | .ok r s1 => ∀ B1 ρ1 H1 J p1, Ext B ρ B1 ρ1 → SrcAt X p p1 B1 ρ1 s1 r.1 r.2 J H1 → R J H1
  | .ex c fs s1 => ∀ B' ρ' H' C o, Ext B ρ B' ρ' → RelS X.K X.mg p B' ρ' s1 H' → X.mg c = some (.ref C) → ExR X.K X.mg B' ρ' H' fs o → W (.ref C) o σ H'
  | .no => False
theorem WI.ext {p B B1 : Hp} {ρ ρ1 : List Addr} {r : Res (List Dt × List Gd)} {R : L2.It → Hp → Prop} (h : WI X W σ p B ρ r R) (x : Ext B ρ B1 ρ1) : WI X W σ p B1 ρ1 r R := by
  cases r with
  | ok a s' => exact fun B' ρ' H' J p1 y r => h B' ρ' H' J p1 (x.trans y) r
  | ex c fs s' => exact fun B' ρ' H' C o y r m e => h B' ρ' H' C o (x.trans y) r m e
  | no => exact h
theorem WI.bind {α β : Type} {p B : Hp} {ρ : List Addr} {m : M α} {k : α → M (List Dt × List Gd)} {s : Mem} {R : L2.It → Hp → Prop} {V1 : Hp → List Addr → α → β → Prop} (h : WI X W σ p B ρ ((m >>= k) s) R) :
    WR X.K X.mg W σ p B ρ (m s) V1 (fun v H' => ∃ B' ρ' s' d, Ext B ρ B' ρ' ∧ RelS X.K X.mg p B' ρ' s' H' ∧ V1 B' ρ' d v ∧ m s = .ok d s' ∧ WI X W σ p B' ρ' (k d s') R) := by
  rw [bind_run] at h
  cases e : m s with
  | ok a s' =>
    rw [e] at h
    exact fun B' ρ' H' b x r v => ⟨B', ρ', s', a, x, r, v, rfl, h.ext x⟩
  | ex c fs s' => rw [e] at h; exact h
  | no => rw [e] at h; exact h
theorem WI.rd {α : Type} {p B : Hp} {ρ : List Addr} {f : Mem → Option α} {k : α → M (List Dt × List Gd)} {s : Mem} {R : L2.It → Hp → Prop} (h : WI X W σ p B ρ ((QQ.rd f >>= k) s) R) : ∃ c, f s = some c ∧ WI X W σ p B ρ (k c s) R := by
  rw [bind_run] at h
  cases e : f s with
  | none => simp only [QQ.rd, e] at h; exact h.elim
  | some c => simp only [QQ.rd, e] at h; exact ⟨c, rfl, h⟩
theorem WI.ofO {α : Type} {p B : Hp} {ρ : List Addr} {f : Option α} {k : α → M (List Dt × List Gd)} {s : Mem} {R : L2.It → Hp → Prop} (h : WI X W σ p B ρ ((QQ.ofO f >>= k) s) R) : ∃ c, f = some c ∧ WI X W σ p B ρ (k c s) R := by
  cases f with
  | none => exact h.elim
  | some c => exact ⟨c, rfl, h⟩
def TIr (X : Cx) (W : WX) (f : Fra → M (List Dt × List Gd)) : TI := fun σ H R => ∃ p B ρ φ s, RelS X.K X.mg p B ρ s H ∧ FrR X.K X.mg B ρ φ σ ∧ WI X W σ p B ρ (f φ s) R
theorem pi_of {tg iter : Expr} {f : Fra → M (List Dt × List Gd)} (h : ∀ σ H R, TIr X W f σ H R → ∃ t, PI X tg iter t ∧ t σ H R) : PI X tg iter (TIr X W f) :=
  ⟨fun pins s σ H R I q => let ⟨t, ht, q'⟩ := h σ H R q; ht.run pins s σ H R I q'⟩
/-! ### lists -/
/-- at a lies the list of xs while the guards stand -/
def LstAt (X : Cx) (p B : Hp) (ρ : List Addr) (xs : List Dt) (gs : List Gd) (a : Addr) : Prop :=
  ∀ (B' : Hp) (ρ' : List Addr) (s' : Mem) (H' : Hp), Ext B ρ B' ρ' → RelS X.K X.mg p B' ρ' s' H' → (∀ g ∈ gs, g.on s') → ∃ vs, SqL X.K H' a vs ∧ VDs X.K X.mg B' ρ' xs vs
theorem LstAt.more {xs : List Dt} {gs gs' : List Gd} {a : Addr} (h : LstAt X p B ρ xs gs a) (k : ∀ g ∈ gs, g ∈ gs') : LstAt X p B ρ xs gs' a := fun B' ρ' s' H' x R g => h B' ρ' s' H' x R fun y hy => g y (k y hy)
theorem LstAt.ext {xs : List Dt} {gs : List Gd} {a : Addr} {B2 : Hp} {ρ2 : List Addr} (h : LstAt X p B ρ xs gs a) (x : Ext B ρ B2 ρ2) : LstAt X p B2 ρ2 xs gs a := fun B' ρ' s' H' y R g => h B' ρ' s' H' (x.trans y) R g
theorem lst_at {d : Dt} {v : V} {xs : List Dt} {gs : List Gd} (r : VD X.K X.mg B ρ d v) (e : lstSrc d s = some (xs, gs)) : (∃ a, v = .ref a ∧ LstAt X p B ρ xs gs a) ∧ (∀ g ∈ gs, ∃ l, d = .loc l ∧ g = .sl l xs) ∧ items s d = some xs := by
  cases r with
  | lst h1 h2 =>
    cases e
    refine ⟨⟨_, rfl, fun B' ρ' s' H' x R g => ⟨_, Evl.sq_of (R.lst (x.b _ _ h1)), h2.ext x⟩⟩, fun g hg => by simp at hg, rfl⟩
  | fls h1 h2 =>
    cases e
    refine ⟨⟨_, rfl, fun B' ρ' s' H' x R g => ⟨_, R.sqL (sqL_mono x.b h1), h2.ext x⟩⟩, fun g hg => by simp at hg, rfl⟩
  | @loc l a h1 =>
    simp only [lstSrc] at e
    split at e
    · rename_i ys q
      cases e
      refine ⟨⟨a, rfl, fun B' ρ' s' H' x R g => ?_⟩, fun g hg => by simp at hg; exact ⟨l, rfl, hg⟩, by simp [items, q]⟩
      have hg : s'[l]? = some (.live (.lst xs)) := g _ (List.mem_cons_self ..)
      obtain ⟨u, hH, hB, r⟩ := live_at R (pre_get x.r h1) hg
      cases u <;> simp only [ObR] at r
      exact ⟨_, Evl.sq_of hH, r⟩
    · cases e
  | _ => cases e
theorem it_lst {xs : List Dt} {gs : List Gd} {a : Addr} (h : LstAt X p B ρ xs gs a) : ItOk X p (Itl X.K a) B ρ xs gs where
  go := fun i p' le B' ρ' s' H' x R g hi => by
    obtain ⟨vs, h1, h2⟩ := h B' ρ' s' H' x (R.lessP le) g
    obtain ⟨v, hv, _⟩ := h2.get (List.getElem?_eq_getElem hi)
    exact ⟨vs, v, h1, hv⟩
  yld := fun i p' le d B' ρ' s' H' v H2 x R g hd ⟨e, hy⟩ => by
    subst e
    obtain ⟨vs, h1, h2⟩ := h B' ρ' s' _ x (R.lessP le) g
    obtain ⟨u, hu, ru⟩ := h2.get hd
    have := hy vs h1
    rw [hu] at this
    cases this
    exact ⟨B', Ext.refl, R, ru⟩
  stop := fun p' le B' ρ' s' H' x R g => by
    obtain ⟨vs, h1, h2⟩ := h B' ρ' s' H' x (R.lessP le) g
    exact ⟨vs, h1, by rw [h2.length]; exact Nat.le_refl _⟩
/-- a new tuple beside what there is -/
theorem new_tup {B' : Hp} {ρ' : List Addr} {s' : Mem} {H' : Hp} {q : Addr} {ds : List Dt} {vs : List V} (R : RelS X.K X.mg p B' ρ' s' H') (hq : H' q = none) (r : VDs X.K X.mg B' ρ' ds vs) :
    ∃ B2, Ext B' ρ' B2 ρ' ∧ RelS X.K X.mg p B2 ρ' s' (upd H' q (.tup vs)) ∧ VD X.K X.mg B2 ρ' (.tup ds) (.ref q) := by
  obtain ⟨x, R'⟩ := R.newB (.tup vs) hq
  exact ⟨_, x, R', .tup (Evl.st_of upd_same) (r.ext x)⟩
theorem enumD_len : ∀ (n : Nat) (xs : List Dt), (enumD n xs).length = xs.length
  | _, [] => rfl
  | n, x :: r => by simp [enumD, enumD_len (n + 1) r]
theorem enumD_get : ∀ (n : Nat) (xs : List Dt) (i : Nat) (d : Dt), (enumD n xs)[i]? = some d → ∃ x, xs[i]? = some x ∧ d = .tup [.int ((n + i : Nat) : Int), x]
  | _, [], _, _, h => by simp [enumD] at h
  | n, x :: r, 0, d, h => by simp [enumD] at h; exact ⟨x, rfl, by rw [← h]; rfl⟩
  | n, x :: r, i + 1, d, h => by
    simp only [enumD, List.getElem?_cons_succ] at h
    obtain ⟨y, h1, h2⟩ := enumD_get (n + 1) r i d h
    exact ⟨y, by simpa using h1, by rw [h2, show n + 1 + i = n + (i + 1) by omega]⟩
theorem it_enu {xs : List Dt} {gs : List Gd} {a : Addr} (h : LstAt X p B ρ xs gs a) : ItOk X p (Ite X.K a) B ρ (enumD 0 xs) gs where
  go := fun i p' le B' ρ' s' H' x R g hi => by
    rw [enumD_len] at hi
    obtain ⟨vs, h1, h2⟩ := h B' ρ' s' H' x (R.lessP le) g
    obtain ⟨v, hv, _⟩ := h2.get (List.getElem?_eq_getElem hi)
    exact ⟨vs, v, h1, hv⟩
  yld := fun i p' le d B' ρ' s' H' v H2 x R g hd hy => by
    obtain ⟨q, y, rfl, hq, rfl, hy⟩ := hy
    obtain ⟨vs, h1, h2⟩ := h B' ρ' s' _ x (R.lessP le) g
    obtain ⟨z, hz, rfl⟩ := enumD_get 0 xs i d hd
    obtain ⟨u, hu, ru⟩ := h2.get hz
    have := hy vs h1
    rw [hu] at this
    cases this
    rw [Nat.zero_add]
    exact new_tup R hq (.cons (.int _) (.cons ru .nil))
  stop := fun p' le B' ρ' s' H' x R g => by
    obtain ⟨vs, h1, h2⟩ := h B' ρ' s' H' x (R.lessP le) g
    exact ⟨vs, h1, by rw [enumD_len, h2.length]; exact Nat.le_refl _⟩
theorem zipD_len : ∀ (xs ys : List Dt), (zipD xs ys).length = min xs.length ys.length
  | [], ys => by simp [zipD]
  | x :: r, [] => by simp [zipD]
  | x :: r, y :: t => by simp [zipD, zipD_len r t]
theorem zipD_get : ∀ (xs ys : List Dt) (i : Nat) (d : Dt), (zipD xs ys)[i]? = some d → ∃ x y, xs[i]? = some x ∧ ys[i]? = some y ∧ d = .tup [x, y]
  | [], ys, _, _, h => by simp [zipD] at h
  | x :: r, [], _, _, h => by simp [zipD] at h
  | x :: r, y :: t, 0, d, h => by simp [zipD] at h; exact ⟨x, y, rfl, rfl, h.symm⟩
  | x :: r, y :: t, i + 1, d, h => by
    simp only [zipD, List.getElem?_cons_succ] at h
    simpa using zipD_get r t i d h
theorem it_zip {xs ys : List Dt} {gs : List Gd} {a b : Addr} (h : LstAt X p B ρ xs gs a) (k : LstAt X p B ρ ys gs b) : ItOk X p (Itz X.K a b) B ρ (zipD xs ys) gs where
  go := fun i p' le B' ρ' s' H' x R g hi => by
    rw [zipD_len] at hi
    obtain ⟨vs, h1, h2⟩ := h B' ρ' s' H' x (R.lessP le) g
    obtain ⟨us, h3, h4⟩ := k B' ρ' s' H' x (R.lessP le) g
    have hi1 : i < xs.length := by omega
    have hi2 : i < ys.length := by omega
    obtain ⟨v, hv, _⟩ := h2.get (List.getElem?_eq_getElem hi1)
    obtain ⟨u, hu, _⟩ := h4.get (List.getElem?_eq_getElem hi2)
    exact ⟨vs, us, v, u, h1, h3, hv, hu⟩
  yld := fun i p' le d B' ρ' s' H' v H2 x R g hd hy => by
    obtain ⟨q, y1, y2, rfl, hq, rfl, hy1, hy2⟩ := hy
    obtain ⟨vs, h1, h2⟩ := h B' ρ' s' _ x (R.lessP le) g
    obtain ⟨us, h3, h4⟩ := k B' ρ' s' _ x (R.lessP le) g
    obtain ⟨z1, z2, hz1, hz2, rfl⟩ := zipD_get xs ys i d hd
    obtain ⟨u1, hu1, ru1⟩ := h2.get hz1
    obtain ⟨u2, hu2, ru2⟩ := h4.get hz2
    have e1 := hy1 vs h1
    have e2 := hy2 us h3
    rw [hu1] at e1
    rw [hu2] at e2
    cases e1
    cases e2
    exact new_tup R hq (.cons ru1 (.cons ru2 .nil))
  stop := fun p' le B' ρ' s' H' x R g => by
    obtain ⟨vs, h1, h2⟩ := h B' ρ' s' H' x (R.lessP le) g
    obtain ⟨us, h3, h4⟩ := k B' ρ' s' H' x (R.lessP le) g
    have l1 := h2.length
    have l2 := h4.length
    exact ⟨vs, us, h1, h3, by rw [zipD_len]; omega⟩
theorem it_tup {xs : List Dt} {a : Addr} {vs : List V} (h1 : SqT X.K B a vs) (h2 : VDs X.K X.mg B ρ xs vs) : ItOk X p (Itt X.K a) B ρ xs [] where
  go := fun i p' le B' ρ' s' H' x R g hi => by
    obtain ⟨v, hv, _⟩ := h2.get (List.getElem?_eq_getElem hi)
    exact ⟨vs, v, R.sqT (sqT_mono x.b h1), hv⟩
  yld := fun i p' le d B' ρ' s' H' v H2 x R g hd ⟨e, hy⟩ => by
    subst e
    obtain ⟨u, hu, ru⟩ := (h2.ext x).get hd
    have := hy vs (R.sqT (sqT_mono x.b h1))
    rw [hu] at this
    cases this
    exact ⟨B', Ext.refl, R, ru⟩
  stop := fun p' le B' ρ' s' H' x R g => ⟨vs, R.sqT (sqT_mono x.b h1), by rw [h2.length]; exact Nat.le_refl _⟩
theorem it_rng {lo : Int} {n : Nat} : ItOk X p (Itr lo n) B ρ ((List.range n).map fun (k : Nat) => .int (lo + k)) [] where
  go := fun i p' le B' ρ' s' H' x R g hi => by
    have hi : i < n := by simpa using hi
    exact hi
  yld := fun i p' le d B' ρ' s' H' v H2 x R g hd ⟨e, hy⟩ => by
    subst e hy
    rw [List.getElem?_map] at hd
    obtain ⟨k, hk, e⟩ := Option.map_eq_some_iff.mp hd
    have : k = i := by
      have := List.getElem?_eq_some_iff.mp hk
      obtain ⟨h1, h2⟩ := this
      simpa using h2.symm
    subst this e
    exact ⟨B', Ext.refl, R, .int _⟩
  stop := fun p' le B' ρ' s' H' x R g => by show n ≤ _; simp
theorem it_rngC {lo c : Int} {n : Nat} : ItOk X p (Itc lo c n) B ρ ((List.range n).map fun (k : Nat) => .int (lo + k * c)) [] where
  go := fun i p' le B' ρ' s' H' x R g hi => by
    have hi : i < n := by simpa using hi
    exact hi
  yld := fun i p' le d B' ρ' s' H' v H2 x R g hd ⟨e, hy⟩ => by
    subst e hy
    rw [List.getElem?_map] at hd
    obtain ⟨k, hk, e⟩ := Option.map_eq_some_iff.mp hd
    have : k = i := by
      obtain ⟨h1, h2⟩ := List.getElem?_eq_some_iff.mp hk
      simpa using h2.symm
    subst this e
    exact ⟨B', Ext.refl, R, .int _⟩
  stop := fun p' le B' ρ' s' H' x R g => by show n ≤ _; simp
theorem enter_sl : ∀ {gs : List Gd} {s : Mem}, (∀ g ∈ gs, ∃ l xs, g = .sl l xs) → enter gs s = s ∧ leave gs s = s
  | [], _, _ => ⟨rfl, rfl⟩
  | g :: gs, s, h => by
    obtain ⟨l, xs, rfl⟩ := h g (List.mem_cons_self ..)
    exact enter_sl (gs := gs) fun g' hg => h g' (List.mem_cons_of_mem _ hg)
/-- without a lock -/
theorem src_at {xs : List Dt} {gs : List Gd} {J : L2.It} (R : RelS X.K X.mg p B ρ s H) (hg : ∀ g ∈ gs, ∃ l xs, g = .sl l xs) (h : ItOk X p J B ρ xs gs) : SrcAt X p p B ρ s xs gs J H where
  rel := by rw [(enter_sl hg).1]; exact R
  it := h
  le := fun _ _ e => e
  bk := fun B' ρ' s' H' x R' g => ⟨H', .inl rfl, by rw [(enter_sl hg).2]; exact R'⟩

/-! ### dicts, walked under a lock -/
theorem pe_lk {e : Expr} {t : TE} (h : PE X e t) : PE X e (fun σ H Q => t σ H fun v H1 => Q v H1 ∨ ∃ d u, v = .ref d ∧ H1 d = some u ∧ Mut (some u) ∧ ∀ od, (∀ o' u', X.H_0 d ≠ some (.frz o' u')) → Q v (upd H1 d (.frz od u))) := by
  refine ⟨fun pins s σ H Q I q => ?_⟩
  refine thn (h.run pins s σ H _ I q) fun v s1 ⟨x, H1, I1, r, q1⟩ => ?_
  rcases q1 with q1 | ⟨d, u, e, hd, mu, q1⟩
  · exact ⟨x, H1, I1, r, q1⟩
  · obtain ⟨od, I2⟩ := I1.lock hd mu
    exact ⟨x, _, I2, r, q1 od (I1.nofrz hd mu)⟩
theorem keys_get {kvs : List (Key × Dt)} {i : Nat} {d : Dt} (h : (kvs.map fun kv => dKey kv.1)[i]? = some d) : ∃ k v, kvs[i]? = some (k, v) ∧ d = dKey k := by
  rw [List.getElem?_map] at h
  obtain ⟨⟨k, v⟩, h1, h2⟩ := Option.map_eq_some_iff.mp h
  exact ⟨k, v, h1, h2.symm⟩
theorem pair_get {κ : Type} {B : Hp} {ρ : List Addr} : ∀ {ds : List (κ × Dt)} {vs : List (κ × V)} {i : Nat} {k : κ} {d : Dt}, VDp X.K X.mg B ρ ds vs → ds[i]? = some (k, d) → ∃ v, vs[i]? = some (k, v) ∧ VD X.K X.mg B ρ d v
  | [], _, _, _, _, _, e => by simp at e
  | (k', d') :: ds, _, 0, k, d, h, e => by
    cases h with
    | cons h t => simp at e; obtain ⟨rfl, rfl⟩ := e; exact ⟨_, rfl, h⟩
  | (k', d') :: ds, _, i + 1, k, d, h, e => by
    cases h with
    | cons h t =>
      obtain ⟨v, h1, h2⟩ := pair_get (i := i) t (by simpa using e)
      exact ⟨v, by simpa using h1, h2⟩
/-- while d is locked, with the values vs -/
def DctAt (X : Cx) (p B : Hp) (ρ : List Addr) (kvs : List (Key × Dt)) (gs : List Gd) (d : Addr) (od : Obj) (vs : List (Key × V)) : Prop :=
  p d = some (.frz od (.dK vs)) ∧ ∀ (B' : Hp) (ρ' : List Addr) (s' : Mem) (H' : Hp), Ext B ρ B' ρ' → RelS X.K X.mg p B' ρ' s' H' → (∀ g ∈ gs, g.on s') → VDp X.K X.mg B' ρ' kvs vs
theorem it_key {kvs : List (Key × Dt)} {gs : List Gd} {d : Addr} {od : Obj} {vs : List (Key × V)} (h : DctAt X p B ρ kvs gs d od vs) : ItOk X p (Itk d od vs) B ρ (kvs.map fun kv => dKey kv.1) gs where
  go := fun i p' le B' ρ' s' H' x R g hi => ⟨(R.prv _ _ (le _ _ h.1)).1, by rw [← (h.2 B' ρ' s' H' x (R.lessP le) g).length]; simpa using hi⟩
  yld := fun i p' le e B' ρ' s' H' v H2 x R g hd hy => by
    obtain ⟨rfl, k, u, hk, rfl⟩ := hy
    obtain ⟨k', z, h1, rfl⟩ := keys_get hd
    obtain ⟨y, h2, _⟩ := pair_get (h.2 B' ρ' s' _ x (R.lessP le) g) h1
    rw [hk] at h2
    cases h2
    exact ⟨B', Ext.refl, R, dKey_ok _⟩
  stop := fun p' le B' ρ' s' H' x R g => ⟨(R.prv _ _ (le _ _ h.1)).1, by rw [← (h.2 B' ρ' s' H' x (R.lessP le) g).length, List.length_map]; exact Nat.le_refl _⟩
theorem it_itm {kvs : List (Key × Dt)} {gs : List Gd} {d : Addr} {od : Obj} {vs : List (Key × V)} (h : DctAt X p B ρ kvs gs d od vs) : ItOk X p (Iti d od vs) B ρ (kvs.map fun kv => .tup [dKey kv.1, kv.2]) gs where
  go := fun i p' le B' ρ' s' H' x R g hi => ⟨(R.prv _ _ (le _ _ h.1)).1, by rw [← (h.2 B' ρ' s' H' x (R.lessP le) g).length]; simpa using hi⟩
  yld := fun i p' le e B' ρ' s' H' v H2 x R g hd hy => by
    obtain ⟨q, k, u, hk, rfl, hq, rfl⟩ := hy
    rw [List.getElem?_map] at hd
    obtain ⟨⟨k', z⟩, h1, rfl⟩ := Option.map_eq_some_iff.mp hd
    obtain ⟨y, h2, h3⟩ := pair_get (h.2 B' ρ' s' _ x (R.lessP le) g) h1
    rw [hk] at h2
    cases h2
    exact new_tup R hq (.cons (dKey_ok _) (.cons h3 .nil))
  stop := fun p' le B' ρ' s' H' x R g => ⟨(R.prv _ _ (le _ _ h.1)).1, by rw [← (h.2 B' ρ' s' H' x (R.lessP le) g).length, List.length_map]; exact Nat.le_refl _⟩
/-- what a dict that is walked stands for -/
def dctSrc (d : Dt) (s : Mem) : Option (List (Key × Dt) × List Gd) := match d with
  | .dct kvs => some (kvs, [])
  | .loc l => (match s[l]? with
    | some (.live (.dct kvs)) => some (kvs, [.lk l (.dct kvs)])
    | _ => none)
  | _ => none
/-- the lock, taken or found: the iterator J of it -/
theorem dct_lock {d : Dt} {v : V} {kvs : List (Key × Dt)} {gs : List Gd} {Q : V → Hp → Prop} (R : RelS X.K X.mg p B ρ s H) (r : VD X.K X.mg B ρ d v) (e : dctSrc d s = some (kvs, gs))
    (h : ∀ a od vs p1 H1, v = .ref a → H1 a = some (.frz od (.dK vs)) → RelS X.K X.mg p1 B ρ (enter gs s) H1 → DctAt X p1 B ρ kvs gs a od vs → (∀ b u, p b = some u → p1 b = some u) →
      (∀ (B' : Hp) (ρ' : List Addr) (s' : Mem) (H' : Hp), Ext B ρ B' ρ' → RelS X.K X.mg p1 B' ρ' s' H' → (∀ g ∈ gs, g.on s') → ∃ H2, Unl X H' H2 ∧ RelS X.K X.mg p B' ρ' (leave gs s') H2) → Q v H1) :
    Q v H ∨ ∃ a u, v = .ref a ∧ H a = some u ∧ Mut (some u) ∧ ∀ od, (∀ o' u', X.H_0 a ≠ some (.frz o' u')) → Q v (upd H a (.frz od u)) := by
  cases r with
  | @dct ds a vs h1 h2 =>
    simp only [dctSrc, Option.some.injEq, Prod.mk.injEq] at e
    obtain ⟨rfl, rfl⟩ := e
    rcases R.sub _ _ h1 with hH | ⟨_, o, hH⟩
    · refine .inr ⟨a, _, rfl, hH, trivial, fun od hn => ?_⟩
      have hpa : p a = none := by
        cases q : p a with
        | none => rfl
        | some u =>
          obtain ⟨h3, h4⟩ := R.prv _ _ q
          rw [hH] at h3
          cases h3
          rw [(h4 rfl).1] at h1
          cases h1
      have hρ : ∀ (l : Nat) (b : Addr) (c : Cel), ρ[l]? = some b → s[l]? = some c → b = a → c = Cel.dead := by
        intro l b c e1 e2 e3
        subst e3
        have hc := R.cel l b c e1 e2
        cases c with
        | live o => obtain ⟨_, _, hb, _⟩ := hc; rw [h1] at hb; cases hb
        | lock o => obtain ⟨_, _, _, hb, _⟩ := hc; rw [h1] at hb; cases hb
        | dead => rfl
      have R1 : RelS X.K X.mg (upd p a (.frz od (.dK vs))) B ρ s (upd H a (.frz od (.dK vs))) := by
        refine ⟨fun b u e => ?_, R.len, R.nd, fun l b c e1 e2 => ?_, fun b u e => ?_⟩
        · by_cases hb : b = a
          · subst hb
            rw [h1] at e
            cases e
            exact .inr ⟨rfl, od, upd_same⟩
          · rw [upd_ne hb]; exact R.sub b u e
        · by_cases hb : b = a
          · rw [hρ l b c e1 e2 hb, hb]
            show upd H a _ a ≠ none
            rw [upd_same]
            intro z; cases z
          · exact (R.cel l b c e1 e2).keep Ext.refl (upd_ne hb) fun n => n
        · by_cases hb : b = a
          · subst hb; rw [upd_same] at e; cases e; exact ⟨upd_same, fun z => by cases z⟩
          · rw [upd_ne hb] at e
            obtain ⟨h3, h4⟩ := R.prv b u e
            exact ⟨by rw [upd_ne hb]; exact h3, h4⟩
      refine h a od vs _ _ rfl upd_same R1 ⟨upd_same, fun B' ρ' s' H' x R' g => h2.ext x⟩ (fun b u e => by rw [upd_ne (fun z => by subst z; rw [hpa] at e; cases e)]; exact e) fun B' ρ' s' H' x R' g => ?_
      have hl : H' a = some (.frz od (.dK vs)) := (R'.prv _ _ upd_same).1
      refine ⟨upd H' a (.dK vs), .inr ⟨a, od, _, hl, hn, rfl⟩, ?_⟩
      have hB : B' a = some (.dK vs) := x.b _ _ h1
      refine ⟨fun b u e => ?_, R'.len, R'.nd, fun l b c e1 e2 => ?_, fun b u e => ?_⟩
      · by_cases hb : b = a
        · subst hb; rw [hB] at e; cases e; exact .inl upd_same
        · rw [upd_ne hb]; exact R'.sub b u e
      · by_cases hb : b = a
        · subst hb
          have hc := R'.cel l b c e1 e2
          cases c with
          | live o => obtain ⟨_, _, hb, _⟩ := hc; rw [hB] at hb; cases hb
          | lock o => obtain ⟨_, _, _, hb, _⟩ := hc; rw [hB] at hb; cases hb
          | dead => show upd H' b _ b ≠ none; rw [upd_same]; intro z; cases z
        · exact (R'.cel l b c e1 e2).keep Ext.refl (upd_ne hb) fun n => n
      · have hb : b ≠ a := fun z => by subst z; rw [hpa] at e; cases e
        obtain ⟨h3, h4⟩ := R'.prv b u (by rw [upd_ne hb]; exact e)
        exact ⟨by rw [upd_ne hb]; exact h3, h4⟩
    · refine .inl (h a o vs (upd p a (.frz o (.dK vs))) H rfl hH ?_ ⟨upd_same, fun B' ρ' s' H' x R' g => h2.ext x⟩ (fun b u e => ?_) fun B' ρ' s' H' x R' g => ⟨H', .inl rfl, R'.lessP fun b u e => ?_⟩)
      · refine ⟨R.sub, R.len, R.nd, R.cel, fun b u e => ?_⟩
        by_cases hb : b = a
        · subst hb; rw [upd_same] at e; cases e; exact ⟨hH, fun z => by cases z⟩
        · rw [upd_ne hb] at e; exact R.prv b u e
      · by_cases hb : b = a
        · subst hb
          have := (R.prv _ _ e).1
          rw [hH] at this
          rw [upd_same]
          exact this
        · rw [upd_ne hb]; exact e
      · by_cases hb : b = a
        · subst hb
          have := (R.prv _ _ e).1
          rw [hH] at this
          rw [upd_same]
          exact this
        · rw [upd_ne hb]; exact e
  | @loc l a h1 =>
    simp only [dctSrc] at e
    split at e
    · rename_i ys q
      simp only [Option.some.injEq, Prod.mk.injEq] at e
      obtain ⟨rfl, rfl⟩ := e
      obtain ⟨u, hH, hB, r⟩ := live_at R h1 q
      cases u <;> simp only [ObR] at r
      rename_i vs
      refine .inr ⟨a, _, rfl, hH, trivial, fun od hn => ?_⟩
      have hpa : p a = none := R.liveP h1 hH rfl
      have R0 : RelS X.K X.mg p B ρ (s.set l (.lock (.dct ys))) (upd H a (.frz od (.dK vs))) := R.setC h1 hB hpa ⟨od, _, upd_same, hB, r⟩
      have R1 : RelS X.K X.mg (upd p a (.frz od (.dK vs))) B ρ (s.set l (.lock (.dct ys))) (upd H a (.frz od (.dK vs))) := by
        refine ⟨R0.sub, R0.len, R0.nd, R0.cel, fun b u e => ?_⟩
        by_cases hb : b = a
        · subst hb; rw [upd_same] at e; cases e; exact ⟨upd_same, fun z => by cases z⟩
        · rw [upd_ne hb] at e; exact R0.prv b u e
      refine h a od vs _ _ rfl upd_same R1 ⟨upd_same, fun B' ρ' s' H' x R' g => ?_⟩ (fun b u e => by rw [upd_ne (fun z => by subst z; rw [hpa] at e; cases e)]; exact e) fun B' ρ' s' H' x R' g => ?_
      · have hg : s'[l]? = some (.lock (.dct ys)) := g _ (List.mem_cons_self ..)
        obtain ⟨od', u', hH', _, r'⟩ := R'.cel l a _ (pre_get x.r h1) hg
        rw [(R'.prv _ _ upd_same).1] at hH'
        cases hH'
        exact r'
      · have hg : s'[l]? = some (.lock (.dct ys)) := g _ (List.mem_cons_self ..)
        obtain ⟨od', u', hH', hB', r'⟩ := R'.cel l a _ (pre_get x.r h1) hg
        rw [(R'.prv _ _ upd_same).1] at hH'
        cases hH'
        have hl : H' a = some (.frz od (.dK vs)) := (R'.prv _ _ upd_same).1
        refine ⟨upd H' a (.dK vs), .inr ⟨a, od, _, hl, hn, rfl⟩, ?_⟩
        have Rp : RelS X.K X.mg p B' ρ' s' H' := R'.lessP fun b u e => by rw [upd_ne (fun z => by subst z; rw [hpa] at e; cases e)]; exact e
        exact Rp.setC (pre_get x.r h1) hB' hpa ⟨_, upd_same, hB', r'⟩
    · cases e
  | _ => cases e
end
end QQ

/-! QQ, part g: targets, sources, comprehensions, loops. -/
namespace QQ
open PySem L2
section
variable {X : Cx} {W : WX} {p p1 B H : Hp} {ρ : List Addr} {s : Mem} {σ : L2.St} {G : Gs} {S : Sg} {k : Nat}
/-! ### targets -/
def gsOf : List Nat → TGs
  | [] => gNil
  | i :: is => gCons (gName i) (gsOf is)
def tgOf (X : Cx) : Tg → TG
  | .nm i => gName i
  | .tp is => gTup X.K is.length (gsOf is)
def Tg.slots : Tg → List Nat
  | .nm i => [i]
  | .tp is => is
theorem wipe_set {vs : List Nat} {i : Nat} {x : Option V} (h : i ∈ vs) : ∀ {σ : L2.St}, wipe (σ.set i x) vs = wipe σ vs := by
  induction vs with
  | nil => simp at h
  | cons v vs ih =>
    intro σ
    simp only [wipe]
    by_cases hv : i ∈ vs
    · rw [ih hv]
    · have : i = v := by
        rcases List.mem_cons.mp h with h | h
        · exact h
        · exact absurd h hv
      subst this
      have : ∀ (ws : List Nat) (τ : L2.St), i ∉ ws → wipe (τ.set i x) ws = (wipe τ ws).set i x := by
        intro ws
        induction ws with
        | nil => intro τ _; rfl
        | cons w ws ih2 =>
          intro τ hn
          simp only [wipe]
          rw [ih2 τ fun z => hn (List.mem_cons_of_mem _ z), List.set_comm _ _ (fun z => hn (by rw [z]; exact List.mem_cons_self ..))]
      rw [this vs σ hv, List.set_set]
theorem wipe_wipe (vs : List Nat) (σ : L2.St) : wipe (wipe σ vs) vs = wipe σ vs := by
  have : ∀ (ws : List Nat), (∀ v ∈ ws, v ∈ vs) → wipe (wipe σ ws) vs = wipe σ vs := by
    intro ws
    induction ws with
    | nil => intro _; rfl
    | cons w ws ih =>
      intro h
      simp only [wipe]
      rw [wipe_set (h w (List.mem_cons_self ..))]
      exact ih fun v hv => h v (List.mem_cons_of_mem _ hv)
  exact this vs fun _ h => h
theorem setsT_ok {Q : L2.St → Hp → Prop} {ow : List Nat} : ∀ {is : List Nat} {ds : List Dt} {vs : List V} {φ φ' : Fra} {σ : L2.St}, FrR X.K X.mg B ρ φ σ → setsT is ds φ = some φ' → VDs X.K X.mg B ρ ds vs → (∀ i ∈ is, i ∈ ow) →
    (∀ σ', FrR X.K X.mg B ρ φ' σ' → wipe σ' ow = wipe σ ow → Q σ' H) → gsOf is vs σ H Q
  | [], [], _, φ, _, σ, F, e, r, _, h => by
    cases r
    simp only [setsT] at e
    cases e
    exact ⟨rfl, h σ F rfl⟩
  | [], _ :: _, _, _, _, _, _, e, _, _, _ => by simp [setsT] at e
  | _ :: _, [], _, _, _, _, _, e, _, _, _ => by simp [setsT] at e
  | i :: is, d :: ds, _, φ, φ', σ, F, e, r, hi, h => by
    cases r with
    | @cons _ v _ vs r1 r =>
      simp only [setsT] at e
      exact ⟨v, vs, rfl, setsT_ok (F.set i r1) e r (fun j hj => hi j (List.mem_cons_of_mem _ hj)) fun σ' F' w => h σ' F' (w.trans (wipe_set (hi i (List.mem_cons_self ..))))⟩
theorem setsT_len : ∀ {is : List Nat} {ds : List Dt} {φ φ' : Fra}, setsT is ds φ = some φ' → is.length = ds.length
  | [], [], _, _, _ => rfl
  | [], _ :: _, _, _, e => by simp [setsT] at e
  | _ :: _, [], _, _, e => by simp [setsT] at e
  | i :: is, d :: ds, _, _, e => by simp only [setsT] at e; rw [List.length_cons, List.length_cons, setsT_len e]
theorem asgT_ok {g : Tg} {d : Dt} {v : V} {φ φ' : Fra} {Q : L2.St → Hp → Prop} {ow : List Nat} (R : RelS X.K X.mg p B ρ s H) (F : FrR X.K X.mg B ρ φ σ) (e : asgT g d φ = some φ') (r : VD X.K X.mg B ρ d v) (hi : ∀ i ∈ g.slots, i ∈ ow)
    (h : ∀ σ', FrR X.K X.mg B ρ φ' σ' → wipe σ' ow = wipe σ ow → Q σ' H) : tgOf X g v σ H Q := by
  cases g with
  | nm i =>
    simp only [asgT] at e
    cases e
    exact h _ (F.set i r) (wipe_set (hi i (List.mem_cons_self ..)))
  | tp is =>
    cases d with
    | tup ds =>
      cases r with
      | @tup _ a vs h1 h2 =>
        simp only [asgT] at e
        exact ⟨a, vs, rfl, R.sqT h1, by rw [← h2.length, setsT_len e], setsT_ok F e h2 hi h⟩
    | _ => cases e
def locB (sc : Scope) (x : Str) : Bool := match sc.names.lookup x with
  | some .local => true
  | some .cell => true
  | _ => false
theorem locB_ok {sc : Scope} {x : Str} (h : locB sc x = true) : Loc sc x := by
  unfold locB at h
  split at h <;> first | exact .inl (by assumption) | exact .inr (by assumption) | cases h
/-- a plain local, where cells of the outer def are not stored -/
def locP (sc : Scope) (x : Str) : Bool := match sc.names.lookup x with
  | some .local => true
  | _ => false
def chkNm (sc : Scope) (N : List Str) (c : Str → Bool) (i : Nat) : Expr → Bool
  | .Name x _ => decide (N[i]? = some x) && (if c x = true then locB sc x else locP sc x)
  | _ => false
def chkNms (sc : Scope) (N : List Str) (c : Str → Bool) : List Nat → List Expr → Bool
  | [], [] => true
  | i :: is, e :: es => chkNm sc N c i e && chkNms sc N c is es
  | _, _ => false
/-- c: the names whose cells are of this frame -/
def chkTg (sc : Scope) (N : List Str) (c : Str → Bool) : Tg → Expr → Bool
  | .nm i, e => chkNm sc N c i e
  | .tp is, .Tuple es _ _ => chkNms sc N c is es
  | _, _ => false
theorem chkNm_ok {c : Str → Bool} {i : Nat} {e : Expr} (hN : X.N.Nodup) (hc : ∀ x, c x = true → X.fn x = true) (h : chkNm X.env.scope X.N c i e = true) : PG X e (gName i) := by
  cases e with
  | Name x pos =>
    simp only [chkNm, Bool.and_eq_true, decide_eq_true_eq] at h
    by_cases hq : c x = true
    · exact pg_name hN h.1 (locB_ok (by have h2 := h.2; rw [if_pos hq] at h2; exact h2)) (.inl (hc x hq))
    · have h2 : locP X.env.scope x = true := by have h2 := h.2; rw [if_neg hq] at h2; exact h2
      have h3 : X.env.scope.names.lookup x = some .local := by
        unfold locP at h2
        split at h2
        · assumption
        · cases h2
      exact pg_name hN h.1 (.inl h3) (.inr h3)
  | _ => cases h
theorem chkNms_ok {c : Str → Bool} (hN : X.N.Nodup) (hc : ∀ x, c x = true → X.fn x = true) : ∀ {is : List Nat} {es : List Expr}, chkNms X.env.scope X.N c is es = true → PGs X es (gsOf is) ∧ (assignEach es X.env).length = is.length ∧ (assignEach es X.env).findIdx? (·.1) = none
  | [], [], _ => ⟨pgs_nil, rfl, rfl⟩
  | [], _ :: _, h => by cases h
  | _ :: _, [], h => by cases h
  | i :: is, e :: es, h => by
    simp only [chkNms, Bool.and_eq_true] at h
    obtain ⟨h1, h2, h3⟩ := chkNms_ok hN hc h.2
    have hp := chkNm_ok hN hc h.1
    cases e with
    | Name x pos =>
      have ha : assignEach (.Name x pos :: es) X.env = (false, assign (.Name x pos) X.env) :: assignEach es X.env := rfl
      refine ⟨pgs_cons hp h1 (by rw [ha]; rfl), by rw [ha, List.length_cons, h2, List.length_cons], ?_⟩
      rw [ha, List.findIdx?_cons, h3]
      rfl
    | _ => simp [chkNm] at h
theorem chkTg_ok {c : Str → Bool} {g : Tg} {e : Expr} (hN : X.N.Nodup) (hcalm : X.calm = true) (hc : ∀ x, c x = true → X.fn x = true) (h : chkTg X.env.scope X.N c g e = true) : PG X e (tgOf X g) := by
  cases g with
  | nm i => exact chkNm_ok hN hc h
  | tp is =>
    cases e with
    | Tuple es k pos =>
      obtain ⟨h1, h2, h3⟩ := chkNms_ok hN hc (show chkNms X.env.scope X.N c is es = true from h)
      exact pg_tup hcalm h1 h2 h3
    | _ => cases h

/-! ### sources -/
variable {e e2 tg : Expr} {fe fe2 : Fra → M Dt} {la : Fra → M (List Dt)} {pos px apos : Pos} {es : List Expr}
theorem stepI {φ : Fra} {k : Dt → M (List Dt × List Gd)} {R0 : L2.It → Hp → Prop} {R' : V → Hp → Prop} (R : RelS X.K X.mg p B ρ s H) (F : FrR X.K X.mg B ρ φ σ) (h : WI X W σ p B ρ ((fe φ >>= k) s) R0)
    (hk : ∀ d v B' ρ' s' H', Ext B ρ B' ρ' → RelS X.K X.mg p B' ρ' s' H' → FrR X.K X.mg B' ρ' φ σ → VD X.K X.mg B' ρ' d v → fe φ s = .ok d s' → WI X W σ p B' ρ' (k d s') R0 → R' v H') : T X.K X.mg W fe σ H R' :=
  ⟨p, B, ρ, φ, s, R, F, (WI.bind (V1 := VD X.K X.mg) h).mono fun v H' ⟨B', ρ', s', d, x, r, q, e, w⟩ => hk d v B' ρ' s' H' x r (F.ext x) q e w⟩
theorem stepIL {φ : Fra} {k : List Dt → M (List Dt × List Gd)} {R0 : L2.It → Hp → Prop} {R' : List V → Hp → Prop} (R : RelS X.K X.mg p B ρ s H) (F : FrR X.K X.mg B ρ φ σ) (h : WI X W σ p B ρ ((la φ >>= k) s) R0)
    (hk : ∀ d v B' ρ' s' H', Ext B ρ B' ρ' → RelS X.K X.mg p B' ρ' s' H' → VDs X.K X.mg B' ρ' d v → WI X W σ p B' ρ' (k d s') R0 → R' v H') : TL X.K X.mg W la σ H R' :=
  ⟨p, B, ρ, φ, s, R, F, (WI.bind (V1 := VDs X.K X.mg) h).mono fun v H' ⟨B', ρ', s', d, x, r, q, e, w⟩ => hk d v B' ρ' s' H' x r q w⟩
theorem wi_pure {xs : List Dt} {gs : List Gd} {J : L2.It} {R0 : L2.It → Hp → Prop} (h : WI X W σ p B ρ ((pure (xs, gs) : M (List Dt × List Gd)) s) R0) (k : SrcAt X p p1 B ρ s xs gs J H) : R0 J H := h B ρ H J p1 Ext.refl k
variable {a b c : Expr} {fa fb fc : Fra → M Dt}
theorem q_rng1 (hg : Gl X "range") (hm : X.mg "range" = none) (hs : noStar a = true) (ha : PE X a (T X.K X.mg W fa)) :
    PI X tg (.Call (.Name "range" px) [a] [] pos) (TIr X W fun φ => do let xs ← (do let x ← fa φ; let xs ← pure []; pure (x :: xs)); let r ← ofO (rangeD xs); pure (r, [])) := by
  refine pi_of fun σ H R0 ⟨p, B, ρ, φ, s, R, F, h⟩ => ⟨_, pi_range1 hg hm (pa_cons ha pa_nil (star_ok hs)) (star_ok hs), ?_⟩
  simp only [bind_assoc_M, pure_bind_M] at h
  refine stepI R F h fun d v B1 ρ1 s1 H1 x1 R1 F1 v1 e1 h1 => ?_
  obtain ⟨r, e, h1⟩ := h1.ofO
  cases v1 <;> first | cases e | skip
  rename_i j
  simp only [rangeD] at e
  split at e
  · rename_i hj
    cases e
    exact ⟨j, rfl, hj.1, hj.2, wi_pure h1 (src_at R1 (fun g hg => by simp at hg) it_rng)⟩
  · cases e
theorem q_rng2 (hg : Gl X "range") (hm : X.mg "range" = none) (hs : noStar a = true) (hsb : noStar b = true) (ha : PE X a (T X.K X.mg W fa)) (hb : PE X b (T X.K X.mg W fb)) :
    PI X tg (.Call (.Name "range" px) [a, b] [] pos) (TIr X W fun φ => do let xs ← (do let x ← fa φ; let xs ← (do let x ← fb φ; let xs ← pure []; pure (x :: xs)); pure (x :: xs)); let r ← ofO (rangeD xs); pure (r, [])) := by
  refine pi_of fun σ H R0 ⟨p, B, ρ, φ, s, R, F, h⟩ => ⟨_, pi_range2 hg hm (pa_cons ha (pa_cons hb pa_nil (star_ok hsb)) (star_ok hs)) (by rw [star_ok hs, star_ok hsb]; rfl) (star_ok hsb), ?_⟩
  simp only [bind_assoc_M, pure_bind_M] at h
  refine stepI R F h fun d v B1 ρ1 s1 H1 x1 R1 F1 v1 e1 h1 => ?_
  refine stepI R1 F1 h1 fun d2 v2 B2 ρ2 s2 H2 x2 R2 F2 w2 e2 h2 => ?_
  obtain ⟨r, e, h2⟩ := h2.ofO
  have v1 := v1.ext x2
  cases v1 <;> first | cases e | skip
  cases w2 <;> first | cases e | skip
  rename_i i j
  simp only [rangeD] at e
  split at e
  · rename_i hj
    cases e
    exact ⟨i, j, rfl, ⟨hj.1.1, hj.1.2, hj.2.1, hj.2.2⟩, wi_pure h2 (src_at R2 (fun g hg => by simp at hg) it_rng)⟩
  · cases e
theorem q_rng3 (hg : Gl X "range") (hm : X.mg "range" = none) (hs : noStar a = true) (hsb : noStar b = true) (hsc : noStar c = true) (ha : PE X a (T X.K X.mg W fa)) (hb : PE X b (T X.K X.mg W fb)) (hc : PE X c (T X.K X.mg W fc)) :
    PI X tg (.Call (.Name "range" px) [a, b, c] [] pos) (TIr X W fun φ => do let xs ← (do let x ← fa φ; let xs ← (do let x ← fb φ; let xs ← (do let x ← fc φ; let xs ← pure []; pure (x :: xs)); pure (x :: xs)); pure (x :: xs)); let r ← ofO (rangeD xs); pure (r, [])) := by
  refine pi_of fun σ H R0 ⟨p, B, ρ, φ, s, R, F, h⟩ => ⟨_, pi_range3 hg hm (pa_cons ha (pa_cons hb (pa_cons hc pa_nil (star_ok hsc)) (star_ok hsb)) (star_ok hs)) (star_ok hs) (by rw [star_ok hsb, star_ok hsc]; rfl), ?_⟩
  simp only [bind_assoc_M, pure_bind_M] at h
  refine stepI R F h fun d v B1 ρ1 s1 H1 x1 R1 F1 v1 e1 h1 => ?_
  refine stepI R1 F1 h1 fun d2 v2 B2 ρ2 s2 H2 x2 R2 F2 w2 e2 h2 => ?_
  refine stepI R2 F2 h2 fun d3 v3 B3 ρ3 s3 H3 x3 R3 F3 w3 e3 h3 => ?_
  obtain ⟨r, e, h3⟩ := h3.ofO
  have v1 := v1.ext (x2.trans x3)
  have w2 := w2.ext x3
  cases v1 <;> first | cases e | skip
  cases w2 <;> first | cases e | skip
  cases w3 <;> first | cases e | skip
  rename_i i j c
  simp only [rangeD] at e
  split at e
  · rename_i hj
    cases e
    obtain ⟨⟨⟨h1, h2'⟩, h3', h4⟩, h5, h6⟩ := hj
    have sz : Builtin.Range.rangeSize i j c = ((if i < j then (j - i - 1) / c + 1 else 0).toNat : Nat) := by
      unfold Builtin.Range.rangeSize
      rw [if_pos h5]
      split
      · have : 0 ≤ (j - i - 1) / c := Int.ediv_nonneg (by omega) (by omega)
        omega
      · rfl
    refine ⟨i, j, c, _, rfl, ⟨by omega, by omega, ?_, sz⟩, wi_pure h3 (src_at R3 (fun g hg => by simp at hg) it_rngC)⟩
    have le : (j - i - 1) / c ≤ (j - i - 1).natAbs := by
      have := Int.ediv_le_self (a := ((j - i - 1).natAbs : Int)) c (by omega)
      have h2 : (j - i - 1) / c ≤ ((j - i - 1).natAbs : Int) / c := Int.ediv_le_ediv h5 (by omega)
      omega
    have ge : 0 ≤ (j - i - 1) / c ∨ ¬ i < j := by
      by_cases hij : i < j
      · exact .inl (Int.ediv_nonneg (by omega) (by omega))
      · exact .inr hij
    unfold Builtin.Range.small
    rw [sz]
    simp only [Builtin.Range.rangeFitsLong, Bool.and_eq_true, Bool.or_eq_true, decide_eq_true_eq, beq_iff_eq]
    rw [if_pos h5]
    simp only [Bool.and_eq_true, decide_eq_true_eq]
    generalize (j - i - 1) / c = q at le ge
    refine ⟨⟨⟨⟨?_, ?_⟩, ?_⟩, ?_⟩, .inr ?_⟩
    · omega
    · omega
    · omega
    · split <;> omega
    · omega
  · cases e
theorem ok_T {φ : Fra} {d : Dt} {s1 : Mem} {Q : VK} (R : RelS X.K X.mg p B ρ s H) (F : FrR X.K X.mg B ρ φ σ) (e : fe φ s = .ok d s1)
    (h : ∀ v B' ρ' H', Ext B ρ B' ρ' → RelS X.K X.mg p B' ρ' s1 H' → VD X.K X.mg B' ρ' d v → Q v H') : T X.K X.mg W fe σ H Q :=
  ⟨p, B, ρ, φ, s, R, F, by rw [e]; exact fun B' ρ' H' v x r q => h v B' ρ' H' x r q⟩
theorem ex_T {φ : Fra} {c : Str} {fs : List (Str × Dt)} {s1 : Mem} {Q : VK} (R : RelS X.K X.mg p B ρ s H) (F : FrR X.K X.mg B ρ φ σ) (e : fe φ s = .ex c fs s1)
    (h : ∀ B' ρ' H' C o, Ext B ρ B' ρ' → RelS X.K X.mg p B' ρ' s1 H' → X.mg c = some (.ref C) → ExR X.K X.mg B' ρ' H' fs o → W (.ref C) o σ H') : T X.K X.mg W fe σ H Q :=
  ⟨p, B, ρ, φ, s, R, F, by rw [e]; exact h⟩
theorem wi_rdok {α : Type} {f : Fra → M α} {φ : Fra} {a : α} {s1 : Mem} {k : α → M (List Dt × List Gd)} {R0 : L2.It → Hp → Prop} (e : f φ s = .ok a s1) (h : WI X W σ p B ρ ((f φ >>= k) s) R0) : WI X W σ p B ρ (k a s1) R0 := by
  rw [bind_run, e] at h
  exact h
theorem wi_last {f : Mem → Option (List Dt × List Gd)} {R0 : L2.It → Hp → Prop} (h : WI X W σ p B ρ (rd f s) R0) : ∃ r, f s = some r ∧ ∀ B1 ρ1 H1 J p1, Ext B ρ B1 ρ1 → SrcAt X p p1 B1 ρ1 s r.1 r.2 J H1 → R0 J H1 := by
  cases e : f s with
  | none => simp only [QQ.rd, e] at h; exact h.elim
  | some c => simp only [QQ.rd, e] at h; exact ⟨c, rfl, h⟩
theorem on_of {d : Dt} {xs : List Dt} {gs : List Gd} (e2 : lstSrc d s = some (xs, gs)) (hg : ∀ g ∈ gs, ∃ l, d = .loc l ∧ g = .sl l xs) : ∀ g ∈ gs, g.on s := fun g hgm => by
  obtain ⟨l, z, rfl⟩ := hg g hgm
  subst z
  simp only [lstSrc] at e2
  split at e2
  · rename_i q; cases e2; exact q
  · cases e2
/-- a list, walked -/
theorem q_seq (ha : PE X e (T X.K X.mg W fe)) : PI X tg e (TIr X W fun φ => do let x ← fe φ; rd (seqSrc x)) := by
  refine pi_of fun σ H R0 ⟨p, B, ρ, φ, s, R, F, h⟩ => ?_
  have h : WI X W σ p B ρ ((fe φ >>= fun x => rd (seqSrc x)) s) R0 := h
  rw [bind_run] at h
  cases ef : fe φ s with
  | no => rw [ef] at h; exact h.elim
  | ex c fs s1 => rw [ef] at h; exact ⟨_, pi_list ha, ex_T R F ef h⟩
  | ok d s1 =>
    rw [ef] at h
    obtain ⟨⟨xs, gs⟩, e1, h⟩ := wi_last h
    have lst : lstSrc d s1 = some (xs, gs) → ∃ t, PI X tg e t ∧ t σ H R0 := fun e2 => ⟨_, pi_list ha, ok_T R F ef fun v B' ρ' H' x R' r => by
      obtain ⟨⟨a, rfl, hl⟩, hg, _⟩ := lst_at (p := p) r e2
      have hg' : ∀ g ∈ gs, ∃ l xs, g = .sl l xs := fun g hgm => let ⟨l, _, z⟩ := hg g hgm; ⟨l, xs, z⟩
      have hon : ∀ g ∈ gs, g.on s1 := fun g hgm => by
        obtain ⟨l, z, rfl⟩ := hg g hgm
        subst z
        simp only [lstSrc] at e2
        split at e2
        · rename_i q; cases e2; exact q
        · cases e2
      obtain ⟨vs, h1, h2⟩ := hl B' ρ' s1 H' Ext.refl R' hon
      exact ⟨a, rfl, ⟨vs, h1⟩, h B' ρ' H' _ p x (src_at R' hg' (it_lst hl))⟩⟩
    have dct : ∀ kvs, dctSrc d s1 = some (kvs, gs) → xs = (kvs.map fun kv => dKey kv.1) → ∃ t, PI X tg e t ∧ t σ H R0 := fun kvs e2 ex => ⟨_, pi_keys (pe_lk ha), ok_T R F ef fun v B' ρ' H' x R' r => by
      subst ex
      refine dct_lock (Q := fun x H1 => ∃ d o, x = V.ref d ∧ ((∃ kvs, H1 d = some (HO.frz o (HO.dK kvs)) ∧ R0 (Itk d o kvs) H1) ∨ ∃ kvs, H1 d = some (HO.frz o (HO.dT kvs)) ∧ R0 (Itkt d o kvs) H1)) R' r e2 fun a od vs p1 H1 ev hH R1 hd hp hb => ?_
      exact ⟨a, od, ev, .inl ⟨vs, hH, h B' ρ' H1 _ p1 x ⟨R1, it_key hd, hp, hb⟩⟩⟩⟩
    cases d with
    | tup ys =>
      cases e1
      exact ⟨_, pi_tup ha, ok_T R F ef fun v B' ρ' H' x R' r => by
        cases r with
        | tup h1 h2 => exact ⟨_, rfl, ⟨_, R'.sqT h1⟩, h B' ρ' H' _ p x (src_at R' (fun g hg => by simp at hg) (it_tup h1 h2))⟩⟩
    | lst ys => exact lst e1
    | fls ys => exact lst e1
    | dct kvs => cases e1; exact dct kvs rfl rfl
    | loc l =>
      simp only [seqSrc] at e1
      split at e1
      · rename_i q
        cases e1
        exact lst (by simp only [lstSrc, q])
      · rename_i q
        cases e1
        exact dct _ (by simp only [dctSrc, q]) rfl
      · cases e1
    | _ => cases e1
theorem q_enu {elts : List Expr} {kk : Nat} {tpos : Pos} (hg : Gl X "enumerate") (hm : X.mg "enumerate" = none) (hs : noStar a = true) (ha : PE X a (T X.K X.mg W fa)) :
    PI X (.Tuple elts kk tpos) (.Call (.Name "enumerate" px) [a] [] pos) (TIr X W fun φ => do let x ← fa φ; let r ← rd (lstSrc x); pure (enumD 0 r.1, r.2)) := by
  refine pi_of fun σ H R0 ⟨p, B, ρ, φ, s, R, F, h⟩ => ⟨_, pi_enum hg hm (pa_cons ha pa_nil (star_ok hs)) (star_ok hs), stepI R F h fun d v B1 ρ1 s1 H1 x1 R1 F1 v1 e1 h1 => ?_⟩
  obtain ⟨⟨xs, gs⟩, e, h1⟩ := h1.rd
  obtain ⟨⟨a, rfl, hl⟩, hg2, _⟩ := lst_at (p := p) v1 e
  have hon := on_of e hg2
  obtain ⟨vs, q1, q2⟩ := hl B1 ρ1 s1 H1 Ext.refl R1 hon
  exact ⟨a, vs, rfl, q1, wi_pure h1 (src_at R1 (fun g hgm => let ⟨l, _, z⟩ := hg2 g hgm; ⟨l, xs, z⟩) (it_enu hl))⟩
theorem q_zip {elts : List Expr} {kk : Nat} {tpos : Pos} (hg : Gl X "zip") (hm : X.mg "zip" = none) (hs : noStar a = true) (hsb : noStar b = true) (ha : PE X a (T X.K X.mg W fa)) (hb : PE X b (T X.K X.mg W fb)) :
    PI X (.Tuple elts kk tpos) (.Call (.Name "zip" px) [a, b] [] pos) (TIr X W fun φ => do let x ← fa φ; let y ← fb φ; let r ← rd (lstSrc x); let t ← rd (lstSrc y); pure (zipD r.1 t.1, r.2 ++ t.2)) := by
  refine pi_of fun σ H R0 ⟨p, B, ρ, φ, s, R, F, h⟩ => ⟨_, pi_zip hg hm (pa_cons ha (pa_cons hb pa_nil (star_ok hsb)) (star_ok hs)) (star_ok hs) (by rw [star_ok hsb]; rfl), stepI R F h fun d v B1 ρ1 s1 H1 x1 R1 F1 v1 e1 h1 => ?_⟩
  refine stepI R1 F1 h1 fun d2 v2 B2 ρ2 s2 H2 x2 R2 F2 w2 e2 h2 => ?_
  obtain ⟨⟨xs, gs⟩, e, h2⟩ := h2.rd
  obtain ⟨⟨ys, gt⟩, e', h2⟩ := h2.rd
  obtain ⟨⟨a, rfl, hl⟩, hg2, _⟩ := lst_at (p := p) (v1.ext x2) e
  obtain ⟨⟨b, rfl, hl'⟩, hg3, _⟩ := lst_at (p := p) w2 e'
  obtain ⟨vs, q1, q2⟩ := hl B2 ρ2 s2 H2 Ext.refl R2 (on_of e hg2)
  obtain ⟨us, q3, q4⟩ := hl' B2 ρ2 s2 H2 Ext.refl R2 (on_of e' hg3)
  refine ⟨a, b, vs, us, rfl, q1, q3, wi_pure h2 (src_at R2 (fun g hgm => ?_) (it_zip (hl.more fun g hg => List.mem_append_left _ hg) (hl'.more fun g hg => List.mem_append_right _ hg)))⟩
  rcases List.mem_append.mp hgm with z | z
  · obtain ⟨l, _, z⟩ := hg2 g z; exact ⟨l, xs, z⟩
  · obtain ⟨l, _, z⟩ := hg3 g z; exact ⟨l, ys, z⟩
theorem q_itm {elts : List Expr} {kk : Nat} {tpos : Pos} (hbo : baseOk a = true) (hline : (apos.endLine == pos.line) = true) (ha : PE X a (T X.K X.mg W fa)) :
    PI X (.Tuple elts kk tpos) (.Call (.Attribute a "items" apos) [] [] pos) (TIr X W fun φ => do let x ← fa φ; rd (itmSrc x)) := by
  refine pi_of fun σ H R0 ⟨p, B, ρ, φ, s, R, F, h⟩ => ⟨_, pi_items (pe_lk ha) (base_ok hbo) hline, stepI R F h fun d v B1 ρ1 s1 H1 x1 R1 F1 v1 e1 h1 => ?_⟩
  obtain ⟨⟨xs, gs⟩, e, h1⟩ := wi_last h1
  obtain ⟨kvs, e2, ex⟩ : ∃ kvs, dctSrc d s1 = some (kvs, gs) ∧ xs = kvs.map fun kv => .tup [dKey kv.1, kv.2] := by
    cases d <;> simp only [itmSrc] at e <;> first | cases e | skip
    · rename_i l
      split at e
      · rename_i q; cases e; exact ⟨_, by simp only [dctSrc, q], rfl⟩
      · cases e
    · exact ⟨_, rfl, rfl⟩
  subst ex
  refine dct_lock (Q := fun x H1 => ∃ d o kvs, x = V.ref d ∧ H1 d = some (HO.frz o (HO.dK kvs)) ∧ R0 (Iti d o kvs) H1) R1 v1 e2 fun a od vs p1 H1 ev hH R1 hd hp hb => ⟨a, od, vs, ev, hH, h1 B1 ρ1 H1 _ p1 Ext.refl ⟨R1, it_itm hd, hp, hb⟩⟩
end
end QQ

/-! QQ, part h: statements. -/
namespace QQ
open PySem L2
section
variable {X : Cx} {W : WX} {p p1 B H : Hp} {ρ : List Addr} {s : Mem} {σ : L2.St} {G : Gs} {S : Sg} {k : Nat} {D : Ends}
/-- what is wanted of a statement's run -/
def WS (X : Cx) (W : WX) (p B : Hp) (ρ : List Addr) (r : RS) (D : Ends) : Prop := match r with
  | .ok .nx φ s => ∀ B' ρ' H' σ', Ext B ρ B' ρ' → RelS X.K X.mg p B' ρ' s H' → FrR X.K X.mg B' ρ' φ σ' → D.nx σ' H'
  | .ok .bk φ s => ∀ B' ρ' H' σ', Ext B ρ B' ρ' → RelS X.K X.mg p B' ρ' s H' → FrR X.K X.mg B' ρ' φ σ' → D.bk σ' H'
  | .ok .ct φ s => ∀ B' ρ' H' σ', Ext B ρ B' ρ' → RelS X.K X.mg p B' ρ' s H' → FrR X.K X.mg B' ρ' φ σ' → D.ct σ' H'
  | .ok (.rt d) φ s => ∀ B' ρ' H' v, Ext B ρ B' ρ' → RelS X.K X.mg p B' ρ' s H' → VD X.K X.mg B' ρ' d v → D.rt v H'
  | .ex c fs φ s => ∀ B' ρ' H' C o σ', Ext B ρ B' ρ' → RelS X.K X.mg p B' ρ' s H' → FrR X.K X.mg B' ρ' φ σ' → X.mg c = some (.ref C) → ExR X.K X.mg B' ρ' H' fs o → W (.ref C) o σ' H'
  | .no => False
def TSr (X : Cx) (W : WX) (f : Fra → MS) : TS := fun D σ H => ∃ p B ρ φ s, RelS X.K X.mg p B ρ s H ∧ FrR X.K X.mg B ρ φ σ ∧ WS X W p B ρ (f φ s) D
theorem ps_of {st : Stmt} {t : TS} {f : Fra → MS} (h : PS X st t) (k : ∀ D σ H, TSr X W f D σ H → t D σ H) : PS X st (TSr X W f) := ⟨fun pins s σ H D I q => h.run pins s σ H D I (k D σ H q)⟩
theorem pss_of {st : List Stmt} {t : TS} {f : Fra → MS} (h : PSs X st t) (k : ∀ D σ H, TSr X W f D σ H → t D σ H) : PSs X st (TSr X W f) := ⟨fun pins s σ H D I q => h.run pins s σ H D I (k D σ H q)⟩
theorem WS.ext {B1 : Hp} {ρ1 : List Addr} {r : RS} (h : WS X W p B ρ r D) (x : Ext B ρ B1 ρ1) : WS X W p B1 ρ1 r D := by
  rcases r with ⟨⟨⟩ | d | ⟨⟩ | ⟨⟩, φ, s⟩ | ⟨c, fs, φ, s⟩ | _
  · exact fun B' ρ' H' σ' y => h B' ρ' H' σ' (x.trans y)
  · exact fun B' ρ' H' σ' y => h B' ρ' H' σ' (x.trans y)
  · exact fun B' ρ' H' σ' y => h B' ρ' H' σ' (x.trans y)
  · exact fun B' ρ' H' σ' y => h B' ρ' H' σ' (x.trans y)
  · exact fun B' ρ' H' C o σ' y => h B' ρ' H' C o σ' (x.trans y)
  · exact h
theorem WS.inE {α β : Type} {m : M α} {φ : Fra} {k : α → MS} {V1 : Hp → List Addr → α → β → Prop} (F : FrR X.K X.mg B ρ φ σ) (h : WS X W p B ρ (QQ.inE m φ k s) D) :
    WR X.K X.mg W σ p B ρ (m s) V1 (fun v H' => ∃ B' ρ' s' d, Ext B ρ B' ρ' ∧ RelS X.K X.mg p B' ρ' s' H' ∧ V1 B' ρ' d v ∧ WS X W p B' ρ' (k d s') D) := by
  unfold QQ.inE at h
  cases e : m s with
  | ok a s' =>
    rw [e] at h
    exact fun B' ρ' H' b x r v => ⟨B', ρ', s', a, x, r, v, h.ext x⟩
  | ex c fs s' => rw [e] at h; exact fun B' ρ' H' C o x r => h B' ρ' H' C o σ x r (F.ext x)
  | no => rw [e] at h; exact h
theorem stepS {φ : Fra} {fa : Fra → M Dt} {k : Dt → MS} {R' : V → Hp → Prop} (R : RelS X.K X.mg p B ρ s H) (F : FrR X.K X.mg B ρ φ σ) (h : WS X W p B ρ (inE (fa φ) φ k s) D)
    (hk : ∀ d v B' ρ' s' H', RelS X.K X.mg p B' ρ' s' H' → FrR X.K X.mg B' ρ' φ σ → VD X.K X.mg B' ρ' d v → WS X W p B' ρ' (k d s') D → R' v H') : T X.K X.mg W fa σ H R' :=
  ⟨p, B, ρ, φ, s, R, F, (WS.inE (V1 := VD X.K X.mg) F h).mono fun v H' ⟨B', ρ', s', d, x, r, q, w⟩ => hk d v B' ρ' s' H' r (F.ext x) q w⟩
theorem stepSB {φ : Fra} {fa : Fra → M Bool} {k : Bool → MS} {R' : Bool → Hp → Prop} (R : RelS X.K X.mg p B ρ s H) (F : FrR X.K X.mg B ρ φ σ) (h : WS X W p B ρ (inE (fa φ) φ k s) D)
    (hk : ∀ d B' ρ' s' H', Ext B ρ B' ρ' → RelS X.K X.mg p B' ρ' s' H' → FrR X.K X.mg B' ρ' φ σ → WS X W p B' ρ' (k d s') D → R' d H') : TB X.K X.mg W fa σ H R' :=
  ⟨p, B, ρ, φ, s, R, F, (WS.inE (V1 := fun _ _ (a b : Bool) => a = b) F h).mono fun v H' ⟨B', ρ', s', d, x, r, q, w⟩ => q ▸ hk d B' ρ' s' H' x r (F.ext x) w⟩
theorem stepSL {φ : Fra} {fa : Fra → M (List Dt)} {k : List Dt → MS} {R' : List V → Hp → Prop} (R : RelS X.K X.mg p B ρ s H) (F : FrR X.K X.mg B ρ φ σ) (h : WS X W p B ρ (inE (fa φ) φ k s) D)
    (hk : ∀ d v B' ρ' s' H', RelS X.K X.mg p B' ρ' s' H' → FrR X.K X.mg B' ρ' φ σ → VDs X.K X.mg B' ρ' d v → WS X W p B' ρ' (k d s') D → R' v H') : TL X.K X.mg W fa σ H R' :=
  ⟨p, B, ρ, φ, s, R, F, (WS.inE (V1 := VDs X.K X.mg) F h).mono fun v H' ⟨B', ρ', s', d, x, r, q, w⟩ => hk d v B' ρ' s' H' r (F.ext x) q w⟩
theorem WS.done {φ : Fra} (h : WS X W p B ρ (doneS .nx φ s) D) (R : RelS X.K X.mg p B ρ s H) (F : FrR X.K X.mg B ρ φ σ) : D.nx σ H := h B ρ H σ Ext.refl R F
theorem inE_ofO {α : Type} {o : Option α} {φ : Fra} {k : α → MS} (h : WS X W p B ρ (inE (ofO o) φ k s) D) : ∃ a, o = some a ∧ WS X W p B ρ (k a s) D := by
  cases o with
  | none => exact h.elim
  | some a => exact ⟨a, rfl, h⟩
theorem inE_bind {α β : Type} (m : M α) (k : α → M β) (φ : Fra) (j : β → MS) : inE (m >>= k) φ j = inE m φ fun a => inE (k a) φ j := by
  funext s
  show QQ.inE (m >>= k) φ j s = _
  unfold QQ.inE
  rw [bind_run]
  cases m s <;> rfl
theorem inE_lift {α : Type} {g : Op1 α} {φ : Fra} {k : α → MS} {Q : Hp → Prop} (h : WS X W p B ρ (inE (lift g) φ k s) D)
    (hq : ∀ a s1 B1 ρ1 H1, RelS X.K X.mg p B1 ρ1 s1 H1 → Ext B ρ B1 ρ1 → WS X W p B1 ρ1 (k a s1) D → Q H1) : WO X.K X.mg p B ρ (g s) (fun _ _ (_ : α) (_ : Unit) => True) (fun _ H' => Q H') := by
  cases e : g s with
  | none => simp only [inE, lift, e] at h; exact h.elim
  | some r =>
    obtain ⟨a, s1⟩ := r
    simp only [inE, lift, e] at h
    exact fun B' ρ' H' b x R' _ => hq a s1 B' ρ' H' R' x (h.ext x)
/-! ### the small ones -/
variable {e e2 tg o i : Expr} {fe fo fi : Fra → M Dt} {la : Fra → M (List Dt)} {pos px apos tpos : Pos} {es : List Expr}
def isComp : Expr → Bool
  | .ListComp .. => true
  | .SetComp .. => true
  | .DictComp .. => true
  | _ => false
theorem sw_not {t : Option Expr} {l : Nat} (h : isComp e = false) : swapsWith e t l X.env = pure false := by
  cases e <;> first | rfl | cases h
theorem sw_sub {p q : Expr} {t : Pos} {l : Nat} : swapsWith e (some (.Subscript p q t)) l X.env = pure false := by cases e <;> rfl
theorem sw_att {p : Expr} {f : Str} {t : Pos} {l : Nat} : swapsWith e (some (.Attribute p f t)) l X.env = pure false := by cases e <;> rfl
theorem q_expr (he : PE X e (T X.K X.mg W fe)) (hs : isComp e = false) : PS X (.Expr e pos) (TSr X W fun φ => inE (fe φ) φ fun _ => doneS .nx φ) :=
  ps_of (ps_expr he (sw_not hs)) fun D σ H ⟨p, B, ρ, φ, s, R, F, h⟩ => stepS R F h fun d v B' ρ' s' H' R' F' r h' => h'.done R' F'
theorem q_doc {x : Str} {j : Nat} {pos' : Pos} : PS X (.Expr (.Constant (.str x) j pos) pos') (TSr X W fun φ => doneS .nx φ) := ps_of ps_doc fun D σ H ⟨p, B, ρ, φ, s, R, F, h⟩ => h.done R F
theorem q_ret (he : PE X e (T X.K X.mg W fe)) : PS X (.Return (some e) pos) (TSr X W fun φ => inE (fe φ) φ fun x => doneS (.rt x) φ) :=
  ps_of (ps_ret he) fun D σ H ⟨p, B, ρ, φ, s, R, F, h⟩ => stepS R F h fun d v B' ρ' s' H' R' F' r h' => h' B' ρ' H' v Ext.refl R' r
theorem q_retN : PS X (.Return none pos) (TSr X W fun φ => doneS (.rt .non) φ) := ps_of ps_retN fun D σ H ⟨p, B, ρ, φ, s, R, F, h⟩ => h B ρ H .non Ext.refl R .non
theorem q_pas : PS X (.Pass pos) (TSr X W fun φ => doneS .nx φ) := ps_of ps_pass fun D σ H ⟨p, B, ρ, φ, s, R, F, h⟩ => h.done R F
theorem q_brk : PS X (.Break pos) (TSr X W fun φ => doneS .bk φ) := ps_of ps_break fun D σ H ⟨p, B, ρ, φ, s, R, F, h⟩ => h B ρ H σ Ext.refl R F
theorem q_ctn : PS X (.Continue pos) (TSr X W fun φ => doneS .ct φ) := ps_of ps_continue fun D σ H ⟨p, B, ρ, φ, s, R, F, h⟩ => h B ρ H σ Ext.refl R F
theorem q_asg {g : Tg} (he : PE X e (T X.K X.mg W fe)) (hg : PG X tg (tgOf X g)) (hs : swapsWithSole [tg] e pos.line X.env = pure false) (hw : swappedStores [tg] e X.env = pure none) (h1 : (assignEach [tg] X.env).map (·.2) = [assign tg X.env]) :
    PS X (.Assign [tg] e pos) (TSr X W fun φ => inE (fe φ) φ fun x => inE (ofO (asgT g x φ)) φ fun φ' => doneS .nx φ') :=
  ps_of (ps_asg he hg hs hw h1) fun D σ H ⟨p, B, ρ, φ, s, R, F, h⟩ => stepS R F h fun d v B' ρ' s' H' R' F' r h' => by
    obtain ⟨φ', e1, h'⟩ := inE_ofO h'
    exact asgT_ok (ow := g.slots) R' F' e1 r (fun _ z => z) fun σ' F2 _ => h'.done R' F2
theorem q_par {a b : Expr} {i j : Nat} {x y : Str} {px py pt : Pos} {kt k2 pt2} (hc : X.calm = true) (hN : X.N.Nodup) (hi : X.N[i]? = some x) (hj : X.N[j]? = some y) (hij : i ≠ j)
    (hx : X.env.scope.names.lookup x = some .local) (hy : X.env.scope.names.lookup y = some .local) (ha : PA X [a, b] (TL X.K X.mg W la))
    (hw : swappedStores [.Tuple [.Name x px, .Name y py] kt pt] (.Tuple [a, b] k2 pt2) X.env = pure (some [x, y])) :
    PS X (.Assign [.Tuple [.Name x px, .Name y py] kt pt] (.Tuple [a, b] k2 pt2) pos) (TSr X W fun φ => inE (la φ) φ fun xs => match xs with
      | [a, b] => doneS .nx ((φ.set i (some a)).set j (some b))
      | _ => fun _ => .no) :=
  ps_of (ps_par hc hN hi hj hij hx hy ha hw) fun D σ H ⟨p, B, ρ, φ, s, R, F, h⟩ => stepSL R F h fun d v B' ρ' s' H' R' F' r h' => by
    cases r with
    | nil => exact h'.elim
    | cons r1 r =>
      cases r with
      | nil => exact h'.elim
      | cons r2 r =>
        cases r with
        | cons _ _ => exact h'.elim
        | nil => exact ⟨_, _, rfl, h'.done R' ((F'.set i r1).set j r2)⟩
/-! op= -/
def ipx (X : Cx) (op : Operator) : TIp := fun x y H Q => ∃ t, PIp X op t ∧ t x y H Q
theorem ip_x {op : Operator} : PIp X op (ipx X op) := fun pins s σ H x y v u Q I r1 r2 ⟨t, h, q⟩ => h pins s σ H x y v u Q I r1 r2 q
theorem augD_ok {op : Operator} {x y z : Dt} {v w : V} {Q : VK} (rx : VD X.K X.mg B ρ x v) (ry : VD X.K X.mg B ρ y w) (e : augD op x y = some z) (q : ∀ u, VD X.K X.mg B ρ z u → Q u H) : ipx X op v w H Q := by
  cases rx <;> first | (simp only [augD] at e; cases e; done) | skip
  cases ry <;> first | (simp only [augD] at e; cases e; done) | skip
  cases op <;> simp only [augD] at e <;> cases e
  · exact ⟨_, ip_add, _, _, rfl, rfl, q _ (.int _)⟩
  · exact ⟨_, ip_sub, _, _, rfl, rfl, q _ (.int _)⟩
theorem q_aug {i : Nat} {x : Str} {op : Operator} (hN : X.N.Nodup) (hi : X.N[i]? = some x) (hx : Loc X.env.scope x) (he : PE X e (T X.K X.mg W fe)) (hf : X.fn x = true ∨ X.env.scope.names.lookup x = some .local) :
    PS X (.AugAssign (.Name x px) op e pos) (TSr X W fun φ => inE (do let x ← ofO (φ[i]?.join); let y ← fe φ; ofO (augD op x y)) φ fun z => doneS .nx (φ.set i (some z))) :=
  ps_of (ps_aug hN hi hx he ip_x hf) fun D σ H ⟨p, B, ρ, φ, s, R, F, h⟩ => by
    simp only [inE_bind] at h
    obtain ⟨d, e1, h⟩ := inE_ofO h
    obtain ⟨v, h1, h2⟩ := F.get i d (Option.join_eq_some_iff.mp e1)
    refine ⟨v, h1, p, B, ρ, φ, s, R, F, (WS.inE (V1 := VD X.K X.mg) F h).mono fun w H' ⟨B', ρ', s', d', x, r, q, h'⟩ => ?_⟩
    obtain ⟨z, e2, h'⟩ := inE_ofO h'
    exact augD_ok (h2.ext x) q e2 fun u hu => h'.done r ((F.ext x).set i hu)
theorem stepS' {φ : Fra} {fa : Fra → M Dt} {k : Dt → MS} {R' : V → Hp → Prop} (R : RelS X.K X.mg p B ρ s H) (F : FrR X.K X.mg B ρ φ σ) (h : WS X W p B ρ (inE (fa φ) φ k s) D)
    (hk : ∀ d v B' ρ' s' H', Ext B ρ B' ρ' → RelS X.K X.mg p B' ρ' s' H' → FrR X.K X.mg B' ρ' φ σ → VD X.K X.mg B' ρ' d v → WS X W p B' ρ' (k d s') D → R' v H') : T X.K X.mg W fa σ H R' :=
  ⟨p, B, ρ, φ, s, R, F, (WS.inE (V1 := VD X.K X.mg) F h).mono fun v H' ⟨B', ρ', s', d, x, r, q, w⟩ => hk d v B' ρ' s' H' x r (F.ext x) q w⟩
theorem plain_sub (h : noSlice i = true) : ∀ v, assign (.Subscript o i tpos) X.env v = (do
      let ov ← holding [v] (eval o X.env)
      let iv ← holding [v, ov] (eval i X.env)
      standAt tpos
      holding [v, ov, iv] (setItem ov iv v)
      release [v, ov, iv] []) := by
  intro v
  cases i <;> first | rfl | cases h
theorem q_six (hu : X.A.units + 1 < cLine) (hi : noSlice i = true) (he : PE X e (T X.K X.mg W fe)) (ho : PE X o (T X.K X.mg W fo)) (hi2 : PE X i (T X.K X.mg W fi)) :
    PS X (.Assign [.Subscript o i tpos] e pos) (TSr X W fun φ => inE (do let x ← fe φ; let a ← fo φ; let b ← fi φ; lift (setD a b x)) φ fun _ => doneS .nx φ) :=
  ps_of (ps_asg he (pg_sub ho hi2 set_x (plain_sub hi)) (by unfold swapsWithSole; exact sw_sub) (by cases e <;> rfl) rfl) fun D σ H ⟨p, B, ρ, φ, s, R, F, h⟩ => by
    simp only [inE_bind] at h
    refine stepS' R F h fun d v B1 ρ1 s1 H1 x1 R1 F1 v1 h1 => stepS' R1 F1 h1 fun d2 w B2 ρ2 s2 H2 x2 R2 F2 v2 h2 => stepS' R2 F2 h2 fun d3 u B3 ρ3 s3 H3 x3 R3 F3 v3 h3 => ?_
    exact setD_ok hu R3 (v2.ext x3) v3 (v1.ext (x2.trans x3)) (inE_lift h3 fun a s4 B4 ρ4 H4 R4 x4 h4 => h4.done R4 (F3.ext x4))
open PySem.Spec PyProof.Rows PySem in
/-- o[i], by values, of a list -/
theorem get_list : PGet X (rIxL X.K) := by
  intro pins s σ H x y v u Q I rx ry ⟨p, xs, i, z, ex, ey, hq, he, q⟩
  subst ex
  subst ey
  obtain rfl : v = Value.ref p := rx
  obtain ⟨t, rfl⟩ := ry
  obtain ⟨its, r, pl, hz⟩ := I.list hq
  obtain ⟨j, h1, h2, h3, h4, h5⟩ := atI_get he
  obtain ⟨w, ew, rw'⟩ := r.get h2
  have hl := r.length
  have hn := line63
  have fin : EP X pins σ Q w s := ⟨z, H, I, rw', q⟩
  by_cases h0 : 0 ≤ i
  · have hj : i.toNat = j := by
      rw [seqIndex_of h0 h5] at h1
      exact Option.some.inj h1
    exact wpAny_getItem_list pl.isList h0 (by omega) (by rw [hj]; simpa using ew) fin
  · have hj : (i + (its.toArray.size : Int)).toNat = j := by
      rw [seqIndex_neg (by omega) h4] at h1
      rw [List.size_toArray, ← hl]
      exact Option.some.inj h1
    exact wpAny_getItem_list_neg pl.isList (by omega) (by rw [List.size_toArray] <;> omega) (by omega) (by rw [hj]; simpa using ew) fin
def rIxD : V → V → Hp → VK → Prop := fun o i H Q => ∃ a z, o = .ref a ∧ DGet H a i (some z) ∧ Q z H
theorem get_dict (hu : X.A.units + 1 < cLine) : PGet X rIxD := by
  intro pins s σ H x y v u Q I rx ry ⟨a, z, ex, g, q⟩
  subst ex
  obtain rfl : v = Value.ref a := rx
  exact d_getItem hu I g ry fun w' s3 I3 rw' => ⟨z, H, I3, rw', q⟩
def getx (X : Cx) : V → V → Hp → VK → Prop := fun o i H Q => ∃ t, PGet X t ∧ t o i H Q
theorem get_x : PGet X (getx X) := fun pins s σ H o i ov iv Q I r1 r2 ⟨t, h, q⟩ => h pins s σ H o i ov iv Q I r1 r2 q
theorem getD_ok {x y d : Dt} {v w : V} {Q : VK} (hu : X.A.units + 1 < cLine) (R : RelS X.K X.mg p B ρ s H) (rx : VD X.K X.mg B ρ x v) (ry : VD X.K X.mg B ρ y w) (e : ixL x y s = some d) (q : ∀ u, VD X.K X.mg B ρ d u → Q u H) : getx X v w H Q := by
  have ht : ∀ ds, x ≠ .tup ds := fun ds z => by subst z; cases e
  have e : ixD x y s = some d := by cases x <;> first | exact e | exact absurd rfl (ht _)
  unfold ixD at e
  cases q1 : pairsOf s x with
  | some kvs =>
    rw [q1] at e
    simp only at e
    obtain ⟨a, ks, rfl, hd, hp⟩ := pairs_ok R rx q1
    cases q2 : keyD y with
    | none => rw [q2] at e; cases e
    | some k =>
      rw [q2] at e
      simp only [Option.bind_some] at e
      obtain rfl := keyD_ok ry q2
      rcases dget_of (k := k) hd hp with ⟨h1, _⟩ | ⟨d', u, h1, h3, h2⟩
      · rw [h1] at e; cases e
      · rw [h1] at e
        cases e
        exact ⟨_, get_dict hu, a, u, rfl, h2, q u h3⟩
  | none =>
    rw [q1] at e
    simp only at e
    cases ry with
    | int j =>
      simp only at e
      cases q2 : itemsA s x with
      | none => rw [q2] at e; cases e
      | some xs =>
        rw [q2] at e
        simp only [Option.bind_some] at e
        obtain ⟨a, vs, rfl, h1, h2, _⟩ := items_ok R rx (show items s x = some xs by cases x <;> first | exact q2 | exact absurd rfl (ht _))
        obtain ⟨u, h3, h4⟩ := atI_ok h2 e
        exact ⟨_, get_list, a, vs, j, u, rfl, rfl, h1, h3, q u h4⟩
    | _ => simp only at e; cases e
theorem inE_rd {α : Type} {f : Mem → Option α} {φ : Fra} {k : α → MS} (h : WS X W p B ρ (inE (rd f) φ k s) D) : ∃ a, f s = some a ∧ WS X W p B ρ (k a s) D := by
  cases e : f s with
  | none => simp only [inE, rd, e] at h; exact h.elim
  | some a => simp only [inE, rd, e] at h; exact ⟨a, rfl, h⟩
theorem q_aix {op : Operator} (hu : X.A.units + 1 < cLine) (hi : noSlice i = true) (he : PE X e (T X.K X.mg W fe)) (ho : PE X o (T X.K X.mg W fo)) (hi2 : PE X i (T X.K X.mg W fi)) :
    PS X (.AugAssign (.Subscript o i tpos) op e pos) (TSr X W fun φ => inE (do let a ← fo φ; let b ← fi φ; let x ← rd (ixL a b); let y ← fe φ; let z ← ofO (augD op x y); lift (setD a b z)) φ fun _ => doneS .nx φ) :=
  ps_of (ps_augS ho hi2 get_x he ip_x set_x (by intro ov iv new; cases i <;> first | rfl | cases hi)) fun D σ H ⟨p, B, ρ, φ, s, R, F, h⟩ => by
    simp only [inE_bind] at h
    refine stepS' R F h fun d v B1 ρ1 s1 H1 x1 R1 F1 v1 h1 => stepS' R1 F1 h1 fun d2 w B2 ρ2 s2 H2 x2 R2 F2 v2 h2 => ?_
    obtain ⟨x, ex, h2⟩ := inE_rd h2
    refine getD_ok hu R2 (v1.ext x2) v2 ex fun u hu' => stepS' R2 F2 h2 fun d3 u3 B3 ρ3 s3 H3 x3 R3 F3 v3 h3 => ?_
    obtain ⟨z, ez, h3⟩ := inE_ofO h3
    refine augD_ok (hu'.ext x3) v3 ez fun u4 hu4 => ?_
    exact setD_ok hu R3 (v1.ext (x2.trans x3)) (v2.ext x3) hu4 (inE_lift h3 fun a s4 B4 ρ4 H4 R4 x4 h4 => h4.done R4 (F3.ext x4))
theorem q_sfd {f : Str} {fd : Str → Str → Bool} (he : PE X e (T X.K X.mg W fe)) (ho : PE X o (T X.K X.mg W fo)) (hf : ∀ c C, fd c f = true → X.mg c = some (.ref C) → Cls X.K C ∧ NoAttr X.K C f) :
    PS X (.Assign [.Attribute o f tpos] e pos) (TSr X W fun φ => inE (do let y ← fe φ; let x ← fo φ; rd (fun s => (fieldsOf s x).bind fun cf => if fd cf.1 f = true then some () else none); lift (setFD x f y)) φ fun _ => doneS .nx φ) :=
  ps_of (ps_fld ho he sw_att) fun D σ H ⟨p, B, ρ, φ, s, R, F, h⟩ => by
    simp only [inE_bind] at h
    refine stepS' R F h fun d v B1 ρ1 s1 H1 x1 R1 F1 v1 h1 => stepS' R1 F1 h1 fun d2 w B2 ρ2 s2 H2 x2 R2 F2 v2 h2 => ?_
    obtain ⟨_, e1, h2⟩ := inE_rd h2
    obtain ⟨⟨c, fs⟩, e2, e3⟩ := Option.bind_eq_some_iff.mp e1
    split at e3
    · rename_i hfd
      have h2 := inE_lift (Q := fun H' => D.nx σ H') h2 fun a s4 B4 ρ4 H4 R4 x4 h4 => h4.done R4 (F2.ext x4)
      cases d2 with
      | loc l =>
        obtain ⟨a, rfl, hl⟩ := loc_inv v2
        simp only [setFD] at h2
        split at h2
        · rename_i c' fs' q
          simp only [fieldsOf, q, Option.some.injEq, Prod.mk.injEq] at e2
          obtain ⟨rfl, rfl⟩ := e2
          obtain ⟨u, hH, hB, r⟩ := live_at R2 hl q
          cases u <;> simp only [ObR] at r
          rename_i C dx vs
          obtain ⟨hm, hp⟩ := r
          obtain ⟨h3, h4⟩ := hf _ C hfd hm
          split at h2
          · rename_i hz
            refine ⟨a, C, dx, vs, rfl, hH, h3, h4, by rw [← hp.length]; exact hz, ?_⟩
            exact h2 B2 ρ2 _ () Ext.refl (R2.put hl hB hH rfl (o := .obj c' (putFD f d fs')) (u := .ins C dx (putF f v vs)) ⟨hm, putF_ok (v1.ext x2) hp⟩) trivial
          · exact h2.elim
        · exact h2.elim
      | _ => exact h2.elim
    · cases e3
end
end QQ

/-! QQ, part i: blocks, loops, comprehensions. -/
namespace QQ
open PySem L2
section
variable {X : Cx} {W : WX} {p p1 B H : Hp} {ρ : List Addr} {s : Mem} {σ : L2.St} {G : Gs} {S : Sg} {k : Nat} {D : Ends}
variable {e tg it c : Expr} {fe : Fra → M Dt} {fc : Fra → M Bool} {fa fb : Fra → MS} {pos : Pos} {st : Stmt} {a b rest : List Stmt}
theorem q_if (hc : PT X c (TB X.K X.mg W fc)) (ha : PSs X a (TSr X W fa)) (hb : PSs X b (TSr X W fb)) : PS X (.If c a b pos) (TSr X W fun φ => inE (fc φ) φ fun t => if t = true then fa φ else fb φ) :=
  ps_of (ps_if hc ha hb) fun D σ H ⟨p, B, ρ, φ, s, R, F, h⟩ => stepSB R F h fun t B1 ρ1 s1 H1 x1 R1 F1 h1 => by
    cases t with
    | true => exact ⟨p, B1, ρ1, φ, s1, R1, F1, h1⟩
    | false => exact ⟨p, B1, ρ1, φ, s1, R1, F1, h1⟩
theorem q_nilS : PSs X [] (TSr X W fun φ => doneS .nx φ) := pss_of pss_nil fun D σ H ⟨p, B, ρ, φ, s, R, F, h⟩ => h.done R F
/-- what a block's first statement is to reach -/
theorem WS.bindS {m : MS} {k : Fra → MS} (h : WS X W p B ρ (QQ.bindS m k s) D) : WS X W p B ρ (m s) { D with nx := TSr X W k D } := by
  unfold QQ.bindS at h
  rcases q : m s with ⟨⟨⟩ | d | ⟨⟩ | ⟨⟩, φ, s'⟩ | ⟨c, fs, φ, s'⟩ | _
  · rw [q] at h
    exact fun B' ρ' H' σ' x R F => ⟨p, B', ρ', φ, s', R, F, WS.ext h x⟩
  all_goals (rw [q] at h; exact h)
theorem q_consS (h1 : PS X st (TSr X W fa)) (h2 : PSs X rest (TSr X W fb)) : PSs X (st :: rest) (TSr X W fun φ => bindS (fa φ) fun φ' => fb φ') :=
  pss_of (pss_cons h1 h2) fun D σ H ⟨p, B, ρ, φ, s, R, F, h⟩ => ⟨p, B, ρ, φ, s, R, F, WS.bindS h⟩
theorem guard_on {gs : List Gd} {φ : Fra} {k : Unit → MS} (h : WS X W p B ρ (inE (guard gs) φ k s) D) : (∀ g ∈ gs, g.on s) ∧ WS X W p B ρ (k () s) D := by
  by_cases hg : ∀ g ∈ gs, g.on s
  · simp only [inE, guard, if_pos hg] at h; exact ⟨hg, h⟩
  · simp only [inE, guard, if_neg hg] at h; exact h.elim
/-- a loop's body: D is what the loop is to reach, kept for the store as left -/
theorem WS.loopS {gs : List Gd} {D1 : Ends} {m : MS} {k : Fra → MS} {N : L2.St → Hp → Prop} (h : WS X W p B ρ (QQ.loopS gs m k s) D)
    (hn : ∀ B' ρ' s' H' σ' φ', Ext B ρ B' ρ' → RelS X.K X.mg p B' ρ' s' H' → FrR X.K X.mg B' ρ' φ' σ' → WS X W p B' ρ' (k φ' s') D → N σ' H') : WS X W p B ρ (m s) { D with nx := N, ct := N, bk := D.nx } := by
  unfold QQ.loopS at h
  rcases q : m s with ⟨⟨⟩ | d | ⟨⟩ | ⟨⟩, φ, s'⟩ | ⟨c, fs, φ, s'⟩ | _
  · rw [q] at h
    exact fun B' ρ' H' σ' x R F => hn B' ρ' s' H' σ' φ x R F (WS.ext h x)
  · rw [q] at h
    exact (guard_on h).2
  · rw [q] at h
    exact (guard_on h).2
  · rw [q] at h
    exact fun B' ρ' H' σ' x R F => hn B' ρ' s' H' σ' φ x R F (WS.ext h x)
  · rw [q] at h; exact h
  · rw [q] at h; exact h
theorem q_whl (hp : PassesOwn (model X.prog X.w) X.A X.env X.xe) (hc : PT X c (TB X.K X.mg W fc)) (hb : PSs X b (TSr X W fb)) : PS X (.While c b [] pos) (TSr X W fun φ => whileS fc fb φ) :=
  ps_of (ps_while hp hc hb) fun D σ H ⟨p, B, ρ, φ, s, R, F, h⟩ => by
    have h : WS X W p B ρ (whileS fc fb φ s) D := h
    unfold whileS at h
    split at h
    · rename_i hn
      refine ⟨fun m σ H => ∃ B ρ φ s, RelS X.K X.mg p B ρ s H ∧ FrR X.K X.mg B ρ φ σ ∧ WS X W p B ρ (whileN fc fb m φ s) D, ⟨_, B, ρ, φ, s, R, F, h⟩, ?_⟩
      rintro m σ H ⟨B, ρ, φ, s, R, F, h⟩
      cases m with
      | zero => exact h.elim
      | succ m =>
        refine stepSB R F h fun t B1 ρ1 s1 H1 x1 R1 F1 h1 => ?_
        cases t with
        | false => rw [if_neg Bool.false_ne_true] at h1 ⊢; exact h1.done R1 F1
        | true =>
          rw [if_pos rfl] at h1 ⊢
          refine ⟨fun σ H => ∃ B ρ φ s, RelS X.K X.mg p B ρ s H ∧ FrR X.K X.mg B ρ φ σ ∧ WS X W p B ρ (whileN fc fb m φ s) D, fun σ' H' h' => ⟨m, Nat.lt_succ_self m, h'⟩, ?_⟩
          exact ⟨p, B1, ρ1, φ, s1, R1, F1, WS.loopS (D1 := D) h1 fun B' ρ' s' H' σ' φ' x R' F' h' => ⟨B', ρ', φ', s', R', F', h'⟩⟩
    · exact h.elim
/-! ### for -/
theorem inE_ok {α : Type} {m : M α} {φ : Fra} {k : α → MS} {s s1 : Mem} {a : α} (e : m s = .ok a s1) : inE m φ k s = k a s1 := by simp only [inE, e]
theorem inE_ex {α : Type} {m : M α} {φ : Fra} {k : α → MS} {s s1 : Mem} {c : Str} {fs : List (Str × Dt)} (e : m s = .ex c fs s1) : inE m φ k s = .ex c fs φ s1 := by simp only [inE, e]
theorem inE_no {α : Type} {m : M α} {φ : Fra} {k : α → MS} {s : Mem} (e : m s = .no) : inE m φ k s = .no := by simp only [inE, e]
/-- the ends, a lock taken off -/
def unlE (X : Cx) (D : Ends) : Ends := ⟨fun σ H => ∃ H', Unl X H H' ∧ D.nx σ H', fun v H => ∃ H', Unl X H H' ∧ D.rt v H', fun σ H => ∃ H', Unl X H H' ∧ D.bk σ H', fun σ H => ∃ H', Unl X H H' ∧ D.ct σ H'⟩
theorem ps_unl {t : TS} (h : PS X st t) : PS X st (fun D σ H => t (unlE X D) σ H) := by
  refine ⟨fun pins s σ H D I hw => ?_⟩
  refine thn (h.run pins s σ _ _ I hw) fun f s1 q => ?_
  cases f with
  | next => obtain ⟨σ', H', I2, H3, e, q⟩ := q; exact ⟨σ', _, inv_unl I2 e, q⟩
  | brk => obtain ⟨σ', H', I2, H3, e, q⟩ := q; exact ⟨σ', _, inv_unl I2 e, q⟩
  | cont => obtain ⟨σ', H', I2, H3, e, q⟩ := q; exact ⟨σ', _, inv_unl I2 e, q⟩
  | ret v => obtain ⟨x, σ', H', I2, r, H3, e, q⟩ := q; exact ⟨x, σ', _, inv_unl I2 e, r, q⟩
theorem pe_unl {t : TE} (h : PE X e t) : PE X e (fun σ H Q => t σ H fun v H' => ∃ H2, Unl X H' H2 ∧ Q v H2) := by
  refine ⟨fun pins s σ H Q I hw => ?_⟩
  refine thn (h.run pins s σ _ _ I hw) fun v s1 ⟨x, H1, I1, r, H2, u, q⟩ => ⟨x, H2, inv_unl I1 u, r, q⟩
/-- what is wanted of a for loop's turns -/
def WF (X : Cx) (W : WX) (p B : Hp) (ρ : List Addr) (gs : List Gd) (r : RS) (D : Ends) : Prop := WS X W p B ρ (leaveS gs r) D
theorem wf_no {gs : List Gd} (h : WF X W p B ρ gs .no D) : False := h
theorem WF.ext {B1 : Hp} {ρ1 : List Addr} {gs : List Gd} {r : RS} (h : WF X W p B ρ gs r D) (x : Ext B ρ B1 ρ1) : WF X W p B1 ρ1 gs r D := WS.ext h x
theorem wf_guard {gs : List Gd} {φ : Fra} {k : Unit → MS} (h : WF X W p B ρ gs (inE (guard gs) φ k s) D) : (∀ g ∈ gs, g.on s) ∧ WF X W p B ρ gs (k () s) D := by
  by_cases hg : ∀ g ∈ gs, g.on s
  · simp only [inE, guard, if_pos hg] at h; exact ⟨hg, h⟩
  · simp only [inE, guard, if_neg hg] at h; exact h.elim
theorem wf_ofO {α : Type} {gs : List Gd} {o : Option α} {φ : Fra} {k : α → MS} (h : WF X W p B ρ gs (inE (ofO o) φ k s) D) : ∃ a, o = some a ∧ WF X W p B ρ gs (k a s) D := by
  cases o with
  | none => exact h.elim
  | some a => exact ⟨a, rfl, h⟩
/-- the loop's body, in the context of the source -/
theorem wf_loop {gs : List Gd} {m : MS} {k : Fra → MS} {N : L2.St → Hp → Prop} {B0 : Hp} {ρ0 : List Addr} {xs : List Dt} {J : L2.It} {H0 : Hp} {s0 : Mem} (x0 : Ext B0 ρ0 B ρ) (A : SrcAt X p p1 B0 ρ0 s0 xs gs J H0) (h : WF X W p B ρ gs (QQ.loopS gs m k s) D)
    (hn : ∀ B' ρ' s' H' σ' φ', Ext B ρ B' ρ' → RelS X.K X.mg p1 B' ρ' s' H' → FrR X.K X.mg B' ρ' φ' σ' → WF X W p B' ρ' gs (k φ' s') D → N σ' H') : WS X W p1 B ρ (m s) { unlE X D with nx := N, ct := N, bk := (unlE X D).nx } := by
  unfold QQ.loopS at h
  rcases q : m s with ⟨⟨⟩ | d | ⟨⟩ | ⟨⟩, φ, s'⟩ | ⟨c, fs, φ, s'⟩ | _
  · rw [q] at h
    exact fun B' ρ' H' σ' x R F => hn B' ρ' s' H' σ' φ x R F (h.ext x)
  · rw [q] at h
    obtain ⟨on, h⟩ := wf_guard h
    intro B' ρ' H' v x R F
    obtain ⟨H2, u, R2⟩ := A.bk B' ρ' s' H' (x0.trans x) R on
    exact ⟨H2, u, h B' ρ' H2 v x R2 F⟩
  · rw [q] at h
    obtain ⟨on, h⟩ := wf_guard h
    intro B' ρ' H' σ' x R F
    obtain ⟨H2, u, R2⟩ := A.bk B' ρ' s' H' (x0.trans x) R on
    exact ⟨H2, u, h B' ρ' H2 σ' x R2 F⟩
  · rw [q] at h
    exact fun B' ρ' H' σ' x R F => hn B' ρ' s' H' σ' φ x R F (h.ext x)
  · rw [q] at h
    exact fun B' ρ' H' C o σ' x R F => h B' ρ' H' C o σ' x (R.lessP A.le) F
  · rw [q] at h; exact h.elim
theorem q_frs {g : Tg} {wf : Fra → M (List Dt × List Gd)} (hp : PassesOwn (model X.prog X.w) X.A X.env X.xe) (hc : X.calm = true) (hi : PI X tg it (TIr X W wf)) (hg : PG X tg (tgOf X g)) (hb : PSs X b (TSr X W fb)) (hs : ∀ x, foldedSetIterable it X.env x = pure x) :
    PS X (.For tg it b [] pos) (TSr X W fun φ => inE (wf φ) φ fun r s => leaveS r.2 (forS r.2 g fb r.1 φ (enter r.2 s))) :=
  ps_of (ps_unl (ps_for hp hc hi hg hb hs)) fun D σ H ⟨p, B, ρ, φ, s, R, F, h⟩ => by
    refine ⟨p, B, ρ, φ, s, R, F, ?_⟩
    have h : WS X W p B ρ (inE (wf φ) φ (fun r s => leaveS r.2 (forS r.2 g fb r.1 φ (enter r.2 s))) s) D := h
    cases e : wf φ s with
    | no => rw [inE_no e] at h; exact h.elim
    | ex c fs s1 => rw [inE_ex e] at h; exact fun B' ρ' H' C o x R' => h B' ρ' H' C o σ x R' (F.ext x)
    | ok r s1 =>
      rw [inE_ok e] at h
      obtain ⟨xs, gs⟩ := r
      intro B1 ρ1 H1 J p1 x1 A
      have h : WF X W p B ρ gs (forS gs g fb xs φ (enter gs s1)) D := h
      refine ⟨fun i m σ H => m = xs.length - i ∧ i ≤ xs.length ∧ ∃ B2 ρ2 φ s2, Ext B1 ρ1 B2 ρ2 ∧ RelS X.K X.mg p1 B2 ρ2 s2 H ∧ FrR X.K X.mg B2 ρ2 φ σ ∧ WF X W p B2 ρ2 gs (forS gs g fb (xs.drop i) φ s2) D,
        ⟨xs.length, by simp, Nat.zero_le _, B1, ρ1, φ, enter gs s1, Ext.refl, A.rel, F.ext x1, by simpa using h.ext x1⟩, ?_⟩
      rintro i m σ H ⟨rfl, hi, B2, ρ2, φ, s2, x2, R2, F2, h2⟩
      by_cases hlt : i < xs.length
      · rw [List.drop_eq_getElem_cons hlt] at h2
        obtain ⟨on, h2⟩ := wf_guard h2
        obtain ⟨φ1, ea, h2⟩ := wf_ofO h2
        refine .inr ⟨A.it.go i p1 (fun _ _ z => z) B2 ρ2 s2 H x2 R2 on hlt, fun σ H => ∃ B2 ρ2 φ s2, Ext B1 ρ1 B2 ρ2 ∧ RelS X.K X.mg p1 B2 ρ2 s2 H ∧ FrR X.K X.mg B2 ρ2 φ σ ∧ WF X W p B2 ρ2 gs (forS gs g fb (xs.drop (i + 1)) φ s2) D,
          fun σ' H' h' => ⟨xs.length - (i + 1), by omega, rfl, hlt, h'⟩, fun v H' y => ?_⟩
        obtain ⟨B3, x3, R3, v3⟩ := A.it.yld i p1 (fun _ _ z => z) _ B2 ρ2 s2 H v H' x2 R2 on (List.getElem?_eq_getElem hlt) y
        refine asgT_ok (ow := g.slots) R3 (F2.ext x3) ea v3 (fun _ z => z) fun σ' F3 _ => ?_
        exact ⟨p1, B3, ρ2, φ1, s2, R3, F3, wf_loop (x2.trans x3) A (h2.ext x3) fun B' ρ' s' H' σ' φ' x R' F' h' => ⟨B', ρ', φ', s', (x2.trans x3).trans x, R', F', h'⟩⟩
      · have ei : i = xs.length := by omega
        subst ei
        rw [List.drop_length] at h2
        obtain ⟨on, h2⟩ := wf_guard h2
        refine .inl ⟨A.it.stop p1 (fun _ _ z => z) B2 ρ2 s2 H x2 R2 on, ?_⟩
        obtain ⟨H2, u, R3⟩ := A.bk B2 ρ2 s2 H x2 R2 on
        exact ⟨H2, u, h2 B2 ρ2 H2 σ Ext.refl R3 F2⟩
end
end QQ

/-! QQ, part j: comprehensions. -/
namespace QQ
open PySem L2
section
variable {X : Cx} {W : WX} {p p1 B H : Hp} {ρ : List Addr} {s : Mem} {σ : L2.St} {G : Gs} {S : Sg} {k : Nat} {D : Ends}
/-- no exception leaves -/
def W0 : WX := fun _ _ _ _ => False
theorem RelS.addP {q : Addr} {u : HO} (R : RelS X.K X.mg p B ρ s H) (h : H q = some u) (hz : B q = none ∧ q ∉ ρ) : RelS X.K X.mg (upd p q u) B ρ s H := by
  refine ⟨R.sub, R.len, R.nd, R.cel, fun a o e => ?_⟩
  by_cases ha : a = q
  · subst ha; rw [upd_same] at e; cases e; exact ⟨h, fun _ => hz⟩
  · rw [upd_ne ha] at e; exact R.prv a o e
theorem unl_at {H' : Hp} {q : Addr} {u : HO} (h : Unl X H H') (e : H q = some u) (hz : isFz u = false) : H' q = some u := by
  rcases h with rfl | ⟨d, od, u', e', hn, rfl⟩
  · exact e
  · rw [upd_ne]
    · exact e
    · intro z
      subst z
      rw [e] at e'
      cases e'
      cases hz
theorem guard_run {gs : List Gd} {s s' : Mem} {u : Unit} (h : guard gs s = .ok u s') : s' = s ∧ ∀ g ∈ gs, g.on s := by
  unfold guard at h
  split at h
  · rename_i hg; cases h; exact ⟨rfl, hg⟩
  · cases h
theorem guard_ex {gs : List Gd} {s s' : Mem} {c : Str} {fs : List (Str × Dt)} (h : guard gs s = .ex c fs s') : False := by
  unfold guard at h
  split at h <;> cases h
theorem noEx_ex {α : Type} {m : M α} {s s' : Mem} {c : Str} {fs : List (Str × Dt)} (h : noEx m s = .ex c fs s') : False := by
  unfold noEx at h
  split at h <;> cases h
theorem noEx_ok {α : Type} {m : M α} {s s' : Mem} {a : α} (h : noEx m s = .ok a s') : m s = .ok a s' := by
  unfold noEx at h
  split at h
  · rename_i q; rw [q, h]
  · cases h
theorem bind_okE {α β : Type} {m : M α} {k : α → M β} {s s' : Mem} {b : β} (h : (m >>= k) s = .ok b s') : ∃ a s1, m s = .ok a s1 ∧ k a s1 = .ok b s' := by
  rw [bind_run] at h
  split at h
  · rename_i a s1 q; exact ⟨a, s1, q, h⟩
  · cases h
  · cases h
theorem bind_exE {α β : Type} {m : M α} {k : α → M β} {s s' : Mem} {c : Str} {fs : List (Str × Dt)} (h : (m >>= k) s = .ex c fs s') : m s = .ex c fs s' ∨ ∃ a s1, m s = .ok a s1 ∧ k a s1 = .ex c fs s' := by
  rw [bind_run] at h
  split at h
  · rename_i a s1 q; exact .inr ⟨a, s1, q, h⟩
  · rename_i q; cases h; exact .inl q
  · cases h
theorem ofO_ex {α : Type} {o : Option α} {s s' : Mem} {c : Str} {fs : List (Str × Dt)} (h : ofO o s = .ex c fs s') : False := by
  cases o <;> cases h
theorem lcS_ex {gs : List Gd} {g : Tg} {φ : Fra} {ow : List Nat} {cs : Fra → M Bool} {e : Fra → M Dt} : ∀ {xs : List Dt} {s s' : Mem} {c : Str} {fs : List (Str × Dt)}, lcS gs g φ ow cs e xs s = .ex c fs s' → False
  | [], s, s', c, fs, h => by
    unfold lcS at h
    rcases bind_exE h with h | ⟨a, s1, h1, h⟩
    · exact guard_ex h
    · cases h
  | x :: xs, s, s', c, fs, h => by
    unfold lcS at h
    rcases bind_exE h with h | ⟨_, s1, h1, h⟩
    · exact guard_ex h
    rcases bind_exE h with h | ⟨φ1, s2, h2, h⟩
    · exact ofO_ex h
    rcases bind_exE h with h | ⟨b, s3, h3, h⟩
    · exact noEx_ex h
    split at h
    · rcases bind_exE h with h | ⟨y, s4, h4, h⟩
      · exact noEx_ex h
      rcases bind_exE h with h | ⟨ys, s5, h5, h⟩
      · exact lcS_ex h
      · cases h
    · exact lcS_ex h
/-- the rest of a comprehension's run -/
noncomputable def lcK (gs : List Gd) (g : Tg) (φ : Fra) (ow : List Nat) (cs : Fra → M Bool) (e : Fra → M Dt) (own : Bool) (acc : List Dt) (xs : List Dt) : M Dt := do
  let ys ← lcS gs g φ ow cs e xs
  leaveM gs
  lift (mkL own (acc ++ ys))
theorem lcK_len {gs : List Gd} {g : Tg} {φ : Fra} {ow : List Nat} {cs : Fra → M Bool} {e : Fra → M Dt} {own : Bool} {acc xs : List Dt} (h : lcK gs g φ ow cs e own acc xs s ≠ .no) : acc.length ≤ sizeLine := by
  unfold lcK at h
  rw [bind_run] at h
  cases q : lcS gs g φ ow cs e xs s with
  | no => rw [q] at h; exact absurd rfl h
  | ex c fs s' => exact (lcS_ex q).elim
  | ok ys s1 =>
    rw [q] at h
    have h : lift (mkL own (acc ++ ys)) (leave gs s1) ≠ .no := h
    by_cases hl : (acc ++ ys).length ≤ sizeLine
    · rw [List.length_append] at hl; omega
    · exact absurd (show lift (mkL own (acc ++ ys)) (leave gs s1) = .no by simp only [lift, mkL, if_neg hl]) h
theorem wr_bind {α γ δ : Type} {m : M α} {k : α → M γ} {V' : Hp → List Addr → γ → δ → Prop} {Q : δ → Hp → Prop} (h : WR X.K X.mg W σ p B ρ ((m >>= k) s) V' Q) :
    (∃ a s1, m s = .ok a s1 ∧ WR X.K X.mg W σ p B ρ (k a s1) V' Q) ∨ ∃ c fs s1, m s = .ex c fs s1 := by
  rw [bind_run] at h
  cases e : m s with
  | ok a s' => rw [e] at h; exact .inl ⟨a, s', rfl, h⟩
  | ex c fs s' => exact .inr ⟨c, fs, s', rfl⟩
  | no => rw [e] at h; exact h.elim
theorem lc_read {g : Tg} {ow : List Nat} {own : Bool} {wf : Fra → M (List Dt × List Gd)} {fc : Fra → M Bool} {fe : Fra → M Dt} {φ : Fra} {Q : VK} (hsl : ∀ i ∈ g.slots, i ∈ ow) (R : RelS X.K X.mg p B ρ s H) (F : FrR X.K X.mg B ρ φ σ)
    (h : WE X.K X.mg W σ p B ρ ((do
      let r ← wf φ
      enterM r.2
      let ys ← lcS r.2 g φ ow fc fe r.1
      leaveM r.2
      lift (mkL own ys)) s) Q) : tLc (TIr X W wf) (tgOf X g) (TB X.K X.mg W0 fc) (T X.K X.mg W0 fe) ow σ H (fun v H' => ∃ H2, Unl X H' H2 ∧ Q v H2) := by
  refine ⟨p, B, ρ, φ, s, R, F, ?_⟩
  rw [bind_run] at h
  cases ew : wf φ s with
  | no => rw [ew] at h; exact h.elim
  | ex c fs s1 => rw [ew] at h; exact h
  | ok r s1 =>
    rw [ew] at h
    obtain ⟨xs, gs⟩ := r
    intro B1 ρ1 H1 J p1 x1 A D hD
    obtain ⟨hDB, hDρ, hDp⟩ := A.rel.fresh hD
    have h : WE X.K X.mg W σ p B ρ (lcK gs g φ ow fc fe own [] xs (enter gs s1)) Q := h
    have le : ∀ {u : HO} a o, p1 a = some o → upd p1 D u a = some o := fun a o e => by
      rw [upd_ne (fun z => by subst z; rw [hDp] at e; cases e)]; exact e
    refine ⟨fun i m H => m = xs.length - i ∧ i ≤ xs.length ∧ ∃ B2 ρ2 s2 acc vs, Ext B1 ρ1 B2 ρ2 ∧ RelS X.K X.mg (upd p1 D (.lst vs)) B2 ρ2 s2 H ∧ VDs X.K X.mg B2 ρ2 acc vs ∧ WE X.K X.mg W σ p B2 ρ2 (lcK gs g φ ow fc fe own acc (xs.drop i) s2) Q,
      ⟨xs.length, by simp, Nat.zero_le _, B1, ρ1, enter gs s1, [], [], Ext.refl, A.rel.newP (.lst []) hD, .nil, by simpa using h.ext x1⟩, ?_⟩
    rintro i m H ⟨rfl, hi, B2, ρ2, s2, acc, vs, x2, R2, rv, h2⟩
    by_cases hlt : i < xs.length
    · rw [List.drop_eq_getElem_cons hlt] at h2
      unfold lcK at h2
      have e1 : lcS gs g φ ow fc fe (xs[i] :: xs.drop (i + 1)) = (do
          guard gs
          let φ1 ← ofO (asgT g xs[i] (wipeD φ ow))
          let b ← noEx (fc φ1)
          if b = true then do
            let y ← noEx (fe φ1)
            let ys ← lcS gs g φ ow fc fe (xs.drop (i + 1))
            pure (y :: ys)
          else lcS gs g φ ow fc fe (xs.drop (i + 1))) := rfl
      rw [e1] at h2
      simp only [bind_assoc_M] at h2
      rcases wr_bind h2 with ⟨_, s3, eg, g3⟩ | ⟨c, fs, s3, eg⟩
      rotate_left
      · exact (guard_ex eg).elim
      obtain ⟨es, on⟩ := guard_run eg
      rw [es] at g3
      rcases wr_bind g3 with ⟨φ1, s4, ea, g4⟩ | ⟨c, fs, s4, eg⟩
      rotate_left
      · exact (ofO_ex eg).elim
      obtain ⟨ea, e4⟩ : asgT g xs[i] (wipeD φ ow) = some φ1 ∧ s4 = s2 := by
        cases z : asgT g xs[i] (wipeD φ ow) with
        | none => rw [z] at ea; cases ea
        | some φ2 => rw [z] at ea; cases ea; exact ⟨rfl, rfl⟩
      rw [e4] at g4
      rcases wr_bind g4 with ⟨b, s5, eb, g5⟩ | ⟨c, fs, s5, eg⟩
      rotate_left
      · exact (noEx_ex eg).elim
      have eb := noEx_ok eb
      refine .inr ⟨A.it.go i _ le B2 ρ2 s2 H x2 R2 on hlt, fun H => ∃ B2 ρ2 s2 acc vs, Ext B1 ρ1 B2 ρ2 ∧ RelS X.K X.mg (upd p1 D (.lst vs)) B2 ρ2 s2 H ∧ VDs X.K X.mg B2 ρ2 acc vs ∧ WE X.K X.mg W σ p B2 ρ2 (lcK gs g φ ow fc fe own acc (xs.drop (i + 1)) s2) Q,
        fun H' h' => ⟨xs.length - (i + 1), by omega, rfl, hlt, h'⟩, fun v H' y => ?_⟩
      obtain ⟨B3, x3, R3, v3⟩ := A.it.yld i _ le _ B2 ρ2 s2 H v H' x2 R2 on (List.getElem?_eq_getElem hlt) y
      refine asgT_ok (ow := ow) R3 (((F.ext x1).ext (x2.trans x3)).wipe ow) ea v3 hsl fun σ' F3 wp => ⟨by rw [wp, wipe_wipe], ?_⟩
      refine ⟨_, B3, ρ2, φ1, s2, R3, F3, ?_⟩
      rw [eb]
      intro B4 ρ4 H4 b' x4 R4 ebb
      subst ebb
      cases b with
      | false =>
        rw [if_neg Bool.false_ne_true] at g5 ⊢
        exact ⟨B4, ρ4, s5, acc, vs, (x2.trans x3).trans x4, R4, rv.ext (x3.trans x4), WR.ext g5 (x3.trans x4)⟩
      | true =>
        rw [if_pos rfl] at g5 ⊢
        simp only [bind_assoc_M, pure_bind_M] at g5
        rcases wr_bind g5 with ⟨y, s6, ey, g6⟩ | ⟨c, fs, s6, eg⟩
        rotate_left
        · exact (noEx_ex eg).elim
        have ey := noEx_ok ey
        refine ⟨_, B4, ρ4, φ1, s5, R4, F3.ext x4, ?_⟩
        rw [ey]
        intro B5 ρ5 H5 u x5 R5 ru
        have h3 : WE X.K X.mg W σ p B2 ρ2 (lcK gs g φ ow fc fe own (acc ++ [y]) (xs.drop (i + 1)) s6) Q := by
          unfold lcK
          simpa only [List.append_assoc, List.singleton_append] using g6
        have hl := lcK_len h3.ne
        have hpD : upd p1 D (HO.lst vs) D = some (.lst vs) := upd_same
        have rv5 := rv.ext ((x3.trans x4).trans x5)
        refine ⟨vs, (R5.prv _ _ hpD).1, ?_, B5, ρ5, s6, acc ++ [y], vs ++ [u], ((x2.trans x3).trans x4).trans x5, ?_, rv5.append (.cons ru .nil), WR.ext h3 ((x3.trans x4).trans x5)⟩
        · rw [← rv.length]; simp at hl; omega
        · have := R5.setP (.lst (vs ++ [u])) hpD rfl
          rw [upd_upd] at this
          exact this
    · have ei : i = xs.length := by omega
      subst ei
      rw [List.drop_length] at h2
      unfold lcK at h2
      have e1 : lcS gs g φ ow fc fe [] = (do guard gs; pure []) := rfl
      rw [e1] at h2
      simp only [bind_assoc_M] at h2
      rcases wr_bind h2 with ⟨_, s3, eg, g3⟩ | ⟨c, fs, s3, eg⟩
      rotate_left
      · exact (guard_ex eg).elim
      obtain ⟨es, on⟩ := guard_run eg
      rw [es] at g3
      have h2 : WE X.K X.mg W σ p B2 ρ2 (lift (mkL own (acc ++ [])) (leave gs s2)) Q := g3
      rw [List.append_nil] at h2
      refine .inl ⟨A.it.stop _ le B2 ρ2 s2 H x2 R2 on, ?_⟩
      obtain ⟨H2, u, R3⟩ := A.bk B2 ρ2 s2 H x2 (R2.lessP le) on
      refine ⟨H2, u, ?_⟩
      have hpD : upd p1 D (HO.lst vs) D = some (.lst vs) := upd_same
      obtain ⟨hH, hz⟩ := R2.prv _ _ hpD
      have hH2 := unl_at u hH rfl
      have R4 := R3.addP hH2 (hz rfl)
      have hpp : ∀ a o, p a = some o → upd p D (HO.lst vs) a = some o ∧ a ≠ D := fun a o e => by
        have : a ≠ D := fun z => by subst z; have := A.le _ _ e; rw [hDp] at this; cases this
        exact ⟨by rw [upd_ne this]; exact e, this⟩
      have h2 := h2.lift
      unfold mkL at h2
      split at h2
      · cases own with
        | true =>
          rw [if_pos rfl] at h2
          obtain ⟨x5, R5⟩ := R4.toC (c := .lst acc) (upd_same) hpp rv
          refine h2 _ _ _ _ x5 R5 (.loc ?_)
          rw [← R3.len]
          simp
        | false =>
          rw [if_neg Bool.false_ne_true] at h2
          obtain ⟨x5, R5⟩ := R4.toB (p := p) upd_same rfl hpp
          exact h2 _ _ _ _ x5 R5 (.lst upd_same (rv.ext x5))
      · exact h2.elim
variable {elt tg it : Expr} {ifs : List Expr} {scope : Scope} {own : List (Str × Nat)} {pos spos py : Pos}
theorem q_lc {g : Tg} {ow : Bool} {wf : Fra → M (List Dt × List Gd)} {fc : Fra → M Bool} {fe : Fra → M Dt} (hc : X.calm = true) (hN : X.N.Nodup) (hi : PI X tg it (TIr X W wf)) (ok : BlkOk X.N X.env.scope scope own) (hsl : ∀ i ∈ g.slots, i ∈ own.map (·.2))
    (hg : ∀ (s : Shared) (H : Hp) (C : Addr) (cl : List (Str × Addr)) (fp : List Addr), PG (X.blk s H scope (compEnvC scope cl C X.env) fp) tg (tgOf X g)) (ht : ∀ (s : Shared) (H : Hp) (C : Addr) (cl : List (Str × Addr)) (fp : List Addr), PTs (X.blk s H scope (compEnvC scope cl C X.env) fp) ifs (TB X.K X.mg W0 fc))
    (he : ∀ (s : Shared) (H : Hp) (C : Addr) (cl : List (Str × Addr)) (fp : List Addr), PE (X.blk s H scope (compEnvC scope cl C X.env) fp) elt (T X.K X.mg W0 fe)) (hs : ∀ x, foldedSetIterable it X.env x = pure x) :
    PE X (.ListComp elt [⟨tg, it, ifs, 0⟩] scope pos) (T X.K X.mg W fun φ => do
      let r ← wf φ
      enterM r.2
      let ys ← lcS r.2 g φ (own.map (·.2)) fc fe r.1
      leaveM r.2
      lift (mkL ow ys)) :=
  pe_of (pe_unl (pe_lc hc hN hi ok hg ht he hs)) fun σ H Q ⟨p, B, ρ, φ, s, R, F, h⟩ => lc_read hsl R F h
theorem q_setLc {i : Nat} {y : Str} {g : Tg} {ow : Bool} {wf : Fra → M (List Dt × List Gd)} {fc : Fra → M Bool} {fe : Fra → M Dt} (hc : X.calm = true) (hN : X.N.Nodup) (hy : X.N[i]? = some y) (hyl : X.env.scope.names.lookup y = some .local)
    (hsw : swapsWith (.ListComp elt [⟨tg, it, ifs, 0⟩] scope pos) (some (.Name y py)) spos.line X.env = pure true) (hi : PI X tg it (TIr X W wf)) (ok : BlkOk X.N X.env.scope scope own) (hsl : ∀ i ∈ g.slots, i ∈ own.map (·.2))
    (hg : ∀ (s : Shared) (H : Hp) (C : Addr) (cl : List (Str × Addr)) (fp : List Addr), PG (X.blk s H scope (compEnvC scope cl C X.env) fp) tg (tgOf X g)) (ht : ∀ (s : Shared) (H : Hp) (C : Addr) (cl : List (Str × Addr)) (fp : List Addr), PTs (X.blk s H scope (compEnvC scope cl C X.env) fp) ifs (TB X.K X.mg W0 fc))
    (he : ∀ (s : Shared) (H : Hp) (C : Addr) (cl : List (Str × Addr)) (fp : List Addr), PE (X.blk s H scope (compEnvC scope cl C X.env) fp) elt (T X.K X.mg W0 fe)) (hs : ∀ x, foldedSetIterable it X.env x = pure x) :
    PS X (.Assign [.Name y py] (.ListComp elt [⟨tg, it, ifs, 0⟩] scope pos) spos) (TSr X W fun φ => inE (do
      let r ← wf φ
      enterM r.2
      let ys ← lcS r.2 g φ (own.map (·.2)) fc fe r.1
      leaveM r.2
      lift (mkL ow ys)) φ fun x => inE (ofO (asgT (.nm i) x φ)) φ fun φ' => doneS .nx φ') :=
  ps_of (ps_unl (ps_setLc hc hN hy hyl hsw hi ok hg ht he hs)) fun D σ H ⟨p, B, ρ, φ, s, R, F, h⟩ =>
    lc_read (Q := fun x H1 => gName i x σ H1 D.nx) hsl R F ((WS.inE (V1 := VD X.K X.mg) F h).mono fun v H' ⟨B', ρ', s', d, x, R', r, h'⟩ => by
      obtain ⟨φ', e1, h'⟩ := inE_ofO h'
      cases e1
      exact h'.done R' ((F.ext x).set i r))
end
end QQ

/-! QQ, part k: the syntax held against the program's text. -/
namespace QQ
open PySem L2
/-! ### the check -/
def visB (sc : Scope) (x : Str) : Bool := match sc.names.lookup x with
  | some .local => true
  | some .cell => true
  | some .free => true
  | _ => false
theorem visB_ok {sc : Scope} {x : Str} (h : visB sc x = true) : Vis sc x := by
  unfold visB at h
  split at h <;> first | exact .inl (by assumption) | exact .inr (.inl (by assumption)) | exact .inr (.inr (by assumption)) | cases h
def glB (sc : Scope) (x : Str) : Bool := match sc.names.lookup x with
  | some .globalImplicit => true
  | _ => false
theorem glB_ok {X : Cx} {x : Str} (h : glB X.env.scope x = true) : Gl X x := by
  unfold glB at h
  split at h
  · assumption
  · cases h
def notSet : Expr → Bool
  | .Set _ _ _ => false
  | _ => true
theorem notSet_ok {e : Expr} {env : Env} (h : notSet e = true) : ∀ x, foldedSetIterable e env x = pure x := by
  intro x
  cases e <;> first | rfl | cases h
def plainT : Expr → Bool
  | .BoolOp _ _ _ => false
  | .UnaryOp _ _ _ => false
  | .IfExp _ _ _ _ => false
  | .Compare _ _ _ _ => false
  | _ => true
theorem plainT_ok {e : Expr} {env : Env} (h : plainT e = true) : ∀ whole, isTrue e env whole = (do let v ← whole; standAt e.pos; holding [v] (truthy v)) := by
  intro w
  cases e <;> first | rfl | cases h
def chkC : Dt → Expr → Bool
  | d, .Constant (.int j) _ _ => (match d with | .int i => decide (i = j) | _ => false)
  | d, .Constant (.str j) _ _ => (match d with | .str i => decide (i = j) | _ => false)
  | d, .Constant (.bool j) _ _ => (match d with | .bl i => decide (i = j) | _ => false)
  | d, .Constant .none _ _ => (match d with | .non => true | _ => false)
  | _, _ => false
def opOf : Bool → BoolOp
  | true => .And
  | false => .Or
mutual
def chk (S : Sg) (N : List Str) : Ex → Scope → Expr → Bool
  | .var i, sc, e => (match e with
    | .Name x _ => decide (N[i]? = some x) && (visB sc x && (!(x == ("__debug__" : Str)) && !(x == ("__classdict__" : Str))))
    | _ => false)
  | .cst d, sc, e => chkC d e
  | .glb x, sc, e => (match e with
    | .Name y _ => decide (x = y) && glB sc x
    | _ => false)
  | .bin op _ a b, sc, e => (match e with
    | .BinOp l o r _ => decide (op = o) && (chk S N a sc l && chk S N b sc r)
    | _ => false)
  | .cmp op a b, sc, e => (match e with
    | .Compare l [o] [r] _ => decide (op = o) && (!behindInMarks o r && (chk S N a sc l && chk S N b sc r))
    | _ => false)
  | .chn o1 o2 a b c, sc, e => (match e with
    | .Compare l [p1, p2] [r, t] _ => (decide (o1 = p1) && decide (o2 = p2)) && (!lastMarks [p1, p2] [r, t] && (chk S N a sc l && (chk S N b sc r && chk S N c sc t)))
    | _ => false)
  | .bop k es, sc, e => (match e with
    | .BoolOp o vs _ => decide (opOf k = o) && chkB S N es sc vs
    | _ => false)
  | .neg a, sc, e => (match e with
    | .UnaryOp .USub x _ => chk S N a sc x
    | _ => false)
  | .nt a, sc, e => (match e with
    | .UnaryOp .Not x _ => chk S N a sc x
    | _ => false)
  | .ife c a b, sc, e => (match e with
    | .IfExp t x y _ => chkT S N c sc t && (chk S N a sc x && chk S N b sc y)
    | _ => false)
  | .tup es, sc, e => (match e with
    | .Tuple vs _ _ => chks S N es sc vs
    | _ => false)
  | .lst _ es, sc, e => (match e with
    | .List vs _ => chks S N es sc vs
    | _ => false)
  | .dis _, sc, e => (match e with
    | .Dict [] [] _ => true
    | _ => false)
  | .ix o i, sc, e => (match e with
    | .Subscript p q _ => noSlice q && (chk S N o sc p && chk S N i sc q)
    | _ => false)
  | .slc _ o lo hi, sc, e => (match e with
    | .Subscript p (.Slice l h none _) _ => chk S N o sc p && (chkO S N lo sc l && chkO S N hi sc h)
    | _ => false)
  | .sls _ o lo hi st, sc, e => (match e with
    | .Subscript p (.Slice l h (some t) _) _ => chk S N o sc p && (chkO S N lo sc l && (chkO S N hi sc h && chk S N st sc t))
    | _ => false)
  | .fld o f, sc, e => (match e with
    | .Attribute p g _ => decide (f = g) && (baseOk p && chk S N o sc p)
    | _ => false)
  | .call x es _, sc, e => (match e with
    | .Call (.Name y _) vs [] _ => (decide (x = y) && (glB sc x && decide (x ∈ S.fns))) && (vs.all noStar && chks S N es sc vs)
    | _ => false)
  | .make x es, sc, e => (match e with
    | .Call (.Name y _) vs [] _ => (decide (x = y) && (glB sc x && decide (x ∈ S.mks))) && (vs.all noStar && chks S N es sc vs)
    | _ => false)
  | .meth o m es _, sc, e => (match e with
    | .Call (.Attribute p n apos) vs [] pos => (decide (m = n) && (baseOk p && chk S N o sc p)) && ((decide (vs.length < 30) && (apos.endLine == pos.line)) && (vs.all noStar && chks S N es sc vs))
    | _ => false)
  | .blt _ x es, sc, e => (match e with
    | .Call (.Name y _) (v :: vs) [] _ => (decide (x = y) && (glB sc x && decide (x ∈ S.bn))) && (isBT (bootBuiltins x) && ((v :: vs).all noStar && chks S N es sc (v :: vs)))
    | _ => false)
  | .mtd _ o m es, sc, e => (match e with
    | .Call (.Attribute p n apos) (v :: vs) [] pos => (decide (m = n) && (baseOk p && chk S N o sc p)) && ((decide ((v :: vs).length < 30) && (apos.endLine == pos.line)) && ((v :: vs).all noStar && chks S N es sc (v :: vs)))
    | _ => false)
  | .lc _ ow g it cs x, sc, e => (match e with
    | .ListComp elt [⟨tg, ite, ifs, 0⟩] scope _ => (blkC N sc scope ow && (g.slots.all fun i => decide (i ∈ ow.map (·.2)))) && ((notSet ite && chkI S N it sc tg ite) && (chkTg (relS scope sc) N (fun x => scope.names.lookup x == some .cell) g tg && (chkTs S N cs (relS scope sc) ifs && chk S N x (relS scope sc) elt)))
    | _ => false)
  | .srtSet _ a, sc, e => (match e with
    | .Call (.Name y _) [.Call (.Name z _) [v] [] _] [] _ => (decide (y = ("sorted" : Str)) && (glB sc y && decide (y ∈ S.bn))) && ((decide (z = ("set" : Str)) && (glB sc z && decide (z ∈ S.bn))) && (noStar v && chk S N a sc v))
    | _ => false)
  | .frz a, sc, e => chk S N a sc e
def chks (S : Sg) (N : List Str) : Exs → Scope → List Expr → Bool
  | .nil, sc, es => (match es with
    | [] => true
    | _ => false)
  | .cons a as, sc, es => (match es with
    | e :: es => noStar e && (chk S N a sc e && chks S N as sc es)
    | _ => false)
/-- a part of a slice -/
def chkO (S : Sg) (N : List Str) : Exs → Scope → Option Expr → Bool
  | .nil, sc, e => (match e with
    | none => true
    | _ => false)
  | .cons a as, sc, e => (match e with
    | some e => chk S N a sc e && chkN as
    | _ => false)
def chkN : Exs → Bool
  | .nil => true
  | .cons _ _ => false
def chkB (S : Sg) (N : List Str) : Exs → Scope → List Expr → Bool
  | .nil, sc, es => false
  | .cons a as, sc, es => (match es with
    | e :: es => chk S N a sc e && (match es with | [] => chkN as | _ :: _ => chkB S N as sc es)
    | _ => false)
def chkT (S : Sg) (N : List Str) : Ex → Scope → Expr → Bool
  | .bop k es, sc, e => (match e with
    | .BoolOp o vs _ => decide (opOf k = o) && chkBT S N es sc vs
    | _ => false)
  | .nt a, sc, e => (match e with
    | .UnaryOp .Not x _ => chkT S N a sc x
    | _ => false)
  | .cmp op a b, sc, e => (match e with
    | .Compare l [o] [r] _ => decide (op = o) && (!behindInMarks o r && (chk S N a sc l && chk S N b sc r))
    | _ => false)
  | .chn o1 o2 a b c, sc, e => (match e with
    | .Compare l [p1, p2] [r, t] _ => (decide (o1 = p1) && decide (o2 = p2)) && (!lastMarks [p1, p2] [r, t] && (chk S N a sc l && (chk S N b sc r && chk S N c sc t)))
    | _ => false)
  | .ife _ _ _, _, _ => false
  | .frz _, _, _ => false
  | .var i, sc, e => plainT e && (match e with
    | .Name x _ => decide (N[i]? = some x) && (visB sc x && (!(x == ("__debug__" : Str)) && !(x == ("__classdict__" : Str))))
    | _ => false)
  | .ix o i, sc, e => plainT e && (match e with
    | .Subscript p q _ => noSlice q && (chk S N o sc p && chk S N i sc q)
    | _ => false)
  | .fld o f, sc, e => plainT e && (match e with
    | .Attribute p g _ => decide (f = g) && (baseOk p && chk S N o sc p)
    | _ => false)
  | .call x es _, sc, e => plainT e && (match e with
    | .Call (.Name y _) vs [] _ => (decide (x = y) && (glB sc x && decide (x ∈ S.fns))) && (vs.all noStar && chks S N es sc vs)
    | _ => false)
  | .meth o m es _, sc, e => plainT e && (match e with
    | .Call (.Attribute p n apos) vs [] pos => (decide (m = n) && (baseOk p && chk S N o sc p)) && ((decide (vs.length < 30) && (apos.endLine == pos.line)) && (vs.all noStar && chks S N es sc vs))
    | _ => false)
  | .blt _ x es, sc, e => plainT e && (match e with
    | .Call (.Name y _) (v :: vs) [] _ => (decide (x = y) && (glB sc x && decide (x ∈ S.bn))) && (isBT (bootBuiltins x) && ((v :: vs).all noStar && chks S N es sc (v :: vs)))
    | _ => false)
  | .cst d, sc, e => plainT e && chkC d e
  | _, _, _ => false
def chkBT (S : Sg) (N : List Str) : Exs → Scope → List Expr → Bool
  | .nil, sc, es => false
  | .cons a as, sc, es => (match es with
    | e :: es => chkT S N a sc e && (match es with | [] => chkN as | _ :: _ => chkBT S N as sc es)
    | _ => false)
def chkTs (S : Sg) (N : List Str) : Exs → Scope → List Expr → Bool
  | .nil, sc, es => (match es with
    | [] => true
    | _ => false)
  | .cons a as, sc, es => (match es with
    | [e] => chkN as && chkT S N a sc e
    | _ => false)
def chkI (S : Sg) (N : List Str) : It → Scope → Expr → Expr → Bool
  | .seq a, sc, tg, e => chk S N a sc e
  | .rng as, sc, tg, e => (match e with
    | .Call (.Name y _) vs [] _ => (decide (y = ("range" : Str)) && (glB sc y && decide (y ∈ S.bn))) && ((vs.length == 1 || (vs.length == 2 || vs.length == 3)) && chks S N as sc vs)
    | _ => false)
  | .enu a, sc, tg, e => (match e, tg with
    | .Call (.Name y _) [v] [] _, .Tuple _ _ _ => (decide (y = ("enumerate" : Str)) && (glB sc y && decide (y ∈ S.bn))) && (noStar v && chk S N a sc v)
    | _, _ => false)
  | .zip a b, sc, tg, e => (match e, tg with
    | .Call (.Name y _) [v, w] [] _, .Tuple _ _ _ => (decide (y = ("zip" : Str)) && (glB sc y && decide (y ∈ S.bn))) && ((noStar v && noStar w) && (chk S N a sc v && chk S N b sc w))
    | _, _ => false)
  | .itm a, sc, tg, e => (match e, tg with
    | .Call (.Attribute p n apos) [] [] pos, .Tuple _ _ _ => decide (n = ("items" : Str)) && ((baseOk p && (apos.endLine == pos.line)) && chk S N a sc p)
    | _, _ => false)
  | .key _, _, _, _ => false
end
end QQ

/-! QQ, part r: sorted(set(a list of ints)). -/
namespace QQ
open PySem PySem.Spec PyProof.Rows L2
/-- the set as it is made -/
abbrev so (w : World) : Obj := { cls := .type "set", dict := none, data := .set #[] 0 (.fresh 0 0 (!w.params.followText "set-order")) }
section
variable {P : Program} {w : World} {A : Around} {E : Value → Shared → Prop} {s : Shared}
set_option maxHeartbeats 3200000 in
theorem set_of_list {l : Addr} {xs : Array Value} (ns : List Int) {Q : Value → Shared → Prop} (hh : A.handled = none) (hl : s.heap.IsList l xs) (hi : IntsAre xs.toList ns) (hb : ns.length + 1 < scanBound)
    (h : ∀ (g : Heap) (tk c : Nat), SetR w g s.heap.objs.size (fun j => decide (j ∈ ns)) c → c ≤ ns.length → (∀ b o, s.heap.get? b = some o → g.get? b = some o) → Q (.ref s.heap.objs.size) { s with heap := g, toks := tk }) :
    wpAny (model P w) A (call (.type "set") [.ref l]) Q E s := by
  have hz : xs.size = ns.length := by have q := IntsAre.length hi; rw [Array.length_toList] at q; exact q
  obtain ⟨c, tl, hmro⟩ := F.called_set.mro; have hmade := F.called_set.made; have hsub := F.called_set.sub
  refine wpAny_call (codeAny_of_tree ?_); show wpAny _ _ (callAny (.type "set") _) _ _ _
  refine wpAny_pure ⟨Code.quiet_builtin _ (by decide +kernel), codeAny_builtin F.entry_type_call ?_⟩; rw [Around.under_plain (weight_type_call_type "set" [.ref l] []) rfl]
  have h1 := F.called_set.notType; have h2 := F.called_set.canCreate; have hct := F.typeCall_set_1 (.ref l)
  repeat (any_goals (first | assumption | wp_step))
  refine codeAny_mono (code_set_led1 (.ref l) (E := E) (Q₁ := fun z s1 => z = .ref s.heap.objs.size ∧ s1 = { s with heap := s.heap.push (so w) }) ⟨rfl, rfl⟩) fun r s1 hr => ?_
  cases r with
  | error e => exact hr
  | ok fl =>
    cases fl with
    | ret u =>
        obtain ⟨rfl, rfl⟩ := hr
        have hS : (s.heap.push (so w)).get? s.heap.objs.size = some (so w) := Heap.get?_push_size _ rfl
        have hT : Shared.TypeIs { s with heap := s.heap.push (so w) } (.ref s.heap.objs.size) "set" := ⟨_, hS, rfl⟩
        have hli := F.called_set.init.lookup; have hbi := F.called_set.init.bind (.ref s.heap.objs.size)
        repeat (any_goals (first | assumption | wp_step))
        refine codeAny_mono (codeAny_call_builtin (R := wants (fun r s2 => r = .none ∧ ∃ g tk c, s2 = { s with heap := g, toks := tk } ∧ SetR w g s.heap.objs.size (fun j => decide (j ∈ ns)) c ∧ c ≤ ns.length ∧ (∀ b o, s.heap.get? b = some o → g.get? b = some o)) E)
          F.called_set.init.plain F.entry_set_init (check_set_init_1 hT ?_)) fun r2 s2 hr2 => ?_
        · obtain ⟨⟨oc, od, oa, os⟩, hol, hcl, nl, hdl⟩ := hl; simp only at hcl hdl; subst hcl; subst hdl
          have hol' : (s.heap.push (so w)).get? l = some { cls := .type "list", dict := od, data := .seq xs nl, slots := os } := Heap.get?_push_of_some _ hol
          have hsls := F.sub_list_set; have hslf := F.sub_list_frozenset; have hne : (Value.type "list" == Value.type "dict") = false := by decide
          have hl1 : (s.heap.push (so w)).IsList l xs := ⟨_, hol', rfl, nl, rfl⟩
          unfold Builtin.«set.__init__» noKeywords Builtin.Frozenset.updateFrom
          generalize hPI : pyIter = PI
          wp_walk
          subst hPI
          refine wpAny_pyIter_list hl1 (wpAny_bind (wpAny_runValue ?_))
          have hlS : l < s.heap.objs.size := Heap.lt_size hol
          have hh3 : A.in1.in1.in1.handled = none := by simp [hh]
          have hI : l ≠ (s.heap.push (so w)).objs.size := by rw [Heap.size_push]; exact Nat.ne_of_lt (Nat.lt_succ_of_lt hlS)
          have hSf : s.heap.objs.size ∉ [(s.heap.push (so w)).objs.size, l] := by rw [Heap.size_push]; simp; exact Nat.ne_of_gt hlS
          have hval : ∀ (i : Nat) (v : Value), xs[i]? = some v → ∃ k t, ns[i]? = some k ∧ v = .int k t := fun i v hv => by
            have hi' : i < ns.length := by rw [← hz]; exact (Array.getElem?_eq_some_iff.mp hv).1
            obtain ⟨t, e⟩ := IntsAre.int_at hi i v (by rw [Array.getElem?_toList]; exact hv)
            exact ⟨ns[i], t, List.getElem?_eq_getElem hi', by rw [e, List.getD_eq_getElem?_getD, List.getElem?_eq_getElem hi'] <;> rfl⟩
          refine set_update_ints ((Walks.list hh3 _ l hI xs).toS) s.heap.objs.size hSf ns hz hb hval (xs.size - 0) 0 _ (by omega) (Nat.zero_le _) ⟨⟨_, Heap.get?_push_size _ rfl, rfl, rfl⟩, (hl1.push _)⟩ ⟨0, Nat.le_refl 0, setR_new_at (Heap.get?_push_of_some _ hS)⟩ ?_
          rintro ⟨g, g2, d, tk, os2⟩ c2 hm hc2 hS2
          obtain rfl : g2 = s.gens := hm.gens
          obtain rfl : d = s.drawn := hm.drawn
          obtain rfl : os2 = s.os := hm.os
          show wpAny _ _ _ _ _ _
          refine wpAny_pure ?_
          show wpAny _ _ (ret Value.none) _ _ _
          rw [hz] at hc2
          refine wpAny_pure ⟨rfl, g, tk, c2, rfl, hS2, hc2, fun b o e => ?_⟩
          have b0 : b < s.heap.objs.size := Heap.lt_size e
          exact hm.heap b o (by rw [Heap.size_push]; simp only [List.mem_cons, List.not_mem_nil, or_false, not_or]; exact ⟨Nat.ne_of_lt b0, Nat.ne_of_lt (Nat.lt_succ_of_lt b0)⟩) (Heap.get?_push_of_some _ (Heap.get?_push_of_some _ e))
        · cases r2 with
          | error e => exact hr2
          | ok f2 =>
            cases f2 with
            | ret r =>
              obtain ⟨rfl, g, tk, c2, rfl, q1, q2, q3⟩ := hr2
              repeat (any_goals (first | assumption | wp_step))
              exact h _ _ _ q1 q2 q3
            | _ => exact hr2.elim
    | _ => exact hr.elim
end
end QQ

/-! QQ, part t: sorted(set(a list)) as an expression. -/
namespace QQ
open PySem L2
theorem insI_mem {x k : Int} : ∀ {l : List Int}, k ∈ insI x l ↔ k = x ∨ k ∈ l
  | [] => by simp [insI]
  | y :: r => by
    unfold insI
    split
    · simp
    · rw [List.mem_cons, insI_mem, List.mem_cons]
      constructor
      · rintro (h | h | h)
        · exact .inr (.inl h)
        · exact .inl h
        · exact .inr (.inr h)
      · rintro (h | h | h)
        · exact .inr (.inl h)
        · exact .inl h
        · exact .inr (.inr h)
theorem srtI_mem {k : Int} : ∀ {l : List Int}, k ∈ srtI l ↔ k ∈ l
  | [] => by simp [srtI]
  | x :: r => by unfold srtI; rw [insI_mem, srtI_mem, List.mem_cons]
theorem dedI_mem {k : Int} : ∀ {l : List Int}, k ∈ dedI l ↔ k ∈ l
  | [] => by simp [dedI]
  | x :: r => by
    unfold dedI
    split
    · rename_i h
      rw [dedI_mem, List.mem_cons]
      constructor
      · exact .inr
      · rintro (rfl | h2)
        · exact h
        · exact h2
    · rw [List.mem_cons, dedI_mem, List.mem_cons]
theorem insI_lt {x : Int} : ∀ {l : List Int}, l.Pairwise (· < ·) → x ∉ l → (insI x l).Pairwise (· < ·)
  | [], _, _ => by simp [insI]
  | y :: r, h, hx => by
    obtain ⟨h1, h2⟩ := List.pairwise_cons.mp h
    unfold insI
    split
    · rename_i hxy
      refine List.pairwise_cons.mpr ⟨fun z hz => ?_, h⟩
      have : x ≠ y := fun e => hx (by rw [e]; exact List.mem_cons_self ..)
      rcases List.mem_cons.mp hz with rfl | hz
      · omega
      · have := h1 z hz; omega
    · refine List.pairwise_cons.mpr ⟨fun z hz => ?_, insI_lt h2 fun q => hx (List.mem_cons_of_mem _ q)⟩
      rcases insI_mem.mp hz with rfl | hz
      · omega
      · exact h1 z hz
theorem srt_lt : ∀ {l : List Int}, (srtI (dedI l)).Pairwise (· < ·)
  | [] => by simp [srtI, dedI]
  | x :: r => by
    unfold dedI
    split
    · exact srt_lt
    · rename_i h
      unfold srtI
      exact insI_lt srt_lt fun q => h (dedI_mem.mp (srtI_mem.mp q))
theorem lt_eq : ∀ {l m : List Int}, l.Pairwise (· < ·) → m.Pairwise (· < ·) → (∀ k, k ∈ l ↔ k ∈ m) → l = m
  | [], [], _, _, _ => rfl
  | [], y :: m, _, _, h => by have := (h y).mpr (List.mem_cons_self ..); simp at this
  | x :: l, [], _, _, h => by have := (h x).mp (List.mem_cons_self ..); simp at this
  | x :: l, y :: m, h1, h2, h => by
    obtain ⟨a1, a2⟩ := List.pairwise_cons.mp h1
    obtain ⟨b1, b2⟩ := List.pairwise_cons.mp h2
    have e : x = y := by
      rcases List.mem_cons.mp ((h x).mp (List.mem_cons_self ..)) with e | e
      · exact e
      · rcases List.mem_cons.mp ((h y).mpr (List.mem_cons_self ..)) with e2 | e2
        · exact e2.symm
        · have := b1 x e; have := a1 y e2; omega
    subst e
    rw [lt_eq a2 b2 fun k => ?_]
    constructor
    · intro hk
      rcases List.mem_cons.mp ((h k).mp (List.mem_cons_of_mem _ hk)) with e | e
      · have := a1 k hk; omega
      · exact e
    · intro hk
      rcases List.mem_cons.mp ((h k).mpr (List.mem_cons_of_mem _ hk)) with e | e
      · have := b1 k hk; omega
      · exact e
section
variable {X : Cx} {W : WX} {a : Expr} {fa : Fra → M Dt} {p p2 q pos : Pos}
open PySem.Spec PyProof.Rows in
theorem q_srtSet {own : Bool} (hc : X.calm = true) (hg : Gl X "sorted") (hm : X.mg "sorted" = none) (hg2 : Gl X "set") (hm2 : X.mg "set" = none) (hn : noStar a = true) (ha : PE X a (T X.K X.mg W fa)) :
    PE X (.Call (.Name "sorted" p) [.Call (.Name "set" p2) [a] [] q] [] pos) (T X.K X.mg W fun φ => do
      let x ← fa φ
      lift fun s => (items s x).bind fun xs => (intsOf xs).bind fun ns => if ns.length < 64 then mkL own ((srtI (dedI ns)).map .int) s else none) := by
  refine ⟨fun pins s σ H Q I ⟨p, B, ρ, φ, sm, R, F, h⟩ => ?_⟩
  refine Call_ (ld_blt I hg hm (u := .builtin "sorted") rfl ?_)
  refine callWith_builtin1 (args_cons ?_ rfl) rfl rfl
  refine Call_ (ld_blt I hg2 hm2 boot_set ?_)
  refine callWith_type1 (args_cons (thn (ha.run pins s σ H (fun v H1 => ∃ B1 ρ1 sm1 d, RelS X.K X.mg p B1 ρ1 sm1 H1 ∧ VD X.K X.mg B1 ρ1 d v ∧ WE X.K X.mg W σ p B1 ρ1 (lift (fun s => (items s d).bind fun xs => (intsOf xs).bind fun ns => if ns.length < 64 then mkL own ((srtI (dedI ns)).map .int) s else none) sm1) Q) I
    (step1 R F h fun y w p2 B2 ρ2 s2 H2 e2 x2 R2 F2 v2 h2 => by subst e2; exact ⟨B2, ρ2, s2, y, R2, v2, h2⟩)) fun v s1 ⟨x, H1, I1, r1, B1, ρ1, sm1, d, R1, v1, h1⟩ => args_nil ?_) (star_ok hn)) (star_ok hn) rfl
  have h1 := h1.lift
  obtain ⟨xs, e1, h1⟩ := h1.bind
  obtain ⟨ns, e2, h1⟩ := h1.bind
  split at h1
  · rename_i h64
    obtain ⟨l, vs, rfl, hq, hv, _⟩ := items_ok R1 v1 e1
    have ev := intsOf_ok hv e2
    subst ev
    obtain rfl : v = Value.ref l := r1
    obtain ⟨its, r, pl, hz⟩ := I1.list hq
    have hin : ∀ {ns : List Int} {us : List Value}, Vals (ns.map V.int) us → IntsAre us ns := fun {ns} => by
      induction ns with
      | nil => intro us h; cases h; exact .nil
      | cons n ns ih => intro us h; cases h with | cons r t => obtain ⟨k, rfl⟩ := r; exact .cons n k (ih t)
    refine set_of_list ns (I1.ok.hd hc) pl.isList (by simpa using hin r) (by unfold scanBound; omega) fun g tk c hS hcn hk => args_nil ?_
    have I2 : Inv X pins σ H1 { s1 with heap := g, toks := tk } := I1.kept fun b o e => hk b o e
    refine sorted_set hS (I2.ok.hd hc) (Nat.lt_of_le_of_lt hcn h64) fun s' p3 out c' ms kp gg oo hp hgt hi hs hmm hl => ?_
    have em : ms = srtI (dedI ns) := lt_eq hs srt_lt fun k => by rw [hmm k, srtI_mem, dedI_mem, decide_eq_true_eq]
    have VI : VDs X.K X.mg B1 ρ1 ((srtI (dedI ns)).map .int) (ms.map V.int) := by
      rw [← em]
      clear hgt hi hs hmm hl em
      induction ms with
      | nil => exact .nil
      | cons m ms ih => exact .cons (.int m) ih
    obtain ⟨z1, z2⟩ := mkL_ok R1 VI h1
    have hnp : H1 p3 = none := I2.hok.fresh hp
    have vi : ∀ {us : List Value} {ns : List Int}, IntsAre us ns → Vals (ns.map V.int) us := fun {us ns} h => by
      induction h with
      | nil => exact .nil
      | cons n k _ ih => exact .cons ⟨k, rfl⟩ ih
    have J := I2.call (h' := s'.heap) (g' := s'.gens) (d' := s'.drawn) (t' := s'.toks) (ch := []) (Un.laid kp hp hnp) (I2.hok.laid (o := .lst (ms.map V.int)) kp hp ⟨z1, out.toList, c', vi hi, hgt⟩) (by rw [gg]; exact I2.bare) (fun _ z => nomatch z)
    have e : s' = { s1 with heap := s'.heap, gens := s'.gens, drawn := s'.drawn, toks := s'.toks } := by
      obtain ⟨_, _, _, _, _⟩ := s'
      obtain ⟨_, _, _, _, _⟩ := s1
      cases oo
      rfl
    rw [e]
    exact ⟨.ref p3, _, J, rfl, z2 p3 hnp⟩
  · exact h1.elim
end
end QQ

/-! QQ, part v: slices with a step. -/
namespace QQ
open PySem L2 PySem.Spec PyProof.Rows
theorem slicePick_toList (its : Array Value) (lo hi : Option Int) (c : Int) : (slicePick its lo hi (some c)).toList = pickL its.toList lo hi c := by
  unfold slicePick pickL
  simp
section
variable {X : Cx} {e st : Expr} {lo hi : Option Expr} {p2 pos : Pos} {te ts : TE} {tl th : TO}
def tSl3 (K : PySem.W.Frag) (te : TE) (tl th : TO) (ts : TE) : TE := fun σ H Q => te σ H fun x H1 => tl σ H1 fun l H2 => th σ H2 fun u H3 => ts σ H3 fun y H4 =>
  ∃ i a xs, y = .int i ∧ i ≠ 0 ∧ x = .ref a ∧ SqL K H4 a xs ∧ (pickL xs l u i).length ≤ sizeLine ∧ ∀ p, H4 p = none → Q (.ref p) (upd H4 p (.lst (pickL xs l u i)))
theorem pick_ind {α β : Type} {xs : List α} {ys : List β} (R : α → β → Prop) (S : List α → List β → Prop) (h0 : S [] []) (h1 : ∀ a b as bs, R a b → S as bs → S (a :: as) (b :: bs)) (hl : xs.length = ys.length) (hr : ∀ (i : Nat) (a : α) (b : β), xs[i]? = some a → ys[i]? = some b → R a b) (lo hi : Option Int) (c : Int) : S (pickL xs lo hi c) (pickL ys lo hi c) := by
  unfold pickL
  rw [hl]
  generalize sliceRange _ _ _ = l
  induction l with
  | nil => exact h0
  | cons k l ih =>
    rw [List.filterMap_cons, List.filterMap_cons]
    rcases Nat.lt_or_ge k xs.length with q | q
    · rw [List.getElem?_eq_getElem q, List.getElem?_eq_getElem (hl ▸ q)]
      exact h1 _ _ _ _ (hr k _ _ (List.getElem?_eq_getElem q) (List.getElem?_eq_getElem (hl ▸ q))) ih
    · rw [List.getElem?_eq_none q, List.getElem?_eq_none (hl ▸ q)]
      exact ih
theorem vals_get : ∀ {xs : List V} {us : List Value}, Vals xs us → ∀ (i : Nat) (a : V) (b : Value), xs[i]? = some a → us[i]? = some b → RelV a b
  | _, _, .nil, i, a, b, h, _ => by simp at h
  | _, _, .cons h t, 0, a, b, h1, h2 => by
    simp at h1 h2
    rw [← h1, ← h2]; exact h
  | _, _, .cons h t, i + 1, a, b, h1, h2 => vals_get t i a b (by simpa using h1) (by simpa using h2)
theorem pick_vals {xs : List V} {us : List Value} (h : Vals xs us) (lo hi : Option Int) (c : Int) : Vals (pickL xs lo hi c) (pickL us lo hi c) :=
  pick_ind RelV Vals .nil (fun _ _ _ _ h t => .cons h t) h.length (vals_get h) lo hi c
theorem pe_slice3 (he : PE X e te) (hl : PO X lo tl) (hu : PO X hi th) (hs : PE X st ts) : PE X (.Subscript e (.Slice lo hi (some st) p2) pos) (tSl3 X.K te tl th ts) := by
  refine ⟨fun pins s σ H Q I h => ?_⟩
  refine Subscript_ (thn (he.run pins s σ H _ I h) fun v s1 ⟨x, H1, I1, r1, q1⟩ => ?_)
  refine wpAny_Slice (thn (hl.run pins s1 σ H1 _ I1 q1) fun vl s2 ⟨l, H2, I2, pl, q2⟩ => thn (hu.run pins s2 σ H2 _ I2 q2) fun vu s3 ⟨u, H3, I3, pu, q3⟩ => ?_)
  rw [evalPart_some]
  refine thn (hs.run pins s3 σ H3 _ I3 q3) fun vs s4 ⟨y, H4, I4, r4, q4⟩ => ?_
  obtain ⟨i, a, xs, rfl, hi0, rfl, hx, hsz, q⟩ := q4
  cases r1
  obtain ⟨t4, rfl⟩ := r4
  have I5 : Inv X pins σ H4 { s4 with heap := s4.heap.push { cls := .type "slice", data := .fields #[vl, vu, .int i t4] } } := I4.kept (t' := s4.toks) fun b ob q => Heap.get?_push_of_some _ q
  obtain ⟨its, r, ht, hz⟩ := I5.list hx
  have hlen := r.length
  show wpAny (model X.prog X.w) X.A (subscriptTail e (.Slice lo hi (some st) p2) (.ref a) (.ref s4.heap.objs.size)) (EP X pins σ Q) X.xe { s4 with heap := s4.heap.push { cls := .type "slice", data := .fields #[vl, vu, .int i t4] } }
  refine tail_any (ops := [.ref a, .ref s4.heap.objs.size]) ht.isList.typeIs slot_list_getitem.lookup ?_ (by with_unfolding_all rfl)
  refine wpAny_getItem_list_slice ht.isList (Heap.IsSliceOf.new ..) pl pu (.int i t4) (by simpa using hi0) ?_ (by rw [List.size_toArray] <;> omega)
  have e1 : (slicePick its.toArray l u (some i)) = (pickL its l u i).toArray := by
    apply Array.toList_inj.mp
    rw [slicePick_toList]
  rw [e1]
  have rp := pick_vals r l u i
  generalize pickL its l u i = ys at *
  refine ⟨.ref _, _, I5.laid (t' := s4.toks) (o := .lst (pickL xs l u i)) (fun b ob q => Heap.get?_push_of_some _ q) (Nat.le_refl _) ?_, rfl, q _ (I5.hok.fresh (Nat.le_refl _))⟩
  exact ⟨hsz, _, 0, rp, Heap.get?_push_size _ rfl⟩
end
section
variable {K : PySem.W.Frag} {mg : Str → Option Value} {X : Cx} {W : WX} {a st : Expr} {fa fs : Fra → M Dt} {pos : Pos}
theorem vds_get {B : Hp} {ρ : List Addr} : ∀ {xs : List Dt} {us : List V}, VDs K mg B ρ xs us → ∀ (i : Nat) (a : Dt) (b : V), xs[i]? = some a → us[i]? = some b → VD K mg B ρ a b
  | _, _, .nil, i, a, b, h, _ => by simp at h
  | _, _, .cons h t, 0, a, b, h1, h2 => by
    simp at h1 h2
    rw [← h1, ← h2]; exact h
  | _, _, .cons h t, i + 1, a, b, h1, h2 => vds_get t i a b (by simpa using h1) (by simpa using h2)
theorem pick_vds {B : Hp} {ρ : List Addr} {xs : List Dt} {us : List V} (h : VDs K mg B ρ xs us) (lo hi : Option Int) (c : Int) : VDs K mg B ρ (pickL xs lo hi c) (pickL us lo hi c) :=
  pick_ind (VD K mg B ρ) (VDs K mg B ρ) .nil (fun _ _ _ _ h t => .cons h t) h.length (vds_get h) lo hi c
theorem q_sls {own : Bool} {lo hi : Option Expr} {fl fh : Fra → M (Option Int)} {p2 : Pos} (hK : X.K = K) (ha : PE X a (T K mg W fa)) (hl : PO X lo (TO' K mg W fl)) (hh : PO X hi (TO' K mg W fh)) (hs : PE X st (T K mg W fs)) :
    PE X (.Subscript a (.Slice lo hi (some st) p2) pos) (T K mg W fun φ => do let x ← fa φ; let l ← fl φ; let h ← fh φ; let c ← fs φ; match c with | .int i => lift (slS own x l h i) | _ => stuck) := by
  subst hK
  refine pe_of (pe_slice3 ha hl hh hs) fun σ H Q ⟨p, B, ρ, φ, s, R, F, h⟩ => step1 R F h fun x v p1 B1 ρ1 s1 H1 e1 x1 R1 F1 v1 h1 => ?_
  subst e1
  refine stepO R1 F1 h1 fun l B2 ρ2 s2 H2 x2 R2 F2 h2 => stepO R2 F2 h2 fun u B3 ρ3 s3 H3 x3 R3 F3 h3 => ?_
  refine step1 R3 F3 h3 fun y w p4 B4 ρ4 s4 H4 e4 x4 R4 F4 v4 h4 => ?_
  subst e4
  cases v4 <;> first | exact h4.elim | skip
  rename_i i
  have h5 := h4.lift
  unfold slS at h5
  obtain ⟨xs, e, h6⟩ := h5.bind
  split at h6
  · exact h6.elim
  · rename_i hi0
    obtain ⟨a', vs, rfl, g1, g2, _⟩ := items_ok R4 (v1.ext (x2.trans (x3.trans x4))) e
    obtain ⟨k5, k6⟩ := mkL_ok R4 (pick_vds g2 l u i) h6
    exact ⟨i, a', vs, rfl, hi0, rfl, g1, k5, k6⟩
end
end QQ

/-! QQ, part l: what is checked runs so (expressions). -/
namespace QQ
open PySem L2
section
variable {G : Gs} {S : Sg} {k : Nat}
variable (G S k) in
structure OkEx (a : Ex) : Prop where
  ev : ∀ (X : Cx) (W : WX) (e : Expr), Good X G S k W → chk S X.N a X.env.scope e = true → PE X e (T X.K X.mg W (ev G a))
  tst : ∀ (X : Cx) (W : WX) (e : Expr), Good X G S k W → chkT S X.N a X.env.scope e = true → PT X e (TB X.K X.mg W (tst G a))
variable (G S k) in
structure OkExs (as : Exs) : Prop where
  evs : ∀ (X : Cx) (W : WX) (es : List Expr), Good X G S k W → chks S X.N as X.env.scope es = true → PA X es (TL X.K X.mg W (evs G as))
  evB : ∀ (X : Cx) (W : WX) (q : Bool) (es : List Expr) (pos : Pos), Good X G S k W → chkB S X.N as X.env.scope es = true → PE X (.BoolOp (opOf q) es pos) (T X.K X.mg W (evB G q as))
  tstB : ∀ (X : Cx) (W : WX) (q : Bool) (es : List Expr) (pos : Pos), Good X G S k W → chkBT S X.N as X.env.scope es = true → PW X (.BoolOp (opOf q) es pos) (TB X.K X.mg W (tstB G q as))
  tsts : ∀ (X : Cx) (W : WX) (es : List Expr), Good X G S k W → chkTs S X.N as X.env.scope es = true → PTs X es (TB X.K X.mg W (tsts G as))
  opt : ∀ (X : Cx) (W : WX) (e : Option Expr), Good X G S k W → chkO S X.N as X.env.scope e = true → PO X e (TO' X.K X.mg W (fun φ => do let l ← QQ.evs G as φ; ofO (optI l)))
variable (G S k) in
def OkIt (t : It) : Prop := ∀ (X : Cx) (W : WX) (tg e : Expr), Good X G S k W → chkI S X.N t X.env.scope tg e = true → PI X tg e (TIr X W (src G t))
theorem _root_.L2.PE.congr {X : Cx} {W : WX} {e : Expr} {f g : Fra → M Dt} (h : PE X e (T X.K X.mg W f)) (q : f = g) : PE X e (T X.K X.mg W g) := q ▸ h
theorem _root_.L2.PT.congr {X : Cx} {W : WX} {e : Expr} {f g : Fra → M Bool} (h : PT X e (TB X.K X.mg W f)) (q : f = g) : PT X e (TB X.K X.mg W g) := q ▸ h
theorem _root_.L2.PI.congr {X : Cx} {W : WX} {tg e : Expr} {f g : Fra → M (List Dt × List Gd)} (h : PI X tg e (TIr X W f)) (q : f = g) : PI X tg e (TIr X W g) := q ▸ h
theorem Good.u65 {X : Cx} {W : WX} (g : Good X G S k W) : X.A.units + 65 < cLine := by have := g.room.un; omega
theorem Good.u1 {X : Cx} {W : WX} (g : Good X G S k W) : X.A.units + 1 < cLine := by have := g.room.un; omega
theorem Good.blk {X : Cx} {W : WX} (g : Good X G S k W) (s : Shared) (H : Hp) (scope : Scope) (C : Addr) (cl : List (Str × Addr)) (fp : List Addr) : Good (X.blk s H scope (compEnvC scope cl C X.env) fp) G S k W0 where
  calm := g.calm
  nd := g.nd
  room := g.room
  tk := fun u s' ⟨_, _, _, _, _, _, _, _, _, _, _, _, _, _, _, _, w⟩ => w.elim
  wld := {
    bn := g.wld.bn
    fn := fun x hx => let ⟨h1, f, h2, h3, h4⟩ := g.wld.fn x hx; ⟨h1, f, h2, h3, fun ds s d e z => ⟨(h4 ds s d e z).ex⟩⟩
    mt := fun c m q e C hC => let ⟨h1, f, h2, h3⟩ := g.wld.mt c m q e C hC; ⟨h1, f, h2, fun ds s d e z => ⟨(h3 ds s d e z).ex⟩⟩
    mks := fun x hx => let ⟨h1, C, h2, h3, h4⟩ := g.wld.mks x hx; ⟨h1, C, h2, h3, fun q ds s e z => let ⟨f, h5, h6⟩ := h4 q ds s e z; ⟨f, h5, ⟨h6.ex⟩⟩⟩
    fd := g.wld.fd
    con := g.wld.con }
theorem dec_of {p : Prop} [Decidable p] (h : decide p = true) : p := of_decide_eq_true h
theorem ok_var {i : Nat} : OkEx G S k (.var i) := by
  have main : ∀ (X : Cx) (W : WX) (e : Expr), Good X G S k W → chk S X.N (.var i) X.env.scope e = true → PE X e (T X.K X.mg W (ev G (.var i))) := by
    intro X W e g h
    cases e with
    | Name x pos =>
      simp only [chk, Bool.and_eq_true, Bool.not_eq_true'] at h
      exact (q_var (W := W) (dec_of h.1) (visB_ok h.2.1) h.2.2.1 h.2.2.2).congr (by funext φ; simp only [ev])
    | _ => cases h
  exact ⟨main, fun X W e g h => by
    have h' : (plainT e && chk S X.N (.var i) X.env.scope e) = true := h
    rw [Bool.and_eq_true] at h'
    exact (q_tru rfl (main X W e g h'.2) (plainT_ok h'.1)).congr (by funext φ; simp only [tst])⟩
theorem ok_cst {d : Dt} : OkEx G S k (.cst d) := by
  have main : ∀ (X : Cx) (W : WX) (e : Expr), Good X G S k W → chkC d e = true → PE X e (T X.K X.mg W (ev G (.cst d))) := by
    intro X W e g h
    have fin : ∀ v, PE X e (tC v) → (∀ B ρ, VD X.K X.mg B ρ d v) → PE X e (T X.K X.mg W (ev G (.cst d))) := fun v h1 h2 => (q_cst h1 h2).congr (by funext φ; simp only [ev])
    cases e with
    | Constant c j pos =>
      cases c with
      | int n => cases d <;> first | (cases h; done) | (have := dec_of h; subst this; exact fin _ pe_int fun _ _ => .int _)
      | str n => cases d <;> first | (cases h; done) | (have := dec_of h; subst this; exact fin _ pe_str fun _ _ => .str _)
      | bool n => cases d <;> first | (cases h; done) | (have := dec_of h; subst this; exact fin _ pe_bl fun _ _ => .bl _)
      | none => cases d <;> first | (cases h; done) | exact fin _ pe_non fun _ _ => .non
      | _ => cases h
    | _ => cases h
  exact ⟨fun X W e g h => main X W e g h, fun X W e g h => by
    have h' : (plainT e && chkC d e) = true := h
    rw [Bool.and_eq_true] at h'
    exact (q_tru rfl (main X W e g h'.2) (plainT_ok h'.1)).congr (by funext φ; simp only [tst])⟩
theorem ok_glb {x : Str} : OkEx G S k (.glb x) := by
  refine ⟨fun X W e g h => ?_, fun X W e g h => nomatch h⟩
  cases e with
  | Name y pos =>
    simp only [chk, Bool.and_eq_true] at h
    have := dec_of h.1
    subst this
    have hg := glB_ok h.2
    refine PE.congr (f := fun _ => ofO (G.con x)) ?_ (by funext φ; simp only [ev])
    cases e : G.con x with
    | none => exact ⟨fun pins s σ H Q I ⟨p, B, ρ, φ, sm, R, F, z⟩ => z.elim⟩
    | some d =>
      obtain ⟨hd, hn, v, hv, h3⟩ := g.wld.con x d e
      rcases h3 with ⟨u, hm, r⟩ | ⟨hm, u, hb, r⟩
      · exact q_cst (pe_glob hg hm r hd) hv
      · exact q_cst (pe_bltn hg hm hb r hn hd) hv
  | _ => cases h
theorem ok_bin {op : Operator} {own : Bool} {a b : Ex} (ha : OkEx G S k a) (hb : OkEx G S k b) : OkEx G S k (.bin op own a b) := by
  refine ⟨fun X W e g h => ?_, fun X W e g h => nomatch h⟩
  cases e with
  | BinOp l o r pos =>
    simp only [chk, Bool.and_eq_true] at h
    have := dec_of h.1
    subst this
    exact (q_bin (own := own) (ha.ev X W l g h.2.1) (hb.ev X W r g h.2.2)).congr (by funext φ; simp only [ev])
  | _ => cases h
theorem ok_cmp {op : CmpOp} {a b : Ex} (ha : OkEx G S k a) (hb : OkEx G S k b) : OkEx G S k (.cmp op a b) := by
  have two : ∀ (X : Cx) (W : WX) (e : Expr), Good X G S k W → chk S X.N (.cmp op a b) X.env.scope e = true → PE X e (T X.K X.mg W (ev G (.cmp op a b))) ∧ PT X e (TB X.K X.mg W (tst G (.cmp op a b))) := by
    intro X W e g h
    cases e with
    | Compare l os rs pos =>
      rcases os with _ | ⟨o, _ | ⟨_, _⟩⟩ <;> first | (cases h; done) | skip
      rcases rs with _ | ⟨r, _ | ⟨_, _⟩⟩ <;> first | (cases h; done) | skip
      simp only [chk, Bool.and_eq_true, Bool.not_eq_true'] at h
      have := dec_of h.1
      subst this
      exact ⟨(q_cmp rfl g.u65 h.2.1 (ha.ev X W l g h.2.2.1) (hb.ev X W r g h.2.2.2)).congr (by funext φ; simp only [ev]),
        (q_cmpT rfl g.u65 h.2.1 (ha.ev X W l g h.2.2.1) (hb.ev X W r g h.2.2.2)).congr (by funext φ; simp only [tst, ev])⟩
    | _ => cases h
  exact ⟨fun X W e g h => (two X W e g h).1, fun X W e g h => (two X W e g h).2⟩
theorem ok_chn {o1 o2 : CmpOp} {a b c : Ex} (ha : OkEx G S k a) (hb : OkEx G S k b) (hc : OkEx G S k c) : OkEx G S k (.chn o1 o2 a b c) := by
  have two : ∀ (X : Cx) (W : WX) (e : Expr), Good X G S k W → chk S X.N (.chn o1 o2 a b c) X.env.scope e = true → PE X e (T X.K X.mg W (ev G (.chn o1 o2 a b c))) ∧ PT X e (TB X.K X.mg W (tst G (.chn o1 o2 a b c))) := by
    intro X W e g h
    cases e with
    | Compare l os rs pos =>
      rcases os with _ | ⟨p1, _ | ⟨p2, _ | ⟨_, _⟩⟩⟩ <;> first | (cases h; done) | skip
      rcases rs with _ | ⟨r, _ | ⟨t, _ | ⟨_, _⟩⟩⟩ <;> first | (cases h; done) | skip
      simp only [chk, Bool.and_eq_true, Bool.not_eq_true'] at h
      have h1 := dec_of h.1.1
      have h2 := dec_of h.1.2
      subst h1 h2
      exact ⟨(q_chn rfl g.u65 h.2.1 (ha.ev X W l g h.2.2.1) (hb.ev X W r g h.2.2.2.1) (hc.ev X W t g h.2.2.2.2)).congr (by funext φ; simp only [ev]),
        (q_chnT rfl g.u65 h.2.1 (ha.ev X W l g h.2.2.1) (hb.ev X W r g h.2.2.2.1) (hc.ev X W t g h.2.2.2.2)).congr (by funext φ; simp only [tst, ev])⟩
    | _ => cases h
  exact ⟨fun X W e g h => (two X W e g h).1, fun X W e g h => (two X W e g h).2⟩
theorem ok_bop {q : Bool} {es : Exs} (h : OkExs G S k es) : OkEx G S k (.bop q es) := by
  refine ⟨fun X W e g z => ?_, fun X W e g z => ?_⟩
  · cases e with
    | BoolOp o vs pos =>
      simp only [chk, Bool.and_eq_true] at z
      have := dec_of z.1
      subst this
      exact (h.evB X W q vs pos g z.2).congr (by funext φ; simp only [ev])
    | _ => cases z
  · cases e with
    | BoolOp o vs pos =>
      simp only [chkT, Bool.and_eq_true] at z
      have := dec_of z.1
      subst this
      exact (h.tstB X W q vs pos g z.2).pt.congr (by funext φ; simp only [tst])
    | _ => cases z
theorem ok_nt {a : Ex} (ha : OkEx G S k a) : OkEx G S k (.nt a) := by
  refine ⟨fun X W e g z => ?_, fun X W e g z => ?_⟩
  · cases e with
    | UnaryOp o x pos =>
      cases o <;> first | (cases z; done) | skip
      simp only [chk] at z
      exact (q_not (ha.ev X W x g z)).congr (by funext φ; simp only [ev] <;> rfl)
    | _ => cases z
  · cases e with
    | UnaryOp o x pos =>
      cases o <;> first | (cases z; done) | skip
      simp only [chkT] at z
      exact (q_notT (ha.tst X W x g z)).congr (by funext φ; simp only [tst])
    | _ => cases z
theorem ok_ife {c a b : Ex} (hc : OkEx G S k c) (ha : OkEx G S k a) (hb : OkEx G S k b) : OkEx G S k (.ife c a b) := by
  refine ⟨fun X W e g z => ?_, fun X W e g z => nomatch z⟩
  cases e with
  | IfExp t x y pos =>
    simp only [chk, Bool.and_eq_true] at z
    exact (q_ife (hc.tst X W t g z.1) (ha.ev X W x g z.2.1) (hb.ev X W y g z.2.2)).congr (by funext φ; simp only [ev])
  | _ => cases z
theorem ok_tup {es : Exs} (h : OkExs G S k es) : OkEx G S k (.tup es) := by
  refine ⟨fun X W e g z => ?_, fun X W e g z => nomatch z⟩
  cases e with
  | Tuple vs j pos => exact (q_tup (h.evs X W vs g z)).congr (by funext φ; simp only [ev])
  | _ => cases z
theorem ok_lst {own : Bool} {es : Exs} (h : OkExs G S k es) : OkEx G S k (.lst own es) := by
  refine ⟨fun X W e g z => ?_, fun X W e g z => nomatch z⟩
  cases e with
  | List vs pos => exact (q_lst (own := own) (h.evs X W vs g z)).congr (by funext φ; simp only [ev])
  | _ => cases z
theorem ok_dis {own : Bool} : OkEx G S k (.dis own) := by
  refine ⟨fun X W e g z => ?_, fun X W e g z => nomatch z⟩
  cases e with
  | Dict ks vs pos =>
    cases ks <;> cases vs <;> first | (cases z; done) | skip
    exact (q_dis (own := own)).congr (by funext φ; simp only [ev])
  | _ => cases z
theorem ok_ix {o i : Ex} (ho : OkEx G S k o) (hi : OkEx G S k i) : OkEx G S k (.ix o i) := by
  have main : ∀ (X : Cx) (W : WX) (e : Expr), Good X G S k W → chk S X.N (.ix o i) X.env.scope e = true → PE X e (T X.K X.mg W (ev G (.ix o i))) := by
    intro X W e g z
    cases e with
    | Subscript p q pos =>
      simp only [chk, Bool.and_eq_true] at z
      exact (q_ix rfl g.u1 z.1 (ho.ev X W p g z.2.1) (hi.ev X W q g z.2.2)).congr (by funext φ; simp only [ev])
    | _ => cases z
  exact ⟨main, fun X W e g h => by
    have h' : (plainT e && chk S X.N (.ix o i) X.env.scope e) = true := h
    rw [Bool.and_eq_true] at h'
    exact (q_tru rfl (main X W e g h'.2) (plainT_ok h'.1)).congr (by funext φ; simp only [tst])⟩
theorem ok_slc {own : Bool} {o : Ex} {lo hi : Exs} (ho : OkEx G S k o) (hl : OkExs G S k lo) (hh : OkExs G S k hi) : OkEx G S k (.slc own o lo hi) := by
  refine ⟨fun X W e g z => ?_, fun X W e g z => nomatch z⟩
  cases e with
  | Subscript p q pos =>
    cases q with
    | Slice l h st p2 =>
      cases st <;> first | (cases z; done) | skip
      simp only [chk, Bool.and_eq_true] at z
      exact (q_slc (own := own) rfl (ho.ev X W p g z.1) (hl.opt X W l g z.2.1) (hh.opt X W h g z.2.2)).congr (by funext φ; simp only [ev, bind_assoc_M])
    | _ => cases z
  | _ => cases z
theorem ok_sls {own : Bool} {o st : Ex} {lo hi : Exs} (ho : OkEx G S k o) (hl : OkExs G S k lo) (hh : OkExs G S k hi) (hs : OkEx G S k st) : OkEx G S k (.sls own o lo hi st) := by
  refine ⟨fun X W e g z => ?_, fun X W e g z => nomatch z⟩
  cases e with
  | Subscript p q pos =>
    cases q with
    | Slice l h t p2 =>
      cases t <;> first | (cases z; done) | skip
      simp only [chk, Bool.and_eq_true] at z
      exact (q_sls (own := own) rfl (ho.ev X W p g z.1) (hl.opt X W l g z.2.1) (hh.opt X W h g z.2.2.1) (hs.ev X W _ g z.2.2.2)).congr (by funext φ; simp only [ev, bind_assoc_M] <;> rfl)
    | _ => cases z
  | _ => cases z
theorem ok_fld {o : Ex} {f : Str} (ho : OkEx G S k o) : OkEx G S k (.fld o f) := by
  have main : ∀ (X : Cx) (W : WX) (e : Expr), Good X G S k W → chk S X.N (.fld o f) X.env.scope e = true → PE X e (T X.K X.mg W (ev G (.fld o f))) := by
    intro X W e g z
    cases e with
    | Attribute p f' pos =>
      simp only [chk, Bool.and_eq_true] at z
      have := dec_of z.1
      subst this
      exact (q_fld (fd := G.fd) z.2.1 (ho.ev X W p g z.2.2) fun c C h1 h2 => g.wld.fd c C f h1 h2).congr (by funext φ; simp only [ev])
    | _ => cases z
  exact ⟨main, fun X W e g h => by
    have h' : (plainT e && chk S X.N (.fld o f) X.env.scope e) = true := h
    rw [Bool.and_eq_true] at h'
    exact (q_tru rfl (main X W e g h'.2) (plainT_ok h'.1)).congr (by funext φ; simp only [tst])⟩
theorem ok_frz {a : Ex} (ha : OkEx G S k a) : OkEx G S k (.frz a) := by
  refine ⟨fun X W e g z => ?_, fun X W e g z => nomatch z⟩
  exact (q_frz (ha.ev X W e g z)).congr (by funext φ; simp only [ev])
theorem ok_set {own : Bool} {a : Ex} (ha : OkEx G S k a) : OkEx G S k (.srtSet own a) := by
  refine ⟨fun X W e g z => ?_, fun X W e g z => nomatch z⟩
  simp only [chk] at z
  split at z
  · simp only [Bool.and_eq_true] at z
    obtain ⟨⟨z1, z2, z3⟩, ⟨z4, z5, z6⟩, z7, z8⟩ := z
    have := dec_of z1
    subst this
    have := dec_of z4
    subst this
    exact (q_srtSet (own := own) g.calm (glB_ok z2) (g.wld.bn _ (dec_of z3)).1 (glB_ok z5) (g.wld.bn _ (dec_of z6)).1 z7 (ha.ev X W _ g z8)).congr (by funext φ; simp only [ev])
  · cases z
theorem ok_neg {a : Ex} (ha : OkEx G S k a) : OkEx G S k (.neg a) := by
  refine ⟨fun X W e g z => ?_, fun X W e g z => nomatch z⟩
  cases e with
  | UnaryOp o x pos =>
    cases o <;> first | (cases z; done) | skip
    simp only [chk] at z
    refine PE.congr (f := fun φ => do let x ← ev G a φ; ofO (negD x)) ?_ (by funext φ; simp only [ev])
    refine pe_of (pe_un un_neg (ha.ev X W x g z)) fun σ H Q ⟨p, B, ρ, φ, s, R, F, h⟩ => step1 R F h fun x v p1 B1 ρ1 s1 H1 e1 x1 R1 F1 v1 h1 => ?_
    subst e1
    cases v1 <;> first | exact h1.elim | skip
    exact ⟨_, rfl, h1.pure R1 (.int _)⟩
  | _ => cases z
end
end QQ

/-! QQ, part m: what is checked runs so (calls, sources, all expressions). -/
namespace QQ
open PySem L2
section
variable {G : Gs} {S : Sg} {k : Nat}
theorem ok_call {x : Str} {es : Exs} {d : Nat} (h : OkExs G S k es) : OkEx G S k (.call x es d) := by
  have main : ∀ (X : Cx) (W : WX) (e : Expr), Good X G S k W → chk S X.N (.call x es d) X.env.scope e = true → PE X e (T X.K X.mg W (ev G (.call x es d))) := by
    intro X W e g z
    cases e with
    | Call f vs kw pos =>
      cases f with
      | Name y px =>
        cases kw <;> first | (cases z; done) | skip
        simp only [chk, Bool.and_eq_true] at z
        obtain ⟨⟨z1, z2, z3⟩, z4, z5⟩ := z
        have := dec_of z1
        subst this
        cases vs with
        | nil =>
          have := h.evs X W [] g z5
          cases es with
          | nil => exact (q_call0 (d := d) g (glB_ok z2) (dec_of z3)).congr (by funext φ; simp only [ev, evs, pure_bind_M])
          | cons a as => cases z5
        | cons v vs => exact (q_call (d := d) g (glB_ok z2) (dec_of z3) z4 (h.evs X W _ g z5)).congr (by funext φ; simp only [ev])
      | _ => cases z
    | _ => cases z
  exact ⟨main, fun X W e g h => by
    have h' : (plainT e && chk S X.N (.call x es d) X.env.scope e) = true := h
    rw [Bool.and_eq_true] at h'
    exact (q_tru rfl (main X W e g h'.2) (plainT_ok h'.1)).congr (by funext φ; simp only [tst])⟩
theorem ok_make {x : Str} {es : Exs} (h : OkExs G S k es) : OkEx G S k (.make x es) := by
  refine ⟨fun X W e g z => ?_, fun X W e g z => nomatch z⟩
  cases e with
  | Call f vs kw pos =>
    cases f with
    | Name y px =>
      cases kw <;> first | (cases z; done) | skip
      simp only [chk, Bool.and_eq_true] at z
      obtain ⟨⟨z1, z2, z3⟩, z4, z5⟩ := z
      have := dec_of z1
      subst this
      cases vs with
      | nil =>
        cases es with
        | nil => exact (q_make0 g (glB_ok z2) (dec_of z3)).congr (by funext φ; simp only [ev, evs, pure_bind_M] <;> rfl)
        | cons a as => cases z5
      | cons v vs => exact (q_make g (glB_ok z2) (dec_of z3) z4 (h.evs X W _ g z5)).congr (by funext φ; simp only [ev] <;> rfl)
    | _ => cases z
  | _ => cases z
theorem meth_eval {X : Cx} {o : Expr} {m : Str} {es : List Expr} {apos pos : Pos} (hb : baseOk o = true) (hl : decide (es.length < 30) = true) (hline : (apos.endLine == pos.line) = true) (hs : es.all noStar = true) :
    eval (.Call (.Attribute o m apos) es [] pos) X.env = (do
      let ov ← eval o X.env
      standAt apos.atName
      let (f, first) ← holding [ov] (getMethod ov m (do return (← importBound o X.env).getD true))
      callWith pos f first (backTo pos (starEach es X.env)) (backToKw pos (keywordEach [] X.env))) := by
  have hf : methodCallForm es.length (backTo pos (starEach es X.env)) (backToKw pos (keywordEach [] X.env)) = true := by
    unfold methodCallForm
    rw [star_all hs]
    simpa [keywordEach, backToKw] using hl
  show (do
    let ov ← attributeBase o m X.env (eval o X.env)
    standAt apos.atName
    methodCall o m apos pos X.env ov es.length (backTo pos (starEach es X.env)) (backToKw pos (keywordEach [] X.env))) = _
  rw [base_ok hb]
  unfold methodCall
  rw [hf]
  unfold methodCallPos
  rw [hline]
  rfl
theorem ok_meth {o : Ex} {m : Str} {es : Exs} {d : Nat} (ho : OkEx G S k o) (h : OkExs G S k es) : OkEx G S k (.meth o m es d) := by
  have main : ∀ (X : Cx) (W : WX) (e : Expr), Good X G S k W → chk S X.N (.meth o m es d) X.env.scope e = true → PE X e (T X.K X.mg W (ev G (.meth o m es d))) := by
    intro X W e g z
    cases e with
    | Call f vs kw pos =>
      cases f with
      | Attribute p n apos =>
        cases kw <;> first | (cases z; done) | skip
        simp only [chk, Bool.and_eq_true] at z
        obtain ⟨⟨z1, z2, z3⟩, ⟨z4, z5⟩, z6, z7⟩ := z
        have := dec_of z1
        subst this
        cases vs with
        | nil =>
          cases es with
          | nil => exact (q_meth0 (d := d) g (ho.ev X W p g z3) (meth_eval z2 z4 z5 z6)).congr (by funext φ; simp only [ev, evs, pure_bind_M])
          | cons a as => cases z7
        | cons v vs => exact (q_meth (d := d) g (ho.ev X W p g z3) z6 (h.evs X W _ g z7) (meth_eval z2 z4 z5 z6)).congr (by funext φ; simp only [ev])
      | _ => cases z
    | _ => cases z
  exact ⟨main, fun X W e g h => by
    have h' : (plainT e && chk S X.N (.meth o m es d) X.env.scope e) = true := h
    rw [Bool.and_eq_true] at h'
    exact (q_tru rfl (main X W e g h'.2) (plainT_ok h'.1)).congr (by funext φ; simp only [tst])⟩
theorem ok_blt {own : Bool} {x : Str} {es : Exs} (h : OkExs G S k es) : OkEx G S k (.blt own x es) := by
  have main : ∀ (X : Cx) (W : WX) (e : Expr), Good X G S k W → chk S X.N (.blt own x es) X.env.scope e = true → PE X e (T X.K X.mg W (ev G (.blt own x es))) := by
    intro X W e g z
    cases e with
    | Call f vs kw pos =>
      cases f with
      | Name y px =>
        cases vs <;> first | (cases z; done) | skip
        cases kw <;> first | (cases z; done) | skip
        simp only [chk, Bool.and_eq_true] at z
        obtain ⟨⟨z1, z2, z3⟩, z4, z5, z6⟩ := z
        have := dec_of z1
        subst this
        exact (q_blt (own := own) g (glB_ok z2) (dec_of z3) z4 z5 (h.evs X W _ g z6)).congr (by funext φ; simp only [ev])
      | _ => cases vs <;> cases z
    | _ => cases z
  exact ⟨main, fun X W e g h => by
    have h' : (plainT e && chk S X.N (.blt own x es) X.env.scope e) = true := h
    rw [Bool.and_eq_true] at h'
    exact (q_tru rfl (main X W e g h'.2) (plainT_ok h'.1)).congr (by funext φ; simp only [tst])⟩
theorem ok_mtd {own : Bool} {o : Ex} {m : Str} {es : Exs} (ho : OkEx G S k o) (h : OkExs G S k es) : OkEx G S k (.mtd own o m es) := by
  refine ⟨fun X W e g z => ?_, fun X W e g z => nomatch z⟩
  cases e with
  | Call f vs kw pos =>
    cases f with
    | Attribute p n apos =>
      cases vs <;> first | (cases z; done) | skip
      cases kw <;> first | (cases z; done) | skip
      simp only [chk, Bool.and_eq_true] at z
      obtain ⟨⟨z1, z2, z3⟩, ⟨z4, z5⟩, z6, z7⟩ := z
      have := dec_of z1
      subst this
      exact (q_mtd (own := own) g z2 (ho.ev X W p g z3) z6 z4 z5 (h.evs X W _ g z7)).congr (by funext φ; simp only [ev])
    | _ => cases vs <;> cases z
  | _ => cases z
theorem ok_lc {own : Bool} {ow : List (Str × Nat)} {g : Tg} {t : It} {cs : Exs} {x : Ex} (ht : OkIt G S k t) (hcs : OkExs G S k cs) (hx : OkEx G S k x) : OkEx G S k (.lc own ow g t cs x) := by
  refine ⟨fun X W e gd z => ?_, fun X W e g z => nomatch z⟩
  simp only [chk] at z
  split at z
  · rename_i elt tg ite ifs scope pos
    simp only [Bool.and_eq_true] at z
    obtain ⟨⟨z1, z2⟩, ⟨z3, z4⟩, z5, z6, z7⟩ := z
    refine (q_lc (ow := own) (own := ow) (fc := tsts G cs) (fe := ev G x) gd.calm gd.nd (ht X W tg ite gd z4) (blkOk_by z1) (fun i hi => dec_of (List.all_eq_true.mp z2 i hi)) (fun s H C cl fp => ?_) (fun s H C cl fp => ?_) (fun s H C cl fp => ?_) (notSet_ok z3)).congr (by funext φ; simp only [ev])
    · exact chkTg_ok (X := X.blk s H scope (compEnvC scope cl C X.env) fp) gd.nd gd.calm (fun x e => e) z5
    · exact hcs.tsts (X.blk s H scope (compEnvC scope cl C X.env) fp) W0 ifs (gd.blk s H scope C cl fp) z6
    · exact hx.ev (X.blk s H scope (compEnvC scope cl C X.env) fp) W0 elt (gd.blk s H scope C cl fp) z7
  · cases z
/-! ### lists of expressions -/
theorem chkN_nil {as : Exs} (h : chkN as = true) : as = .nil := by
  cases as with
  | nil => rfl
  | cons a as => cases h
theorem _root_.L2.PA.congr {X : Cx} {W : WX} {e : List Expr} {f g : Fra → M (List Dt)} (h : PA X e (TL X.K X.mg W f)) (q : f = g) : PA X e (TL X.K X.mg W g) := q ▸ h
theorem _root_.L2.PW.congr {X : Cx} {W : WX} {e : Expr} {f g : Fra → M Bool} (h : PW X e (TB X.K X.mg W f)) (q : f = g) : PW X e (TB X.K X.mg W g) := q ▸ h
theorem poc {X : Cx} {W : WX} {e : Option Expr} {f g : Fra → M (Option Int)} (h : PO X e (TO' X.K X.mg W f)) (q : f = g) : PO X e (TO' X.K X.mg W g) := q ▸ h
theorem oks_nil : OkExs G S k .nil := by
  refine ⟨fun X W es g z => ?_, fun X W q es pos g z => (nomatch z), fun X W q es pos g z => (nomatch z), fun X W es g z => ?_, fun X W e g z => ?_⟩
  · cases es with
    | nil => exact q_nil.congr (by funext φ; simp only [evs])
    | cons _ _ => cases z
  · cases es with
    | nil => exact ⟨fun pins s σ H Q I ⟨p, B, ρ, φ, sm, R, F, h⟩ => pts_nil.run pins s σ H Q I (by
        have h : WR X.K X.mg W σ p B ρ ((pure true : M Bool) sm) (fun _ _ a b => a = b) Q := by simpa only [tsts] using h
        exact h.pure R rfl)⟩
    | cons _ _ => cases z
  · cases e with
    | none =>
      have : (fun φ : Fra => (do let l ← QQ.evs G .nil φ; ofO (optI l) : M (Option Int))) = fun _ => pure none := by funext φ; simp only [evs, pure_bind_M]; rfl
      rw [this]
      exact q_part0
    | some _ => cases z
theorem oks_cons {a : Ex} {as : Exs} (ha : OkEx G S k a) (h : OkExs G S k as) : OkExs G S k (.cons a as) := by
  refine ⟨fun X W es g z => ?_, fun X W q es pos g z => ?_, fun X W q es pos g z => ?_, fun X W es g z => ?_, fun X W e g z => ?_⟩
  · cases es with
    | nil => cases z
    | cons e es =>
      simp only [chks, Bool.and_eq_true] at z
      exact (q_cons z.1 (ha.ev X W e g z.2.1) (h.evs X W es g z.2.2)).congr (by funext φ; simp only [evs])
  · cases es with
    | nil => cases z
    | cons e es =>
      cases es with
      | nil =>
        simp only [chkB, Bool.and_eq_true] at z
        have := chkN_nil z.2
        subst this
        have he := ha.ev X W e g z.1
        have : evB G q (.cons a .nil) = ev G a := by funext φ; simp only [evB]
        rw [this]
        cases q with
        | true => exact pe_one he
        | false => exact pe_one he
      | cons e2 es =>
        simp only [chkB, Bool.and_eq_true] at z
        have he := ha.ev X W e g z.1
        have hb := h.evB X W q (e2 :: es) pos g z.2
        cases as with
        | nil => exact nomatch z.2
        | cons a2 as =>
          cases q with
          | true => exact (q_and he hb).congr (by funext φ; simp only [evB] <;> rfl)
          | false => exact (q_or he hb).congr (by funext φ; simp only [evB] <;> rfl)
  · cases es with
    | nil => cases z
    | cons e es =>
      cases es with
      | nil =>
        simp only [chkBT, Bool.and_eq_true] at z
        have := chkN_nil z.2
        subst this
        have he := ha.tst X W e g z.1
        have : tstB G q (.cons a .nil) = tst G a := by funext φ; simp only [tstB]
        rw [this]
        cases q with
        | true => exact pw_and1 he
        | false => exact pw_or1 he
      | cons e2 es =>
        simp only [chkBT, Bool.and_eq_true] at z
        have he := ha.tst X W e g z.1
        have hb := h.tstB X W q (e2 :: es) pos g z.2
        cases as with
        | nil => exact nomatch z.2
        | cons a2 as =>
          cases q with
          | true => exact (q_andT he hb).congr (by funext φ; simp only [tstB])
          | false => exact (q_orT he hb).congr (by funext φ; simp only [tstB])
  · rcases es with _ | ⟨e, _ | ⟨_, _⟩⟩
    · cases z
    · simp only [chkTs, Bool.and_eq_true] at z
      have := chkN_nil z.1
      subst this
      have he := pts_one (ha.tst X W e g z.2)
      have e1 : tsts G (.cons a .nil) = tst G a := by funext φ; simp only [tsts]
      rw [e1]
      exact he
    · cases z
  · cases e with
    | none => cases z
    | some e =>
      simp only [chkO, Bool.and_eq_true] at z
      have := chkN_nil z.2
      subst this
      refine poc (q_part1 (ha.ev X W e g z.1)) ?_
      funext φ
      simp only [evs, pure_bind_M, bind_assoc_M]
      congr 1
      funext x
      cases x <;> rfl
/-! ### what is walked -/
theorem oki_seq {a : Ex} (ha : OkEx G S k a) : OkIt G S k (.seq a) := fun X W tg e g z =>
  (q_seq (ha.ev X W e g z)).congr (by funext φ; simp only [src])
theorem oki_enu {a : Ex} (ha : OkEx G S k a) : OkIt G S k (.enu a) := by
  intro X W tg e g z
  simp only [chkI] at z
  split at z
  · simp only [Bool.and_eq_true] at z
    obtain ⟨⟨z1, z2, z3⟩, z4, z5⟩ := z
    have := dec_of z1
    subst this
    exact (q_enu (glB_ok z2) (g.wld.bn _ (dec_of z3)).1 z4 (ha.ev X W _ g z5)).congr (by funext φ; simp only [src])
  · cases z
theorem oki_zip {a b : Ex} (ha : OkEx G S k a) (hb : OkEx G S k b) : OkIt G S k (.zip a b) := by
  intro X W tg e g z
  simp only [chkI] at z
  split at z
  · simp only [Bool.and_eq_true] at z
    obtain ⟨⟨z1, z2, z3⟩, ⟨z4, z5⟩, z6, z7⟩ := z
    have := dec_of z1
    subst this
    exact (q_zip (glB_ok z2) (g.wld.bn _ (dec_of z3)).1 z4 z5 (ha.ev X W _ g z6) (hb.ev X W _ g z7)).congr (by funext φ; simp only [src])
  · cases z
theorem oki_itm {a : Ex} (ha : OkEx G S k a) : OkIt G S k (.itm a) := by
  intro X W tg e g z
  simp only [chkI] at z
  split at z
  · simp only [Bool.and_eq_true] at z
    obtain ⟨z1, ⟨z2, z3⟩, z4⟩ := z
    have := dec_of z1
    subst this
    exact (q_itm z2 z3 (ha.ev X W _ g z4)).congr (by funext φ; simp only [src])
  · cases z
theorem oki_key {a : Ex} : OkIt G S k (.key a) := fun X W tg e g z => (nomatch z)
theorem rng_inv {X : Cx} {as : Exs} {tg e : Expr} (z : chkI S X.N (.rng as) X.env.scope tg e = true) : ∃ px vs pos, e = .Call (.Name "range" px) vs [] pos ∧ Gl X "range" ∧ ("range" : Str) ∈ S.bn ∧ (vs.length = 1 ∨ vs.length = 2 ∨ vs.length = 3) ∧ chks S X.N as X.env.scope vs = true := by
  simp only [chkI] at z
  split at z
  · simp only [Bool.and_eq_true] at z
    obtain ⟨⟨z1, z2, z3⟩, z4, z5⟩ := z
    have := dec_of z1
    subst this
    refine ⟨_, _, _, rfl, glB_ok z2, dec_of z3, ?_, z5⟩
    simpa using z4
  · cases z
theorem oki_rng1 {a : Ex} (ha : OkEx G S k a) : OkIt G S k (.rng (.cons a .nil)) := by
  intro X W tg e g z
  obtain ⟨px, vs, pos, rfl, z1, z2, z3, z4⟩ := rng_inv z
  rcases vs with _ | ⟨v, _ | ⟨w, vs⟩⟩
  · cases z4
  · simp only [chks, Bool.and_eq_true] at z4
    exact (q_rng1 z1 (g.wld.bn _ z2).1 z4.1 (ha.ev X W _ g z4.2.1)).congr (by funext φ; simp only [src, evs])
  · simp [chks] at z4
theorem oki_rng2 {a b : Ex} (ha : OkEx G S k a) (hb : OkEx G S k b) : OkIt G S k (.rng (.cons a (.cons b .nil))) := by
  intro X W tg e g z
  obtain ⟨px, vs, pos, rfl, z1, z2, z3, z4⟩ := rng_inv z
  rcases vs with _ | ⟨v, _ | ⟨w, _ | ⟨_, _⟩⟩⟩
  · cases z4
  · simp [chks] at z4
  · simp only [chks, Bool.and_eq_true] at z4
    exact (q_rng2 z1 (g.wld.bn _ z2).1 z4.1 z4.2.2.1 (ha.ev X W _ g z4.2.1) (hb.ev X W _ g z4.2.2.2.1)).congr (by funext φ; simp only [src, evs])
  · simp [chks] at z4
theorem oki_rng3 {a b c : Ex} (ha : OkEx G S k a) (hb : OkEx G S k b) (hc : OkEx G S k c) : OkIt G S k (.rng (.cons a (.cons b (.cons c .nil)))) := by
  intro X W tg e g z
  obtain ⟨px, vs, pos, rfl, z1, z2, z3, z4⟩ := rng_inv z
  rcases vs with _ | ⟨v, _ | ⟨w, _ | ⟨u, _ | ⟨_, _⟩⟩⟩⟩
  · cases z4
  · simp [chks] at z4
  · simp [chks] at z4
  · simp only [chks, Bool.and_eq_true] at z4
    exact (q_rng3 z1 (g.wld.bn _ z2).1 z4.1 z4.2.2.1 z4.2.2.2.2.1 (ha.ev X W _ g z4.2.1) (hb.ev X W _ g z4.2.2.2.1) (hc.ev X W _ g z4.2.2.2.2.2.1)).congr (by funext φ; simp only [src, evs])
  · simp [chks] at z4
mutual
theorem okE : ∀ a : Ex, OkEx G S k a
  | .var _ => ok_var
  | .cst _ => ok_cst
  | .glb _ => ok_glb
  | .bin _ _ a b => ok_bin (okE a) (okE b)
  | .cmp _ a b => ok_cmp (okE a) (okE b)
  | .chn _ _ a b c => ok_chn (okE a) (okE b) (okE c)
  | .bop _ es => ok_bop (okEs es)
  | .neg a => ok_neg (okE a)
  | .nt a => ok_nt (okE a)
  | .ife c a b => ok_ife (okE c) (okE a) (okE b)
  | .tup es => ok_tup (okEs es)
  | .lst _ es => ok_lst (okEs es)
  | .dis _ => ok_dis
  | .ix o i => ok_ix (okE o) (okE i)
  | .slc _ o lo hi => ok_slc (okE o) (okEs lo) (okEs hi)
  | .sls _ o lo hi st => ok_sls (okE o) (okEs lo) (okEs hi) (okE st)
  | .fld o _ => ok_fld (okE o)
  | .call _ es _ => ok_call (okEs es)
  | .make _ es => ok_make (okEs es)
  | .meth o _ es _ => ok_meth (okE o) (okEs es)
  | .blt _ _ es => ok_blt (okEs es)
  | .mtd _ o _ es => ok_mtd (okE o) (okEs es)
  | .lc _ _ _ t cs x => ok_lc (okI t) (okEs cs) (okE x)
  | .srtSet _ a => ok_set (okE a)
  | .frz a => ok_frz (okE a)
theorem okEs : ∀ as : Exs, OkExs G S k as
  | .nil => oks_nil
  | .cons a as => oks_cons (okE a) (okEs as)
theorem okI : ∀ t : It, OkIt G S k t
  | .seq a => oki_seq (okE a)
  | .enu a => oki_enu (okE a)
  | .zip a b => oki_zip (okE a) (okE b)
  | .itm a => oki_itm (okE a)
  | .key _ => oki_key
  | .rng .nil => fun X W tg e g z => by
    obtain ⟨px, vs, pos, rfl, z1, z2, z3, z4⟩ := rng_inv z
    cases vs with
    | nil => simp at z3
    | cons _ _ => cases z4
  | .rng (.cons a .nil) => oki_rng1 (okE a)
  | .rng (.cons a (.cons b .nil)) => oki_rng2 (okE a) (okE b)
  | .rng (.cons a (.cons b (.cons c .nil))) => oki_rng3 (okE a) (okE b) (okE c)
  | .rng (.cons _ (.cons _ (.cons _ (.cons _ _)))) => fun X W tg e g z => by
    obtain ⟨px, vs, pos, rfl, z1, z2, z3, z4⟩ := rng_inv z
    rcases vs with _ | ⟨v, _ | ⟨w, _ | ⟨u, _ | ⟨_, _⟩⟩⟩⟩ <;> simp [chks] at z4 z3
end
end
end QQ

/-! QQ, part n: statements held against the text. -/
namespace QQ
open PySem L2
/-- a = [..] on one line, the name a plain local -/
def swB (sc : Scope) (tg v : Expr) : Bool := match tg, v with
  | .Name y py, .ListComp _ _ scope pos => locP sc y && (py.line == pos.line) && !(scope.names.any fun (n, k) => n == y && (k == .local || k == .cell))
  | _, _ => false
/-- no swap: no comprehension, or the target is none that counts -/
def nswB (sc : Scope) (tg v : Expr) : Bool := match v with
  | .ListComp _ _ scope pos => (match tg with
    | .Name y py => !(locP sc y) || !(py.line == pos.line) || (scope.names.any fun (n, k) => n == y && (k == .local || k == .cell))
    | _ => true)
  | .SetComp _ _ _ _ => false
  | .DictComp _ _ _ _ _ => false
  | _ => true
def notPair (tg v : Expr) : Bool := match tg, v with
  | .Tuple _ _ _, .Tuple _ _ _ => false
  | .List _ _, _ => false
  | _, _ => true
/-- the stores of a, b = x, y are swapped -/
def parB (sc : Scope) (a b : Expr) (es : List Expr) : Bool := match a, b, es with
  | .Name x px, .Name y py, [e, f] => locP sc x && locP sc y && (px.line == py.line) && !(x == y) && (noStar e && noStar f) && !([e, f].all (foldedForSure 8)) && !([e, f].all (constantsAlone 8))
  | _, _, _ => false
def isLc : Ex → Bool
  | .lc _ _ _ _ _ _ => true
  | _ => false
mutual
def chkS (S : Sg) (N : List Str) (sc : Scope) : Sm → Stmt → Bool
  | .expr a, st => (match st with
    | .Expr e _ => !isComp e && chk S N a sc e
    | _ => false)
  | .asg g a, st => (match st with
    | .Assign [tg] e _ => chkTg sc N (fun _ => true) g tg && (notPair tg e && (chk S N a sc e && (nswB sc tg e || (isLc a && swB sc tg e))))
    | _ => false)
  | .par i j es, st => (match st with
    | .Assign [.Tuple [a, b] _ _] (.Tuple vs _ _) _ => (chkNm sc N (fun _ => true) i a && (chkNm sc N (fun _ => true) j b && decide (i ≠ j))) && (parB sc a b vs && chks S N es sc vs)
    | _ => false)
  | .aug i op a, st => (match st with
    | .AugAssign tg o e _ => decide (op = o) && (chkNm sc N (fun _ => true) i tg && chk S N a sc e)
    | _ => false)
  | .six o i a, st => (match st with
    | .Assign [.Subscript p q _] e _ => noSlice q && (chk S N a sc e && (chk S N o sc p && chk S N i sc q))
    | _ => false)
  | .aix op o i a, st => (match st with
    | .AugAssign (.Subscript p q _) r e _ => (decide (op = r) && noSlice q) && (chk S N a sc e && (chk S N o sc p && chk S N i sc q))
    | _ => false)
  | .sfd o f a, st => (match st with
    | .Assign [.Attribute p f' _] e _ => decide (f = f') && (chk S N a sc e && chk S N o sc p)
    | _ => false)
  | .ite c a b, st => (match st with
    | .If t x y _ => chkT S N c sc t && (chkSs S N sc a x && chkSs S N sc b y)
    | _ => false)
  | .whl c b, st => (match st with
    | .While t x [] _ => chkT S N c sc t && chkSs S N sc b x
    | _ => false)
  | .frs g it b, st => (match st with
    | .For tg e x [] _ => (notSet e && chkI S N it sc tg e) && (chkTg sc N (fun _ => true) g tg && chkSs S N sc b x)
    | _ => false)
  | .ret a, st => (match st with
    | .Return (some e) _ => chk S N a sc e
    | _ => false)
  | .retN, st => (match st with
    | .Return none _ => true
    | _ => false)
  | .pas, st => (match st with
    | .Pass _ => true
    | .Expr (.Constant (.str _) _ _) _ => true
    | _ => false)
  | .brk, st => (match st with
    | .Break _ => true
    | _ => false)
  | .ctn, st => (match st with
    | .Continue _ => true
    | _ => false)
def chkSs (S : Sg) (N : List Str) (sc : Scope) : Sms → List Stmt → Bool
  | .nil, st => (match st with
    | [] => true
    | _ => false)
  | .cons a as, st => (match st with
    | s :: r => chkS S N sc a s && chkSs S N sc as r
    | _ => false)
end
section
variable {G : Gs} {S : Sg} {k : Nat}
/-- a def's own frame -/
structure GoodS (X : Cx) (G : Gs) (S : Sg) (k : Nat) (W : WX) : Prop where
  good : Good X G S k W
  fn : ∀ x, X.fn x = true
  pass : PassesOwn (model X.prog X.w) X.A X.env X.xe
  kind : X.env.scope.kind = .function
theorem locP_ok {sc : Scope} {x : Str} (h : locP sc x = true) : sc.names.lookup x = some .local := by
  unfold locP at h
  split at h
  · assumption
  · cases h
theorem locP_no {sc : Scope} {x : Str} (h : locP sc x = false) : sc.names.lookup x ≠ some .local := by
  intro e
  unfold locP at h
  rw [e] at h
  cases h
theorem swB_ok {X : Cx} {tg v : Expr} {l : Nat} (hk : X.env.scope.kind = .function) (h : swB X.env.scope tg v = true) : swapsWith v (some tg) l X.env = pure true := by
  cases tg <;> first | (cases h; done) | skip
  cases v <;> first | (cases h; done) | skip
  simp only [swB, Bool.and_eq_true, Bool.not_eq_true'] at h
  exact sw_true hk (locP_ok h.1.1) h.1.2 h.2
theorem nswB_ok {X : Cx} {tg v : Expr} {l : Nat} (h : nswB X.env.scope tg v = true) : swapsWithSole [tg] v l X.env = pure false := by
  unfold swapsWithSole
  cases v <;> first | (cases h; done) | rfl | skip
  cases tg <;> first | rfl | skip
  rename_i elt gens scope pos y py
  simp only [nswB, Bool.or_eq_true, Bool.not_eq_true'] at h
  have hb : ((X.env.blockKind == .function && X.env.kindOf y == some .local && py.line == pos.line) && !(scope.names.any fun (n, k) => n == y && (k == .local || k == .cell))) = false := by
    rcases h with (h | h) | h
    · have : (X.env.kindOf y == some .local) = false := beq_eq_false_iff_ne.mpr (locP_no h)
      rw [this]; simp
    · rw [h]; simp
    · rw [h]; simp
  unfold swapsWith
  exact congrArg (fun b => (pure b : Sem Bool)) hb
theorem notPair_ok {X : Cx} {tg v : Expr} (h : notPair tg v = true) : swappedStores [tg] v X.env = pure none := by
  cases tg <;> first | (cases h; done) | rfl | skip
  cases v <;> first | (cases h; done) | rfl | skip
theorem chkTg_one {X : Cx} {N : List Str} {sc : Scope} {c : Str → Bool} {g : Tg} {tg : Expr} (h : chkTg sc N c g tg = true) : (assignEach [tg] X.env).map (·.2) = [assign tg X.env] := by
  cases g with
  | nm i => cases tg <;> first | rfl | cases h
  | tp is => cases tg <;> first | rfl | cases h
variable (G S k) in
def OkSm (a : Sm) : Prop := ∀ (X : Cx) (W : WX) (st : Stmt), GoodS X G S k W → chkS S X.N X.env.scope a st = true → PS X st (TSr X W (exec G a))
variable (G S k) in
def OkSms (a : Sms) : Prop := ∀ (X : Cx) (W : WX) (st : List Stmt), GoodS X G S k W → chkSs S X.N X.env.scope a st = true → PSs X st (TSr X W (execs G a))
theorem _root_.L2.PS.congr {X : Cx} {W : WX} {e : Stmt} {f g : Fra → MS} (h : PS X e (TSr X W f)) (q : f = g) : PS X e (TSr X W g) := q ▸ h
theorem _root_.L2.PSs.congr {X : Cx} {W : WX} {e : List Stmt} {f g : Fra → MS} (h : PSs X e (TSr X W f)) (q : f = g) : PSs X e (TSr X W g) := q ▸ h
theorem oksm_expr {a : Ex} : OkSm G S k (.expr a) := by
  intro X W st g z
  simp only [chkS] at z
  split at z
  · simp only [Bool.and_eq_true, Bool.not_eq_true'] at z
    exact (q_expr ((okE a).ev X W _ g.good z.2) z.1).congr (by funext φ; simp only [exec])
  · cases z
theorem setLc_ok {X : Cx} {W : WX} {t : Tg} {a : Ex} {tg e : Expr} {pos : Pos} (g : GoodS X G S k W) (z1 : chkTg X.env.scope X.N (fun _ => true) t tg = true) (z3 : chk S X.N a X.env.scope e = true) (z5 : isLc a = true) (z4 : swB X.env.scope tg e = true) :
    PS X (.Assign [tg] e pos) (TSr X W (exec G (.asg t a))) := by
  have hsw := swB_ok (l := pos.line) g.kind z4
  cases a <;> first | (cases z5; done) | skip
  rename_i own ow g2 it cs x
  cases tg <;> first | (cases z4; done) | skip
  rename_i y py
  cases t with
  | tp is => cases z1
  | nm i =>
    have hy : X.N[i]? = some y := by
      simp only [chkTg, chkNm, Bool.and_eq_true] at z1
      exact dec_of z1.1
    simp only [chk] at z3
    split at z3
    · rename_i elt tg2 ite ifs scope pos2
      have hl : X.env.scope.names.lookup y = some .local := by
        simp only [swB, Bool.and_eq_true] at z4
        exact locP_ok z4.1.1
      simp only [Bool.and_eq_true] at z3
      obtain ⟨⟨z1, z2⟩, ⟨z3, z4⟩, z5, z6, z7⟩ := z3
      have gd := g.good
      refine (q_setLc (ow := own) (own := ow) (fc := tsts G cs) (fe := ev G x) gd.calm gd.nd hy hl hsw (okI it X W tg2 ite gd z4) (blkOk_by z1) (fun i hi => dec_of (List.all_eq_true.mp z2 i hi)) (fun s H C cl fp => ?_) (fun s H C cl fp => ?_) (fun s H C cl fp => ?_) (notSet_ok z3)).congr (by funext φ; simp only [exec, ev])
      · exact chkTg_ok (X := X.blk s H scope (compEnvC scope cl C X.env) fp) gd.nd gd.calm (fun x e => e) z5
      · exact (okEs cs).tsts (X.blk s H scope (compEnvC scope cl C X.env) fp) W0 ifs (gd.blk s H scope C cl fp) z6
      · exact (okE x).ev (X.blk s H scope (compEnvC scope cl C X.env) fp) W0 elt (gd.blk s H scope C cl fp) z7
    · cases z3
theorem oksm_asg {t : Tg} {a : Ex} : OkSm G S k (.asg t a) := by
  intro X W st g z
  simp only [chkS] at z
  split at z
  · rename_i tg e pos
    simp only [Bool.and_eq_true, Bool.or_eq_true] at z
    obtain ⟨z1, z2, z3, z4⟩ := z
    have hg := chkTg_ok (X := X) g.good.nd g.good.calm (fun x _ => g.fn x) z1
    rcases z4 with z4 | z4
    · exact (q_asg (g := t) ((okE a).ev X W _ g.good z3) hg (nswB_ok z4) (notPair_ok z2) (chkTg_one z1)).congr (by funext φ; simp only [exec])
    · exact setLc_ok g z1 z3 z4.1 z4.2
  · cases z
theorem oksm_ret {a : Ex} : OkSm G S k (.ret a) := by
  intro X W st g z
  simp only [chkS] at z
  split at z
  · exact (q_ret ((okE a).ev X W _ g.good z)).congr (by funext φ; simp only [exec])
  · cases z
theorem oksm_retN : OkSm G S k .retN := by
  intro X W st g z
  simp only [chkS] at z
  split at z
  · exact q_retN.congr (by funext φ; simp only [exec])
  · cases z
theorem oksm_pas : OkSm G S k .pas := by
  intro X W st g z
  simp only [chkS] at z
  split at z
  · exact q_pas.congr (by funext φ; simp only [exec])
  · exact q_doc.congr (by funext φ; simp only [exec])
  · cases z
theorem oksm_brk : OkSm G S k .brk := by
  intro X W st g z
  simp only [chkS] at z
  split at z
  · exact q_brk.congr (by funext φ; simp only [exec])
  · cases z
theorem oksm_ctn : OkSm G S k .ctn := by
  intro X W st g z
  simp only [chkS] at z
  split at z
  · exact q_ctn.congr (by funext φ; simp only [exec])
  · cases z
theorem oksm_aug {i : Nat} {op : Operator} {a : Ex} : OkSm G S k (.aug i op a) := by
  intro X W st g z
  simp only [chkS] at z
  split at z
  · simp only [Bool.and_eq_true] at z
    obtain ⟨z1, z2, z3⟩ := z
    have := dec_of z1
    subst this
    rename_i tg e pos
    cases tg <;> first | (cases z2; done) | skip
    simp only [chkNm, Bool.and_eq_true, if_true] at z2
    exact (q_aug g.good.nd (dec_of z2.1) (locB_ok z2.2) ((okE a).ev X W _ g.good z3) (.inl (g.fn _))).congr (by funext φ; simp only [exec])
  · cases z
theorem oksm_six {o i a : Ex} : OkSm G S k (.six o i a) := by
  intro X W st g z
  simp only [chkS] at z
  split at z
  · simp only [Bool.and_eq_true] at z
    obtain ⟨z2, z3, z4, z5⟩ := z
    exact (q_six g.good.u1 z2 ((okE a).ev X W _ g.good z3) ((okE o).ev X W _ g.good z4) ((okE i).ev X W _ g.good z5)).congr (by funext φ; simp only [exec])
  · cases z
theorem oksm_aix {op : Operator} {o i a : Ex} : OkSm G S k (.aix op o i a) := by
  intro X W st g z
  simp only [chkS] at z
  split at z
  · simp only [Bool.and_eq_true] at z
    obtain ⟨⟨z1, z2⟩, z3, z4, z5⟩ := z
    have := dec_of z1
    subst this
    exact (q_aix g.good.u1 z2 ((okE a).ev X W _ g.good z3) ((okE o).ev X W _ g.good z4) ((okE i).ev X W _ g.good z5)).congr (by funext φ; simp only [exec])
  · cases z
theorem oksm_sfd {o a : Ex} {f : Str} : OkSm G S k (.sfd o f a) := by
  intro X W st g z
  simp only [chkS] at z
  split at z
  · simp only [Bool.and_eq_true] at z
    obtain ⟨z1, z3, z4⟩ := z
    have := dec_of z1
    subst this
    exact (q_sfd (fd := G.fd) ((okE a).ev X W _ g.good z3) ((okE o).ev X W _ g.good z4) (fun c C h1 h2 => g.good.wld.fd c C f h1 h2)).congr (by funext φ; simp only [exec])
  · cases z
theorem oksm_par {i j : Nat} {es : Exs} : OkSm G S k (.par i j es) := by
  intro X W st g z
  simp only [chkS] at z
  split at z
  · rename_i a b kt pt vs k2 pt2 pos
    simp only [Bool.and_eq_true] at z
    obtain ⟨⟨z1, z2, z3⟩, z4, z5⟩ := z
    cases a <;> first | (cases z4; done) | skip
    cases b <;> first | (cases z4; done) | skip
    rcases vs with _ | ⟨e, _ | ⟨f, _ | ⟨_, _⟩⟩⟩ <;> first | (cases z4; done) | skip
    rename_i x px y py
    simp only [parB, Bool.and_eq_true, Bool.not_eq_true'] at z4
    obtain ⟨⟨⟨⟨⟨⟨hx, hy⟩, hl⟩, hne⟩, hs1, hs2⟩, hf⟩, hc⟩ := z4
    simp only [chkNm, Bool.and_eq_true] at z1 z2
    have hx := locP_ok hx
    have hy := locP_ok hy
    have k1 : X.env.kindOf x = some .local := hx
    have k2 : X.env.kindOf y = some .local := hy
    have k3 : py.line = px.line := (beq_iff_eq.mp hl).symm
    have hb : X.env.blockKind = .function := by unfold Env.blockKind; rw [g.kind]; rfl
    have hne' : x ≠ y := beq_eq_false_iff_ne.mp hne
    refine (q_par g.good.calm g.good.nd (dec_of z1.1) (dec_of z2.1) (dec_of z3) hx hy ((okEs es).evs X W _ g.good z5) ?_).congr (by funext φ; simp only [exec] <;> rfl)
    unfold swappedStores
    simp [hb, hf, hc]
    rw [if_neg (by rintro (h | h) <;> (split at h <;> first | cases hs1 | cases hs2 | cases h))]
    simp [List.filterMap, k1, k2, k3, Expr.pos, Ne.symm hne', hne']
    intro h
    have q : (y == x) = false := beq_eq_false_iff_ne.mpr (Ne.symm hne')
    exact absurd (by simp [List.eraseDups, List.eraseDupsBy, List.eraseDupsBy.loop, q]) h
  · cases z
theorem oksm_ite {c : Ex} {a b : Sms} (ha : OkSms G S k a) (hb : OkSms G S k b) : OkSm G S k (.ite c a b) := by
  intro X W st g z
  simp only [chkS] at z
  split at z
  · simp only [Bool.and_eq_true] at z
    exact (q_if ((okE c).tst X W _ g.good z.1) (ha X W _ g z.2.1) (hb X W _ g z.2.2)).congr (by funext φ; simp only [exec])
  · cases z
theorem oksm_whl {c : Ex} {b : Sms} (hb : OkSms G S k b) : OkSm G S k (.whl c b) := by
  intro X W st g z
  simp only [chkS] at z
  split at z
  · simp only [Bool.and_eq_true] at z
    exact (q_whl g.pass ((okE c).tst X W _ g.good z.1) (hb X W _ g z.2)).congr (by funext φ; simp only [exec])
  · cases z
theorem oksm_frs {t : Tg} {it : It} {b : Sms} (hb : OkSms G S k b) : OkSm G S k (.frs t it b) := by
  intro X W st g z
  simp only [chkS] at z
  split at z
  · simp only [Bool.and_eq_true] at z
    obtain ⟨⟨z1, z2⟩, z3, z4⟩ := z
    exact (q_frs (g := t) g.pass g.good.calm (okI it X W _ _ g.good z2) (chkTg_ok g.good.nd g.good.calm (fun x _ => g.fn x) z3) (hb X W _ g z4) (notSet_ok z1)).congr (by funext φ; simp only [exec])
  · cases z
mutual
theorem okSm : ∀ a : Sm, OkSm G S k a
  | .expr _ => oksm_expr
  | .asg _ _ => oksm_asg
  | .par _ _ _ => oksm_par
  | .aug _ _ _ => oksm_aug
  | .six _ _ _ => oksm_six
  | .aix _ _ _ _ => oksm_aix
  | .sfd _ _ _ => oksm_sfd
  | .ite _ a b => oksm_ite (okSms a) (okSms b)
  | .whl _ b => oksm_whl (okSms b)
  | .frs _ _ b => oksm_frs (okSms b)
  | .ret _ => oksm_ret
  | .retN => oksm_retN
  | .pas => oksm_pas
  | .brk => oksm_brk
  | .ctn => oksm_ctn
theorem okSms : ∀ a : Sms, OkSms G S k a
  | .nil => fun X W st g z => by
    cases st with
    | nil => exact q_nilS.congr (by funext φ; simp only [execs])
    | cons _ _ => cases z
  | .cons a as => fun X W st g z => by
    cases st with
    | nil => cases z
    | cons s r =>
      simp only [chkSs, Bool.and_eq_true] at z
      exact (q_consS (okSm a X W s g z.1) (okSms as X W r g z.2)).congr (by funext φ; simp only [execs])
end
end
end QQ

/-! QQ, part u: defs and their runs. -/
namespace QQ
open PySem L2
/-! ### what a result reaches -/
mutual
def below (n : Nat) : Dt → Bool
  | .loc l => decide (l < n)
  | .tup xs => belows n xs
  | .lst xs => belows n xs
  | .fls xs => belows n xs
  | .dct kvs => belowk n kvs
  | .obj _ fs => belowf n fs
  | .non => true
  | .bl _ => true
  | .int _ => true
  | .str _ => true
  | .ty _ => true
  | .glb _ => true
def belows (n : Nat) : List Dt → Bool
  | [] => true
  | d :: r => below n d && belows n r
def belowk (n : Nat) : List (Key × Dt) → Bool
  | [] => true
  | (_, d) :: r => below n d && belowk n r
def belowf (n : Nat) : List (Str × Dt) → Bool
  | [] => true
  | (_, d) :: r => below n d && belowf n r
end
def belowO (n : Nat) : Ob → Bool
  | .lst xs => belows n xs
  | .dct kvs => belowk n kvs
  | .obj _ fs => belowf n fs
def belowC (n : Nat) : Cel → Bool
  | .live o => belowO n o
  | .lock o => belowO n o
  | .dead => true
/-- a def: its parameters, its slots, its body; d: so many of the last parameters may be left out (None); drop: what it makes and doesn't tell is forgotten -/
structure Fn where
  ps : List Str
  N : List Str
  body : Sms
  d : Nat
  drop : Bool
def frame0 (F : Fn) (ds : List Dt) : Fra := ds.map some ++ List.replicate (F.N.length - ds.length) none
def cutOk (s s' : Mem) (d : Dt) : Prop := below s.length d = true ∧ s.length ≤ s'.length ∧ ∀ (i : Nat) (c : Cel), i < s.length → s'[i]? = some c → s[i]? = some c ∨ belowC s.length c = true
open Classical in
noncomputable def endF (drop : Bool) (s : Mem) (d : Dt) (s' : Mem) : Res Dt := if drop = true then (if cutOk s s' d then .ok d (s'.take s.length) else .no) else .ok d s'
noncomputable def callF (G : Gs) (F : Fn) (ds : List Dt) : M Dt := fun s =>
  if ds.length = F.ps.length then (match execs G F.body (frame0 F ds) s with
    | .ok .nx _ s' => endF F.drop s .non s'
    | .ok (.rt d) _ s' => endF F.drop s d s'
    | .ex c fs _ s' => .ex c fs s'
    | _ => .no) else .no
/-- a program: its defs by their qualified names, methods, constants, attributes -/
structure Prg where
  fns : List (Str × Fn)
  mt : Str → Str → Option Str
  con : Str → Option Dt
  fd : Str → Str → Bool
def Prg.df (R : Prg) (x : Str) : Nat := match R.fns.lookup x with
  | some F => F.d
  | none => 0
noncomputable def sem (R : Prg) : Nat → Gs
  | 0 => { fn := fun _ _ => stuck, mt := R.mt, con := R.con, fd := R.fd, df := R.df }
  | n + 1 => { fn := fun x => match R.fns.lookup x with | some F => callF (sem R n) F | none => fun _ => stuck, mt := R.mt, con := R.con, fd := R.fd, df := R.df }
end QQ

/-! QQ, part p: defs. -/
namespace QQ
open PySem L2
theorem belows_mem {n : Nat} : ∀ {xs : List Dt}, belows n xs = true → ∀ d ∈ xs, below n d = true
  | [], _, d, h => by simp at h
  | x :: xs, e, d, h => by
    simp only [belows, Bool.and_eq_true] at e
    rcases List.mem_cons.mp h with rfl | h
    · exact e.1
    · exact belows_mem e.2 d h
theorem belowk_mem {n : Nat} : ∀ {xs : List (Key × Dt)}, belowk n xs = true → ∀ d ∈ xs, below n d.2 = true
  | [], _, d, h => by simp at h
  | (_, x) :: xs, e, d, h => by
    simp only [belowk, Bool.and_eq_true] at e
    rcases List.mem_cons.mp h with rfl | h
    · exact e.1
    · exact belowk_mem e.2 d h
theorem belowf_mem {n : Nat} : ∀ {xs : List (Str × Dt)}, belowf n xs = true → ∀ d ∈ xs, below n d.2 = true
  | [], _, d, h => by simp at h
  | (_, x) :: xs, e, d, h => by
    simp only [belowf, Bool.and_eq_true] at e
    rcases List.mem_cons.mp h with rfl | h
    · exact e.1
    · exact belowf_mem e.2 d h
section
variable {K : PySem.W.Frag} {mg : Str → Option Value} {p B B' H H' : Hp} {ρ ρ' : List Addr} {s s' : Mem}
theorem VD.cut {n : Nat} {d : Dt} {v : V} (h : VD K mg B ρ d v) (hb : QQ.below n d = true) : VD K mg B (ρ.take n) d v :=
  VD.rec (motive_1 := fun d v _ => QQ.below n d = true → VD K mg B (ρ.take n) d v) (motive_2 := fun ds vs _ => (∀ d ∈ ds, QQ.below n d = true) → VDs K mg B (ρ.take n) ds vs) (motive_3 := fun {κ} ds vs _ => (∀ d ∈ ds, QQ.below n d.2 = true) → VDp K mg B (ρ.take n) ds vs)
    (fun _ => .non) (fun b _ => .bl b) (fun i _ => .int i) (fun x _ => .str x) (fun x _ => .ty x) (fun e _ => .glb e) (fun {l a} e q => .loc (by
      have : l < n := by simpa [QQ.below] using q
      rw [List.getElem?_take_of_lt this]; exact e))
    (fun e _ r q => .tup e (r (belows_mem q))) (fun e _ r q => .lst e (r (belows_mem q))) (fun e _ r q => .fls e (r (belows_mem q)))
    (fun e _ r q => .dct e (r (belowk_mem q))) (fun m e _ r q => .obj m e (r (belowf_mem q))) (fun _ => .nil) (fun _ _ h t q => .cons (h (q _ (List.mem_cons_self ..))) (t fun d hd => q d (List.mem_cons_of_mem _ hd)))
    (fun _ => .nil) (fun _ _ h t q => .cons (h (q _ (List.mem_cons_self ..))) (t fun d hd => q d (List.mem_cons_of_mem _ hd))) h hb
theorem VDs.cut {n : Nat} : ∀ {ds : List Dt} {vs : List V}, VDs K mg B ρ ds vs → belows n ds = true → VDs K mg B (ρ.take n) ds vs
  | [], _, .nil, _ => .nil
  | d :: ds, _, .cons h t, e => by
    simp only [belows, Bool.and_eq_true] at e
    exact .cons (h.cut e.1) (VDs.cut t e.2)
theorem VDp.cut {κ : Type} {n : Nat} : ∀ {ds : List (κ × Dt)} {vs : List (κ × V)}, VDp K mg B ρ ds vs → (∀ d ∈ ds, QQ.below n d.2 = true) → VDp K mg B (ρ.take n) ds vs
  | [], _, h, _ => by cases h; exact .nil
  | (k, d) :: ds, _, h, e => by
    cases h with
    | cons h t => exact .cons (h.cut (e _ (List.mem_cons_self ..))) (VDp.cut t fun d hd => e d (List.mem_cons_of_mem _ hd))
theorem ObR.cut {n : Nat} {o : Ob} {u : HO} (h : ObR K mg B ρ o u) (hb : belowO n o = true) : ObR K mg B (ρ.take n) o u := by
  cases o <;> cases u <;> simp only [ObR] at h ⊢
  · exact h.cut hb
  · exact h.cut (belowk_mem hb)
  · exact ⟨h.1, h.2.cut (belowf_mem hb)⟩
/-- what a datum that was related reaches -/
theorem VD.under {d : Dt} {v : V} (h : VD K mg B ρ d v) : QQ.below ρ.length d = true :=
  VD.rec (motive_1 := fun d _ _ => QQ.below ρ.length d = true) (motive_2 := fun ds _ _ => belows ρ.length ds = true) (motive_3 := fun {κ} ds _ _ => ∀ d ∈ ds, QQ.below ρ.length d.2 = true)
    rfl (fun _ => rfl) (fun _ => rfl) (fun _ => rfl) (fun _ => rfl) (fun _ => rfl) (fun {l a} e => by simp only [QQ.below, decide_eq_true_eq]; exact (List.getElem?_eq_some_iff.mp e).1)
    (fun _ _ r => r) (fun _ _ r => r) (fun _ _ r => r)
    (fun {ds a kvs} _ _ r => by
      have : ∀ ds : List (Key × Dt), (∀ d ∈ ds, QQ.below ρ.length d.2 = true) → belowk ρ.length ds = true := by
        intro ds
        induction ds with
        | nil => intro _; rfl
        | cons x ds ih => intro h; simp only [belowk, Bool.and_eq_true]; exact ⟨h _ (List.mem_cons_self ..), ih fun d hd => h d (List.mem_cons_of_mem _ hd)⟩
      exact this ds r)
    (fun {c ds a C dx fs} _ _ _ r => by
      have : ∀ ds : List (Str × Dt), (∀ d ∈ ds, QQ.below ρ.length d.2 = true) → belowf ρ.length ds = true := by
        intro ds
        induction ds with
        | nil => intro _; rfl
        | cons x ds ih => intro h; simp only [belowf, Bool.and_eq_true]; exact ⟨h _ (List.mem_cons_self ..), ih fun d hd => h d (List.mem_cons_of_mem _ hd)⟩
      exact this ds r)
    rfl (fun _ _ h t => by simp only [belows, Bool.and_eq_true]; exact ⟨h, t⟩) (fun _ h => by simp at h)
    (fun _ _ h t d hd => by rcases List.mem_cons.mp hd with rfl | hd; exact h; exact t d hd) h
theorem VDs.under : ∀ {ds : List Dt} {vs : List V}, VDs K mg B ρ ds vs → belows ρ.length ds = true
  | [], _, .nil => rfl
  | _ :: _, _, .cons h t => by simp only [belows, Bool.and_eq_true]; exact ⟨h.under, VDs.under t⟩
theorem VDp.under {κ : Type} : ∀ {ds : List (κ × Dt)} {vs : List (κ × V)}, VDp K mg B ρ ds vs → ∀ d ∈ ds, QQ.below ρ.length d.2 = true
  | [], _, h, d, hd => by simp at hd
  | (k, d') :: ds, _, h, d, hd => by
    cases h with
    | cons h t =>
      rcases List.mem_cons.mp hd with rfl | hd
      · exact h.under
      · exact VDp.under t d hd
theorem belowk_of {n : Nat} : ∀ {ds : List (Key × Dt)}, (∀ d ∈ ds, QQ.below n d.2 = true) → belowk n ds = true
  | [], _ => rfl
  | (_, _) :: _, h => by simp only [belowk, Bool.and_eq_true]; exact ⟨h _ (List.mem_cons_self ..), belowk_of fun d hd => h d (List.mem_cons_of_mem _ hd)⟩
theorem belowf_of {n : Nat} : ∀ {ds : List (Str × Dt)}, (∀ d ∈ ds, QQ.below n d.2 = true) → belowf n ds = true
  | [], _ => rfl
  | (_, _) :: _, h => by simp only [belowf, Bool.and_eq_true]; exact ⟨h _ (List.mem_cons_self ..), belowf_of fun d hd => h d (List.mem_cons_of_mem _ hd)⟩
theorem ObR.under {o : Ob} {u : HO} (h : ObR K mg B ρ o u) : belowO ρ.length o = true := by
  cases o <;> cases u <;> simp only [ObR] at h
  · exact h.under
  · exact belowk_of h.under
  · exact belowf_of h.2.under
theorem RelS.under (R : RelS K mg p B ρ s H) {l : Nat} {c : Cel} (e : s[l]? = some c) : belowC s.length c = true := by
  have hl : l < ρ.length := by rw [R.len]; exact (List.getElem?_eq_some_iff.mp e).1
  have h := R.cel l _ c (List.getElem?_eq_getElem hl) e
  rw [← R.len]
  cases c with
  | live o => obtain ⟨u, _, _, r⟩ := h; exact r.under
  | lock o => obtain ⟨_, u, _, _, r⟩ := h; exact r.under
  | dead => rfl
/-- the store cut back to what was there -/
theorem RelS.cut (R : RelS K mg p B ρ s H) (R' : RelS K mg p B' ρ' s' H') (x : Ext B ρ B' ρ') (hc : ∀ (i : Nat) (c : Cel), i < s.length → s'[i]? = some c → s[i]? = some c ∨ belowC s.length c = true) : ρ'.take s.length = ρ ∧ RelS K mg p B' ρ (s'.take s.length) H' := by
  have e : ρ'.take s.length = ρ := by
    obtain ⟨t, rfl⟩ := x.r
    rw [← R.len, List.take_left]
  refine ⟨e, R'.sub, ?_, R.nd, fun l a c e1 e2 => ?_, fun a o q => ?_⟩
  · have := x.r.length_le
    rw [R'.len, R.len] at this
    rw [R.len, List.length_take]
    omega
  · have hl : l < s.length := by rw [← R.len]; exact (List.getElem?_eq_some_iff.mp e1).1
    rw [List.getElem?_take_of_lt hl] at e2
    have hb : belowC s.length c = true := by
      rcases hc l c hl e2 with h | h
      · exact R.under h
      · exact h
    have h := R'.cel l a c (pre_get x.r e1) e2
    cases c with
    | live o => obtain ⟨u, h1, h2, r⟩ := h; exact ⟨u, h1, h2, e ▸ r.cut hb⟩
    | lock o => obtain ⟨od, u, h1, h2, r⟩ := h; exact ⟨od, u, h1, h2, e ▸ r.cut hb⟩
    | dead => exact h
  · obtain ⟨h1, h2⟩ := R'.prv a o q
    exact ⟨h1, fun z => ⟨(h2 z).1, fun hm => (h2 z).2 (x.r.subset hm)⟩⟩
end
end QQ

/-! QQ, part q: the program's defs, all at once. -/
namespace QQ
open PySem L2
/-- what the head tells of the program -/
structure Txt (P : Program) (w : World) (K : PySem.W.Frag) (mg : Str → Option Value) (base : Heap) (R : Prg) (S : Sg) (at_ : Str → Addr) : Prop where
  fns : ∀ x F, R.fns.lookup x = some F → ∃ name st fd, Fun K name x st (at_ x) fd ∧ FnScope F.N F.ps (defScope st) ∧ chkSs S F.N (defScope st) F.body (defBody st) = true ∧ (∀ us : List Value, us.length = F.ps.length → bindArgs fd ⟨us, []⟩ = pure (F.ps.zip us)) ∧ ∀ d, 0 < d → d ≤ F.d → Binds K fd F.ps (List.replicate d Value.none)
  bn : ∀ x ∈ S.bn, mg x = none ∧ x ≠ "__name__" ∧ (x == ("__debug__" : Str)) = false
  glob : ∀ x ∈ S.fns, (x == ("__debug__" : Str)) = false ∧ mg x = some (.ref (at_ x)) ∧ PySem.W.keepIn K (.ref (at_ x)) = true
  mt : ∀ c m q, R.mt c m = some q → ∀ C, mg c = some (.ref C) → Cls K C ∧ Meth K C m (at_ q)
  mks : ∀ x ∈ S.mks, (x == ("__debug__" : Str)) = false ∧ ∃ C, mg x = some (.ref C) ∧ PySem.W.keepIn K (.ref C) = true ∧ ∀ q, R.mt x "__init__" = some q → Mk K C (at_ q)
  fd : ∀ c C f, R.fd c f = true → mg c = some (.ref C) → Cls K C ∧ NoAttr K C f
  con : ∀ x d, R.con x = some d → (x == ("__debug__" : Str)) = false ∧ x ≠ "__name__" ∧ ∃ v, (∀ B ρ, VD K mg B ρ d v) ∧ ((∃ u, mg x = some u ∧ RelV v u) ∨ (mg x = none ∧ ∃ u, bootBuiltins x = some u ∧ RelV v u))
section
variable {P : Program} {w : World} {K : PySem.W.Frag} {mg : Str → Option Value} {base : Heap} {R : Prg} {S : Sg} {at_ : Str → Addr}
theorem sem_lookup {n : Nat} {x : Str} {ds : List Dt} {s : Mem} (h : (sem R n).fn x ds s ≠ .no) : ∃ F m, R.fns.lookup x = some F ∧ n = m + 1 ∧ (sem R n).fn x = callF (sem R m) F ∧ ds.length = F.ps.length := by
  cases n with
  | zero => exact absurd rfl h
  | succ m =>
    cases e : R.fns.lookup x with
    | none =>
      have : (sem R (m + 1)).fn x = fun _ => stuck := by show (match R.fns.lookup x with | some F => callF (sem R m) F | none => fun _ => stuck) = _; rw [e]
      rw [this] at h
      exact absurd rfl h
    | some F =>
      have e1 : (sem R (m + 1)).fn x = callF (sem R m) F := by show (match R.fns.lookup x with | some F => callF (sem R m) F | none => fun _ => stuck) = _; rw [e]
      refine ⟨F, m, rfl, rfl, e1, ?_⟩
      rw [e1] at h
      unfold callF at h
      by_cases hl : ds.length = F.ps.length
      · exact hl
      · rw [if_neg hl] at h; exact absurd rfl h
theorem sem_mt (n : Nat) : (sem R n).mt = R.mt := by cases n <;> rfl
theorem sem_con (n : Nat) : (sem R n).con = R.con := by cases n <;> rfl
theorem sem_fd (n : Nat) : (sem R n).fd = R.fd := by cases n <;> rfl
theorem sem_df (n : Nat) : (sem R n).df = R.df := by cases n <;> rfl
/-- level n: the defs hold -/
def Lev (P : Program) (w : World) (K : PySem.W.Frag) (mg : Str → Option Value) (base : Heap) (R : Prg) (at_ : Str → Addr) (n : Nat) : Prop :=
  ∀ x F, R.fns.lookup x = some F → ∃ fd, (∃ name st, Fun K name x st (at_ x) fd) ∧ FnOk P w K mg base (L2.CX P w) (2 * n) (at_ x) fd F.ps (spOf K mg F.ps.length ((sem R n).fn x)) ∧ (∀ us : List Value, us.length = F.ps.length → bindArgs fd ⟨us, []⟩ = pure (F.ps.zip us)) ∧ ∀ d, 0 < d → d ≤ F.d → Binds K fd F.ps (List.replicate d Value.none)
theorem lev_at {X : Cx} {n : Nat} (hL : Lev X.prog X.w X.K X.mg X.base R at_ n) {x : Str} {ds : List Dt} {s : Mem} {d : Nat} (h : (sem R n).fn x ds s ≠ .no) (hd : d ≤ (sem R n).df x) : FnAt X (2 * n) (at_ x) ds.length d ((sem R n).fn x) := by
  obtain ⟨F, m, e, rfl, e1, hl⟩ := sem_lookup h
  obtain ⟨fd, _, h1, h0, h2⟩ := hL x F e
  rw [sem_df] at hd
  unfold Prg.df at hd
  rw [e] at hd
  exact ⟨fd, F.ps, by rw [hl]; exact h1, by
    cases d with
    | zero => exact .all h0
    | succ d => exact h2 _ (Nat.succ_pos d) hd⟩
theorem wld_of {X : Cx} {n : Nat} (T : Txt X.prog X.w X.K X.mg X.base R S at_) (hL : Lev X.prog X.w X.K X.mg X.base R at_ n) : Wld X (sem R n) S (2 * n) where
  bn := T.bn
  fn := fun x hx => let ⟨h1, h2, h3⟩ := T.glob x hx; ⟨h1, at_ x, h2, h3, fun ds s d h hd => lev_at hL h hd⟩
  mt := fun c m q e C hC => by
    rw [sem_mt] at e
    obtain ⟨h1, h2⟩ := T.mt c m q e C hC
    exact ⟨h1, at_ q, h2, fun ds s d h hd => lev_at hL h hd⟩
  mks := fun x hx => by
    obtain ⟨h1, C, h2, h3, h4⟩ := T.mks x hx
    refine ⟨h1, C, h2, h3, fun q ds s e h => ?_⟩
    rw [sem_mt] at e
    exact ⟨at_ q, h4 q e, lev_at hL h (Nat.zero_le _)⟩
  fd := by rw [sem_fd]; exact T.fd
  con := by rw [sem_con]; exact T.con
theorem frr_start {B : Hp} {ρ : List Addr} {ds : List Dt} {vs : List V} {F : Fn} (h : VDs K mg B ρ ds vs) : FrR K mg B ρ (frame0 F ds) (start F.N vs) := by
  refine ⟨by simp [frame0, L2.start, h.length], fun i d e => ?_⟩
  by_cases hi : i < ds.length
  · unfold frame0 at e
    rw [List.getElem?_append_left (by simpa using hi)] at e
    rw [List.getElem?_map] at e
    obtain ⟨d', h1, h2⟩ := Option.map_eq_some_iff.mp e
    cases h2
    obtain ⟨v, h3, h4⟩ := h.get h1
    refine ⟨v, ?_, h4⟩
    unfold L2.start
    rw [List.getElem?_append_left (by rw [List.length_map, ← h.length]; exact hi), List.getElem?_map, h3]
    rfl
  · unfold frame0 at e
    rw [List.getElem?_append_right (by simpa using hi)] at e
    have := List.mem_of_getElem? e
    simp at this
theorem endF_ok {σ : L2.St} {W : WX} {p B B' H' : Hp} {ρ ρ' : List Addr} {s s' : Mem} {drop : Bool} {d : Dt} {v : V} {Q : VK} {H : Hp} (R0 : RelS K mg p B ρ s H) (h : WR K mg W σ p B ρ (endF drop s d s') (VD K mg) Q) (x : Ext B ρ B' ρ') (R' : RelS K mg p B' ρ' s' H') (r : VD K mg B' ρ' d v) : Q v H' := by
  unfold endF at h
  cases drop with
  | false => rw [if_neg Bool.false_ne_true] at h; exact h B' ρ' H' v x R' r
  | true =>
    rw [if_pos rfl] at h
    split at h
    · rename_i hc
      obtain ⟨h1, _, h3⟩ := hc
      obtain ⟨e, R1⟩ := R0.cut R' x h3
      exact h B' ρ H' v ⟨x.b, List.prefix_refl _⟩ R1 (e ▸ r.cut h1)
    · exact h.elim
theorem lev_all (T : Txt P w K mg base R S at_) : ∀ n : Nat, Lev P w K mg base R at_ n := by
  intro n
  induction n with
  | zero =>
    intro x F e
    obtain ⟨name, st, fd, h1, h2, h3, h4⟩ := T.fns x F e
    have no : ∀ vs H Q E, spOf K mg F.ps.length ((sem R 0).fn x) vs H Q E → False := fun vs H Q E ⟨_, p, B, ρ, s, ds, _, _, h⟩ => h
    exact ⟨fd, ⟨name, st, h1⟩, ⟨fun vs H Q E h => (no _ _ _ _ h).elim, fun A outer s H args us vs Q E _ _ _ _ h => (no _ _ _ _ h).elim⟩, h4⟩
  | succ n ih =>
    intro x F e
    obtain ⟨name, st, fd, h1, h2, h3, h4⟩ := T.fns x F e
    refine ⟨fd, ⟨name, st, h1⟩, ?_, h4⟩
    have e1 : (sem R (n + 1)).fn x = callF (sem R n) F := by show (match R.fns.lookup x with | some F => callF (sem R n) F | none => fun _ => stuck) = _; rw [e]
    rw [e1]
    refine Fun.okX (k := 2 * n + 1) h1 h2 (fun vs H Q E h => h.1) fun cdv A outer s H vs Q E hr hsp => ?_
    obtain ⟨_, p, B, ρ, sm, ds, R0, v, h⟩ := hsp
    have gd : Good (cxOf (L2.CX P w) P w K mg base F.N x (defScope st) (at_ x) cdv A outer s H E) (sem R n) S (2 * n) (fun c o _ H => E c o H) := by
      refine ⟨rfl, h2.nd, hr, takes_of rfl rfl rfl rfl, wld_of (X := cxOf (L2.CX P w) P w K mg base F.N x (defScope st) (at_ x) cdv A outer s H E) T ih⟩
    refine ⟨_, okSms F.body (cxOf (L2.CX P w) P w K mg base F.N x (defScope st) (at_ x) cdv A outer s H E) (fun c o _ H => E c o H) (defBody st) ⟨gd, fun _ => rfl, passes_of rfl, h2.kind⟩ h3, p, B, ρ, frame0 F ds, sm, R0, frr_start v, ?_⟩
    unfold callF at h
    by_cases hl : ds.length = F.ps.length
    · rw [if_pos hl] at h
      rcases q : execs (sem R n) F.body (frame0 F ds) sm with ⟨⟨⟩ | d | ⟨⟩ | ⟨⟩, φ, s'⟩ | ⟨c, fs, φ, s'⟩ | _
      · rw [q] at h
        exact fun B' ρ' H' σ' x' R' F' => endF_ok R0 h x' R' .non
      · rw [q] at h
        exact fun B' ρ' H' v x' R' r => endF_ok R0 h x' R' r
      · rw [q] at h; exact h.elim
      · rw [q] at h; exact h.elim
      · rw [q] at h
        exact fun B' ρ' H' C o σ' x' R' F' => h B' ρ' H' C o x' R'
      · rw [q] at h; exact h.elim
    · rw [if_neg hl] at h; exact h.elim
/-- what is promised of law -/
def spLaw (K : PySem.W.Frag) : Sp := fun vs H Q _ => ∃ (a : Addr) (ns : List Int), vs = [.ref a] ∧ SqL K H a (ns.map V.int) ∧ ns.length ≤ 63 ∧ (∀ z ∈ ns, Builtin.Int.intBits z ≤ 1048576) ∧ ∀ H', Q (.bl true) H'
theorem script_ok {B : Hp} {ρ : List Addr} : ∀ ns : List Int, VDs K mg B ρ (ns.map .int) (ns.map V.int)
  | [] => .nil
  | n :: ns => .cons (.int n) (script_ok ns)
theorem fun_inj {n n' x : Str} {st st' : Stmt} {f : Addr} {fd fd' : FuncData} (h : Fun K n x st f fd) (k : Fun K n' x st' f fd') : fd = fd' := by
  obtain ⟨_, _, _, _, _, _, _, _, _, _, l, _⟩ := h.ex
  obtain ⟨_, _, _, _, _, _, _, _, _, _, l', _⟩ := k.ex
  rw [l] at l'
  injection l' with l'
  injection l' with _ _ q _
  injection q
/-- THE END: where the run of law is True, law is -/
theorem law_end (T : ∀ base, Txt P w K mg base R S at_) {n : Nat} {F : Fn} {x : Str} (e : R.fns.lookup ("law" : Str) = some F) (hx : F.ps = [x])
    (h : ∀ ns : List Int, ns.length ≤ 63 → (∀ z ∈ ns, Builtin.Int.intBits z ≤ 1048576) → ∃ s', (sem R n).fn "law" [.fls (ns.map .int)] [] = .ok (.bl true) s') :
    ∃ fd : FuncData, (∀ (s : Shared) (u : Value), BindsTo s fd ⟨[u], []⟩ [(x, u)]) ∧ ∀ base : Heap, FnOk P w K mg base (L2.CX P w) (2 * n) (at_ "law") fd [x] (spLaw K) := by
  obtain ⟨fd, ⟨m, st, hf⟩, _, h0, _⟩ := lev_all (T default) n "law" F e
  rw [hx] at h0
  refine ⟨fd, fun s u => .of_eq (h0 [u] rfl), fun base => ?_⟩
  obtain ⟨fd', ⟨m', st', hf'⟩, h1, _⟩ := lev_all (T base) n "law" F e
  obtain rfl := fun_inj hf hf'
  rw [hx] at h1
  refine h1.imp fun vs H Q E ⟨a, ns, ev, hs, hl, hb, q⟩ => ?_
  subst ev
  obtain ⟨s', e2⟩ := h ns hl hb
  refine ⟨rfl, fun _ => none, H, [], [], [.fls (ns.map .int)], ⟨fun a u e => .inl e, rfl, List.nodup_nil, fun l a c e _ => by simp at e, fun a o e => (nomatch e)⟩, .cons (.fls hs (script_ok ns)) .nil, ?_⟩
  rw [e2]
  intro B' ρ' H' v x R' r
  cases r
  exact q H'
end
end QQ

/-! QQ, part w: what a run comes to, said by what holds behind it. -/
namespace QQ
open PySem L2
abbrev Ep := Str → List (Str × Dt) → Mem → Prop
abbrev Es := Str → List (Str × Dt) → Fra → Mem → Prop
/-- what comes behind a run is not looked into before it is its turn -/
structure Tag {β : Type 0} (Q : β) : Type where
def RunE {α : Type} (m : M α) (s : Mem) (E : Ep) (Q : α → Mem → Prop) (_ : Tag Q := ⟨⟩) : Prop := match m s with
  | .ok a s' => Q a s'
  | .ex c fs s' => E c fs s'
  | .no => False
def RunS (m : MS) (s : Mem) (E : Es) (Q : Fl → Fra → Mem → Prop) (_ : Tag Q := ⟨⟩) : Prop := match m s with
  | .ok f φ s' => Q f φ s'
  | .ex c fs φ s' => E c fs φ s'
  | .no => False
def LfQ {α : Type} (o : Option (α × Mem)) (Q : α → Mem → Prop) (_ : Tag Q := ⟨⟩) : Prop := match o with
  | some (d, s') => Q d s'
  | none => False
def RdQ {α : Type} (o : Option α) (Q : α → Prop) (_ : Tag Q := ⟨⟩) : Prop := match o with
  | some d => Q d
  | none => False
section
variable {α β : Type} {s : Mem} {E : Ep} {Es' : Es}
theorem RunE.mono {m : M α} {Q Q' : α → Mem → Prop} (h : RunE m s E Q) (w : ∀ a s', Q a s' → Q' a s') : RunE m s E Q' := by
  unfold RunE at *
  cases e : m s <;> rw [e] at h <;> simp only at h ⊢
  · exact w _ _ h
  · exact h
theorem RunS.mono {m : MS} {Q Q' : Fl → Fra → Mem → Prop} (h : RunS m s Es' Q) (w : ∀ f a s', Q f a s' → Q' f a s') : RunS m s Es' Q' := by
  unfold RunS at *
  cases e : m s <;> rw [e] at h <;> simp only at h ⊢
  · exact w _ _ _ h
  · exact h
theorem RunE_congr {m : M α} {Q Q' : α → Mem → Prop} (w : ∀ a s', Q a s' ↔ Q' a s') : RunE m s E Q ↔ RunE m s E Q' := ⟨fun h => h.mono fun a s' => (w a s').mp, fun h => h.mono fun a s' => (w a s').mpr⟩
theorem RdQ_congr {o : Option α} {Q Q' : α → Prop} (w : ∀ a, Q a ↔ Q' a) : RdQ o Q ↔ RdQ o Q' := by
  cases o with
  | none => exact Iff.rfl
  | some a => exact w a
theorem LfQ_congr {o : Option (α × Mem)} {Q Q' : α → Mem → Prop} (w : ∀ a s', Q a s' ↔ Q' a s') : LfQ o Q ↔ LfQ o Q' := by
  rcases o with _ | ⟨a, s'⟩
  · exact Iff.rfl
  · exact w a s'
theorem if_congr_iff {c : Prop} [Decidable c] {a b a' b' : Prop} (h1 : a ↔ a') (h2 : b ↔ b') : (if c then a else b) ↔ (if c then a' else b') := by
  by_cases h : c
  · rw [if_pos h, if_pos h]; exact h1
  · rw [if_neg h, if_neg h]; exact h2
theorem RunE.ok_of {m : M α} {Q : α → Mem → Prop} (h : RunE m s (fun _ _ _ => False) Q) : ∃ a s', m s = .ok a s' ∧ Q a s' := by
  unfold RunE at h
  cases e : m s <;> rw [e] at h <;> simp only at h
  exact ⟨_, _, rfl, h⟩
theorem RunE.of_ok {m : M α} {Q : α → Mem → Prop} {a : α} {s' : Mem} (h : m s = .ok a s') (q : Q a s') : RunE m s E Q := by
  unfold RunE; rw [h]; exact q
theorem RunE_ok {m : M α} {Q : α → Mem → Prop} {a : α} {s' : Mem} (h : m s = .ok a s') : RunE m s E Q ↔ Q a s' := by
  unfold RunE; rw [h]
theorem RunE_bind (m : M α) (k : α → M β) (Q : β → Mem → Prop) : RunE (m >>= k) s E Q ↔ RunE m s E (fun a s' => RunE (k a) s' E Q) := by
  unfold RunE; rw [bind_run]; cases m s <;> simp
theorem RunE_pure (a : α) (Q : α → Mem → Prop) : RunE (pure a) s E Q ↔ Q a s := Iff.rfl
theorem RunE_Mpure (a : α) (Q : α → Mem → Prop) : RunE (M.pure a) s E Q ↔ Q a s := Iff.rfl
theorem RunE_some (a : α) (Q : α → Mem → Prop) : RunE (ofO (some a)) s E Q ↔ Q a s := Iff.rfl
theorem RunE_ofO (o : Option α) (Q : α → Mem → Prop) : RunE (ofO o) s E Q ↔ RdQ o fun a => Q a s := by cases o <;> exact Iff.rfl
theorem RunE_stuck (Q : α → Mem → Prop) : RunE stuck s E Q ↔ False := Iff.rfl
theorem RunE_lift (g : Op1 α) (Q : α → Mem → Prop) : RunE (lift g) s E Q ↔ LfQ (g s) Q := by
  unfold RunE LfQ; rw [lift_run]; cases g s <;> simp
theorem RunE_rd (g : Mem → Option α) (Q : α → Mem → Prop) : RunE (rd g) s E Q ↔ RdQ (g s) fun a => Q a s := by
  unfold RunE RdQ; rw [rd_run]; cases g s <;> simp
theorem RunE_noEx (m : M α) (Q : α → Mem → Prop) : RunE (noEx m) s E Q ↔ RunE m s (fun _ _ _ => False) Q := by
  unfold RunE noEx; cases m s <;> simp
theorem LfQ_some (a : α) (s' : Mem) (Q : α → Mem → Prop) : LfQ (some (a, s')) Q ↔ Q a s' := Iff.rfl
theorem LfQ_none (Q : α → Mem → Prop) : LfQ none Q ↔ False := Iff.rfl
theorem LfQ_ite (c : Prop) [Decidable c] (a : Option (α × Mem)) (Q : α → Mem → Prop) : LfQ (if c then a else none) Q ↔ c ∧ LfQ a Q := by
  by_cases h : c <;> simp [h, LfQ]
theorem RdQ_some (a : α) (Q : α → Prop) : RdQ (some a) Q ↔ Q a := Iff.rfl
theorem RdQ_none (Q : α → Prop) : RdQ none Q ↔ False := Iff.rfl
theorem RdQ_ite (c : Prop) [Decidable c] (a : Option α) (Q : α → Prop) : RdQ (if c then a else none) Q ↔ c ∧ RdQ a Q := by
  by_cases h : c <;> simp [h, RdQ]
theorem RunE_ite (c : Prop) [Decidable c] (a b : M α) (Q : α → Mem → Prop) : RunE (if c then a else b) s E Q ↔ (if c then RunE a s E Q else RunE b s E Q) := by
  by_cases h : c <;> simp [h]
theorem RunS_ite (c : Prop) [Decidable c] (a b : MS) (Q : Fl → Fra → Mem → Prop) : RunS (if c then a else b) s Es' Q ↔ (if c then RunS a s Es' Q else RunS b s Es' Q) := by
  by_cases h : c <;> simp [h]
theorem RunS_inE (m : M α) (φ : Fra) (k : α → MS) (Q : Fl → Fra → Mem → Prop) : RunS (inE m φ k) s Es' Q ↔ RunE m s (fun c fs s' => Es' c fs φ s') fun a s' => RunS (k a) s' Es' Q := by
  unfold RunS RunE inE; cases m s <;> simp
theorem RunS_done (f : Fl) (φ : Fra) (Q : Fl → Fra → Mem → Prop) : RunS (doneS f φ) s Es' Q ↔ Q f φ s := Iff.rfl
def nxQ (Q : Fl → Fra → Mem → Prop) (k : Fra → Mem → Prop) : Fl → Fra → Mem → Prop
  | .nx, φ, s => k φ s
  | f, φ, s => Q f φ s
theorem nxQ_nx (Q : Fl → Fra → Mem → Prop) (k : Fra → Mem → Prop) (φ : Fra) : nxQ Q k .nx φ s ↔ k φ s := Iff.rfl
theorem nxQ_rt (Q : Fl → Fra → Mem → Prop) (k : Fra → Mem → Prop) (φ : Fra) (d : Dt) : nxQ Q k (.rt d) φ s ↔ Q (.rt d) φ s := Iff.rfl
theorem nxQ_bk (Q : Fl → Fra → Mem → Prop) (k : Fra → Mem → Prop) (φ : Fra) : nxQ Q k .bk φ s ↔ Q .bk φ s := Iff.rfl
theorem nxQ_ct (Q : Fl → Fra → Mem → Prop) (k : Fra → Mem → Prop) (φ : Fra) : nxQ Q k .ct φ s ↔ Q .ct φ s := Iff.rfl
theorem RunS_bind (m : MS) (k : Fra → MS) (Q : Fl → Fra → Mem → Prop) : RunS (bindS m k) s Es' Q ↔ RunS m s Es' (nxQ Q fun φ s' => RunS (k φ) s' Es' Q) := by
  unfold RunS bindS
  rcases m s with ⟨⟨⟩ | d | ⟨⟩ | ⟨⟩, φ, s'⟩ | ⟨c, fs, φ, s'⟩ | _ <;> simp [nxQ]
/-- loops -/
def gsOn (gs : List Gd) (s : Mem) : Prop := ∀ g ∈ gs, g.on s
theorem gsOn_nil : gsOn [] s ↔ True := by simp [gsOn]
theorem gsOn_sl (l : Nat) (xs : List Dt) (gs : List Gd) : gsOn (.sl l xs :: gs) s ↔ s[l]? = some (.live (.lst xs)) ∧ gsOn gs s := by simp [gsOn, Gd.on]
theorem gsOn_lk (l : Nat) (o : Ob) (gs : List Gd) : gsOn (.lk l o :: gs) s ↔ s[l]? = some (.lock o) ∧ gsOn gs s := by simp [gsOn, Gd.on]
theorem RunE_guard (gs : List Gd) (Q : Unit → Mem → Prop) : RunE (guard gs) s E Q ↔ gsOn gs s ∧ Q () s := by
  unfold RunE QQ.guard gsOn
  by_cases h : ∀ g ∈ gs, g.on s
  · rw [if_pos h]; simp only; exact ⟨fun q => ⟨h, q⟩, fun q => q.2⟩
  · rw [if_neg h]; simp only; exact ⟨fun q => q.elim, fun q => absurd q.1 h⟩
theorem RunE_enterM (gs : List Gd) (Q : Unit → Mem → Prop) : RunE (enterM gs) s E Q ↔ Q () (enter gs s) := Iff.rfl
theorem RunE_leaveM (gs : List Gd) (Q : Unit → Mem → Prop) : RunE (leaveM gs) s E Q ↔ Q () (leave gs s) := Iff.rfl
/-- a turn's end -/
def lpQ (gs : List Gd) (Q : Fl → Fra → Mem → Prop) (k : Fra → Mem → Prop) : Fl → Fra → Mem → Prop
  | .nx, φ, s => k φ s
  | .ct, φ, s => k φ s
  | .bk, φ, s => gsOn gs s ∧ Q .nx φ s
  | .rt d, φ, s => gsOn gs s ∧ Q (.rt d) φ s
theorem RunS_loop (gs : List Gd) (m : MS) (k : Fra → MS) (Q : Fl → Fra → Mem → Prop) : RunS (loopS gs m k) s Es' Q ↔ RunS m s Es' (lpQ gs Q fun φ s' => RunS (k φ) s' Es' Q) := by
  have hd : ∀ (f : Fl) (φ : Fra) (s' : Mem), RunS (inE (guard gs) φ fun _ => doneS f φ) s' Es' Q ↔ (gsOn gs s' ∧ Q f φ s') := fun f φ s' => by rw [RunS_inE, RunE_guard, RunS_done]
  unfold loopS
  rcases e : m s with ⟨⟨⟩ | d | ⟨⟩ | ⟨⟩, φ, s'⟩ | ⟨c, fs, φ, s'⟩ | _
  · simp only [RunS, e, lpQ]
  · have h1 : RunS m s Es' (lpQ gs Q fun φ s' => RunS (k φ) s' Es' Q) ↔ (gsOn gs s' ∧ Q (.rt d) φ s') := by simp only [RunS, e, lpQ]
    rw [h1, ← hd]; unfold RunS; simp only [e]
  · have h1 : RunS m s Es' (lpQ gs Q fun φ s' => RunS (k φ) s' Es' Q) ↔ (gsOn gs s' ∧ Q .nx φ s') := by simp only [RunS, e, lpQ]
    rw [h1, ← hd]; unfold RunS; simp only [e]
  · simp only [RunS, e, lpQ]
  · simp only [RunS, e]
  · simp only [RunS, e]
theorem lpQ_nx (gs : List Gd) (Q : Fl → Fra → Mem → Prop) (k : Fra → Mem → Prop) (φ : Fra) : lpQ gs Q k .nx φ s ↔ k φ s := Iff.rfl
theorem lpQ_ct (gs : List Gd) (Q : Fl → Fra → Mem → Prop) (k : Fra → Mem → Prop) (φ : Fra) : lpQ gs Q k .ct φ s ↔ k φ s := Iff.rfl
theorem lpQ_bk (gs : List Gd) (Q : Fl → Fra → Mem → Prop) (k : Fra → Mem → Prop) (φ : Fra) : lpQ gs Q k .bk φ s ↔ (gsOn gs s ∧ Q .nx φ s) := Iff.rfl
theorem lpQ_rt (gs : List Gd) (Q : Fl → Fra → Mem → Prop) (k : Fra → Mem → Prop) (φ : Fra) (d : Dt) : lpQ gs Q k (.rt d) φ s ↔ (gsOn gs s ∧ Q (.rt d) φ s) := Iff.rfl
theorem RunS_for_nil (gs : List Gd) (g : Tg) (b : Fra → MS) (φ : Fra) (Q : Fl → Fra → Mem → Prop) : RunS (forS gs g b [] φ) s Es' Q ↔ (gsOn gs s ∧ Q .nx φ s) := by
  rw [forS, RunS_inE, RunE_guard, RunS_done]
theorem RunS_for_cons (gs : List Gd) (g : Tg) (b : Fra → MS) (x : Dt) (xs : List Dt) (φ : Fra) (Q : Fl → Fra → Mem → Prop) : RunS (forS gs g b (x :: xs) φ) s Es' Q ↔ (gsOn gs s ∧ RdQ (asgT g x φ) fun φ1 => RunS (b φ1) s Es' (lpQ gs Q fun φ' s' => RunS (forS gs g b xs φ') s' Es' Q)) := by
  rw [forS, RunS_inE, RunE_guard, RunS_inE, RunE_ofO]
  constructor
  · refine fun ⟨h1, h2⟩ => ⟨h1, ?_⟩
    cases e : asgT g x φ with
    | none => rw [e] at h2; exact h2
    | some φ1 => rw [e] at h2; exact (RunS_loop gs _ _ Q).mp h2
  · refine fun ⟨h1, h2⟩ => ⟨h1, ?_⟩
    cases e : asgT g x φ with
    | none => rw [e] at h2; exact h2
    | some φ1 => rw [e] at h2; exact (RunS_loop gs _ _ Q).mpr h2
/-- a for by its invariant: done, left -/
theorem RunS_for {gs : List Gd} {g : Tg} {b : Fra → MS} (xs : List Dt) {φ : Fra} {Q : Fl → Fra → Mem → Prop} (I : Nat → Fra → Mem → Prop) (h0 : I 0 φ s)
    (hon : ∀ i φ s, i ≤ xs.length → I i φ s → gsOn gs s)
    (hs : ∀ i x φ s, xs[i]? = some x → I i φ s → gsOn gs s → RdQ (asgT g x φ) fun φ1 => RunS (b φ1) s Es' (lpQ gs Q fun φ' s' => I (i + 1) φ' s'))
    (hf : ∀ φ s, I xs.length φ s → gsOn gs s → Q .nx φ s) : RunS (forS gs g b xs φ) s Es' Q := by
  have go : ∀ (ys : List Dt) (i : Nat) (φ : Fra) (s : Mem), xs.drop i = ys → i ≤ xs.length → I i φ s → RunS (forS gs g b ys φ) s Es' Q := by
    intro ys
    induction ys with
    | nil =>
      intro i φ s e hi h
      have hi' : i = xs.length := by
        have := List.drop_eq_nil_iff.mp e
        omega
      subst hi'
      have := hon _ _ _ hi h
      exact (RunS_for_nil gs g b φ Q).mpr ⟨this, hf φ s h this⟩
    | cons y ys ih =>
      intro i φ s e hi h
      have hx : xs[i]? = some y := by
        have := congrArg (fun l => l[0]?) e
        simpa using this
      have hlt : i < xs.length := by
        rcases Nat.lt_or_ge i xs.length with q | q
        · exact q
        · rw [List.getElem?_eq_none q] at hx; cases hx
      have ho := hon _ _ _ hi h
      refine (RunS_for_cons gs g b y ys φ Q).mpr ⟨ho, ?_⟩
      have h2 := hs i y φ s hx h ho
      cases e1 : asgT g y φ with
      | none => rw [e1] at h2; exact h2
      | some φ1 =>
        rw [e1] at h2
        refine RunS.mono (Q := lpQ gs Q fun φ' s' => I (i + 1) φ' s') h2 fun f φ' s' q => ?_
        have hd : xs.drop (i + 1) = ys := by
          have := congrArg List.tail e
          simpa [List.tail_drop] using this
        cases f with
        | nx => exact ih (i + 1) φ' s' hd hlt q
        | ct => exact ih (i + 1) φ' s' hd hlt q
        | bk => exact q
        | rt d => exact q
  exact go xs 0 φ s rfl (Nat.zero_le _) h0
theorem RunS_leave (gs : List Gd) (m : MS) (Q : Fl → Fra → Mem → Prop) : RunS (fun s => leaveS gs (m s)) s Es' Q ↔ RunS m s Es' fun f φ s' => Q f φ (leave gs s') := by
  cases e : m s <;> simp only [RunS, leaveS, e]
theorem whileN_mono {c : Fra → M Bool} {b : Fra → MS} : ∀ {n m : Nat} {φ : Fra} {s : Mem}, whileN c b n φ s ≠ .no → n ≤ m → whileN c b m φ s = whileN c b n φ s
  | 0, _, _, _, h, _ => absurd rfl h
  | n + 1, 0, _, _, _, hm => absurd hm (by omega)
  | n + 1, m + 1, φ, s, h, hm => by
    unfold whileN at h ⊢
    unfold inE at h ⊢
    cases e : c φ s with
    | no => rfl
    | ex c fs s' => rfl
    | ok t s' =>
      rw [e] at h
      simp only at h ⊢
      cases t with
      | false => rfl
      | true =>
        simp only [if_true] at h ⊢
        unfold loopS at h ⊢
        rcases e2 : b φ s' with ⟨⟨⟩ | d | ⟨⟩ | ⟨⟩, φ', s''⟩ | ⟨c, fs, φ', s''⟩ | _
        · rw [e2] at h; exact whileN_mono h (Nat.le_of_succ_le_succ hm)
        · rfl
        · rfl
        · rw [e2] at h; exact whileN_mono h (Nat.le_of_succ_le_succ hm)
        · rfl
        · rfl
theorem whileS_of {c : Fra → M Bool} {b : Fra → MS} {n : Nat} {φ : Fra} {s : Mem} (h : whileN c b n φ s ≠ .no) : whileS c b φ s = whileN c b n φ s := by
  have hx : ∃ n, whileN c b n φ s ≠ .no := ⟨n, h⟩
  unfold whileS
  rw [dif_pos hx]
  rcases Nat.le_total n (Classical.choose hx) with q | q
  · exact whileN_mono h q
  · exact (whileN_mono (Classical.choose_spec hx) q).symm
/-- a while by its invariant and its measure -/
theorem RunS_while {c : Fra → M Bool} {b : Fra → MS} {Q : Fl → Fra → Mem → Prop} (I : Nat → Fra → Mem → Prop)
    (hs : ∀ n φ s, I n φ s → RunE (c φ) s (fun c fs s' => Es' c fs φ s') fun t s' => if t = true then RunS (b φ) s' Es' (lpQ [] Q fun φ' s'' => ∃ m, m < n ∧ I m φ' s'') else Q .nx φ s') :
    ∀ {n : Nat} {φ : Fra} {s : Mem}, I n φ s → RunS (whileS c b φ) s Es' Q := by
  intro n φ s h
  have go : ∀ (n : Nat) (φ : Fra) (s : Mem), I n φ s → ∃ k, RunS (whileN c b k φ) s Es' Q := by
    intro n
    induction n using Nat.strongRecOn with
    | _ n ih =>
      intro φ s h
      have h1 := hs n φ s h
      unfold RunE at h1
      cases e : c φ s with
      | no => rw [e] at h1; exact h1.elim
      | ex c' fs s' => rw [e] at h1; exact ⟨1, by unfold RunS whileN inE; rw [e]; exact h1⟩
      | ok t s' =>
        rw [e] at h1
        simp only at h1
        cases t with
        | false => exact ⟨1, by unfold RunS whileN inE; rw [e]; exact h1⟩
        | true =>
          simp only [if_true] at h1
          unfold RunS at h1
          have hk : ∀ {k : Nat}, RunS (loopS [] (b φ) (whileN c b k)) s' Es' Q → RunS (whileN c b (k + 1) φ) s Es' Q := fun {k} q => by
            rw [whileN, RunS_inE, RunE_ok e]; exact q
          rcases e2 : b φ s' with ⟨⟨⟩ | d | ⟨⟩ | ⟨⟩, φ', s''⟩ | ⟨c', fs, φ', s''⟩ | _
          · rw [e2] at h1
            obtain ⟨m, hm, hi⟩ := h1
            obtain ⟨k, q⟩ := ih m hm φ' s'' hi
            refine ⟨k + 1, hk ((RunS_loop _ _ _ _).mpr ?_)⟩
            unfold RunS; rw [e2]; exact q
          · rw [e2] at h1
            refine ⟨1, hk (k := 0) ((RunS_loop _ _ _ _).mpr ?_)⟩
            unfold RunS; rw [e2]; exact h1
          · rw [e2] at h1
            refine ⟨1, hk (k := 0) ((RunS_loop _ _ _ _).mpr ?_)⟩
            unfold RunS; rw [e2]; exact h1
          · rw [e2] at h1
            obtain ⟨m, hm, hi⟩ := h1
            obtain ⟨k, q⟩ := ih m hm φ' s'' hi
            refine ⟨k + 1, hk ((RunS_loop _ _ _ _).mpr ?_)⟩
            unfold RunS; rw [e2]; exact q
          · rw [e2] at h1
            refine ⟨1, hk (k := 0) ((RunS_loop _ _ _ _).mpr ?_)⟩
            unfold RunS; rw [e2]; exact h1
          · rw [e2] at h1; exact h1.elim
  obtain ⟨k, q⟩ := go n φ s h
  have hne : whileN c b k φ s ≠ .no := fun z => by unfold RunS at q; rw [z] at q; exact q
  unfold RunS
  rw [whileS_of hne]
  exact q
/-- a comprehension by its invariant -/
theorem RunE_lc {gs : List Gd} {g : Tg} {φ : Fra} {ow : List Nat} {cs : Fra → M Bool} {e : Fra → M Dt} (xs : List Dt) {Q : List Dt → Mem → Prop} (I : Nat → List Dt → Mem → Prop) (h0 : I 0 [] s)
    (hon : ∀ i ys s, i ≤ xs.length → I i ys s → gsOn gs s)
    (hs : ∀ i x ys s, xs[i]? = some x → I i ys s → gsOn gs s → RdQ (asgT g x (wipeD φ ow)) fun φ1 => RunE (cs φ1) s (fun _ _ _ => False) fun t s' => if t = true then RunE (e φ1) s' (fun _ _ _ => False) fun y s'' => I (i + 1) (ys ++ [y]) s'' else I (i + 1) ys s')
    (hf : ∀ ys s, I xs.length ys s → gsOn gs s → Q ys s) : RunE (lcS gs g φ ow cs e xs) s E Q := by
  have go : ∀ (zs : List Dt) (i : Nat) (ys : List Dt) (s : Mem), xs.drop i = zs → i ≤ xs.length → I i ys s → RunE (lcS gs g φ ow cs e zs) s E fun ws s' => I xs.length (ys ++ ws) s' ∧ gsOn gs s' := by
    intro zs
    induction zs with
    | nil =>
      intro i ys s e' hi h
      have hi' : i = xs.length := by
        have := List.drop_eq_nil_iff.mp e'
        omega
      subst hi'
      rw [lcS, RunE_bind, RunE_guard, RunE_pure, List.append_nil]
      have := hon _ _ _ hi h
      exact ⟨this, h, this⟩
    | cons y zs ih =>
      intro i ys s e' hi h
      have hx : xs[i]? = some y := by
        have := congrArg (fun l => l[0]?) e'
        simpa using this
      have hlt : i < xs.length := by
        rcases Nat.lt_or_ge i xs.length with q | q
        · exact q
        · rw [List.getElem?_eq_none q] at hx; cases hx
      have hd : xs.drop (i + 1) = zs := by
        have := congrArg List.tail e'
        simpa [List.tail_drop] using this
      have ho := hon _ _ _ hi h
      rw [lcS, RunE_bind, RunE_guard, RunE_bind, RunE_ofO]
      refine ⟨ho, ?_⟩
      have h2 := hs i y ys s hx h ho
      cases e1 : asgT g y (wipeD φ ow) with
      | none => rw [e1] at h2; exact h2
      | some φ1 =>
        rw [e1] at h2
        rw [RdQ_some, RunE_bind, RunE_noEx]
        refine RunE.mono h2 fun t s1 q => ?_
        cases t with
        | false =>
          simp only [Bool.false_eq_true, if_false] at q ⊢
          exact ih (i + 1) ys s1 hd hlt q
        | true =>
          simp only [if_true] at q ⊢
          rw [RunE_bind, RunE_noEx]
          refine RunE.mono q fun v s2 q2 => ?_
          rw [RunE_bind]
          refine RunE.mono (ih (i + 1) (ys ++ [v]) s2 hd hlt q2) fun ws s3 q3 => ?_
          rw [RunE_pure]
          rw [List.append_assoc] at q3
          exact q3
  exact RunE.mono (go xs 0 [] s rfl (Nat.zero_le _) h0) fun ws s' q => hf _ _ q.1 q.2
/-- a comprehension that leaves the store -/
theorem lc_pure {gs : List Gd} {g : Tg} {φ : Fra} {ow : List Nat} {cs : Fra → M Bool} {e : Fra → M Dt} {s : Mem} (c : Dt → Bool) (f : Dt → Dt) (hg : gsOn gs s) : ∀ (xs : List Dt),
    (∀ x ∈ xs, ∃ φ1, asgT g x (wipeD φ ow) = some φ1 ∧ cs φ1 s = .ok (c x) s ∧ (c x = true → e φ1 s = .ok (f x) s)) → lcS gs g φ ow cs e xs s = .ok ((xs.filter c).map f) s
  | [], _ => by
    rw [lcS]
    have : (guard gs : M Unit) s = .ok () s := by unfold QQ.guard; exact if_pos hg
    rw [bind_ok this]; rfl
  | x :: xs, h => by
    obtain ⟨φ1, h1, h2, h3⟩ := h x (List.mem_cons_self ..)
    have ih := lc_pure c f hg xs fun y hy => h y (List.mem_cons_of_mem _ hy)
    have hgd : (guard gs : M Unit) s = .ok () s := by unfold QQ.guard; exact if_pos hg
    rw [lcS, bind_ok hgd, h1]
    have h0 : (ofO (some φ1) : M Fra) s = .ok φ1 s := rfl
    rw [bind_ok h0]
    have hc : noEx (cs φ1) s = .ok (c x) s := by unfold noEx; rw [h2]
    rw [bind_ok hc]
    cases hx : c x with
    | false =>
      simp only [Bool.false_eq_true, if_false]
      rw [ih, List.filter_cons_of_neg (by simp [hx])]
    | true =>
      simp only [if_true]
      have he : noEx (e φ1) s = .ok (f x) s := by unfold noEx; rw [h3 hx]
      rw [bind_ok he, bind_ok ih, List.filter_cons_of_pos hx]
      rfl
/-! ### defs -/
def endQ (drop : Bool) (s : Mem) (d : Dt) (s' : Mem) (Q : Dt → Mem → Prop) : Prop := if drop = true then cutOk s s' d ∧ Q d (s'.take s.length) else Q d s'
theorem endQ_t (d : Dt) (s' : Mem) (Q : Dt → Mem → Prop) : endQ true s d s' Q ↔ (cutOk s s' d ∧ Q d (s'.take s.length)) := by simp [endQ]
theorem endQ_f (d : Dt) (s' : Mem) (Q : Dt → Mem → Prop) : endQ false s d s' Q ↔ Q d s' := by simp [endQ]
def fnQ (drop : Bool) (s : Mem) (Q : Dt → Mem → Prop) : Fl → Fra → Mem → Prop
  | .nx, _, s' => endQ drop s .non s' Q
  | .rt d, _, s' => endQ drop s d s' Q
  | _, _, _ => False
theorem fnQ_nx (drop : Bool) (s s' : Mem) (φ : Fra) (Q : Dt → Mem → Prop) : fnQ drop s Q .nx φ s' ↔ endQ drop s .non s' Q := Iff.rfl
theorem fnQ_rt (drop : Bool) (s s' : Mem) (φ : Fra) (d : Dt) (Q : Dt → Mem → Prop) : fnQ drop s Q (.rt d) φ s' ↔ endQ drop s d s' Q := Iff.rfl
theorem RunE_callF (G : Gs) (F : Fn) (ds : List Dt) (Q : Dt → Mem → Prop) : RunE (callF G F ds) s E Q ↔ (ds.length = F.ps.length ∧ RunS (execs G F.body (frame0 F ds)) s (fun c fs _ s' => E c fs s') (fnQ F.drop s Q)) := by
  have hu : callF G F ds s = if ds.length = F.ps.length then (match execs G F.body (frame0 F ds) s with
    | .ok .nx _ s' => endF F.drop s .non s'
    | .ok (.rt d) _ s' => endF F.drop s d s'
    | .ex c fs _ s' => .ex c fs s'
    | _ => .no) else .no := rfl
  have he : ∀ d s', callF G F ds s = endF F.drop s d s' → (RunE (callF G F ds) s E Q ↔ endQ F.drop s d s' Q) := by
    intro d s' e
    unfold RunE endQ
    rw [e]
    unfold endF
    by_cases hd : F.drop = true
    · rw [if_pos hd, if_pos hd]
      by_cases hc : cutOk s s' d
      · rw [if_pos hc]; simp [hc]
      · rw [if_neg hc]; simp [hc]
    · rw [if_neg hd, if_neg hd]
  by_cases hl : ds.length = F.ps.length
  · rw [if_pos hl] at hu
    rcases e : execs G F.body (frame0 F ds) s with ⟨⟨⟩ | d | ⟨⟩ | ⟨⟩, φ, s'⟩ | ⟨c, fs, φ, s'⟩ | _
    · rw [e] at hu
      rw [he _ _ hu]; simp [RunS, e, hl, fnQ]
    · rw [e] at hu
      rw [he _ _ hu]; simp [RunS, e, hl, fnQ]
    · rw [e] at hu
      unfold RunE; rw [hu]; simp [RunS, e, hl, fnQ]
    · rw [e] at hu
      unfold RunE; rw [hu]; simp [RunS, e, hl, fnQ]
    · rw [e] at hu
      unfold RunE; rw [hu]; simp [RunS, e, hl]
    · rw [e] at hu
      unfold RunE; rw [hu]; simp [RunS, e, hl]
  · rw [if_neg hl] at hu
    unfold RunE; rw [hu]; simp [hl]
theorem sem_fn {R : Prg} {n : Nat} {x : Str} {F : Fn} (h : R.fns.lookup x = some F) : (sem R (n + 1)).fn x = callF (sem R n) F := by
  show (match R.fns.lookup x with | some F => callF (sem R n) F | none => fun _ => stuck) = _
  rw [h]
theorem sem_mt' (R : Prg) (n : Nat) : (sem R n).mt = R.mt := by cases n <;> rfl
theorem sem_con' (R : Prg) (n : Nat) : (sem R n).con = R.con := by cases n <;> rfl
theorem sem_fd' (R : Prg) (n : Nat) : (sem R n).fd = R.fd := by cases n <;> rfl
theorem sem_df' (R : Prg) (n : Nat) : (sem R n).df = R.df := by cases n <;> rfl
end
end QQ

/-! QQ, part x: rules for runs, one for each node. -/
namespace QQ
open PySem L2
local macro_rules | `(tactic| bv_omega) => `(tactic| repeat' (first | exact Iff.rfl | rw [RunE_bind] | rw [RunE_lift] | rw [RunE_rd] | rw [RunE_ofO] | rw [RunE_pure] | rw [RunE_ite] | rw [RunE_noEx] | rw [RunE_enterM] | rw [RunE_leaveM] | rw [RunS_inE] | rw [RunS_done] | rw [RunS_ite] | refine RunE_congr fun _ _ => ?_ | refine RdQ_congr fun _ => ?_ | refine LfQ_congr fun _ _ => ?_ | refine if_congr_iff ?_ ?_))
section
variable {G : Gs} {φ : Fra} {s : Mem} {E : Ep} {Q : Dt → Mem → Prop} {QL : List Dt → Mem → Prop} {QB : Bool → Mem → Prop} {QI : List Dt × List Gd → Mem → Prop} {Es' : Es} {QS : Fl → Fra → Mem → Prop}
theorem r_var (i : Nat) : RunE (ev G (.var i) φ) s E Q ↔ RdQ (φ[i]?.join) fun d => Q d s := by rw [ev, RunE_ofO]
theorem r_cst (d : Dt) : RunE (ev G (.cst d) φ) s E Q ↔ Q d s := by rw [ev, RunE_pure]
theorem r_glb (x : Str) : RunE (ev G (.glb x) φ) s E Q ↔ RdQ (G.con x) fun d => Q d s := by rw [ev, RunE_ofO]
theorem r_bin (op : Operator) (own : Bool) (a b : Ex) : RunE (ev G (.bin op own a b) φ) s E Q ↔ RunE (ev G a φ) s E fun x s1 => RunE (ev G b φ) s1 E fun y s2 => LfQ (binD op own x y s2) Q := by
  rw [ev]; bv_omega
theorem r_cmp (op : CmpOp) (a b : Ex) : RunE (ev G (.cmp op a b) φ) s E Q ↔ RunE (ev G a φ) s E fun x s1 => RunE (ev G b φ) s1 E fun y s2 => RdQ (cmpD op x y s2) fun c => Q (.bl c) s2 := by
  rw [ev]; bv_omega
theorem r_chn (o1 o2 : CmpOp) (a b c : Ex) : RunE (ev G (.chn o1 o2 a b c) φ) s E Q ↔ RunE (ev G a φ) s E fun x s1 => RunE (ev G b φ) s1 E fun y s2 => RdQ (cmpD o1 x y s2) fun k => if k = true then RunE (ev G c φ) s2 E fun z s3 => RdQ (cmpD o2 y z s3) fun k2 => Q (.bl k2) s3 else Q (.bl false) s2 := by
  rw [ev]; bv_omega
theorem r_bop (k : Bool) (es : Exs) : RunE (ev G (.bop k es) φ) s E Q ↔ RunE (evB G k es φ) s E Q := by rw [ev]
theorem r_neg (a : Ex) : RunE (ev G (.neg a) φ) s E Q ↔ RunE (ev G a φ) s E fun x s1 => RdQ (negD x) fun d => Q d s1 := by
  rw [ev]; bv_omega
def notQ (Q : Dt → Mem → Prop) : Dt → Mem → Prop
  | .bl b, s => Q (.bl (!b)) s
  | _, _ => False
theorem notQ_bl (b : Bool) : notQ Q (.bl b) s ↔ Q (.bl (!b)) s := Iff.rfl
theorem r_nt (a : Ex) : RunE (ev G (.nt a) φ) s E Q ↔ RunE (ev G a φ) s E (notQ Q) := by
  rw [ev, RunE_bind]
  refine RunE_congr fun a s' => ?_
  cases a <;> exact Iff.rfl
theorem r_ife (c a b : Ex) : RunE (ev G (.ife c a b) φ) s E Q ↔ RunE (tst G c φ) s E fun t s1 => if t = true then RunE (ev G a φ) s1 E Q else RunE (ev G b φ) s1 E Q := by
  rw [ev]; bv_omega
theorem r_tup (es : Exs) : RunE (ev G (.tup es) φ) s E Q ↔ RunE (evs G es φ) s E fun xs s1 => LfQ (mkT xs s1) Q := by
  rw [ev]; bv_omega
theorem r_lst (own : Bool) (es : Exs) : RunE (ev G (.lst own es) φ) s E Q ↔ RunE (evs G es φ) s E fun xs s1 => LfQ (mkL own xs s1) Q := by
  rw [ev]; bv_omega
theorem r_dis (own : Bool) : RunE (ev G (.dis own) φ) s E Q ↔ LfQ (mkD own [] s) Q := by
  rw [ev]; bv_omega
theorem r_ix (o i : Ex) : RunE (ev G (.ix o i) φ) s E Q ↔ RunE (ev G o φ) s E fun x s1 => RunE (ev G i φ) s1 E fun y s2 => RdQ (ixD x y s2) fun d => Q d s2 := by
  rw [ev]; bv_omega
theorem r_slc (own : Bool) (o : Ex) (lo hi : Exs) : RunE (ev G (.slc own o lo hi) φ) s E Q ↔ RunE (ev G o φ) s E fun x s1 => RunE (evs G lo φ) s1 E fun l s2 => RdQ (optI l) fun l => RunE (evs G hi φ) s2 E fun h s3 => RdQ (optI h) fun h => LfQ (slD own x l h s3) Q := by
  rw [ev]; bv_omega
def intQ (K : Int → Mem → Prop) : Dt → Mem → Prop
  | .int i, s => K i s
  | _, _ => False
theorem intQ_int (K : Int → Mem → Prop) (i : Int) : intQ K (.int i) s ↔ K i s := Iff.rfl
theorem r_sls (own : Bool) (o : Ex) (lo hi : Exs) (st : Ex) : RunE (ev G (.sls own o lo hi st) φ) s E Q ↔ RunE (ev G o φ) s E fun x s1 => RunE (evs G lo φ) s1 E fun l s2 => RdQ (optI l) fun l => RunE (evs G hi φ) s2 E fun h s3 => RdQ (optI h) fun h => RunE (ev G st φ) s3 E (intQ fun i s4 => LfQ (slS own x l h i s4) Q) := by
  rw [ev]; bv_omega
  rename_i a s'
  cases a <;> first | exact Iff.rfl | exact RunE_lift _ _
def fldD (G : Gs) (x : Dt) (f : Str) (s : Mem) : Option Dt := (fieldsOf s x).bind fun cf => if G.fd cf.1 f = true then cf.2.lookup f else none
theorem r_fld (o : Ex) (f : Str) : RunE (ev G (.fld o f) φ) s E Q ↔ RunE (ev G o φ) s E fun x s1 => RdQ (fldD G x f s1) fun d => Q d s1 := by
  rw [ev]; bv_omega
theorem r_call (x : Str) (es : Exs) (d : Nat) : RunE (ev G (.call x es d) φ) s E Q ↔ RunE (evs G es φ) s E fun xs s1 => if d ≤ G.df x then RunE (G.fn x (xs ++ List.replicate d .non)) s1 E Q else False := by
  rw [ev]; bv_omega
def isNon : Dt → Prop
  | .non => True
  | _ => False
theorem isNon_non : isNon .non ↔ True := Iff.rfl
theorem r_make (x : Str) (es : Exs) : RunE (ev G (.make x es) φ) s E Q ↔ RunE (evs G es φ) s E fun xs s1 => RdQ (G.mt x "__init__") fun q => RunE (G.fn q (.loc s1.length :: xs)) (s1 ++ [.live (.obj x [])]) E fun r s2 => isNon r ∧ Q (.loc s1.length) s2 := by
  rw [ev, RunE_bind]
  refine RunE_congr fun xs s1 => ?_
  rw [RunE_bind, RunE_ofO]
  refine RdQ_congr fun q => ?_
  rw [RunE_bind, RunE_lift]
  show RunE (G.fn q (.loc s1.length :: xs) >>= fun r => match r with | .non => (pure (.loc s1.length) : M Dt) | _ => stuck) (s1 ++ [.live (.obj x [])]) E Q ↔ _
  rw [RunE_bind]
  refine RunE_congr fun a s' => ?_
  cases a <;> simp [isNon, RunE_pure, RunE_stuck]
def methD (G : Gs) (m : Str) (x : Dt) (s : Mem) : Option Str := (fieldsOf s x).bind fun cf => if (cf.2.lookup m).isNone = true then G.mt cf.1 m else none
theorem r_meth (o : Ex) (m : Str) (es : Exs) (d : Nat) : RunE (ev G (.meth o m es d) φ) s E Q ↔ RunE (ev G o φ) s E fun x s1 => RdQ (methD G m x s1) fun q => RunE (evs G es φ) s1 E fun xs s2 => if d ≤ G.df q then RunE (G.fn q ((x :: xs) ++ List.replicate d .non)) s2 E Q else False := by
  rw [ev]; bv_omega
theorem r_blt (own : Bool) (x : Str) (es : Exs) : RunE (ev G (.blt own x es) φ) s E Q ↔ RunE (evs G es φ) s E fun xs s1 => LfQ (bltD x own xs s1) Q := by
  rw [ev]; bv_omega
theorem r_mtd (own : Bool) (o : Ex) (m : Str) (es : Exs) : RunE (ev G (.mtd own o m es) φ) s E Q ↔ RunE (ev G o φ) s E fun x s1 => RdQ (kindD m x s1) fun t => RunE (evs G es φ) s1 E fun xs s2 => LfQ (mtdD t m own x xs s2) Q := by
  rw [ev]; bv_omega
theorem r_lc (own : Bool) (ow : List (Str × Nat)) (g : Tg) (it : It) (cs : Exs) (e : Ex) : RunE (ev G (.lc own ow g it cs e) φ) s E Q ↔ RunE (src G it φ) s E fun r s1 => RunE (lcS r.2 g φ (ow.map (·.2)) (tsts G cs) (ev G e) r.1) (enter r.2 s1) E fun ys s2 => LfQ (mkL own ys (leave r.2 s2)) Q := by
  rw [ev]; bv_omega
def srtSetD (own : Bool) (x : Dt) : Op1 Dt := fun s => (items s x).bind fun xs => (intsOf xs).bind fun ns => if ns.length < 64 then mkL own ((srtI (dedI ns)).map .int) s else none
theorem r_srtSet (own : Bool) (e : Ex) : RunE (ev G (.srtSet own e) φ) s E Q ↔ RunE (ev G e φ) s E fun x s1 => LfQ (srtSetD own x s1) Q := by
  rw [ev]; bv_omega
theorem r_frz (e : Ex) : RunE (ev G (.frz e) φ) s E Q ↔ RunE (ev G e φ) s E fun x s1 => LfQ (frzD x s1) Q := by
  rw [ev]; bv_omega
theorem r_nil : RunE (evs G .nil φ) s E QL ↔ QL [] s := by rw [evs, RunE_pure]
theorem r_cons (e : Ex) (es : Exs) : RunE (evs G (.cons e es) φ) s E QL ↔ RunE (ev G e φ) s E fun x s1 => RunE (evs G es φ) s1 E fun xs s2 => QL (x :: xs) s2 := by
  rw [evs]; bv_omega
theorem rB_one (k : Bool) (e : Ex) : RunE (evB G k (.cons e .nil) φ) s E Q ↔ RunE (ev G e φ) s E Q := by rw [evB]
def bopQ (k : Bool) (K : Mem → Prop) (Q : Dt → Mem → Prop) : Dt → Mem → Prop
  | .bl b, s => if b = k then K s else Q (.bl b) s
  | _, _ => False
theorem bopQ_bl (k b : Bool) (K : Mem → Prop) : bopQ k K Q (.bl b) s ↔ if b = k then K s else Q (.bl b) s := Iff.rfl
theorem rB_more (k : Bool) (e e2 : Ex) (es : Exs) : RunE (evB G k (.cons e (.cons e2 es)) φ) s E Q ↔ RunE (ev G e φ) s E (bopQ k (fun s' => RunE (evB G k (.cons e2 es) φ) s' E Q) Q) := by
  rw [evB, RunE_bind]
  · refine RunE_congr fun a s' => ?_
    cases a <;> first | exact Iff.rfl | skip
    rename_i b
    show RunE (if b = k then evB G k (.cons e2 es) φ else pure (.bl b)) s' E Q ↔ _
    rw [RunE_ite]; exact Iff.rfl
  · intro h; cases h
/-! tests -/
theorem t_bop (k : Bool) (es : Exs) : RunE (tst G (.bop k es) φ) s E QB ↔ RunE (tstB G k es φ) s E QB := by rw [tst]
theorem t_nt (a : Ex) : RunE (tst G (.nt a) φ) s E QB ↔ RunE (tst G a φ) s E fun b s1 => QB (!b) s1 := by
  rw [tst]; bv_omega
theorem tst_other (e : Ex) (h : match e with | .bop _ _ => False | .nt _ => False | .ife _ _ _ => False | .frz _ => False | _ => True) : tst G e φ = (do let x ← ev G e φ; rd (trueD x)) := by
  cases e <;> first | exact h.elim | (rw [tst] <;> (intros; contradiction)) | (rw [tst] <;> (intro _ _ z; cases z)) | (rw [tst] <;> (intro _ z; cases z)) | (rw [tst] <;> (intro _ _ _ z; cases z)) | skip
theorem t_cmp (op : CmpOp) (a b : Ex) : RunE (tst G (.cmp op a b) φ) s E QB ↔ RunE (ev G (.cmp op a b) φ) s E fun x s1 => RdQ (trueD x s1) fun t => QB t s1 := by
  rw [tst_other _ trivial]; bv_omega
theorem t_chn (o1 o2 : CmpOp) (a b c : Ex) : RunE (tst G (.chn o1 o2 a b c) φ) s E QB ↔ RunE (ev G (.chn o1 o2 a b c) φ) s E fun x s1 => RdQ (trueD x s1) fun t => QB t s1 := by
  rw [tst_other _ trivial]; bv_omega
theorem t_var (i : Nat) : RunE (tst G (.var i) φ) s E QB ↔ RunE (ev G (.var i) φ) s E fun x s1 => RdQ (trueD x s1) fun t => QB t s1 := by
  rw [tst_other _ trivial]; bv_omega
theorem t_cst (d : Dt) : RunE (tst G (.cst d) φ) s E QB ↔ RunE (ev G (.cst d) φ) s E fun x s1 => RdQ (trueD x s1) fun t => QB t s1 := by
  rw [tst_other _ trivial]; bv_omega
theorem t_ix (o i : Ex) : RunE (tst G (.ix o i) φ) s E QB ↔ RunE (ev G (.ix o i) φ) s E fun x s1 => RdQ (trueD x s1) fun t => QB t s1 := by
  rw [tst_other _ trivial]; bv_omega
theorem t_fld (o : Ex) (f : Str) : RunE (tst G (.fld o f) φ) s E QB ↔ RunE (ev G (.fld o f) φ) s E fun x s1 => RdQ (trueD x s1) fun t => QB t s1 := by
  rw [tst_other _ trivial]; bv_omega
theorem t_call (x : Str) (es : Exs) (d : Nat) : RunE (tst G (.call x es d) φ) s E QB ↔ RunE (ev G (.call x es d) φ) s E fun x s1 => RdQ (trueD x s1) fun t => QB t s1 := by
  rw [tst_other _ trivial]; bv_omega
theorem t_meth (o : Ex) (m : Str) (es : Exs) (d : Nat) : RunE (tst G (.meth o m es d) φ) s E QB ↔ RunE (ev G (.meth o m es d) φ) s E fun x s1 => RdQ (trueD x s1) fun t => QB t s1 := by
  rw [tst_other _ trivial]; bv_omega
theorem t_blt (own : Bool) (x : Str) (es : Exs) : RunE (tst G (.blt own x es) φ) s E QB ↔ RunE (ev G (.blt own x es) φ) s E fun x s1 => RdQ (trueD x s1) fun t => QB t s1 := by
  rw [tst_other _ trivial]; bv_omega
theorem tB_one (k : Bool) (e : Ex) : RunE (tstB G k (.cons e .nil) φ) s E QB ↔ RunE (tst G e φ) s E QB := by rw [tstB]
theorem tB_more (k : Bool) (e e2 : Ex) (es : Exs) : RunE (tstB G k (.cons e (.cons e2 es)) φ) s E QB ↔ RunE (tst G e φ) s E fun b s1 => if b = k then RunE (tstB G k (.cons e2 es) φ) s1 E QB else QB b s1 := by
  rw [tstB]
  · bv_omega
  · intro h; cases h
theorem ts_nil : RunE (tsts G .nil φ) s E QB ↔ QB true s := by rw [tsts, RunE_pure]
theorem ts_one (e : Ex) : RunE (tsts G (.cons e .nil) φ) s E QB ↔ RunE (tst G e φ) s E QB := by rw [tsts]
/-! what is walked -/
theorem i_seq (e : Ex) : RunE (src G (.seq e) φ) s E QI ↔ RunE (ev G e φ) s E fun x s1 => RdQ (seqSrc x s1) fun r => QI r s1 := by
  rw [src]; bv_omega
theorem i_rng (es : Exs) : RunE (src G (.rng es) φ) s E QI ↔ RunE (evs G es φ) s E fun xs s1 => RdQ (rangeD xs) fun r => QI (r, []) s1 := by
  rw [src]; bv_omega
theorem i_enu (e : Ex) : RunE (src G (.enu e) φ) s E QI ↔ RunE (ev G e φ) s E fun x s1 => RdQ (lstSrc x s1) fun r => QI (enumD 0 r.1, r.2) s1 := by
  rw [src]; bv_omega
theorem i_zip (a b : Ex) : RunE (src G (.zip a b) φ) s E QI ↔ RunE (ev G a φ) s E fun x s1 => RunE (ev G b φ) s1 E fun y s2 => RdQ (lstSrc x s2) fun r => RdQ (lstSrc y s2) fun t => QI (zipD r.1 t.1, r.2 ++ t.2) s2 := by
  rw [src]; bv_omega
theorem i_itm (e : Ex) : RunE (src G (.itm e) φ) s E QI ↔ RunE (ev G e φ) s E fun x s1 => RdQ (itmSrc x s1) fun r => QI r s1 := by
  rw [src]; bv_omega
/-! statements -/
theorem x_expr (e : Ex) : RunS (exec G (.expr e) φ) s Es' QS ↔ RunE (ev G e φ) s (fun c fs s' => Es' c fs φ s') fun _ s1 => QS .nx φ s1 := by
  rw [exec]; bv_omega
theorem x_asg (g : Tg) (e : Ex) : RunS (exec G (.asg g e) φ) s Es' QS ↔ RunE (ev G e φ) s (fun c fs s' => Es' c fs φ s') fun x s1 => RdQ (asgT g x φ) fun φ' => QS .nx φ' s1 := by
  rw [exec]; bv_omega
def parQ (φ : Fra) (i j : Nat) (Q : Fl → Fra → Mem → Prop) : List Dt → Mem → Prop
  | [a, b], s => Q .nx ((φ.set i (some a)).set j (some b)) s
  | _, _ => False
theorem parQ_two (i j : Nat) (a b : Dt) : parQ φ i j QS [a, b] s ↔ QS .nx ((φ.set i (some a)).set j (some b)) s := Iff.rfl
theorem x_par (i j : Nat) (es : Exs) : RunS (exec G (.par i j es) φ) s Es' QS ↔ RunE (evs G es φ) s (fun c fs s' => Es' c fs φ s') (parQ φ i j QS) := by
  rw [exec, RunS_inE]
  refine RunE_congr fun xs s' => ?_
  rcases xs with _ | ⟨a, _ | ⟨b, _ | ⟨c, l⟩⟩⟩ <;> exact Iff.rfl
theorem x_aug (i : Nat) (op : Operator) (e : Ex) : RunS (exec G (.aug i op e) φ) s Es' QS ↔ RdQ (φ[i]?.join) fun x => RunE (ev G e φ) s (fun c fs s' => Es' c fs φ s') fun y s1 => RdQ (augD op x y) fun z => QS .nx (φ.set i (some z)) s1 := by
  rw [exec]; bv_omega
theorem x_six (o i e : Ex) : RunS (exec G (.six o i e) φ) s Es' QS ↔ RunE (ev G e φ) s (fun c fs s' => Es' c fs φ s') fun x s1 => RunE (ev G o φ) s1 (fun c fs s' => Es' c fs φ s') fun a s2 => RunE (ev G i φ) s2 (fun c fs s' => Es' c fs φ s') fun b s3 => LfQ (setD a b x s3) fun _ s4 => QS .nx φ s4 := by
  rw [exec]; bv_omega
theorem x_aix (op : Operator) (o i e : Ex) : RunS (exec G (.aix op o i e) φ) s Es' QS ↔ RunE (ev G o φ) s (fun c fs s' => Es' c fs φ s') fun a s1 => RunE (ev G i φ) s1 (fun c fs s' => Es' c fs φ s') fun b s2 => RdQ (ixL a b s2) fun x => RunE (ev G e φ) s2 (fun c fs s' => Es' c fs φ s') fun y s3 => RdQ (augD op x y) fun z => LfQ (setD a b z s3) fun _ s4 => QS .nx φ s4 := by
  rw [exec]; bv_omega
def sfdD (G : Gs) (x : Dt) (f : Str) (s : Mem) : Option Unit := (fieldsOf s x).bind fun cf => if G.fd cf.1 f = true then some () else none
theorem x_sfd (o : Ex) (f : Str) (e : Ex) : RunS (exec G (.sfd o f e) φ) s Es' QS ↔ RunE (ev G e φ) s (fun c fs s' => Es' c fs φ s') fun y s1 => RunE (ev G o φ) s1 (fun c fs s' => Es' c fs φ s') fun x s2 => RdQ (sfdD G x f s2) fun _ => LfQ (setFD x f y s2) fun _ s3 => QS .nx φ s3 := by
  rw [exec]; bv_omega
theorem x_ite (c : Ex) (a b : Sms) : RunS (exec G (.ite c a b) φ) s Es' QS ↔ RunE (tst G c φ) s (fun c fs s' => Es' c fs φ s') fun t s1 => if t = true then RunS (execs G a φ) s1 Es' QS else RunS (execs G b φ) s1 Es' QS := by
  rw [exec]; bv_omega
theorem x_whl (c : Ex) (b : Sms) : RunS (exec G (.whl c b) φ) s Es' QS ↔ RunS (whileS (tst G c) (execs G b) φ) s Es' QS := by rw [exec]
theorem x_frs (g : Tg) (it : It) (b : Sms) : RunS (exec G (.frs g it b) φ) s Es' QS ↔ RunE (src G it φ) s (fun c fs s' => Es' c fs φ s') fun r s1 => RunS (forS r.2 g (execs G b) r.1 φ) (enter r.2 s1) Es' fun f φ' s' => QS f φ' (leave r.2 s') := by
  rw [exec, RunS_inE]
  refine RunE_congr fun r s' => ?_
  exact RunS_leave (s := enter r.2 s') (Es' := Es') r.2 (forS r.2 g (execs G b) r.1 φ) QS
theorem x_ret (e : Ex) : RunS (exec G (.ret e) φ) s Es' QS ↔ RunE (ev G e φ) s (fun c fs s' => Es' c fs φ s') fun x s1 => QS (.rt x) φ s1 := by
  rw [exec]; bv_omega
theorem x_retN : RunS (exec G .retN φ) s Es' QS ↔ QS (.rt .non) φ s := by rw [exec, RunS_done]
theorem x_pas : RunS (exec G .pas φ) s Es' QS ↔ QS .nx φ s := by rw [exec, RunS_done]
theorem x_brk : RunS (exec G .brk φ) s Es' QS ↔ QS .bk φ s := by rw [exec, RunS_done]
theorem x_ctn : RunS (exec G .ctn φ) s Es' QS ↔ QS .ct φ s := by rw [exec, RunS_done]
theorem xs_nil : RunS (execs G .nil φ) s Es' QS ↔ QS .nx φ s := by rw [execs, RunS_done]
theorem xs_cons (m : Sm) (r : Sms) : RunS (execs G (.cons m r) φ) s Es' QS ↔ RunS (exec G m φ) s Es' (nxQ QS fun φ' s1 => RunS (execs G r φ') s1 Es' QS) := by
  rw [execs, RunS_bind]
end
/-! operations -/
section
variable {s : Mem} {own : Bool}
theorem add_int (i j : Int) : binD .Add own (.int i) (.int j) s = some (.int (i + j), s) := rfl
theorem sub_int (i j : Int) : binD .Sub own (.int i) (.int j) s = some (.int (i - j), s) := rfl
theorem mul_int' (i j : Int) : binD .Mult own (.int i) (.int j) s = if mulOk i j = true then some (.int (i * j), s) else none := rfl
theorem fdiv_int (i j : Int) : binD .FloorDiv own (.int i) (.int j) s = if divOk j then some (.int (i / j), s) else none := by
  show (if divOk j then some (i / j) else none).map _ = _
  split <;> rfl
theorem mod_int (i j : Int) : binD .Mod own (.int i) (.int j) s = if 0 < j then some (.int (i % j), s) else none := by
  show (if 0 < j then some (i % j) else none).map _ = _
  split <;> rfl
theorem pow_int (i j : Int) : binD .Pow own (.int i) (.int j) s = if 0 ≤ j ∧ j ≤ 1000000 ∧ i.natAbs < 2 ^ 64 then some (.int (i ^ j.toNat), s) else none := by
  show (if 0 ≤ j ∧ j ≤ 1000000 ∧ i.natAbs < 2 ^ 64 then some (i ^ j.toNat) else none).map _ = _
  split <;> rfl
theorem eq_int (i j : Int) : cmpD .Eq (.int i) (.int j) s = some (decide (i = j)) := rfl
theorem ne_int (i j : Int) : cmpD .NotEq (.int i) (.int j) s = some (!decide (i = j)) := rfl
theorem lt_int (i j : Int) : cmpD .Lt (.int i) (.int j) s = some (decide (i < j)) := rfl
theorem le_int (i j : Int) : cmpD .LtE (.int i) (.int j) s = some (decide (i ≤ j)) := rfl
theorem gt_int (i j : Int) : cmpD .Gt (.int i) (.int j) s = some (decide (j < i)) := rfl
theorem ge_int (i j : Int) : cmpD .GtE (.int i) (.int j) s = some (decide (j ≤ i)) := rfl
theorem eq_str (i j : Str) : cmpD .Eq (.str i) (.str j) s = some (decide (i = j)) := rfl
theorem ne_str (i j : Str) : cmpD .NotEq (.str i) (.str j) s = some (!decide (i = j)) := rfl
theorem eq_bl (i j : Bool) : cmpD .Eq (.bl i) (.bl j) s = some (decide (i = j)) := rfl
theorem is_non : cmpD .Is .non .non s = some true := rfl
theorem is_tup (xs : List Dt) : cmpD .Is (.tup xs) .non s = some false := rfl
theorem is_int (i : Int) : cmpD .Is (.int i) .non s = some false := rfl
theorem isn_non : cmpD .IsNot .non .non s = some false := rfl
theorem isn_tup (xs : List Dt) : cmpD .IsNot (.tup xs) .non s = some true := rfl
theorem isn_int (i : Int) : cmpD .IsNot (.int i) .non s = some true := rfl
theorem true_bl (b : Bool) : trueD (.bl b) s = some b := rfl
theorem true_int (i : Int) : trueD (.int i) s = some (i != 0) := rfl
theorem mulOk_l {i j : Int} (h : -18446744073709551616 < i ∧ i < 18446744073709551616) : mulOk i j = true := by
  unfold mulOk
  rw [Bool.or_eq_true, Bool.or_eq_true]
  exact .inl (.inl (decide_eq_true (by omega)))
theorem mulOk_r {i j : Int} (h : -18446744073709551616 < j ∧ j < 18446744073709551616) : mulOk i j = true := by
  unfold mulOk
  rw [Bool.or_eq_true, Bool.or_eq_true]
  exact .inl (.inr (decide_eq_true (by omega)))
theorem divOk_l {j : Int} (h : 0 < j ∧ j < 18446744073709551616) : divOk j := by
  refine ⟨h.1, ?_⟩
  have : j.natAbs.log2 < 64 := by
    rw [Nat.log2_lt (by omega)]
    omega
  omega
theorem mkT_if (xs : List Dt) : mkT xs s = if xs.length ≤ sizeLine then some (.tup xs, s) else none := rfl
theorem mkL_t (xs : List Dt) : mkL true xs s = if xs.length ≤ sizeLine then some (.loc s.length, s ++ [.live (.lst xs)]) else none := rfl
theorem mkL_f (xs : List Dt) : mkL false xs s = if xs.length ≤ sizeLine then some (.lst xs, s) else none := rfl
theorem mkD_t (xs : List (Key × Dt)) : mkD true xs s = if xs.length ≤ sizeLine then some (.loc s.length, s ++ [.live (.dct xs)]) else none := rfl
theorem mkD_f (xs : List (Key × Dt)) : mkD false xs s = if xs.length ≤ sizeLine then some (.dct xs, s) else none := rfl
theorem blt_len (v : Dt) : bltD "len" own [v] = bLen v := by
  show blt1 "len" own v = _
  unfold blt1; rw [if_pos rfl]
theorem blt_list (v : Dt) : bltD "list" own [v] = bList own v := by
  show blt1 "list" own v = _
  unfold blt1; rw [if_neg (by decide), if_pos rfl]
theorem blt_sum (v : Dt) : bltD "sum" own [v] = bSum v := by
  show blt1 "sum" own v = _
  unfold blt1; rw [if_neg (by decide), if_neg (by decide), if_pos rfl]
theorem blt_min1 (v : Dt) : bltD "min" own [v] = bMin1 v := by
  show blt1 "min" own v = _
  unfold blt1; rw [if_neg (by decide), if_neg (by decide), if_neg (by decide), if_pos rfl]
theorem blt_all (v : Dt) : bltD "all" own [v] = bAll v := by
  show blt1 "all" own v = _
  unfold blt1; rw [if_neg (by decide), if_neg (by decide), if_neg (by decide), if_neg (by decide), if_pos rfl]
theorem blt_any (v : Dt) : bltD "any" own [v] = bAny v := by
  show blt1 "any" own v = _
  unfold blt1; rw [if_neg (by decide), if_neg (by decide), if_neg (by decide), if_neg (by decide), if_neg (by decide), if_pos rfl]
theorem blt_sorted (v : Dt) : bltD "sorted" own [v] = bSorted own v := by
  show blt1 "sorted" own v = _
  unfold blt1; rw [if_neg (by decide), if_neg (by decide), if_neg (by decide), if_neg (by decide), if_neg (by decide), if_neg (by decide), if_pos rfl]
theorem blt_dict (v : Dt) : bltD "dict" own [v] = bDict own v := by
  show blt1 "dict" own v = _
  unfold blt1; rw [if_neg (by decide), if_neg (by decide), if_neg (by decide), if_neg (by decide), if_neg (by decide), if_neg (by decide), if_neg (by decide), if_pos rfl]
theorem blt_min2 (v t : Dt) : bltD "min" own [v, t] = bMin2 v t := by
  show blt2 "min" v t = _
  unfold blt2; rw [if_pos rfl]
theorem blt_isi (v t : Dt) : bltD "isinstance" own [v, t] = bIsi v t := by
  show blt2 "isinstance" v t = _
  unfold blt2; rw [if_neg (by decide), if_pos rfl]
theorem bMin2_int (i j : Int) : bMin2 (.int i) (.int j) s = some (.int (min i j), s) := by
  have h : (if j < i then j else i) = min i j := by split <;> omega
  show ((some (if j < i then j else i) : Option Int).map fun k => (Dt.int k, s)) = _
  rw [Option.map_some, h]
end
theorem sizeLine_eq : sizeLine = 16777216 := rfl
theorem le_size {n : Nat} (h : n ≤ 16777216) : (n ≤ sizeLine) = True := eq_true h
end QQ

/-! QQ, part y: operations on cells and lists. -/
namespace QQ
open PySem L2
section
variable {α : Type} (s t : List α) (a b c d e : α) (k : Nat)
theorem gat : (s ++ t)[s.length + k]? = t[k]? := by rw [List.getElem?_append_right (by omega)]; congr 1; omega
theorem gat0 : (s ++ t)[s.length]? = t[0]? := gat s t 0
theorem sat : (s ++ t).set (s.length + k) c = s ++ t.set k c := by rw [List.set_append_right _ _ (by omega)]; congr 2; omega
theorem sat0 : (s ++ t).set s.length c = s ++ t.set 0 c := sat s t c 0
theorem tat : (s ++ t).take s.length = s := List.take_left' rfl
end
section
variable {s : Mem} {own : Bool}
def kdPick (s : Mem) (x : Dt) (d l : Option String) : Option String := match pairsOf s x with
  | some _ => d
  | none => match items s x with
    | some _ => l
    | none => none
theorem kd_append (x : Dt) : kindD "append" x s = kdPick s x (none) (some "list") := by
  unfold kindD kdPick
  cases pairsOf s x with
  | none =>
    cases items s x with
    | none => rfl
    | some _ => exact if_pos (by decide)
  | some _ => exact if_neg (by decide)
theorem kd_extend (x : Dt) : kindD "extend" x s = kdPick s x (none) (some "list") := by
  unfold kindD kdPick
  cases pairsOf s x with
  | none =>
    cases items s x with
    | none => rfl
    | some _ => exact if_pos (by decide)
  | some _ => exact if_neg (by decide)
theorem kd_pop (x : Dt) : kindD "pop" x s = kdPick s x (some "dict") (some "list") := by
  unfold kindD kdPick
  cases pairsOf s x with
  | none =>
    cases items s x with
    | none => rfl
    | some _ => exact if_pos (by decide)
  | some _ => exact if_pos (by decide)
theorem kd_get (x : Dt) : kindD "get" x s = kdPick s x (some "dict") (none) := by
  unfold kindD kdPick
  cases pairsOf s x with
  | none =>
    cases items s x with
    | none => rfl
    | some _ => exact if_neg (by decide)
  | some _ => exact if_pos (by decide)
theorem kd_update (x : Dt) : kindD "update" x s = kdPick s x (some "dict") (none) := by
  unfold kindD kdPick
  cases pairsOf s x with
  | none =>
    cases items s x with
    | none => rfl
    | some _ => exact if_neg (by decide)
  | some _ => exact if_pos (by decide)
theorem md_append (o v : Dt) : mtdD "list" "append" own o [v] = mAppend o v := by
  show mtd1 _ _ own _ _ = _
  unfold mtd1; rw [if_pos rfl, if_pos rfl]
theorem md_extend (o v : Dt) : mtdD "list" "extend" own o [v] = mExtend o v := by
  show mtd1 _ _ own _ _ = _
  unfold mtd1; rw [if_pos rfl, if_neg (by decide), if_pos rfl]
theorem md_popl (o v : Dt) : mtdD "list" "pop" own o [v] = mPopL o v := by
  show mtd1 _ _ own _ _ = _
  unfold mtd1; rw [if_pos rfl, if_neg (by decide), if_neg (by decide), if_pos rfl]
theorem md_get1 (o v : Dt) : mtdD "dict" "get" own o [v] = mGet1 o v := by
  show mtd1 _ _ own _ _ = _
  unfold mtd1; rw [if_neg (by decide), if_pos rfl, if_pos rfl]
theorem md_get2 (o v u : Dt) : mtdD "dict" "get" own o [v, u] = mGet2 o v u := by
  show mtd2 _ _ _ _ _ = _
  unfold mtd2; rw [if_pos rfl, if_pos rfl]
theorem md_popd (o v : Dt) : mtdD "dict" "pop" own o [v] = mPopD o v := by
  show mtd1 _ _ own _ _ = _
  unfold mtd1; rw [if_neg (by decide), if_pos rfl, if_neg (by decide), if_pos rfl]
theorem md_update (o v : Dt) : mtdD "dict" "update" own o [v] = mUpdate o v := by
  show mtd1 _ _ own _ _ = _
  unfold mtd1; rw [if_neg (by decide), if_pos rfl, if_neg (by decide), if_neg (by decide), if_pos rfl]
theorem pairsOf_loc (l : Nat) : pairsOf s (.loc l) = match s[l]? with
    | some (.live (.dct kvs)) => some kvs
    | some (.lock (.dct kvs)) => some kvs
    | _ => none := rfl
theorem items_loc (l : Nat) : items s (.loc l) = match s[l]? with
    | some (.live (.lst xs)) => some xs
    | _ => none := rfl
theorem itemsA_loc (l : Nat) : itemsA s (.loc l) = items s (.loc l) := rfl
theorem fieldsOf_loc (l : Nat) : fieldsOf s (.loc l) = match s[l]? with
    | some (.live (.obj c fs)) => some (c, fs)
    | _ => none := rfl
theorem items_lst (xs : List Dt) : items s (.lst xs) = some xs := rfl
theorem items_fls (xs : List Dt) : items s (.fls xs) = some xs := rfl
theorem itemsA_lst (xs : List Dt) : itemsA s (.lst xs) = some xs := rfl
theorem itemsA_fls (xs : List Dt) : itemsA s (.fls xs) = some xs := rfl
theorem itemsA_tup (xs : List Dt) : itemsA s (.tup xs) = some xs := rfl
theorem pairsOf_dct (kvs : List (Key × Dt)) : pairsOf s (.dct kvs) = some kvs := rfl
theorem pairsOf_lst (xs : List Dt) : pairsOf s (.lst xs) = none := rfl
theorem pairsOf_fls (xs : List Dt) : pairsOf s (.fls xs) = none := rfl
theorem pairsOf_tup (xs : List Dt) : pairsOf s (.tup xs) = none := rfl
/-! lists of ints by index -/
theorem atI_nat {α : Type} (xs : List α) (i : Nat) : atI xs (i : Int) = xs[i]? := by
  unfold atI ixN
  rw [if_pos (by omega)]
  by_cases h : (i : Int) < xs.length
  · rw [if_pos h]; simp
  · rw [if_neg h, List.getElem?_eq_none (by omega)]; rfl
theorem atI_of {α : Type} {xs : List α} {i : Int} (h : 0 ≤ i) : atI xs i = xs[i.toNat]? := by
  obtain ⟨n, rfl⟩ := Int.eq_ofNat_of_zero_le h
  exact atI_nat xs n
theorem ixN_nat (n i : Nat) : ixN n (i : Int) = if i < n then some i else none := by
  unfold ixN
  rw [if_pos (by omega)]
  by_cases h : i < n
  · rw [if_pos h, if_pos (by omega)]; simp
  · rw [if_neg h, if_neg (by omega)]
theorem ix_lst (xs : List Dt) (i : Int) : ixD (.lst xs) (.int i) s = atI xs i := rfl
theorem ix_fls (xs : List Dt) (i : Int) : ixD (.fls xs) (.int i) s = atI xs i := rfl
theorem ix_tup (xs : List Dt) (i : Int) : ixD (.tup xs) (.int i) s = atI xs i := rfl
theorem ix_dct (kvs : List (Key × Dt)) (i : Dt) : ixD (.dct kvs) i s = (keyD i).bind fun k => kGet kvs k := rfl
theorem ix_loc_l {l : Nat} {xs : List Dt} (h : s[l]? = some (.live (.lst xs))) (i : Int) : ixD (.loc l) (.int i) s = atI xs i := by
  unfold ixD; rw [pairsOf_loc, itemsA_loc, items_loc, h]; rfl
theorem ix_loc_d {l : Nat} {kvs : List (Key × Dt)} (h : s[l]? = some (.live (.dct kvs))) (i : Dt) : ixD (.loc l) i s = (keyD i).bind fun k => kGet kvs k := by
  unfold ixD; rw [pairsOf_loc, h]
theorem atI_lt {α : Type} {xs : List α} {i : Int} (h0 : 0 ≤ i) (h1 : i < xs.length) : ∃ a, xs[i.toNat]? = some a ∧ atI xs i = some a := by
  have hl : i.toNat < xs.length := by omega
  exact ⟨xs[i.toNat], List.getElem?_eq_getElem hl, by rw [atI_of h0, List.getElem?_eq_getElem hl]⟩
theorem bLen_lst (xs : List Dt) : bLen (.lst xs) s = some (.int xs.length, s) := rfl
theorem bLen_fls (xs : List Dt) : bLen (.fls xs) s = some (.int xs.length, s) := rfl
theorem bLen_tup (xs : List Dt) : bLen (.tup xs) s = some (.int xs.length, s) := rfl
theorem bLen_loc {l : Nat} {xs : List Dt} (h : s[l]? = some (.live (.lst xs))) : bLen (.loc l) s = some (.int xs.length, s) := by
  unfold bLen; rw [pairsOf_loc, itemsA_loc, items_loc, h]; rfl
theorem rng1 {j : Int} (h : -4611686018427387904 ≤ j ∧ j < 4611686018427387904) : rangeD [.int j] = some ((List.range j.toNat).map fun (k : Nat) => .int (k : Int)) := by
  show (if _ then _ else _) = _
  rw [if_pos (by omega)]
  congr 2
  funext k
  rw [Int.zero_add]
theorem rng2 {i j : Int} (h : (-4611686018427387904 ≤ i ∧ i < 4611686018427387904) ∧ -4611686018427387904 ≤ j ∧ j < 4611686018427387904) : rangeD [.int i, .int j] = some ((List.range (j - i).toNat).map fun (k : Nat) => .int (i + (k : Int))) := by
  show (if _ then _ else _) = _
  rw [if_pos (by omega)]
theorem lst_get_int {ns : List Int} {i : Nat} : (ns.map Dt.int)[i]? = ns[i]?.map Dt.int := List.getElem?_map
theorem intsOf_map : ∀ ns : List Int, intsOf (ns.map .int) = some ns
  | [] => rfl
  | n :: ns => by show (intsOf (ns.map .int)).map _ = _; rw [intsOf_map ns]; rfl
theorem boolsOf_map : ∀ ns : List Bool, boolsOf (ns.map .bl) = some ns
  | [] => rfl
  | n :: ns => by show (boolsOf (ns.map .bl)).map _ = _; rw [boolsOf_map ns]; rfl
/-! data without cells, as PyData -/
theorem pys_ints : ∀ ns : List Int, pys (ns.map .int) = some (ns.map PyData.int)
  | [] => rfl
  | n :: ns => by
    show (py (.int n)).bind _ = _
    rw [show py (.int n) = some (.int n) from rfl, Option.bind_some, pys_ints ns]; rfl
theorem pys_map {α : Type} (f : α → Dt) (g : α → PyData) : ∀ (xs : List α), (∀ x ∈ xs, py (f x) = some (g x)) → pys (xs.map f) = some (xs.map g)
  | [], _ => rfl
  | x :: xs, h => by
    show (py (f x)).bind _ = _
    rw [h x (List.mem_cons_self ..), Option.bind_some, pys_map f g xs fun y hy => h y (List.mem_cons_of_mem _ hy)]; rfl
/-! no True, False, no dict: == is equality -/
mutual
def nb : PyData → Bool
  | .none => true
  | .int _ => true
  | .str _ => true
  | .list xs => nbs xs
  | .tuple xs => nbs xs
  | _ => false
def nbs : List PyData → Bool
  | [] => true
  | x :: xs => nb x && nbs xs
end
mutual
theorem eqv_nb : ∀ (d e : PyData), nb d = true → nb e = true → PyData.eqv d e = true → d = e
  | .none, e, _, he, h => by cases e <;> simp_all [PyData.eqv, nb]
  | .int i, e, _, he, h => by cases e <;> simp_all [PyData.eqv, nb]
  | .str i, e, _, he, h => by cases e <;> simp_all [PyData.eqv, nb]
  | .list xs, e, hd, he, h => by
    cases e <;> simp [PyData.eqv, nb] at h he
    rename_i ys
    simp [nb] at hd
    rw [eqvAll_nb xs ys hd he h]
  | .tuple xs, e, hd, he, h => by
    cases e <;> simp [PyData.eqv, nb] at h he
    rename_i ys
    simp [nb] at hd
    rw [eqvAll_nb xs ys hd he h]
  | .bool _, e, hd, _, _ => by simp [nb] at hd
  | .dict _, e, hd, _, _ => by simp [nb] at hd
theorem eqvAll_nb : ∀ (d e : List PyData), nbs d = true → nbs e = true → PyData.eqvAll d e = true → d = e
  | [], [], _, _, _ => rfl
  | [], _ :: _, _, _, h => by simp [PyData.eqvAll] at h
  | _ :: _, [], _, _, h => by simp [PyData.eqvAll] at h
  | x :: xs, y :: ys, hd, he, h => by
    simp [nbs] at hd he
    simp [PyData.eqvAll] at h
    rw [eqv_nb x y hd.1 he.1 h.1, eqvAll_nb xs ys hd.2 he.2 h.2]
end
/-- the equality of two data -/
theorem deepEq_of {x y : Dt} {d e : PyData} (hx : pyM s x = some d) (hy : pyM s y = some e) (h1 : SeqAt.shaped d = true) (h2 : SeqAt.shaped e = true) : deepEq s x y = some (PyData.eqv d e) := by
  unfold deepEq
  rw [hx, Option.bind_some, hy, Option.bind_some, h1, h2]; rfl
open Classical in
theorem deepEq_nb {x y : Dt} {d e : PyData} (hx : pyM s x = some d) (hy : pyM s y = some e) (h1 : SeqAt.shaped d = true) (h2 : SeqAt.shaped e = true) (n1 : nb d = true) (n2 : nb e = true) : deepEq s x y = some (decide (d = e)) := by
  rw [deepEq_of hx hy h1 h2]
  congr 1
  by_cases h : d = e
  · subst h
    rw [decide_eq_true rfl]
    have : d.canLay0 = true := by
      unfold SeqAt.shaped at h1
      exact (Bool.and_eq_true_iff.mp h1).1
    exact PySem.SeqAt.eqv_refl d this
  · rw [decide_eq_false h]
    cases q : PyData.eqv d e with
    | false => rfl
    | true => exact absurd (eqv_nb d e n1 n2 q) h
/-! what can be compared -/
def sh (k : Nat) (d : PyData) : Prop := d.canLay0 = true ∧ d.depth ≤ k
theorem sh.shaped {k : Nat} {d : PyData} (h : sh k d) (hk : k ≤ 64) : SeqAt.shaped d = true := by
  unfold SeqAt.shaped
  rw [h.1, decide_eq_true (Nat.le_trans h.2 hk)]; rfl
theorem sh_int (i : Int) : sh 0 (.int i) := ⟨by rw [PyData.canLay0], by rw [PyData.depth]; exact Nat.le_refl _⟩
theorem sh_non : sh 0 .none := ⟨by rw [PyData.canLay0], by rw [PyData.depth]; exact Nat.le_refl _⟩
theorem sh.mono {k m : Nat} {d : PyData} (h : sh k d) (hk : k ≤ m) : sh m d := ⟨h.1, Nat.le_trans h.2 hk⟩
theorem sh_all {k : Nat} : ∀ {xs : List PyData}, (∀ x ∈ xs, sh k x) → PyData.canLayAll0 xs = true ∧ PyData.depthAll xs ≤ k
  | [], _ => ⟨by rw [PyData.canLayAll0], by rw [PyData.depthAll]; exact Nat.zero_le _⟩
  | x :: xs, h => by
    obtain ⟨h1, h2⟩ := sh_all fun y hy => h y (List.mem_cons_of_mem _ hy)
    obtain ⟨h3, h4⟩ := h x (List.mem_cons_self ..)
    exact ⟨by rw [PyData.canLayAll0, h1, h3]; rfl, by rw [PyData.depthAll]; exact Nat.max_le.mpr ⟨h4, h2⟩⟩
theorem sh_list {k : Nat} {xs : List PyData} (h : ∀ x ∈ xs, sh k x) : sh (k + 1) (.list xs) := by
  obtain ⟨h1, h2⟩ := sh_all h
  exact ⟨by rw [PyData.canLay0]; exact h1, by rw [PyData.depth]; omega⟩
theorem sh_tuple {k : Nat} {xs : List PyData} (h : ∀ x ∈ xs, sh k x) : sh (k + 1) (.tuple xs) := by
  obtain ⟨h1, h2⟩ := sh_all h
  exact ⟨by rw [PyData.canLay0]; exact h1, by rw [PyData.depth]; omega⟩
theorem sh_ints (ns : List Int) : sh 1 (.list (ns.map .int)) := sh_list fun x hx => by
  obtain ⟨n, _, rfl⟩ := List.mem_map.mp hx
  exact sh_int n
theorem sh_nil : sh 1 (.list []) := sh_list fun x hx => by cases hx
theorem nbs_all : ∀ {xs : List PyData}, (∀ x ∈ xs, nb x = true) → nbs xs = true
  | [], _ => rfl
  | x :: xs, h => by rw [nbs, h x (List.mem_cons_self ..), nbs_all fun y hy => h y (List.mem_cons_of_mem _ hy)]; rfl
theorem nb_ints (ns : List Int) : nbs (ns.map .int) = true := nbs_all fun x hx => by
  obtain ⟨n, _, rfl⟩ := List.mem_map.mp hx
  rfl
theorem map_int_inj {ns ms : List Int} : ns.map PyData.int = ms.map PyData.int ↔ ns = ms := by
  constructor
  · intro h
    have := congrArg (List.map fun d => match d with | PyData.int i => i | _ => 0) h
    simpa [List.map_map, Function.comp_def] using this
  · rintro rfl; rfl
theorem pyM_lst (xs : List Dt) : pyM s (.lst xs) = (pys xs).map .list := rfl
theorem pyM_fls (xs : List Dt) : pyM s (.fls xs) = (pys xs).map .list := rfl
theorem pyM_loc {l : Nat} {xs : List Dt} (h : s[l]? = some (.live (.lst xs))) : pyM s (.loc l) = (pys xs).map .list := by
  rw [pyM, items_loc, h]; rfl
theorem ceq_deep {x y : Dt} (h : (isScal x && isScal y) = false) : cmpD .Eq x y s = deepEq s x y := by
  show eqD x y s = _
  unfold eqD; rw [if_neg (by rw [h]; decide)]
theorem cne_deep {x y : Dt} (h : (isScal x && isScal y) = false) : cmpD .NotEq x y s = (deepEq s x y).map (!·) := by
  show (eqD x y s).map _ = _
  unfold eqD; rw [if_neg (by rw [h]; decide)]
open Classical in
theorem ne_ints {x y : Dt} {ns ms : List Int} (h : (isScal x && isScal y) = false) (hx : pyM s x = some (.list (ns.map .int))) (hy : pyM s y = some (.list (ms.map .int))) : cmpD .NotEq x y s = some (!decide (ns = ms)) := by
  rw [cne_deep h, deepEq_nb hx hy ((sh_ints ns).shaped (by decide)) ((sh_ints ms).shaped (by decide)) (by rw [nb]; exact nb_ints ns) (by rw [nb]; exact nb_ints ms), Option.map_some]
  congr 2
  rw [decide_eq_decide]
  constructor
  · intro h; injection h with h; exact map_int_inj.mp h
  · rintro rfl; rfl
theorem ne_ints_nil (ns : List Int) : cmpD .NotEq (.fls (ns.map .int)) (.lst []) s = some (!decide (ns = [])) := by
  have := ne_ints (s := s) (x := .fls (ns.map .int)) (y := .lst []) (ns := ns) (ms := []) rfl (by rw [pyM_fls, pys_ints]; rfl) (by rw [pyM_lst]; rfl)
  rw [this]
theorem ne_nil_nil : cmpD .NotEq (.fls []) (.lst []) s = some false := ne_ints_nil (s := s) []
theorem cutOk_app {t : Mem} {d : Dt} (h : below s.length d = true) : cutOk s (s ++ t) d := by
  refine ⟨h, by simp, fun i c hi hc => .inl ?_⟩
  rw [List.getElem?_append_left hi] at hc
  exact hc
theorem cutOk_id {d : Dt} (h : below s.length d = true) : cutOk s s d := ⟨h, Nat.le_refl _, fun i c hi hc => .inl hc⟩
theorem belows_of {n : Nat} : ∀ {ds : List Dt}, (∀ d ∈ ds, below n d = true) → belows n ds = true
  | [], _ => rfl
  | d :: ds, h => by rw [belows, h d (List.mem_cons_self ..), belows_of fun x hx => h x (List.mem_cons_of_mem _ hx)]; rfl
theorem below_ints (n : Nat) (ns : List Int) : belows n (ns.map .int) = true := belows_of fun d hd => by
  obtain ⟨i, _, rfl⟩ := List.mem_map.mp hd
  rfl
theorem natAbs_10 : (10 : Int).natAbs = 10 := rfl
theorem int_zero_add (i : Int) : 0 + i = i := Int.zero_add i
theorem c_of {α : Type} {m : M α} {d : α} (h : RunE m s (fun _ _ _ => False) fun d' s' => d' = d ∧ s' = s) {E : Ep} {Q : α → Mem → Prop} : RunE m s E Q ↔ Q d s := by
  obtain ⟨_, _, e, rfl, rfl⟩ := h.ok_of
  exact RunE_ok e
theorem gsNil : gsOn [] s := gsOn_nil.mpr trivial
theorem RunE_eq {α : Type} {m : M α} {d : α} (h : RunE m s (fun _ _ _ => False) fun d' s' => d' = d ∧ s' = s) : m s = .ok d s := by
  obtain ⟨_, _, e, rfl, rfl⟩ := h.ok_of
  exact e
theorem r_lcm {α : Type} (l : List α) (h : α → Dt) (c : α → Bool) (f : α → Dt) {gs : List Gd} {g : Tg} {φ : Fra} {ow : List Nat} {cs : Fra → M Bool} {e : Fra → M Dt} {E : Ep} {Q : List Dt → Mem → Prop} (hg : gsOn gs s)
    (H : ∀ a ∈ l, ∃ φ1, asgT g (h a) (wipeD φ ow) = some φ1 ∧ RunE (cs φ1) s (fun _ _ _ => False) (fun b s' => b = c a ∧ s' = s) ∧ (c a = true → RunE (e φ1) s (fun _ _ _ => False) fun d s' => d = f a ∧ s' = s)) :
    RunE (lcS gs g φ ow cs e (l.map h)) s E Q ↔ Q ((l.filter c).map f) s := by
  have : lcS gs g φ ow cs e (l.map h) s = .ok ((l.filter c).map f) s := by
    induction l with
    | nil =>
      have hgd : (guard gs : M Unit) s = .ok () s := by unfold QQ.guard; exact if_pos hg
      rw [List.map_nil, lcS, bind_ok hgd]; rfl
    | cons a l ih =>
      have hgd : (guard gs : M Unit) s = .ok () s := by unfold QQ.guard; exact if_pos hg
      obtain ⟨φ1, h1, h2, h3⟩ := H a (List.mem_cons_self ..)
      have ih := ih fun b hb => H b (List.mem_cons_of_mem _ hb)
      rw [List.map_cons, lcS, bind_ok hgd, h1]
      have h0 : (ofO (some φ1) : M Fra) s = .ok φ1 s := rfl
      rw [bind_ok h0]
      have hc : noEx (cs φ1) s = .ok (c a) s := by unfold noEx; rw [RunE_eq h2]
      rw [bind_ok hc]
      cases hx : c a with
      | false =>
        simp only [Bool.false_eq_true, if_false]
        rw [ih, List.filter_cons_of_neg (by simp [hx])]
      | true =>
        simp only [if_true]
        have he : noEx (e φ1) s = .ok (f a) s := by unfold noEx; rw [RunE_eq (h3 hx)]
        rw [bind_ok he, bind_ok ih, List.filter_cons_of_pos hx]
        rfl
  exact RunE_ok this
/-- without a test -/
theorem r_lcn {α : Type} (l : List α) (h : α → Dt) (f : α → Dt) {gs : List Gd} {g : Tg} {φ : Fra} {ow : List Nat} {G : Gs} {e : Fra → M Dt} {E : Ep} {Q : List Dt → Mem → Prop} (hg : gsOn gs s)
    (H : ∀ a ∈ l, ∃ φ1, asgT g (h a) (wipeD φ ow) = some φ1 ∧ RunE (e φ1) s (fun _ _ _ => False) fun d s' => d = f a ∧ s' = s) :
    RunE (lcS gs g φ ow (tsts G .nil) e (l.map h)) s E Q ↔ Q (l.map f) s := by
  rw [r_lcm l h (fun _ => true) f hg]
  · rw [List.filter_eq_self.mpr fun _ _ => rfl]
  · intro a ha
    obtain ⟨φ1, h1, h2⟩ := H a ha
    exact ⟨φ1, h1, by rw [ts_nil]; exact ⟨rfl, rfl⟩, fun _ => h2⟩
theorem RunS_form {α : Type} (l : List α) (h : α → Dt) {gs : List Gd} {g : Tg} {b : Fra → MS} {φ : Fra} {Es' : Es} {Q : Fl → Fra → Mem → Prop} (I : List α → Fra → Mem → Prop) (h0 : I [] φ s)
    (hon : ∀ pre φ s, I pre φ s → gsOn gs s)
    (hs : ∀ pre a post φ s, l = pre ++ a :: post → I pre φ s → gsOn gs s → RdQ (asgT g (h a) φ) fun φ1 => RunS (b φ1) s Es' (lpQ gs Q fun φ' s' => I (pre ++ [a]) φ' s'))
    (hf : ∀ φ s, I l φ s → gsOn gs s → Q .nx φ s) : RunS (forS gs g b (l.map h) φ) s Es' Q := by
  refine RunS_for (l.map h) (fun i φ s => I (l.take i) φ s) (by simpa using h0) (fun i φ s _ q => hon _ φ s q) (fun i x φ s hx q ho => ?_) (fun φ s q => hf φ s (by simpa using q))
  rw [List.getElem?_map] at hx
  obtain ⟨a, ha, rfl⟩ := Option.map_eq_some_iff.mp hx
  have hi : i < l.length := by
    rcases Nat.lt_or_ge i l.length with z | z
    · exact z
    · rw [List.getElem?_eq_none z] at ha; cases ha
  have ea : l[i] = a := by rw [List.getElem?_eq_getElem hi] at ha; exact Option.some.inj ha
  have e1 : l = l.take i ++ a :: l.drop (i + 1) := by rw [← ea, ← List.drop_eq_getElem_cons hi, List.take_append_drop]
  have e2 : l.take (i + 1) = l.take i ++ [a] := by rw [List.take_succ, ha]; rfl
  rw [e2]
  exact hs _ a _ φ s e1 q ho
theorem frzD_loc (l : Nat) : frzD (.loc l) s = match s[l]? with
    | some (.live (.lst xs)) => some (.lst xs, s.set l .dead)
    | some (.live (.dct xs)) => some (.dct xs, s.set l .dead)
    | some (.live (.obj c fs)) => some (.obj c fs, s.set l .dead)
    | _ => none := rfl
theorem endQ_app {t : Mem} {d : Dt} {Q : Dt → Mem → Prop} : endQ true s d (s ++ t) Q ↔ (below s.length d = true ∧ Q d s) := by
  rw [endQ_t, tat]
  exact ⟨fun ⟨h, q⟩ => ⟨h.1, q⟩, fun ⟨h, q⟩ => ⟨cutOk_app h, q⟩⟩
theorem endQ_id {d : Dt} {Q : Dt → Mem → Prop} : endQ true s d s Q ↔ (below s.length d = true ∧ Q d s) := by
  rw [endQ_t, List.take_length]
  exact ⟨fun ⟨h, q⟩ => ⟨h.1, q⟩, fun ⟨h, q⟩ => ⟨cutOk_id h, q⟩⟩
theorem belows_map {α : Type} {n : Nat} {f : α → Dt} {l : List α} (h : ∀ a, below n (f a) = true) : belows n (l.map f) = true := belows_of fun d hd => by
  obtain ⟨i, _, rfl⟩ := List.mem_map.mp hd
  exact h i
theorem below_tup (n : Nat) (xs : List Dt) : below n (.tup xs) = belows n xs := by rw [below]
theorem below_lst (n : Nat) (xs : List Dt) : below n (.lst xs) = belows n xs := by rw [below]
theorem below_fls (n : Nat) (xs : List Dt) : below n (.fls xs) = belows n xs := by rw [below]
theorem below_dct (n : Nat) (xs : List (Key × Dt)) : below n (.dct xs) = belowk n xs := by rw [below]
theorem below_int (n : Nat) (i : Int) : below n (.int i) = true := by rw [below]
theorem below_str (n : Nat) (i : Str) : below n (.str i) = true := by rw [below]
theorem below_bl (n : Nat) (i : Bool) : below n (.bl i) = true := by rw [below]
theorem below_non (n : Nat) : below n .non = true := by rw [below]
theorem belows_nil (n : Nat) : belows n [] = true := by rw [belows]
theorem belows_cons (n : Nat) (d : Dt) (r : List Dt) : belows n (d :: r) = (below n d && belows n r) := by rw [belows]
theorem sIx_some {n d : Nat} {i : Int} (h : 0 ≤ i) : HT.sIx n d (some i) = min i.toNat n := by
  show (if i < 0 then (i + (n : Int)).toNat else min i.toNat n) = _
  rw [if_neg (by omega)]
theorem sIx_no (n d : Nat) : HT.sIx n d none = d := rfl
theorem cut_hi (xs : List Dt) {i : Int} (h : 0 ≤ i) : cutD xs none (some i) = xs.take i.toNat := by
  unfold cutD
  rw [sIx_some h, sIx_no, List.drop_zero, Nat.sub_zero]
  rcases Nat.le_total i.toNat xs.length with q | q
  · rw [Nat.min_eq_left q]
  · rw [Nat.min_eq_right q, List.take_of_length_le q, List.take_length]
theorem cut_lo (xs : List Dt) {i : Int} (h : 0 ≤ i) : cutD xs (some i) none = xs.drop i.toNat := by
  unfold cutD
  rw [sIx_some h, sIx_no]
  rcases Nat.le_total i.toNat xs.length with q | q
  · rw [Nat.min_eq_left q, List.take_of_length_le (by rw [List.length_drop]; omega)]
  · rw [Nat.min_eq_right q, List.drop_length, List.drop_of_length_le q, List.take_nil]
theorem opt_nil : optI [] = some none := rfl
theorem opt_one (i : Int) : optI [.int i] = some (some i) := rfl
theorem sl_lst (own : Bool) (xs : List Dt) (lo hi : Option Int) : slD own (.lst xs) lo hi s = mkL own (cutD xs lo hi) s := rfl
theorem sl_fls (own : Bool) (xs : List Dt) (lo hi : Option Int) : slD own (.fls xs) lo hi s = mkL own (cutD xs lo hi) s := rfl
theorem sl_loc (own : Bool) (l : Nat) (lo hi : Option Int) : slD own (.loc l) lo hi s = (items s (.loc l)).bind fun xs => mkL own (cutD xs lo hi) s := rfl
def natD (p : Nat) : Dt := .int p
theorem below_nat (n p : Nat) : below n (natD p) = true := by unfold natD; rw [below]
theorem natD_eq (p : Nat) : natD p = .int (p : Int) := rfl
theorem keyD_int (i : Int) : keyD (.int i) = some (.inl i) := rfl
theorem keyD_str (i : Str) : keyD (.str i) = some (.inr i) := rfl
theorem cmp_in (x y : Dt) : cmpD .In x y s = inD x y s := rfl
theorem cmp_nin (x y : Dt) : cmpD .NotIn x y s = (inD x y s).map (!·) := rfl
theorem inD_p {x y : Dt} {kvs : List (Key × Dt)} (h : pairsOf s y = some kvs) : inD x y s = (keyD x).map fun k => (kGet kvs k).isSome := by
  unfold inD; rw [h]
theorem setD_loc (l : Nat) (i v : Dt) : setD (.loc l) i v s = match s[l]? with
    | some (.live (.lst xs)) => (match i with
      | .int j => (ixN xs.length j).map fun n => ((), s.set l (.live (.lst (xs.set n v))))
      | _ => none)
    | some (.live (.dct kvs)) => (keyD i).bind fun k => if kvs.length < sizeLine then some ((), s.set l (.live (.dct (kPut kvs k v)))) else none
    | _ => none := rfl
theorem get_app {α : Type} {s : List α} {l : Nat} {c : α} (h : s[l]? = some c) (t : List α) : (s ++ t)[l]? = some c := by
  have hl : l < s.length := by
    rcases Nat.lt_or_ge l s.length with q | q
    · exact q
    · rw [List.getElem?_eq_none q] at h; cases h
  rw [List.getElem?_append_left hl]; exact h
theorem set_app {α : Type} {s : List α} {l : Nat} {c : α} (h : s[l]? = some c) (t : List α) (d : α) : (s ++ t).set l d = s.set l d ++ t := by
  have hl : l < s.length := by
    rcases Nat.lt_or_ge l s.length with q | q
    · exact q
    · rw [List.getElem?_eq_none q] at h; cases h
  rw [List.set_append_left _ _ hl]
theorem mPopL_loc (l : Nat) (i : Int) : mPopL (.loc l) (.int i) s = match s[l]? with
    | some (.live (.lst xs)) => if 0 ≤ i ∧ i < 2 ^ 63 then (xs[i.toNat]?).map fun y => (y, s.set l (.live (.lst (xs.eraseIdx i.toNat)))) else none
    | _ => none := by
  show (match s[l]? with
    | some (.live (.lst xs)) => _
    | _ => none) = _
  rfl
theorem mPopD_loc (l : Nat) (i : Dt) : mPopD (.loc l) i s = match s[l]? with
    | some (.live (.dct kvs)) => (keyD i).bind fun k => (kGet kvs k).map fun y => (y, s.set l (.live (.dct (kDrop kvs k))))
    | _ => none := rfl
theorem mUpdate_loc (l : Nat) (v : Dt) : mUpdate (.loc l) v s = match s[l]? with
    | some (.live (.dct kvs)) => if isLoc l v = true then none
        else (pairsOf s v).bind fun more => if kvs.length + more.length ≤ sizeLine then some (.non, s.set l (.live (.dct (kMerge kvs more)))) else none
    | _ => none := rfl
theorem isLoc_dct (l : Nat) (kvs : List (Key × Dt)) : isLoc l (.dct kvs) = false := rfl
theorem pyM_nats (w : List Nat) : pys (w.map natD) = some ((w.map fun (p : Nat) => (p : Int)).map PyData.int) := by
  rw [List.map_map]; exact pys_map _ _ w fun x _ => rfl
theorem ne_nats_nil {l : Nat} {w : List Nat} (h : s[l]? = some (.live (.lst (w.map natD)))) : cmpD .NotEq (.loc l) (.lst []) s = some (!decide (w = [])) := by
  have := ne_ints (s := s) (x := .loc l) (y := .lst []) (ns := w.map fun (p : Nat) => (p : Int)) (ms := []) rfl (by rw [pyM_loc h, pyM_nats]; rfl) (by rw [pyM_lst]; rfl)
  rw [this]
  cases w <;> rfl
theorem ixL_loc (l : Nat) (i : Dt) : ixL (.loc l) i s = ixD (.loc l) i s := rfl
theorem ixD_loc (l : Nat) (i : Int) : ixD (.loc l) (.int i) s = match pairsOf s (.loc l) with
    | some kvs => kGet kvs (.inl i)
    | none => (items s (.loc l)).bind fun xs => atI xs i := by
  unfold ixD
  cases pairsOf s (.loc l) <;> rfl
theorem belowk_all {n : Nat} : ∀ {ds : List (Key × Dt)}, (∀ d ∈ ds, below n d.2 = true) → belowk n ds = true
  | [], _ => by rw [belowk]
  | (k, d) :: ds, h => by rw [belowk, h _ (List.mem_cons_self ..), belowk_all fun x hx => h x (List.mem_cons_of_mem _ hx)]; rfl
theorem negD_int (i : Int) : negD (.int i) = some (.int (-i)) := rfl
theorem atI_last {α : Type} (xs : List α) (x : α) : atI (xs ++ [x]) (-1) = some x := by
  unfold atI ixN
  rw [if_neg (by omega), if_pos (by simp; omega)]
  have : ((-1 : Int) + ((xs ++ [x]).length : Nat)).toNat = xs.length := by rw [List.length_append, List.length_singleton]; omega
  rw [this]
  simp
theorem add_loc_loc {own : Bool} (a b : Nat) : binD .Add own (.loc a) (.loc b) s = (items s (.loc a)).bind fun xs => (items s (.loc b)).bind fun ys => mkL own (xs ++ ys) s := rfl
theorem add_lst_lst {own : Bool} (a b : List Dt) : binD .Add own (.lst a) (.lst b) s = mkL own (a ++ b) s := rfl
theorem add_loc_lst {own : Bool} (a : Nat) (b : List Dt) : binD .Add own (.loc a) (.lst b) s = (items s (.loc a)).bind fun xs => mkL own (xs ++ b) s := rfl
theorem add_lst_loc {own : Bool} (a : List Dt) (b : Nat) : binD .Add own (.lst a) (.loc b) s = (items s (.loc b)).bind fun ys => mkL own (a ++ ys) s := rfl
theorem rng3 {i j c : Int} (h : ((-4611686018427387904 ≤ i ∧ i < 4611686018427387904) ∧ -4611686018427387904 ≤ j ∧ j < 4611686018427387904) ∧ 0 < c ∧ c < 1073741824) : rangeD [.int i, .int j, .int c] = some ((List.range (if i < j then (j - i - 1) / c + 1 else 0).toNat).map fun (k : Nat) => .int (i + (k : Int) * c)) := by
  show (if _ then _ else _) = _
  rw [if_pos (by omega)]
end
end QQ

/-! the ASTs of transport.py -/
namespace QQ
open PySem L2
def F_Transport___init__ : Fn := ⟨["self", "supplies", "wants", "may"], ["self", "supplies", "wants", "may", "supply"],
  (.cons (.sfd (.var 0) "may" (.var 3))
  (.cons (.sfd (.var 0) "there" (.blt true "list" (.cons (.var 1) .nil)))
  (.cons (.sfd (.var 0) "lack" (.blt true "list" (.cons (.var 2) .nil)))
  (.cons (.sfd (.var 0) "given" (.lc false [("supply", 4)] (.nm 4) (.seq (.var 1)) .nil (.dis true)))
  (.cons (.sfd (.var 0) "spent" (.dis true))
  .nil))))), 0, false⟩
def F_Transport_reached : Fn := ⟨["self", "wants", "spent"], ["self", "wants", "spent", "ahead", "goal", "waiting", "seen", "supply", "other"],
  (.cons (.asg (.nm 3) (.blt true "dict" (.cons (.lc false [("goal", 4)] (.nm 4) (.seq (.var 1)) .nil (.tup (.cons (.var 4) (.cons (.cst .non) .nil)))) .nil)))
  (.cons (.asg (.nm 5) (.blt true "list" (.cons (.var 1) .nil)))
  (.cons (.asg (.nm 6) (.dis true))
  (.cons (.whl (.cmp .NotEq (.var 5) (.lst false .nil))
  (.cons (.asg (.nm 4) (.mtd false (.var 5) "pop" (.cons (.cst (.int 0)) .nil)))
  (.cons (.frs (.nm 7) (.seq (.ix (.fld (.var 0) "may") (.var 4)))
  (.cons (.ite (.bop false (.cons (.cmp .In (.var 7) (.var 6)) (.cons (.cmp .In (.var 7) (.var 2)) .nil)))
  (.cons .ctn
  .nil)
  .nil)
  (.cons (.six (.var 6) (.var 7) (.cst (.bl true)))
  (.cons (.ite (.cmp .Gt (.ix (.fld (.var 0) "there") (.var 7)) (.cst (.int 0)))
  (.cons (.ret (.tup (.cons (.frz (.var 3)) (.cons (.tup (.cons (.var 7) (.cons (.var 4) .nil))) (.cons (.frz (.var 6)) .nil)))))
  .nil)
  .nil)
  (.cons (.frs (.nm 8) (.seq (.ix (.fld (.var 0) "given") (.var 7)))
  (.cons (.ite (.cmp .NotIn (.var 8) (.var 3))
  (.cons (.six (.var 3) (.var 8) (.tup (.cons (.var 7) (.cons (.var 4) .nil))))
  (.cons (.expr (.mtd false (.var 5) "append" (.cons (.var 8) .nil)))
  .nil))
  .nil)
  .nil))
  .nil)))))
  .nil)))
  (.cons (.ret (.tup (.cons (.frz (.var 3)) (.cons (.cst .non) (.cons (.frz (.var 6)) .nil)))))
  .nil))))), 0, true⟩
def F_Transport_change : Fn := ⟨["self", "supply", "goal", "many"], ["self", "supply", "goal", "many", "row"],
  (.cons (.asg (.nm 4) (.ix (.fld (.var 0) "given") (.var 1)))
  (.cons (.six (.var 4) (.var 2) (.bin .Add false (.mtd false (.var 4) "get" (.cons (.var 2) (.cons (.cst (.int 0)) .nil))) (.var 3)))
  (.cons (.ite (.cmp .Eq (.ix (.var 4) (.var 2)) (.cst (.int 0)))
  (.cons (.expr (.mtd false (.var 4) "pop" (.cons (.var 2) .nil)))
  .nil)
  .nil)
  .nil))), 0, false⟩
def F_Transport_shift : Fn := ⟨["self", "way", "most"], ["self", "way", "most", "many", "place", "pair"],
  (.cons (.asg (.nm 3) (.blt false "min" (.cons (.var 2) (.cons (.ix (.fld (.var 0) "there") (.ix (.ix (.var 1) (.cst (.int 0))) (.cst (.int 0)))) .nil))))
  (.cons (.frs (.tp [4, 5]) (.enu (.slc false (.var 1) (.cons (.cst (.int 1)) .nil) .nil))
  (.cons (.asg (.nm 3) (.blt false "min" (.cons (.var 3) (.cons (.ix (.ix (.fld (.var 0) "given") (.ix (.var 5) (.cst (.int 0)))) (.ix (.ix (.var 1) (.var 4)) (.cst (.int 1)))) .nil))))
  .nil))
  (.cons (.aix .Sub (.fld (.var 0) "there") (.ix (.ix (.var 1) (.cst (.int 0))) (.cst (.int 0))) (.var 3))
  (.cons (.frs (.tp [4, 5]) (.enu (.var 1))
  (.cons (.ite (.cmp .Gt (.var 4) (.cst (.int 0)))
  (.cons (.expr (.meth (.var 0) "change" (.cons (.ix (.var 5) (.cst (.int 0))) (.cons (.ix (.ix (.var 1) (.bin .Sub false (.var 4) (.cst (.int 1)))) (.cst (.int 1))) (.cons (.bin .Sub false (.cst (.int 0)) (.var 3)) .nil))) 0))
  .nil)
  .nil)
  (.cons (.expr (.meth (.var 0) "change" (.cons (.ix (.var 5) (.cst (.int 0))) (.cons (.ix (.var 5) (.cst (.int 1))) (.cons (.var 3) .nil))) 0))
  .nil)))
  (.cons (.ret (.var 3))
  .nil))))), 0, false⟩
def F_Transport_fill : Fn := ⟨["self", "goal"], ["self", "goal", "ahead", "last", "seen", "way"],
  (.cons (.whl (.cmp .Gt (.ix (.fld (.var 0) "lack") (.var 1)) (.cst (.int 0)))
  (.cons (.asg (.tp [2, 3, 4]) (.meth (.var 0) "reached" (.cons (.lst false (.cons (.var 1) .nil)) (.cons (.fld (.var 0) "spent") .nil)) 0))
  (.cons (.ite (.cmp .Is (.var 3) (.cst .non))
  (.cons (.expr (.mtd false (.fld (.var 0) "spent") "update" (.cons (.var 4) .nil)))
  (.cons .brk
  .nil))
  .nil)
  (.cons (.asg (.nm 5) (.lst true (.cons (.var 3) .nil)))
  (.cons (.whl (.cmp .IsNot (.ix (.var 2) (.ix (.ix (.var 5) (.neg (.cst (.int 1)))) (.cst (.int 1)))) (.cst .non))
  (.cons (.expr (.mtd false (.var 5) "append" (.cons (.ix (.var 2) (.ix (.ix (.var 5) (.neg (.cst (.int 1)))) (.cst (.int 1)))) .nil)))
  .nil))
  (.cons (.aix .Sub (.fld (.var 0) "lack") (.var 1) (.meth (.var 0) "shift" (.cons (.var 5) (.cons (.ix (.fld (.var 0) "lack") (.var 1)) .nil)) 0))
  .nil))))))
  .nil), 0, true⟩
def F_served : Fn := ⟨["supplies", "wants", "may"], ["supplies", "wants", "may", "found", "goal", "ahead", "last", "seen", "serving", "supply", "row", "many"],
  (.cons (.asg (.nm 3) (.make "Transport" (.cons (.var 0) (.cons (.var 1) (.cons (.var 2) .nil)))))
  (.cons (.frs (.nm 4) (.rng (.cons (.blt false "len" (.cons (.var 1) .nil)) .nil))
  (.cons (.expr (.meth (.var 3) "fill" (.cons (.var 4) .nil) 0))
  .nil))
  (.cons (.asg (.tp [5, 6, 7]) (.meth (.var 3) "reached" (.cons (.lc false [("goal", 4)] (.nm 4) (.rng (.cons (.blt false "len" (.cons (.var 1) .nil)) .nil)) (.cons (.cmp .Gt (.ix (.fld (.var 3) "lack") (.var 4)) (.cst (.int 0))) .nil) (.var 4)) (.cons (.dis false) .nil)) 0))
  (.cons (.asg (.nm 8) (.lst true .nil))
  (.cons (.frs (.tp [9, 10]) (.enu (.fld (.var 3) "given"))
  (.cons (.expr (.mtd false (.var 8) "extend" (.cons (.lc false [("goal", 4), ("many", 11)] (.tp [4, 11]) (.itm (.var 10)) .nil (.tup (.cons (.var 9) (.cons (.var 4) (.cons (.var 11) .nil))))) .nil)))
  .nil))
  (.cons (.ret (.tup (.cons (.blt true "sorted" (.cons (.var 8) .nil)) (.cons (.blt true "sorted" (.cons (.blt false "list" (.cons (.var 5) .nil)) .nil)) .nil))))
  .nil)))))), 0, false⟩
def F_servedV : Fn := ⟨["supplies", "wants", "may"], ["supplies", "wants", "may", "found", "goal", "ahead", "last", "seen", "serving", "supply", "row", "many"],
  (.cons (.asg (.nm 3) (.make "Transport" (.cons (.var 0) (.cons (.var 1) (.cons (.var 2) .nil)))))
  (.cons (.frs (.nm 4) (.rng (.cons (.blt false "len" (.cons (.var 1) .nil)) .nil))
  (.cons (.expr (.meth (.var 3) "fill" (.cons (.var 4) .nil) 0))
  .nil))
  (.cons (.asg (.tp [5, 6, 7]) (.meth (.var 3) "reached" (.cons (.lc false [("goal", 4)] (.nm 4) (.rng (.cons (.blt false "len" (.cons (.var 1) .nil)) .nil)) (.cons (.cmp .Gt (.ix (.fld (.var 3) "lack") (.var 4)) (.cst (.int 0))) .nil) (.var 4)) (.cons (.dis false) .nil)) 0))
  (.cons (.asg (.nm 8) (.lst true .nil))
  (.cons (.frs (.tp [9, 10]) (.enu (.fld (.var 3) "given"))
  (.cons (.expr (.mtd false (.var 8) "extend" (.cons (.lc false [("goal", 4), ("many", 11)] (.tp [4, 11]) (.itm (.var 10)) .nil (.tup (.cons (.var 9) (.cons (.var 4) (.cons (.var 11) .nil))))) .nil)))
  .nil))
  (.cons (.ret (.tup (.cons (.blt false "sorted" (.cons (.var 8) .nil)) (.cons (.blt false "sorted" (.cons (.blt false "list" (.cons (.var 5) .nil)) .nil)) .nil))))
  .nil)))))), 0, true⟩
end QQ

/-! transports: what transport.py computes, in plain Lean -/
namespace QQ
open PySem L2
/-! sums -/
def sm : Nat → (Nat → Int) → Int
  | 0, _ => 0
  | n + 1, f => sm n f + f n
theorem sm_congr {n : Nat} {f g : Nat → Int} (h : ∀ i, i < n → f i = g i) : sm n f = sm n g := by
  induction n with
  | zero => rfl
  | succ n ih => rw [sm, sm, ih fun i hi => h i (by omega), h n (by omega)]
theorem sm_add (n : Nat) (f g : Nat → Int) : sm n (fun i => f i + g i) = sm n f + sm n g := by
  induction n with
  | zero => rfl
  | succ n ih => simp only [sm]; rw [ih]; omega
theorem sm_zero (n : Nat) : sm n (fun _ => 0) = 0 := by
  induction n with
  | zero => rfl
  | succ n ih => simp only [sm]; rw [ih]; rfl
theorem sm_one {n k : Nat} (h : k < n) (c : Int) : sm n (fun i => if i = k then c else 0) = c := by
  induction n with
  | zero => omega
  | succ n ih =>
    simp only [sm]
    by_cases e : k = n
    · subst e
      rw [sm_congr (g := fun _ => 0) fun i hi => if_neg (by omega), sm_zero, if_pos rfl]; omega
    · rw [ih (by omega), if_neg (by omega)]; omega
theorem sm_swap (n m : Nat) (f : Nat → Nat → Int) : sm n (fun i => sm m (fun j => f i j)) = sm m (fun j => sm n (fun i => f i j)) := by
  induction n with
  | zero => simp only [sm]; rw [sm_zero]
  | succ n ih => simp only [sm]; rw [ih, sm_add]
theorem sm_le {n : Nat} {f g : Nat → Int} (h : ∀ i, i < n → f i ≤ g i) : sm n f ≤ sm n g := by
  induction n with
  | zero => exact Int.le_refl _
  | succ n ih =>
    simp only [sm]
    have := ih fun i hi => h i (by omega)
    have := h n (by omega)
    omega
theorem sm_nn {n : Nat} {f : Nat → Int} (h : ∀ i, i < n → 0 ≤ f i) : 0 ≤ sm n f := by
  have := sm_le (f := fun _ => 0) (g := f) (n := n) h
  rw [sm_zero] at this
  exact this
theorem sm_ge {n k : Nat} {f : Nat → Int} (h : ∀ i, i < n → 0 ≤ f i) (hk : k < n) : f k ≤ sm n f := by
  have : sm n (fun i => if i = k then f k else 0) ≤ sm n f := sm_le fun i hi => by
    by_cases e : i = k
    · subst e; rw [if_pos rfl]; exact Int.le_refl _
    · rw [if_neg e]; exact h i hi
  rw [sm_one hk] at this
  exact this
/-! pairs -/
section
variable {κ α : Type} [DecidableEq κ]
theorem kGet_nil (k : κ) : kGet ([] : List (κ × α)) k = none := rfl
theorem kGet_cons (k' : κ) (v : α) (l : List (κ × α)) (k : κ) : kGet ((k', v) :: l) k = if k' = k then some v else kGet l k := by
  unfold kGet
  rw [List.find?_cons]
  by_cases h : k' = k
  · rw [if_pos h]; simp [h]
  · rw [if_neg h]; simp [h]
theorem kGet_mem {l : List (κ × α)} {k : κ} {v : α} (h : kGet l k = some v) : (k, v) ∈ l := by
  induction l with
  | nil => cases h
  | cons a l ih =>
    obtain ⟨k', v'⟩ := a
    rw [kGet_cons] at h
    split at h
    · rename_i e; subst e; cases h; exact List.mem_cons_self ..
    · exact List.mem_cons_of_mem _ (ih h)
theorem kGet_none {l : List (κ × α)} {k : κ} : kGet l k = none ↔ k ∉ l.map (·.1) := by
  induction l with
  | nil => simp [kGet_nil]
  | cons a l ih =>
    obtain ⟨k', v'⟩ := a
    rw [kGet_cons]
    by_cases e : k' = k
    · subst e; simp
    · rw [if_neg e, ih]; simp [Ne.symm e]
theorem kGet_of_mem {l : List (κ × α)} (hn : (l.map (·.1)).Nodup) {k : κ} {v : α} (h : (k, v) ∈ l) : kGet l k = some v := by
  induction l with
  | nil => cases h
  | cons a l ih =>
    obtain ⟨k', v'⟩ := a
    rw [List.map_cons, List.nodup_cons] at hn
    rw [kGet_cons]
    rcases List.mem_cons.mp h with e | e
    · cases e; rw [if_pos rfl]
    · rw [if_neg, ih hn.2 e]
      rintro rfl
      exact hn.1 (List.mem_map.mpr ⟨_, e, rfl⟩)
theorem kGet_append (l m : List (κ × α)) (k : κ) : kGet (l ++ m) k = (kGet l k).or (kGet m k) := by
  induction l with
  | nil => rfl
  | cons a l ih =>
    obtain ⟨k', v'⟩ := a
    rw [List.cons_append, kGet_cons, kGet_cons]
    split
    · rfl
    · exact ih
theorem any_key {l : List (κ × α)} {k : κ} : (l.any fun kv => decide (kv.1 = k)) = true ↔ k ∈ l.map (·.1) := by
  rw [List.any_eq_true, List.mem_map]
  constructor
  · rintro ⟨x, h1, h2⟩; exact ⟨x, h1, of_decide_eq_true h2⟩
  · rintro ⟨x, h1, h2⟩; exact ⟨x, h1, decide_eq_true h2⟩
theorem kPut_new {l : List (κ × α)} {k : κ} (h : k ∉ l.map (·.1)) (v : α) : kPut l k v = l ++ [(k, v)] := by
  unfold kPut; rw [if_neg (by rw [any_key]; exact h)]
theorem kPut_old {l : List (κ × α)} {k : κ} (h : k ∈ l.map (·.1)) (v : α) : kPut l k v = l.map (fun kv => if kv.1 = k then (kv.1, v) else kv) := by
  unfold kPut; rw [if_pos (by rw [any_key]; exact h)]
theorem kGet_put (l : List (κ × α)) (k : κ) (v : α) (k' : κ) : kGet (kPut l k v) k' = if k' = k then some v else kGet l k' := by
  by_cases h : k ∈ l.map (·.1)
  · rw [kPut_old h]
    have hm := h
    clear h
    · induction l with
      | nil => simp at hm
      | cons a l ih =>
        obtain ⟨a, b⟩ := a
        rw [List.map_cons]
        by_cases e : a = k
        · subst e
          rw [if_pos rfl, kGet_cons, kGet_cons]
          by_cases e2 : a = k'
          · subst e2; rw [if_pos rfl, if_pos rfl]
          · rw [if_neg e2, if_neg e2, if_neg (Ne.symm e2)]
            by_cases h2 : a ∈ l.map (·.1)
            · rw [ih h2, if_neg (Ne.symm e2)]
            · congr 1
              refine (List.map_congr_left fun x hx => ?_).trans (List.map_id _)
              rw [if_neg]; rfl
              rintro rfl
              exact h2 (List.mem_map.mpr ⟨x, hx, rfl⟩)
        · have h2 : k ∈ l.map (·.1) := by
            rcases List.mem_cons.mp hm with q | q
            · exact absurd q.symm e
            · exact q
          rw [if_neg e, kGet_cons, kGet_cons, ih h2]
          by_cases e2 : a = k'
          · subst e2; rw [if_pos rfl, if_neg e, if_pos rfl]
          · rw [if_neg e2, if_neg e2]
  · rw [kPut_new h, kGet_append, kGet_cons, kGet_nil]
    by_cases e : k' = k
    · subst e; rw [if_pos rfl, if_pos rfl, kGet_none.mpr h]; rfl
    · rw [if_neg (Ne.symm e), if_neg e]
      cases kGet l k' <;> rfl
theorem kPut_keys (l : List (κ × α)) (k : κ) (v : α) : (kPut l k v).map (·.1) = if k ∈ l.map (·.1) then l.map (·.1) else l.map (·.1) ++ [k] := by
  by_cases h : k ∈ l.map (·.1)
  · rw [kPut_old h, if_pos h, List.map_map]
    refine List.map_congr_left fun x _ => ?_
    show (if x.1 = k then (x.1, v) else x).1 = x.1
    split <;> rfl
  · rw [kPut_new h, if_neg h, List.map_append]; rfl
theorem kPut_nodup {l : List (κ × α)} {k : κ} {v : α} (hn : (l.map (·.1)).Nodup) : ((kPut l k v).map (·.1)).Nodup := by
  rw [kPut_keys]
  split
  · exact hn
  · rename_i h
    rw [List.nodup_append]
    refine ⟨hn, by simp, fun a ha b hb => ?_⟩
    rw [List.mem_singleton] at hb
    subst hb
    rintro rfl
    exact h ha
theorem kGet_drop (l : List (κ × α)) (k k' : κ) : kGet (kDrop l k) k' = if k' = k then none else kGet l k' := by
  induction l with
  | nil => rw [show kDrop ([] : List (κ × α)) k = [] from rfl]; simp [kGet_nil]
  | cons a l ih =>
    obtain ⟨a, b⟩ := a
    unfold kDrop at ih ⊢
    rw [List.filter_cons]
    by_cases e : a = k
    · subst e
      rw [if_neg (by simp), ih, kGet_cons]
      by_cases e2 : k' = a
      · rw [if_pos e2, if_pos e2]
      · rw [if_neg e2, if_neg e2, if_neg (Ne.symm e2)]
    · rw [if_pos (by simp [e]), kGet_cons, kGet_cons, ih]
      by_cases e2 : a = k'
      · subst e2; rw [if_pos rfl, if_neg e, if_pos rfl]
      · rw [if_neg e2, if_neg e2]
theorem kDrop_nodup {l : List (κ × α)} {k : κ} (hn : (l.map (·.1)).Nodup) : ((kDrop l k).map (·.1)).Nodup := by
  unfold kDrop
  exact List.Nodup.sublist (List.Sublist.map _ List.filter_sublist) hn
theorem kDrop_mem {l : List (κ × α)} {k : κ} {x : κ × α} : x ∈ kDrop l k ↔ x ∈ l ∧ x.1 ≠ k := by
  unfold kDrop; rw [List.mem_filter, decide_eq_true_eq]
end
/-! ### a transport -/
abbrev Row := List (Nat × Int)
structure TS where
  there : List Int
  lack : List Int
  given : List Row
  spent : List Nat
def TS.row (T : TS) (s : Nat) : Row := T.given.getD s []
def TS.amt (T : TS) (s g : Nat) : Int := (kGet (T.row s) g).getD 0
def TS.th (T : TS) (s : Nat) : Int := T.there.getD s 0
def TS.lk (T : TS) (g : Nat) : Int := T.lack.getD g 0
def chRow (r : Row) (g : Nat) (m : Int) : Row :=
  let v := (kGet r g).getD 0 + m
  if v = 0 then kDrop (kPut r g v) g else kPut r g v
def chT (T : TS) (s g : Nat) (m : Int) : TS := { T with given := T.given.set s (chRow (T.row s) g m) }
abbrev Ah := List (Nat × Option (Nat × Nat))
def scanRow (s g : Nat) : List Nat → Ah → List Nat → Ah × List Nat
  | [], a, w => (a, w)
  | o :: r, a, w => if o ∈ a.map (·.1) then scanRow s g r a w else scanRow s g r (a ++ [(o, some (s, g))]) (w ++ [o])
def scanSup (T : TS) (spent : List Nat) (g : Nat) : List Nat → Ah → List Nat → List Nat → (Ah × List Nat × List Nat) ⊕ (Ah × (Nat × Nat) × List Nat)
  | [], a, w, sn => .inl (a, w, sn)
  | s :: r, a, w, sn => if s ∈ sn ∨ s ∈ spent then scanSup T spent g r a w sn
    else if 0 < T.th s then .inr (a, (s, g), sn ++ [s])
    else scanSup T spent g r (scanRow s g ((T.row s).map (·.1)) a w).1 (scanRow s g ((T.row s).map (·.1)) a w).2 (sn ++ [s])
def reachF (may : List (List Nat)) (T : TS) (spent : List Nat) : Nat → Ah → List Nat → List Nat → Ah × Option (Nat × Nat) × List Nat
  | 0, a, _, sn => (a, none, sn)
  | _ + 1, a, [], sn => (a, none, sn)
  | n + 1, a, g :: w, sn => match scanSup T spent g (may.getD g []) a w sn with
    | .inl (a, w, sn) => reachF may T spent n a w sn
    | .inr (a, l, sn) => (a, some l, sn)
def reach0 (may : List (List Nat)) (T : TS) (wants spent : List Nat) : Ah × Option (Nat × Nat) × List Nat := reachF may T spent (may.length + 1) (wants.map fun g => (g, none)) wants []
def wayF (a : Ah) : Nat → Nat × Nat → List (Nat × Nat)
  | 0, _ => []
  | n + 1, p => match (kGet a p.2).join with
    | none => []
    | some q => q :: wayF a n q
def amtW (T : TS) : Nat × Nat → List (Nat × Nat) → Int → Int
  | _, [], m => m
  | q, p :: r, m => amtW T p r (min m (T.amt p.1 q.2))
def appW (m : Int) : TS → Nat × Nat → List (Nat × Nat) → TS
  | T, _, [] => T
  | T, q, p :: r => appW m (chT (chT T p.1 q.2 (0 - m)) p.1 p.2 m) p r
def shM (T : TS) (p : Nat × Nat) (r : List (Nat × Nat)) (most : Int) : Int := amtW T p r (min most (T.th p.1))
def shT (T : TS) (p : Nat × Nat) (r : List (Nat × Nat)) (m : Int) : TS := appW m (chT { T with there := T.there.set p.1 (T.th p.1 - m) } p.1 p.2 m) p r
def fillF (may : List (List Nat)) : Nat → TS → Nat → TS
  | 0, T, _ => T
  | n + 1, T, g => if 0 < T.lk g then
      match reach0 may T [g] T.spent with
      | (_, none, sn) => { T with spent := T.spent ++ sn }
      | (a, some p, _) =>
        let r := wayF a a.length p
        let m := shM T p r (T.lk g)
        fillF may n { shT T p r m with lack := (shT T p r m).lack.set g (T.lk g - m) } g
    else T
def ts0 (sup wants : List Int) : TS := ⟨sup, wants, sup.map fun _ => [], []⟩
def fillAll (may : List (List Nat)) : List Nat → TS → TS
  | [], T => T
  | g :: r, T => fillAll may r (fillF may (T.lk g).toNat T g)
end QQ

/-! transports: what holds of it -/
namespace QQ
open PySem L2
abbrev keys {α : Type} (l : List (Nat × α)) : List Nat := l.map (·.1)
theorem nodup_len : ∀ {n : Nat} {l : List Nat}, l.Nodup → (∀ x ∈ l, x < n) → l.length ≤ n
  | 0, l, _, h => by
    cases l with
    | nil => simp
    | cons a l => exact absurd (h a (List.mem_cons_self ..)) (by omega)
  | n + 1, l, hn, h => by
    by_cases hm : n ∈ l
    · have h1 := List.length_erase_of_mem hm
      have h2 : (l.erase n).length ≤ n := nodup_len (hn.erase n) fun x hx => by
        have h3 := (hn.mem_erase_iff).mp hx
        have := h x h3.2
        have := h3.1
        omega
      have : 0 < l.length := List.length_pos_of_mem hm
      omega
    · have := nodup_len (n := n) hn fun x hx => by
        have := h x hx
        have : x ≠ n := by rintro rfl; exact hm hx
        omega
      omega
/-! rows -/
structure RowOk (nw : Nat) (r : Row) : Prop where
  nd : (keys r).Nodup
  el : ∀ x ∈ r, 1 ≤ x.2 ∧ x.1 < nw
theorem RowOk.nil {nw : Nat} : RowOk nw [] := ⟨List.nodup_nil, fun x h => by cases h⟩
def ramt (r : Row) (g : Nat) : Int := (kGet r g).getD 0
theorem ramt_nn {nw : Nat} {r : Row} (h : RowOk nw r) (g : Nat) : 0 ≤ ramt r g := by
  unfold ramt
  cases e : kGet r g with
  | none => exact Int.le_refl _
  | some v => exact Int.le_trans (by decide) (h.el _ (kGet_mem e)).1
theorem ramt_pos {nw : Nat} {r : Row} (h : RowOk nw r) {g : Nat} : 0 < ramt r g ↔ g ∈ keys r := by
  unfold ramt
  cases e : kGet r g with
  | none => exact ⟨fun q => absurd q (by decide), fun q => absurd q (kGet_none.mp e)⟩
  | some v => exact ⟨fun _ => List.mem_map.mpr ⟨_, kGet_mem e, rfl⟩, fun _ => Int.lt_of_lt_of_le (by decide) (h.el _ (kGet_mem e)).1⟩
theorem ramt_zero {nw : Nat} {r : Row} (h : RowOk nw r) {g : Nat} (hg : nw ≤ g) : ramt r g = 0 := by
  unfold ramt
  cases e : kGet r g with
  | none => rfl
  | some v => have := (h.el _ (kGet_mem e)).2; simp at this; omega
theorem chRow_amt (r : Row) (g : Nat) (m : Int) (g' : Nat) : ramt (chRow r g m) g' = ramt r g' + if g' = g then m else 0 := by
  unfold ramt chRow
  simp only []
  split
  · rename_i hv
    rw [kGet_drop]
    by_cases e : g' = g
    · subst e; rw [if_pos rfl, if_pos rfl]; exact hv.symm
    · rw [if_neg e, if_neg e, kGet_put, if_neg e]; omega
  · rw [kGet_put]
    by_cases e : g' = g
    · subst e; rw [if_pos rfl, if_pos rfl]; rfl
    · rw [if_neg e, if_neg e]; omega
theorem chRow_nd {r : Row} {g : Nat} {m : Int} (h : (keys r).Nodup) : (keys (chRow r g m)).Nodup := by
  unfold chRow
  simp only []
  split
  · exact kDrop_nodup (kPut_nodup h)
  · exact kPut_nodup h
theorem mem_of_nd {r : Row} (hn : (keys r).Nodup) {x : Nat × Int} (h : x ∈ r) : kGet r x.1 = some x.2 := kGet_of_mem hn h
theorem chRow_ok {nw : Nat} {r : Row} (h : RowOk nw r) {g : Nat} {m : Int} (hg : g < nw) (hm : 0 ≤ ramt r g + m) : RowOk nw (chRow r g m) := by
  refine ⟨chRow_nd h.nd, fun x hx => ?_⟩
  have e := mem_of_nd (chRow_nd h.nd) hx
  have ea := chRow_amt r g m x.1
  have e2 : ramt (chRow r g m) x.1 = x.2 := by unfold ramt; rw [e]; rfl
  rw [e2] at ea
  by_cases q : x.1 = g
  · rw [if_pos q, q] at ea
    refine ⟨?_, by omega⟩
    have hne : x.2 ≠ 0 := by
      intro z
      have h0 : ramt r g + m = 0 := by omega
      have hk : chRow r g m = kDrop (kPut r g ((kGet r g).getD 0 + m)) g := by
        unfold chRow; simp only []; exact if_pos h0
      rw [hk] at hx
      exact (kDrop_mem.mp hx).2 q
    omega
  · rw [if_neg q] at ea
    have : 0 < ramt r x.1 ∨ x.2 = 0 := by
      have := ramt_nn h x.1
      omega
    rcases this with t | t
    · have := (ramt_pos h).mp t
      obtain ⟨y, hy, hy2⟩ := List.mem_map.mp this
      have h1 := h.el y hy
      rw [hy2] at h1
      exact ⟨by omega, h1.2⟩
    · exfalso
      -- an entry of 0 that stands in the row
      have hr : kGet r x.1 = some x.2 := by
        have : kGet (chRow r g m) x.1 = kGet r x.1 := by
          unfold chRow
          simp only []
          split
          · rw [kGet_drop, if_neg q, kGet_put, if_neg q]
          · rw [kGet_put, if_neg q]
        rw [← this]; exact e
      have := (h.el _ (kGet_mem hr)).1
      simp at this
      omega
/-! the sums -/
structure TG (ns nw : Nat) (may : List (List Nat)) (S W : Nat → Int) (T : TS) : Prop where
  lt : T.there.length = ns
  ll : T.lack.length = nw
  lg : T.given.length = ns
  row : ∀ s, RowOk nw (T.row s)
  may : ∀ s g, g ∈ keys (T.row s) → s ∈ may.getD g []
  tn : ∀ s, 0 ≤ T.th s
  ln : ∀ g, 0 ≤ T.lk g
  sum : ∀ s, s < ns → T.th s + sm nw (T.amt s) = S s
  col : ∀ g, g < nw → T.lk g + sm ns (fun s => T.amt s g) = W g
section
variable {ns nw : Nat} {may : List (List Nat)} {S W S' W' : Nat → Int} {T : TS}
theorem TG.congr (h : TG ns nw may S W T) (hS : ∀ s, s < ns → S s = S' s) (hW : ∀ g, g < nw → W g = W' g) : TG ns nw may S' W' T :=
  ⟨h.lt, h.ll, h.lg, h.row, h.may, h.tn, h.ln, fun s hs => by rw [h.sum s hs, hS s hs], fun g hg => by rw [h.col g hg, hW g hg]⟩
theorem row_ch {s : Nat} (hs : s < T.given.length) (g : Nat) (m : Int) (s' : Nat) : (chT T s g m).row s' = if s' = s then chRow (T.row s) g m else T.row s' := by
  unfold TS.row chT
  simp only []
  rw [List.getD_eq_getElem?_getD, List.getElem?_set]
  by_cases e : s = s'
  · subst e; rw [if_pos rfl, if_pos hs, if_pos rfl]; rfl
  · rw [if_neg e, if_neg (Ne.symm e), ← List.getD_eq_getElem?_getD]
theorem amt_row (T : TS) (s g : Nat) : T.amt s g = ramt (T.row s) g := rfl
theorem amt_ch {s : Nat} (hs : s < T.given.length) (g : Nat) (m : Int) (s' g' : Nat) : (chT T s g m).amt s' g' = T.amt s' g' + if s' = s ∧ g' = g then m else 0 := by
  rw [amt_row, row_ch hs]
  by_cases e : s' = s
  · subst e
    rw [if_pos rfl, chRow_amt, amt_row]
    by_cases e2 : g' = g
    · rw [if_pos e2, if_pos ⟨rfl, e2⟩]
    · rw [if_neg e2, if_neg fun q => e2 q.2]
  · rw [if_neg e, if_neg fun q => e q.1, amt_row]; omega
theorem TG.ch (h : TG ns nw may S W T) {s g : Nat} {m : Int} (hs : s < ns) (hg : g < nw) (hm : 0 ≤ T.amt s g + m) (hy : s ∈ may.getD g []) :
    TG ns nw may (fun s' => S s' + if s' = s then m else 0) (fun g' => W g' + if g' = g then m else 0) (chT T s g m) := by
  have hs' : s < T.given.length := by rw [h.lg]; exact hs
  refine ⟨h.lt, h.ll, ?_, fun s' => ?_, fun s' g' => ?_, h.tn, h.ln, fun s' hs'' => ?_, fun g' hg' => ?_⟩
  · show (T.given.set s _).length = ns; rw [List.length_set]; exact h.lg
  · rw [row_ch hs']
    split
    · exact chRow_ok (h.row s) hg hm
    · exact h.row s'
  · rw [row_ch hs']
    split
    · rename_i e; subst e
      intro hk
      have : 0 < ramt (chRow (T.row s') g m) g' := (ramt_pos (chRow_ok (h.row s') hg hm)).mpr hk
      rw [chRow_amt] at this
      by_cases e : g' = g
      · subst e; exact hy
      · rw [if_neg e] at this
        exact h.may s' g' ((ramt_pos (h.row s')).mp (by omega))
    · exact h.may s' g'
  · have e1 : sm nw ((chT T s g m).amt s') = sm nw (T.amt s') + if s' = s then m else 0 := by
      rw [sm_congr (g := fun g' => T.amt s' g' + if s' = s ∧ g' = g then m else 0) fun i _ => amt_ch hs' g m s' i, sm_add]
      congr 1
      by_cases e : s' = s
      · rw [if_pos e]
        exact (sm_congr fun i _ => by simp [e]).trans (sm_one hg m)
      · rw [if_neg e]
        exact (sm_congr fun i _ => by simp [e]).trans (sm_zero nw)
    have := h.sum s' hs''
    show T.th s' + _ = _
    rw [e1]; omega
  · have e1 : sm ns (fun s' => (chT T s g m).amt s' g') = sm ns (fun s' => T.amt s' g') + if g' = g then m else 0 := by
      rw [sm_congr (g := fun s' => T.amt s' g' + if s' = s ∧ g' = g then m else 0) fun i _ => amt_ch hs' g m i g', sm_add]
      congr 1
      by_cases e : g' = g
      · rw [if_pos e]
        exact (sm_congr fun i _ => by simp [e]).trans (sm_one hs m)
      · rw [if_neg e]
        exact (sm_congr fun i _ => by simp [e]).trans (sm_zero ns)
    have := h.col g' hg'
    show T.lk g' + _ = _
    rw [e1]; omega
theorem TG.take (h : TG ns nw may S W T) {s : Nat} {m : Int} (hs : s < ns) (hm : m ≤ T.th s) :
    TG ns nw may (fun s' => S s' + if s' = s then -m else 0) W { T with there := T.there.set s (T.th s - m) } := by
  have ht : ∀ s', ({ T with there := T.there.set s (T.th s - m) } : TS).th s' = T.th s' + if s' = s then -m else 0 := by
    intro s'
    unfold TS.th
    simp only []
    rw [List.getD_eq_getElem?_getD, List.getElem?_set]
    by_cases e : s = s'
    · subst e; rw [if_pos rfl, if_pos (by rw [h.lt]; exact hs), if_pos rfl, Option.getD_some]; omega
    · rw [if_neg e, if_neg (Ne.symm e), ← List.getD_eq_getElem?_getD]; omega
  refine ⟨?_, h.ll, h.lg, h.row, h.may, fun s' => ?_, h.ln, fun s' hs' => ?_, h.col⟩
  · show (T.there.set s _).length = ns; rw [List.length_set]; exact h.lt
  · rw [ht]
    have := h.tn s'
    by_cases e : s' = s
    · subst e; rw [if_pos rfl]; omega
    · rw [if_neg e]; omega
  · rw [ht]
    have := h.sum s' hs'
    show _ + sm nw (T.amt s') = _
    omega
theorem lk_set (h : T.lack.length = nw) {g : Nat} (hg : g < nw) (v : Int) (g' : Nat) : ({ T with lack := T.lack.set g v } : TS).lk g' = if g' = g then v else T.lk g' := by
  unfold TS.lk
  simp only []
  rw [List.getD_eq_getElem?_getD, List.getElem?_set]
  by_cases e : g = g'
  · subst e; rw [if_pos rfl, if_pos (by rw [h]; exact hg), if_pos rfl]; rfl
  · rw [if_neg e, if_neg (Ne.symm e), ← List.getD_eq_getElem?_getD]
theorem TG.less (h : TG ns nw may S W T) {g : Nat} {v : Int} (hg : g < nw) (hv : 0 ≤ v) :
    TG ns nw may S (fun g' => W g' + if g' = g then v - T.lk g else 0) { T with lack := T.lack.set g v } := by
  have hl := lk_set h.ll hg v
  refine ⟨h.lt, ?_, h.lg, h.row, h.may, h.tn, fun g' => ?_, h.sum, fun g' hg' => ?_⟩
  · show (T.lack.set g v).length = nw; rw [List.length_set]; exact h.ll
  · rw [hl]
    split
    · exact hv
    · exact h.ln g'
  · rw [hl]
    have := h.col g' hg'
    show _ + sm ns (fun s => T.amt s g') = _
    by_cases e : g' = g
    · subst e; rw [if_pos rfl, if_pos rfl]; omega
    · rw [if_neg e, if_neg e]; omega
end
end QQ

/-! transports: what is reached -/
namespace QQ
open PySem L2
/-- T, may, spent, the wants at the start; what is ahead, what is seen -/
structure RI (nw : Nat) (may : List (List Nat)) (T : TS) (spent w0 : List Nat) (a : Ah) (sn : List Nat) : Prop where
  nd : (keys a).Nodup
  lt : ∀ g ∈ keys a, g < nw
  wz : ∀ g ∈ w0, g ∈ keys a
  anc : ∀ (i o : Nat) (v : Option (Nat × Nat)), a[i]? = some (o, v) → (v = none ∧ o ∈ w0) ∨ ∃ (s g j : Nat) (u : Option (Nat × Nat)), v = some (s, g) ∧ o ∈ keys (T.row s) ∧ s ∈ may.getD g [] ∧ s ∉ spent ∧ j < i ∧ a[j]? = some (g, u)
  snd : sn.Nodup
  sp : ∀ s ∈ sn, s ∉ spent ∧ T.th s ≤ 0 ∧ (∀ g ∈ keys (T.row s), g ∈ keys a) ∧ ∃ g ∈ keys a, s ∈ may.getD g []
section
variable {nw : Nat} {may : List (List Nat)} {T : TS} {spent w0 : List Nat}
theorem keys_append {α : Type} (a b : List (Nat × α)) : keys (a ++ b) = keys a ++ keys b := List.map_append
/-- one supply's row is looked through -/
theorem scanRow_ok {s g : Nat} (hrow : ∀ o ∈ keys (T.row s), o < nw) (hm : s ∈ may.getD g []) (hsp : s ∉ spent) : ∀ (os : List Nat) (a : Ah) (w sn : List Nat), (∀ o ∈ os, o ∈ keys (T.row s)) → g ∈ keys a → RI nw may T spent w0 a sn →
    ∃ new : List Nat, (scanRow s g os a w).1 = a ++ new.map (fun o => (o, some (s, g))) ∧ (scanRow s g os a w).2 = w ++ new ∧ RI nw may T spent w0 (scanRow s g os a w).1 sn ∧ ∀ o ∈ os, o ∈ keys (scanRow s g os a w).1
  | [], a, w, sn, _, _, R => ⟨[], by simp [scanRow], by simp [scanRow], R, fun o h => by cases h⟩
  | o :: os, a, w, sn, ho, hg, R => by
    unfold scanRow
    by_cases hk : o ∈ a.map (·.1)
    · rw [if_pos hk]
      obtain ⟨new, h1, h2, h3, h4⟩ := scanRow_ok hrow hm hsp os a w sn (fun x hx => ho x (List.mem_cons_of_mem _ hx)) hg R
      refine ⟨new, h1, h2, h3, fun x hx => ?_⟩
      rcases List.mem_cons.mp hx with rfl | hx
      · rw [h1, keys_append]; exact List.mem_append_left _ hk
      · exact h4 x hx
    · rw [if_neg hk]
      have hor := ho o (List.mem_cons_self ..)
      have R1 : RI nw may T spent w0 (a ++ [(o, some (s, g))]) sn := by
        have hkk : keys (a ++ [(o, some (s, g))]) = keys a ++ [o] := by rw [keys_append]; rfl
        refine ⟨?_, fun x hx => ?_, fun x hx => ?_, fun i x v e => ?_, R.snd, fun x hx => ?_⟩
        · rw [hkk, List.nodup_append]
          refine ⟨R.nd, by simp, fun x hx y hy => ?_⟩
          rw [List.mem_singleton] at hy
          subst hy
          rintro rfl
          exact hk hx
        · rw [hkk] at hx
          rcases List.mem_append.mp hx with hx | hx
          · exact R.lt x hx
          · rw [List.mem_singleton] at hx; subst hx; exact hrow _ hor
        · rw [hkk]; exact List.mem_append_left _ (R.wz x hx)
        · rcases Nat.lt_or_ge i a.length with hi | hi
          · rw [List.getElem?_append_left hi] at e
            rcases R.anc i x v e with h | ⟨s', g', j, u, h1, h2, h3, h4, h5, h6⟩
            · exact .inl h
            · exact .inr ⟨s', g', j, u, h1, h2, h3, h4, h5, by rw [List.getElem?_append_left (by omega)]; exact h6⟩
          · rw [List.getElem?_append_right hi] at e
            have hz : i - a.length = 0 := by
              rcases Nat.eq_zero_or_pos (i - a.length) with z | z
              · exact z
              · rw [List.getElem?_eq_none (by simp; omega)] at e; cases e
            rw [hz] at e
            cases e
            obtain ⟨y, hy, hy2⟩ := List.mem_map.mp hg
            obtain ⟨j, hj, hj2⟩ := List.getElem_of_mem hy
            refine .inr ⟨s, g, j, y.2, rfl, hor, hm, hsp, by omega, ?_⟩
            rw [List.getElem?_append_left hj, List.getElem?_eq_getElem hj, hj2, ← hy2]
        · obtain ⟨h1, h2, h3, g', h4, h5⟩ := R.sp x hx
          rw [hkk]
          exact ⟨h1, h2, fun y hy => List.mem_append_left _ (h3 y hy), g', List.mem_append_left _ h4, h5⟩
      obtain ⟨new, h1, h2, h3, h4⟩ := scanRow_ok hrow hm hsp os (a ++ [(o, some (s, g))]) (w ++ [o]) sn (fun x hx => ho x (List.mem_cons_of_mem _ hx)) (by rw [keys_append]; exact List.mem_append_left _ hg) R1
      refine ⟨o :: new, by rw [h1]; simp, by rw [h2]; simp, h3, fun x hx => ?_⟩
      rcases List.mem_cons.mp hx with rfl | hx
      · rw [h1, keys_append, keys_append]; exact List.mem_append_left _ (List.mem_append_right _ (by simp [keys]))
      · exact h4 x hx
/-- what one want's supplies come to -/
def SupOk (nw : Nat) (may : List (List Nat)) (T : TS) (spent w0 : List Nat) (g : Nat) (r : List Nat) (a : Ah) (w sn : List Nat) : (Ah × List Nat × List Nat) ⊕ (Ah × (Nat × Nat) × List Nat) → Prop
  | .inl (a', w', sn') => RI nw may T spent w0 a' sn' ∧ (∃ new : List (Nat × Option (Nat × Nat)), a' = a ++ new ∧ w' = w ++ keys new) ∧ (∀ s ∈ sn, s ∈ sn') ∧ ∀ s ∈ r, s ∈ sn' ∨ s ∈ spent
  | .inr (a', p, sn') => ∃ sn'', RI nw may T spent w0 a' sn'' ∧ sn' = sn'' ++ [p.1] ∧ p.1 ∉ sn'' ∧ p.2 = g ∧ g ∈ keys a' ∧ p.1 ∈ may.getD g [] ∧ 0 < T.th p.1 ∧ p.1 ∉ spent ∧ ∃ new : List (Nat × Option (Nat × Nat)), a' = a ++ new
theorem scanSup_ok {g : Nat} (hrow : ∀ s, ∀ o ∈ keys (T.row s), o < nw) : ∀ (r : List Nat) (a : Ah) (w sn : List Nat), (∀ s ∈ r, s ∈ may.getD g []) → g ∈ keys a → RI nw may T spent w0 a sn →
    SupOk nw may T spent w0 g r a w sn (scanSup T spent g r a w sn)
  | [], a, w, sn, _, _, R => by
    unfold scanSup
    exact ⟨R, ⟨[], by simp, by simp⟩, fun _ h => h, fun s h => by cases h⟩
  | s :: r, a, w, sn, hr, hg, R => by
    unfold scanSup
    have hsm := hr s (List.mem_cons_self ..)
    by_cases hk : s ∈ sn ∨ s ∈ spent
    · rw [if_pos hk]
      have h := scanSup_ok hrow r a w sn (fun x hx => hr x (List.mem_cons_of_mem _ hx)) hg R
      revert h
      generalize scanSup T spent g r a w sn = z
      rcases z with ⟨a', w', sn'⟩ | ⟨a', p, sn'⟩
      · rintro ⟨h1, h2, h3, h4⟩
        refine ⟨h1, h2, h3, fun x hx => ?_⟩
        rcases List.mem_cons.mp hx with rfl | hx
        · rcases hk with hk | hk
          · exact .inl (h3 _ hk)
          · exact .inr hk
        · exact h4 x hx
      · exact fun h => h
    · rw [if_neg hk]
      have hk1 : s ∉ sn := fun q => hk (.inl q)
      have hk2 : s ∉ spent := fun q => hk (.inr q)
      by_cases ht : 0 < T.th s
      · rw [if_pos ht]
        exact ⟨sn, R, rfl, hk1, rfl, hg, hsm, ht, hk2, [], by simp⟩
      · rw [if_neg ht]
        obtain ⟨new, h1, h2, h3, h4⟩ := scanRow_ok (spent := spent) (w0 := w0) (g := g) (hrow s) hsm hk2 (keys (T.row s)) a w sn (fun _ h => h) hg R
        have hg1 : g ∈ keys (scanRow s g (keys (T.row s)) a w).1 := by rw [h1, keys_append]; exact List.mem_append_left _ hg
        have R2 : RI nw may T spent w0 (scanRow s g (keys (T.row s)) a w).1 (sn ++ [s]) := by
          refine ⟨h3.nd, h3.lt, h3.wz, h3.anc, ?_, fun x hx => ?_⟩
          · rw [List.nodup_append]
            refine ⟨R.snd, by simp, fun x hx y hy => ?_⟩
            rw [List.mem_singleton] at hy
            subst hy
            rintro rfl
            exact hk1 hx
          · rcases List.mem_append.mp hx with hx | hx
            · exact h3.sp x hx
            · rw [List.mem_singleton] at hx
              subst hx
              exact ⟨hk2, by omega, h4, g, hg1, hsm⟩
        have h := scanSup_ok hrow r _ (scanRow s g (keys (T.row s)) a w).2 (sn ++ [s]) (fun x hx => hr x (List.mem_cons_of_mem _ hx)) hg1 R2
        revert h
        show SupOk nw may T spent w0 g r _ _ _ (scanSup T spent g r (scanRow s g (keys (T.row s)) a w).1 (scanRow s g (keys (T.row s)) a w).2 (sn ++ [s])) → SupOk nw may T spent w0 g (s :: r) a w sn (scanSup T spent g r (scanRow s g (keys (T.row s)) a w).1 (scanRow s g (keys (T.row s)) a w).2 (sn ++ [s]))
        generalize scanSup T spent g r (scanRow s g (keys (T.row s)) a w).1 (scanRow s g (keys (T.row s)) a w).2 (sn ++ [s]) = z
        rcases z with ⟨a', w', sn'⟩ | ⟨a', p, sn'⟩
        · rintro ⟨q1, ⟨n2, q2, q2'⟩, q3, q4⟩
          refine ⟨q1, ⟨new.map (fun o => (o, some (s, g))) ++ n2, by rw [q2, h1, List.append_assoc], ?_⟩, fun x hx => q3 x (List.mem_append_left _ hx), fun x hx => ?_⟩
          · rw [q2', h2, keys_append, List.append_assoc]
            congr 2
            simp [keys, Function.comp_def]
          · rcases List.mem_cons.mp hx with rfl | hx
            · exact .inl (q3 _ (List.mem_append_right _ (by simp)))
            · exact q4 x hx
        · rintro ⟨sn'', q1, q2, q3, q4, q5, q6, q7, q8, n2, q9⟩
          exact ⟨sn'', q1, q2, q3, q4, q5, q6, q7, q8, new.map (fun o => (o, some (s, g))) ++ n2, by rw [q9, h1, List.append_assoc]⟩
/-- what is reached -/
structure Reached (nw : Nat) (may : List (List Nat)) (T : TS) (spent w0 : List Nat) (res : Ah × Option (Nat × Nat) × List Nat) : Prop where
  ri : ∃ sn, RI nw may T spent w0 res.1 sn ∧ (res.2.1 = none → res.2.2 = sn)
  non : res.2.1 = none → ∀ g ∈ keys res.1, ∀ s ∈ may.getD g [], s ∈ res.2.2 ∨ s ∈ spent
  som : ∀ p, res.2.1 = some p → p.2 ∈ keys res.1 ∧ p.1 ∈ may.getD p.2 [] ∧ 0 < T.th p.1 ∧ p.1 ∉ spent
theorem reachF_ok (hrow : ∀ s, ∀ o ∈ keys (T.row s), o < nw) : ∀ (n : Nat) (pop : List Nat) (a : Ah) (w sn : List Nat), keys a = pop ++ w → nw + 1 ≤ n + pop.length → RI nw may T spent w0 a sn → (∀ g ∈ pop, ∀ s ∈ may.getD g [], s ∈ sn ∨ s ∈ spent) →
    Reached nw may T spent w0 (reachF may T spent n a w sn)
  | 0, pop, a, w, sn, hk, hn, R, hc => by
    have := nodup_len R.nd R.lt
    rw [hk, List.length_append] at this
    omega
  | n + 1, pop, a, [], sn, hk, hn, R, hc => by
    unfold reachF
    refine ⟨⟨sn, R, fun _ => rfl⟩, fun _ g hg => ?_, fun p h => by cases h⟩
    rw [hk, List.append_nil] at hg
    exact hc g hg
  | n + 1, pop, a, g :: w, sn, hk, hn, R, hc => by
    unfold reachF
    have hg : g ∈ keys a := by rw [hk]; simp
    have h := scanSup_ok (spent := spent) (w0 := w0) (may := may) (g := g) hrow (may.getD g []) a w sn (fun _ h => h) hg R
    revert h
    generalize scanSup T spent g (may.getD g []) a w sn = z
    rcases z with ⟨a', w', sn'⟩ | ⟨a', p, sn'⟩
    · rintro ⟨h1, ⟨new, h2, h2'⟩, h3, h4⟩
      refine reachF_ok hrow n (pop ++ [g]) a' w' sn' ?_ (by rw [List.length_append, List.length_singleton]; omega) h1 fun g' hg' s hs => ?_
      · rw [h2, h2', keys_append, hk]; simp
      · rcases List.mem_append.mp hg' with hg' | hg'
        · rcases hc g' hg' s hs with q | q
          · exact .inl (h3 s q)
          · exact .inr q
        · rw [List.mem_singleton] at hg'
          subst hg'
          exact h4 s hs
    · rintro ⟨sn'', q1, q2, q3, q4, q5, q6, q7, q8, q9⟩
      refine ⟨⟨sn'', q1, fun h => nomatch h⟩, (fun h => nomatch h), fun p' h => ?_⟩
      cases h
      exact ⟨by rw [q4]; exact q5, by rw [q4]; exact q6, q7, q8⟩
theorem reach0_ok (hrow : ∀ s, ∀ o ∈ keys (T.row s), o < nw) (hl : may.length = nw) (hn : w0.Nodup) (hlt : ∀ g ∈ w0, g < nw) : Reached nw may T spent w0 (reach0 may T w0 spent) := by
  have hk : keys (w0.map fun g => (g, (none : Option (Nat × Nat)))) = w0 := by simp [keys, Function.comp_def]
  refine reachF_ok hrow _ [] _ w0 [] hk (by rw [hl]; simp) ⟨by rw [hk]; exact hn, by rw [hk]; exact hlt, by rw [hk]; exact fun _ h => h, fun i o v e => ?_, List.nodup_nil, fun s h => by cases h⟩ (fun g h => by cases h)
  rw [List.getElem?_map] at e
  obtain ⟨x, h1, h2⟩ := Option.map_eq_some_iff.mp e
  cases h2
  exact .inl ⟨rfl, List.mem_of_getElem? h1⟩
/-! ways -/
def Path (may : List (List Nat)) (T : TS) (spent : List Nat) : Nat × Nat → List (Nat × Nat) → Prop
  | _, [] => True
  | p, q :: r => p.2 ∈ keys (T.row q.1) ∧ q.1 ∈ may.getD q.2 [] ∧ q.1 ∉ spent ∧ Path may T spent q r
def lastW : Nat × Nat → List (Nat × Nat) → Nat
  | p, [] => p.2
  | _, q :: r => lastW q r
theorem kGet_at {a : Ah} (hn : (keys a).Nodup) {j g : Nat} {u : Option (Nat × Nat)} (h : a[j]? = some (g, u)) : kGet a g = some u := kGet_of_mem hn (List.mem_of_getElem? h)
theorem wayF_ok {a : Ah} {sn : List Nat} (R : RI nw may T spent w0 a sn) : ∀ (n : Nat) (p : Nat × Nat) (j : Nat) (u : Option (Nat × Nat)), a[j]? = some (p.2, u) → j < n →
    Path may T spent p (wayF a n p) ∧ lastW p (wayF a n p) ∈ w0 ∧ (∀ x ∈ wayF a n p, ∃ i v, i < j ∧ a[i]? = some (x.2, v)) ∧ (p.2 :: (wayF a n p).map (·.2)).Nodup
  | 0, _, j, _, _, h => absurd h (by omega)
  | n + 1, p, j, u, e, hj => by
    unfold wayF
    rw [kGet_at R.nd e]
    cases u with
    | none =>
      simp only [Option.join_some]
      rcases R.anc j p.2 none e with h | ⟨s, g, j', u', h, _⟩
      · exact ⟨trivial, h.2, (fun x hx => absurd hx (by simp)), by simp⟩
      · cases h
    | some q =>
      simp only [Option.join_some]
      rcases R.anc j p.2 (some q) e with h | ⟨s, g, j', u', h1, h2, h3, h4, h5, h6⟩
      · cases h.1
      · cases h1
        obtain ⟨k1, k2, k3, k4⟩ := wayF_ok R n (s, g) j' u' h6 (by omega)
        refine ⟨⟨h2, h3, h4, k1⟩, k2, fun x hx => ?_, ?_⟩
        · rcases List.mem_cons.mp hx with rfl | hx
          · exact ⟨j', u', h5, h6⟩
          · obtain ⟨i, v, hi, hv⟩ := k3 x hx
            exact ⟨i, v, by omega, hv⟩
        · rw [List.map_cons]
          refine List.nodup_cons.mpr ⟨fun hm => ?_, k4⟩
          have hidx : ∃ i v, i < j ∧ a[i]? = some (p.2, v) := by
            rcases List.mem_cons.mp hm with q | q
            · exact ⟨j', u', h5, by rw [q]; exact h6⟩
            · obtain ⟨x, hx, hx2⟩ := List.mem_map.mp q
              obtain ⟨i, v, hi, hv⟩ := k3 x hx
              exact ⟨i, v, by omega, by rw [← hx2]; exact hv⟩
          obtain ⟨i, v, hi, hv⟩ := hidx
          have e1 : (keys a)[i]? = some p.2 := by rw [List.getElem?_map, hv]; rfl
          have e2 : (keys a)[j]? = some p.2 := by rw [List.getElem?_map, e]; rfl
          have hl : j < (keys a).length := by
            rcases Nat.lt_or_ge j (keys a).length with z | z
            · exact z
            · rw [List.getElem?_eq_none z] at e2; cases e2
          have := (List.getElem?_inj hl R.nd).mp (by rw [e1, e2])
          omega
end
end QQ

/-! transports: shifts, fills -/
namespace QQ
open PySem L2
section
variable {ns nw : Nat} {may : List (List Nat)} {S W : Nat → Int} {T : TS} {spent : List Nat}
theorem amtW_le : ∀ (r : List (Nat × Nat)) (q : Nat × Nat) (m : Int), amtW T q r m ≤ m
  | [], _, m => Int.le_refl _
  | p :: r, q, m => by
    unfold amtW
    have := amtW_le r p (min m (T.amt p.1 q.2))
    omega
theorem amtW_pos (hr : ∀ s, RowOk nw (T.row s)) : ∀ (r : List (Nat × Nat)) (q : Nat × Nat) (m : Int), 1 ≤ m → Path may T spent q r → 1 ≤ amtW T q r m
  | [], _, m, h, _ => h
  | p :: r, q, m, h, hp => by
    unfold amtW
    refine amtW_pos hr r p _ ?_ hp.2.2.2
    have := (ramt_pos (hr p.1)).mpr hp.1
    rw [← amt_row] at this
    omega
def PB (ns nw : Nat) (may : List (List Nat)) (T : TS) (spent : List Nat) (m : Int) : Nat × Nat → List (Nat × Nat) → Prop
  | _, [] => True
  | q, p :: r => m ≤ T.amt p.1 q.2 ∧ p.1 ∈ may.getD q.2 [] ∧ p.1 ∈ may.getD p.2 [] ∧ p.1 < ns ∧ p.2 < nw ∧ p.1 ∉ spent ∧ PB ns nw may T spent m p r
theorem PB.mono {T' : TS} {m : Int} : ∀ {r : List (Nat × Nat)} {q : Nat × Nat}, (∀ s g, g ∈ q.2 :: r.map (·.2) → T.amt s g ≤ T'.amt s g) → PB ns nw may T spent m q r → PB ns nw may T' spent m q r
  | [], _, _, _ => trivial
  | p :: r, q, h, ⟨h1, h2, h3, h4, h5, h6, h7⟩ => ⟨Int.le_trans h1 (h _ _ (List.mem_cons_self ..)), h2, h3, h4, h5, h6, PB.mono (fun s g hg => h s g (List.mem_cons_of_mem _ hg)) h7⟩
theorem PB_of (h : TG ns nw may S W T) (hl : may.length = nw) (hm : ∀ g, ∀ s ∈ may.getD g [], s < ns) : ∀ (r : List (Nat × Nat)) (q : Nat × Nat) (m : Int), Path may T spent q r → PB ns nw may T spent (amtW T q r m) q r
  | [], _, _, _ => trivial
  | p :: r, q, m, hp => by
    obtain ⟨h1, h2, h3, h4⟩ := hp
    unfold amtW
    have := amtW_le (T := T) r p (min m (T.amt p.1 q.2))
    refine ⟨by omega, h.may _ _ h1, h2, hm _ _ h2, ?_, h3, PB_of h hl hm r p _ h4⟩
    rcases Nat.lt_or_ge p.2 nw with z | z
    · exact z
    · rw [List.getD_eq_getElem?_getD, List.getElem?_eq_none (by omega)] at h2
      cases h2
def at1 (m : Int) (k : Nat) : Nat → Int := fun i => if i = k then m else 0
theorem appW_ok {m : Int} (hm : 0 ≤ m) : ∀ (r : List (Nat × Nat)) (q : Nat × Nat) (T : TS), TG ns nw may S (fun g => W g + at1 m q.2 g) T → PB ns nw may T spent m q r → q.2 < nw → (q.2 :: r.map (·.2)).Nodup →
    TG ns nw may S (fun g => W g + at1 m (lastW q r) g) (appW m T q r) ∧ (appW m T q r).there = T.there ∧ (appW m T q r).lack = T.lack ∧ (appW m T q r).spent = T.spent ∧ ∀ s ∈ spent, (appW m T q r).row s = T.row s
  | [], q, T, h, _, _, _ => ⟨h, rfl, rfl, rfl, fun _ _ => rfl⟩
  | p :: r, q, T, h, ⟨h1, h2, h3, h4, h5, h6, h7⟩, hq, hn => by
    unfold appW
    have g1 := h.ch (s := p.1) (g := q.2) (m := 0 - m) h4 hq (by omega) h2
    have hl1 : p.1 < T.given.length := by rw [h.lg]; exact h4
    have hl2 : p.1 < (chT T p.1 q.2 (0 - m)).given.length := by rw [g1.lg]; exact h4
    have g2 := g1.ch (s := p.1) (g := p.2) (m := m) h4 h5 (by
      have := ramt_nn (g1.row p.1) p.2
      rw [← amt_row] at this
      omega) h3
    have g3 : TG ns nw may S (fun g => W g + at1 m p.2 g) (chT (chT T p.1 q.2 (0 - m)) p.1 p.2 m) := g2.congr (fun s _ => by
        show S s + (if s = p.1 then 0 - m else 0) + (if s = p.1 then m else 0) = S s
        split <;> omega) (fun g _ => by
        show W g + at1 m q.2 g + (if g = q.2 then 0 - m else 0) + (if g = p.2 then m else 0) = W g + at1 m p.2 g
        unfold at1
        split <;> split <;> omega)
    rw [List.map_cons, List.nodup_cons] at hn
    have hpb : PB ns nw may (chT (chT T p.1 q.2 (0 - m)) p.1 p.2 m) spent m p r := PB.mono (fun s g hg => by
      rw [amt_ch hl2, amt_ch hl1]
      have hne : g ≠ q.2 := by rintro rfl; exact hn.1 hg
      rw [if_neg (c := s = p.1 ∧ g = q.2) fun z => hne z.2]
      split <;> omega) h7
    obtain ⟨k1, k2, k3, k4, k5⟩ := appW_ok hm r p _ g3 hpb h5 hn.2
    refine ⟨k1, k2, k3, k4, fun s hs => ?_⟩
    have hne : s ≠ p.1 := by rintro rfl; exact h6 hs
    rw [k5 s hs, row_ch hl2, if_neg hne, row_ch hl1, if_neg hne]
theorem shM_ok (h : TG ns nw may S W T) {p : Nat × Nat} {r : List (Nat × Nat)} {most : Int} (hp : Path may T spent p r) (ht : 0 < T.th p.1) (hm : 1 ≤ most) : 1 ≤ shM T p r most ∧ shM T p r most ≤ most ∧ shM T p r most ≤ T.th p.1 := by
  unfold shM
  have h1 := amtW_le (T := T) r p (min most (T.th p.1))
  have h2 := amtW_pos h.row r p (min most (T.th p.1)) (by omega) hp
  omega
theorem shT_ok (h : TG ns nw may S W T) (hl : may.length = nw) (hm : ∀ g, ∀ s ∈ may.getD g [], s < ns) {p : Nat × Nat} {r : List (Nat × Nat)} {most : Int} (hp : Path may T spent p r) (ht : 0 < T.th p.1) (hmost : 1 ≤ most)
    (hpm : p.1 ∈ may.getD p.2 []) (hps : p.1 ∉ spent) (hn : (p.2 :: r.map (·.2)).Nodup) :
    TG ns nw may S (fun g => W g + at1 (shM T p r most) (lastW p r) g) (shT T p r (shM T p r most)) ∧ (shT T p r (shM T p r most)).lack = T.lack ∧ (shT T p r (shM T p r most)).spent = T.spent ∧
      ∀ s ∈ spent, (shT T p r (shM T p r most)).row s = T.row s ∧ (shT T p r (shM T p r most)).th s = T.th s := by
  obtain ⟨m1, m2, m3⟩ := shM_ok h hp ht hmost
  have hs : p.1 < ns := hm _ _ hpm
  have hg : p.2 < nw := by
    rcases Nat.lt_or_ge p.2 nw with z | z
    · exact z
    · rw [List.getD_eq_getElem?_getD, List.getElem?_eq_none (by omega)] at hpm
      cases hpm
  have g1 := h.take (s := p.1) (m := shM T p r most) hs m3
  have hl1 : p.1 < ({ T with there := T.there.set p.1 (T.th p.1 - shM T p r most) } : TS).given.length := by rw [g1.lg]; exact hs
  have g2 := g1.ch (s := p.1) (g := p.2) (m := shM T p r most) hs hg (by
    have := ramt_nn (g1.row p.1) p.2
    rw [← amt_row] at this
    omega) hpm
  have g3 : TG ns nw may S (fun g => W g + at1 (shM T p r most) p.2 g) (chT { T with there := T.there.set p.1 (T.th p.1 - shM T p r most) } p.1 p.2 (shM T p r most)) := g2.congr (fun s _ => by
      show S s + (if s = p.1 then -shM T p r most else 0) + (if s = p.1 then shM T p r most else 0) = S s
      split <;> omega) (fun g _ => rfl)
  have hpb : PB ns nw may (chT { T with there := T.there.set p.1 (T.th p.1 - shM T p r most) } p.1 p.2 (shM T p r most)) spent (shM T p r most) p r := PB.mono (fun s g _ => by
    rw [amt_ch hl1]
    show T.amt s g ≤ T.amt s g + _
    split <;> omega) (PB_of h hl hm r p _ hp)
  obtain ⟨k1, k2, k3, k4, k5⟩ := appW_ok (by omega) r p _ g3 hpb hg hn
  refine ⟨k1, k3, k4, fun s hs => ?_⟩
  have hne : s ≠ p.1 := by rintro rfl; exact hps hs
  refine ⟨?_, ?_⟩
  · show (appW _ _ p r).row s = _
    rw [k5 s hs, row_ch hl1, if_neg hne]
    rfl
  · show ((appW _ _ p r).there).getD s 0 = _
    rw [k2]
    show (T.there.set p.1 _).getD s 0 = T.there.getD s 0
    rw [List.getD_eq_getElem?_getD, List.getElem?_set_ne (Ne.symm hne), ← List.getD_eq_getElem?_getD]
/-! fills -/
structure CS (may : List (List Nat)) (T : TS) : Prop where
  cl : ∀ s ∈ T.spent, T.th s = 0 ∧ ∀ g ∈ keys (T.row s), ∀ s' ∈ may.getD g [], s' ∈ T.spent
  nd : T.spent.Nodup
/-- one turn of a fill -/
theorem turn_ok (h : TG ns nw may S W T) (hl : may.length = nw) (hm : ∀ g, ∀ s ∈ may.getD g [], s < ns) (hc : CS may T) {g : Nat} (hg : g < nw) (hk : 0 < T.lk g) :
    match reach0 may T [g] T.spent with
    | (_, none, sn) => CS may { T with spent := T.spent ++ sn } ∧ (∀ s ∈ may.getD g [], s ∈ T.spent ++ sn) ∧ (∀ s ∈ sn, s < ns) ∧ sn.Nodup ∧ ∀ s ∈ sn, s ∉ T.spent
    | (a, some p, _) => RI nw may T T.spent [g] a [] ∨ True := by
  have R := reach0_ok (spent := T.spent) (w0 := [g]) (T := T) (may := may) (nw := nw) (fun s o ho => by
      obtain ⟨x, hx, hx2⟩ := List.mem_map.mp ho
      have := ((h.row s).el x hx).2
      omega) hl (by simp) (fun x hx => by rw [List.mem_singleton] at hx; omega)
  revert R
  generalize reach0 may T [g] T.spent = z
  obtain ⟨a, p, sn⟩ := z
  intro R
  cases p with
  | some p => exact .inr trivial
  | none =>
    obtain ⟨sn', R1, e⟩ := R.ri
    obtain rfl := e rfl
    have hcl := R.non rfl
    have hgk : g ∈ keys a := R1.wz g (by simp)
    refine ⟨⟨fun s hs => ?_, ?_⟩, fun s hs => ?_, fun s hs => ?_, R1.snd, fun s hs => (R1.sp s hs).1⟩
    · rcases List.mem_append.mp hs with hs | hs
      · obtain ⟨h1, h2⟩ := hc.cl s hs
        exact ⟨h1, fun g' hg' s' hs' => List.mem_append_left _ (h2 g' hg' s' hs')⟩
      · obtain ⟨h1, h2, h3, h4⟩ := R1.sp s hs
        refine ⟨?_, fun g' hg' s' hs' => ?_⟩
        · have := h.tn s
          show T.th s = 0
          omega
        · rcases hcl g' (h3 g' hg') s' hs' with q | q
          · exact List.mem_append_right _ q
          · exact List.mem_append_left _ q
    · show (T.spent ++ sn).Nodup
      rw [List.nodup_append]
      refine ⟨hc.nd, R1.snd, fun x hx y hy => ?_⟩
      rintro rfl
      exact (R1.sp x hy).1 hx
    · rcases hcl g hgk s hs with q | q
      · exact List.mem_append_right _ q
      · exact List.mem_append_left _ q
    · obtain ⟨_, _, _, g', _, h5⟩ := R1.sp s hs
      exact hm _ _ h5
/-- a turn that finds a way -/
theorem turn_way (h : TG ns nw may S W T) (hl : may.length = nw) (hm : ∀ g, ∀ s ∈ may.getD g [], s < ns) {g : Nat} (hg : g < nw) (hk : 0 < T.lk g) {a : Ah} {p : Nat × Nat} {sn : List Nat} (e : reach0 may T [g] T.spent = (a, some p, sn)) :
    Path may T T.spent p (wayF a a.length p) ∧ lastW p (wayF a a.length p) = g ∧ (p.2 :: (wayF a a.length p).map (·.2)).Nodup ∧ 0 < T.th p.1 ∧ p.1 ∈ may.getD p.2 [] ∧ p.1 ∉ T.spent ∧ p.2 ∈ keys a ∧ ∃ sn', RI nw may T T.spent [g] a sn' := by
  have R := reach0_ok (spent := T.spent) (w0 := [g]) (T := T) (may := may) (nw := nw) (fun s o ho => by
      obtain ⟨x, hx, hx2⟩ := List.mem_map.mp ho
      have := ((h.row s).el x hx).2
      omega) hl (by simp) (fun x hx => by rw [List.mem_singleton] at hx; omega)
  rw [e] at R
  obtain ⟨sn', R1, _⟩ := R.ri
  obtain ⟨h1, h2, h3, h4⟩ := R.som p rfl
  obtain ⟨y, hy, hy2⟩ := List.mem_map.mp h1
  obtain ⟨j, hj, hj2⟩ := List.getElem_of_mem hy
  have e1 : a[j]? = some (p.2, y.2) := by rw [List.getElem?_eq_getElem hj, hj2, ← hy2]
  obtain ⟨k1, k2, k3, k4⟩ := wayF_ok R1 a.length p j y.2 e1 hj
  exact ⟨k1, by simpa using k2, k4, h3, h2, h4, h1, sn', R1⟩
theorem CS.keep {T T' : TS} (hc : CS may T) (hs : T'.spent = T.spent) (hk : ∀ s ∈ T.spent, T'.row s = T.row s ∧ T'.th s = T.th s) : CS may T' := by
  refine ⟨fun s h => ?_, by rw [hs]; exact hc.nd⟩
  rw [hs] at h ⊢
  obtain ⟨h1, h2⟩ := hk s h
  rw [h1, h2]
  exact hc.cl s h
/-- a fill -/
structure Filled (ns nw : Nat) (may : List (List Nat)) (S W : Nat → Int) (T T' : TS) (g : Nat) : Prop where
  tg : TG ns nw may S W T'
  cs : CS may T'
  sub : ∀ s ∈ T.spent, s ∈ T'.spent
  lt : ∀ s ∈ T'.spent, s < ns
  fin : T'.lk g = 0 ∨ ∀ s ∈ may.getD g [], s ∈ T'.spent
  other : ∀ g', g' ≠ g → T'.lk g' = T.lk g'
theorem fillF_ok (hl : may.length = nw) (hm : ∀ g, ∀ s ∈ may.getD g [], s < ns) {g : Nat} (hg : g < nw) : ∀ (n : Nat) (T : TS), TG ns nw may S W T → CS may T → (∀ s ∈ T.spent, s < ns) → (T.lk g).toNat ≤ n → Filled ns nw may S W T (fillF may n T g) g
  | 0, T, h, hc, hs, hn => by
    unfold fillF
    have := h.ln g
    exact ⟨h, hc, fun _ h => h, hs, .inl (by omega), fun _ _ => rfl⟩
  | n + 1, T, h, hc, hs, hn => by
    unfold fillF
    by_cases hk : 0 < T.lk g
    · rw [if_pos hk]
      have h1 := turn_ok h hl hm hc hg hk
      have h2 := fun a p sn => turn_way (a := a) (p := p) (sn := sn) h hl hm hg hk
      revert h1 h2
      generalize reach0 may T [g] T.spent = z
      obtain ⟨a, p, sn⟩ := z
      cases p with
      | none =>
        rintro ⟨h1, h3, h4, h5⟩ _
        refine ⟨⟨h.lt, h.ll, h.lg, h.row, h.may, h.tn, h.ln, h.sum, h.col⟩, h1, fun s q => List.mem_append_left _ q, fun s q => ?_, .inr h3, fun _ _ => rfl⟩
        rcases List.mem_append.mp q with q | q
        · exact hs s q
        · exact h4 s q
      | some p =>
        intro _ h2
        obtain ⟨k1, k2, k3, k4, k5, k6, _⟩ := h2 a p sn rfl
        obtain ⟨t1, t2, t3, t4⟩ := shT_ok h hl hm (most := T.lk g) k1 k4 (by omega) k5 k6 k3
        obtain ⟨m1, m2, m3⟩ := shM_ok h (most := T.lk g) k1 k4 (by omega)
        simp only []
        generalize hM : shM T p (wayF a a.length p) (T.lk g) = M at *
        generalize hT' : shT T p (wayF a a.length p) M = T' at *
        rw [k2] at t1
        have hlk : T'.lk g = T.lk g := by unfold TS.lk; rw [t2]
        have g2 := t1.less (g := g) (v := T.lk g - M) hg (by omega)
        have g3 : TG ns nw may S W { T' with lack := T'.lack.set g (T.lk g - M) } := g2.congr (fun _ _ => rfl) (fun g' _ => by
          show W g' + at1 M g g' + (if g' = g then T.lk g - M - T'.lk g else 0) = W g'
          unfold at1
          rw [hlk]
          split <;> omega)
        have hc2 : CS may { T' with lack := T'.lack.set g (T.lk g - M) } := hc.keep t3 t4
        have hlg := lk_set t1.ll hg (T.lk g - M)
        have r := fillF_ok hl hm hg n { T' with lack := T'.lack.set g (T.lk g - M) } g3 hc2 (by show ∀ s ∈ T'.spent, s < ns; rw [t3]; exact hs) (by rw [hlg, if_pos rfl]; omega)
        refine ⟨r.tg, r.cs, fun s q => r.sub s (by show s ∈ T'.spent; rw [t3]; exact q), r.lt, r.fin, fun g' q => ?_⟩
        rw [r.other g' q, hlg, if_neg q]
        unfold TS.lk; rw [t2]
    · rw [if_neg hk]
      have := h.ln g
      exact ⟨h, hc, fun _ h => h, hs, .inl (by omega), fun _ _ => rfl⟩
theorem fillAll_ok (hl : may.length = nw) (hm : ∀ g, ∀ s ∈ may.getD g [], s < ns) : ∀ (gs : List Nat) (T : TS) (don : List Nat), (∀ g ∈ gs, g < nw) → TG ns nw may S W T → CS may T → (∀ s ∈ T.spent, s < ns) → (∀ g ∈ don, T.lk g = 0 ∨ ∀ s ∈ may.getD g [], s ∈ T.spent) →
    TG ns nw may S W (fillAll may gs T) ∧ CS may (fillAll may gs T) ∧ (∀ s ∈ (fillAll may gs T).spent, s < ns) ∧ ∀ g ∈ don ++ gs, (fillAll may gs T).lk g = 0 ∨ ∀ s ∈ may.getD g [], s ∈ (fillAll may gs T).spent
  | [], T, don, _, h, hc, hs, hd => ⟨h, hc, hs, by rw [List.append_nil]; exact hd⟩
  | g :: gs, T, don, hg, h, hc, hs, hd => by
    unfold fillAll
    have r := fillF_ok (S := S) (W := W) hl hm (hg g (List.mem_cons_self ..)) (T.lk g).toNat T h hc hs (Nat.le_refl _)
    have := fillAll_ok hl hm gs (fillF may (T.lk g).toNat T g) (don ++ [g]) (fun x hx => hg x (List.mem_cons_of_mem _ hx)) r.tg r.cs r.lt fun g' hg' => ?_
    · rwa [List.append_assoc] at this
    · by_cases e : g' = g
      · subst e; exact r.fin
      · rw [r.other g' e]
        rcases List.mem_append.mp hg' with q | q
        · rcases hd g' q with z | z
          · exact .inl z
          · exact .inr fun s hs => r.sub s (z s hs)
        · exact absurd (by simpa using q) e
end
end QQ

/-! transports: the serving, the short list -/
namespace QQ
open PySem L2
def servT (sup wants : List Int) (may : List (List Nat)) : TS := fillAll may (List.range wants.length) (ts0 sup wants)
def lackG (T : TS) (nw : Nat) : List Nat := (List.range nw).filter fun g => decide (0 < T.lk g)
def servR (sup wants : List Int) (may : List (List Nat)) : Ah × Option (Nat × Nat) × List Nat := reach0 may (servT sup wants may) (lackG (servT sup wants may) wants.length) []
def servA (sup wants : List Int) (may : List (List Nat)) : List Nat := keys (servR sup wants may).1
structure In (sup wants : List Int) (may : List (List Nat)) : Prop where
  sn : ∀ x ∈ sup, 0 ≤ x
  wn : ∀ x ∈ wants, 0 ≤ x
  len : may.length = wants.length
  lt : ∀ row ∈ may, ∀ s ∈ row, s < sup.length
section
variable {sup wants : List Int} {may : List (List Nat)}
theorem getD_nn {l : List Int} (h : ∀ x ∈ l, 0 ≤ x) (i : Nat) : 0 ≤ l.getD i 0 := by
  rw [List.getD_eq_getElem?_getD]
  cases e : l[i]? with
  | none => exact Int.le_refl _
  | some x => exact h x (List.mem_of_getElem? e)
theorem In.lt' (I : In sup wants may) : ∀ g, ∀ s ∈ may.getD g [], s < sup.length := by
  intro g s hs
  rw [List.getD_eq_getElem?_getD] at hs
  cases e : may[g]? with
  | none => rw [e] at hs; cases hs
  | some row => rw [e] at hs; exact I.lt row (List.mem_of_getElem? e) s hs
theorem ts0_row (s : Nat) : (ts0 sup wants).row s = [] := by
  unfold TS.row ts0
  simp only []
  rw [List.getD_eq_getElem?_getD, List.getElem?_map]
  cases sup[s]? <;> rfl
theorem ts0_ok (I : In sup wants may) : TG sup.length wants.length may (fun s => sup.getD s 0) (fun g => wants.getD g 0) (ts0 sup wants) := by
  refine ⟨rfl, rfl, by simp [ts0], fun s => by rw [ts0_row]; exact .nil, (fun s g h => by rw [ts0_row] at h; cases h), fun s => getD_nn I.sn s, fun g => getD_nn I.wn g, fun s hs => ?_, fun g hg => ?_⟩
  · have : sm wants.length ((ts0 sup wants).amt s) = 0 := (sm_congr fun i _ => by rw [amt_row, ts0_row]; rfl).trans (sm_zero _)
    rw [this]
    show sup.getD s 0 + 0 = _
    omega
  · have : sm sup.length (fun s => (ts0 sup wants).amt s g) = 0 := (sm_congr fun i _ => by rw [amt_row, ts0_row]; rfl).trans (sm_zero _)
    rw [this]
    show wants.getD g 0 + 0 = _
    omega
theorem ts0_cs : CS may (ts0 sup wants) := ⟨(fun s h => by cases h), List.nodup_nil⟩
theorem servT_ok (I : In sup wants may) : TG sup.length wants.length may (fun s => sup.getD s 0) (fun g => wants.getD g 0) (servT sup wants may) ∧ CS may (servT sup wants may) ∧ (∀ s ∈ (servT sup wants may).spent, s < sup.length) ∧
    ∀ g, g < wants.length → (servT sup wants may).lk g = 0 ∨ ∀ s ∈ may.getD g [], s ∈ (servT sup wants may).spent := by
  obtain ⟨h1, h2, h3, h4⟩ := fillAll_ok I.len I.lt' (List.range wants.length) (ts0 sup wants) [] (fun g hg => List.mem_range.mp hg) (ts0_ok I) ts0_cs (fun s h => by cases h) (fun g h => by cases h)
  exact ⟨h1, h2, h3, fun g hg => h4 g (by simpa using hg)⟩
/-- what is told beside is shut -/
structure Shut (sup wants : List Int) (may : List (List Nat)) (T : TS) (A : List Nat) : Prop where
  nd : A.Nodup
  lt : ∀ g ∈ A, g < wants.length
  lack : ∀ g, g < wants.length → 0 < T.lk g → g ∈ A
  cl : ∀ g ∈ A, ∀ s ∈ may.getD g [], T.th s = 0 ∧ ∀ g' ∈ keys (T.row s), g' ∈ A
theorem servR_ok (I : In sup wants may) : Reached wants.length may (servT sup wants may) [] (lackG (servT sup wants may) wants.length) (servR sup wants may) := by
  obtain ⟨h, hc, hs, hd⟩ := servT_ok I
  refine reach0_ok (fun s o ho => ?_) I.len (List.Nodup.sublist List.filter_sublist List.nodup_range) (fun g hg => List.mem_range.mp (List.mem_filter.mp hg).1)
  obtain ⟨x, hx, hx2⟩ := List.mem_map.mp ho
  have := ((h.row s).el x hx).2
  omega
theorem servA_ok (I : In sup wants may) : Shut sup wants may (servT sup wants may) (servA sup wants may) := by
  obtain ⟨h, hc, hs, hd⟩ := servT_ok I
  have R := servR_ok I
  obtain ⟨sn, R1, e⟩ := R.ri
  have hlack : ∀ g, g ∈ lackG (servT sup wants may) wants.length ↔ g < wants.length ∧ 0 < (servT sup wants may).lk g := fun g => by
    unfold lackG; rw [List.mem_filter, List.mem_range, decide_eq_true_eq]
  -- all of these are served by what is spent alone
  have hsp : ∀ (i o : Nat) (v : Option (Nat × Nat)), (servR sup wants may).1[i]? = some (o, v) → ∀ s ∈ may.getD o [], s ∈ (servT sup wants may).spent := by
    intro i
    induction i using Nat.strongRecOn with
    | _ i ih =>
      intro o v ho s hs'
      rcases R1.anc i o v ho with ⟨_, hw⟩ | ⟨s', g', j, u, _, h2, h3, _, h5, h6⟩
      · obtain ⟨q1, q2⟩ := (hlack o).mp hw
        rcases hd o q1 with z | z
        · omega
        · exact z s hs'
      · exact (hc.cl s' (ih j h5 g' u h6 s' h3)).2 o h2 s hs'
  have hsp' : ∀ g ∈ servA sup wants may, ∀ s ∈ may.getD g [], s ∈ (servT sup wants may).spent := fun g hg => by
    obtain ⟨y, hy, hy2⟩ := List.mem_map.mp hg
    obtain ⟨j, hj, hj2⟩ := List.getElem_of_mem hy
    exact hsp j g y.2 (by rw [List.getElem?_eq_getElem hj, hj2, ← hy2])
  have hnone : (servR sup wants may).2.1 = none := by
    cases q : (servR sup wants may).2.1 with
    | none => rfl
    | some p =>
      obtain ⟨h1, h2, h3, _⟩ := R.som p q
      have := (hc.cl p.1 (hsp' p.2 h1 p.1 h2)).1
      omega
  obtain rfl := e hnone
  have hcl := R.non hnone
  refine ⟨R1.nd, R1.lt, fun g h1 h2 => R1.wz g ((hlack g).mpr ⟨h1, h2⟩), fun g hg s hs' => ?_⟩
  rcases hcl g hg s hs' with q | q
  · obtain ⟨_, h2, h3, _⟩ := R1.sp s q
    exact ⟨by have := h.tn s; omega, h3⟩
  · cases q
def near (may : List (List Nat)) (A : List Nat) (s : Nat) : Prop := ∃ g ∈ A, s ∈ may.getD g []
/-- THE GREATEST: as many as the short list lets be served -/
theorem bound_eq {T : TS} {A : List Nat} (h : TG sup.length wants.length may (fun s => sup.getD s 0) (fun g => wants.getD g 0) T) (Z : Shut sup wants may T A) (nr : Nat → Bool) (hnr : ∀ s, nr s = true ↔ near may A s) :
    sm sup.length (fun s => sm wants.length (T.amt s)) = sm wants.length (fun g => if g ∈ A then 0 else wants.getD g 0) + sm sup.length (fun s => if nr s = true then sup.getD s 0 else 0) := by
  rw [sm_swap]
  have h1 : sm wants.length (fun g => sm sup.length fun s => T.amt s g) = sm wants.length (fun g => if g ∈ A then 0 else wants.getD g 0) + sm wants.length (fun g => sm sup.length fun s => if g ∈ A then T.amt s g else 0) := by
    rw [← sm_add]
    refine sm_congr fun g hg => ?_
    by_cases e : g ∈ A
    · simp only [if_pos e]; omega
    · simp only [if_neg e]
      rw [sm_zero]
      have := h.col g hg
      have h2 : T.lk g = 0 := by
        have := h.ln g
        rcases Int.lt_or_eq_of_le this with q | q
        · exact absurd (Z.lack g hg q) e
        · omega
      omega
  rw [h1, sm_swap]
  congr 1
  refine sm_congr fun s hs => ?_
  by_cases q : nr s = true
  · rw [if_pos q]
    obtain ⟨g, hg, hsg⟩ := (hnr s).mp q
    obtain ⟨k1, k2⟩ := Z.cl g hg s hsg
    have : sm wants.length (fun g => if g ∈ A then T.amt s g else 0) = sm wants.length (T.amt s) := sm_congr fun g' _ => by
      by_cases e : g' ∈ A
      · rw [if_pos e]
      · rw [if_neg e]
        have := ramt_nn (h.row s) g'
        rw [← amt_row] at this
        rcases Int.lt_or_eq_of_le this with z | z
        · exact absurd (k2 g' ((ramt_pos (h.row s)).mp z)) e
        · exact z
    rw [this]
    have := h.sum s hs
    omega
  · rw [if_neg q]
    refine (sm_congr fun g _ => ?_).trans (sm_zero _)
    by_cases e : g ∈ A
    · rw [if_pos e]
      have := ramt_nn (h.row s) g
      rw [← amt_row] at this
      rcases Int.lt_or_eq_of_le this with z | z
      · exact absurd ((hnr s).mpr ⟨g, e, h.may s g ((ramt_pos (h.row s)).mp z)⟩) q
      · exact z.symm
    · rw [if_neg e]
end
end QQ

/-! transport.py runs as its mirror: data, reached -/
namespace QQ
open PySem L2
local macro_rules | `(tactic| bv_omega) => `(tactic| ((try simp only [frame0, List.map_cons, List.map_nil, List.length_cons, List.length_nil, Nat.reduceAdd, Nat.reduceSub, List.replicate, List.cons_append, List.nil_append]); try simp only [↓r_var, ↓r_cst, ↓r_glb, ↓r_bin, ↓r_cmp, ↓r_chn, ↓r_bop, ↓r_neg, ↓r_nt, ↓r_ife, ↓r_tup, ↓r_lst, ↓r_dis, ↓r_ix, ↓r_slc, ↓r_fld, ↓r_call, ↓r_make, ↓r_meth, ↓r_blt, ↓r_mtd, ↓r_lc, ↓r_srtSet, ↓r_frz, ↓r_nil, ↓r_cons, ↓rB_one, ↓rB_more, ↓t_bop, ↓t_nt, ↓t_cmp, ↓t_chn, ↓t_var, ↓t_cst, ↓t_ix, ↓t_fld, ↓t_call, ↓t_meth, ↓t_blt, ↓tB_one, ↓tB_more, ↓ts_nil, ↓ts_one, ↓i_seq, ↓i_rng, ↓i_enu, ↓i_zip, ↓i_itm, ↓x_expr, ↓x_asg, ↓x_par, ↓x_aug, ↓x_six, ↓x_aix, ↓x_sfd, ↓x_ite, ↓x_whl, ↓x_frs, ↓x_ret, ↓x_retN, ↓x_pas, ↓x_brk, ↓x_ctn, ↓xs_nil, ↓xs_cons, ↓RdQ_some, ↓LfQ_some, ↓RdQ_none, ↓LfQ_none, RdQ_some, LfQ_some, RdQ_none, LfQ_none, RdQ_ite, LfQ_ite, ↓nxQ_nx, ↓nxQ_rt, ↓nxQ_bk, ↓nxQ_ct, ↓lpQ_nx, ↓lpQ_rt, ↓lpQ_bk, ↓lpQ_ct, ↓fnQ_nx, ↓fnQ_rt, ↓endQ_f, ↓notQ_bl, ↓bopQ_bl, ↓parQ_two, isNon_non, add_int, sub_int, mul_int', fdiv_int, mod_int, pow_int, eq_int, ne_int, lt_int, le_int, gt_int, ge_int, eq_str, ne_str, eq_bl, is_non, is_tup, is_int, isn_non, isn_tup, isn_int, true_bl, true_int, mkT_if, mkL_t, mkL_f, mkD_t, mkD_f, blt_len, blt_list, blt_sum, blt_min1, blt_all, blt_any, blt_sorted, blt_dict, blt_min2, blt_isi, bMin2_int, List.getElem?_cons_zero, List.getElem?_cons_succ, Option.join_some, Option.join_none, List.set_cons_zero, List.set_cons_succ, asgT, setsT, wipeD, List.map_cons, List.map_nil, frame0, List.replicate, List.length_cons, List.length_nil, List.cons_append, List.nil_append, List.append_nil, Nat.reduceAdd, Nat.reduceSub, Nat.reduceLeDiff, Nat.reduceLT, Int.reduceLT, Int.reduceLE, Int.reduceToNat, Int.reduceNeg, Int.reducePow, Int.reduceAdd, Int.reduceMul, decide_eq_true_eq, if_true, if_false, ite_true, ite_false, Bool.false_eq_true, Bool.true_eq_false, Bool.not_true, Bool.not_false, true_and, and_true, Bool.not_eq_true', Bool.not_eq_true, decide_eq_false_iff_not, reduceCtorEq, decide_true, decide_false, le_size, ne_eq, not_true_eq_false, not_false_eq_true, Nat.zero_le, gsOn_nil, enter, leave, List.append_assoc, gat, gat0, sat, sat0, tat, kd_append, kd_extend, kd_pop, kd_get, kd_update, kdPick, md_append, md_extend, md_popl, md_get1, md_get2, md_popd, md_update, pairsOf_loc, items_loc, itemsA_loc, fieldsOf_loc, items_lst, items_fls, itemsA_lst, itemsA_fls, itemsA_tup, pairsOf_dct, pairsOf_lst, pairsOf_fls, pairsOf_tup, ix_lst, ix_fls, ix_tup, ix_dct, bLen_lst, bLen_fls, bLen_tup, bList, bSum, bMin1, bAll, bAny, bSorted, ne_ints_nil, ne_nil_nil, mAppend, mExtend, List.length_append, Nat.zero_add, seqSrc, lstSrc, itmSrc, List.map_map, mulOk_l, mulOk_r, divOk_l, natAbs_10, int_zero_add, atI_of, List.map_append, Int.reduceSub, Int.reduceEq, Int.reduceMod, Int.reduceDiv, Int.reduceBEq, Int.reduceBNe, frzD_loc, ↓endQ_app, ↓endQ_id, belows_map, below_tup, below_lst, below_fls, below_dct, below_int, below_str, below_bl, below_non, belows_nil, belows_cons, Bool.and_self, Bool.and_true, Bool.true_and, implies_true, cut_hi, cut_lo, opt_nil, opt_one, sl_lst, sl_fls, sl_loc, Option.bind_some, List.drop_succ_cons, List.drop_zero, List.take_succ_cons, List.take_zero, below_nat, natD_eq, keyD_int, keyD_str, cmp_in, cmp_nin, setD_loc, mPopL_loc, mPopD_loc, mUpdate_loc, isLoc_dct, mGet1, mGet2, ixL_loc, ixD_loc, atI_nat, ixN_nat, sem_mt', sem_con', sem_fd', sem_df', Option.map_some, Option.map_none, Option.bind_none, augD, List.eraseIdx_cons_zero, Int.reducePow, Nat.reducePow, and_self, Int.toNat_zero, negD_int, atI_last, add_loc_loc, add_lst_lst, add_loc_lst, add_lst_loc]))
def rowD (r : Row) : List (Key × Dt) := r.map fun x => (.inl (x.1 : Int), .int x.2)
def spD (l : List Nat) : List (Key × Dt) := l.map fun (s : Nat) => (.inl (s : Int), .bl true)
def ahV : Option (Nat × Nat) → Dt
  | none => .non
  | some p => .tup [.int p.1, .int p.2]
def ahD (a : Ah) : List (Key × Dt) := a.map fun x => (.inl (x.1 : Int), ahV x.2)
def mayD (may : List (List Nat)) : List Dt := may.map fun row => .lst (row.map natD)
theorem inl_inj {a b : Nat} : (Sum.inl (a : Int) : Key) = .inl (b : Int) ↔ a = b := by
  constructor
  · intro h; injection h with h; omega
  · rintro rfl; rfl
theorem kGet_inl {α : Type} (f : α → Dt) : ∀ (l : List (Nat × α)) (g : Nat), kGet (l.map fun x => ((.inl (x.1 : Int) : Key), f x.2)) (.inl (g : Int)) = (kGet l g).map f
  | [], _ => rfl
  | (k, v) :: l, g => by
    rw [List.map_cons, kGet_cons, kGet_cons]
    by_cases e : k = g
    · rw [if_pos e, if_pos (inl_inj.mpr e)]; rfl
    · rw [if_neg e, if_neg fun q => e (inl_inj.mp q)]; exact kGet_inl f l g
theorem keys_inl {α : Type} (f : α → Dt) (l : List (Nat × α)) (g : Nat) : (.inl (g : Int) : Key) ∈ (l.map fun x => ((.inl (x.1 : Int) : Key), f x.2)).map (·.1) ↔ g ∈ l.map (·.1) := by
  rw [List.map_map, List.mem_map, List.mem_map]
  constructor
  · rintro ⟨x, h1, h2⟩; exact ⟨x, h1, inl_inj.mp h2⟩
  · rintro ⟨x, h1, h2⟩; exact ⟨x, h1, inl_inj.mpr h2⟩
theorem kPut_inl {α : Type} (f : α → Dt) (l : List (Nat × α)) (g : Nat) (v : α) : kPut (l.map fun x => ((.inl (x.1 : Int) : Key), f x.2)) (.inl (g : Int)) (f v) = (kPut l g v).map fun x => (.inl (x.1 : Int), f x.2) := by
  by_cases h : g ∈ l.map (·.1)
  · rw [kPut_old h, kPut_old ((keys_inl f l g).mpr h), List.map_map, List.map_map]
    refine List.map_congr_left fun x _ => ?_
    show (if (Sum.inl (x.1 : Int) : Key) = .inl (g : Int) then ((Sum.inl (x.1 : Int) : Key), f v) else ((Sum.inl (x.1 : Int) : Key), f x.2)) = ((Sum.inl ((if x.1 = g then (x.1, v) else x).1 : Int) : Key), f (if x.1 = g then (x.1, v) else x).2)
    by_cases e : x.1 = g
    · rw [if_pos (inl_inj.mpr e), if_pos e]
    · rw [if_neg (fun q => e (inl_inj.mp q)), if_neg e]
  · rw [kPut_new h, kPut_new (fun q => h ((keys_inl f l g).mp q)), List.map_append]; rfl
theorem kDrop_inl {α : Type} (f : α → Dt) (l : List (Nat × α)) (g : Nat) : kDrop (l.map fun x => ((.inl (x.1 : Int) : Key), f x.2)) (.inl (g : Int)) = (kDrop l g).map fun x => (.inl (x.1 : Int), f x.2) := by
  unfold kDrop
  rw [List.filter_map]
  congr 1
  refine List.filter_congr fun x _ => ?_
  show decide ((Sum.inl (x.1 : Int) : Key) ≠ .inl (g : Int)) = decide (x.1 ≠ g)
  rw [decide_eq_decide]
  exact not_congr inl_inj
theorem has_ah (a : Ah) (o : Nat) : (kGet (ahD a) (.inl (o : Int))).isSome = decide (o ∈ a.map (·.1)) := by
  unfold ahD
  rw [kGet_inl ahV, Option.isSome_map]
  by_cases h : o ∈ a.map (·.1)
  · rw [decide_eq_true h]
    cases e : kGet a o with
    | none => exact absurd h (kGet_none.mp e)
    | some _ => rfl
  · rw [decide_eq_false h, kGet_none.mpr h]; rfl
theorem spD_eq (l : List Nat) : spD l = (l.map fun s => (s, ())).map fun x => (.inl (x.1 : Int), (fun _ => Dt.bl true) x.2) := by
  unfold spD; rw [List.map_map]; rfl
theorem keys_unit (l : List Nat) : (l.map fun s => (s, ())).map (·.1) = l := by
  rw [List.map_map]; simp [Function.comp_def]
theorem has_sp (l : List Nat) (o : Nat) : (kGet (spD l) (.inl (o : Int))).isSome = decide (o ∈ l) := by
  rw [spD_eq, kGet_inl (fun _ => Dt.bl true), Option.isSome_map]
  by_cases h : o ∈ l
  · rw [decide_eq_true h]
    cases e : kGet (l.map fun s => (s, ())) o with
    | none => exact absurd (by rw [keys_unit]; exact h) (kGet_none.mp e)
    | some _ => rfl
  · rw [decide_eq_false h, kGet_none.mpr (by rw [keys_unit]; exact h)]; rfl
theorem put_ah {a : Ah} {o : Nat} (h : o ∉ a.map (·.1)) (p : Nat × Nat) : kPut (ahD a) (.inl (o : Int)) (.tup [.int p.1, .int p.2]) = ahD (a ++ [(o, some p)]) := by
  have := kPut_inl ahV a o (some p)
  rw [kPut_new h] at this
  exact this
theorem put_sp {l : List Nat} {o : Nat} (h : o ∉ l) : kPut (spD l) (.inl (o : Int)) (.bl true) = spD (l ++ [o]) := by
  have h2 : (.inl (o : Int) : Key) ∉ (spD l).map (·.1) := by
    rw [spD_eq]
    intro q
    have := (keys_inl (fun _ => Dt.bl true) _ o).mp q
    rw [keys_unit] at this
    exact h this
  rw [kPut_new h2]
  unfold spD
  rw [List.map_append]; rfl
theorem spD_len (l : List Nat) : (spD l).length = l.length := List.length_map _
theorem ahD_len (l : Ah) : (ahD l).length = l.length := List.length_map _
theorem rowD_len (l : Row) : (rowD l).length = l.length := List.length_map _
theorem below_ah (n : Nat) (a : Ah) : belowk n (ahD a) = true := belowk_all fun d hd => by
  obtain ⟨x, _, rfl⟩ := List.mem_map.mp hd
  show below n (ahV x.2) = true
  cases x.2 <;> simp [ahV, below, belows]
theorem below_sp (n : Nat) (a : List Nat) : belowk n (spD a) = true := belowk_all fun d hd => by
  obtain ⟨x, _, rfl⟩ := List.mem_map.mp hd
  rw [below]
theorem below_row (n : Nat) (a : Row) : belowk n (rowD a) = true := belowk_all fun d hd => by
  obtain ⟨x, _, rfl⟩ := List.mem_map.mp hd
  rw [below]
theorem mayD_get {may : List (List Nat)} {g : Nat} (h : g < may.length) : (mayD may)[g]? = some (.lst ((may.getD g []).map natD)) := by
  unfold mayD
  rw [List.getElem?_map, List.getD_eq_getElem?_getD, List.getElem?_eq_getElem h]; rfl
theorem kMerge_nodup {κ α : Type} [DecidableEq κ] : ∀ (more l : List (κ × α)), ((l ++ more).map (·.1)).Nodup → kMerge l more = l ++ more
  | [], l, _ => by rw [List.append_nil]; rfl
  | x :: more, l, h => by
    show kMerge (kPut l x.1 x.2) more = _
    have hx : x.1 ∉ l.map (·.1) := by
      rw [List.map_append, List.nodup_append] at h
      intro q
      exact h.2.2 _ q _ (List.mem_map.mpr ⟨x, List.mem_cons_self .., rfl⟩) rfl
    rw [kPut_new hx]
    have e : l ++ [(x.1, x.2)] ++ more = l ++ x :: more := by simp
    rw [kMerge_nodup more _ (by rw [e]; exact h), e]
theorem tot_map {α β : Type} (f : α → Option β) (g : α → β) : ∀ (l : List α), (∀ x ∈ l, f x = some (g x)) → tot (l.map f) = some (l.map g)
  | [], _ => rfl
  | x :: l, h => by
    rw [List.map_cons, h x (List.mem_cons_self ..)]
    show (tot (l.map f)).map _ = _
    rw [tot_map f g l fun y hy => h y (List.mem_cons_of_mem _ hy)]; rfl
theorem bDict_none {s : Mem} {w0 : List Nat} (hn : w0.Nodup) (hs : w0.length ≤ sizeLine) : bDict true (.lst (w0.map fun (g : Nat) => .tup [.int (g : Int), .non])) s = some (.loc s.length, s ++ [.live (.dct (ahD (w0.map fun g => (g, none))))]) := by
  unfold bDict
  rw [items_lst, Option.bind_some, List.map_map, tot_map (pairD ∘ fun (g : Nat) => Dt.tup [.int (g : Int), .non]) (fun (g : Nat) => ((.inl (g : Int) : Key), Dt.non)) w0 fun g _ => rfl, Option.bind_some]
  have e : ahD (w0.map fun g => (g, none)) = w0.map fun (g : Nat) => ((.inl (g : Int) : Key), Dt.non) := by unfold ahD; rw [List.map_map]; rfl
  rw [kMerge_nodup _ _ ?_, List.nil_append, e, mkD_t, List.length_map, if_pos hs]
  rw [List.nil_append, List.map_map]
  exact List.pairwise_map.mpr (List.Pairwise.imp (fun {a b} h q => h (inl_inj.mp q)) hn)
/-! where a transport stands -/
def tfs (l : Nat) (may : List (List Nat)) (T : TS) : List (Str × Dt) := [("may", .lst (mayD may)), ("there", .loc (l + 1)), ("lack", .loc (l + 2)), ("given", .lst ((List.range T.given.length).map fun i => .loc (l + (i + 3)))), ("spent", .loc (l + (T.given.length + 3)))]
structure TAt (s : Mem) (l : Nat) (may : List (List Nat)) (T : TS) : Prop where
  obj : s[l]? = some (.live (.obj "Transport" (tfs l may T)))
  there : s[l + 1]? = some (.live (.lst (T.there.map .int)))
  lack : s[l + 2]? = some (.live (.lst (T.lack.map .int)))
  row : ∀ i, i < T.given.length → s[l + (i + 3)]? = some (.live (.dct (rowD (T.row i))))
  spent : s[l + (T.given.length + 3)]? = some (.live (.dct (spD T.spent)))
structure HasT (R : Prg) : Prop where
  ini : R.fns.lookup ("Transport.__init__" : Str) = some F_Transport___init__
  rea : R.fns.lookup ("Transport.reached" : Str) = some F_Transport_reached
  cha : R.fns.lookup ("Transport.change" : Str) = some F_Transport_change
  shi : R.fns.lookup ("Transport.shift" : Str) = some F_Transport_shift
  fil : R.fns.lookup ("Transport.fill" : Str) = some F_Transport_fill
  mini : R.mt "Transport" "__init__" = some ("Transport.__init__" : Str)
  mrea : R.mt "Transport" "reached" = some ("Transport.reached" : Str)
  mcha : R.mt "Transport" "change" = some ("Transport.change" : Str)
  mshi : R.mt "Transport" "shift" = some ("Transport.shift" : Str)
  mfil : R.mt "Transport" "fill" = some ("Transport.fill" : Str)
  fmay : R.fd "Transport" "may" = true
  fthere : R.fd "Transport" "there" = true
  flack : R.fd "Transport" "lack" = true
  fgiven : R.fd "Transport" "given" = true
  fspent : R.fd "Transport" "spent" = true
theorem fld_obj {G : Gs} {s : Mem} {l : Nat} {c f : Str} {fs : List (Str × Dt)} {d : Dt} (h : s[l]? = some (.live (.obj c fs))) (h1 : G.fd c f = true) (h2 : fs.lookup f = some d) : fldD G (.loc l) f s = some d := by
  unfold fldD
  rw [fieldsOf_loc, h]
  show (if G.fd c f = true then fs.lookup f else none) = _
  rw [if_pos h1, h2]
theorem meth_obj {G : Gs} {s : Mem} {l : Nat} {c m : Str} {fs : List (Str × Dt)} {q : Str} (h : s[l]? = some (.live (.obj c fs))) (h1 : fs.lookup m = none) (h2 : G.mt c m = some q) : methD G m (.loc l) s = some q := by
  unfold methD
  rw [fieldsOf_loc, h]
  show (if (fs.lookup m).isNone = true then G.mt c m else none) = _
  rw [h1, h2]; rfl
section
variable {R : Prg} (hT : HasT R) {s : Mem} {l : Nat} {may : List (List Nat)} {T : TS} {n : Nat}
theorem fd_sem (n : Nat) : (sem R n).fd = R.fd := sem_fd' R n
include hT
theorem f_may (A : TAt s l may T) : fldD (sem R n) (.loc l) "may" s = some (.lst (mayD may)) := fld_obj A.obj (by rw [sem_fd']; exact hT.fmay) rfl
theorem f_there (A : TAt s l may T) : fldD (sem R n) (.loc l) "there" s = some (.loc (l + 1)) := fld_obj A.obj (by rw [sem_fd']; exact hT.fthere) rfl
theorem f_lack (A : TAt s l may T) : fldD (sem R n) (.loc l) "lack" s = some (.loc (l + 2)) := fld_obj A.obj (by rw [sem_fd']; exact hT.flack) rfl
theorem f_given (A : TAt s l may T) : fldD (sem R n) (.loc l) "given" s = some (.lst ((List.range T.given.length).map fun i => .loc (l + (i + 3)))) := fld_obj A.obj (by rw [sem_fd']; exact hT.fgiven) rfl
theorem f_spent (A : TAt s l may T) : fldD (sem R n) (.loc l) "spent" s = some (.loc (l + (T.given.length + 3))) := fld_obj A.obj (by rw [sem_fd']; exact hT.fspent) rfl
theorem m_rea (A : TAt s l may T) : methD (sem R n) "reached" (.loc l) s = some ("Transport.reached" : Str) := meth_obj A.obj rfl (by rw [sem_mt']; exact hT.mrea)
theorem m_cha (A : TAt s l may T) : methD (sem R n) "change" (.loc l) s = some ("Transport.change" : Str) := meth_obj A.obj rfl (by rw [sem_mt']; exact hT.mcha)
theorem m_shi (A : TAt s l may T) : methD (sem R n) "shift" (.loc l) s = some ("Transport.shift" : Str) := meth_obj A.obj rfl (by rw [sem_mt']; exact hT.mshi)
theorem m_fil (A : TAt s l may T) : methD (sem R n) "fill" (.loc l) s = some ("Transport.fill" : Str) := meth_obj A.obj rfl (by rw [sem_mt']; exact hT.mfil)
omit hT
theorem TAt.app (A : TAt s l may T) (t : Mem) : TAt (s ++ t) l may T := ⟨get_app A.obj t, get_app A.there t, get_app A.lack t, fun i hi => get_app (A.row i hi) t, get_app A.spent t⟩
end
end QQ

/-! transport.py runs as its mirror: reached -/
namespace QQ
open PySem L2
local macro_rules | `(tactic| bv_omega) => `(tactic| ((try simp only [frame0, List.map_cons, List.map_nil, List.length_cons, List.length_nil, Nat.reduceAdd, Nat.reduceSub, List.replicate, List.cons_append, List.nil_append]); try simp only [↓r_var, ↓r_cst, ↓r_glb, ↓r_bin, ↓r_cmp, ↓r_chn, ↓r_bop, ↓r_neg, ↓r_nt, ↓r_ife, ↓r_tup, ↓r_lst, ↓r_dis, ↓r_ix, ↓r_slc, ↓r_fld, ↓r_call, ↓r_make, ↓r_meth, ↓r_blt, ↓r_mtd, ↓r_lc, ↓r_srtSet, ↓r_frz, ↓r_nil, ↓r_cons, ↓rB_one, ↓rB_more, ↓t_bop, ↓t_nt, ↓t_cmp, ↓t_chn, ↓t_var, ↓t_cst, ↓t_ix, ↓t_fld, ↓t_call, ↓t_meth, ↓t_blt, ↓tB_one, ↓tB_more, ↓ts_nil, ↓ts_one, ↓i_seq, ↓i_rng, ↓i_enu, ↓i_zip, ↓i_itm, ↓x_expr, ↓x_asg, ↓x_par, ↓x_aug, ↓x_six, ↓x_aix, ↓x_sfd, ↓x_ite, ↓x_whl, ↓x_frs, ↓x_ret, ↓x_retN, ↓x_pas, ↓x_brk, ↓x_ctn, ↓xs_nil, ↓xs_cons, ↓RdQ_some, ↓LfQ_some, ↓RdQ_none, ↓LfQ_none, RdQ_some, LfQ_some, RdQ_none, LfQ_none, RdQ_ite, LfQ_ite, ↓nxQ_nx, ↓nxQ_rt, ↓nxQ_bk, ↓nxQ_ct, ↓lpQ_nx, ↓lpQ_rt, ↓lpQ_bk, ↓lpQ_ct, ↓fnQ_nx, ↓fnQ_rt, ↓endQ_f, ↓notQ_bl, ↓bopQ_bl, ↓parQ_two, isNon_non, add_int, sub_int, mul_int', fdiv_int, mod_int, pow_int, eq_int, ne_int, lt_int, le_int, gt_int, ge_int, eq_str, ne_str, eq_bl, is_non, is_tup, is_int, isn_non, isn_tup, isn_int, true_bl, true_int, mkT_if, mkL_t, mkL_f, mkD_t, mkD_f, blt_len, blt_list, blt_sum, blt_min1, blt_all, blt_any, blt_sorted, blt_dict, blt_min2, blt_isi, bMin2_int, List.getElem?_cons_zero, List.getElem?_cons_succ, Option.join_some, Option.join_none, List.set_cons_zero, List.set_cons_succ, asgT, setsT, wipeD, List.map_cons, List.map_nil, frame0, List.replicate, List.length_cons, List.length_nil, List.cons_append, List.nil_append, List.append_nil, Nat.reduceAdd, Nat.reduceSub, Nat.reduceLeDiff, Nat.reduceLT, Int.reduceLT, Int.reduceLE, Int.reduceToNat, Int.reduceNeg, Int.reducePow, Int.reduceAdd, Int.reduceMul, decide_eq_true_eq, if_true, if_false, ite_true, ite_false, Bool.false_eq_true, Bool.true_eq_false, Bool.not_true, Bool.not_false, true_and, and_true, Bool.not_eq_true', Bool.not_eq_true, decide_eq_false_iff_not, reduceCtorEq, decide_true, decide_false, le_size, ne_eq, not_true_eq_false, not_false_eq_true, Nat.zero_le, gsOn_nil, enter, leave, List.append_assoc, gat, gat0, sat, sat0, tat, kd_append, kd_extend, kd_pop, kd_get, kd_update, kdPick, md_append, md_extend, md_popl, md_get1, md_get2, md_popd, md_update, pairsOf_loc, items_loc, itemsA_loc, fieldsOf_loc, items_lst, items_fls, itemsA_lst, itemsA_fls, itemsA_tup, pairsOf_dct, pairsOf_lst, pairsOf_fls, pairsOf_tup, ix_lst, ix_fls, ix_tup, ix_dct, bLen_lst, bLen_fls, bLen_tup, bList, bSum, bMin1, bAll, bAny, bSorted, ne_ints_nil, ne_nil_nil, mAppend, mExtend, List.length_append, Nat.zero_add, seqSrc, lstSrc, itmSrc, List.map_map, mulOk_l, mulOk_r, divOk_l, natAbs_10, int_zero_add, atI_of, List.map_append, Int.reduceSub, Int.reduceEq, Int.reduceMod, Int.reduceDiv, Int.reduceBEq, Int.reduceBNe, frzD_loc, ↓endQ_app, ↓endQ_id, belows_map, below_tup, below_lst, below_fls, below_dct, below_int, below_str, below_bl, below_non, belows_nil, belows_cons, Bool.and_self, Bool.and_true, Bool.true_and, implies_true, cut_hi, cut_lo, opt_nil, opt_one, sl_lst, sl_fls, sl_loc, Option.bind_some, List.drop_succ_cons, List.drop_zero, List.take_succ_cons, List.take_zero, below_nat, natD_eq, keyD_int, keyD_str, cmp_in, cmp_nin, setD_loc, mPopL_loc, mPopD_loc, mUpdate_loc, isLoc_dct, mGet1, mGet2, ixL_loc, ixD_loc, atI_nat, ixN_nat, sem_mt', sem_con', sem_fd', sem_df', Option.map_some, Option.map_none, Option.bind_none, augD, List.eraseIdx_cons_zero, Int.reducePow, Nat.reducePow, and_self, Int.toNat_zero, negD_int, atI_last, add_loc_loc, add_lst_lst, add_loc_lst, add_lst_loc]))
def bodyRow : Sms := (.cons (.ite (.cmp .NotIn (.var 8) (.var 3))
  (.cons (.six (.var 3) (.var 8) (.tup (.cons (.var 7) (.cons (.var 4) .nil))))
  (.cons (.expr (.mtd false (.var 5) "append" (.cons (.var 8) .nil)))
  .nil))
  .nil)
  .nil)
theorem RI.size {nw : Nat} {may : List (List Nat)} {T : TS} {spent w0 : List Nat} {a : Ah} {sn : List Nat} (R : RI nw may T spent w0 a sn) : a.length ≤ nw := by
  have := nodup_len R.nd R.lt
  rwa [List.length_map] at this
theorem scanRow_nil (s g : Nat) (a : Ah) (w : List Nat) : scanRow s g [] a w = (a, w) := rfl
theorem scanRow_cons (s g o : Nat) (r : List Nat) (a : Ah) (w : List Nat) : scanRow s g (o :: r) a w = if o ∈ a.map (·.1) then scanRow s g r a w else scanRow s g r (a ++ [(o, some (s, g))]) (w ++ [o]) := rfl
theorem row_run {G : Gs} {nw : Nat} {may : List (List Nat)} {T : TS} {spent w0 : List Nat} {sup g : Nat} (hnw : nw ≤ 1000000) (hrow : ∀ o ∈ keys (T.row sup), o < nw) (hm : sup ∈ may.getD g []) (hsp : sup ∉ spent)
    {s : Mem} {L : Nat} (hL : s.length = L) {gl : Nat} {o : Ob} (hgl : s[gl]? = some (.lock o)) {x0 x1 x2 : Option Dt} {sn : List Nat} {c3 : Cel} {E : Es} {Q : Fl → Fra → Mem → Prop} {a : Ah} {w : List Nat} {x8 : Option Dt}
    (R : RI nw may T spent w0 a sn) (hg : g ∈ keys a) (hw : w.length ≤ a.length)
    (hQ : ∀ x8, Q .nx [x0, x1, x2, some (.loc L), some (.int g), some (.loc (L + 1)), some (.loc (L + 2)), some (.int sup), x8]
      (s ++ [.live (.dct (ahD (scanRow sup g (keys (T.row sup)) a w).1)), .live (.lst ((scanRow sup g (keys (T.row sup)) a w).2.map natD)), c3])) :
    RunS (forS [.lk gl o] (.nm 8) (execs G bodyRow) ((keys (T.row sup)).map natD) [x0, x1, x2, some (.loc L), some (.int g), some (.loc (L + 1)), some (.loc (L + 2)), some (.int sup), x8])
      (s ++ [.live (.dct (ahD a)), .live (.lst (w.map natD)), c3]) E Q := by
  subst hL
  refine RunS_form _ _ (fun pre φ s' => ∃ a1 w1 x8, φ = [x0, x1, x2, some (.loc s.length), some (.int g), some (.loc (s.length + 1)), some (.loc (s.length + 2)), some (.int sup), x8] ∧
    s' = s ++ [.live (.dct (ahD a1)), .live (.lst (w1.map natD)), c3] ∧ RI nw may T spent w0 a1 sn ∧ g ∈ keys a1 ∧ w1.length ≤ a1.length ∧ scanRow sup g ((keys (T.row sup)).drop pre.length) a1 w1 = scanRow sup g (keys (T.row sup)) a w)
    ⟨a, w, x8, rfl, rfl, R, hg, hw, by simp⟩ ?_ ?_ ?_
  · rintro pre φ s' ⟨a1, w1, x8, rfl, rfl, _⟩
    rw [gsOn_lk]
    exact ⟨get_app hgl _, gsNil⟩
  · rintro pre k post φ s' hk ⟨a1, w1, x8, rfl, rfl, R1, hg1, hw1, e1⟩ _
    have hd : (keys (T.row sup)).drop pre.length = k :: post := by rw [hk]; simp
    have hd2 : (keys (T.row sup)).drop (pre.length + 1) = post := by rw [hk, ← List.drop_drop, List.drop_left]; rfl
    have hkm : k ∈ keys (T.row sup) := by rw [hk]; simp
    have hsz := R1.size
    rw [hd, scanRow_cons] at e1
    have ep : pairsOf (s ++ [.live (.dct (ahD a1)), .live (.lst (w1.map natD)), c3]) (.loc s.length) = some (ahD a1) := by rw [pairsOf_loc, gat0]; rfl
    simp only [bodyRow]
    bv_omega
    rw [inD_p ep]
    bv_omega
    rw [has_ah]
    by_cases hin : k ∈ a1.map (·.1)
    · rw [if_pos hin] at e1
      simp only [hin, decide_true, Bool.not_true]
      bv_omega
      exact ⟨a1, w1, _, rfl, rfl, R1, hg1, hw1, by rw [hd2]; exact e1⟩
    · rw [if_neg hin] at e1
      simp only [hin, decide_false, Bool.not_false]
      bv_omega
      rw [put_ah hin (sup, g)]
      refine ⟨by rw [ahD_len]; exact Nat.lt_of_lt_of_le (by omega : _ < 16777216) (of_eq_true (le_size (Nat.le_refl _))), ?_⟩
      bv_omega
      refine ⟨by rw [List.length_map]; exact Nat.lt_of_lt_of_le (by omega : _ < 16777216) (of_eq_true (le_size (Nat.le_refl _))), ?_⟩
      obtain ⟨new, h1, h2, h3, h4⟩ := scanRow_ok (spent := spent) (w0 := w0) hrow hm hsp [k] a1 w1 sn (fun x hx => by rw [List.mem_singleton] at hx; rw [hx]; exact hkm) hg1 R1
      have e2 : (scanRow sup g [k] a1 w1).1 = a1 ++ [(k, some (sup, g))] := by unfold scanRow; rw [if_neg hin]; unfold scanRow; rfl
      rw [e2] at h3
      refine ⟨a1 ++ [(k, some (sup, g))], w1 ++ [k], _, rfl, ?_, h3, by rw [keys_append]; exact List.mem_append_left _ hg1, by rw [List.length_append, List.length_append]; simp; omega, by rw [hd2]; exact e1⟩
      rw [List.map_append]; rfl
  · rintro φ s' ⟨a1, w1, x8, rfl, rfl, R1, hg1, hw1, e1⟩ _
    rw [List.drop_length, scanRow_nil] at e1
    have q := hQ x8
    rw [← e1] at q
    exact q
theorem set_back {α : Type} {s : List α} {l : Nat} {c x : α} (h : s[l]? = some c) : (s.set l x).set l c = s := by
  rw [List.set_set]
  apply List.ext_getElem?
  intro i
  rw [List.getElem?_set]
  by_cases e : l = i
  · subst e
    have hl : l < s.length := by
      rcases Nat.lt_or_ge l s.length with q | q
      · exact q
      · rw [List.getElem?_eq_none q] at h; cases h
    rw [if_pos rfl, if_pos hl, h]
  · rw [if_neg e]
theorem set_here {α : Type} {s : List α} {l : Nat} {c x : α} (h : s[l]? = some c) : (s.set l x)[l]? = some x := by
  have hl : l < s.length := by
    rcases Nat.lt_or_ge l s.length with q | q
    · exact q
    · rw [List.getElem?_eq_none q] at h; cases h
  rw [List.getElem?_set_self hl]
theorem scanSup_nil (T : TS) (spent : List Nat) (g : Nat) (a : Ah) (w sn : List Nat) : scanSup T spent g [] a w sn = .inl (a, w, sn) := rfl
theorem scanSup_cons (T : TS) (spent : List Nat) (g s : Nat) (r : List Nat) (a : Ah) (w sn : List Nat) : scanSup T spent g (s :: r) a w sn = if s ∈ sn ∨ s ∈ spent then scanSup T spent g r a w sn
    else if 0 < T.th s then .inr (a, (s, g), sn ++ [s])
    else scanSup T spent g r (scanRow s g ((T.row s).map (·.1)) a w).1 (scanRow s g ((T.row s).map (·.1)) a w).2 (sn ++ [s]) := rfl
theorem reachF_cons (may : List (List Nat)) (T : TS) (spent : List Nat) (n : Nat) (a : Ah) (g : Nat) (w sn : List Nat) : reachF may T spent (n + 1) a (g :: w) sn = match scanSup T spent g (may.getD g []) a w sn with
    | .inl (a, w, sn) => reachF may T spent n a w sn
    | .inr (a, l, sn) => (a, some l, sn) := rfl
theorem reachF_nil (may : List (List Nat)) (T : TS) (spent : List Nat) (n : Nat) (a : Ah) (sn : List Nat) : reachF may T spent n a [] sn = (a, none, sn) := by cases n <;> rfl
theorem keys_row (r : Row) : (rowD r).map (fun kv => dKey kv.1) = (keys r).map natD := by
  unfold rowD; rw [List.map_map, List.map_map]; rfl
def retSup : Sm := .ret (.tup (.cons (.frz (.var 3)) (.cons (.tup (.cons (.var 7) (.cons (.var 4) .nil))) (.cons (.frz (.var 6)) .nil))))
def bodySup : Sms := (.cons (.ite (.bop false (.cons (.cmp .In (.var 7) (.var 6)) (.cons (.cmp .In (.var 7) (.var 2)) .nil)))
  (.cons .ctn
  .nil)
  .nil)
  (.cons (.six (.var 6) (.var 7) (.cst (.bl true)))
  (.cons (.ite (.cmp .Gt (.ix (.fld (.var 0) "there") (.var 7)) (.cst (.int 0)))
  (.cons retSup
  .nil)
  .nil)
  (.cons (.frs (.nm 8) (.seq (.ix (.fld (.var 0) "given") (.var 7)))
  bodyRow)
  .nil))))
/-- what reached tells -/
def reD (r : Ah × Option (Nat × Nat) × List Nat) : Dt := .tup [.dct (ahD r.1), ahV r.2.1, .dct (spD r.2.2)]
section
variable {R : Prg} (hT : HasT R) {n : Nat} {s : Mem} {l : Nat} {may : List (List Nat)} {T : TS} {spent w0 : List Nat} {ns nw : Nat} {sp : Dt} (A : TAt s l may T) (hnw : nw ≤ 1000000) (hns : ns ≤ 1000000)
  (hlt : T.there.length = ns) (hlg : T.given.length = ns) (hrow : ∀ s, ∀ o ∈ keys (T.row s), o < nw) (hmay : ∀ g, ∀ s ∈ may.getD g [], s < ns) (hsp : ∀ t, pairsOf (s ++ t) sp = some (spD spent))
include hT A hnw hns hlt hlg hrow hmay hsp
def stR (s : Mem) (a : Ah) (w sn : List Nat) : Mem := s ++ [.live (.dct (ahD a)), .live (.lst (w.map natD)), .live (.dct (spD sn))]
theorem sup_run {g : Nat} {a : Ah} {w sn : List Nat} {x1 x7 x8 : Option Dt} {E : Es} {Q : Fl → Fra → Mem → Prop} (hsn : ∀ s ∈ sn, s < ns) (RR : RI nw may T spent w0 a sn) (hg : g ∈ keys a) (hw : w.length ≤ a.length)
    (hI : ∀ (a' : Ah) (w' sn' : List Nat) (x7 x8 : Option Dt), scanSup T spent g (may.getD g []) a w sn = .inl (a', w', sn') → RI nw may T spent w0 a' sn' → (∀ s ∈ sn', s < ns) → w'.length ≤ a'.length → Q .nx [some (.loc l), x1, some sp, some (.loc s.length), some (.int g), some (.loc (s.length + 1)), some (.loc (s.length + 2)), x7, x8] (stR s a' w' sn'))
    (hR : ∀ (a' : Ah) (p : Nat × Nat) (sn' : List Nat) (φ : Fra) (w' : List Nat), scanSup T spent g (may.getD g []) a w sn = .inr (a', p, sn') → Q (.rt (reD (a', some p, sn'))) φ (s ++ [.dead, .live (.lst (w'.map natD)), .dead])) :
    RunS (forS [] (.nm 7) (execs (sem R n) bodySup) ((may.getD g []).map natD) [some (.loc l), x1, some sp, some (.loc s.length), some (.int g), some (.loc (s.length + 1)), some (.loc (s.length + 2)), x7, x8]) (stR s a w sn) E Q := by
  refine RunS_form _ _ (fun pre φ s' => ∃ a1 w1 sn1 x7 x8, φ = [some (.loc l), x1, some sp, some (.loc s.length), some (.int g), some (.loc (s.length + 1)), some (.loc (s.length + 2)), x7, x8] ∧
    s' = stR s a1 w1 sn1 ∧ RI nw may T spent w0 a1 sn1 ∧ (∀ s ∈ sn1, s < ns) ∧ g ∈ keys a1 ∧ w1.length ≤ a1.length ∧ scanSup T spent g ((may.getD g []).drop pre.length) a1 w1 sn1 = scanSup T spent g (may.getD g []) a w sn)
    ⟨a, w, sn, x7, x8, rfl, rfl, RR, hsn, hg, hw, by simp⟩ (fun _ _ _ _ => gsNil) ?_ ?_
  · rintro pre k post φ s' hk ⟨a1, w1, sn1, x7, x8, rfl, rfl, R1, hsn1, hg1, hw1, e1⟩ _
    have hd : (may.getD g []).drop pre.length = k :: post := by rw [hk]; simp
    have hd2 : (may.getD g []).drop (pre.length + 1) = post := by rw [hk, ← List.drop_drop, List.drop_left]; rfl
    have hkm : k ∈ may.getD g [] := by rw [hk]; simp
    have hkn := hmay g k hkm
    have hsz := R1.size
    have hsz2 := nodup_len R1.snd hsn1
    rw [hd, scanSup_cons] at e1
    have ep : pairsOf (stR s a1 w1 sn1) (.loc (s.length + 2)) = some (spD sn1) := by unfold stR; rw [pairsOf_loc, gat]; rfl
    have ep2 : pairsOf (stR s a1 w1 sn1) sp = some (spD spent) := hsp _
    have hsL : ∀ {m : Nat}, m ≤ 1000000 → m < sizeLine := fun h => Nat.lt_of_lt_of_le (by omega : _ < 16777216) (of_eq_true (le_size (Nat.le_refl _)))
    simp only [bodySup]
    bv_omega
    rw [inD_p ep]
    bv_omega
    rw [has_sp]
    by_cases hin : k ∈ sn1
    · rw [if_pos (.inl hin)] at e1
      simp only [hin, decide_true]
      bv_omega
      exact ⟨a1, w1, sn1, _, _, rfl, rfl, R1, hsn1, hg1, hw1, by rw [hd2]; exact e1⟩
    · simp only [hin, decide_false]
      bv_omega
      rw [inD_p ep2]
      bv_omega
      rw [has_sp]
      by_cases hin2 : k ∈ spent
      · rw [if_pos (.inr hin2)] at e1
        simp only [hin2, decide_true]
        bv_omega
        exact ⟨a1, w1, sn1, _, _, rfl, rfl, R1, hsn1, hg1, hw1, by rw [hd2]; exact e1⟩
      · rw [if_neg (fun q => q.elim hin hin2)] at e1
        simp only [hin2, decide_false]
        have A1 := A.app [.live (.dct (ahD a1)), .live (.lst (w1.map natD)), .live (.dct (spD (sn1 ++ [k])))]
        have hths : T.there[k]? = some (T.th k) := by
          unfold TS.th
          rw [List.getD_eq_getElem?_getD, List.getElem?_eq_getElem (by omega)]; rfl
        unfold stR
        bv_omega
        rw [put_sp hin]
        refine ⟨by rw [spD_len]; exact hsL (by omega), ?_⟩
        bv_omega
        rw [f_there hT A1]
        bv_omega
        rw [A1.there]
        bv_omega
        rw [List.getElem?_map, hths]
        bv_omega
        by_cases hth : 0 < T.th k
        · rw [if_pos hth] at e1
          rw [if_pos hth]
          simp only [retSup]
          bv_omega
          exact hR a1 (k, g) (sn1 ++ [k]) _ w1 e1.symm
        · rw [if_neg hth] at e1
          rw [if_neg hth]
          bv_omega
          rw [f_given hT A1]
          bv_omega
          have hgl := A.row k (by omega)
          have hgl1 := A1.row k (by omega)
          rw [List.getElem?_map, List.getElem?_range (by omega)]
          bv_omega
          rw [hgl1]
          bv_omega
          rw [keys_row, set_app hgl]
          have hlen : (s.set (l + (k + 3)) (.lock (.dct (rowD (T.row k))))).length = s.length := List.length_set ..
          obtain ⟨new, h1, h2, h3, h4⟩ := scanRow_ok (spent := spent) (w0 := w0) (hrow k) hkm hin2 (keys (T.row k)) a1 w1 sn1 (fun _ h => h) hg1 R1
          refine row_run (nw := nw) (may := may) (T := T) (spent := spent) (w0 := w0) (sn := sn1) (sup := k) (g := g) hnw (hrow k) hkm hin2 hlen (set_here hgl) R1 hg1 hw1 fun x8 => ?_
          have R2 : RI nw may T spent w0 (scanRow k g (keys (T.row k)) a1 w1).1 (sn1 ++ [k]) := by
            have hg2 : g ∈ keys (scanRow k g (keys (T.row k)) a1 w1).1 := by rw [h1, keys_append]; exact List.mem_append_left _ hg1
            refine ⟨h3.nd, h3.lt, h3.wz, h3.anc, ?_, fun x hx => ?_⟩
            · rw [List.nodup_append]
              refine ⟨R1.snd, by simp, fun x hx y hy => ?_⟩
              rw [List.mem_singleton] at hy
              subst hy
              rintro rfl
              exact hin hx
            · rcases List.mem_append.mp hx with hx | hx
              · exact h3.sp x hx
              · rw [List.mem_singleton] at hx
                subst hx
                exact ⟨hin2, by omega, h4, g, hg2, hkm⟩
          bv_omega
          have e3 : ∀ t : Mem, (s.set (l + (k + 3)) (.lock (.dct (rowD (T.row k)))) ++ t).set (l + (k + 3)) (.live (.dct (rowD (T.row k)))) = s ++ t := fun t => by
            rw [set_app (set_here hgl), set_back hgl]
          rw [e3]
          refine ⟨_, _, sn1 ++ [k], _, _, rfl, rfl, R2, fun x hx => ?_, by rw [h1, keys_append]; exact List.mem_append_left _ hg1, ?_, by rw [hd2]; exact e1⟩
          · rcases List.mem_append.mp hx with hx | hx
            · exact hsn1 x hx
            · rw [List.mem_singleton] at hx; subst hx; exact hkn
          · rw [h1, h2, List.length_append, List.length_append, List.length_map]; omega
  · rintro φ s' ⟨a1, w1, sn1, x7, x8, rfl, rfl, R1, hsn1, hg1, hw1, e1⟩ _
    rw [List.drop_length, scanSup_nil] at e1
    exact hI a1 w1 sn1 x7 x8 e1.symm R1 hsn1 hw1
theorem c_reached {E : Ep} {Q : Dt → Mem → Prop} (hl : may.length = nw) (hn : w0.Nodup) (hw0 : ∀ g ∈ w0, g < nw) :
    RunE ((sem R (n + 1)).fn "Transport.reached" [.loc l, .lst (w0.map natD), sp]) s E Q ↔ Q (reD (reach0 may T w0 spent)) s := by
  have hsL : ∀ {m : Nat}, m ≤ 1000000 → m ≤ sizeLine := fun h => Nat.le_of_lt (Nat.lt_of_lt_of_le (by omega : _ < 16777216) (of_eq_true (le_size (Nat.le_refl _))))
  have hwl := nodup_len hn hw0
  refine c_of ?_
  rw [sem_fn hT.rea, RunE_callF]
  simp only [F_Transport_reached]
  bv_omega
  rw [r_lcn w0 natD (fun (g : Nat) => .tup [.int (g : Int), .non]) gsNil]
  · bv_omega
    refine ⟨by rw [List.length_map]; exact hsL (by omega), ?_⟩
    rw [bDict_none hn (hsL (by omega))]
    bv_omega
    refine ⟨by rw [List.length_map]; exact hsL (by omega), ?_⟩
    have hk : keys (w0.map fun g => (g, (none : Option (Nat × Nat)))) = w0 := by simp [keys, Function.comp_def]
    refine RunS_while (fun m φ s' => ∃ pop a w sn x4 x7 x8, φ = [some (.loc l), some (.lst (w0.map natD)), some sp, some (.loc s.length), x4, some (.loc (s.length + 1)), some (.loc (s.length + 2)), x7, x8] ∧
      s' = stR s a w sn ∧ keys a = pop ++ w ∧ nw + 1 ≤ m + pop.length ∧ RI nw may T spent w0 a sn ∧ (∀ s ∈ sn, s < ns) ∧ reachF may T spent m a w sn = reach0 may T w0 spent) ?_
      (n := may.length + 1) ⟨[], _, w0, [], _, _, _, rfl, rfl, hk, by rw [hl]; simp, ⟨by rw [hk]; exact hn, by rw [hk]; exact hw0, by rw [hk]; exact fun _ h => h, fun i o v e => ?_, List.nodup_nil, (fun s h => by cases h)⟩, (fun s h => by cases h), rfl⟩
    · rintro m φ s' ⟨pop, a, w, sn, x4, x7, x8, rfl, rfl, hk1, hm, R1, hsn1, e1⟩
      have hsz := R1.size
      have hsz3 : a.length = pop.length + w.length := by
        have := congrArg List.length hk1
        rwa [List.length_map, List.length_append] at this
      have hc5 : (stR s a w sn)[s.length + 1]? = some (.live (.lst (w.map natD))) := by unfold stR; rw [gat]; rfl
      bv_omega
      rw [ne_nats_nil hc5]
      cases w with
      | nil =>
        bv_omega
        rw [reachF_nil] at e1
        unfold stR
        bv_omega
        rw [← e1]
        exact ⟨by rw [below_ah, below_sp]; rfl, rfl⟩
      | cons g w =>
        obtain ⟨m, rfl⟩ : ∃ m', m = m' + 1 := ⟨m - 1, by simp at hsz3; omega⟩
        rw [reachF_cons] at e1
        have hgk : g ∈ keys a := by rw [hk1]; simp
        have hgn := R1.lt g hgk
        unfold stR
        bv_omega
        rw [f_may hT (A.app _)]
        bv_omega
        rw [mayD_get (by omega)]
        bv_omega
        refine sup_run hT A hnw hns hlt hlg hrow hmay hsp hsn1 R1 hgk (by simp at hsz3; omega) ?_ ?_
        · intro a' w' sn' x7 x8 e R' hs' hw'
          have hz := scanSup_ok (spent := spent) (w0 := w0) (g := g) hrow (may.getD g []) a w sn (fun _ h => h) hgk R1
          rw [e] at hz e1
          obtain ⟨_, ⟨new, z1, z2⟩, _, _⟩ := hz
          bv_omega
          refine ⟨m, Nat.lt_succ_self m, pop ++ [g], a', w', sn', _, _, _, rfl, rfl, ?_, by rw [List.length_append, List.length_singleton]; omega, R', hs', e1⟩
          rw [z1, z2, keys_append, hk1]; simp
        · intro a' p sn' φ w' e
          rw [e] at e1
          have e1 : (a', some p, sn') = reach0 may T w0 spent := e1
          rw [← e1]
          bv_omega
          unfold reD ahV
          rw [below_tup, belows_cons, below_dct, below_ah, belows_cons, below_tup, belows_cons, below_int, belows_cons, below_int, belows_nil, belows_cons, below_dct, below_sp, belows_nil]; rfl
    · rw [List.getElem?_map] at e
      obtain ⟨x, h1, h2⟩ := Option.map_eq_some_iff.mp e
      cases h2
      exact .inl ⟨rfl, List.mem_of_getElem? h1⟩
  · intro g hg
    refine ⟨_, rfl, ?_⟩
    bv_omega
end
end QQ

/-! transport.py runs as its mirror: change, shift -/
namespace QQ
open PySem L2
local macro_rules | `(tactic| bv_omega) => `(tactic| ((try simp only [frame0, List.map_cons, List.map_nil, List.length_cons, List.length_nil, Nat.reduceAdd, Nat.reduceSub, List.replicate, List.cons_append, List.nil_append]); try simp only [↓r_var, ↓r_cst, ↓r_glb, ↓r_bin, ↓r_cmp, ↓r_chn, ↓r_bop, ↓r_neg, ↓r_nt, ↓r_ife, ↓r_tup, ↓r_lst, ↓r_dis, ↓r_ix, ↓r_slc, ↓r_fld, ↓r_call, ↓r_make, ↓r_meth, ↓r_blt, ↓r_mtd, ↓r_lc, ↓r_srtSet, ↓r_frz, ↓r_nil, ↓r_cons, ↓rB_one, ↓rB_more, ↓t_bop, ↓t_nt, ↓t_cmp, ↓t_chn, ↓t_var, ↓t_cst, ↓t_ix, ↓t_fld, ↓t_call, ↓t_meth, ↓t_blt, ↓tB_one, ↓tB_more, ↓ts_nil, ↓ts_one, ↓i_seq, ↓i_rng, ↓i_enu, ↓i_zip, ↓i_itm, ↓x_expr, ↓x_asg, ↓x_par, ↓x_aug, ↓x_six, ↓x_aix, ↓x_sfd, ↓x_ite, ↓x_whl, ↓x_frs, ↓x_ret, ↓x_retN, ↓x_pas, ↓x_brk, ↓x_ctn, ↓xs_nil, ↓xs_cons, ↓RdQ_some, ↓LfQ_some, ↓RdQ_none, ↓LfQ_none, RdQ_some, LfQ_some, RdQ_none, LfQ_none, RdQ_ite, LfQ_ite, ↓nxQ_nx, ↓nxQ_rt, ↓nxQ_bk, ↓nxQ_ct, ↓lpQ_nx, ↓lpQ_rt, ↓lpQ_bk, ↓lpQ_ct, ↓fnQ_nx, ↓fnQ_rt, ↓endQ_f, ↓notQ_bl, ↓bopQ_bl, ↓parQ_two, isNon_non, add_int, sub_int, mul_int', fdiv_int, mod_int, pow_int, eq_int, ne_int, lt_int, le_int, gt_int, ge_int, eq_str, ne_str, eq_bl, is_non, is_tup, is_int, isn_non, isn_tup, isn_int, true_bl, true_int, mkT_if, mkL_t, mkL_f, mkD_t, mkD_f, blt_len, blt_list, blt_sum, blt_min1, blt_all, blt_any, blt_sorted, blt_dict, blt_min2, blt_isi, bMin2_int, List.getElem?_cons_zero, List.getElem?_cons_succ, Option.join_some, Option.join_none, List.set_cons_zero, List.set_cons_succ, asgT, setsT, wipeD, List.map_cons, List.map_nil, frame0, List.replicate, List.length_cons, List.length_nil, List.cons_append, List.nil_append, List.append_nil, Nat.reduceAdd, Nat.reduceSub, Nat.reduceLeDiff, Nat.reduceLT, Int.reduceLT, Int.reduceLE, Int.reduceToNat, Int.reduceNeg, Int.reducePow, Int.reduceAdd, Int.reduceMul, decide_eq_true_eq, if_true, if_false, ite_true, ite_false, Bool.false_eq_true, Bool.true_eq_false, Bool.not_true, Bool.not_false, true_and, and_true, Bool.not_eq_true', Bool.not_eq_true, decide_eq_false_iff_not, reduceCtorEq, decide_true, decide_false, le_size, ne_eq, not_true_eq_false, not_false_eq_true, Nat.zero_le, gsOn_nil, enter, leave, List.append_assoc, gat, gat0, sat, sat0, tat, kd_append, kd_extend, kd_pop, kd_get, kd_update, kdPick, md_append, md_extend, md_popl, md_get1, md_get2, md_popd, md_update, pairsOf_loc, items_loc, itemsA_loc, fieldsOf_loc, items_lst, items_fls, itemsA_lst, itemsA_fls, itemsA_tup, pairsOf_dct, pairsOf_lst, pairsOf_fls, pairsOf_tup, ix_lst, ix_fls, ix_tup, ix_dct, bLen_lst, bLen_fls, bLen_tup, bList, bSum, bMin1, bAll, bAny, bSorted, ne_ints_nil, ne_nil_nil, mAppend, mExtend, List.length_append, Nat.zero_add, seqSrc, lstSrc, itmSrc, List.map_map, mulOk_l, mulOk_r, divOk_l, natAbs_10, int_zero_add, atI_of, List.map_append, Int.reduceSub, Int.reduceEq, Int.reduceMod, Int.reduceDiv, Int.reduceBEq, Int.reduceBNe, frzD_loc, ↓endQ_app, ↓endQ_id, belows_map, below_tup, below_lst, below_fls, below_dct, below_int, below_str, below_bl, below_non, belows_nil, belows_cons, Bool.and_self, Bool.and_true, Bool.true_and, implies_true, cut_hi, cut_lo, opt_nil, opt_one, sl_lst, sl_fls, sl_loc, Option.bind_some, List.drop_succ_cons, List.drop_zero, List.take_succ_cons, List.take_zero, below_nat, natD_eq, keyD_int, keyD_str, cmp_in, cmp_nin, setD_loc, mPopL_loc, mPopD_loc, mUpdate_loc, isLoc_dct, mGet1, mGet2, ixL_loc, ixD_loc, atI_nat, ixN_nat, sem_mt', sem_con', sem_fd', sem_df', Option.map_some, Option.map_none, Option.bind_none, augD, List.eraseIdx_cons_zero, Int.reducePow, Nat.reducePow, and_self, Int.toNat_zero, negD_int, atI_last, add_loc_loc, add_lst_lst, add_loc_lst, add_lst_loc]))
def tcells (l : Nat) (may : List (List Nat)) (T : TS) : List Cel := .live (.obj "Transport" (tfs l may T)) :: .live (.lst (T.there.map .int)) :: .live (.lst (T.lack.map .int)) :: ((T.given.map fun r => .live (.dct (rowD r))) ++ [.live (.dct (spD T.spent))])
def tS (s0 : Mem) (may : List (List Nat)) (T : TS) (r : List Cel) : Mem := s0 ++ (tcells s0.length may T ++ r)
theorem row_get {T : TS} {i : Nat} (h : i < T.given.length) : T.given[i]? = some (T.row i) := by
  unfold TS.row
  rw [List.getD_eq_getElem?_getD, List.getElem?_eq_getElem h]; rfl
section
variable {s0 : Mem} {may : List (List Nat)} {T : TS} {r : List Cel}
theorem tS_app (t : List Cel) : tS s0 may T r ++ t = tS s0 may T (r ++ t) := by unfold tS; simp only [List.append_assoc]
theorem tS_at : TAt (tS s0 may T r) s0.length may T := by
  have e : tS s0 may T r = s0 ++ (.live (.obj "Transport" (tfs s0.length may T)) :: .live (.lst (T.there.map .int)) :: .live (.lst (T.lack.map .int)) :: ((T.given.map fun r => .live (.dct (rowD r))) ++ (.live (.dct (spD T.spent)) :: r))) := by
    unfold tS tcells; simp
  rw [e]
  refine ⟨?_, ?_, ?_, fun i hi => ?_, ?_⟩
  · rw [gat0]; rfl
  · rw [gat]; rfl
  · rw [gat]; rfl
  · rw [gat]
    simp only [List.getElem?_cons_succ]
    rw [List.getElem?_append_left (by rw [List.length_map]; exact hi), List.getElem?_map, row_get hi]; rfl
  · rw [gat]
    simp only [List.getElem?_cons_succ]
    rw [List.getElem?_append_right (by rw [List.length_map]; omega), List.length_map, Nat.sub_self]; rfl
theorem tS_rest (k : Nat) : (tS s0 may T r)[s0.length + (T.given.length + 4 + k)]? = r[k]? := by
  unfold tS
  rw [gat, List.getElem?_append_right (by unfold tcells; simp)]
  congr 1
  unfold tcells
  simp
theorem tS_len : (tS s0 may T r).length = s0.length + (T.given.length + 4 + r.length) := by
  unfold tS tcells; simp; omega
theorem tS_there (xs : List Int) : (tS s0 may T r).set (s0.length + 1) (.live (.lst (xs.map .int))) = tS s0 may { T with there := xs } r := by
  unfold tS tcells; rw [sat]; rfl
theorem tS_lack (xs : List Int) : (tS s0 may T r).set (s0.length + 2) (.live (.lst (xs.map .int))) = tS s0 may { T with lack := xs } r := by
  unfold tS tcells; rw [sat]; rfl
theorem tS_row {i : Nat} (h : i < T.given.length) (x : Row) : (tS s0 may T r).set (s0.length + (i + 3)) (.live (.dct (rowD x))) = tS s0 may { T with given := T.given.set i x } r := by
  unfold tS tcells
  rw [sat]
  simp only [List.cons_append, List.set_cons_succ]
  rw [List.append_assoc, List.append_assoc, List.set_append_left _ _ (by rw [List.length_map]; exact h), List.map_set]
  unfold tfs
  simp only [List.length_set]
theorem tS_spent (xs : List Nat) : (tS s0 may T r).set (s0.length + (T.given.length + 3)) (.live (.dct (spD xs))) = tS s0 may { T with spent := xs } r := by
  unfold tS tcells
  rw [sat]
  simp only [List.cons_append, List.set_cons_succ]
  rw [List.append_assoc, List.append_assoc, List.set_append_right _ _ (by rw [List.length_map]; omega), List.length_map, Nat.sub_self]
  rfl
theorem get_row {row : Row} (g : Nat) : kGet (rowD row) (.inl (g : Int)) = (kGet row g).map .int := kGet_inl Dt.int row g
theorem put_row {row : Row} (g : Nat) (v : Int) : kPut (rowD row) (.inl (g : Int)) (.int v) = rowD (kPut row g v) := kPut_inl Dt.int row g v
theorem drop_row {row : Row} (g : Nat) : kDrop (rowD row) (.inl (g : Int)) = rowD (kDrop row g) := kDrop_inl Dt.int row g
theorem chRow_len (row : Row) (g : Nat) (m : Int) : (chRow row g m).length ≤ row.length + 1 := by
  have h1 : ∀ v, (kPut row g v).length ≤ row.length + 1 := fun v => by
    by_cases h : g ∈ row.map (·.1)
    · rw [kPut_old h, List.length_map]; omega
    · rw [kPut_new h, List.length_append]; simp
  unfold chRow
  simp only []
  split
  · exact Nat.le_trans (List.length_filter_le _ _) (h1 _)
  · exact h1 _
theorem c_change {R : Prg} (hT : HasT R) {n s g : Nat} {m : Int} (hs : s < T.given.length) (hz : (T.row s).length < 16777216) {E : Ep} {Q : Dt → Mem → Prop} :
    RunE ((sem R (n + 1)).fn "Transport.change" [.loc s0.length, .int s, .int g, .int m]) (tS s0 may T r) E Q ↔ Q .non (tS s0 may (chT T s g m) r) := by
  have A := tS_at (s0 := s0) (may := may) (T := T) (r := r)
  have key : RunE ((sem R (n + 1)).fn "Transport.change" [.loc s0.length, .int s, .int g, .int m]) (tS s0 may T r) (fun _ _ _ => False) fun d s' => d = .non ∧ s' = tS s0 may (chT T s g m) r := by
    rw [sem_fn hT.cha, RunE_callF]
    simp only [F_Transport_change]
    bv_omega
    rw [f_given hT A]
    bv_omega
    rw [List.getElem?_map, List.getElem?_range hs]
    bv_omega
    rw [A.row s hs]
    bv_omega
    rw [A.row s hs]
    bv_omega
    rw [get_row]
    have hv : ((kGet (T.row s) g).map Dt.int).getD (.int 0) = .int ((kGet (T.row s) g).getD 0) := by cases kGet (T.row s) g <;> rfl
    rw [hv]
    bv_omega
    rw [A.row s hs]
    bv_omega
    refine ⟨by rw [rowD_len]; exact Nat.lt_of_lt_of_le hz (of_eq_true (le_size (Nat.le_refl _))), ?_⟩
    rw [put_row, tS_row hs]
    have A2 := tS_at (s0 := s0) (may := may) (T := { T with given := T.given.set s (kPut (T.row s) g ((kGet (T.row s) g).getD 0 + m)) }) (r := r)
    have hs2 : s < ({ T with given := T.given.set s (kPut (T.row s) g ((kGet (T.row s) g).getD 0 + m)) } : TS).given.length := by
      show s < (T.given.set s _).length
      rw [List.length_set]; exact hs
    have er : ({ T with given := T.given.set s (kPut (T.row s) g ((kGet (T.row s) g).getD 0 + m)) } : TS).row s = kPut (T.row s) g ((kGet (T.row s) g).getD 0 + m) := by
      show (T.given.set s _).getD s [] = _
      rw [List.getD_eq_getElem?_getD, List.getElem?_set_self hs]; rfl
    have h2 := A2.row s hs2
    rw [er] at h2
    bv_omega
    rw [h2]
    bv_omega
    rw [get_row, kGet_put, if_pos rfl]
    bv_omega
    by_cases h0 : (kGet (T.row s) g).getD 0 + m = 0
    · rw [if_pos h0]
      bv_omega
      rw [h2]
      bv_omega
      rw [h2]
      bv_omega
      rw [get_row, kGet_put, if_pos rfl]
      bv_omega
      rw [drop_row, tS_row hs2]
      unfold chT chRow
      simp only []
      rw [if_pos h0, List.set_set]
    · rw [if_neg h0]
      bv_omega
      unfold chT chRow
      simp only []
      rw [if_neg h0]
  obtain ⟨d, s', e, rfl, rfl⟩ := key.ok_of
  exact RunE_ok e
end
end QQ

/-! transport.py runs as its mirror: shift -/
namespace QQ
open PySem L2
local macro_rules | `(tactic| bv_omega) => `(tactic| ((try simp only [frame0, List.map_cons, List.map_nil, List.length_cons, List.length_nil, Nat.reduceAdd, Nat.reduceSub, List.replicate, List.cons_append, List.nil_append]); try simp only [↓r_var, ↓r_cst, ↓r_glb, ↓r_bin, ↓r_cmp, ↓r_chn, ↓r_bop, ↓r_neg, ↓r_nt, ↓r_ife, ↓r_tup, ↓r_lst, ↓r_dis, ↓r_ix, ↓r_slc, ↓r_fld, ↓r_call, ↓r_make, ↓r_meth, ↓r_blt, ↓r_mtd, ↓r_lc, ↓r_srtSet, ↓r_frz, ↓r_nil, ↓r_cons, ↓rB_one, ↓rB_more, ↓t_bop, ↓t_nt, ↓t_cmp, ↓t_chn, ↓t_var, ↓t_cst, ↓t_ix, ↓t_fld, ↓t_call, ↓t_meth, ↓t_blt, ↓tB_one, ↓tB_more, ↓ts_nil, ↓ts_one, ↓i_seq, ↓i_rng, ↓i_enu, ↓i_zip, ↓i_itm, ↓x_expr, ↓x_asg, ↓x_par, ↓x_aug, ↓x_six, ↓x_aix, ↓x_sfd, ↓x_ite, ↓x_whl, ↓x_frs, ↓x_ret, ↓x_retN, ↓x_pas, ↓x_brk, ↓x_ctn, ↓xs_nil, ↓xs_cons, ↓RdQ_some, ↓LfQ_some, ↓RdQ_none, ↓LfQ_none, RdQ_some, LfQ_some, RdQ_none, LfQ_none, RdQ_ite, LfQ_ite, ↓nxQ_nx, ↓nxQ_rt, ↓nxQ_bk, ↓nxQ_ct, ↓lpQ_nx, ↓lpQ_rt, ↓lpQ_bk, ↓lpQ_ct, ↓fnQ_nx, ↓fnQ_rt, ↓endQ_f, ↓notQ_bl, ↓bopQ_bl, ↓parQ_two, isNon_non, add_int, sub_int, mul_int', fdiv_int, mod_int, pow_int, eq_int, ne_int, lt_int, le_int, gt_int, ge_int, eq_str, ne_str, eq_bl, is_non, is_tup, is_int, isn_non, isn_tup, isn_int, true_bl, true_int, mkT_if, mkL_t, mkL_f, mkD_t, mkD_f, blt_len, blt_list, blt_sum, blt_min1, blt_all, blt_any, blt_sorted, blt_dict, blt_min2, blt_isi, bMin2_int, List.getElem?_cons_zero, List.getElem?_cons_succ, Option.join_some, Option.join_none, List.set_cons_zero, List.set_cons_succ, asgT, setsT, wipeD, List.map_cons, List.map_nil, frame0, List.replicate, List.length_cons, List.length_nil, List.cons_append, List.nil_append, List.append_nil, Nat.reduceAdd, Nat.reduceSub, Nat.reduceLeDiff, Nat.reduceLT, Int.reduceLT, Int.reduceLE, Int.reduceToNat, Int.reduceNeg, Int.reducePow, Int.reduceAdd, Int.reduceMul, decide_eq_true_eq, if_true, if_false, ite_true, ite_false, Bool.false_eq_true, Bool.true_eq_false, Bool.not_true, Bool.not_false, true_and, and_true, Bool.not_eq_true', Bool.not_eq_true, decide_eq_false_iff_not, reduceCtorEq, decide_true, decide_false, le_size, ne_eq, not_true_eq_false, not_false_eq_true, Nat.zero_le, gsOn_nil, enter, leave, List.append_assoc, gat, gat0, sat, sat0, tat, kd_append, kd_extend, kd_pop, kd_get, kd_update, kdPick, md_append, md_extend, md_popl, md_get1, md_get2, md_popd, md_update, pairsOf_loc, items_loc, itemsA_loc, fieldsOf_loc, items_lst, items_fls, itemsA_lst, itemsA_fls, itemsA_tup, pairsOf_dct, pairsOf_lst, pairsOf_fls, pairsOf_tup, ix_lst, ix_fls, ix_tup, ix_dct, bLen_lst, bLen_fls, bLen_tup, bList, bSum, bMin1, bAll, bAny, bSorted, ne_ints_nil, ne_nil_nil, mAppend, mExtend, List.length_append, Nat.zero_add, seqSrc, lstSrc, itmSrc, List.map_map, mulOk_l, mulOk_r, divOk_l, natAbs_10, int_zero_add, atI_of, List.map_append, Int.reduceSub, Int.reduceEq, Int.reduceMod, Int.reduceDiv, Int.reduceBEq, Int.reduceBNe, frzD_loc, ↓endQ_app, ↓endQ_id, belows_map, below_tup, below_lst, below_fls, below_dct, below_int, below_str, below_bl, below_non, belows_nil, belows_cons, Bool.and_self, Bool.and_true, Bool.true_and, implies_true, cut_hi, cut_lo, opt_nil, opt_one, sl_lst, sl_fls, sl_loc, Option.bind_some, List.drop_succ_cons, List.drop_zero, List.take_succ_cons, List.take_zero, below_nat, natD_eq, keyD_int, keyD_str, cmp_in, cmp_nin, setD_loc, mPopL_loc, mPopD_loc, mUpdate_loc, isLoc_dct, mGet1, mGet2, ixL_loc, ixD_loc, atI_nat, ixN_nat, sem_mt', sem_con', sem_fd', sem_df', Option.map_some, Option.map_none, Option.bind_none, augD, List.eraseIdx_cons_zero, Int.reducePow, Nat.reducePow, and_self, Int.toNat_zero, negD_int, atI_last, add_loc_loc, add_lst_lst, add_loc_lst, add_lst_loc]))
def pairW (p : Nat × Nat) : Dt := .tup [.int p.1, .int p.2]
theorem enumT_get : ∀ (xs : List Dt) (n i : Nat), (enumD n xs)[i]? = xs[i]?.map fun x => .tup [.int ((n + i : Nat) : Int), x]
  | [], _, _ => by simp [enumD]
  | x :: xs, n, 0 => rfl
  | x :: xs, n, i + 1 => by
    show (enumD (n + 1) xs)[i]? = _
    rw [enumT_get xs (n + 1) i]
    simp only [List.getElem?_cons_succ]
    congr 1
    funext x
    congr 4
    omega
theorem enumT_len : ∀ (xs : List Dt) (n : Nat), (enumD n xs).length = xs.length
  | [], _ => rfl
  | x :: xs, n => by show (enumD (n + 1) xs).length + 1 = _; rw [enumT_len xs]; rfl
theorem Path_at {may : List (List Nat)} {T : TS} {sp : List Nat} : ∀ {r : List (Nat × Nat)} {p : Nat × Nat} {i : Nat} {q b : Nat × Nat}, Path may T sp p r → r[i]? = some b → (p :: r)[i]? = some q → q.2 ∈ keys (T.row b.1) ∧ b.1 ∈ may.getD b.2 []
  | [], _, _, _, _, _, h, _ => by simp at h
  | c :: r, p, 0, q, b, h, h1, h2 => by
    simp at h1 h2
    subst h1; subst h2
    exact ⟨h.1, h.2.1⟩
  | c :: r, p, i + 1, q, b, h, h1, h2 => Path_at (r := r) (p := c) (i := i) h.2.2.2 (by simpa using h1) (by simpa using h2)
theorem kGet_key {row : Row} {g : Nat} (h : g ∈ keys row) : kGet row g = some ((kGet row g).getD 0) := by
  cases e : kGet row g with
  | none => exact absurd h (kGet_none.mp e)
  | some v => rfl
theorem amtW_nil (T : TS) (q : Nat × Nat) (m : Int) : amtW T q [] m = m := rfl
theorem amtW_cons (T : TS) (q p : Nat × Nat) (r : List (Nat × Nat)) (m : Int) : amtW T q (p :: r) m = amtW T p r (min m (T.amt p.1 q.2)) := rfl
theorem appW_nil (m : Int) (T : TS) (q : Nat × Nat) : appW m T q [] = T := rfl
theorem appW_cons (m : Int) (T : TS) (q p : Nat × Nat) (r : List (Nat × Nat)) : appW m T q (p :: r) = appW m (chT (chT T p.1 q.2 (0 - m)) p.1 p.2 m) p r := rfl
theorem drop_at {α : Type} {l : List α} {i : Nat} {a : α} (h : l[i]? = some a) : l.drop i = a :: l.drop (i + 1) := by
  have hl : i < l.length := by
    rcases Nat.lt_or_ge i l.length with q | q
    · exact q
    · rw [List.getElem?_eq_none q] at h; cases h
  rw [List.drop_eq_getElem_cons hl]
  rw [List.getElem?_eq_getElem hl] at h
  cases h; rfl
section
variable {R : Prg} (hT : HasT R) {s0 : Mem} {may : List (List Nat)} {T : TS} {r : List Cel} {n ns nw k : Nat} {p : Nat × Nat} {rest : List (Nat × Nat)} {most : Int}
include hT
theorem c_shift {E : Ep} {Q : Dt → Mem → Prop} {sp : List Nat} (hlt : T.there.length = ns) (hlg : T.given.length = ns) (hnw : nw ≤ 1000000) (hrows : ∀ s, (T.row s).length ≤ nw) (hmay : ∀ g, ∀ s ∈ may.getD g [], s < ns)
    (hp : Path may T sp p rest) (hpm : p.1 ∈ may.getD p.2 []) (hlen : rest.length ≤ nw) (hk : r[k]? = some (.live (.lst ((p :: rest).map pairW)))) :
    RunE ((sem R (n + 2)).fn "Transport.shift" [.loc s0.length, .loc (s0.length + (ns + 4 + k)), .int most]) (tS s0 may T r) E Q ↔ Q (.int (shM T p rest most)) (tS s0 may (shT T p rest (shM T p rest most)) r) := by
  have A := tS_at (s0 := s0) (may := may) (T := T) (r := r)
  have hw : ∀ T' : TS, T'.given.length = ns → (tS s0 may T' r)[s0.length + (ns + 4 + k)]? = some (.live (.lst ((p :: rest).map pairW))) := fun T' h => by
    rw [← h, tS_rest]; exact hk
  have hp1 : p.1 < ns := hmay _ _ hpm
  have hth : T.there[p.1]? = some (T.th p.1) := by
    unfold TS.th
    rw [List.getD_eq_getElem?_getD, List.getElem?_eq_getElem (by omega)]; rfl
  have hsL : ∀ {m : Nat}, m ≤ 10000000 → m ≤ sizeLine := fun h => Nat.le_of_lt (Nat.lt_of_lt_of_le (by omega : _ < 16777216) (of_eq_true (le_size (Nat.le_refl _))))
  have key : RunE ((sem R (n + 2)).fn "Transport.shift" [.loc s0.length, .loc (s0.length + (ns + 4 + k)), .int most]) (tS s0 may T r) (fun _ _ _ => False) fun d s' => d = .int (shM T p rest most) ∧ s' = tS s0 may (shT T p rest (shM T p rest most)) r := by
    rw [sem_fn hT.shi, RunE_callF]
    simp only [F_Transport_shift]
    bv_omega
    rw [f_there hT A]
    bv_omega
    rw [hw T hlg]
    bv_omega
    unfold pairW
    bv_omega
    rw [A.there]
    bv_omega
    rw [List.getElem?_map, hth]
    bv_omega
    rw [hw T hlg]
    bv_omega
    refine ⟨by rw [List.length_map]; exact hsL (by omega), ?_⟩
    have hM : shM T p rest most = amtW T p rest (min most (T.th p.1)) := rfl
    refine RunS_for (enumD 0 (rest.map pairW)) (fun i φ s' => s' = tS s0 may T r ∧ ∃ m x4 x5 q, φ = [some (.loc s0.length), some (.loc (s0.length + (ns + 4 + k))), some (.int most), some (.int m), x4, x5] ∧ (p :: rest)[i]? = some q ∧ amtW T q (rest.drop i) m = shM T p rest most) ⟨rfl, _, _, _, p, rfl, rfl, rfl⟩ (fun _ _ _ _ _ => gsNil) ?_ ?_
    · rintro i x φ s' hx ⟨rfl, m, x4, x5, q, rfl, hq, hm⟩ _
      rw [enumT_get, List.getElem?_map] at hx
      cases hb : rest[i]? with
      | none => rw [hb] at hx; cases hx
      | some b =>
        rw [hb] at hx
        cases hx
        obtain ⟨h1, h2⟩ := Path_at hp hb hq
        have hb1 : b.1 < ns := hmay _ _ h2
        have hw2 : ((p :: rest).map pairW)[i]? = some (pairW q) := by rw [List.getElem?_map, hq]; rfl
        rw [Nat.zero_add]
        unfold pairW
        bv_omega
        rw [f_given hT A]
        bv_omega
        rw [List.getElem?_map, List.getElem?_range (by omega)]
        bv_omega
        rw [hw T hlg]
        bv_omega
        rw [← List.map_cons, hw2]
        unfold pairW
        bv_omega
        rw [A.row b.1 (by omega)]
        bv_omega
        rw [get_row, kGet_key h1]
        bv_omega
        refine ⟨_, _, _, b, rfl, by simpa using hb, ?_⟩
        rw [drop_at hb, amtW_cons] at hm
        exact hm
    · rintro φ s' ⟨rfl, m, x4, x5, q, rfl, hq, hm⟩ _
      rw [enumT_len, List.length_map, List.drop_length, amtW_nil] at hm
      subst hm
      bv_omega
      rw [f_there hT A]
      bv_omega
      rw [hw T hlg]
      bv_omega
      unfold pairW
      bv_omega
      rw [A.there]
      bv_omega
      rw [List.getElem?_map, hth]
      bv_omega
      rw [A.there]
      bv_omega
      rw [List.length_map, hlt, if_pos hp1]
      bv_omega
      rw [← List.map_set, tS_there]
      generalize hT1 : ({ T with there := T.there.set p.1 (T.th p.1 - shM T p rest most) } : TS) = T1
      have hlg1 : T1.given.length = ns := by rw [← hT1]; exact hlg
      have hrow1 : ∀ s, T1.row s = T.row s := fun s => by rw [← hT1]; rfl
      have hw1 := hw T1 hlg1
      generalize hMM : shM T p rest most = M at *
      rw [hw1]
      bv_omega
      refine RunS_for (enumD 0 ((p :: rest).map pairW)) (fun i φ s' => ∃ Tc x4 x5, φ = [some (.loc s0.length), some (.loc (s0.length + (ns + 4 + k))), some (.int most), some (.int M), x4, x5] ∧ s' = tS s0 may Tc r ∧ Tc.given.length = ns ∧ (∀ s, (Tc.row s).length ≤ nw + 2 * i) ∧
        ((i = 0 ∧ Tc = T1) ∨ ∃ j q, i = j + 1 ∧ (p :: rest)[j]? = some q ∧ appW M Tc q (rest.drop j) = shT T p rest M)) ⟨T1, _, _, rfl, rfl, hlg1, fun s => by rw [hrow1]; have := hrows s; omega, .inl ⟨rfl, rfl⟩⟩ ?_ ?_ ?_
      · rintro i φ s' _ ⟨Tc, x4, x5, rfl, rfl, hg, _⟩
        rw [gsOn_sl]
        exact ⟨hw Tc hg, gsNil⟩
      · rintro i x φ s' hx ⟨Tc, x4, x5, rfl, rfl, hg, hrs, hcase⟩ _
        rw [enumT_get, List.getElem?_map] at hx
        cases hb : (p :: rest)[i]? with
        | none => rw [hb] at hx; cases hx
        | some b =>
          rw [hb] at hx
          cases hx
          have hi : i < (p :: rest).length := by
            rcases Nat.lt_or_ge i (p :: rest).length with z | z
            · exact z
            · rw [List.getElem?_eq_none z] at hb; cases hb
          have hi2 : i ≤ nw := by simp at hi; omega
          rw [Nat.zero_add]
          unfold pairW
          bv_omega
          rcases hcase with ⟨rfl, rfl⟩ | ⟨j, q, rfl, hq, hap⟩
          · simp only [List.getElem?_cons_zero, Option.some.injEq] at hb
            subst hb
            have Ac := tS_at (s0 := s0) (may := may) (T := Tc) (r := r)
            rw [if_neg (by decide)]
            bv_omega
            rw [m_cha hT Ac]
            bv_omega
            rw [c_change hT (by omega) (by have := hrs p.1; omega)]
            bv_omega
            refine ⟨_, _, _, rfl, rfl, by show (Tc.given.set _ _).length = ns; rw [List.length_set]; exact hg, fun s => ?_, .inr ⟨0, p, rfl, rfl, ?_⟩⟩
            · rw [row_ch (by omega)]
              split
              · have := chRow_len (Tc.row p.1) p.2 M
                have := hrs p.1
                omega
              · have := hrs s
                omega
            · unfold shT
              rw [hT1]; rfl
          · have hb2 : rest[j]? = some b := by simpa using hb
            obtain ⟨h1, h2⟩ := Path_at hp hb2 hq
            have hb1 : b.1 < ns := hmay _ _ h2
            have Ac := tS_at (s0 := s0) (may := may) (T := Tc) (r := r)
            have hwq : ((p :: rest).map pairW)[j]? = some (pairW q) := by rw [List.getElem?_map, hq]; rfl
            rw [if_pos (by omega)]
            bv_omega
            rw [m_cha hT Ac]
            bv_omega
            rw [hw Tc hg]
            bv_omega
            rw [show (((j + 1 : Nat) : Int) - 1) = (j : Int) by omega]
            bv_omega
            rw [← List.map_cons, hwq]
            unfold pairW
            bv_omega
            rw [c_change hT (by omega) (by have := hrs b.1; omega)]
            have hg2 : (chT Tc b.1 q.2 (0 - M)).given.length = ns := by show (Tc.given.set _ _).length = ns; rw [List.length_set]; exact hg
            have hrs2 : ∀ s, ((chT Tc b.1 q.2 (0 - M)).row s).length ≤ nw + 2 * (j + 1) + 1 := fun s => by
              rw [row_ch (by omega)]
              split
              · have := chRow_len (Tc.row b.1) q.2 (0 - M)
                have := hrs b.1
                omega
              · have := hrs s
                omega
            have Ac2 := tS_at (s0 := s0) (may := may) (T := chT Tc b.1 q.2 (0 - M)) (r := r)
            bv_omega
            rw [m_cha hT Ac2]
            bv_omega
            rw [c_change hT (by omega) (by have := hrs2 b.1; omega)]
            bv_omega
            refine ⟨_, _, _, rfl, rfl, by show ((chT Tc b.1 q.2 (0 - M)).given.set _ _).length = ns; rw [List.length_set]; exact hg2, fun s => ?_, .inr ⟨j + 1, b, rfl, hb, ?_⟩⟩
            · rw [row_ch (by omega)]
              split
              · have := chRow_len ((chT Tc b.1 q.2 (0 - M)).row b.1) b.2 M
                have := hrs2 b.1
                omega
              · have := hrs2 s
                omega
            · rw [drop_at hb2, appW_cons] at hap
              exact hap
      · rintro φ s' ⟨Tc, x4, x5, rfl, rfl, hg, hrs, hcase⟩ _
        rw [enumT_len, List.length_map] at hcase
        rcases hcase with ⟨h0, _⟩ | ⟨j, q, hj, hq, hap⟩
        · simp at h0
        · have : j = rest.length := by simp at hj; omega
          subst this
          rw [List.drop_length, appW_nil] at hap
          subst hap
          bv_omega
  obtain ⟨d, s', e, rfl, rfl⟩ := key.ok_of
  exact RunE_ok e
end
end QQ

/-! transport.py runs as its mirror: fill -/
namespace QQ
open PySem L2
local macro_rules | `(tactic| bv_omega) => `(tactic| ((try simp only [frame0, List.map_cons, List.map_nil, List.length_cons, List.length_nil, Nat.reduceAdd, Nat.reduceSub, List.replicate, List.cons_append, List.nil_append]); try simp only [↓r_var, ↓r_cst, ↓r_glb, ↓r_bin, ↓r_cmp, ↓r_chn, ↓r_bop, ↓r_neg, ↓r_nt, ↓r_ife, ↓r_tup, ↓r_lst, ↓r_dis, ↓r_ix, ↓r_slc, ↓r_fld, ↓r_call, ↓r_make, ↓r_meth, ↓r_blt, ↓r_mtd, ↓r_lc, ↓r_srtSet, ↓r_frz, ↓r_nil, ↓r_cons, ↓rB_one, ↓rB_more, ↓t_bop, ↓t_nt, ↓t_cmp, ↓t_chn, ↓t_var, ↓t_cst, ↓t_ix, ↓t_fld, ↓t_call, ↓t_meth, ↓t_blt, ↓tB_one, ↓tB_more, ↓ts_nil, ↓ts_one, ↓i_seq, ↓i_rng, ↓i_enu, ↓i_zip, ↓i_itm, ↓x_expr, ↓x_asg, ↓x_par, ↓x_aug, ↓x_six, ↓x_aix, ↓x_sfd, ↓x_ite, ↓x_whl, ↓x_frs, ↓x_ret, ↓x_retN, ↓x_pas, ↓x_brk, ↓x_ctn, ↓xs_nil, ↓xs_cons, ↓RdQ_some, ↓LfQ_some, ↓RdQ_none, ↓LfQ_none, RdQ_some, LfQ_some, RdQ_none, LfQ_none, RdQ_ite, LfQ_ite, ↓nxQ_nx, ↓nxQ_rt, ↓nxQ_bk, ↓nxQ_ct, ↓lpQ_nx, ↓lpQ_rt, ↓lpQ_bk, ↓lpQ_ct, ↓fnQ_nx, ↓fnQ_rt, ↓endQ_f, ↓notQ_bl, ↓bopQ_bl, ↓parQ_two, isNon_non, add_int, sub_int, mul_int', fdiv_int, mod_int, pow_int, eq_int, ne_int, lt_int, le_int, gt_int, ge_int, eq_str, ne_str, eq_bl, is_non, is_tup, is_int, isn_non, isn_tup, isn_int, true_bl, true_int, mkT_if, mkL_t, mkL_f, mkD_t, mkD_f, blt_len, blt_list, blt_sum, blt_min1, blt_all, blt_any, blt_sorted, blt_dict, blt_min2, blt_isi, bMin2_int, List.getElem?_cons_zero, List.getElem?_cons_succ, Option.join_some, Option.join_none, List.set_cons_zero, List.set_cons_succ, asgT, setsT, wipeD, List.map_cons, List.map_nil, frame0, List.replicate, List.length_cons, List.length_nil, List.cons_append, List.nil_append, List.append_nil, Nat.reduceAdd, Nat.reduceSub, Nat.reduceLeDiff, Nat.reduceLT, Int.reduceLT, Int.reduceLE, Int.reduceToNat, Int.reduceNeg, Int.reducePow, Int.reduceAdd, Int.reduceMul, decide_eq_true_eq, if_true, if_false, ite_true, ite_false, Bool.false_eq_true, Bool.true_eq_false, Bool.not_true, Bool.not_false, true_and, and_true, Bool.not_eq_true', Bool.not_eq_true, decide_eq_false_iff_not, reduceCtorEq, decide_true, decide_false, le_size, ne_eq, not_true_eq_false, not_false_eq_true, Nat.zero_le, gsOn_nil, enter, leave, List.append_assoc, gat, gat0, sat, sat0, tat, kd_append, kd_extend, kd_pop, kd_get, kd_update, kdPick, md_append, md_extend, md_popl, md_get1, md_get2, md_popd, md_update, pairsOf_loc, items_loc, itemsA_loc, fieldsOf_loc, items_lst, items_fls, itemsA_lst, itemsA_fls, itemsA_tup, pairsOf_dct, pairsOf_lst, pairsOf_fls, pairsOf_tup, ix_lst, ix_fls, ix_tup, ix_dct, bLen_lst, bLen_fls, bLen_tup, bList, bSum, bMin1, bAll, bAny, bSorted, ne_ints_nil, ne_nil_nil, mAppend, mExtend, List.length_append, Nat.zero_add, seqSrc, lstSrc, itmSrc, List.map_map, mulOk_l, mulOk_r, divOk_l, natAbs_10, int_zero_add, atI_of, List.map_append, Int.reduceSub, Int.reduceEq, Int.reduceMod, Int.reduceDiv, Int.reduceBEq, Int.reduceBNe, frzD_loc, ↓endQ_app, ↓endQ_id, belows_map, below_tup, below_lst, below_fls, below_dct, below_int, below_str, below_bl, below_non, belows_nil, belows_cons, Bool.and_self, Bool.and_true, Bool.true_and, implies_true, cut_hi, cut_lo, opt_nil, opt_one, sl_lst, sl_fls, sl_loc, Option.bind_some, List.drop_succ_cons, List.drop_zero, List.take_succ_cons, List.take_zero, below_nat, natD_eq, keyD_int, keyD_str, cmp_in, cmp_nin, setD_loc, mPopL_loc, mPopD_loc, mUpdate_loc, isLoc_dct, mGet1, mGet2, ixL_loc, ixD_loc, atI_nat, ixN_nat, sem_mt', sem_con', sem_fd', sem_df', Option.map_some, Option.map_none, Option.bind_none, augD, List.eraseIdx_cons_zero, Int.reducePow, Nat.reducePow, and_self, Int.toNat_zero, negD_int, atI_last, add_loc_loc, add_lst_lst, add_loc_lst, add_lst_loc]))
section
variable {ns nw : Nat} {may : List (List Nat)} {S W : Nat → Int} {T : TS}
/-- T behind a turn that found a way -/
def turnT (T : TS) (p : Nat × Nat) (r : List (Nat × Nat)) (g : Nat) : TS := { shT T p r (shM T p r (T.lk g)) with lack := (shT T p r (shM T p r (T.lk g))).lack.set g (T.lk g - shM T p r (T.lk g)) }
theorem turn_step (h : TG ns nw may S W T) (hl : may.length = nw) (hm : ∀ g, ∀ s ∈ may.getD g [], s < ns) (hc : CS may T) (hs : ∀ s ∈ T.spent, s < ns) {g : Nat} (hg : g < nw) (hk : 0 < T.lk g) {a : Ah} {p : Nat × Nat} {sn : List Nat} (e : reach0 may T [g] T.spent = (a, some p, sn)) :
    TG ns nw may S W (turnT T p (wayF a a.length p) g) ∧ CS may (turnT T p (wayF a a.length p) g) ∧ (∀ s ∈ (turnT T p (wayF a a.length p) g).spent, s < ns) ∧ (turnT T p (wayF a a.length p) g).lk g < T.lk g ∧ (shT T p (wayF a a.length p) (shM T p (wayF a a.length p) (T.lk g))).lack = T.lack ∧
      (shT T p (wayF a a.length p) (shM T p (wayF a a.length p) (T.lk g))).given.length = ns := by
  obtain ⟨k1, k2, k3, k4, k5, k6, _⟩ := turn_way h hl hm hg hk e
  obtain ⟨t1, t2, t3, t4⟩ := shT_ok h hl hm (most := T.lk g) k1 k4 (by omega) k5 k6 k3
  obtain ⟨m1, m2, m3⟩ := shM_ok h (most := T.lk g) k1 k4 (by omega)
  unfold turnT
  generalize hM : shM T p (wayF a a.length p) (T.lk g) = M at *
  generalize hT' : shT T p (wayF a a.length p) M = T' at *
  rw [k2] at t1
  have hlk : T'.lk g = T.lk g := by unfold TS.lk; rw [t2]
  have g2 := t1.less (g := g) (v := T.lk g - M) hg (by omega)
  have g3 : TG ns nw may S W { T' with lack := T'.lack.set g (T.lk g - M) } := g2.congr (fun _ _ => rfl) (fun g' _ => by
    show W g' + at1 M g g' + (if g' = g then T.lk g - M - T'.lk g else 0) = W g'
    unfold at1
    rw [hlk]
    split <;> omega)
  refine ⟨g3, hc.keep t3 t4, by show ∀ s ∈ T'.spent, s < ns; rw [t3]; exact hs, ?_, t2, t1.lg⟩
  rw [lk_set t1.ll hg, if_pos rfl]
  omega
theorem fillF_way {n g : Nat} {a : Ah} {p : Nat × Nat} {sn : List Nat} (hk : 0 < T.lk g) (e : reach0 may T [g] T.spent = (a, some p, sn)) : fillF may (n + 1) T g = fillF may n (turnT T p (wayF a a.length p) g) g := by
  show (if 0 < T.lk g then _ else _) = _
  rw [if_pos hk, e]; rfl
theorem fillF_end {n g : Nat} {a : Ah} {sn : List Nat} (hk : 0 < T.lk g) (e : reach0 may T [g] T.spent = (a, none, sn)) : fillF may (n + 1) T g = { T with spent := T.spent ++ sn } := by
  show (if 0 < T.lk g then _ else _) = _
  rw [if_pos hk, e]
theorem fillF_no {n g : Nat} (hk : ¬0 < T.lk g) : fillF may n T g = T := by
  cases n with
  | zero => rfl
  | succ n => show (if 0 < T.lk g then _ else _) = _; rw [if_neg hk]
end
theorem belowC_cells (m l : Nat) (may : List (List Nat)) (T : TS) : ∀ c ∈ (tcells l may T).tail, belowC m c = true := by
  intro c hc
  unfold tcells at hc
  rw [List.tail_cons] at hc
  rcases List.mem_cons.mp hc with rfl | hc
  · exact below_ints m _
  · rcases List.mem_cons.mp hc with rfl | hc
    · exact below_ints m _
    · rcases List.mem_append.mp hc with hc | hc
      · obtain ⟨x, _, rfl⟩ := List.mem_map.mp hc
        exact below_row m x
      · rw [List.mem_singleton] at hc
        subst hc
        exact below_sp m _
theorem tS_cut {s0 : Mem} {may : List (List Nat)} {T T' : TS} {r : List Cel} (hg : T'.given.length = T.given.length) {Q : Dt → Mem → Prop} : endQ true (tS s0 may T []) .non (tS s0 may T' r) Q ↔ Q .non (tS s0 may T' []) := by
  have hl : (tS s0 may T []).length = (tS s0 may T' []).length := by rw [tS_len, tS_len, hg]
  have ht : (tS s0 may T' r).take (tS s0 may T []).length = tS s0 may T' [] := by
    rw [hl, ← List.nil_append r, ← tS_app]; exact List.take_left' rfl
  rw [endQ_t, ht]
  refine ⟨fun h => h.2, fun h => ⟨⟨by rw [below], by rw [tS_len, tS_len, hg]; simp, fun i c hi hc => ?_⟩, h⟩⟩
  rw [hl] at hi
  rw [← List.nil_append r, ← tS_app, List.getElem?_append_left hi] at hc
  by_cases h1 : i < s0.length
  · left
    unfold tS at hc ⊢
    rw [List.getElem?_append_left h1] at hc ⊢
    exact hc
  · by_cases h2 : i = s0.length
    · subst h2
      left
      rw [(tS_at (s0 := s0) (may := may) (T := T') (r := [])).obj] at hc
      rw [(tS_at (s0 := s0) (may := may) (T := T) (r := [])).obj, ← hc]
      unfold tfs
      rw [hg]
    · right
      unfold tS at hc
      rw [List.append_nil, List.getElem?_append_right (by omega)] at hc
      refine belowC_cells _ s0.length may T' c ?_
      obtain ⟨k, hk⟩ : ∃ k, i - s0.length = k + 1 := ⟨i - s0.length - 1, by omega⟩
      rw [hk] at hc
      have : (tcells s0.length may T').tail[k]? = some c := by
        rw [← hc]
        rfl
      exact List.mem_of_getElem? this
section
variable {R : Prg} (hT : HasT R) {s0 : Mem} {may : List (List Nat)} {T : TS} {n ns nw : Nat} {S W : Nat → Int}
include hT
theorem c_reached1 {E : Ep} {Q : Dt → Mem → Prop} {s : Mem} {l g : Nat} {spent : List Nat} {sp : Dt} (A : TAt s l may T) (hnw : nw ≤ 1000000) (hns : ns ≤ 1000000) (hlt : T.there.length = ns) (hlg : T.given.length = ns) (hrow : ∀ s, ∀ o ∈ keys (T.row s), o < nw)
    (hmay : ∀ g, ∀ s ∈ may.getD g [], s < ns) (hsp : ∀ t, pairsOf (s ++ t) sp = some (spD spent)) (hl : may.length = nw) (hg : g < nw) :
    RunE ((sem R (n + 1)).fn "Transport.reached" [.loc l, .lst [.int g], sp]) s E Q ↔ Q (reD (reach0 may T [g] spent)) s :=
  c_reached (w0 := [g]) hT A hnw hns hlt hlg hrow hmay hsp hl (by simp) (fun x hx => by rw [List.mem_singleton] at hx; omega)
def wayB : Sms := (.cons (.expr (.mtd false (.var 5) "append" (.cons (.ix (.var 2) (.ix (.ix (.var 5) (.neg (.cst (.int 1)))) (.cst (.int 1)))) .nil))) .nil)
def wayC : Ex := .cmp .IsNot (.ix (.var 2) (.ix (.ix (.var 5) (.neg (.cst (.int 1)))) (.cst (.int 1)))) (.cst .non)
omit hT in
theorem way_run {G : Gs} {s : Mem} {a : Ah} {w0 sn spent : List Nat} (R1 : RI nw may T spent w0 a sn) (hnw : nw ≤ 1000000) {x0 x1 x3 x4 : Option Dt} {p : Nat × Nat} {E : Es} {Q : Fl → Fra → Mem → Prop} {j : Nat} {u : Option (Nat × Nat)} (hj : a[j]? = some (p.2, u))
    (hQ : Q .nx [x0, x1, some (.dct (ahD a)), x3, x4, some (.loc s.length)] (s ++ [.live (.lst ((p :: wayF a a.length p).map pairW))])) :
    RunS (whileS (tst G wayC) (execs G wayB) [x0, x1, some (.dct (ahD a)), x3, x4, some (.loc s.length)]) (s ++ [.live (.lst [pairW p])]) E Q := by
  have hsz := R1.size
  have hjl : j < a.length := by
    rcases Nat.lt_or_ge j a.length with z | z
    · exact z
    · rw [List.getElem?_eq_none z] at hj; cases hj
  refine RunS_while (fun m φ s' => ∃ pre cur j u, φ = [x0, x1, some (.dct (ahD a)), x3, x4, some (.loc s.length)] ∧ s' = s ++ [.live (.lst ((pre ++ [cur]).map pairW))] ∧ a[j]? = some (cur.2, u) ∧ j < m ∧ pre.length + m ≤ a.length ∧ pre ++ cur :: wayF a m cur = p :: wayF a a.length p) ?_
    (n := a.length) ⟨[], p, j, u, rfl, rfl, hj, hjl, by simp, rfl⟩
  rintro m φ s' ⟨pre, cur, j, u, rfl, rfl, hj, hjm, hpm, hw⟩
  obtain ⟨m, rfl⟩ : ∃ m', m = m' + 1 := ⟨m - 1, by omega⟩
  have hkg := kGet_at R1.nd hj
  have hgk : kGet (ahD a) (.inl (cur.2 : Int)) = some (ahV u) := by
    unfold ahD; rw [kGet_inl ahV, hkg]; rfl
  simp only [wayC, wayB]
  bv_omega
  unfold pairW
  bv_omega
  rw [hgk]
  cases u with
  | none =>
    unfold ahV
    bv_omega
    have e : wayF a (m + 1) cur = [] := by show (match (kGet a cur.2).join with | none => _ | some q => _) = _; rw [hkg]; rfl
    rw [e] at hw
    rw [← hw, List.map_append] at hQ
    exact hQ
  | some q =>
    unfold ahV
    bv_omega
    rw [hgk]
    unfold ahV
    bv_omega
    have e : wayF a (m + 1) cur = q :: wayF a m q := by show (match (kGet a cur.2).join with | none => _ | some q => _) = _; rw [hkg]; rfl
    rw [e] at hw
    rcases R1.anc j cur.2 (some q) hj with h | ⟨s', g', j', u', h1, h2, h3, h4, h5, h6⟩
    · cases h.1
    · cases h1
      refine ⟨by rw [List.length_map]; exact Nat.lt_of_lt_of_le (by omega : _ < 16777216) (of_eq_true (le_size (Nat.le_refl _))), m, Nat.lt_succ_self m, pre ++ [cur], (s', g'), j', u', ?_, h6, by omega, by rw [List.length_append]; simp; omega, by rw [← hw]; simp⟩
      simp
theorem c_fill {E : Ep} {Q : Dt → Mem → Prop} {g : Nat} (h : TG ns nw may S W T) (hc : CS may T) (hs : ∀ s ∈ T.spent, s < ns) (hl : may.length = nw) (hmay : ∀ g, ∀ s ∈ may.getD g [], s < ns) (hnw : nw ≤ 1000000) (hns : ns ≤ 1000000) (hg : g < nw) :
    RunE ((sem R (n + 3)).fn "Transport.fill" [.loc s0.length, .int g]) (tS s0 may T []) E Q ↔ Q .non (tS s0 may (fillF may (T.lk g).toNat T g) []) := by
  have hrow : ∀ {T' : TS}, TG ns nw may S W T' → ∀ s, ∀ o ∈ keys (T'.row s), o < nw := fun h s o ho => by
    obtain ⟨x, hx, hx2⟩ := List.mem_map.mp ho
    have := ((h.row s).el x hx).2
    omega
  have hsL : ∀ {m : Nat}, m ≤ 10000000 → m ≤ sizeLine := fun h => Nat.le_of_lt (Nat.lt_of_lt_of_le (by omega : _ < 16777216) (of_eq_true (le_size (Nat.le_refl _))))
  have key : RunE ((sem R (n + 3)).fn "Transport.fill" [.loc s0.length, .int g]) (tS s0 may T []) (fun _ _ _ => False) fun d s' => d = .non ∧ s' = tS s0 may (fillF may (T.lk g).toNat T g) [] := by
    rw [sem_fn hT.fil, RunE_callF]
    simp only [F_Transport_fill]
    bv_omega
    refine RunS_while (fun m φ s' => ∃ T' r x2 x3 x4 x5, φ = [some (.loc s0.length), some (.int g), x2, x3, x4, x5] ∧ s' = tS s0 may T' r ∧ TG ns nw may S W T' ∧ CS may T' ∧ (∀ s ∈ T'.spent, s < ns) ∧ (T'.lk g).toNat ≤ m ∧ fillF may m T' g = fillF may (T.lk g).toNat T g) ?_
      (n := (T.lk g).toNat) ⟨T, [], _, _, _, _, rfl, rfl, h, hc, hs, Nat.le_refl _, rfl⟩
    rintro m φ s' ⟨T', r, x2, x3, x4, x5, rfl, rfl, h1, hc1, hs1, hm, hF⟩
    have A := tS_at (s0 := s0) (may := may) (T := T') (r := r)
    have hlk : T'.lack[g]? = some (T'.lk g) := by
      unfold TS.lk
      rw [List.getD_eq_getElem?_getD, List.getElem?_eq_getElem (by rw [h1.ll]; exact hg)]; rfl
    bv_omega
    rw [f_lack hT A]
    bv_omega
    rw [A.lack]
    bv_omega
    rw [List.getElem?_map, hlk]
    bv_omega
    by_cases hk : 0 < T'.lk g
    · rw [if_pos hk]
      obtain ⟨m, rfl⟩ : ∃ m', m = m' + 1 := ⟨m - 1, by omega⟩
      bv_omega
      rw [m_rea hT A]
      bv_omega
      rw [f_spent hT A]
      bv_omega
      have hsp : ∀ t, pairsOf (tS s0 may T' r ++ t) (.loc (s0.length + (T'.given.length + 3))) = some (spD T'.spent) := fun t => by
        rw [pairsOf_loc, get_app A.spent]
      rw [c_reached1 hT A hnw hns h1.lt h1.lg (hrow h1) hmay hsp hl hg]
      generalize hz : reach0 may T' [g] T'.spent = z
      obtain ⟨a, u, sn⟩ := z
      cases u with
      | none =>
        rw [fillF_end hk hz] at hF
        have h2 := turn_ok h1 hl hmay hc1 hg hk
        rw [hz] at h2
        obtain ⟨z1, z2, z3, z4, z5⟩ := h2
        have hl1 := nodup_len hc1.nd hs1
        have hl2 := nodup_len z4 z3
        unfold reD ahV
        bv_omega
        rw [f_spent hT A]
        bv_omega
        rw [A.spent]
        bv_omega
        rw [A.spent]
        bv_omega
        have em : kMerge (spD T'.spent) (spD sn) = spD (T'.spent ++ sn) := by
          have e : spD (T'.spent ++ sn) = spD T'.spent ++ spD sn := by unfold spD; rw [List.map_append]
          rw [e, kMerge_nodup]
          rw [← e]
          unfold spD
          rw [List.map_map]
          exact List.pairwise_map.mpr (List.Pairwise.imp (fun {a b} h q => h (inl_inj.mp q)) z1.nd)
        rw [em, tS_spent]
        refine ⟨by rw [spD_len, spD_len]; exact hsL (by omega), ?_⟩
        have hgl : ({ T' with spent := T'.spent ++ sn } : TS).given.length = T.given.length := by show T'.given.length = _; rw [h1.lg, h.lg]
        rw [tS_cut hgl, hF]
        bv_omega
      | some p =>
        rw [fillF_way hk hz] at hF
        obtain ⟨w1, w2, w3, w4, w5, w6, w7, sn', w8⟩ := turn_way h1 hl hmay hg hk hz
        obtain ⟨v1, v2, v3, v4, v5, v6⟩ := turn_step h1 hl hmay hc1 hs1 hg hk hz
        obtain ⟨y, hy, hy2⟩ := List.mem_map.mp w7
        obtain ⟨j, hj, hj2⟩ := List.getElem_of_mem hy
        have e1 : a[j]? = some (p.2, y.2) := by rw [List.getElem?_eq_getElem hj, hj2, ← hy2]
        unfold reD ahV
        bv_omega
        refine way_run w8 hnw e1 ?_
        have hlen : (wayF a a.length p).length ≤ nw := by
          have q : ∀ x ∈ (wayF a a.length p).map (·.2), x < nw := by
            have go : ∀ (r : List (Nat × Nat)) (p : Nat × Nat), Path may T' T'.spent p r → ∀ x ∈ r.map (·.2), x < nw := by
              intro r
              induction r with
              | nil => intro p _ x hx; cases hx
              | cons q r ih =>
                intro p hp x hx
                rw [List.map_cons] at hx
                rcases List.mem_cons.mp hx with rfl | hx
                · rcases Nat.lt_or_ge q.2 nw with z | z
                  · exact z
                  · have := hp.2.1
                    rw [List.getD_eq_getElem?_getD, List.getElem?_eq_none (by omega)] at this
                    cases this
                · exact ih q hp.2.2.2 x hx
            exact go _ _ w1
          have := nodup_len (List.nodup_cons.mp w3).2 q
          rwa [List.length_map] at this
        have hrs : ∀ s, (T'.row s).length ≤ nw := fun s => by
          have := nodup_len (h1.row s).nd (hrow h1 s)
          rwa [List.length_map] at this
        rw [tS_app, tS_len]
        have hgl' : T'.given.length = ns := h1.lg
        generalize hr2 : r ++ [Cel.live (Ob.lst (List.map pairW (p :: wayF a a.length p)))] = r2
        have hk2 : r2[r.length]? = some (.live (.lst ((p :: wayF a a.length p).map pairW))) := by rw [← hr2]; simp
        have A2 := tS_at (s0 := s0) (may := may) (T := T') (r := r2)
        rw [hgl']
        bv_omega
        rw [f_lack hT A2]
        bv_omega
        rw [A2.lack]
        bv_omega
        rw [List.getElem?_map, hlk]
        bv_omega
        rw [m_shi hT A2]
        bv_omega
        rw [f_lack hT A2]
        bv_omega
        rw [A2.lack]
        bv_omega
        rw [List.getElem?_map, hlk]
        bv_omega
        rw [c_shift hT h1.lt h1.lg hnw hrs hmay w1 w5 hlen hk2]
        have A3 := tS_at (s0 := s0) (may := may) (T := shT T' p (wayF a a.length p) (shM T' p (wayF a a.length p) (T'.lk g))) (r := r2)
        bv_omega
        rw [A3.lack]
        bv_omega
        rw [v5, List.length_map, if_pos (by rw [h1.ll]; exact hg)]
        bv_omega
        rw [← List.map_set, tS_lack]
        refine ⟨m, Nat.lt_succ_self m, turnT T' p (wayF a a.length p) g, r2, _, _, _, _, rfl, ?_, v1, v2, v3, by omega, hF⟩
        unfold turnT
        rw [v5]
    · rw [if_neg hk]
      rw [fillF_no hk] at hF
      have hgl : T'.given.length = T.given.length := by rw [h1.lg, h.lg]
      bv_omega
      rw [tS_cut hgl, hF]
      bv_omega
  obtain ⟨d, s', e, rfl, rfl⟩ := key.ok_of
  exact RunE_ok e
end
end QQ

/-! transport.py runs as its mirror: served -/
namespace QQ
open PySem L2
local macro_rules | `(tactic| bv_omega) => `(tactic| ((try simp only [frame0, List.map_cons, List.map_nil, List.length_cons, List.length_nil, Nat.reduceAdd, Nat.reduceSub, List.replicate, List.cons_append, List.nil_append]); try simp only [↓r_var, ↓r_cst, ↓r_glb, ↓r_bin, ↓r_cmp, ↓r_chn, ↓r_bop, ↓r_neg, ↓r_nt, ↓r_ife, ↓r_tup, ↓r_lst, ↓r_dis, ↓r_ix, ↓r_slc, ↓r_fld, ↓r_call, ↓r_make, ↓r_meth, ↓r_blt, ↓r_mtd, ↓r_lc, ↓r_srtSet, ↓r_frz, ↓r_nil, ↓r_cons, ↓rB_one, ↓rB_more, ↓t_bop, ↓t_nt, ↓t_cmp, ↓t_chn, ↓t_var, ↓t_cst, ↓t_ix, ↓t_fld, ↓t_call, ↓t_meth, ↓t_blt, ↓tB_one, ↓tB_more, ↓ts_nil, ↓ts_one, ↓i_seq, ↓i_rng, ↓i_enu, ↓i_zip, ↓i_itm, ↓x_expr, ↓x_asg, ↓x_par, ↓x_aug, ↓x_six, ↓x_aix, ↓x_sfd, ↓x_ite, ↓x_whl, ↓x_frs, ↓x_ret, ↓x_retN, ↓x_pas, ↓x_brk, ↓x_ctn, ↓xs_nil, ↓xs_cons, ↓RdQ_some, ↓LfQ_some, ↓RdQ_none, ↓LfQ_none, RdQ_some, LfQ_some, RdQ_none, LfQ_none, RdQ_ite, LfQ_ite, ↓nxQ_nx, ↓nxQ_rt, ↓nxQ_bk, ↓nxQ_ct, ↓lpQ_nx, ↓lpQ_rt, ↓lpQ_bk, ↓lpQ_ct, ↓fnQ_nx, ↓fnQ_rt, ↓endQ_f, ↓notQ_bl, ↓bopQ_bl, ↓parQ_two, isNon_non, add_int, sub_int, mul_int', fdiv_int, mod_int, pow_int, eq_int, ne_int, lt_int, le_int, gt_int, ge_int, eq_str, ne_str, eq_bl, is_non, is_tup, is_int, isn_non, isn_tup, isn_int, true_bl, true_int, mkT_if, mkL_t, mkL_f, mkD_t, mkD_f, blt_len, blt_list, blt_sum, blt_min1, blt_all, blt_any, blt_sorted, blt_dict, blt_min2, blt_isi, bMin2_int, List.getElem?_cons_zero, List.getElem?_cons_succ, Option.join_some, Option.join_none, List.set_cons_zero, List.set_cons_succ, asgT, setsT, wipeD, List.map_cons, List.map_nil, frame0, List.replicate, List.length_cons, List.length_nil, List.cons_append, List.nil_append, List.append_nil, Nat.reduceAdd, Nat.reduceSub, Nat.reduceLeDiff, Nat.reduceLT, Int.reduceLT, Int.reduceLE, Int.reduceToNat, Int.reduceNeg, Int.reducePow, Int.reduceAdd, Int.reduceMul, decide_eq_true_eq, if_true, if_false, ite_true, ite_false, Bool.false_eq_true, Bool.true_eq_false, Bool.not_true, Bool.not_false, true_and, and_true, Bool.not_eq_true', Bool.not_eq_true, decide_eq_false_iff_not, reduceCtorEq, decide_true, decide_false, le_size, ne_eq, not_true_eq_false, not_false_eq_true, Nat.zero_le, gsOn_nil, enter, leave, List.append_assoc, gat, gat0, sat, sat0, tat, kd_append, kd_extend, kd_pop, kd_get, kd_update, kdPick, md_append, md_extend, md_popl, md_get1, md_get2, md_popd, md_update, pairsOf_loc, items_loc, itemsA_loc, fieldsOf_loc, items_lst, items_fls, itemsA_lst, itemsA_fls, itemsA_tup, pairsOf_dct, pairsOf_lst, pairsOf_fls, pairsOf_tup, ix_lst, ix_fls, ix_tup, ix_dct, bLen_lst, bLen_fls, bLen_tup, bList, bSum, bMin1, bAll, bAny, bSorted, ne_ints_nil, ne_nil_nil, mAppend, mExtend, List.length_append, Nat.zero_add, seqSrc, lstSrc, itmSrc, List.map_map, mulOk_l, mulOk_r, divOk_l, natAbs_10, int_zero_add, atI_of, List.map_append, Int.reduceSub, Int.reduceEq, Int.reduceMod, Int.reduceDiv, Int.reduceBEq, Int.reduceBNe, frzD_loc, ↓endQ_app, ↓endQ_id, belows_map, below_tup, below_lst, below_fls, below_dct, below_int, below_str, below_bl, below_non, belows_nil, belows_cons, Bool.and_self, Bool.and_true, Bool.true_and, implies_true, cut_hi, cut_lo, opt_nil, opt_one, sl_lst, sl_fls, sl_loc, Option.bind_some, List.drop_succ_cons, List.drop_zero, List.take_succ_cons, List.take_zero, below_nat, natD_eq, keyD_int, keyD_str, cmp_in, cmp_nin, setD_loc, mPopL_loc, mPopD_loc, mUpdate_loc, isLoc_dct, mGet1, mGet2, ixL_loc, ixD_loc, atI_nat, ixN_nat, sem_mt', sem_con', sem_fd', sem_df', Option.map_some, Option.map_none, Option.bind_none, augD, List.eraseIdx_cons_zero, Int.reducePow, Nat.reducePow, and_self, Int.toNat_zero, negD_int, atI_last, add_loc_loc, add_lst_lst, add_loc_lst, add_lst_loc]))
theorem setFD_loc {s : Mem} (l : Nat) (f : Str) (v : Dt) : setFD (.loc l) f v s = match s[l]? with
    | some (.live (.obj c fs)) => if fs.length < 1000 then some ((), s.set l (.live (.obj c (putFD f v fs)))) else none
    | _ => none := rfl
theorem sfd_obj {G : Gs} {s : Mem} {l : Nat} {c f : Str} {fs : List (Str × Dt)} (h : s[l]? = some (.live (.obj c fs))) (h1 : G.fd c f = true) : sfdD G (.loc l) f s = some () := by
  unfold sfdD
  rw [fieldsOf_loc, h]
  show (if G.fd c f = true then some () else none) = _
  rw [if_pos h1]
theorem put1 (v : Dt) : putFD "may" v ([] : List (Str × Dt)) = ([("may", v)] : List (Str × Dt)) := rfl
theorem put2 (a v : Dt) : putFD "there" v ([("may", a)] : List (Str × Dt)) = ([("may", a), ("there", v)] : List (Str × Dt)) := rfl
theorem put3 (a b v : Dt) : putFD "lack" v ([("may", a), ("there", b)] : List (Str × Dt)) = ([("may", a), ("there", b), ("lack", v)] : List (Str × Dt)) := rfl
theorem put4 (a b c v : Dt) : putFD "given" v ([("may", a), ("there", b), ("lack", c)] : List (Str × Dt)) = ([("may", a), ("there", b), ("lack", c), ("given", v)] : List (Str × Dt)) := rfl
theorem put5 (a b c d v : Dt) : putFD "spent" v ([("may", a), ("there", b), ("lack", c), ("given", d)] : List (Str × Dt)) = ([("may", a), ("there", b), ("lack", c), ("given", d), ("spent", v)] : List (Str × Dt)) := rfl
section
variable {R : Prg} (hT : HasT R) {s0 : Mem} {may : List (List Nat)} {sup wants : List Int} {n : Nat}
include hT
theorem c_init {E : Ep} {Q : Dt → Mem → Prop} (hs : sup.length ≤ 1000000) (hw : wants.length ≤ 1000000) :
    RunE ((sem R (n + 1)).fn "Transport.__init__" [.loc s0.length, .lst (sup.map .int), .lst (wants.map .int), .lst (mayD may)]) (s0 ++ [.live (.obj "Transport" [])]) E Q ↔ Q .non (tS s0 may (ts0 sup wants) []) := by
  have hsL : ∀ {m : Nat}, m ≤ 10000000 → m ≤ sizeLine := fun h => Nat.le_of_lt (Nat.lt_of_lt_of_le (by omega : _ < 16777216) (of_eq_true (le_size (Nat.le_refl _))))
  have key : RunE ((sem R (n + 1)).fn "Transport.__init__" [.loc s0.length, .lst (sup.map .int), .lst (wants.map .int), .lst (mayD may)]) (s0 ++ [.live (.obj "Transport" [])]) (fun _ _ _ => False) fun d s' => d = .non ∧ s' = tS s0 may (ts0 sup wants) [] := by
    rw [sem_fn hT.ini, RunE_callF]
    simp only [F_Transport___init__]
    bv_omega
    rw [sfd_obj (c := "Transport") (by rw [gat0]; rfl) (by rw [sem_fd']; exact hT.fmay)]
    bv_omega
    rw [setFD_loc]
    bv_omega
    rw [put1]
    refine ⟨by rw [List.length_map]; exact hsL (by omega), ?_⟩
    rw [sfd_obj (c := "Transport") (by rw [gat0]; rfl) (by rw [sem_fd']; exact hT.fthere)]
    bv_omega
    rw [setFD_loc]
    bv_omega
    rw [put2]
    refine ⟨by rw [List.length_map]; exact hsL (by omega), ?_⟩
    rw [sfd_obj (c := "Transport") (by rw [gat0]; rfl) (by rw [sem_fd']; exact hT.flack)]
    bv_omega
    rw [setFD_loc]
    bv_omega
    rw [put3]
    refine RunE_lc (sup.map Dt.int) (fun i ys s' => ys = (List.range i).map (fun i => .loc (s0.length + (i + 3))) ∧ s' = s0 ++ (.live (.obj "Transport" [("may", .lst (mayD may)), ("there", .loc (s0.length + 1)), ("lack", .loc (s0.length + 2))]) :: .live (.lst (sup.map .int)) :: .live (.lst (wants.map .int)) :: List.replicate i (.live (.dct [])))) ⟨rfl, rfl⟩ (fun _ _ _ _ _ => gsNil) ?_ ?_
    · rintro i x ys s' hx ⟨rfl, rfl⟩ _
      bv_omega
      refine ⟨?_, ?_⟩
      · rw [List.range_succ, List.map_append]
        congr 3
        rw [List.length_replicate]
      · rw [show ∀ c : Cel, List.replicate i c ++ [c] = c :: List.replicate i c from fun c => List.replicate_succ'.symm.trans List.replicate_succ]
    · rintro ys s' ⟨rfl, rfl⟩ _
      rw [List.length_map]
      bv_omega
      refine ⟨by rw [List.length_map, List.length_range]; exact hsL (by omega), ?_⟩
      rw [sfd_obj (c := "Transport") (by rw [gat0]; rfl) (by rw [sem_fd']; exact hT.fgiven)]
      bv_omega
      rw [setFD_loc]
      bv_omega
      rw [put4]
      rw [sfd_obj (c := "Transport") (by rw [gat0]; rfl) (by rw [sem_fd']; exact hT.fspent)]
      bv_omega
      rw [setFD_loc]
      bv_omega
      rw [put5]
      unfold tS tcells tfs ts0
      simp
      exact ⟨List.map_const.symm, rfl⟩
  obtain ⟨d, s', e, rfl, rfl⟩ := key.ok_of
  exact RunE_ok e
end
theorem fillAll_append (may : List (List Nat)) : ∀ (a b : List Nat) (T : TS), fillAll may (a ++ b) T = fillAll may b (fillAll may a T)
  | [], _, _ => rfl
  | g :: a, b, T => by show fillAll may (a ++ b) (fillF may (T.lk g).toNat T g) = _; rw [fillAll_append may a b]; rfl
def servPre (z : Sm) : Sms := (.cons (.asg (.nm 3) (.make "Transport" (.cons (.var 0) (.cons (.var 1) (.cons (.var 2) .nil)))))
  (.cons (.frs (.nm 4) (.rng (.cons (.blt false "len" (.cons (.var 1) .nil)) .nil))
  (.cons (.expr (.meth (.var 3) "fill" (.cons (.var 4) .nil) 0))
  .nil))
  (.cons (.asg (.tp [5, 6, 7]) (.meth (.var 3) "reached" (.cons (.lc false [("goal", 4)] (.nm 4) (.rng (.cons (.blt false "len" (.cons (.var 1) .nil)) .nil)) (.cons (.cmp .Gt (.ix (.fld (.var 3) "lack") (.var 4)) (.cst (.int 0))) .nil) (.var 4)) (.cons (.dis false) .nil)) 0))
  (.cons (.asg (.nm 8) (.lst true .nil))
  (.cons (.frs (.tp [9, 10]) (.enu (.fld (.var 3) "given"))
  (.cons (.expr (.mtd false (.var 8) "extend" (.cons (.lc false [("goal", 4), ("many", 11)] (.tp [4, 11]) (.itm (.var 10)) .nil (.tup (.cons (.var 9) (.cons (.var 4) (.cons (.var 11) .nil))))) .nil)))
  .nil))
  (.cons z
  .nil))))))
theorem tS_set (s0 : Mem) (may : List (List Nat)) (T : TS) (r : List Cel) (k : Nat) (c : Cel) : (tS s0 may T r).set (s0.length + (T.given.length + 4 + k)) c = tS s0 may T (r.set k c) := by
  unfold tS
  have e : (tcells s0.length may T).length = T.given.length + 4 := by unfold tcells; simp
  rw [sat, List.set_append_right _ _ (by omega)]
  congr 3
  omega
theorem items_row (row : Row) : (rowD row).map (fun kv => Dt.tup [dKey kv.1, kv.2]) = row.map fun (x : Nat × Int) => .tup [.int (x.1 : Int), .int x.2] := by
  unfold rowD; rw [List.map_map]; rfl
def tk (T : TS) (n : Nat) : List (List Key) := (List.range n).flatMap fun s => (T.row s).map fun x => [.inl (s : Int), .inl (x.1 : Int), .inl x.2]
def tkD (t : List Key) : Dt := .tup (t.map dKey)
section
variable {R : Prg} (hT : HasT R) {s0 : Mem} {may : List (List Nat)} {sup wants : List Int} {n : Nat} (I : In sup wants may) (hs : sup.length ≤ 1000000) (hw : wants.length ≤ 1000000)
include hT I hs hw
theorem serv_run {z : Sm} {E : Es} {Q : Fl → Fra → Mem → Prop} (hsz : sup.length * wants.length ≤ 10000000)
    (hQ : ∀ x4 x6 x7 x9 x10 x11, RunS (execs (sem R (n + 3)) (.cons z .nil) [some (.lst (sup.map .int)), some (.lst (wants.map .int)), some (.lst (mayD may)), some (.loc s0.length), x4, some (.dct (ahD (servR sup wants may).1)), x6, x7, some (.loc (s0.length + (sup.length + 4))), x9, x10, x11])
      (tS s0 may (servT sup wants may) [.live (.lst ((tk (servT sup wants may) sup.length).map tkD))]) E Q) :
    RunS (execs (sem R (n + 3)) (servPre z) [some (.lst (sup.map .int)), some (.lst (wants.map .int)), some (.lst (mayD may)), none, none, none, none, none, none, none, none, none]) s0 E Q := by
  have hsL : ∀ {m : Nat}, m ≤ 10000000 → m ≤ sizeLine := fun h => Nat.le_of_lt (Nat.lt_of_lt_of_le (by omega : _ < 16777216) (of_eq_true (le_size (Nat.le_refl _))))
  obtain ⟨F1, F2, F3, F4⟩ := servT_ok I
  simp only [servPre]
  bv_omega
  rw [hT.mini]
  bv_omega
  rw [c_init hT (by omega) (by omega)]
  bv_omega
  rw [List.length_map, rng1 (by omega), RdQ_some, Int.toNat_natCast]
  bv_omega
  refine RunS_form (List.range wants.length) _ (fun pre φ s' => ∃ x4, φ = [some (.lst (sup.map .int)), some (.lst (wants.map .int)), some (.lst (mayD may)), some (.loc s0.length), x4, none, none, none, none, none, none, none] ∧
    s' = tS s0 may (fillAll may pre (ts0 sup wants)) [] ∧ ∀ g ∈ pre, g < wants.length) ⟨_, rfl, rfl, fun g h => by cases h⟩ (fun _ _ _ _ => gsNil) ?_ ?_
  · rintro pre g post φ s' hg ⟨x4, rfl, rfl, hp⟩ _
    have hgl : g < wants.length := List.mem_range.mp (by rw [hg]; simp)
    obtain ⟨T1, T2, T3, _⟩ := fillAll_ok I.len I.lt' pre (ts0 sup wants) [] hp (ts0_ok I) ts0_cs (fun s h => by cases h) (fun g h => by cases h)
    have A := tS_at (s0 := s0) (may := may) (T := fillAll may pre (ts0 sup wants)) (r := [])
    bv_omega
    rw [m_fil hT A]
    bv_omega
    rw [c_fill hT T1 T2 T3 I.len I.lt' (by omega) (by omega) hgl]
    bv_omega
    refine ⟨_, rfl, ?_, fun x hx => ?_⟩
    · rw [fillAll_append]; rfl
    · rcases List.mem_append.mp hx with hx | hx
      · exact hp x hx
      · rw [List.mem_singleton] at hx; subst hx; exact hgl
  · rintro φ s' ⟨x4, rfl, rfl, _⟩ _
    have eT : fillAll may (List.range wants.length) (ts0 sup wants) = servT sup wants may := rfl
    rw [eT]
    have A := tS_at (s0 := s0) (may := may) (T := servT sup wants may) (r := [])
    bv_omega
    rw [m_rea hT A]
    bv_omega
    rw [List.length_map, rng1 (by omega), RdQ_some, Int.toNat_natCast]
    bv_omega
    rw [r_lcm (List.range wants.length) _ (fun g => decide (0 < (servT sup wants may).lk g)) natD gsNil]
    · bv_omega
      refine ⟨by rw [List.length_map]; exact hsL (Nat.le_trans (List.length_filter_le _ _) (by rw [List.length_range]; omega)), ?_⟩
      have hrow : ∀ s, ∀ o ∈ keys ((servT sup wants may).row s), o < wants.length := fun s o ho => by
        obtain ⟨x, hx, hx2⟩ := List.mem_map.mp ho
        have := ((F1.row s).el x hx).2
        omega
      have eW : List.filter (fun g => decide (0 < (servT sup wants may).lk g)) (List.range wants.length) = lackG (servT sup wants may) wants.length := rfl
      rw [eW, c_reached (w0 := lackG (servT sup wants may) wants.length) (spent := []) (sp := .dct []) hT A (by omega) (by omega) F1.lt F1.lg hrow I.lt' (fun t => rfl) I.len (List.Nodup.sublist List.filter_sublist List.nodup_range) (fun g hg => List.mem_range.mp (List.mem_filter.mp hg).1)]
      have eR : reach0 may (servT sup wants may) (lackG (servT sup wants may) wants.length) [] = servR sup wants may := rfl
      rw [eR]
      unfold reD
      generalize hT0 : servT sup wants may = T at *
      bv_omega
      rw [tS_app, List.nil_append, tS_len, f_given hT (tS_at (s0 := s0) (may := may) (T := T) (r := [.live (.lst [])]))]
      bv_omega
      rw [F1.lg]
      have hrs : ∀ s, (T.row s).length ≤ wants.length := fun s => by
        have := nodup_len (F1.row s).nd (hrow s)
        rwa [List.length_map] at this
      have htk : ∀ i, (tk T i).length ≤ i * wants.length := fun i => by
        induction i with
        | zero => simp [tk]
        | succ i ih =>
          unfold tk at ih ⊢
          rw [List.range_succ, List.flatMap_append, List.length_append, Nat.succ_mul]
          have := hrs i
          simp
          simp at ih
          omega
      refine RunS_for (enumD 0 ((List.range sup.length).map fun i => .loc (s0.length + (i + 3)))) (fun i φ s' => ∃ x4 x9 x10 x11, φ = [some (.lst (sup.map .int)), some (.lst (wants.map .int)), some (.lst (mayD may)), some (.loc s0.length), x4, some (.dct (ahD (servR sup wants may).1)), some (ahV (servR sup wants may).2.1), some (.dct (spD (servR sup wants may).2.2)), some (.loc (s0.length + (sup.length + 4 + 0))), x9, x10, x11] ∧
        s' = tS s0 may T [.live (.lst ((tk T i).map tkD))]) ⟨_, _, _, _, rfl, rfl⟩ (fun _ _ _ _ _ => gsNil) ?_ ?_
      · rintro i x φ s' hx ⟨x4, x9, x10, x11, rfl, rfl⟩ _
        rw [enumT_get, List.getElem?_map] at hx
        have hi : i < sup.length := by
          rcases Nat.lt_or_ge i sup.length with q | q
          · exact q
          · rw [List.getElem?_eq_none (by simpa using q)] at hx; cases hx
        rw [List.getElem?_range hi] at hx
        cases hx
        have A1 := tS_at (s0 := s0) (may := may) (T := T) (r := [.live (.lst ((tk T i).map tkD))])
        have hrow1 := A1.row i (by rw [F1.lg]; exact hi)
        have hcell : ∀ t : List Dt, (tS s0 may T [.live (.lst t)])[s0.length + (sup.length + 4 + 0)]? = some (.live (.lst t)) := fun t => by
          rw [← F1.lg, tS_rest]; rfl
        rw [Nat.zero_add]
        bv_omega
        rw [hcell]
        bv_omega
        rw [hrow1]
        bv_omega
        rw [items_row, r_lcn (T.row i) _ (fun (x : Nat × Int) => .tup [.int (i : Int), .int (x.1 : Int), .int x.2]) (by rw [gsOn_lk]; exact ⟨set_here hrow1, gsNil⟩)]
        · rw [set_back hrow1]
          have h1 := htk i
          have h2 := hrs i
          have h3 : i * wants.length + wants.length ≤ sup.length * wants.length := by
            have := Nat.mul_le_mul_right wants.length hi
            rwa [Nat.succ_mul] at this
          bv_omega
          refine ⟨by rw [List.length_map]; exact hsL (by omega), ?_⟩
          rw [hcell]
          bv_omega
          refine ⟨by rw [List.length_map, List.length_map]; exact hsL (by omega), _, _, _, _, rfl, ?_⟩
          rw [← F1.lg, tS_set]
          show tS s0 may T [_] = _
          congr 4
          unfold tk
          rw [List.range_succ, List.flatMap_append, List.map_append]
          simp [tkD, dKey, Function.comp_def]
        · rintro ⟨g, m⟩ hm
          refine ⟨_, rfl, ?_⟩
          bv_omega
      · rintro φ s' ⟨x4, x9, x10, x11, rfl, rfl⟩ _
        rw [enumT_len, List.length_map, List.length_range]
        have q := hQ x4 (some (ahV (servR sup wants may).2.1)) (some (.dct (spD (servR sup wants may).2.2))) x9 x10 x11
        exact q
    · intro g hg
      have hg := List.mem_range.mp hg
      have hlk : (servT sup wants may).lack[g]? = some ((servT sup wants may).lk g) := by
        unfold TS.lk
        rw [List.getD_eq_getElem?_getD, List.getElem?_eq_getElem (by rw [F1.ll]; exact hg)]; rfl
      refine ⟨_, rfl, ?_, fun _ => ?_⟩
      · bv_omega
        rw [f_lack hT A]
        bv_omega
        rw [A.lack]
        bv_omega
        rw [List.getElem?_map, hlk]
        bv_omega
      · bv_omega
end
end QQ

/-! transport.py runs as its mirror: what served tells -/
namespace QQ
open PySem L2
local macro_rules | `(tactic| bv_omega) => `(tactic| ((try simp only [frame0, List.map_cons, List.map_nil, List.length_cons, List.length_nil, Nat.reduceAdd, Nat.reduceSub, List.replicate, List.cons_append, List.nil_append]); try simp only [↓r_var, ↓r_cst, ↓r_glb, ↓r_bin, ↓r_cmp, ↓r_chn, ↓r_bop, ↓r_neg, ↓r_nt, ↓r_ife, ↓r_tup, ↓r_lst, ↓r_dis, ↓r_ix, ↓r_slc, ↓r_fld, ↓r_call, ↓r_make, ↓r_meth, ↓r_blt, ↓r_mtd, ↓r_lc, ↓r_srtSet, ↓r_frz, ↓r_nil, ↓r_cons, ↓rB_one, ↓rB_more, ↓t_bop, ↓t_nt, ↓t_cmp, ↓t_chn, ↓t_var, ↓t_cst, ↓t_ix, ↓t_fld, ↓t_call, ↓t_meth, ↓t_blt, ↓tB_one, ↓tB_more, ↓ts_nil, ↓ts_one, ↓i_seq, ↓i_rng, ↓i_enu, ↓i_zip, ↓i_itm, ↓x_expr, ↓x_asg, ↓x_par, ↓x_aug, ↓x_six, ↓x_aix, ↓x_sfd, ↓x_ite, ↓x_whl, ↓x_frs, ↓x_ret, ↓x_retN, ↓x_pas, ↓x_brk, ↓x_ctn, ↓xs_nil, ↓xs_cons, ↓RdQ_some, ↓LfQ_some, ↓RdQ_none, ↓LfQ_none, RdQ_some, LfQ_some, RdQ_none, LfQ_none, RdQ_ite, LfQ_ite, ↓nxQ_nx, ↓nxQ_rt, ↓nxQ_bk, ↓nxQ_ct, ↓lpQ_nx, ↓lpQ_rt, ↓lpQ_bk, ↓lpQ_ct, ↓fnQ_nx, ↓fnQ_rt, ↓endQ_f, ↓notQ_bl, ↓bopQ_bl, ↓parQ_two, isNon_non, add_int, sub_int, mul_int', fdiv_int, mod_int, pow_int, eq_int, ne_int, lt_int, le_int, gt_int, ge_int, eq_str, ne_str, eq_bl, is_non, is_tup, is_int, isn_non, isn_tup, isn_int, true_bl, true_int, mkT_if, mkL_t, mkL_f, mkD_t, mkD_f, blt_len, blt_list, blt_sum, blt_min1, blt_all, blt_any, blt_sorted, blt_dict, blt_min2, blt_isi, bMin2_int, List.getElem?_cons_zero, List.getElem?_cons_succ, Option.join_some, Option.join_none, List.set_cons_zero, List.set_cons_succ, asgT, setsT, wipeD, List.map_cons, List.map_nil, frame0, List.replicate, List.length_cons, List.length_nil, List.cons_append, List.nil_append, List.append_nil, Nat.reduceAdd, Nat.reduceSub, Nat.reduceLeDiff, Nat.reduceLT, Int.reduceLT, Int.reduceLE, Int.reduceToNat, Int.reduceNeg, Int.reducePow, Int.reduceAdd, Int.reduceMul, decide_eq_true_eq, if_true, if_false, ite_true, ite_false, Bool.false_eq_true, Bool.true_eq_false, Bool.not_true, Bool.not_false, true_and, and_true, Bool.not_eq_true', Bool.not_eq_true, decide_eq_false_iff_not, reduceCtorEq, decide_true, decide_false, le_size, ne_eq, not_true_eq_false, not_false_eq_true, Nat.zero_le, gsOn_nil, enter, leave, List.append_assoc, gat, gat0, sat, sat0, tat, kd_append, kd_extend, kd_pop, kd_get, kd_update, kdPick, md_append, md_extend, md_popl, md_get1, md_get2, md_popd, md_update, pairsOf_loc, items_loc, itemsA_loc, fieldsOf_loc, items_lst, items_fls, itemsA_lst, itemsA_fls, itemsA_tup, pairsOf_dct, pairsOf_lst, pairsOf_fls, pairsOf_tup, ix_lst, ix_fls, ix_tup, ix_dct, bLen_lst, bLen_fls, bLen_tup, bList, bSum, bMin1, bAll, bAny, bSorted, ne_ints_nil, ne_nil_nil, mAppend, mExtend, List.length_append, Nat.zero_add, seqSrc, lstSrc, itmSrc, List.map_map, mulOk_l, mulOk_r, divOk_l, natAbs_10, int_zero_add, atI_of, List.map_append, Int.reduceSub, Int.reduceEq, Int.reduceMod, Int.reduceDiv, Int.reduceBEq, Int.reduceBNe, frzD_loc, ↓endQ_app, ↓endQ_id, belows_map, below_tup, below_lst, below_fls, below_dct, below_int, below_str, below_bl, below_non, belows_nil, belows_cons, Bool.and_self, Bool.and_true, Bool.true_and, implies_true, cut_hi, cut_lo, opt_nil, opt_one, sl_lst, sl_fls, sl_loc, Option.bind_some, List.drop_succ_cons, List.drop_zero, List.take_succ_cons, List.take_zero, below_nat, natD_eq, keyD_int, keyD_str, cmp_in, cmp_nin, setD_loc, mPopL_loc, mPopD_loc, mUpdate_loc, isLoc_dct, mGet1, mGet2, ixL_loc, ixD_loc, atI_nat, ixN_nat, sem_mt', sem_con', sem_fd', sem_df', Option.map_some, Option.map_none, Option.bind_none, augD, List.eraseIdx_cons_zero, Int.reducePow, Nat.reducePow, and_self, Int.toNat_zero, negD_int, atI_last, add_loc_loc, add_lst_lst, add_loc_lst, add_lst_loc]))
theorem keysOf_map : ∀ t : List Key, keysOf (t.map dKey) = some t
  | [] => rfl
  | .inl i :: t => by
    show (keyD (.int i)).bind _ = _
    rw [keyD_int, Option.bind_some, keysOf_map t]; rfl
  | .inr x :: t => by
    show (keyD (.str x)).bind _ = _
    rw [keyD_str, Option.bind_some, keysOf_map t]; rfl
theorem tupsOf_map : ∀ ts : List (List Key), tupsOf (ts.map tkD) = some ts
  | [] => rfl
  | t :: ts => by
    show (keysOf (t.map dKey)).bind _ = _
    rw [keysOf_map, Option.bind_some, tupsOf_map ts]; rfl
theorem oneSh_of {sh : List Bool} (hn : sh ≠ []) : ∀ {ts : List (List Key)}, (∀ t ∈ ts, shK t = sh) → oneSh ts = true := by
  intro ts h
  unfold oneSh
  rw [List.all_eq_true]
  intro t ht
  have h1 := h t ht
  have h2 : shK (ts.headD []) = sh := by
    cases ts with
    | nil => cases ht
    | cons a r => exact h a (List.mem_cons_self ..)
  rw [h1, h2, decide_eq_true rfl, Bool.and_true]
  cases t with
  | nil => exact absurd h1.symm hn
  | cons a r => rfl
theorem sortD_tups {own : Bool} {s : Mem} {sh : List Bool} (hn : sh ≠ []) {ts : List (List Key)} (h : ∀ t ∈ ts, shK t = sh) : sortD own (ts.map tkD) s = mkL own ((srtK ts).map tkD) s := by
  unfold sortD
  cases ts with
  | nil => rfl
  | cons t r =>
    have e : intsOf ((t :: r).map tkD) = none := rfl
    rw [e]
    simp only []
    rw [tupsOf_map, Option.bind_some, if_pos (oneSh_of hn h)]; rfl
theorem sortD_ints {own : Bool} {s : Mem} (ns : List Int) : sortD own (ns.map .int) s = mkL own ((srtI ns).map .int) s := by
  unfold sortD
  rw [intsOf_map]
theorem tk_sh {T : TS} {n : Nat} : ∀ t ∈ tk T n, shK t = [true, true, true] := fun t ht => by
  unfold tk at ht
  obtain ⟨s, _, h⟩ := List.mem_flatMap.mp ht
  obtain ⟨x, _, rfl⟩ := List.mem_map.mp h
  rfl
theorem insK_len (x : List Key) : ∀ l : List (List Key), (insK x l).length = l.length + 1
  | [] => rfl
  | y :: l => by
    unfold insK
    split
    · rw [List.length_cons, insK_len x l]; rfl
    · rfl
theorem srtK_len : ∀ l : List (List Key), (srtK l).length = l.length
  | [] => rfl
  | x :: l => by show (insK x (srtK l)).length = _; rw [insK_len, srtK_len l]; rfl
theorem insI_len (x : Int) : ∀ l : List Int, (insI x l).length = l.length + 1
  | [] => rfl
  | y :: l => by
    unfold insI
    split
    · rfl
    · rw [List.length_cons, insI_len x l]; rfl
theorem srtI_len : ∀ l : List Int, (srtI l).length = l.length
  | [] => rfl
  | x :: l => by show (insI x (srtI l)).length = _; rw [insI_len, srtI_len l]; rfl
def servK (sup wants : List Int) (may : List (List Nat)) : List (List Key) := srtK (tk (servT sup wants may) sup.length)
def shortI (sup wants : List Int) (may : List (List Nat)) : List Int := srtI ((servA sup wants may).map fun (g : Nat) => (g : Int))
def servX (l : Nat) (sup wants : List Int) (may : List (List Nat)) : List Cel := tcells l may (servT sup wants may) ++ [.live (.lst ((tk (servT sup wants may) sup.length).map tkD))]
theorem nats_ints (l : List Nat) : l.map natD = (l.map fun (g : Nat) => (g : Int)).map .int := by rw [List.map_map]; rfl
theorem ahD_keys (a : Ah) : (ahD a).map (fun kv => dKey kv.1) = (keys a).map natD := by
  unfold ahD; rw [List.map_map, List.map_map]; rfl
theorem below_tk (n : Nat) (ts : List (List Key)) : belows n (ts.map tkD) = true := belows_of fun d hd => by
  obtain ⟨t, _, rfl⟩ := List.mem_map.mp hd
  unfold tkD
  rw [below_tup]
  refine belows_of fun d hd => ?_
  obtain ⟨k, _, rfl⟩ := List.mem_map.mp hd
  cases k <;> simp [dKey, below]
section
variable {R : Prg} (hT : HasT R) {s : Mem} {may : List (List Nat)} {sup wants : List Int} {n : Nat} (I : In sup wants may) (hs : sup.length ≤ 1000000) (hw : wants.length ≤ 1000000)
include hT I hs hw
theorem tk_len : (tk (servT sup wants may) sup.length).length ≤ sup.length * wants.length := by
  obtain ⟨F1, _⟩ := servT_ok I
  have hrs : ∀ s, ((servT sup wants may).row s).length ≤ wants.length := fun s => by
    have := nodup_len (F1.row s).nd (n := wants.length) (fun o ho => by
      obtain ⟨x, hx, hx2⟩ := List.mem_map.mp ho
      have := ((F1.row s).el x hx).2
      omega)
    rwa [List.length_map] at this
  have htk : ∀ i, (tk (servT sup wants may) i).length ≤ i * wants.length := fun i => by
    induction i with
    | zero => simp [tk]
    | succ i ih =>
      unfold tk at ih ⊢
      rw [List.range_succ, List.flatMap_append, List.length_append, Nat.succ_mul]
      have := hrs i
      simp
      simp at ih
      omega
  exact htk _
theorem ret_run {own : Bool} {s0 : Mem} {E : Ep} {Q : Dt → Mem → Prop} {x4 x6 x7 x9 x10 x11 : Option Dt} (hsz : sup.length * wants.length ≤ 10000000) :
    RunE (ev (sem R (n + 3)) (.tup (.cons (.blt own "sorted" (.cons (.var 8) .nil)) (.cons (.blt own "sorted" (.cons (.blt false "list" (.cons (.var 5) .nil)) .nil)) .nil))) [some (.lst (sup.map .int)), some (.lst (wants.map .int)), some (.lst (mayD may)), some (.loc s0.length), x4, some (.dct (ahD (servR sup wants may).1)), x6, x7, some (.loc (s0.length + (sup.length + 4))), x9, x10, x11])
      (tS s0 may (servT sup wants may) [.live (.lst ((tk (servT sup wants may) sup.length).map tkD))]) E Q ↔
    LfQ (mkL own ((servK sup wants may).map tkD) (tS s0 may (servT sup wants may) [.live (.lst ((tk (servT sup wants may) sup.length).map tkD))])) fun x s1 => LfQ (mkL own ((shortI sup wants may).map .int) s1) fun y s2 => Q (.tup [x, y]) s2 := by
  have hsL : ∀ {m : Nat}, m ≤ 10000000 → m ≤ sizeLine := fun h => Nat.le_of_lt (Nat.lt_of_lt_of_le (by omega : _ < 16777216) (of_eq_true (le_size (Nat.le_refl _))))
  obtain ⟨F1, _⟩ := servT_ok I
  have hcell : (tS s0 may (servT sup wants may) [.live (.lst ((tk (servT sup wants may) sup.length).map tkD))])[s0.length + (sup.length + 4)]? = some (.live (.lst ((tk (servT sup wants may) sup.length).map tkD))) := by
    rw [← F1.lg, ← Nat.add_zero ((servT sup wants may).given.length + 4), tS_rest]; rfl
  have Z := servA_ok I
  have hal : (keys (servR sup wants may).1).length ≤ wants.length := nodup_len Z.nd Z.lt
  rw [List.length_map] at hal
  bv_omega
  rw [hcell]
  bv_omega
  rw [sortD_tups (by decide) tk_sh]
  refine LfQ_congr fun x s1 => ?_
  bv_omega
  rw [ahD_keys, nats_ints, sortD_ints]
  have h1 : (List.map Dt.int (List.map (fun (g : Nat) => (g : Int)) (keys (servR sup wants may).1))).length ≤ sizeLine := by
    rw [List.length_map, List.length_map, List.length_map]; exact hsL (by omega)
  simp only [h1, true_and]
  refine LfQ_congr fun y s2 => ?_
  bv_omega
/-- served, told by value, what it makes forgotten -/
theorem c_servedV (hsv : R.fns.lookup ("served" : Str) = some F_servedV) {E : Ep} {Q : Dt → Mem → Prop} (hsz : sup.length * wants.length ≤ 10000000) :
    RunE ((sem R (n + 4)).fn "served" [.lst (sup.map .int), .lst (wants.map .int), .lst (mayD may)]) s E Q ↔ Q (.tup [.lst ((servK sup wants may).map tkD), .lst ((shortI sup wants may).map .int)]) s := by
  have hsL : ∀ {m : Nat}, m ≤ 10000000 → m ≤ sizeLine := fun h => Nat.le_of_lt (Nat.lt_of_lt_of_le (by omega : _ < 16777216) (of_eq_true (le_size (Nat.le_refl _))))
  have hl1 : (servK sup wants may).length ≤ 10000000 := by unfold servK; rw [srtK_len]; exact Nat.le_trans (tk_len hT I hs hw) hsz
  have Z := servA_ok I
  have hal := nodup_len Z.nd Z.lt
  have hl2 : (shortI sup wants may).length ≤ 1000000 := by unfold shortI; rw [srtI_len, List.length_map]; omega
  refine c_of ?_
  rw [sem_fn hsv, RunE_callF]
  refine ⟨rfl, ?_⟩
  refine serv_run (z := .ret (.tup (.cons (.blt false "sorted" (.cons (.var 8) .nil)) (.cons (.blt false "sorted" (.cons (.blt false "list" (.cons (.var 5) .nil)) .nil)) .nil)))) hT I hs hw hsz fun x4 x6 x7 x9 x10 x11 => ?_
  rw [xs_cons, x_ret, ret_run hT I hs hw hsz]
  bv_omega
  refine ⟨by rw [List.length_map]; exact hsL hl1, by rw [List.length_map]; exact hsL (by omega), ?_⟩
  have hd : F_servedV.drop = true := rfl
  rw [hd]
  unfold tS
  bv_omega
  rw [below_tk]
/-- served, told in cells of its own -/
theorem c_served (hsv : R.fns.lookup ("served" : Str) = some F_served) {E : Ep} {Q : Dt → Mem → Prop} (hsz : sup.length * wants.length ≤ 10000000) :
    RunE ((sem R (n + 4)).fn "served" [.lst (sup.map .int), .lst (wants.map .int), .lst (mayD may)]) s E Q ↔ Q (.tup [.loc (s.length + (servX s.length sup wants may).length), .loc (s.length + ((servX s.length sup wants may).length + 1))]) (s ++ (servX s.length sup wants may ++ [.live (.lst ((servK sup wants may).map tkD)), .live (.lst ((shortI sup wants may).map .int))])) := by
  have hsL : ∀ {m : Nat}, m ≤ 10000000 → m ≤ sizeLine := fun h => Nat.le_of_lt (Nat.lt_of_lt_of_le (by omega : _ < 16777216) (of_eq_true (le_size (Nat.le_refl _))))
  have hl1 : (servK sup wants may).length ≤ 10000000 := by unfold servK; rw [srtK_len]; exact Nat.le_trans (tk_len hT I hs hw) hsz
  have Z := servA_ok I
  have hal := nodup_len Z.nd Z.lt
  have hl2 : (shortI sup wants may).length ≤ 1000000 := by unfold shortI; rw [srtI_len, List.length_map]; omega
  have hX0 : tcells s.length may (servT sup wants may) ++ [.live (.lst ((tk (servT sup wants may) sup.length).map tkD))] = servX s.length sup wants may := rfl
  generalize servX s.length sup wants may = X at *
  have hX := hX0
  have key : RunE ((sem R (n + 4)).fn "served" [.lst (sup.map .int), .lst (wants.map .int), .lst (mayD may)]) s (fun _ _ _ => False) fun d s' => d = .tup [.loc (s.length + X.length), .loc (s.length + (X.length + 1))] ∧ s' = s ++ (X ++ [.live (.lst ((servK sup wants may).map tkD)), .live (.lst ((shortI sup wants may).map .int))]) := by
    rw [sem_fn hsv, RunE_callF]
    refine ⟨rfl, ?_⟩
    refine serv_run (z := .ret (.tup (.cons (.blt true "sorted" (.cons (.var 8) .nil)) (.cons (.blt true "sorted" (.cons (.blt false "list" (.cons (.var 5) .nil)) .nil)) .nil)))) hT I hs hw hsz fun x4 x6 x7 x9 x10 x11 => ?_
    rw [xs_cons, x_ret, ret_run hT I hs hw hsz]
    unfold tS
    rw [hX]
    bv_omega
    refine ⟨by rw [List.length_map]; exact hsL hl1, by rw [List.length_map]; exact hsL (by omega), ?_⟩
    have hd : F_served.drop = false := rfl
    rw [hd]
    bv_omega
  obtain ⟨d, s', e, rfl, rfl⟩ := key.ok_of
  exact RunE_ok e
end
end QQ

/-! the serving as a list of triples -/
namespace QQ
open PySem L2
abbrev Tri := Nat × Nat × Int
def trip (T : TS) (n : Nat) : List Tri := (List.range n).flatMap fun s => (T.row s).map fun x => (s, x.1, x.2)
def enc (t : Tri) : List Key := [.inl (t.1 : Int), .inl (t.2.1 : Int), .inl t.2.2]
def dec (t : List Key) : Tri := match t with
  | [.inl a, .inl b, .inl m] => (a.toNat, b.toNat, m)
  | _ => (0, 0, 0)
theorem dec_enc (t : Tri) : dec (enc t) = t := by
  obtain ⟨a, b, m⟩ := t
  unfold dec enc
  simp
theorem tk_trip (T : TS) (n : Nat) : tk T n = (trip T n).map enc := by
  unfold tk trip
  rw [List.map_flatMap]
  simp [enc, Function.comp_def]
theorem perm_dec {l : List Tri} {x : List (List Key)} (h : x.Perm (l.map enc)) : ∃ L : List Tri, x = L.map enc ∧ L.Perm l := by
  refine ⟨x.map dec, ?_, ?_⟩
  · rw [List.map_map]
    refine (List.map_id x).symm.trans (List.map_congr_left fun t ht => ?_)
    obtain ⟨u, _, rfl⟩ := List.mem_map.mp (h.subset ht)
    show enc u = enc (dec (enc u))
    rw [dec_enc]
  · have := h.map dec
    rw [List.map_map] at this
    rwa [show (dec ∘ enc) = id from funext dec_enc, List.map_id] at this
theorem perm_sum {α : Type} (f : α → Int) {l m : List α} (h : l.Perm m) : (l.map f).sum = (m.map f).sum := by
  induction h with
  | nil => rfl
  | cons x _ ih => rw [List.map_cons, List.map_cons, List.sum_cons, List.sum_cons, ih]
  | swap x y l => simp only [List.map_cons, List.sum_cons]; omega
  | trans _ _ h1 h2 => rw [h1, h2]
theorem sum_range {α : Type} (f : Nat → List α) (h : α → Int) : ∀ n : Nat, (((List.range n).flatMap f).map h).sum = sm n fun s => ((f s).map h).sum
  | 0 => rfl
  | n + 1 => by
    rw [List.range_succ, List.flatMap_append, List.map_append, List.sum_append, sum_range f h n]
    simp [sm]
theorem row_sum {nw : Nat} (P : Nat → Bool) : ∀ {row : Row}, RowOk nw row → (row.map fun x => if P x.1 = true then x.2 else 0).sum = sm nw fun g => if P g = true then ramt row g else 0
  | [], _ => by
    refine Eq.symm ((sm_congr fun g _ => ?_).trans (sm_zero nw))
    show (if P g = true then (0 : Int) else 0) = 0
    split <;> rfl
  | (k, v) :: row, h => by
    have hnd : k ∉ keys row ∧ (keys row).Nodup := List.nodup_cons.mp h.nd
    have h' : RowOk nw row := ⟨hnd.2, fun x hx => h.el x (List.mem_cons_of_mem _ hx)⟩
    have hk : k < nw := (h.el (k, v) (List.mem_cons_self ..)).2
    rw [List.map_cons, List.sum_cons, row_sum P h']
    have : ∀ g, g < nw → (if P g = true then ramt ((k, v) :: row) g else 0) = (if g = k then (if P k = true then v else 0) else 0) + (if P g = true then ramt row g else 0) := fun g _ => by
      unfold ramt
      rw [kGet_cons]
      by_cases e : k = g
      · subst e
        rw [if_pos rfl, if_pos rfl, kGet_none.mpr hnd.1]
        split <;> simp
      · rw [if_neg e, if_neg (Ne.symm e)]; omega
    rw [sm_congr this, sm_add, sm_one hk]
def wt (key : Tri → Nat) (L : List Tri) (i : Nat) : Int := (L.map fun t => if key t = i then t.2.2 else 0).sum
theorem wt_nil (key : Tri → Nat) (i : Nat) : wt key [] i = 0 := rfl
theorem wt_snoc (key : Tri → Nat) (L : List Tri) (t : Tri) (i : Nat) : wt key (L ++ [t]) i = wt key L i + if key t = i then t.2.2 else 0 := by
  unfold wt; rw [List.map_append, List.sum_append]; simp
def sub (key : Tri → Nat) (l : List Int) (L : List Tri) : List Int := L.foldl (fun l t => l.set (key t) (l.getD (key t) 0 - t.2.2)) l
theorem sub_snoc (key : Tri → Nat) (l : List Int) (L : List Tri) (t : Tri) : sub key l (L ++ [t]) = (sub key l L).set (key t) ((sub key l L).getD (key t) 0 - t.2.2) := by
  unfold sub; rw [List.foldl_append]; rfl
theorem sub_len (key : Tri → Nat) : ∀ (L : List Tri) (l : List Int), (sub key l L).length = l.length
  | [], _ => rfl
  | t :: L, l => by show (sub key (l.set _ _) L).length = _; rw [sub_len key L, List.length_set]
theorem sub_get (key : Tri → Nat) : ∀ (L : List Tri) (l : List Int) (i : Nat), (∀ t ∈ L, key t < l.length) → (sub key l L).getD i 0 = l.getD i 0 - wt key L i
  | [], l, i, _ => by show l.getD i 0 = l.getD i 0 - 0; omega
  | t :: L, l, i, h => by
    show (sub key (l.set (key t) (l.getD (key t) 0 - t.2.2)) L).getD i 0 = _
    have ht := h t (List.mem_cons_self ..)
    rw [sub_get key L _ i fun x hx => by rw [List.length_set]; exact h x (List.mem_cons_of_mem _ hx)]
    have e : wt key (t :: L) i = (if key t = i then t.2.2 else 0) + wt key L i := by unfold wt; rw [List.map_cons, List.sum_cons]
    rw [e, List.getD_eq_getElem?_getD, List.getElem?_set]
    by_cases q : key t = i
    · subst q
      rw [if_pos rfl, if_pos ht, if_pos rfl, Option.getD_some]; omega
    · rw [if_neg q, if_neg q, ← List.getD_eq_getElem?_getD]; omega
/-- what is told of a serving -/
structure Serving (sup wants : List Int) (may : List (List Nat)) (L : List Tri) : Prop where
  s : ∀ t ∈ L, t.1 < sup.length
  g : ∀ t ∈ L, t.2.1 < wants.length
  m : ∀ t ∈ L, 1 ≤ t.2.2
  may : ∀ t ∈ L, t.1 ∈ may.getD t.2.1 []
  nd : (L.map fun t => (t.1, t.2.1)).Nodup
  left : ∀ s, wt (·.1) L s ≤ sup.getD s 0
  lack : ∀ g, wt (·.2.1) L g ≤ wants.getD g 0
section
variable {sup wants : List Int} {may : List (List Nat)}
theorem wt_sup {T : TS} {S W : Nat → Int} (h : TG sup.length wants.length may S W T) (s : Nat) : wt (·.1) (trip T sup.length) s = if s < sup.length then sm wants.length (T.amt s) else 0 := by
  unfold wt trip
  rw [sum_range]
  have : ∀ s', s' < sup.length → (((T.row s').map fun x => (s', x.1, x.2)).map fun (t : Tri) => if t.1 = s then t.2.2 else 0).sum = if s' = s then sm wants.length (T.amt s) else 0 := fun s' _ => by
    rw [List.map_map]
    show ((T.row s').map fun x => if s' = s then x.2 else 0).sum = _
    by_cases e : s' = s
    · subst e
      have := row_sum (fun _ => true) (h.row s')
      simp only [if_true] at this
      simp only [if_pos trivial]
      exact this
    · simp only [if_neg e]
      have := row_sum (fun _ => false) (h.row s')
      simp only [Bool.false_eq_true, if_false] at this
      rw [this, sm_zero]
  rw [sm_congr this]
  by_cases hs : s < sup.length
  · rw [if_pos hs, sm_one hs]
  · rw [if_neg hs]
    refine (sm_congr fun i hi => ?_).trans (sm_zero _)
    rw [if_neg (by omega)]
theorem wt_want {T : TS} {S W : Nat → Int} (h : TG sup.length wants.length may S W T) (g : Nat) : wt (·.2.1) (trip T sup.length) g = if g < wants.length then sm sup.length (fun s => T.amt s g) else 0 := by
  unfold wt trip
  rw [sum_range]
  have : ∀ s', s' < sup.length → (((T.row s').map fun x => (s', x.1, x.2)).map fun (t : Tri) => if t.2.1 = g then t.2.2 else 0).sum = if g < wants.length then T.amt s' g else 0 := fun s' _ => by
    rw [List.map_map]
    show ((T.row s').map fun x => if x.1 = g then x.2 else 0).sum = _
    have := row_sum (fun i => decide (i = g)) (h.row s')
    simp only [decide_eq_true_eq] at this
    rw [this]
    by_cases hg : g < wants.length
    · rw [if_pos hg, ← sm_one hg (T.amt s' g)]
      refine sm_congr fun i _ => ?_
      split
      · rename_i e; subst e; rfl
      · rfl
    · rw [if_neg hg]
      refine (sm_congr fun i hi => ?_).trans (sm_zero _)
      rw [if_neg (by omega)]
  rw [sm_congr this]
  by_cases hg : g < wants.length
  · simp only [if_pos hg]
  · simp only [if_neg hg]; rw [sm_zero]
theorem serving_ok (I : In sup wants may) : ∃ L : List Tri, servK sup wants may = L.map enc ∧ Serving sup wants may L ∧ L.Perm (trip (servT sup wants may) sup.length) := by
  obtain ⟨h, _⟩ := servT_ok I
  obtain ⟨L, e, p⟩ := perm_dec (x := servK sup wants may) (l := trip (servT sup wants may) sup.length) (by unfold servK; rw [tk_trip]; exact srtK_perm _)
  refine ⟨L, e, ?_, p⟩
  have hm : ∀ t ∈ L, t.1 < sup.length ∧ (t.2.1, t.2.2) ∈ (servT sup wants may).row t.1 := fun t ht => by
    have := p.subset ht
    unfold trip at this
    obtain ⟨s, hs, h2⟩ := List.mem_flatMap.mp this
    obtain ⟨x, hx, rfl⟩ := List.mem_map.mp h2
    exact ⟨List.mem_range.mp hs, hx⟩
  refine ⟨fun t ht => (hm t ht).1, fun t ht => ((h.row _).el _ (hm t ht).2).2, fun t ht => ((h.row _).el _ (hm t ht).2).1, fun t ht => h.may _ _ (List.mem_map.mpr ⟨_, (hm t ht).2, rfl⟩), ?_, fun s => ?_, fun g => ?_⟩
  · refine (p.map _).nodup_iff.mpr ?_
    unfold trip
    rw [List.map_flatMap]
    have : ∀ n, (((List.range n).flatMap fun s => ((servT sup wants may).row s).map fun x => (s, x.1, x.2)).map fun (t : Tri) => (t.1, t.2.1)).Nodup := by
      intro n
      induction n with
      | zero => exact List.nodup_nil
      | succ n ih =>
        rw [List.range_succ, List.flatMap_append, List.map_append, List.nodup_append]
        refine ⟨ih, ?_, fun a ha b hb => ?_⟩
        · simp only [List.flatMap_singleton, List.map_map]
          have := (h.row n).nd
          exact List.pairwise_map.mpr (List.Pairwise.imp (fun {a b} hab q => by
            have := congrArg Prod.snd q
            exact hab this) (List.pairwise_map.mp this))
        · obtain ⟨t, ht, rfl⟩ := List.mem_map.mp ha
          obtain ⟨u, hu, rfl⟩ := List.mem_map.mp hb
          obtain ⟨s, hs, h2⟩ := List.mem_flatMap.mp ht
          obtain ⟨x, hx, rfl⟩ := List.mem_map.mp h2
          simp only [List.flatMap_singleton] at hu
          obtain ⟨y, hy, rfl⟩ := List.mem_map.mp hu
          intro q
          have := congrArg Prod.fst q
          simp at this
          have := List.mem_range.mp hs
          omega
    have t := this sup.length
    rwa [List.map_flatMap] at t
  · have e2 : wt (·.1) L s = wt (·.1) (trip (servT sup wants may) sup.length) s := perm_sum _ p
    rw [e2, wt_sup h]
    split
    · rename_i hs
      have := h.sum s hs
      have := h.tn s
      omega
    · exact getD_nn I.sn s
  · have e2 : wt (·.2.1) L g = wt (·.2.1) (trip (servT sup wants may) sup.length) g := perm_sum _ p
    rw [e2, wt_want h]
    split
    · rename_i hg
      have := h.col g hg
      have := h.ln g
      omega
    · exact getD_nn I.wn g
end
end QQ

/-! the ASTs of the laws' draws of transports -/
namespace QQ
open PySem L2
def F__law_mixed : Fn := ⟨["_law_script", "_law_k"], ["_law_script", "_law_k", "_law_cell", "_law_number"],
  (.cons (.asg (.nm 2) (.ife (.cmp .NotEq (.var 0) (.lst false .nil)) (.bin .Mod false (.ix (.var 0) (.bin .Mod false (.var 1) (.blt false "len" (.cons (.var 0) .nil)))) (.bin .Pow false (.cst (.int 10)) (.cst (.int 60)))) (.cst (.int 0))))
  (.cons (.asg (.nm 3) (.bin .Mod false (.bin .Mult false (.bin .Add false (.bin .Add false (.bin .Add false (.var 2) (.bin .Mult false (.bin .Mult false (.cst (.int 7919)) (.var 1)) (.var 1))) (.bin .Mult false (.cst (.int 104729)) (.var 1))) (.cst (.int 17))) (.cst (.int 48271))) (.cst (.int 2147483647))))
  (.cons (.ret (.bin .FloorDiv false (.bin .Mod false (.bin .Mult false (.var 3) (.bin .Add false (.bin .Mod false (.var 3) (.cst (.int 65521))) (.cst (.int 3)))) (.cst (.int 2147483629))) (.cst (.int 8))))
  .nil))), 0, false⟩
def F__law_amount : Fn := ⟨["_law_number"], ["_law_number", "_law_way"],
  (.cons (.asg (.nm 1) (.bin .Mod false (.var 0) (.cst (.int 9))))
  (.cons (.ite (.cmp .Lt (.var 1) (.cst (.int 6)))
  (.cons (.ret (.bin .Mod false (.bin .FloorDiv false (.var 0) (.cst (.int 9))) (.cst (.int 7))))
  .nil)
  .nil)
  (.cons (.ret (.ix (.lst false (.cons (.cst (.int 0)) (.cons (.bin .Mod false (.bin .FloorDiv false (.var 0) (.cst (.int 9))) (.cst (.int 40))) (.cons (.bin .Mod false (.bin .Mult false (.var 0) (.bin .Add false (.bin .Pow false (.cst (.int 10)) (.cst (.int 12))) (.var 0))) (.bin .Add false (.bin .Pow false (.cst (.int 10)) (.cst (.int 24))) (.cst (.int 1)))) .nil)))) (.bin .Sub false (.var 1) (.cst (.int 6)))))
  .nil))), 0, false⟩
def F__law_drawn : Fn := ⟨["_law_script", "_law_first", "_law_rooms"], ["_law_script", "_law_first", "_law_rooms", "_law_supplies", "_law_k", "_law_wants", "_law_may", "_law_number", "_law_some", "_law_place"],
  (.cons (.asg (.nm 3) (.lc false [("_law_k", 4)] (.nm 4) (.rng (.cons (.bin .Mod false (.bin .FloorDiv false (.call "_law_mixed" (.cons (.var 0) (.cons (.var 1) .nil)) 0) (.cst (.int 3))) (.bin .Add false (.var 2) (.cst (.int 1)))) .nil)) .nil (.call "_law_amount" (.cons (.call "_law_mixed" (.cons (.var 0) (.cons (.bin .Add false (.var 1) (.var 4)) .nil)) 0) .nil) 0)))
  (.cons (.asg (.nm 5) (.lst true .nil))
  (.cons (.asg (.nm 6) (.lst true .nil))
  (.cons (.frs (.nm 4) (.rng (.cons (.bin .Mod false (.bin .FloorDiv false (.call "_law_mixed" (.cons (.var 0) (.cons (.bin .Add false (.var 1) (.cst (.int 1))) .nil)) 0) (.cst (.int 3))) (.bin .Add false (.var 2) (.cst (.int 1)))) .nil))
  (.cons (.expr (.mtd false (.var 5) "append" (.cons (.call "_law_amount" (.cons (.call "_law_mixed" (.cons (.var 0) (.cons (.bin .Add false (.bin .Add false (.var 1) (.cst (.int 20))) (.var 4)) .nil)) 0) .nil) 0) .nil)))
  (.cons (.asg (.nm 7) (.call "_law_mixed" (.cons (.var 0) (.cons (.bin .Add false (.bin .Add false (.var 1) (.cst (.int 40))) (.var 4)) .nil)) 0))
  (.cons (.asg (.nm 8) (.lc false [("_law_place", 9)] (.nm 9) (.rng (.cons (.blt false "len" (.cons (.var 3) .nil)) .nil)) (.cons (.cmp .Gt (.bin .Mod false (.bin .FloorDiv false (.var 7) (.bin .Add false (.var 9) (.cst (.int 1)))) (.cst (.int 3))) (.cst (.int 0))) .nil) (.var 9)))
  (.cons (.ite (.cmp .Eq (.bin .Mod false (.var 7) (.cst (.int 5))) (.cst (.int 1)))
  (.cons (.asg (.nm 8) (.slc false (.var 8) .nil (.cons (.cst (.int 1)) .nil)))
  .nil)
  .nil)
  (.cons (.expr (.mtd false (.var 6) "append" (.cons (.var 8) .nil)))
  .nil))))))
  (.cons (.ret (.tup (.cons (.var 3) (.cons (.frz (.var 5)) (.cons (.frz (.var 6)) .nil)))))
  .nil))))), 0, true⟩
end QQ

/-! the laws' draws of transports -/
namespace QQ
open PySem L2
local macro_rules | `(tactic| bv_omega) => `(tactic| ((try simp only [frame0, List.map_cons, List.map_nil, List.length_cons, List.length_nil, Nat.reduceAdd, Nat.reduceSub, List.replicate, List.cons_append, List.nil_append]); try simp only [↓r_var, ↓r_cst, ↓r_glb, ↓r_bin, ↓r_cmp, ↓r_chn, ↓r_bop, ↓r_neg, ↓r_nt, ↓r_ife, ↓r_tup, ↓r_lst, ↓r_dis, ↓r_ix, ↓r_slc, ↓r_fld, ↓r_call, ↓r_make, ↓r_meth, ↓r_blt, ↓r_mtd, ↓r_lc, ↓r_srtSet, ↓r_frz, ↓r_nil, ↓r_cons, ↓rB_one, ↓rB_more, ↓t_bop, ↓t_nt, ↓t_cmp, ↓t_chn, ↓t_var, ↓t_cst, ↓t_ix, ↓t_fld, ↓t_call, ↓t_meth, ↓t_blt, ↓tB_one, ↓tB_more, ↓ts_nil, ↓ts_one, ↓i_seq, ↓i_rng, ↓i_enu, ↓i_zip, ↓i_itm, ↓x_expr, ↓x_asg, ↓x_par, ↓x_aug, ↓x_six, ↓x_aix, ↓x_sfd, ↓x_ite, ↓x_whl, ↓x_frs, ↓x_ret, ↓x_retN, ↓x_pas, ↓x_brk, ↓x_ctn, ↓xs_nil, ↓xs_cons, ↓RdQ_some, ↓LfQ_some, ↓RdQ_none, ↓LfQ_none, RdQ_some, LfQ_some, RdQ_none, LfQ_none, RdQ_ite, LfQ_ite, ↓nxQ_nx, ↓nxQ_rt, ↓nxQ_bk, ↓nxQ_ct, ↓lpQ_nx, ↓lpQ_rt, ↓lpQ_bk, ↓lpQ_ct, ↓fnQ_nx, ↓fnQ_rt, ↓endQ_f, ↓notQ_bl, ↓bopQ_bl, ↓parQ_two, isNon_non, add_int, sub_int, mul_int', fdiv_int, mod_int, pow_int, eq_int, ne_int, lt_int, le_int, gt_int, ge_int, eq_str, ne_str, eq_bl, is_non, is_tup, is_int, isn_non, isn_tup, isn_int, true_bl, true_int, mkT_if, mkL_t, mkL_f, mkD_t, mkD_f, blt_len, blt_list, blt_sum, blt_min1, blt_all, blt_any, blt_sorted, blt_dict, blt_min2, blt_isi, bMin2_int, List.getElem?_cons_zero, List.getElem?_cons_succ, Option.join_some, Option.join_none, List.set_cons_zero, List.set_cons_succ, asgT, setsT, wipeD, List.map_cons, List.map_nil, frame0, List.replicate, List.length_cons, List.length_nil, List.cons_append, List.nil_append, List.append_nil, Nat.reduceAdd, Nat.reduceSub, Nat.reduceLeDiff, Nat.reduceLT, Int.reduceLT, Int.reduceLE, Int.reduceToNat, Int.reduceNeg, Int.reducePow, Int.reduceAdd, Int.reduceMul, decide_eq_true_eq, if_true, if_false, ite_true, ite_false, Bool.false_eq_true, Bool.true_eq_false, Bool.not_true, Bool.not_false, true_and, and_true, Bool.not_eq_true', Bool.not_eq_true, decide_eq_false_iff_not, reduceCtorEq, decide_true, decide_false, le_size, ne_eq, not_true_eq_false, not_false_eq_true, Nat.zero_le, gsOn_nil, enter, leave, List.append_assoc, gat, gat0, sat, sat0, tat, kd_append, kd_extend, kd_pop, kd_get, kd_update, kdPick, md_append, md_extend, md_popl, md_get1, md_get2, md_popd, md_update, pairsOf_loc, items_loc, itemsA_loc, fieldsOf_loc, items_lst, items_fls, itemsA_lst, itemsA_fls, itemsA_tup, pairsOf_dct, pairsOf_lst, pairsOf_fls, pairsOf_tup, ix_lst, ix_fls, ix_tup, ix_dct, bLen_lst, bLen_fls, bLen_tup, bList, bSum, bMin1, bAll, bAny, bSorted, ne_ints_nil, ne_nil_nil, mAppend, mExtend, List.length_append, Nat.zero_add, seqSrc, lstSrc, itmSrc, List.map_map, mulOk_l, mulOk_r, divOk_l, natAbs_10, int_zero_add, atI_of, List.map_append, Int.reduceSub, Int.reduceEq, Int.reduceMod, Int.reduceDiv, Int.reduceBEq, Int.reduceBNe, frzD_loc, ↓endQ_app, ↓endQ_id, belows_map, below_tup, below_lst, below_fls, below_dct, below_int, below_str, below_bl, below_non, belows_nil, belows_cons, Bool.and_self, Bool.and_true, Bool.true_and, implies_true, cut_hi, cut_lo, opt_nil, opt_one, sl_lst, sl_fls, sl_loc, Option.bind_some, List.drop_succ_cons, List.drop_zero, List.take_succ_cons, List.take_zero, below_nat, natD_eq, keyD_int, keyD_str, cmp_in, cmp_nin, setD_loc, mPopL_loc, mPopD_loc, mUpdate_loc, isLoc_dct, mGet1, mGet2, ixL_loc, ixD_loc, atI_nat, ixN_nat, sem_mt', sem_con', sem_fd', sem_df', Option.map_some, Option.map_none, Option.bind_none, augD, List.eraseIdx_cons_zero, Int.reducePow, Nat.reducePow, and_self, Int.toNat_zero, negD_int, atI_last, add_loc_loc, add_lst_lst, add_loc_lst, add_lst_loc]))
structure HasD (R : Prg) : Prop where
  mixed : R.fns.lookup ("_law_mixed" : Str) = some F__law_mixed
  amount : R.fns.lookup ("_law_amount" : Str) = some F__law_amount
  drawn : R.fns.lookup ("_law_drawn" : Str) = some F__law_drawn
  dm : R.df "_law_mixed" = 0
def mixN (ns : List Int) (k : Int) : Int :=
  (((if ns = [] then 0 else (ns[(k % ns.length).toNat]?.getD 0) % 10 ^ 60) + 7919 * k * k + 104729 * k + 17) * 48271) % 2147483647
def mixF (ns : List Int) (k : Int) : Int := mixN ns k * (mixN ns k % 65521 + 3) % 2147483629 / 8
theorem mixF_nn (ns : List Int) (k : Int) : 0 ≤ mixF ns k := by
  unfold mixF
  exact Int.ediv_nonneg (Int.emod_nonneg _ (by decide)) (by decide)
theorem mixF_lt (ns : List Int) (k : Int) : mixF ns k < 4294967296 := by
  unfold mixF
  have := Int.emod_lt_of_pos (mixN ns k * (mixN ns k % 65521 + 3)) (b := 2147483629) (by decide)
  omega
theorem mixN_b (ns : List Int) (k : Int) : 0 ≤ mixN ns k ∧ mixN ns k < 2147483647 := by
  unfold mixN
  exact ⟨Int.emod_nonneg _ (by decide), Int.emod_lt_of_pos _ (by decide)⟩
def amF (k : Int) : Int := if k % 9 < 6 then k / 9 % 7 else if k % 9 = 6 then 0 else if k % 9 = 7 then k / 9 % 40 else k * (1000000000000 + k) % 1000000000000000000000001
theorem amF_nn (k : Int) : 0 ≤ amF k := by
  unfold amF
  split
  · exact Int.emod_nonneg _ (by decide)
  · split
    · decide
    · split
      · exact Int.emod_nonneg _ (by decide)
      · exact Int.emod_nonneg _ (by decide)
def rowF (n : Nat) (v : Int) : List Nat :=
  if v % 5 = 1 then ((List.range n).filter fun (p : Nat) => decide (0 < v / ((p : Int) + 1) % 3)).take 1 else (List.range n).filter fun (p : Nat) => decide (0 < v / ((p : Int) + 1) % 3)
def supF (ns : List Int) (f r : Int) : List Int := (List.range (mixF ns f / 3 % (r + 1)).toNat).map fun (k : Nat) => amF (mixF ns (f + k))
def wanF (ns : List Int) (f r : Int) : List Int := (List.range (mixF ns (f + 1) / 3 % (r + 1)).toNat).map fun (k : Nat) => amF (mixF ns (f + 20 + k))
def mayF (ns : List Int) (f r : Int) : List (List Nat) := (List.range (mixF ns (f + 1) / 3 % (r + 1)).toNat).map fun (k : Nat) => rowF (supF ns f r).length (mixF ns (f + 40 + k))
section
variable {R : Prg} (hD : HasD R)
include hD
theorem c_mixed {n : Nat} {ns : List Int} {k : Int} {s : Mem} {E : Ep} {Q : Dt → Mem → Prop} (hk : 0 ≤ k ∧ k < 4294967296) :
    RunE ((sem R (n + 1)).fn "_law_mixed" [.fls (ns.map .int), .int k]) s E Q ↔ Q (.int (mixF ns k)) s := by
  refine c_of ?_
  have m1 : mulOk (7919 * k) k = true := mulOk_r (by omega)
  have hb := mixN_b ns k
  rw [sem_fn hD.mixed, RunE_callF]
  simp only [F__law_mixed]
  have m2 : mulOk (mixN ns k) (mixN ns k % 65521 + 3) = true := mulOk_l (by omega)
  by_cases h : ns = []
  · subst h
    have e : mixN [] k = (7919 * k * k + 104729 * k + 17) * 48271 % 2147483647 := by
      unfold mixN; rw [if_pos rfl, Int.zero_add]
    bv_omega
    simp only [m1, true_and]
    bv_omega
    simp only [← e, m2, true_and]
    bv_omega
    rfl
  · have hl : 0 < ns.length := List.length_pos_iff.mpr h
    have hm := Int.emod_nonneg k (b := (ns.length : Int)) (by omega)
    have hm2 := Int.emod_lt_of_pos k (b := (ns.length : Int)) (by omega)
    obtain ⟨a, h1, h2⟩ := atI_lt (xs := ns.map Dt.int) hm (by simpa using hm2)
    have h3 := h1
    rw [List.getElem?_map] at h3
    obtain ⟨i, h4, rfl⟩ := Option.map_eq_some_iff.mp h3
    have e : mixN ns k = (i % 1000000000000000000000000000000000000000000000000000000000000 + 7919 * k * k + 104729 * k + 17) * 48271 % 2147483647 := by
      unfold mixN; rw [if_neg h, h4]; rfl
    bv_omega
    simp only [h, decide_false, Bool.not_false, if_true]
    bv_omega
    simp only [List.length_map, h2]
    refine ⟨by omega, ?_⟩
    bv_omega
    simp only [m1, true_and]
    bv_omega
    simp only [← e, m2, true_and]
    bv_omega
    rfl
theorem c_amount {n : Nat} {k : Int} (hk : 0 ≤ k ∧ k < 4294967296) {s : Mem} {E : Ep} {Q : Dt → Mem → Prop} :
    RunE ((sem R (n + 1)).fn "_law_amount" [.int k]) s E Q ↔ Q (.int (amF k)) s := by
  refine c_of ?_
  have m2 : mulOk k (1000000000000 + k) = true := mulOk_l (by omega)
  have h0 : 0 ≤ k % 9 := Int.emod_nonneg _ (by decide)
  have h9 : k % 9 < 9 := Int.emod_lt_of_pos _ (by decide)
  rw [sem_fn hD.amount, RunE_callF]
  simp only [F__law_amount]
  unfold amF
  by_cases h : k % 9 < 6
  · bv_omega
    simp only [h]
    bv_omega
  · have c : k % 9 = 6 ∨ k % 9 = 7 ∨ k % 9 = 8 := by omega
    rcases c with c | c | c
    · bv_omega
      simp only [c]
      bv_omega
      simp only [m2]
      exact ⟨trivial, by rw [if_neg h, if_pos c]⟩
    · bv_omega
      simp only [c]
      bv_omega
      simp only [m2]
      exact ⟨trivial, by rw [if_neg h, if_neg (by omega), if_pos c]⟩
    · bv_omega
      simp only [c]
      bv_omega
      simp only [m2]
      exact ⟨trivial, by rw [if_neg h, if_neg (by omega), if_neg (by omega)]⟩
theorem c_drawn {n : Nat} {ns : List Int} {f r : Int} (hf : 0 ≤ f ∧ f < 65536) (hr : 0 ≤ r ∧ r < 100) {s : Mem} {E : Ep} {Q : Dt → Mem → Prop} :
    RunE ((sem R (n + 2)).fn "_law_drawn" [.fls (ns.map .int), .int f, .int r]) s E Q ↔ Q (.tup [.lst ((supF ns f r).map .int), .lst ((wanF ns f r).map .int), .lst ((mayF ns f r).map fun row => .lst (row.map natD))]) s := by
  have hq : 0 ≤ mixF ns f / 3 % (r + 1) ∧ mixF ns f / 3 % (r + 1) < 100 := ⟨Int.emod_nonneg _ (by omega), Int.lt_of_lt_of_le (Int.emod_lt_of_pos _ (by omega)) (by omega)⟩
  have hq1 : 0 ≤ mixF ns (f + 1) / 3 % (r + 1) ∧ mixF ns (f + 1) / 3 % (r + 1) < 100 := ⟨Int.emod_nonneg _ (by omega), Int.lt_of_lt_of_le (Int.emod_lt_of_pos _ (by omega)) (by omega)⟩
  have hls : (supF ns f r).length < 100 := by unfold supF; rw [List.length_map, List.length_range]; omega
  refine c_of ?_
  rw [sem_fn hD.drawn, RunE_callF]
  simp only [F__law_drawn]
  bv_omega
  rw [c_mixed hD (by omega)]
  bv_omega
  refine ⟨by omega, ?_⟩
  rw [rng1 (by omega), RdQ_some, r_lcn _ _ (fun (k : Nat) => .int (amF (mixF ns (f + k)))) gsNil]
  · bv_omega
    refine ⟨by rw [List.length_map, List.length_range]; exact of_eq_true (le_size (by omega)), ?_⟩
    rw [c_mixed hD (by omega)]
    bv_omega
    refine ⟨by omega, ?_⟩
    rw [rng1 (by omega), RdQ_some]
    have eS : ((List.range (mixF ns f / 3 % (r + 1)).toNat).map fun (k : Nat) => Dt.int (amF (mixF ns (f + k)))) = (supF ns f r).map .int := by
      unfold supF; rw [List.map_map]; rfl
    rw [eS]
    refine RunS_form _ _ (fun pre φ s' => ∃ a b c d, φ = [some (.fls (ns.map .int)), some (.int f), some (.int r), some (.lst ((supF ns f r).map .int)), a, some (.loc s.length), some (.loc (s.length + 1)), b, c, d] ∧
      s' = s ++ [.live (.lst (pre.map fun (k : Nat) => .int (amF (mixF ns (f + 20 + k))))), .live (.lst (pre.map fun (k : Nat) => .lst ((rowF (supF ns f r).length (mixF ns (f + 40 + k))).map natD)))]) ⟨_, _, _, _, rfl, rfl⟩ (fun _ _ _ _ => gsNil) ?_ ?_
    · rintro pre k post φ s' hk ⟨a, b, c, d, rfl, rfl⟩ _
      have hlen : pre.length < 100 ∧ k < 100 := by
        have h1 := congrArg List.length hk
        have h2 : k ∈ List.range (mixF ns (f + 1) / 3 % (r + 1)).toNat := by rw [hk]; simp
        rw [List.length_range, List.length_append, List.length_cons] at h1
        have h3 := List.mem_range.mp h2
        omega
      bv_omega
      rw [c_mixed hD (by omega)]
      bv_omega
      rw [c_amount hD ⟨mixF_nn _ _, mixF_lt _ _⟩]
      bv_omega
      refine ⟨by rw [List.length_map]; exact Nat.lt_of_lt_of_le hlen.1 (of_eq_true (le_size (by decide))), ?_⟩
      rw [c_mixed hD (by omega)]
      bv_omega
      rw [List.length_map, rng1 (by omega), RdQ_some, Int.toNat_natCast]
      bv_omega
      rw [r_lcm _ _ (fun (p : Nat) => decide (0 < mixF ns (f + 40 + k) / ((p : Int) + 1) % 3)) natD gsNil]
      · have hl : (((List.range (supF ns f r).length).filter fun (p : Nat) => decide (0 < mixF ns (f + 40 + k) / ((p : Int) + 1) % 3)).map natD).length < 100 := by
          rw [List.length_map]
          refine Nat.lt_of_le_of_lt (List.length_filter_le _ _) ?_
          rw [List.length_range]; exact hls
        bv_omega
        refine ⟨of_eq_true (le_size (by omega)), ?_⟩
        by_cases h5 : mixF ns (f + 40 + k) % 5 = 1
        · rw [if_pos h5]
          bv_omega
          refine ⟨of_eq_true (le_size (by rw [List.length_take]; omega)), by rw [List.length_map]; exact Nat.lt_of_lt_of_le hlen.1 (of_eq_true (le_size (by decide))), ?_⟩
          refine ⟨_, _, _, _, rfl, ?_⟩
          rw [← List.map_take]
          have : rowF (supF ns f r).length (mixF ns (f + 40 + k)) = ((List.range (supF ns f r).length).filter fun (p : Nat) => decide (0 < mixF ns (f + 40 + k) / ((p : Int) + 1) % 3)).take 1 := if_pos h5
          rw [← this]
        · rw [if_neg h5]
          bv_omega
          refine ⟨by rw [List.length_map]; exact Nat.lt_of_lt_of_le hlen.1 (of_eq_true (le_size (by decide))), ?_⟩
          refine ⟨_, _, _, _, rfl, ?_⟩
          have : rowF (supF ns f r).length (mixF ns (f + 40 + k)) = ((List.range (supF ns f r).length).filter fun (p : Nat) => decide (0 < mixF ns (f + 40 + k) / ((p : Int) + 1) % 3)) := if_neg h5
          rw [← this]
      · intro p hp
        have hp := List.mem_range.mp hp
        refine ⟨_, rfl, ?_, fun _ => ?_⟩
        · bv_omega
          exact divOk_l (by omega)
        · bv_omega
    · rintro φ s' ⟨a, b, c, d, rfl, rfl⟩ _
      bv_omega
      unfold wanF mayF
      rw [List.map_map, List.map_map]
      first | rfl | exact ⟨belows_map fun k => by rw [below_lst]; exact belows_map fun p => below_nat _ p, rfl⟩
  · intro k hk
    have hk := List.mem_range.mp hk
    refine ⟨_, rfl, ?_⟩
    bv_omega
    rw [c_mixed hD (by omega)]
    bv_omega
    rw [c_amount hD ⟨mixF_nn _ _, mixF_lt _ _⟩]
    trivial
end
theorem supF_nn {ns : List Int} {f r : Int} : ∀ x ∈ supF ns f r, 0 ≤ x := fun x hx => by
  unfold supF at hx
  obtain ⟨k, _, rfl⟩ := List.mem_map.mp hx
  exact amF_nn _
theorem wanF_nn {ns : List Int} {f r : Int} : ∀ x ∈ wanF ns f r, 0 ≤ x := fun x hx => by
  unfold wanF at hx
  obtain ⟨k, _, rfl⟩ := List.mem_map.mp hx
  exact amF_nn _
theorem mayF_len {ns : List Int} {f r : Int} : (mayF ns f r).length = (wanF ns f r).length := by
  unfold mayF wanF; rw [List.length_map, List.length_map]
theorem rowF_sub {n : Nat} {v : Int} : (rowF n v).Sublist (List.range n) := by
  unfold rowF
  split
  · exact (List.take_sublist _ _).trans List.filter_sublist
  · exact List.filter_sublist
theorem mayF_sub {ns : List Int} {f r : Int} : ∀ row ∈ mayF ns f r, row.Sublist (List.range (supF ns f r).length) := fun x hx => by
  unfold mayF at hx
  obtain ⟨k, _, rfl⟩ := List.mem_map.mp hx
  exact rowF_sub
theorem supF_len {ns : List Int} {f r : Int} (h : 0 ≤ r) : (supF ns f r).length ≤ r.toNat := by
  unfold supF
  rw [List.length_map, List.length_range]
  have := Int.emod_lt_of_pos (mixF ns f / 3) (b := r + 1) (by omega)
  omega
theorem wanF_len {ns : List Int} {f r : Int} (h : 0 ≤ r) : (wanF ns f r).length ≤ r.toNat := by
  unfold wanF
  rw [List.length_map, List.length_range]
  have := Int.emod_lt_of_pos (mixF ns (f + 1) / 3) (b := r + 1) (by omega)
  omega
end QQ

/-! the AST of the laws' bound -/
namespace QQ
open PySem L2
def F__law_bound : Fn := ⟨["_law_short", "_law_supplies", "_law_wants", "_law_may"], ["_law_short", "_law_supplies", "_law_wants", "_law_may", "_law_some", "_law_place", "_law_one", "_law_others", "_law_goal"],
  (.cons (.asg (.nm 4) (.lc false [("_law_place", 5)] (.nm 5) (.rng (.cons (.blt false "len" (.cons (.var 1) .nil)) .nil)) (.cons (.cmp .NotEq (.lc false [("_law_one", 6)] (.nm 6) (.seq (.var 0)) (.cons (.cmp .In (.var 5) (.ix (.var 3) (.var 6))) .nil) (.var 6)) (.lst false .nil)) .nil) (.var 5)))
  (.cons (.asg (.nm 7) (.lc false [("_law_place", 5), ("_law_goal", 8)] (.tp [5, 8]) (.enu (.var 2)) (.cons (.cmp .NotIn (.var 5) (.var 0)) .nil) (.var 8)))
  (.cons (.ret (.bin .Add false (.blt false "sum" (.cons (.var 7) .nil)) (.blt false "sum" (.cons (.lc false [("_law_place", 5)] (.nm 5) (.seq (.var 4)) .nil (.ix (.var 1) (.var 5))) .nil))))
  .nil))), 0, false⟩
end QQ

/-! the laws' bound of a list of wants -/
namespace QQ
open PySem L2
local macro_rules | `(tactic| bv_omega) => `(tactic| ((try simp only [frame0, List.map_cons, List.map_nil, List.length_cons, List.length_nil, Nat.reduceAdd, Nat.reduceSub, List.replicate, List.cons_append, List.nil_append]); try simp only [↓r_var, ↓r_cst, ↓r_glb, ↓r_bin, ↓r_cmp, ↓r_chn, ↓r_bop, ↓r_neg, ↓r_nt, ↓r_ife, ↓r_tup, ↓r_lst, ↓r_dis, ↓r_ix, ↓r_slc, ↓r_sls, ↓intQ_int, ↓r_fld, ↓r_call, ↓r_make, ↓r_meth, ↓r_blt, ↓r_mtd, ↓r_lc, ↓r_srtSet, ↓r_frz, ↓r_nil, ↓r_cons, ↓rB_one, ↓rB_more, ↓t_bop, ↓t_nt, ↓t_cmp, ↓t_chn, ↓t_var, ↓t_cst, ↓t_ix, ↓t_fld, ↓t_call, ↓t_meth, ↓t_blt, ↓tB_one, ↓tB_more, ↓ts_nil, ↓ts_one, ↓i_seq, ↓i_rng, ↓i_enu, ↓i_zip, ↓i_itm, ↓x_expr, ↓x_asg, ↓x_par, ↓x_aug, ↓x_six, ↓x_aix, ↓x_sfd, ↓x_ite, ↓x_whl, ↓x_frs, ↓x_ret, ↓x_retN, ↓x_pas, ↓x_brk, ↓x_ctn, ↓xs_nil, ↓xs_cons, ↓RdQ_some, ↓LfQ_some, ↓RdQ_none, ↓LfQ_none, RdQ_some, LfQ_some, RdQ_none, LfQ_none, RdQ_ite, LfQ_ite, ↓nxQ_nx, ↓nxQ_rt, ↓nxQ_bk, ↓nxQ_ct, ↓lpQ_nx, ↓lpQ_rt, ↓lpQ_bk, ↓lpQ_ct, ↓fnQ_nx, ↓fnQ_rt, ↓endQ_f, ↓notQ_bl, ↓bopQ_bl, ↓parQ_two, isNon_non, add_int, sub_int, mul_int', fdiv_int, mod_int, pow_int, eq_int, ne_int, lt_int, le_int, gt_int, ge_int, eq_str, ne_str, eq_bl, is_non, is_tup, is_int, isn_non, isn_tup, isn_int, true_bl, true_int, mkT_if, mkL_t, mkL_f, mkD_t, mkD_f, blt_len, blt_list, blt_sum, blt_min1, blt_all, blt_any, blt_sorted, blt_dict, blt_min2, blt_isi, bMin2_int, List.getElem?_cons_zero, List.getElem?_cons_succ, Option.join_some, Option.join_none, List.set_cons_zero, List.set_cons_succ, asgT, setsT, wipeD, List.map_cons, List.map_nil, frame0, List.replicate, List.length_cons, List.length_nil, List.cons_append, List.nil_append, List.append_nil, Nat.reduceAdd, Nat.reduceSub, Nat.reduceLeDiff, Nat.reduceLT, Int.reduceLT, Int.reduceLE, Int.reduceToNat, Int.reduceNeg, Int.reducePow, Int.reduceAdd, Int.reduceMul, decide_eq_true_eq, if_true, if_false, ite_true, ite_false, Bool.false_eq_true, Bool.true_eq_false, Bool.not_true, Bool.not_false, true_and, and_true, Bool.not_eq_true', Bool.not_eq_true, decide_eq_false_iff_not, reduceCtorEq, decide_true, decide_false, le_size, ne_eq, not_true_eq_false, not_false_eq_true, Nat.zero_le, gsOn_nil, enter, leave, List.append_assoc, gat, gat0, sat, sat0, tat, kd_append, kd_extend, kd_pop, kd_get, kd_update, kdPick, md_append, md_extend, md_popl, md_get1, md_get2, md_popd, md_update, pairsOf_loc, items_loc, itemsA_loc, fieldsOf_loc, items_lst, items_fls, itemsA_lst, itemsA_fls, itemsA_tup, pairsOf_dct, pairsOf_lst, pairsOf_fls, pairsOf_tup, ix_lst, ix_fls, ix_tup, ix_dct, bLen_lst, bLen_fls, bLen_tup, bList, bSum, bMin1, bAll, bAny, bSorted, ne_ints_nil, ne_nil_nil, mAppend, mExtend, List.length_append, Nat.zero_add, seqSrc, lstSrc, itmSrc, List.map_map, mulOk_l, mulOk_r, divOk_l, natAbs_10, int_zero_add, atI_of, List.map_append, Int.reduceSub, Int.reduceEq, Int.reduceMod, Int.reduceDiv, Int.reduceBEq, Int.reduceBNe, frzD_loc, ↓endQ_app, ↓endQ_id, belows_map, below_tup, below_lst, below_fls, below_dct, below_int, below_str, below_bl, below_non, belows_nil, belows_cons, Bool.and_self, Bool.and_true, Bool.true_and, implies_true, cut_hi, cut_lo, opt_nil, opt_one, sl_lst, sl_fls, sl_loc, Option.bind_some, List.drop_succ_cons, List.drop_zero, List.take_succ_cons, List.take_zero, below_nat, natD_eq, keyD_int, keyD_str, cmp_in, cmp_nin, setD_loc, mPopL_loc, mPopD_loc, mUpdate_loc, isLoc_dct, mGet1, mGet2, ixL_loc, ixD_loc, atI_nat, ixN_nat, sem_mt', sem_con', sem_fd', sem_df', Option.map_some, Option.map_none, Option.bind_none, augD, List.eraseIdx_cons_zero, Int.reducePow, Nat.reducePow, and_self, Int.toNat_zero, negD_int, atI_last, add_loc_loc, add_lst_lst, add_loc_lst, add_lst_loc]))
theorem sum_filter (c : Nat → Bool) (f : Nat → Int) : ∀ n : Nat, (((List.range n).filter c).map f).sum = sm n fun i => if c i = true then f i else 0
  | 0 => rfl
  | n + 1 => by
    rw [List.range_succ, List.filter_append, List.map_append, List.sum_append, sum_filter c f n]
    show _ + _ = sm n _ + _
    congr 1
    by_cases h : c n = true
    · rw [List.filter_cons_of_pos h]; simp [h]
    · rw [List.filter_cons_of_neg h]; simp [h]
theorem zip_range (l : List Int) : l.zipIdx = (List.range l.length).map fun i => (l.getD i 0, i) := by
  apply List.ext_getElem
  · simp
  · intro i h1 h2
    simp at h1
    simp [List.getD_eq_getElem?_getD, List.getElem?_eq_getElem h1]
theorem enum_zip (l : List Int) (n : Nat) : enumD n (l.map .int) = (l.zipIdx n).map fun x => .tup [.int (x.2 : Int), .int x.1] := by
  induction l generalizing n with
  | nil => rfl
  | cons a l ih =>
    rw [List.map_cons, List.zipIdx_cons, List.map_cons, ← ih]; rfl
def nrB (may : List (List Nat)) (A : List Nat) (s : Nat) : Bool := !decide ((A.filter fun o => decide (s ∈ may.getD o [])) = [])
theorem nrB_iff (may : List (List Nat)) (A : List Nat) (s : Nat) : nrB may A s = true ↔ near may A s := by
  unfold nrB near
  rw [Bool.not_eq_true', decide_eq_false_iff_not, List.filter_eq_nil_iff]
  constructor
  · intro h
    apply Classical.byContradiction
    intro h2
    apply h
    intro a ha hs
    exact h2 ⟨a, ha, of_decide_eq_true hs⟩
  · rintro ⟨g, hg, hs⟩ h
    exact h g hg (decide_eq_true hs)
def bndF (sup wants : List Int) (may : List (List Nat)) (A : List Nat) : Int := sm wants.length (fun g => if g ∈ A then 0 else wants.getD g 0) + sm sup.length (fun s => if nrB may A s = true then sup.getD s 0 else 0)
section
variable {s : Mem}
theorem in_nats (xs : List Nat) (k : Nat) : inD (.int k) (.lst (xs.map natD)) s = some (decide (k ∈ xs)) := by
  unfold inD
  rw [pairsOf_lst]
  simp only []
  rw [itemsA_lst, Option.bind_some]
  have h : (flatD (.int (k : Int)) && (xs.map natD).all flatD) = true := by
    rw [Bool.and_eq_true, List.all_eq_true]
    refine ⟨rfl, fun d hd => ?_⟩
    obtain ⟨x, _, rfl⟩ := List.mem_map.mp hd
    rfl
  rw [if_pos h]
  congr 1
  rw [Bool.eq_iff_iff, List.any_eq_true, decide_eq_true_eq]
  constructor
  · rintro ⟨x, hx, hp⟩
    obtain ⟨y, hy, rfl⟩ := List.mem_map.mp hx
    have : ((y : Int) == k) = true := hp
    have h0 : (y : Int) = k := by simpa using this
    have : y = k := by omega
    exact this ▸ hy
  · intro hp; exact ⟨natD k, List.mem_map.mpr ⟨k, hp, rfl⟩, by show ((k : Int) == k) = true; simp⟩
end
structure HasB (R : Prg) : Prop where
  bound : R.fns.lookup ("_law_bound" : Str) = some F__law_bound
theorem ne_nats_lst {s : Mem} (w : List Nat) : cmpD .NotEq (.lst (w.map natD)) (.lst []) s = some (!decide (w = [])) := by
  have := ne_ints (s := s) (x := .lst (w.map natD)) (y := .lst []) (ns := w.map fun (p : Nat) => (p : Int)) (ms := []) rfl (by rw [pyM_lst, pyM_nats]; rfl) (by rw [pyM_lst]; rfl)
  rw [this]
  cases w <;> rfl
section
variable {R : Prg} (hB : HasB R) {s : Mem} {n : Nat} {sup wants : List Int} {may : List (List Nat)} {A : List Nat}
include hB
theorem c_bound {E : Ep} {Q : Dt → Mem → Prop} (hs : sup.length ≤ 1000000) (hw : wants.length ≤ 1000000) (hA : A.length ≤ 1000000) (hl : may.length = wants.length) (hAl : ∀ g ∈ A, g < wants.length) :
    RunE ((sem R (n + 1)).fn "_law_bound" [.lst (A.map natD), .lst (sup.map .int), .lst (wants.map .int), .lst (mayD may)]) s E Q ↔ Q (.int (bndF sup wants may A)) s := by
  have hsL : ∀ {m : Nat}, m ≤ 10000000 → m ≤ sizeLine := fun h => Nat.le_of_lt (Nat.lt_of_lt_of_le (by omega : _ < 16777216) (of_eq_true (le_size (Nat.le_refl _))))
  refine c_of ?_
  rw [sem_fn hB.bound, RunE_callF]
  simp only [F__law_bound]
  bv_omega
  rw [List.length_map, rng1 (by omega), RdQ_some, Int.toNat_natCast]
  bv_omega
  rw [r_lcm (List.range sup.length) _ (nrB may A) natD gsNil]
  · bv_omega
    have hf1 := List.length_filter_le (nrB may A) (List.range sup.length)
    rw [List.length_range] at hf1
    refine ⟨by rw [List.length_map]; exact hsL (by omega), ?_⟩
    rw [enum_zip, r_lcm (wants.zipIdx 0) _ (fun x => decide (x.2 ∉ A)) (fun x => .int x.1) gsNil]
    · bv_omega
      have hf2 := List.length_filter_le (fun (x : Int × Nat) => decide (x.2 ∉ A)) (wants.zipIdx 0)
      rw [List.length_zipIdx] at hf2
      refine ⟨by rw [List.length_map]; exact hsL (by omega), ?_⟩
      rw [show (List.map (fun (x : Int × Nat) => Dt.int x.1) ((wants.zipIdx 0).filter fun x => decide (x.2 ∉ A))) = (((wants.zipIdx 0).filter fun x => decide (x.2 ∉ A)).map (·.1)).map Dt.int by rw [List.map_map]; rfl, intsOf_map]
      bv_omega
      rw [r_lcn ((List.range sup.length).filter (nrB may A)) natD (fun p => .int (sup.getD p 0)) gsNil]
      · bv_omega
        refine ⟨by rw [List.length_map]; exact hsL (by omega), ?_⟩
        rw [show (List.map (fun p => Dt.int (sup.getD p 0)) ((List.range sup.length).filter (nrB may A))) = (((List.range sup.length).filter (nrB may A)).map fun p => sup.getD p 0).map Dt.int by rw [List.map_map]; rfl, intsOf_map]
        bv_omega
        unfold bndF
        rw [sum_filter, zip_range, List.filter_map, List.map_map]
        have e : (((List.range wants.length).filter ((fun (x : Int × Nat) => decide (x.2 ∉ A)) ∘ fun i => (wants.getD i 0, i))).map ((fun (x : Int × Nat) => x.1) ∘ fun i => (wants.getD i 0, i))).sum = sm wants.length fun g => if g ∈ A then 0 else wants.getD g 0 := by
          have := sum_filter (fun g => decide (g ∉ A)) (fun g => wants.getD g 0) wants.length
          refine Eq.trans this (sm_congr fun g _ => ?_)
          by_cases h : g ∈ A <;> simp [h]
        rw [e]
      · intro p hp
        have hp := List.mem_range.mp (List.mem_filter.mp hp).1
        refine ⟨_, rfl, ?_⟩
        bv_omega
        rw [List.getElem?_map, List.getElem?_eq_getElem hp]
        bv_omega
        rw [List.getD_eq_getElem?_getD, List.getElem?_eq_getElem hp]; rfl
    · rintro ⟨w, g⟩ hg
      refine ⟨_, rfl, ?_, fun _ => ?_⟩
      · bv_omega
        rw [in_nats]
        bv_omega
        simp
      · bv_omega
  · intro p hp
    have hp := List.mem_range.mp hp
    refine ⟨_, rfl, ?_, fun _ => ?_⟩
    · bv_omega
      rw [r_lcm A natD (fun o => decide (p ∈ may.getD o [])) natD gsNil]
      · bv_omega
        refine ⟨by rw [List.length_map]; exact hsL (Nat.le_trans (List.length_filter_le _ _) (by omega)), ?_⟩
        rw [ne_nats_lst]
        bv_omega
        rfl
      · intro o ho
        have := hAl o ho
        refine ⟨_, rfl, ?_, fun _ => ?_⟩
        · bv_omega
          rw [mayD_get (by omega)]
          bv_omega
          rw [in_nats]
          bv_omega
        · bv_omega
    · bv_omega
end
end QQ

/-! servings and bounds -/
namespace QQ
open PySem L2
def totL (L : List Tri) : Int := (L.map fun t => t.2.2).sum
theorem sum_key (P : Nat → Bool) (key : Tri → Nat) (n : Nat) : ∀ (L : List Tri), (∀ t ∈ L, key t < n) → (L.map fun t => if P (key t) = true then t.2.2 else 0).sum = sm n fun i => if P i = true then wt key L i else 0
  | [], _ => by
    refine Eq.symm ((sm_congr fun i _ => ?_).trans (sm_zero n))
    show (if P i = true then (0 : Int) else 0) = 0
    split <;> rfl
  | t :: L, h => by
    rw [List.map_cons, List.sum_cons, sum_key P key n L fun x hx => h x (List.mem_cons_of_mem _ hx)]
    have ht := h t (List.mem_cons_self ..)
    have e : ∀ i, i < n → (if P i = true then wt key (t :: L) i else 0) = (if i = key t then (if P (key t) = true then t.2.2 else 0) else 0) + (if P i = true then wt key L i else 0) := fun i _ => by
      have e1 : wt key (t :: L) i = (if key t = i then t.2.2 else 0) + wt key L i := by unfold wt; rw [List.map_cons, List.sum_cons]
      rw [e1]
      by_cases q : i = key t
      · subst q
        rw [if_pos rfl, if_pos rfl]
        split <;> omega
      · rw [if_neg (Ne.symm q), if_neg q]
        split <;> omega
    rw [sm_congr e, sm_add, sm_one ht]
theorem tot_key (key : Tri → Nat) (n : Nat) {L : List Tri} (h : ∀ t ∈ L, key t < n) : totL L = sm n (wt key L) := by
  have := sum_key (fun _ => true) key n L h
  simp only [if_true] at this
  exact this
theorem wt_nn {key : Tri → Nat} {L : List Tri} (h : ∀ t ∈ L, 0 ≤ t.2.2) (i : Nat) : 0 ≤ wt key L i := by
  unfold wt
  induction L with
  | nil => exact Int.le_refl _
  | cons t L ih =>
    rw [List.map_cons, List.sum_cons]
    have h1 := ih fun x hx => h x (List.mem_cons_of_mem _ hx)
    have h2 := h t (List.mem_cons_self ..)
    split <;> omega
theorem wt_ge {key : Tri → Nat} {L : List Tri} (h : ∀ t ∈ L, 0 ≤ t.2.2) {t : Tri} (ht : t ∈ L) : t.2.2 ≤ wt key L (key t) := by
  unfold wt
  induction L with
  | nil => cases ht
  | cons u L ih =>
    rw [List.map_cons, List.sum_cons]
    have h1 := wt_nn (key := key) (fun x hx => h x (List.mem_cons_of_mem _ hx)) (key t)
    unfold wt at h1
    rcases List.mem_cons.mp ht with rfl | ht
    · rw [if_pos rfl]; omega
    · have := ih (fun x hx => h x (List.mem_cons_of_mem _ hx)) ht
      have h2 := h u (List.mem_cons_self ..)
      split <;> omega
theorem wt_ex {key : Tri → Nat} {L : List Tri} {i : Nat} (h : wt key L i ≠ 0) : ∃ t ∈ L, key t = i := by
  apply Classical.byContradiction
  intro hn
  apply h
  unfold wt
  have : (L.map fun t => if key t = i then t.2.2 else 0) = L.map fun _ => 0 := List.map_congr_left fun t ht => if_neg fun q => hn ⟨t, ht, q⟩
  rw [this]
  clear this hn h
  induction L with
  | nil => rfl
  | cons t L ih => rw [List.map_cons, List.sum_cons, ih]; rfl
section
variable {sup wants : List Int} {may : List (List Nat)}
/-- what any list of wants lets be served -/
theorem weak {L : List Tri} (V : Serving sup wants may L) (A : List Nat) : totL L ≤ bndF sup wants may A := by
  have hm : ∀ t ∈ L, 0 ≤ t.2.2 := fun t ht => by have := V.m t ht; omega
  have h1 : totL L = (L.map fun t => if decide (t.2.1 ∉ A) = true then t.2.2 else 0).sum + (L.map fun t => if decide (t.2.1 ∈ A) = true then t.2.2 else 0).sum := by
    unfold totL
    clear V hm
    induction L with
    | nil => rfl
    | cons t L ih =>
      simp only [List.map_cons, List.sum_cons]
      rw [ih]
      by_cases h : t.2.1 ∈ A <;> simp [h] <;> omega
  have h2 : (L.map fun t => if decide (t.2.1 ∈ A) = true then t.2.2 else 0).sum ≤ (L.map fun t => if nrB may A t.1 = true then t.2.2 else 0).sum := by
    have : ∀ L' : List Tri, (∀ t ∈ L', t ∈ L) → (L'.map fun t => if decide (t.2.1 ∈ A) = true then t.2.2 else 0).sum ≤ (L'.map fun t => if nrB may A t.1 = true then t.2.2 else 0).sum := by
      intro L'
      induction L' with
      | nil => intro _; exact Int.le_refl _
      | cons t L' ih =>
        intro hs
        have i1 := ih fun x hx => hs x (List.mem_cons_of_mem _ hx)
        have ht := hs t (List.mem_cons_self ..)
        have i2 := hm t ht
        rw [List.map_cons, List.map_cons, List.sum_cons, List.sum_cons]
        by_cases h : t.2.1 ∈ A
        · have : nrB may A t.1 = true := (nrB_iff may A t.1).mpr ⟨t.2.1, h, V.may t ht⟩
          rw [this]
          simp only [h, decide_true, if_true]
          omega
        · simp only [h, decide_false, Bool.false_eq_true, if_false]
          split <;> omega
    exact this L fun _ h => h
  rw [sum_key (fun g => decide (g ∉ A)) (·.2.1) wants.length L V.g] at h1
  rw [sum_key (nrB may A) (·.1) sup.length L V.s] at h2
  have h3 : sm wants.length (fun g => if decide (g ∉ A) = true then wt (·.2.1) L g else 0) ≤ sm wants.length (fun g => if g ∈ A then 0 else wants.getD g 0) := sm_le fun g _ => by
    by_cases h : g ∈ A
    · simp [h]
    · simp only [h, not_false_eq_true, decide_true, if_true, if_false]; exact V.lack g
  have h4 : sm sup.length (fun s => if nrB may A s = true then wt (·.1) L s else 0) ≤ sm sup.length (fun s => if nrB may A s = true then sup.getD s 0 else 0) := sm_le fun s _ => by
    split
    · exact V.left s
    · exact Int.le_refl _
  unfold bndF
  omega
theorem bnd_mem {A B : List Nat} (h : ∀ g, g ∈ A ↔ g ∈ B) : bndF sup wants may A = bndF sup wants may B := by
  unfold bndF
  congr 1
  · exact sm_congr fun g _ => by simp only [h g]
  · refine sm_congr fun s _ => ?_
    have : nrB may A s = nrB may B s := by
      rw [Bool.eq_iff_iff, nrB_iff, nrB_iff]
      unfold near
      simp only [h]
    rw [this]
/-- what is told of a serving and its short list -/
structure Told (sup wants : List Int) (may : List (List Nat)) (L : List Tri) (A : List Nat) : Prop where
  srv : servK sup wants may = L.map enc
  sho : (shortI sup wants may).map .int = A.map natD
  v : Serving sup wants may L
  lt : ∀ g ∈ A, g < wants.length
  al : A.length ≤ wants.length
  eq : totL L = bndF sup wants may A
  len : L.length ≤ sup.length * wants.length
theorem told (I : In sup wants may) {R : Prg} (hT : HasT R) (hs : sup.length ≤ 1000000) (hw : wants.length ≤ 1000000) : ∃ L A, Told sup wants may L A := by
  obtain ⟨L, e, V, p⟩ := serving_ok I
  have Z := servA_ok I
  obtain ⟨F1, _⟩ := servT_ok I
  -- the short list as numbers
  have hp := srtI_perm ((servA sup wants may).map fun (g : Nat) => (g : Int))
  have hA : ∃ A : List Nat, (shortI sup wants may) = A.map (fun (g : Nat) => (g : Int)) ∧ ∀ g, g ∈ A ↔ g ∈ servA sup wants may := by
    refine ⟨(shortI sup wants may).map Int.toNat, ?_, fun g => ?_⟩
    · rw [List.map_map]
      refine (List.map_id _).symm.trans (List.map_congr_left fun x hx => ?_)
      obtain ⟨g, _, rfl⟩ := List.mem_map.mp (hp.subset hx)
      simp
    · constructor
      · intro h
        obtain ⟨x, hx, rfl⟩ := List.mem_map.mp h
        obtain ⟨g, hg, rfl⟩ := List.mem_map.mp (hp.subset hx)
        simpa using hg
      · intro h
        exact List.mem_map.mpr ⟨(g : Int), hp.symm.subset (List.mem_map.mpr ⟨g, h, rfl⟩), by simp⟩
  obtain ⟨A, e2, hm⟩ := hA
  refine ⟨L, A, e, by rw [e2, List.map_map]; rfl, V, fun g hg => Z.lt g ((hm g).mp hg), ?_, ?_, ?_⟩
  · have h1 : A.length = (servA sup wants may).length := by
      have := congrArg List.length e2
      unfold shortI at this
      rw [srtI_len, List.length_map, List.length_map] at this
      exact this.symm
    rw [h1]
    exact nodup_len Z.nd Z.lt
  · have hb := bound_eq F1 Z (nrB may (servA sup wants may)) (nrB_iff may _)
    rw [bnd_mem hm]
    unfold bndF
    rw [← hb]
    unfold totL
    rw [perm_sum (fun t => t.2.2) p]
    unfold trip
    rw [sum_range]
    refine sm_congr fun s _ => ?_
    rw [List.map_map]
    have := row_sum (fun _ => true) (F1.row s)
    simp only [if_true] at this
    exact this
  · have h1 := tk_len hT I hs hw
    have h2 : (servK sup wants may).length = L.length := by rw [e, List.length_map]
    unfold servK at h2
    rw [srtK_len] at h2
    omega
/-- the greatest -/
theorem Told.most {L : List Tri} {A : List Nat} (t : Told sup wants may L A) {M : List Tri} (V : Serving sup wants may M) : totL M ≤ totL L := by
  rw [t.eq]; exact weak V A
theorem Told.srt {L : List Tri} {A : List Nat} (t : Told sup wants may L A) : SrtdK (L.map enc) := by
  rw [← t.srv]; exact srtK_srtd _
end
/-- a list within another one of no more altogether -/
theorem sub_perm : ∀ {D L : List Tri}, D.Nodup → (∀ t ∈ D, t ∈ L) → ∃ r, L.Perm (D ++ r)
  | [], L, _, _ => ⟨L, List.Perm.refl _⟩
  | d :: D, L, hn, hs => by
    obtain ⟨h1, h2⟩ := List.nodup_cons.mp hn
    have hd := hs d (List.mem_cons_self ..)
    obtain ⟨r, hr⟩ := sub_perm (D := D) (L := L.erase d) h2 fun t ht => by
      have hne : t ≠ d := by rintro rfl; exact h1 ht
      exact (List.mem_erase_of_ne hne).mpr (hs t (List.mem_cons_of_mem _ ht))
    exact ⟨r, (List.perm_cons_erase hd).trans (hr.cons d)⟩
theorem perm_of {D L : List Tri} (hn : D.Nodup) (hs : ∀ t ∈ D, t ∈ L) (hm : ∀ t ∈ L, 1 ≤ t.2.2) (ht : totL L ≤ totL D) : L.Perm D := by
  obtain ⟨r, hr⟩ := sub_perm hn hs
  have e : totL L = totL D + totL r := by
    unfold totL
    rw [perm_sum (fun t => t.2.2) hr, List.map_append, List.sum_append]
  cases r with
  | nil => rwa [List.append_nil] at hr
  | cons x r =>
    exfalso
    have h1 : ∀ t ∈ x :: r, 1 ≤ t.2.2 := fun t ht => hm t (hr.symm.subset (List.mem_append_right _ ht))
    have h2 : ∀ r : List Tri, (∀ t ∈ r, 1 ≤ t.2.2) → 0 ≤ totL r := by
      intro r
      induction r with
      | nil => intro _; exact Int.le_refl _
      | cons y r ih =>
        intro h
        have := ih fun t ht => h t (List.mem_cons_of_mem _ ht)
        have := h y (List.mem_cons_self ..)
        unfold totL at *
        rw [List.map_cons, List.sum_cons]; omega
    have h3 : totL (x :: r) = x.2.2 + totL r := by unfold totL; rw [List.map_cons, List.sum_cons]
    have := h2 r fun t ht => h1 t (List.mem_cons_of_mem _ ht)
    have := h1 x (List.mem_cons_self ..)
    omega
theorem srt_eq {sup wants : List Int} {may : List (List Nat)} {L D : List Tri} {A : List Nat} (t : Told sup wants may L A) (hp : L.Perm D) (hd : D.Pairwise fun x y => x.1 < y.1) : L = D := by
  have h : L.map enc = D.map enc := srtd_uniq t.srt (List.pairwise_map.mpr (hd.imp fun {x y} h => by
    unfold enc lexK
    rw [if_neg (by intro q; injection q with q; omega)]
    show decide ((y.1 : Int) < (x.1 : Int)) = false
    rw [decide_eq_false_iff_not]; omega)) (hp.map enc)
  have := congrArg (List.map dec) h
  rw [List.map_map, List.map_map, show (dec ∘ enc) = id from funext dec_enc, List.map_id, List.map_id] at this
  exact this
end QQ

/-! law k31: transports that are served in one way alone -/
namespace QQ
open PySem L2
theorem sm_eq_of_le {n : Nat} {f g : Nat → Int} (h : ∀ i, i < n → f i ≤ g i) (h2 : sm n g ≤ sm n f) : ∀ i, i < n → f i = g i := by
  induction n with
  | zero => intro i hi; omega
  | succ n ih =>
    simp only [sm] at h2
    have h3 := sm_le (n := n) (f := f) (g := g) fun i hi => h i (by omega)
    have h4 := h n (by omega)
    intro i hi
    by_cases e : i = n
    · subst e; omega
    · exact ih (fun i hi => h i (by omega)) (by omega) i (by omega)
theorem wt_range (key : Tri → Nat) (f : Nat → Tri) (i : Nat) : ∀ n : Nat, wt key ((List.range n).map f) i = sm n fun q => if key (f q) = i then (f q).2.2 else 0
  | 0 => rfl
  | n + 1 => by
    rw [List.range_succ, List.map_append]
    show wt key ((List.range n).map f ++ [f n]) i = _
    rw [wt_snoc, wt_range key f i n]; rfl
theorem tot_range (f : Nat → Tri) (n : Nat) : totL ((List.range n).map f) = sm n fun q => (f q).2.2 := by
  induction n with
  | zero => rfl
  | succ n ih =>
    unfold totL at ih ⊢
    rw [List.range_succ, List.map_append, List.map_append, List.sum_append, ih]
    simp [sm]
theorem wt_two {key : Tri → Nat} {L : List Tri} (h : ∀ t ∈ L, 0 ≤ t.2.2) {t u : Tri} (ht : t ∈ L) (hu : u ∈ L) (hne : t ≠ u) (hk : key t = key u) : t.2.2 + u.2.2 ≤ wt key L (key t) := by
  induction L with
  | nil => cases ht
  | cons x L ih =>
    have hx := h x (List.mem_cons_self ..)
    have h' : ∀ t ∈ L, 0 ≤ t.2.2 := fun t ht => h t (List.mem_cons_of_mem _ ht)
    have e : wt key (x :: L) (key t) = (if key x = key t then x.2.2 else 0) + wt key L (key t) := by unfold wt; rw [List.map_cons, List.sum_cons]
    rw [e]
    rcases List.mem_cons.mp ht with rfl | ht1
    · rcases List.mem_cons.mp hu with rfl | hu1
      · exact absurd rfl hne
      · rw [if_pos rfl]
        have := wt_ge (key := key) h' hu1
        rw [← hk] at this
        omega
    · rcases List.mem_cons.mp hu with rfl | hu1
      · rw [if_pos hk.symm]
        have := wt_ge (key := key) h' ht1
        omega
      · have := ih h' ht1 hu1
        split <;> omega
theorem wt_one {key : Tri → Nat} {t : Tri} : ∀ {L : List Tri}, L.Nodup → t ∈ L → (∀ u ∈ L, key u = key t → u = t) → wt key L (key t) = t.2.2
  | x :: L, hn, ht, hu => by
    obtain ⟨h1, h2⟩ := List.nodup_cons.mp hn
    have e : wt key (x :: L) (key t) = (if key x = key t then x.2.2 else 0) + wt key L (key t) := by unfold wt; rw [List.map_cons, List.sum_cons]
    rw [e]
    rcases List.mem_cons.mp ht with rfl | ht
    · rw [if_pos rfl]
      have : wt key L (key t) = 0 := Classical.byContradiction fun hne => by
        obtain ⟨u, hu1, hu2⟩ := wt_ex hne
        exact h1 (hu u (List.mem_cons_of_mem _ hu1) hu2 ▸ hu1)
      omega
    · have hx : key x ≠ key t := fun q => h1 (hu x (List.mem_cons_self ..) q ▸ ht)
      rw [if_neg hx, wt_one h2 ht fun u hu1 => hu u (List.mem_cons_of_mem _ hu1)]
      omega
theorem Serving.nodup {sup wants : List Int} {may : List (List Nat)} {L : List Tri} (V : Serving sup wants may L) : L.Nodup := by
  have := V.nd
  exact (List.pairwise_map.mp this).imp fun h q => h (by rw [q])
theorem Serving.pair {sup wants : List Int} {may : List (List Nat)} {L : List Tri} (V : Serving sup wants may L) {t u : Tri} (ht : t ∈ L) (hu : u ∈ L) (h1 : t.1 = u.1) (h2 : t.2.1 = u.2.1) : t = u := by
  have hn := V.nd
  clear V
  induction L with
  | nil => cases ht
  | cons x L ih =>
    rw [List.map_cons] at hn
    obtain ⟨k1, k2⟩ := List.nodup_cons.mp hn
    rcases List.mem_cons.mp ht with rfl | ht1
    · rcases List.mem_cons.mp hu with rfl | hu1
      · rfl
      · exact absurd (List.mem_map.mpr ⟨u, hu1, by rw [h1, h2]⟩) k1
    · rcases List.mem_cons.mp hu with rfl | hu1
      · exact absurd (List.mem_map.mpr ⟨t, ht1, by rw [h1, h2]⟩) k1
      · exact ih ht1 hu1 k2
/-! fifty, turned round -/
def may50 : List (List Nat) := (List.range 50).map fun p => [49 - p]
theorem may50_get {g : Nat} (h : g < 50) : may50.getD g [] = [49 - g] := by
  unfold may50
  rw [List.getD_eq_getElem?_getD, List.getElem?_map, List.getElem?_range h]; rfl
def d50 (sup : List Int) (q : Nat) : Tri := (q, 49 - q, min (sup.getD (49 - q) 0) (sup.getD q 0))
theorem ser50 {sup : List Int} (hl : sup.length = 50) (h1 : ∀ q, q < 50 → 1 ≤ sup.getD q 0) : Serving sup sup may50 ((List.range 50).map (d50 sup)) := by
  have hm : ∀ t ∈ (List.range 50).map (d50 sup), ∃ q, q < 50 ∧ t = d50 sup q := fun t ht => by
    obtain ⟨q, hq, rfl⟩ := List.mem_map.mp ht
    exact ⟨q, List.mem_range.mp hq, rfl⟩
  refine ⟨fun t ht => ?_, fun t ht => ?_, fun t ht => ?_, fun t ht => ?_, ?_, fun s => ?_, fun g => ?_⟩
  · obtain ⟨q, hq, rfl⟩ := hm t ht
    show q < _; omega
  · obtain ⟨q, hq, rfl⟩ := hm t ht
    show 49 - q < _; omega
  · obtain ⟨q, hq, rfl⟩ := hm t ht
    have a1 := h1 q hq
    have a2 := h1 (49 - q) (by omega)
    show 1 ≤ min _ _
    omega
  · obtain ⟨q, hq, rfl⟩ := hm t ht
    show q ∈ may50.getD (49 - q) []
    rw [may50_get (by omega), List.mem_singleton]
    omega
  · rw [List.map_map]
    refine List.pairwise_map.mpr (List.Pairwise.imp (fun {a b} h q => ?_) List.nodup_range)
    have := congrArg Prod.fst q
    exact h this
  · rw [wt_range]
    by_cases hs : s < 50
    · rw [sm_congr (g := fun q => if q = s then (d50 sup s).2.2 else 0) fun q _ => ?_, sm_one hs]
      · show min _ _ ≤ _; omega
      · show (if q = s then _ else _) = _
        by_cases e : q = s
        · subst e; rfl
        · rw [if_neg e, if_neg e]
    · rw [sm_congr (g := fun _ => 0) fun q hq => if_neg (by show ¬ q = s; omega), sm_zero, List.getD_eq_getElem?_getD, List.getElem?_eq_none (by omega)]; decide
  · rw [wt_range]
    by_cases hs : g < 50
    · rw [sm_congr (g := fun q => if q = 49 - g then (d50 sup (49 - g)).2.2 else 0) fun q hq => ?_, sm_one (by omega)]
      · show min (sup.getD (49 - (49 - g)) 0) _ ≤ _
        rw [show 49 - (49 - g) = g by omega]; omega
      · show (if 49 - q = g then _ else _) = _
        by_cases e : q = 49 - g
        · subst e; rw [if_pos (by omega), if_pos rfl]
        · rw [if_neg (by omega), if_neg e]
    · rw [sm_congr (g := fun _ => 0) fun q hq => if_neg (by show ¬ 49 - q = g; omega), sm_zero, List.getD_eq_getElem?_getD, List.getElem?_eq_none (by omega)]; decide
theorem told50 {sup : List Int} {L : List Tri} {A : List Nat} (hl : sup.length = 50) (h1 : ∀ q, q < 50 → 1 ≤ sup.getD q 0) (Z : Told sup sup may50 L A) : L = (List.range 50).map (d50 sup) := by
  have V := Z.v
  have hnn : ∀ t ∈ L, 0 ≤ t.2.2 := fun t ht => by have := V.m t ht; omega
  have hg : ∀ t ∈ L, t.1 < 50 ∧ t.2.1 = 49 - t.1 := fun t ht => by
    have a1 := V.may t ht
    have a2 := V.g t ht
    rw [hl] at a2
    rw [may50_get a2, List.mem_singleton] at a1
    omega
  have hmost := Z.most (ser50 hl h1)
  rw [tot_range] at hmost
  have htot := tot_key (·.1) 50 (L := L) (fun t ht => (hg t ht).1)
  have hle : ∀ q, q < 50 → wt (·.1) L q ≤ (d50 sup q).2.2 := fun q hq => by
    have a1 := V.left q
    have a2 := V.lack (49 - q)
    have e : wt (·.2.1) L (49 - q) = wt (·.1) L q := by
      unfold wt
      congr 1
      refine List.map_congr_left fun t ht => ?_
      obtain ⟨b1, b2⟩ := hg t ht
      by_cases c : t.1 = q
      · rw [if_pos c, if_pos (by show t.2.1 = 49 - q; omega)]
      · rw [if_neg c, if_neg (by show ¬ t.2.1 = 49 - q; omega)]
    rw [e] at a2
    show _ ≤ min _ _
    omega
  have heq := sm_eq_of_le hle (by rw [← htot]; exact hmost)
  have hD : ∀ t ∈ (List.range 50).map (d50 sup), t ∈ L := fun t ht => by
    obtain ⟨q, hq, rfl⟩ := List.mem_map.mp ht
    have hq := List.mem_range.mp hq
    have e := heq q hq
    have hpos : 1 ≤ (d50 sup q).2.2 := by
      have a1 := h1 q hq
      have a2 := h1 (49 - q) (by omega)
      show 1 ≤ min _ _
      omega
    obtain ⟨u, hu, hu2⟩ := wt_ex (key := (·.1)) (L := L) (i := q) (by omega)
    have e2 := wt_one (key := (·.1)) V.nodup hu fun v hv hv2 => V.pair hv hu hv2 (by
      have := (hg v hv).2
      have := (hg u hu).2
      have : v.1 = u.1 := hv2
      omega)
    have hu2 : u.1 = q := hu2
    have : u = d50 sup q := by
      obtain ⟨a, b, c⟩ := u
      have b1 := (hg _ hu).2
      simp only at hu2 b1 e2
      subst hu2
      rw [e] at e2
      unfold d50 at e2 ⊢
      simp only at e2
      rw [b1, e2]
    exact this ▸ hu
  refine srt_eq Z (perm_of ?_ hD V.m ?_) ?_
  · exact (List.pairwise_map.mpr (List.Pairwise.imp (fun {a b} h q => h (congrArg (·.1) q)) List.nodup_range))
  · rw [tot_range, htot]
    exact sm_le hle
  · exact List.pairwise_map.mpr (List.Pairwise.imp (fun {a b} h => h) List.pairwise_lt_range)
/-! twelve hundred in a ring -/
def may1200 : List (List Nat) := (List.range 1199).map (fun k => [k, k + 1]) ++ [[0]]
theorem may1200_get {g : Nat} (h : g < 1199) : may1200.getD g [] = [g, g + 1] := by
  unfold may1200
  rw [List.getD_eq_getElem?_getD, List.getElem?_append_left (by simpa using h), List.getElem?_map, List.getElem?_range h]; rfl
theorem may1200_last : may1200.getD 1199 [] = [0] := by
  unfold may1200
  rw [List.getD_eq_getElem?_getD, List.getElem?_append_right (by simp)]; simp
def d1200 (q : Nat) : Tri := if q = 0 then (0, 1199, 1) else (q, q - 1, 1)
theorem d1200_1 (q : Nat) : (d1200 q).1 = q := by unfold d1200; split <;> simp_all
theorem d1200_m (q : Nat) : (d1200 q).2.2 = 1 := by unfold d1200; split <;> rfl
theorem one_get {i : Nat} (h : i < 1200) : (List.replicate 1200 (1 : Int)).getD i 0 = 1 := by
  rw [List.getD_eq_getElem?_getD, List.getElem?_replicate, if_pos h]; rfl
theorem ser1200 : Serving (List.replicate 1200 1) (List.replicate 1200 1) may1200 ((List.range 1200).map d1200) := by
  have hm : ∀ t ∈ (List.range 1200).map d1200, ∃ q, q < 1200 ∧ t = d1200 q := fun t ht => by
    obtain ⟨q, hq, rfl⟩ := List.mem_map.mp ht
    exact ⟨q, List.mem_range.mp hq, rfl⟩
  have hlen : (List.replicate 1200 (1 : Int)).length = 1200 := List.length_replicate
  refine ⟨fun t ht => ?_, fun t ht => ?_, fun t ht => ?_, fun t ht => ?_, ?_, fun s => ?_, fun g => ?_⟩
  · obtain ⟨q, hq, rfl⟩ := hm t ht
    rw [d1200_1, hlen]; exact hq
  · obtain ⟨q, hq, rfl⟩ := hm t ht
    rw [hlen]
    unfold d1200
    split
    · decide
    · show q - 1 < 1200; omega
  · obtain ⟨q, hq, rfl⟩ := hm t ht
    rw [d1200_m]; decide
  · obtain ⟨q, hq, rfl⟩ := hm t ht
    unfold d1200
    split
    · rw [may1200_last]; simp
    · show q ∈ may1200.getD (q - 1) []
      rw [may1200_get (by omega)]
      simp; omega
  · rw [List.map_map]
    refine List.pairwise_map.mpr (List.Pairwise.imp (fun {a b} h q => ?_) List.nodup_range)
    have := congrArg Prod.fst q
    simp only [Function.comp_apply, d1200_1] at this
    exact h this
  · rw [wt_range]
    by_cases hs : s < 1200
    · rw [sm_congr (g := fun q => if q = s then 1 else 0) fun q _ => by rw [d1200_1, d1200_m], sm_one hs, one_get hs]
      decide
    · rw [sm_congr (g := fun _ => 0) fun q hq => by rw [d1200_1, if_neg (by omega)], sm_zero, List.getD_eq_getElem?_getD, List.getElem?_eq_none (by rw [hlen]; omega)]; decide
  · rw [wt_range]
    by_cases hs : g < 1200
    · rw [sm_congr (g := fun q => if q = (if g = 1199 then 0 else g + 1) then 1 else 0) fun q hq => ?_, sm_one (by split <;> omega), one_get hs]
      · decide
      · rw [d1200_m]
        by_cases hq0 : q = 0
        · subst hq0
          have : (d1200 0).2.1 = 1199 := rfl
          rw [this]
          by_cases e : g = 1199
          · rw [if_pos e.symm, if_pos e, if_pos rfl]
          · rw [if_neg (Ne.symm e), if_neg e, if_neg (by omega)]
        · have : (d1200 q).2.1 = q - 1 := by unfold d1200; rw [if_neg hq0]
          rw [this]
          by_cases e : g = 1199
          · rw [if_pos e, if_neg (by omega), if_neg hq0]
          · rw [if_neg e]
            by_cases e2 : q = g + 1
            · rw [if_pos (by omega), if_pos e2]
            · rw [if_neg (by omega), if_neg e2]
    · rw [sm_congr (g := fun _ => 0) fun q hq => ?_, sm_zero, List.getD_eq_getElem?_getD, List.getElem?_eq_none (by rw [hlen]; omega)]
      · decide
      · rw [if_neg]
        unfold d1200
        split
        · show ¬ 1199 = g; omega
        · show ¬ q - 1 = g; omega
theorem sm_const (n : Nat) : sm n (fun _ => 1) = n := by
  induction n with
  | zero => rfl
  | succ n ih => simp only [sm]; rw [ih]; omega
theorem told1200 {L : List Tri} {A : List Nat} (Z : Told (List.replicate 1200 1) (List.replicate 1200 1) may1200 L A) : L = (List.range 1200).map d1200 := by
  have V := Z.v
  have hlen : (List.replicate 1200 (1 : Int)).length = 1200 := List.length_replicate
  have hnn : ∀ t ∈ L, 0 ≤ t.2.2 := fun t ht => by have := V.m t ht; omega
  have hmost := Z.most ser1200
  rw [tot_range, sm_congr (g := fun _ => 1) fun q _ => d1200_m q] at hmost
  have hs : ∀ t ∈ L, t.1 < 1200 := fun t ht => by have := V.s t ht; rwa [hlen] at this
  have hg : ∀ t ∈ L, t.2.1 < 1200 := fun t ht => by have := V.g t ht; rwa [hlen] at this
  have t1 := tot_key (·.1) 1200 hs
  have t2 := tot_key (·.2.1) 1200 hg
  have l1 : ∀ q, q < 1200 → wt (·.1) L q ≤ 1 := fun q hq => by have := V.left q; rwa [one_get hq] at this
  have l2 : ∀ q, q < 1200 → wt (·.2.1) L q ≤ 1 := fun q hq => by have := V.lack q; rwa [one_get hq] at this
  have e1 := sm_eq_of_le (n := 1200) (g := fun _ => 1) l1 (by rw [← t1]; exact hmost)
  have e2 := sm_eq_of_le (n := 1200) (g := fun _ => 1) l2 (by rw [← t2]; exact hmost)
  have hone : ∀ t ∈ L, t.2.2 = 1 := fun t ht => by
    have a := V.m t ht
    have b : t.2.2 ≤ wt (·.1) L t.1 := wt_ge (key := (·.1)) hnn ht
    have c := l1 t.1 (hs t ht)
    omega
  have huni : ∀ t ∈ L, ∀ u ∈ L, t.1 = u.1 → t = u := fun t ht u hu h => Classical.byContradiction fun hne => by
    have a : t.2.2 + u.2.2 ≤ wt (·.1) L t.1 := wt_two (key := (·.1)) hnn ht hu hne h
    have c := l1 t.1 (hs t ht)
    have := hone t ht
    have := hone u hu
    omega
  have hex : ∀ g, g < 1200 → ∃ t ∈ L, t.2.1 = g := fun g h => wt_ex (key := (·.2.1)) (by rw [e2 g h]; decide)
  have h0 : (0, 1199, 1) ∈ L := by
    obtain ⟨t, ht, ht2⟩ := hex 1199 (by decide)
    have a := V.may t ht
    rw [ht2, may1200_last, List.mem_singleton] at a
    have b := hone t ht
    obtain ⟨x, y, z⟩ := t
    simp only at a b ht2
    subst a; subst b; subst ht2
    exact ht
  have hk : ∀ k, k < 1199 → (k + 1, k, 1) ∈ L := by
    intro k
    induction k with
    | zero =>
      intro _
      obtain ⟨t, ht, ht2⟩ := hex 0 (by decide)
      have a := V.may t ht
      rw [ht2, may1200_get (by decide)] at a
      have b := hone t ht
      have c : t.1 ≠ 0 := fun q => by
        have := huni t ht _ h0 q
        rw [this] at ht2
        simp at ht2
      obtain ⟨x, y, z⟩ := t
      simp at a b ht2 c
      subst b; subst ht2
      have : x = 1 := by omega
      subst this
      exact ht
    | succ k ih =>
      intro hk
      have hp := ih (by omega)
      obtain ⟨t, ht, ht2⟩ := hex (k + 1) (by omega)
      have a := V.may t ht
      rw [ht2, may1200_get (by omega)] at a
      have b := hone t ht
      have c : t.1 ≠ k + 1 := fun q => by
        have := huni t ht _ hp q
        rw [this] at ht2
        simp at ht2
      obtain ⟨x, y, z⟩ := t
      simp at a b ht2 c
      subst b; subst ht2
      have : x = k + 1 + 1 := by omega
      subst this
      exact ht
  refine srt_eq Z (perm_of ?_ (fun t ht => ?_) V.m ?_) ?_
  · exact List.pairwise_map.mpr (List.Pairwise.imp (fun {a b} h q => by
      have := congrArg (·.1) q
      simp only [d1200_1] at this
      exact h this) List.nodup_range)
  · obtain ⟨q, hq, rfl⟩ := List.mem_map.mp ht
    have hq := List.mem_range.mp hq
    unfold d1200
    split
    · exact h0
    · have := hk (q - 1) (by omega)
      rwa [show q - 1 + 1 = q by omega] at this
  · rw [tot_range, t1]
    exact sm_le fun q hq => by rw [d1200_m]; exact l1 q hq
  · exact List.pairwise_map.mpr (List.Pairwise.imp (fun {a b} h => by rw [d1200_1, d1200_1]; exact h) List.pairwise_lt_range)
end QQ

/-! shared by the laws' runs over transports -/
namespace QQ
open PySem L2
local macro_rules | `(tactic| bv_omega) => `(tactic| ((try simp only [frame0, List.map_cons, List.map_nil, List.length_cons, List.length_nil, Nat.reduceAdd, Nat.reduceSub, List.replicate, List.cons_append, List.nil_append]); try simp only [↓r_var, ↓r_cst, ↓r_glb, ↓r_bin, ↓r_cmp, ↓r_chn, ↓r_bop, ↓r_neg, ↓r_nt, ↓r_ife, ↓r_tup, ↓r_lst, ↓r_dis, ↓r_ix, ↓r_slc, ↓r_sls, ↓intQ_int, ↓r_fld, ↓r_call, ↓r_make, ↓r_meth, ↓r_blt, ↓r_mtd, ↓r_lc, ↓r_srtSet, ↓r_frz, ↓r_nil, ↓r_cons, ↓rB_one, ↓rB_more, ↓t_bop, ↓t_nt, ↓t_cmp, ↓t_chn, ↓t_var, ↓t_cst, ↓t_ix, ↓t_fld, ↓t_call, ↓t_meth, ↓t_blt, ↓tB_one, ↓tB_more, ↓ts_nil, ↓ts_one, ↓i_seq, ↓i_rng, ↓i_enu, ↓i_zip, ↓i_itm, ↓x_expr, ↓x_asg, ↓x_par, ↓x_aug, ↓x_six, ↓x_aix, ↓x_sfd, ↓x_ite, ↓x_whl, ↓x_frs, ↓x_ret, ↓x_retN, ↓x_pas, ↓x_brk, ↓x_ctn, ↓xs_nil, ↓xs_cons, ↓RdQ_some, ↓LfQ_some, ↓RdQ_none, ↓LfQ_none, RdQ_some, LfQ_some, RdQ_none, LfQ_none, RdQ_ite, LfQ_ite, ↓nxQ_nx, ↓nxQ_rt, ↓nxQ_bk, ↓nxQ_ct, ↓lpQ_nx, ↓lpQ_rt, ↓lpQ_bk, ↓lpQ_ct, ↓fnQ_nx, ↓fnQ_rt, ↓endQ_f, ↓notQ_bl, ↓bopQ_bl, ↓parQ_two, isNon_non, add_int, sub_int, mul_int', fdiv_int, mod_int, pow_int, eq_int, ne_int, lt_int, le_int, gt_int, ge_int, eq_str, ne_str, eq_bl, is_non, is_tup, is_int, isn_non, isn_tup, isn_int, true_bl, true_int, mkT_if, mkL_t, mkL_f, mkD_t, mkD_f, blt_len, blt_list, blt_sum, blt_min1, blt_all, blt_any, blt_sorted, blt_dict, blt_min2, blt_isi, bMin2_int, List.getElem?_cons_zero, List.getElem?_cons_succ, Option.join_some, Option.join_none, List.set_cons_zero, List.set_cons_succ, asgT, setsT, wipeD, List.map_cons, List.map_nil, frame0, List.replicate, List.length_cons, List.length_nil, List.cons_append, List.nil_append, List.append_nil, Nat.reduceAdd, Nat.reduceSub, Nat.reduceLeDiff, Nat.reduceLT, Int.reduceLT, Int.reduceLE, Int.reduceToNat, Int.reduceNeg, Int.reducePow, Int.reduceAdd, Int.reduceMul, decide_eq_true_eq, if_true, if_false, ite_true, ite_false, Bool.false_eq_true, Bool.true_eq_false, Bool.not_true, Bool.not_false, true_and, and_true, Bool.not_eq_true', Bool.not_eq_true, decide_eq_false_iff_not, reduceCtorEq, decide_true, decide_false, le_size, ne_eq, not_true_eq_false, not_false_eq_true, Nat.zero_le, gsOn_nil, enter, leave, List.append_assoc, gat, gat0, sat, sat0, tat, kd_append, kd_extend, kd_pop, kd_get, kd_update, kdPick, md_append, md_extend, md_popl, md_get1, md_get2, md_popd, md_update, pairsOf_loc, items_loc, itemsA_loc, fieldsOf_loc, items_lst, items_fls, itemsA_lst, itemsA_fls, itemsA_tup, pairsOf_dct, pairsOf_lst, pairsOf_fls, pairsOf_tup, ix_lst, ix_fls, ix_tup, ix_dct, bLen_lst, bLen_fls, bLen_tup, bList, bSum, bMin1, bAll, bAny, bSorted, ne_ints_nil, ne_nil_nil, mAppend, mExtend, List.length_append, Nat.zero_add, seqSrc, lstSrc, itmSrc, List.map_map, mulOk_l, mulOk_r, divOk_l, natAbs_10, int_zero_add, atI_of, List.map_append, Int.reduceSub, Int.reduceEq, Int.reduceMod, Int.reduceDiv, Int.reduceBEq, Int.reduceBNe, frzD_loc, ↓endQ_app, ↓endQ_id, belows_map, below_tup, below_lst, below_fls, below_dct, below_int, below_str, below_bl, below_non, belows_nil, belows_cons, Bool.and_self, Bool.and_true, Bool.true_and, implies_true, cut_hi, cut_lo, opt_nil, opt_one, sl_lst, sl_fls, sl_loc, Option.bind_some, List.drop_succ_cons, List.drop_zero, List.take_succ_cons, List.take_zero, below_nat, natD_eq, keyD_int, keyD_str, cmp_in, cmp_nin, setD_loc, mPopL_loc, mPopD_loc, mUpdate_loc, isLoc_dct, mGet1, mGet2, ixL_loc, ixD_loc, atI_nat, ixN_nat, sem_mt', sem_con', sem_fd', sem_df', Option.map_some, Option.map_none, Option.bind_none, augD, List.eraseIdx_cons_zero, Int.reducePow, Nat.reducePow, and_self, Int.toNat_zero, negD_int, atI_last, add_loc_loc, add_lst_lst, add_loc_lst, add_lst_loc]))
theorem dedI_nodup : ∀ {l : List Int}, l.Nodup → dedI l = l
  | [], _ => rfl
  | x :: r, h => by
    obtain ⟨h1, h2⟩ := List.nodup_cons.mp h
    unfold dedI
    rw [if_neg h1, dedI_nodup h2]
structure HasC (R : Prg) : Prop where
  int : R.con "int" = some (.ty "int")
  bool : R.con "bool" = some (.ty "bool")
  list : R.con "list" = some (.ty "list")
  tuple : R.con "tuple" = some (.ty "tuple")
section
variable {s : Mem}
theorem isi_int_int (i : Int) : bIsi (.int i) (.ty "int") s = some (.bl true, s) := rfl
theorem isi_int_bool (i : Int) : bIsi (.int i) (.ty "bool") s = some (.bl false, s) := rfl
theorem isi_tup (xs : List Dt) : bIsi (.tup xs) (.ty "tuple") s = some (.bl true, s) := rfl
theorem isi_loc {l : Nat} {xs : List Dt} (h : s[l]? = some (.live (.lst xs))) : bIsi (.loc l) (.ty "list") s = some (.bl true, s) := by
  have e : tyOfD (.loc l) s = some "list" := by
    show (match s[l]? with
    | some (.live (.lst _)) => some "list"
    | some (.live (.dct _)) => some "dict"
    | _ => none) = _
    rw [h]
  unfold bIsi isTy
  rw [e]; rfl
theorem deepEq_refl {x y : Dt} {d : PyData} (hx : pyM s x = some d) (hy : pyM s y = some d) (h1 : SeqAt.shaped d = true) : deepEq s x y = some true := by
  rw [deepEq_of hx hy h1 h1]
  congr 1
  have : d.canLay0 = true := by
    unfold SeqAt.shaped at h1
    exact (Bool.and_eq_true_iff.mp h1).1
  exact PySem.SeqAt.eqv_refl d this
theorem pyM_tup3 {a b c : List Dt} {pa pb pc : List PyData} (ha : pys a = some pa) (hb : pys b = some pb) (hc : pys c = some pc) : pyM s (.tup [.lst a, .lst b, .lst c]) = some (.tuple [.list pa, .list pb, .list pc]) := by
  simp [pyM, pyM.pysM, pyM.pyM1, py, ha, hb, hc]
theorem pyM_tup2 {a b : List Dt} {pa pb : List PyData} (ha : pys a = some pa) (hb : pys b = some pb) : pyM s (.tup [.lst a, .lst b]) = some (.tuple [.list pa, .list pb]) := by
  simp [pyM, pyM.pysM, pyM.pyM1, py, ha, hb]
theorem pyM_tupL {i j : Nat} {a b : List Dt} {pa pb : List PyData} (hi : s[i]? = some (.live (.lst a))) (hj : s[j]? = some (.live (.lst b))) (ha : pys a = some pa) (hb : pys b = some pb) : pyM s (.tup [.loc i, .loc j]) = some (.tuple [.list pa, .list pb]) := by
  have e1 : items s (.loc i) = some a := by rw [items_loc, hi]
  have e2 : items s (.loc j) = some b := by rw [items_loc, hj]
  simp [pyM, pyM.pysM, pyM.pyM1, e1, e2, ha, hb]
theorem pys_may (may : List (List Nat)) : pys (mayD may) = some (may.map fun row => .list (row.map fun (k : Nat) => PyData.int k)) := pys_map _ _ may fun row _ => by
  rw [py, pys_map natD (fun (k : Nat) => PyData.int k) row fun _ _ => rfl]; rfl
theorem sh_may (may : List (List Nat)) : sh 2 (.list (may.map fun row => .list (row.map fun (k : Nat) => PyData.int k))) := sh_list fun x hx => by
  obtain ⟨row, _, rfl⟩ := List.mem_map.mp hx
  exact sh_list fun y hy => by
    obtain ⟨k, _, rfl⟩ := List.mem_map.mp hy
    exact sh_int _
def triD (t : Tri) : Dt := .tup [.int t.1, .int t.2.1, .int t.2.2]
def triP (t : Tri) : PyData := .tuple [.int t.1, .int t.2.1, .int t.2.2]
theorem tri_enc (L : List Tri) : (L.map enc).map tkD = L.map triD := by rw [List.map_map]; rfl
theorem pys_tris (L : List Tri) : pys (L.map triD) = some (L.map triP) := pys_map _ _ L fun _ _ => rfl
theorem sh_tri (t : Tri) : sh 1 (triP t) := sh_tuple fun x hx => by
  simp at hx
  rcases hx with rfl | rfl | rfl <;> exact sh_int _
theorem sh_tris (L : List Tri) : sh 2 (.list (L.map triP)) := sh_list fun x hx => by
  obtain ⟨t, _, rfl⟩ := List.mem_map.mp hx
  exact sh_tri t
def pairP (p : Nat × Nat) : PyData := .tuple [.int p.1, .int p.2]
theorem sh_pair (p : Nat × Nat) : sh 1 (pairP p) := sh_tuple fun x hx => by
  simp at hx
  rcases hx with rfl | rfl <;> exact sh_int _
theorem in_pairs {l : Nat} {ps : List (Nat × Nat)} (h : s[l]? = some (.live (.lst (ps.map pairW)))) (p : Nat × Nat) : inD (.tup [.int p.1, .int p.2]) (.loc l) s = some (decide (p ∈ ps)) := by
  have e1 : pairsOf s (.loc l) = none := by rw [pairsOf_loc, h]
  have e2 : itemsA s (.loc l) = some (ps.map pairW) := by rw [itemsA_loc, items_loc, h]
  unfold inD
  rw [e1]
  simp only []
  rw [e2, Option.bind_some]
  have e3 : pyM s (.tup [.int p.1, .int p.2]) = some (pairP p) := rfl
  have e4 : pys (ps.map pairW) = some (ps.map pairP) := pys_map _ _ ps fun _ _ => rfl
  have e5 : (flatD (.tup [.int (p.1 : Int), .int (p.2 : Int)]) && (ps.map pairW).all flatD) = false := rfl
  rw [if_neg (by rw [e5]; decide)]
  show ((pyM s (.tup [.int p.1, .int p.2])).bind fun d => (pys (ps.map pairW)).bind fun ds => if (SeqAt.shaped d && SeqAt.shaped (.list ds)) = true then some (ds.any fun z => PyData.eqv z d) else none) = _
  rw [e3, Option.bind_some, e4, Option.bind_some]
  have s1 : SeqAt.shaped (pairP p) = true := (sh_pair p).shaped (by decide)
  have s2 : SeqAt.shaped (.list (ps.map pairP)) = true := (sh_list (k := 1) fun x hx => by
    obtain ⟨t, _, rfl⟩ := List.mem_map.mp hx
    exact sh_pair t).shaped (by decide)
  rw [s1, s2, if_pos (by decide)]
  congr 1
  rw [List.any_map]
  have e6 : ∀ q : Nat × Nat, PyData.eqv (pairP q) (pairP p) = decide (q = p) := fun q => by
    obtain ⟨a, b⟩ := q
    obtain ⟨c, d⟩ := p
    have : PyData.eqv (pairP (a, b)) (pairP (c, d)) = (((a : Int) == c) && (((b : Int) == d) && true)) := by
      simp only [pairP, PyData.eqv, PyData.eqvAll]
    rw [this, Bool.and_true]
    by_cases h1 : a = c
    · by_cases h2 : b = d
      · subst h1; subst h2; simp
      · have : ((b : Int) == d) = false := by simp; omega
        rw [this, Bool.and_false]; simp [h2]
    · have : ((a : Int) == c) = false := by simp; omega
      rw [this, Bool.false_and]; simp [h1]
  rw [show ((fun z => PyData.eqv z (pairP p)) ∘ pairP) = fun q => decide (q = p) from funext e6]
  rw [Bool.eq_iff_iff, List.any_eq_true, decide_eq_true_eq]
  constructor
  · rintro ⟨x, hx, hp⟩; exact of_decide_eq_true hp ▸ hx
  · intro hp; exact ⟨p, hp, decide_eq_true rfl⟩
theorem fold_zero : ∀ (r : List Int) (a : Int), 0 ≤ a → (∀ x ∈ r, 0 ≤ x) → (a = 0 ∨ 0 ∈ r) → r.foldl (fun a b => if b < a then b else a) a = 0
  | [], a, _, _, h => by
    rcases h with h | h
    · exact h
    · cases h
  | x :: r, a, ha, hr, h => by
    rw [List.foldl_cons]
    have hx := hr x (List.mem_cons_self ..)
    refine fold_zero r _ (by split <;> omega) (fun y hy => hr y (List.mem_cons_of_mem _ hy)) ?_
    rcases h with h | h
    · left; rw [if_neg (by omega)]; exact h
    · rcases List.mem_cons.mp h with h | h
      · left; split <;> omega
      · exact .inr h
theorem minL_zero {l : List Int} (h : ∀ x ∈ l, 0 ≤ x) (h0 : (0 : Int) ∈ l) : minL l = some 0 := by
  cases l with
  | nil => cases h0
  | cons x r =>
    show some (r.foldl _ x) = _
    rw [fold_zero r x (h x (List.mem_cons_self ..)) (fun y hy => h y (List.mem_cons_of_mem _ hy)) (by
      rcases List.mem_cons.mp h0 with h | h
      · exact .inl h.symm
      · exact .inr h)]
def prW (t : Tri) : Dt := .tup [.int t.1, .int t.2.1]
theorem in_tris {l : Nat} {L : List Tri} (h : s[l]? = some (.live (.lst (L.map prW)))) (a b : Nat) : inD (.tup [.int a, .int b]) (.loc l) s = some (decide ((a, b) ∈ L.map fun t => (t.1, t.2.1))) :=
  in_pairs (ps := L.map fun t => (t.1, t.2.1)) (by rw [h, List.map_map]; rfl) (a, b)
end
theorem drawn_in (ns : List Int) (f r : Int) : In (supF ns f r) (wanF ns f r) (mayF ns f r) :=
  ⟨supF_nn, wanF_nn, mayF_len, fun row hr s hs => List.mem_range.mp ((mayF_sub row hr).subset hs)⟩
end QQ

/-! k32: all lists of wants; servings that meet all -/
namespace QQ
open PySem L2
def subs : Nat → List (List Nat)
  | 0 => [[]]
  | n + 1 => subs n ++ (subs n).map (· ++ [n])
theorem subs_len : ∀ n, (subs n).length = 2 ^ n
  | 0 => rfl
  | n + 1 => by rw [subs, List.length_append, List.length_map, subs_len n, Nat.pow_succ]; omega
theorem subs_lt : ∀ (n : Nat) {A : List Nat}, A ∈ subs n → (∀ g ∈ A, g < n) ∧ A.length ≤ n
  | 0, A, h => by
    rw [List.mem_singleton.mp h]
    exact ⟨fun g hg => (by cases hg), Nat.le_refl _⟩
  | n + 1, A, h => by
    rw [subs] at h
    rcases List.mem_append.mp h with h | h
    · have := subs_lt n h
      exact ⟨fun g hg => by have := this.1 g hg; omega, by omega⟩
    · obtain ⟨B, hB, rfl⟩ := List.mem_map.mp h
      have := subs_lt n hB
      refine ⟨fun g hg => ?_, by simp; omega⟩
      rcases List.mem_append.mp hg with hg | hg
      · have := this.1 g hg; omega
      · have := List.mem_singleton.mp hg; omega
theorem subs_filter (p : Nat → Bool) : ∀ n, (List.range n).filter p ∈ subs n
  | 0 => List.mem_singleton.mpr rfl
  | n + 1 => by
    rw [List.range_succ, List.filter_append, subs]
    by_cases h : p n = true
    · rw [List.filter_cons_of_pos h]
      exact List.mem_append_right _ (List.mem_map.mpr ⟨_, subs_filter p n, rfl⟩)
    · rw [List.filter_cons_of_neg h, List.filter_nil, List.append_nil]
      exact List.mem_append_left _ (subs_filter p n)
theorem fold_min : ∀ (r : List Int) (a m : Int), m ≤ a → (∀ x ∈ r, m ≤ x) → (a = m ∨ m ∈ r) → r.foldl (fun a b => if b < a then b else a) a = m
  | [], a, m, _, _, h => by
    rcases h with h | h
    · exact h
    · cases h
  | x :: r, a, m, ha, hr, h => by
    rw [List.foldl_cons]
    have hx := hr x (List.mem_cons_self ..)
    refine fold_min r _ m (by split <;> omega) (fun y hy => hr y (List.mem_cons_of_mem _ hy)) ?_
    rcases h with h | h
    · left; rw [if_neg (by omega)]; exact h
    · rcases List.mem_cons.mp h with h | h
      · left; split <;> omega
      · exact .inr h
theorem minL_min {l : List Int} {m : Int} (h : ∀ x ∈ l, m ≤ x) (h0 : m ∈ l) : minL l = some m := by
  cases l with
  | nil => cases h0
  | cons x r =>
    show some (r.foldl _ x) = _
    rw [fold_min r x m (h x (List.mem_cons_self ..)) (fun y hy => h y (List.mem_cons_of_mem _ hy)) (by
      rcases List.mem_cons.mp h0 with h | h
      · exact .inl h.symm
      · exact .inr h)]
def smL (l : List Int) : Int := sm l.length fun i => l.getD i 0
theorem smL_sum (l : List Int) : l.sum = smL l := by
  have h : l = (List.range l.length).map fun i => l.getD i 0 := by
    apply List.ext_getElem
    · simp
    · intro i h1 h2
      simp [List.getD_eq_getElem?_getD, List.getElem?_eq_getElem h1]
  have := sum_filter (fun _ => true) (fun i => l.getD i 0) l.length
  rw [List.filter_eq_self.mpr fun _ _ => rfl, ← h] at this
  rw [this]
  exact sm_congr fun i _ => if_pos rfl
theorem getD_set (l : List Int) (k i : Nat) (h : k < l.length) (v : Int) : (l.set k v).getD i 0 = if i = k then v else l.getD i 0 := by
  rw [List.getD_eq_getElem?_getD, List.getD_eq_getElem?_getD, List.getElem?_set]
  by_cases q : k = i
  · subst q; rw [if_pos rfl, if_pos rfl, if_pos h]; rfl
  · rw [if_neg q, if_neg (Ne.symm q)]
theorem near_nil (may : List (List Nat)) (s : Nat) : nrB may [] s = false := by
  cases h : nrB may [] s with
  | false => rfl
  | true => obtain ⟨g, hg, _⟩ := (nrB_iff may [] s).mp h; cases hg
section
variable {sup wants : List Int} {may : List (List Nat)}
theorem bnd_nil : bndF sup wants may [] = smL wants := by
  unfold bndF smL
  have h : sm sup.length (fun s => if nrB may [] s = true then sup.getD s 0 else 0) = 0 := by
    rw [sm_congr (g := fun _ => 0) fun s _ => by rw [near_nil]; rfl, sm_zero]
  rw [h, Int.add_zero]
  exact sm_congr fun g _ => if_neg fun q => by cases q
theorem least_told {L : List Tri} {A : List Nat} (Z : Told sup wants may L A) : minL ((subs wants.length).map (bndF sup wants may)) = some (totL L) := by
  refine minL_min (fun x hx => ?_) ?_
  · obtain ⟨B, _, rfl⟩ := List.mem_map.mp hx
    exact weak Z.v B
  · rw [Z.eq]
    refine List.mem_map.mpr ⟨_, subs_filter (fun g => decide (g ∈ A)) wants.length, bnd_mem fun g => ?_⟩
    rw [List.mem_filter, List.mem_range, decide_eq_true_eq]
    exact ⟨fun h => h.2, fun h => ⟨Z.lt g h, h⟩⟩
/-- all wants can be met -/
def Met (sup wants : List Int) (may : List (List Nat)) : Prop := ∀ A, smL wants ≤ bndF sup wants may A
theorem met_zero (r n : Nat) : Met (List.replicate r 0) (List.replicate n 0) may := by
  have z : ∀ k i : Nat, (List.replicate k (0 : Int)).getD i 0 = 0 := fun k i => by
    rw [List.getD_eq_getElem?_getD]
    by_cases h : i < k
    · rw [List.getElem?_replicate_of_lt h]; rfl
    · rw [List.getElem?_eq_none (by simp; omega)]; rfl
  intro A
  unfold smL bndF
  simp only [z, ite_self, sm_zero]
  omega
theorem met_step {may' : List (List Nat)} {s g : Nat} {m : Int} (M : Met sup wants may) (hn : ∀ i, 0 ≤ sup.getD i 0) (hm : 0 ≤ m) (hs : s < sup.length) (hg : g < wants.length) (hk : ∀ j k, k ∈ may.getD j [] → k ∈ may'.getD j []) (hin : s ∈ may'.getD g []) :
    Met (sup.set s (sup.getD s 0 + m)) (wants.set g (wants.getD g 0 + m)) may' := by
  intro A
  have h0 := M A
  unfold smL bndF at h0 ⊢
  rw [List.length_set, List.length_set]
  have e1 : sm wants.length (fun i => (wants.set g (wants.getD g 0 + m)).getD i 0) = sm wants.length (fun i => wants.getD i 0) + m := by
    refine (sm_congr fun i _ => ?_).trans ((sm_add _ (fun i => wants.getD i 0) (fun i => if i = g then m else 0)).trans (by rw [sm_one hg m]))
    rw [getD_set _ _ _ hg]
    by_cases q : i = g
    · subst q; rw [if_pos rfl, if_pos rfl]
    · rw [if_neg q, if_neg q]; omega
  have e2 : sm wants.length (fun i => if i ∈ A then 0 else (wants.set g (wants.getD g 0 + m)).getD i 0) = sm wants.length (fun i => if i ∈ A then 0 else wants.getD i 0) + (if g ∈ A then 0 else m) := by
    refine (sm_congr fun i _ => ?_).trans ((sm_add _ (fun i => if i ∈ A then 0 else wants.getD i 0) (fun i => if i = g then (if g ∈ A then 0 else m) else 0)).trans (by rw [sm_one hg]))
    rw [getD_set _ _ _ hg]
    by_cases q : i = g
    · subst q; rw [if_pos rfl, if_pos rfl]; split <;> omega
    · rw [if_neg q, if_neg q]; split <;> omega
  have e3 : sm sup.length (fun i => if nrB may A i = true then sup.getD i 0 else 0) + (if g ∈ A then m else 0) ≤ sm sup.length (fun i => if nrB may' A i = true then (sup.set s (sup.getD s 0 + m)).getD i 0 else 0) := by
    refine Int.le_trans (Int.le_of_eq ((by rw [sm_add, sm_one hs]) : _ = sm sup.length (fun i => (if nrB may A i = true then sup.getD i 0 else 0) + (if i = s then (if g ∈ A then m else 0) else 0)))) (sm_le fun i _ => ?_)
    rw [getD_set _ _ _ hs]
    have hi := hn i
    have hmono : nrB may A i = true → nrB may' A i = true := fun h => by
      obtain ⟨j, hj, hji⟩ := (nrB_iff may A i).mp h
      exact (nrB_iff may' A i).mpr ⟨j, hj, hk j i hji⟩
    have hnew : i = s → g ∈ A → nrB may' A i = true := fun h h2 => (nrB_iff may' A i).mpr ⟨g, h2, h ▸ hin⟩
    by_cases q : i = s
    · subst q
      rw [if_pos rfl, if_pos rfl]
      by_cases qa : g ∈ A
      · rw [if_pos qa, if_pos (hnew rfl qa)]; split <;> omega
      · rw [if_neg qa]
        by_cases q1 : nrB may A i = true
        · rw [if_pos q1, if_pos (hmono q1)]; omega
        · rw [if_neg q1]; split <;> omega
    · rw [if_neg q, if_neg q]
      by_cases q1 : nrB may A i = true
      · rw [if_pos q1, if_pos (hmono q1)]; omega
      · rw [if_neg q1]; split <;> omega
  rw [e1, e2]
  have : (if g ∈ A then 0 else m) + (if g ∈ A then m else 0) = m := by split <;> omega
  omega
theorem met_told {L : List Tri} {A : List Nat} (M : Met sup wants may) (Z : Told sup wants may L A) : totL L = smL wants := by
  have h1 := weak Z.v []
  rw [bnd_nil] at h1
  have h2 := M A
  have h3 := Z.eq
  omega
theorem sum_row (f : Nat → Int) (n : Nat) (hf : ∀ i, 0 ≤ f i) : ∀ row : List Nat, sm n (fun i => if i ∈ row then f i else 0) ≤ (row.map f).sum
  | [] => by
    rw [sm_congr (g := fun _ => 0) fun s _ => if_neg fun q => (by cases q), sm_zero]
    exact Int.le_refl _
  | x :: row => by
    have ih := sum_row f n hf row
    rw [List.map_cons, List.sum_cons]
    have h1 : sm n (fun i => if i ∈ x :: row then f i else 0) ≤ sm n (fun i => (if i = x then f x else 0) + (if i ∈ row then f i else 0)) := sm_le fun i _ => by
      have := hf i
      by_cases q : i = x
      · subst q; rw [if_pos (List.mem_cons_self ..), if_pos rfl]; split <;> omega
      · rw [if_neg q]
        by_cases q2 : i ∈ row
        · rw [if_pos q2, if_pos (List.mem_cons_of_mem _ q2)]; omega
        · rw [if_neg q2, if_neg (by rw [List.mem_cons]; exact fun h => h.elim q q2)]; omega
    rw [sm_add] at h1
    have h2 : sm n (fun i => if i = x then f x else 0) ≤ f x := by
      by_cases hx : x < n
      · rw [sm_one hx]; exact Int.le_refl _
      · rw [sm_congr (g := fun _ => 0) fun i hi => if_neg (by omega), sm_zero]; exact hf x
    omega
theorem more_told {L : List Tri} {A : List Nat} {k : Nat} (Z : Told sup wants may L A) (hn : ∀ i, 0 ≤ sup.getD i 0) (hk : k < wants.length) (hw : wants.getD k 0 = ((may.getD k []).map fun i => sup.getD i 0).sum + 1) : totL L < smL wants := by
  have h1 := weak Z.v [k]
  unfold bndF at h1
  have h2 := sum_row (fun i => sup.getD i 0) sup.length hn (may.getD k [])
  have h3 : sm sup.length (fun s => if nrB may [k] s = true then sup.getD s 0 else 0) = sm sup.length (fun i => if i ∈ may.getD k [] then sup.getD i 0 else 0) := sm_congr fun i _ => by
    have : nrB may [k] i = true ↔ i ∈ may.getD k [] := by
      rw [nrB_iff]
      unfold near
      constructor
      · rintro ⟨g, hg, h⟩; rw [List.mem_singleton.mp hg] at h; exact h
      · intro h; exact ⟨k, List.mem_singleton.mpr rfl, h⟩
    by_cases q : i ∈ may.getD k []
    · rw [if_pos q, if_pos (this.mpr q)]
    · rw [if_neg q, if_neg (fun h => q (this.mp h))]
  have h4 : smL wants = sm wants.length (fun g => if g ∈ [k] then 0 else wants.getD g 0) + wants.getD k 0 := by
    unfold smL
    refine (sm_congr fun i _ => ?_).trans ((sm_add _ (fun g => if g ∈ [k] then 0 else wants.getD g 0) (fun i => if i = k then wants.getD k 0 else 0)).trans (by rw [sm_one hk]))
    by_cases q : i = k
    · subst q; rw [if_pos (List.mem_singleton.mpr rfl), if_pos rfl]; omega
    · rw [if_neg (fun h => q (List.mem_singleton.mp h)), if_neg q]; omega
  omega
theorem gone_told {L : List Tri} {A : List Nat} (Z : Told sup wants may L A) (hn : ∀ i, 0 ≤ sup.getD i 0) (h0 : ∀ j, 0 ∉ may.getD j []) : totL L ≤ (sup.drop 1).sum := by
  have h1 := weak Z.v (List.range wants.length)
  unfold bndF at h1
  have h2 : sm wants.length (fun g => if g ∈ List.range wants.length then 0 else wants.getD g 0) = 0 := by
    rw [sm_congr (g := fun _ => 0) fun i hi => if_pos (List.mem_range.mpr hi), sm_zero]
  have h3 : sm sup.length (fun s => if nrB may (List.range wants.length) s = true then sup.getD s 0 else 0) ≤ sm sup.length (fun s => sup.getD s 0 + (if s = 0 then - sup.getD 0 0 else 0)) := sm_le fun i _ => by
    have := hn i
    by_cases q : i = 0
    · subst q
      rw [if_neg, if_pos rfl]
      · omega
      · intro h
        obtain ⟨g, _, hg⟩ := (nrB_iff _ _ _).mp h
        exact h0 g hg
    · rw [if_neg q]; split <;> omega
  rw [sm_add] at h3
  have h4 : sup.sum = smL sup := smL_sum sup
  unfold smL at h4
  cases sup with
  | nil =>
    rw [h2] at h1
    simp only [List.length_nil, sm] at h1
    rw [List.drop_nil, List.sum_nil]
    omega
  | cons a r =>
    have h5 : sm (a :: r).length (fun s => if s = 0 then - (a :: r).getD 0 0 else 0) = - (a :: r).getD 0 0 := sm_one (by simp) _
    rw [h5] at h3
    have h6 : (a :: r).getD 0 0 = a := rfl
    rw [List.sum_cons] at h4
    rw [List.drop_one, List.tail_cons]
    omega
end
end QQ

/-! the ASTs of law k32 -/
namespace QQ
open PySem L2
def F__law_total : Fn := ⟨["_law_supplies", "_law_wants", "_law_may"], ["_law_supplies", "_law_wants", "_law_may", "_law_told", "_law_some", "_law_supply", "_law_goal", "_law_many"],
  (.cons (.asg (.nm 3) (.call "served" (.cons (.blt false "list" (.cons (.var 0) .nil)) (.cons (.blt false "list" (.cons (.var 1) .nil)) (.cons (.lc false [("_law_some", 4)] (.nm 4) (.seq (.var 2)) .nil (.blt false "list" (.cons (.var 4) .nil))) .nil))) 0))
  (.cons (.ret (.blt false "sum" (.cons (.lc false [("_law_supply", 5), ("_law_goal", 6), ("_law_many", 7)] (.tp [5, 6, 7]) (.seq (.ix (.var 3) (.cst (.int 0)))) .nil (.var 7)) .nil)))
  .nil)), 0, false⟩
def F__law_least : Fn := ⟨["_law_supplies", "_law_wants", "_law_may"], ["_law_supplies", "_law_wants", "_law_may", "_law_lists", "_law_goal", "_law_short"],
  (.cons (.asg (.nm 3) (.lst false (.cons (.lst false .nil) .nil)))
  (.cons (.frs (.nm 4) (.rng (.cons (.blt false "len" (.cons (.var 1) .nil)) .nil))
  (.cons (.asg (.nm 3) (.bin .Add false (.var 3) (.lc false [("_law_short", 5)] (.nm 5) (.seq (.var 3)) .nil (.bin .Add false (.var 5) (.lst false (.cons (.var 4) .nil))))))
  .nil))
  (.cons (.ret (.blt false "min" (.cons (.lc false [("_law_short", 5)] (.nm 5) (.seq (.var 3)) .nil (.call "_law_bound" (.cons (.var 5) (.cons (.var 0) (.cons (.var 1) (.cons (.var 2) .nil)))) 0)) .nil)))
  .nil))), 0, false⟩
def F__law_met_right : Fn := ⟨["_law_script", "_law_first"], ["_law_script", "_law_first", "_law_many", "_law_rooms", "_law_supplies", "_law_wants", "_law_may", "_law_goal", "_law_k", "_law_number", "_law_supply", "_law_part", "_law_at", "_law_left", "_law_some"],
  (.cons (.asg (.nm 2) (.bin .Add false (.cst (.int 1)) (.bin .Mod false (.call "_law_mixed" (.cons (.var 0) (.cons (.var 1) .nil)) 0) (.cst (.int 9)))))
  (.cons (.asg (.nm 3) (.bin .Add false (.cst (.int 1)) (.bin .Mod false (.call "_law_mixed" (.cons (.var 0) (.cons (.bin .Add false (.var 1) (.cst (.int 1))) .nil)) 0) (.cst (.int 9)))))
  (.cons (.asg (.nm 4) (.bin .Mult true (.lst false (.cons (.cst (.int 0)) .nil)) (.var 3)))
  (.cons (.asg (.nm 5) (.bin .Mult true (.lst false (.cons (.cst (.int 0)) .nil)) (.var 2)))
  (.cons (.asg (.nm 6) (.lc true [("_law_goal", 7)] (.nm 7) (.rng (.cons (.var 2) .nil)) .nil (.lst false .nil)))
  (.cons (.frs (.nm 8) (.rng (.cons (.bin .Add false (.cst (.int 1)) (.bin .Mod false (.call "_law_mixed" (.cons (.var 0) (.cons (.bin .Add false (.var 1) (.cst (.int 2))) .nil)) 0) (.cst (.int 30)))) .nil))
  (.cons (.asg (.nm 9) (.call "_law_mixed" (.cons (.var 0) (.cons (.bin .Add false (.bin .Add false (.var 1) (.cst (.int 3))) (.var 8)) .nil)) 0))
  (.cons (.asg (.nm 10) (.bin .Mod false (.var 9) (.var 3)))
  (.cons (.asg (.nm 7) (.bin .Mod false (.bin .FloorDiv false (.var 9) (.cst (.int 9))) (.var 2)))
  (.cons (.asg (.nm 11) (.bin .Add false (.cst (.int 1)) (.call "_law_amount" (.cons (.bin .FloorDiv false (.var 9) (.cst (.int 81))) .nil) 0)))
  (.cons (.six (.var 4) (.var 10) (.bin .Add false (.ix (.var 4) (.var 10)) (.var 11)))
  (.cons (.six (.var 5) (.var 7) (.bin .Add false (.ix (.var 5) (.var 7)) (.var 11)))
  (.cons (.six (.var 6) (.var 7) (.srtSet false (.bin .Add false (.ix (.var 6) (.var 7)) (.lst false (.cons (.var 10) .nil)))))
  .nil))))))))
  (.cons (.ite (.cmp .NotEq (.call "_law_total" (.cons (.var 4) (.cons (.var 5) (.cons (.var 6) .nil))) 0) (.blt false "sum" (.cons (.var 5) .nil)))
  (.cons (.ret (.cst (.bl false)))
  .nil)
  .nil)
  (.cons (.asg (.nm 12) (.bin .Mod false (.call "_law_mixed" (.cons (.var 0) (.cons (.bin .Add false (.var 1) (.cst (.int 40))) .nil)) 0) (.var 2)))
  (.cons (.six (.var 5) (.var 12) (.bin .Add false (.blt false "sum" (.cons (.lc false [("_law_supply", 10)] (.nm 10) (.seq (.ix (.var 6) (.var 12))) .nil (.ix (.var 4) (.var 10))) .nil)) (.cst (.int 1))))
  (.cons (.ite (.nt (.cmp .Lt (.call "_law_total" (.cons (.var 4) (.cons (.var 5) (.cons (.var 6) .nil))) 0) (.blt false "sum" (.cons (.var 5) .nil))))
  (.cons (.ret (.cst (.bl false)))
  .nil)
  .nil)
  (.cons (.asg (.nm 13) (.lc false [("_law_some", 14)] (.nm 14) (.seq (.var 6)) .nil (.lc false [("_law_supply", 10)] (.nm 10) (.seq (.var 14)) (.cons (.cmp .Gt (.var 10) (.cst (.int 0))) .nil) (.var 10))))
  (.cons (.ret (.cmp .LtE (.call "_law_total" (.cons (.var 4) (.cons (.var 5) (.cons (.var 13) .nil))) 0) (.blt false "sum" (.cons (.slc false (.var 4) (.cons (.cst (.int 1)) .nil) .nil) .nil))))
  .nil)))))))))))), 0, true⟩
def F_law : Fn := ⟨["_law_script"], ["_law_script", "_law_first", "_law_supplies", "_law_wants", "_law_may"],
  (.cons (.frs (.nm 1) (.rng (.cons (.cst (.int 0)) (.cons (.bin .Add false (.blt false "len" (.cons (.var 0) .nil)) (.cst (.int 1))) (.cons (.cst (.int 10)) .nil))))
  (.cons (.asg (.tp [2, 3, 4]) (.call "_law_drawn" (.cons (.var 0) (.cons (.bin .Mult false (.var 1) (.cst (.int 7))) (.cons (.cst (.int 6)) .nil))) 0))
  (.cons (.ite (.cmp .NotEq (.call "_law_total" (.cons (.var 2) (.cons (.var 3) (.cons (.var 4) .nil))) 0) (.call "_law_least" (.cons (.var 2) (.cons (.var 3) (.cons (.var 4) .nil))) 0))
  (.cons (.ret (.cst (.bl false)))
  .nil)
  .nil)
  (.cons (.ite (.nt (.call "_law_met_right" (.cons (.var 0) (.cons (.bin .Mult false (.var 1) (.cst (.int 11))) .nil)) 0))
  (.cons (.ret (.cst (.bl false)))
  .nil)
  .nil)
  .nil))))
  (.cons (.ret (.cst (.bl true)))
  .nil)), 0, false⟩
end QQ

/-! law k32: its run -/
namespace QQ
open PySem L2
local macro_rules | `(tactic| bv_omega) => `(tactic| ((try simp only [frame0, List.map_cons, List.map_nil, List.length_cons, List.length_nil, Nat.reduceAdd, Nat.reduceSub, List.replicate, List.cons_append, List.nil_append]); try simp only [↓r_var, ↓r_cst, ↓r_glb, ↓r_bin, ↓r_cmp, ↓r_chn, ↓r_bop, ↓r_neg, ↓r_nt, ↓r_ife, ↓r_tup, ↓r_lst, ↓r_dis, ↓r_ix, ↓r_slc, ↓r_sls, ↓intQ_int, ↓r_fld, ↓r_call, ↓r_make, ↓r_meth, ↓r_blt, ↓r_mtd, ↓r_lc, ↓r_srtSet, ↓r_frz, ↓r_nil, ↓r_cons, ↓rB_one, ↓rB_more, ↓t_bop, ↓t_nt, ↓t_cmp, ↓t_chn, ↓t_var, ↓t_cst, ↓t_ix, ↓t_fld, ↓t_call, ↓t_meth, ↓t_blt, ↓tB_one, ↓tB_more, ↓ts_nil, ↓ts_one, ↓i_seq, ↓i_rng, ↓i_enu, ↓i_zip, ↓i_itm, ↓x_expr, ↓x_asg, ↓x_par, ↓x_aug, ↓x_six, ↓x_aix, ↓x_sfd, ↓x_ite, ↓x_whl, ↓x_frs, ↓x_ret, ↓x_retN, ↓x_pas, ↓x_brk, ↓x_ctn, ↓xs_nil, ↓xs_cons, ↓RdQ_some, ↓LfQ_some, ↓RdQ_none, ↓LfQ_none, RdQ_some, LfQ_some, RdQ_none, LfQ_none, RdQ_ite, LfQ_ite, ↓nxQ_nx, ↓nxQ_rt, ↓nxQ_bk, ↓nxQ_ct, ↓lpQ_nx, ↓lpQ_rt, ↓lpQ_bk, ↓lpQ_ct, ↓fnQ_nx, ↓fnQ_rt, ↓endQ_f, ↓notQ_bl, ↓bopQ_bl, ↓parQ_two, isNon_non, add_int, sub_int, mul_int', fdiv_int, mod_int, pow_int, eq_int, ne_int, lt_int, le_int, gt_int, ge_int, eq_str, ne_str, eq_bl, is_non, is_tup, is_int, isn_non, isn_tup, isn_int, true_bl, true_int, mkT_if, mkL_t, mkL_f, mkD_t, mkD_f, blt_len, blt_list, blt_sum, blt_min1, blt_all, blt_any, blt_sorted, blt_dict, blt_min2, blt_isi, bMin2_int, List.getElem?_cons_zero, List.getElem?_cons_succ, Option.join_some, Option.join_none, List.set_cons_zero, List.set_cons_succ, asgT, setsT, wipeD, List.map_cons, List.map_nil, frame0, List.replicate, List.length_cons, List.length_nil, List.cons_append, List.nil_append, List.append_nil, Nat.reduceAdd, Nat.reduceSub, Nat.reduceLeDiff, Nat.reduceLT, Int.reduceLT, Int.reduceLE, Int.reduceToNat, Int.reduceNeg, Int.reducePow, Int.reduceAdd, Int.reduceMul, decide_eq_true_eq, if_true, if_false, ite_true, ite_false, Bool.false_eq_true, Bool.true_eq_false, Bool.not_true, Bool.not_false, true_and, and_true, Bool.not_eq_true', Bool.not_eq_true, decide_eq_false_iff_not, reduceCtorEq, decide_true, decide_false, le_size, ne_eq, not_true_eq_false, not_false_eq_true, Nat.zero_le, gsOn_nil, enter, leave, List.append_assoc, gat, gat0, sat, sat0, tat, kd_append, kd_extend, kd_pop, kd_get, kd_update, kdPick, md_append, md_extend, md_popl, md_get1, md_get2, md_popd, md_update, pairsOf_loc, items_loc, itemsA_loc, fieldsOf_loc, items_lst, items_fls, itemsA_lst, itemsA_fls, itemsA_tup, pairsOf_dct, pairsOf_lst, pairsOf_fls, pairsOf_tup, ix_lst, ix_fls, ix_tup, ix_dct, bLen_lst, bLen_fls, bLen_tup, bList, bSum, bMin1, bAll, bAny, bSorted, ne_ints_nil, ne_nil_nil, mAppend, mExtend, List.length_append, Nat.zero_add, seqSrc, lstSrc, itmSrc, List.map_map, mulOk_l, mulOk_r, divOk_l, natAbs_10, int_zero_add, atI_of, List.map_append, Int.reduceSub, Int.reduceEq, Int.reduceMod, Int.reduceDiv, Int.reduceBEq, Int.reduceBNe, frzD_loc, ↓endQ_app, ↓endQ_id, belows_map, below_tup, below_lst, below_fls, below_dct, below_int, below_str, below_bl, below_non, belows_nil, belows_cons, Bool.and_self, Bool.and_true, Bool.true_and, implies_true, cut_hi, cut_lo, opt_nil, opt_one, sl_lst, sl_fls, sl_loc, Option.bind_some, List.drop_succ_cons, List.drop_zero, List.take_succ_cons, List.take_zero, below_nat, natD_eq, keyD_int, keyD_str, cmp_in, cmp_nin, setD_loc, mPopL_loc, mPopD_loc, mUpdate_loc, isLoc_dct, mGet1, mGet2, ixL_loc, ixD_loc, atI_nat, ixN_nat, sem_mt', sem_con', sem_fd', sem_df', Option.map_some, Option.map_none, Option.bind_none, augD, List.eraseIdx_cons_zero, Int.reducePow, Nat.reducePow, and_self, Int.toNat_zero, negD_int, atI_last, add_loc_loc, add_lst_lst, add_loc_lst, add_lst_loc]))
structure Has32 (R : Prg) : Prop where
  total : R.fns.lookup ("_law_total" : Str) = some F__law_total
  least : R.fns.lookup ("_law_least" : Str) = some F__law_least
  met : R.fns.lookup ("_law_met_right" : Str) = some F__law_met_right
  law : R.fns.lookup ("law" : Str) = some F_law
  serv : R.fns.lookup ("served" : Str) = some F_servedV
/-- a list, as it is or in a cell -/
def LA (s : Mem) (x : Dt) (l : List Dt) : Prop := x = .lst l ∨ ∃ c, x = .loc c ∧ s[c]? = some (.live (.lst l))
theorem LA.pairs {s : Mem} {x : Dt} {l : List Dt} (h : LA s x l) : pairsOf s x = none := by
  rcases h with rfl | ⟨c, rfl, h⟩
  · rfl
  · rw [pairsOf_loc, h]
theorem LA.itemsA {s : Mem} {x : Dt} {l : List Dt} (h : LA s x l) : itemsA s x = some l := by
  rcases h with rfl | ⟨c, rfl, h⟩
  · rfl
  · rw [itemsA_loc, items_loc, h]
theorem LA.items {s : Mem} {x : Dt} {l : List Dt} (h : LA s x l) : items s x = some l := by
  rcases h with rfl | ⟨c, rfl, h⟩
  · rfl
  · rw [items_loc, h]
theorem LA.lst {s : Mem} {l : List Dt} : LA s (.lst l) l := .inl rfl
theorem LA.loc {s : Mem} {l : List Dt} {c : Nat} (h : s[c]? = some (.live (.lst l))) : LA s (.loc c) l := .inr ⟨c, rfl, h⟩
theorem ints_tri2 (L : List Tri) : intsOf (L.map fun t => .int t.2.2) = some (L.map fun t => t.2.2) := by
  have : (L.map fun (t : Tri) => Dt.int t.2.2) = (L.map fun t => t.2.2).map .int := by rw [List.map_map]; rfl
  rw [this, intsOf_map]
theorem dedI_nd : ∀ l : List Int, (dedI l).Nodup
  | [] => List.nodup_nil
  | x :: r => by
    unfold dedI
    split
    · exact dedI_nd r
    · rename_i h
      exact List.nodup_cons.mpr ⟨fun q => h (dedI_mem.mp q), dedI_nd r⟩
theorem srtSet_nats {row : List Nat} {a : Nat} (h : row.length < 63) : ∃ row' : List Nat, (∀ s : Mem, srtSetD false (.lst (row.map natD ++ [.int (a : Int)])) s = some (.lst (row'.map natD), s)) ∧ (∀ k, k ∈ row' ↔ k ∈ row ∨ k = a) ∧ row'.Nodup := by
  have hsL : ∀ {m : Nat}, m ≤ 10000000 → m ≤ sizeLine := fun h => Nat.le_of_lt (Nat.lt_of_lt_of_le (by omega : _ < 16777216) (of_eq_true (le_size (Nat.le_refl _))))
  have e : row.map natD ++ [.int (a : Int)] = ((row ++ [a]).map fun (k : Nat) => (k : Int)).map .int := by rw [List.map_map, List.map_append]; rfl
  have hp := srtI_perm (dedI ((row ++ [a]).map fun (k : Nat) => (k : Int)))
  have hnn : ∀ x ∈ srtI (dedI ((row ++ [a]).map fun (k : Nat) => (k : Int))), ∃ k : Nat, k ∈ row ++ [a] ∧ x = k := fun x hx => by
    obtain ⟨k, hk, rfl⟩ := List.mem_map.mp (dedI_mem.mp (hp.subset hx))
    exact ⟨k, hk, rfl⟩
  have hnd : (srtI (dedI ((row ++ [a]).map fun (k : Nat) => (k : Int)))).Nodup := hp.nodup_iff.mpr (dedI_nd _)
  have hmem : ∀ k : Nat, (k : Int) ∈ srtI (dedI ((row ++ [a]).map fun (k : Nat) => (k : Int))) ↔ k ∈ row ++ [a] := fun k => by
    constructor
    · intro h
      obtain ⟨j, hj, e⟩ := hnn _ h
      have : k = j := by omega
      exact this ▸ hj
    · intro h
      exact hp.symm.subset (dedI_mem.mpr (List.mem_map.mpr ⟨k, h, rfl⟩))
  have hlen : (srtI (dedI ((row ++ [a]).map fun (k : Nat) => (k : Int)))).length ≤ 100 := by
    rw [srtI_len]
    have : ∀ l : List Int, (dedI l).length ≤ l.length := fun l => by
      induction l with
      | nil => exact Nat.le_refl _
      | cons x r ih => unfold dedI; split <;> simp <;> omega
    have := this ((row ++ [a]).map fun (k : Nat) => (k : Int))
    rw [List.length_map, List.length_append] at this
    have h1 : [a].length = 1 := rfl
    omega
  have he : ∀ s : Mem, srtSetD false (.lst (row.map natD ++ [.int (a : Int)])) s = some (.lst ((srtI (dedI ((row ++ [a]).map fun (k : Nat) => (k : Int)))).map .int), s) := fun s => by
    unfold srtSetD
    rw [items_lst, Option.bind_some, e, intsOf_map, Option.bind_some, if_pos (by simp; omega), mkL_f, if_pos (by rw [List.length_map]; exact hsL (by omega))]
  generalize srtI (dedI ((row ++ [a]).map fun (k : Nat) => (k : Int))) = l at *
  refine ⟨l.map Int.toNat, fun s => ?_, fun k => ?_, ?_⟩
  · rw [he]
    congr 2
    rw [List.map_map]
    congr 1
    refine List.map_congr_left fun x hx => ?_
    obtain ⟨k, _, rfl⟩ := hnn x hx
    rfl
  · rw [List.mem_map]
    constructor
    · rintro ⟨x, hx, rfl⟩
      obtain ⟨j, hj, rfl⟩ := hnn x hx
      rw [Int.toNat_natCast]
      rcases List.mem_append.mp hj with h | h
      · exact .inl h
      · exact .inr (List.mem_singleton.mp h)
    · intro h
      refine ⟨(k : Int), (hmem k).mpr ?_, Int.toNat_natCast k⟩
      rcases h with h | h
      · exact List.mem_append_left _ h
      · exact List.mem_append_right _ (List.mem_singleton.mpr h)
  · refine List.pairwise_map.mpr (List.Pairwise.imp_of_mem (fun {x y} hx hy h q => h ?_) hnd)
    obtain ⟨j, _, rfl⟩ := hnn x hx
    obtain ⟨k, _, rfl⟩ := hnn y hy
    rw [Int.toNat_natCast, Int.toNat_natCast] at q
    rw [q]
theorem rep_own {s : Mem} {N : Nat} (h : N ≤ 1000) : binD .Mult true (.lst [.int 0]) (.int (N : Int)) s = some (.loc s.length, s ++ [.live (.lst ((List.replicate N 0).map .int))]) := by
  have hsL : ∀ {m : Nat}, m ≤ 10000000 → m ≤ sizeLine := fun h => Nat.le_of_lt (Nat.lt_of_lt_of_le (by omega : _ < 16777216) (of_eq_true (le_size (Nat.le_refl _))))
  have hq : -(2 ^ 63) ≤ (N : Int) ∧ (N : Int) < 2 ^ 63 ∧ [Dt.int 0].length * (N : Int).toNat ≤ sizeLine := ⟨by omega, by omega, by rw [List.length_singleton, Nat.one_mul, Int.toNat_natCast]; exact hsL (by omega)⟩
  unfold binD
  simp only [mulD]
  rw [items_lst, Option.bind_some, if_pos hq, Int.toNat_natCast, List.flatten_replicate_singleton, mkL_t, if_pos (by rw [List.length_replicate]; exact hsL (by omega)), List.map_replicate]
theorem getD_mset (l : List (List Nat)) (k i : Nat) (h : k < l.length) (v : List Nat) : (l.set k v).getD i [] = if i = k then v else l.getD i [] := by
  rw [List.getD_eq_getElem?_getD, List.getD_eq_getElem?_getD, List.getElem?_set]
  by_cases q : k = i
  · subst q; rw [if_pos rfl, if_pos rfl, if_pos h]; rfl
  · rw [if_neg q, if_neg (Ne.symm q)]
theorem mayD_rep (N : Nat) : mayD (List.replicate N []) = (List.range N).map fun _ => Dt.lst [] := by
  unfold mayD
  rw [List.map_replicate, List.map_const', List.length_range]
  rfl
theorem sum_nn : ∀ {l : List Int}, (∀ x ∈ l, 0 ≤ x) → 0 ≤ l.sum
  | [], _ => Int.le_refl _
  | x :: l, h => by
    rw [List.sum_cons]
    have := sum_nn fun y hy => h y (List.mem_cons_of_mem _ hy)
    have := h x (List.mem_cons_self ..)
    omega
structure I32 (K N : Nat) (sup wants : List Int) (may : List (List Nat)) : Prop where
  ls : sup.length = K
  lw : wants.length = N
  lm : may.length = N
  sn : ∀ i, 0 ≤ sup.getD i 0
  wn : ∀ i, 0 ≤ wants.getD i 0
  nd : ∀ j, (may.getD j []).Nodup
  lt : ∀ j, ∀ k ∈ may.getD j [], k < K
  met : Met sup wants may
theorem mem_getD {α : Type} {l : List α} {x d : α} (h : x ∈ l) : ∃ i, i < l.length ∧ x = l.getD i d := by
  obtain ⟨i, hi, rfl⟩ := List.getElem_of_mem h
  exact ⟨i, hi, by rw [List.getD_eq_getElem?_getD, List.getElem?_eq_getElem hi]; rfl⟩
theorem I32.inn {K N : Nat} {sup wants : List Int} {may : List (List Nat)} (h : I32 K N sup wants may) : In sup wants may := by
  refine ⟨fun x hx => ?_, fun x hx => ?_, h.lm.trans h.lw.symm, fun r hr k hk => ?_⟩
  · obtain ⟨i, _, rfl⟩ := mem_getD (d := 0) hx; exact h.sn i
  · obtain ⟨i, _, rfl⟩ := mem_getD (d := 0) hx; exact h.wn i
  · obtain ⟨i, _, rfl⟩ := mem_getD (d := []) hr
    rw [h.ls]; exact h.lt i k hk
theorem I32.row {K N : Nat} {sup wants : List Int} {may : List (List Nat)} (h : I32 K N sup wants may) : ∀ r ∈ may, r.length ≤ K := fun r hr => by
  obtain ⟨i, _, rfl⟩ := mem_getD (d := []) hr
  exact nodup_len (h.nd i) (h.lt i)
theorem rep_getD {α : Type} (k i : Nat) (d : α) : (List.replicate k d).getD i d = d := by
  rw [List.getD_eq_getElem?_getD]
  by_cases h : i < k
  · rw [List.getElem?_replicate_of_lt h]; rfl
  · rw [List.getElem?_eq_none (by simp; omega)]; rfl
theorem I32.zero (K N : Nat) : I32 K N (List.replicate K 0) (List.replicate N 0) (List.replicate N []) := by
  refine ⟨List.length_replicate, List.length_replicate, List.length_replicate, fun i => ?_, fun i => ?_, fun j => ?_, fun j k hk => ?_, met_zero K N⟩
  · rw [rep_getD]; exact Int.le_refl _
  · rw [rep_getD]; exact Int.le_refl _
  · rw [rep_getD]; exact List.nodup_nil
  · rw [rep_getD] at hk; cases hk
theorem I32.step {K N : Nat} {sup wants : List Int} {may : List (List Nat)} (h : I32 K N sup wants may) {a g : Nat} {m : Int} {r : List Nat} (ha : a < K) (hg : g < N) (hm : 0 ≤ m) (hr : ∀ k, k ∈ r ↔ k ∈ may.getD g [] ∨ k = a) (hn : r.Nodup) :
    I32 K N (sup.set a (sup.getD a 0 + m)) (wants.set g (wants.getD g 0 + m)) (may.set g r) := by
  have h1 : a < sup.length := by rw [h.ls]; exact ha
  have h2 : g < wants.length := by rw [h.lw]; exact hg
  have h3 : g < may.length := by rw [h.lm]; exact hg
  refine ⟨by rw [List.length_set, h.ls], by rw [List.length_set, h.lw], by rw [List.length_set, h.lm], fun i => ?_, fun i => ?_, fun j => ?_, fun j k hk => ?_, ?_⟩
  · rw [getD_set _ _ _ h1]
    have := h.sn a
    split
    · omega
    · exact h.sn i
  · rw [getD_set _ _ _ h2]
    have := h.wn g
    split
    · omega
    · exact h.wn i
  · rw [getD_mset _ _ _ h3]
    split
    · exact hn
    · exact h.nd j
  · rw [getD_mset _ _ _ h3] at hk
    split at hk
    · rcases (hr k).mp hk with q | q
      · exact h.lt g k q
      · omega
    · exact h.lt j k hk
  · refine met_step h.met h.sn hm h1 h2 (fun j k hk => ?_) ?_
    · rw [getD_mset _ _ _ h3]
      split
      · rename_i q; exact (hr k).mpr (.inl (q ▸ hk))
      · exact hk
    · rw [getD_mset _ _ _ h3, if_pos rfl]
      exact (hr a).mpr (.inr rfl)
section
variable {R : Prg} (hT : HasT R) (hD : HasD R) (hB : HasB R) (h32 : Has32 R) {n : Nat}
include hT h32
theorem c_total {s : Mem} {E : Ep} {Q : Dt → Mem → Prop} {sup wants : List Int} {may : List (List Nat)} {L : List Tri} {A : List Nat} {x y z : Dt} (hx : LA s x (sup.map .int)) (hy : LA s y (wants.map .int)) (hz : LA s z (mayD may)) (I : In sup wants may) (Z : Told sup wants may L A)
    (hls : sup.length ≤ 9) (hlw : wants.length ≤ 9) (hrl : ∀ row ∈ may, row.length ≤ 9) :
    RunE ((sem R (n + 5)).fn "_law_total" [x, y, z]) s E Q ↔ Q (.int (totL L)) s := by
  have hsL : ∀ {m : Nat}, m ≤ 10000000 → m ≤ sizeLine := fun h => Nat.le_of_lt (Nat.lt_of_lt_of_le (by omega : _ < 16777216) (of_eq_true (le_size (Nat.le_refl _))))
  have hlm := I.len
  have hsz : sup.length * wants.length ≤ 81 := Nat.mul_le_mul hls hlw
  have hll := Z.len
  refine c_of ?_
  rw [sem_fn h32.total, RunE_callF]
  simp only [F__law_total]
  rcases hz with rfl | ⟨c, rfl, hc⟩
  · bv_omega
    rw [hx.pairs]
    bv_omega
    rw [hx.itemsA]
    bv_omega
    refine ⟨by rw [List.length_map]; exact hsL (by omega), ?_⟩
    rw [hy.pairs]
    bv_omega
    rw [hy.itemsA]
    bv_omega
    refine ⟨by rw [List.length_map]; exact hsL (by omega), ?_⟩
    unfold mayD
    rw [r_lcn may (fun row => .lst (row.map natD)) (fun row => .lst (row.map natD)) gsNil]
    · rw [show may.map (fun row => Dt.lst (row.map natD)) = mayD may from rfl]
      bv_omega
      refine ⟨by show (may.map _).length ≤ _; rw [List.length_map]; exact hsL (by omega), ?_⟩
      rw [c_servedV hT I (by omega) (by omega) h32.serv (by omega), Z.srv, tri_enc]
      bv_omega
      rw [r_lcn L triD (fun t => .int t.2.2) gsNil]
      · bv_omega
        refine ⟨by rw [List.length_map]; exact hsL (by omega), ?_⟩
        rw [ints_tri2]
        bv_omega
        rfl
      · intro t ht
        refine ⟨_, rfl, ?_⟩
        bv_omega
    · intro row hrow
      have := hrl row hrow
      refine ⟨_, rfl, ?_⟩
      bv_omega
      rw [List.length_map]
      exact hsL (by omega)
  · bv_omega
    rw [hx.pairs]
    bv_omega
    rw [hx.itemsA]
    bv_omega
    refine ⟨by rw [List.length_map]; exact hsL (by omega), ?_⟩
    rw [hy.pairs]
    bv_omega
    rw [hy.itemsA]
    bv_omega
    refine ⟨by rw [List.length_map]; exact hsL (by omega), ?_⟩
    rw [hc]
    bv_omega
    unfold mayD
    rw [r_lcn may (fun row => .lst (row.map natD)) (fun row => .lst (row.map natD)) (by rw [gsOn_sl]; exact ⟨hc, gsNil⟩)]
    · rw [show may.map (fun row => Dt.lst (row.map natD)) = mayD may from rfl]
      bv_omega
      refine ⟨by show (may.map _).length ≤ _; rw [List.length_map]; exact hsL (by omega), ?_⟩
      rw [c_servedV hT I (by omega) (by omega) h32.serv (by omega), Z.srv, tri_enc]
      bv_omega
      rw [r_lcn L triD (fun t => .int t.2.2) gsNil]
      · bv_omega
        refine ⟨by rw [List.length_map]; exact hsL (by omega), ?_⟩
        rw [ints_tri2]
        bv_omega
        rfl
      · intro t ht
        refine ⟨_, rfl, ?_⟩
        bv_omega
    · intro row hrow
      have := hrl row hrow
      refine ⟨_, rfl, ?_⟩
      bv_omega
      rw [List.length_map]
      exact hsL (by omega)
def subsD (k : Nat) : List Dt := (subs k).map fun A => .lst (A.map natD)
omit hT h32 in
theorem at_range {W k : Nat} {pre post : List Nat} (h : List.range W = pre ++ k :: post) : k = pre.length ∧ pre.length < W := by
  have h1 := congrArg List.length h
  rw [List.length_range, List.length_append, List.length_cons] at h1
  have h2 : (List.range W)[pre.length]? = some k := by rw [h]; simp
  rw [List.getElem?_range (by omega)] at h2
  injection h2 with h2
  exact ⟨h2.symm, by omega⟩
include hB in
omit hT in
theorem c_least {s : Mem} {E : Ep} {Q : Dt → Mem → Prop} {sup wants : List Int} {may : List (List Nat)} {L : List Tri} {A : List Nat} (Z : Told sup wants may L A) (hl : may.length = wants.length) (hls : sup.length ≤ 9) (hlw : wants.length ≤ 9) :
    RunE ((sem R (n + 2)).fn "_law_least" [.lst (sup.map .int), .lst (wants.map .int), .lst (mayD may)]) s E Q ↔ Q (.int (totL L)) s := by
  have hsL : ∀ {m : Nat}, m ≤ 10000000 → m ≤ sizeLine := fun h => Nat.le_of_lt (Nat.lt_of_lt_of_le (by omega : _ < 16777216) (of_eq_true (le_size (Nat.le_refl _))))
  have hpow : ∀ k, k ≤ 9 → (subs k).length ≤ 512 := fun k hk => by
    rw [subs_len]
    exact Nat.le_trans (Nat.pow_le_pow_right (by decide) hk : 2 ^ k ≤ 2 ^ 9) (by decide)
  refine c_of ?_
  rw [sem_fn h32.least, RunE_callF]
  simp only [F__law_least]
  bv_omega
  rw [List.length_map, rng1 (by omega), RdQ_some, Int.toNat_natCast]
  bv_omega
  refine RunS_form (List.range wants.length) _ (fun pre φ s' => ∃ x4, φ = [some (.lst (sup.map .int)), some (.lst (wants.map .int)), some (.lst (mayD may)), some (.lst (subsD pre.length)), x4, none] ∧ s' = s) ⟨_, rfl, rfl⟩ (fun _ _ _ _ => gsNil) ?_ ?_
  · rintro pre k post φ s' hk ⟨x4, rfl, rfl⟩ _
    obtain ⟨rfl, hlt⟩ := at_range hk
    have hp := hpow pre.length (by omega)
    unfold subsD
    bv_omega
    rw [r_lcn (subs pre.length) (fun A => .lst (A.map natD)) (fun A => .lst ((A ++ [pre.length]).map natD)) gsNil]
    · bv_omega
      refine ⟨by rw [List.length_map]; exact hsL (by omega), by rw [List.length_map, List.length_map]; exact hsL (by omega), ?_⟩
      refine ⟨some (.int (pre.length : Int)), ?_⟩
      rw [subs, List.map_append, List.map_map, show ((fun A => Dt.lst (A.map natD)) ∘ fun (x : List Nat) => x ++ [pre.length]) = fun A => Dt.lst (A.map natD ++ [Dt.int (pre.length : Int)]) from funext fun A => by
        show Dt.lst ((A ++ [_]).map natD) = _
        rw [List.map_append]; rfl]
    · intro A hA
      have := (subs_lt _ hA).2
      refine ⟨_, rfl, ?_⟩
      bv_omega
      rw [List.length_map]
      exact hsL (by omega)
  · rintro φ s' ⟨x4, rfl, rfl⟩ _
    rw [List.length_range]
    have hp := hpow wants.length hlw
    unfold subsD
    bv_omega
    rw [r_lcn (subs wants.length) (fun A => .lst (A.map natD)) (fun A => .int (bndF sup wants may A)) gsNil]
    · bv_omega
      refine ⟨by rw [List.length_map]; exact hsL (by omega), ?_⟩
      rw [show (subs wants.length).map (fun A => Dt.int (bndF sup wants may A)) = ((subs wants.length).map (bndF sup wants may)).map .int by rw [List.map_map]; rfl, intsOf_map]
      bv_omega
      rw [least_told Z]
      bv_omega
    · intro A hA
      have := subs_lt _ hA
      refine ⟨_, rfl, ?_⟩
      bv_omega
      rw [c_bound hB (by omega) (by omega) (by omega) hl this.1]
      exact ⟨rfl, rfl⟩
omit hT hB h32 in
theorem nat_of {i : Int} {n : Nat} (h : 0 ≤ i ∧ i < n) : ∃ a : Nat, i = a ∧ a < n := ⟨i.toNat, by omega, by omega⟩
omit hB in
include hD in
theorem c_met {s : Mem} {ns : List Int} {f : Int} (hf : 0 ≤ f ∧ f < 65536) {E : Ep} {Q : Dt → Mem → Prop} :
    RunE ((sem R (n + 6)).fn "_law_met_right" [.fls (ns.map .int), .int f]) s E Q ↔ Q (.bl true) s := by
  have hsL : ∀ {m : Nat}, m ≤ 10000000 → m ≤ sizeLine := fun h => Nat.le_of_lt (Nat.lt_of_lt_of_le (by omega : _ < 16777216) (of_eq_true (le_size (Nat.le_refl _))))
  refine c_of ?_
  rw [sem_fn h32.met, RunE_callF]
  simp only [F__law_met_right]
  bv_omega
  rw [c_mixed hD (by omega)]
  bv_omega
  rw [c_mixed hD (by omega)]
  bv_omega
  have m0 := Int.emod_nonneg (mixF ns f) (b := 9) (by decide)
  have m1 := Int.emod_lt_of_pos (mixF ns f) (b := 9) (by decide)
  have r0 := Int.emod_nonneg (mixF ns (f + 1)) (b := 9) (by decide)
  have r1 := Int.emod_lt_of_pos (mixF ns (f + 1)) (b := 9) (by decide)
  obtain ⟨N, hN, hN2⟩ := nat_of (i := 1 + mixF ns f % 9) (n := 10) (by omega)
  obtain ⟨K, hK, hK2⟩ := nat_of (i := 1 + mixF ns (f + 1) % 9) (n := 10) (by omega)
  have hN1 : 1 ≤ N := by omega
  have hK1 : 1 ≤ K := by omega
  rw [hN, hK]
  clear m0 m1 r0 r1 hN hK
  rw [rep_own (by omega)]
  bv_omega
  rw [rep_own (by omega)]
  bv_omega
  rw [rng1 (by omega), RdQ_some, Int.toNat_natCast]
  bv_omega
  rw [r_lcn (List.range N) _ (fun _ => .lst []) gsNil]
  · bv_omega
    refine ⟨by rw [List.length_map, List.length_range]; exact hsL (by omega), ?_⟩
    rw [c_mixed hD (by omega)]
    bv_omega
    have t0 := Int.emod_nonneg (mixF ns (f + 2)) (b := 30) (by decide)
    have t1 := Int.emod_lt_of_pos (mixF ns (f + 2)) (b := 30) (by decide)
    obtain ⟨M, hM, hM2⟩ := nat_of (i := 1 + mixF ns (f + 2) % 30) (n := 31) (by omega)
    rw [hM, rng1 (by omega), RdQ_some, Int.toNat_natCast]
    clear t0 t1 hM
    bv_omega
    refine RunS_form (List.range M) _ (fun pre φ s' => ∃ x7 x8 x9 x10 x11 sup wants may, I32 K N sup wants may ∧ φ = [some (.fls (ns.map .int)), some (.int f), some (.int N), some (.int K), some (.loc s.length), some (.loc (s.length + 1)), some (.loc (s.length + 2)), x7, x8, x9, x10, x11, none, none, none] ∧
      s' = s ++ [.live (.lst (sup.map .int)), .live (.lst (wants.map .int)), .live (.lst (mayD may))]) ⟨_, _, _, _, _, _, _, _, I32.zero K N, rfl, by rw [mayD_rep]⟩ (fun _ _ _ _ => gsNil) ?_ ?_
    · rintro pre k post φ s' hk ⟨x7, x8, x9, x10, x11, sup, wants, may, h, rfl, rfl⟩ _
      obtain ⟨rfl, hlt⟩ := at_range hk
      bv_omega
      rw [c_mixed hD (by omega)]
      have v0 := mixF_nn ns (f + 3 + (pre.length : Int))
      have v1 := mixF_lt ns (f + 3 + (pre.length : Int))
      generalize mixF ns (f + 3 + (pre.length : Int)) = v at *
      have hK0 : 0 ≤ v % (K : Int) ∧ v % (K : Int) < K := ⟨Int.emod_nonneg _ (by omega), Int.emod_lt_of_pos _ (by omega)⟩
      have hN0 : 0 ≤ v / 9 % (N : Int) ∧ v / 9 % (N : Int) < N := ⟨Int.emod_nonneg _ (by omega), Int.emod_lt_of_pos _ (by omega)⟩
      obtain ⟨a, ea, ha⟩ := nat_of hK0
      obtain ⟨g, eg, hg⟩ := nat_of hN0
      bv_omega
      rw [ea, eg]
      refine ⟨by omega, by omega, ?_⟩
      rw [c_amount hD (by omega)]
      have hm := amF_nn (v / 81)
      generalize amF (v / 81) = m at *
      have h1 := h.ls
      have h2 := h.lw
      have h3 := h.lm
      have ga : (sup.map Dt.int)[a]? = some (.int (sup.getD a 0)) := by rw [List.getElem?_map, List.getD_eq_getElem?_getD, List.getElem?_eq_getElem (by omega)]; rfl
      have gg : (wants.map Dt.int)[g]? = some (.int (wants.getD g 0)) := by rw [List.getElem?_map, List.getD_eq_getElem?_getD, List.getElem?_eq_getElem (by omega)]; rfl
      have hrl : (may.getD g []).length ≤ K := nodup_len (h.nd g) (h.lt g)
      obtain ⟨r, r1, r2, r3⟩ := srtSet_nats (row := may.getD g []) (a := a) (by omega)
      bv_omega
      rw [ga]
      bv_omega
      rw [List.length_map, if_pos (by omega)]
      bv_omega
      rw [gg]
      bv_omega
      rw [List.length_map, if_pos (by omega)]
      bv_omega
      rw [mayD_get (by omega)]
      bv_omega
      refine ⟨by rw [List.length_map]; exact hsL (by omega), ?_⟩
      rw [r1]
      bv_omega
      rw [show (mayD may).length = may.length from List.length_map _, if_pos (by omega)]
      bv_omega
      refine ⟨_, _, _, _, _, _, _, _, h.step (m := 1 + m) ha hg (by omega) r2 r3, rfl, ?_⟩
      rw [List.map_set, List.map_set]
      unfold mayD
      rw [List.map_set]
    · rintro φ s' ⟨x7, x8, x9, x10, x11, sup, wants, may, h, rfl, rfl⟩ _
      have I := h.inn
      have hrow := h.row
      have h1 := h.ls
      have h2 := h.lw
      have h3 := h.lm
      obtain ⟨L, A, Z⟩ := told I hT (by omega) (by omega)
      have hmet := met_told h.met Z
      bv_omega
      rw [c_total hT h32 (LA.loc (l := sup.map .int) (by rw [gat0]; rfl)) (LA.loc (l := wants.map .int) (by rw [gat]; rfl)) (LA.loc (l := mayD may) (by rw [gat]; rfl)) I Z (by omega) (by omega) (fun r hr => by have := hrow r hr; omega)]
      bv_omega
      rw [intsOf_map]
      bv_omega
      rw [if_neg (by rw [hmet, smL_sum]; simp)]
      bv_omega
      rw [c_mixed hD (by omega)]
      have hN0 : 0 ≤ mixF ns (f + 40) % (N : Int) ∧ mixF ns (f + 40) % (N : Int) < N := ⟨Int.emod_nonneg _ (by omega), Int.emod_lt_of_pos _ (by omega)⟩
      obtain ⟨b, eb, hb⟩ := nat_of hN0
      bv_omega
      rw [eb]
      refine ⟨by omega, ?_⟩
      bv_omega
      rw [mayD_get (by omega)]
      bv_omega
      have hrl : (may.getD b []).length ≤ K := nodup_len (h.nd b) (h.lt b)
      rw [r_lcn (may.getD b []) natD (fun i => .int (sup.getD i 0)) gsNil]
      · bv_omega
        refine ⟨by rw [List.length_map]; exact hsL (by omega), ?_⟩
        rw [show (may.getD b []).map (fun i => Dt.int (sup.getD i 0)) = ((may.getD b []).map fun i => sup.getD i 0).map .int by rw [List.map_map]; rfl, intsOf_map]
        bv_omega
        rw [List.length_map, if_pos (by omega)]
        bv_omega
        have hc0 : 0 ≤ ((may.getD b []).map fun i => sup.getD i 0).sum := sum_nn fun x hx => by
          obtain ⟨i, _, rfl⟩ := List.mem_map.mp hx
          exact h.sn i
        generalize hcc : ((may.getD b []).map fun i => sup.getD i 0).sum = c at *
        rw [show (wants.map Dt.int).set b (Dt.int (c + 1)) = (wants.set b (c + 1)).map .int from (List.map_set ..).symm]
        have I2 : In sup (wants.set b (c + 1)) may := ⟨I.sn, fun x hx => by
          rcases List.mem_or_eq_of_mem_set hx with q | q
          · exact I.wn x q
          · omega, by rw [List.length_set]; exact I.len, I.lt⟩
        have hw2 : (wants.set b (c + 1)).length = N := by rw [List.length_set, h2]
        have hgb : (wants.set b (c + 1)).getD b 0 = c + 1 := by rw [getD_set _ _ _ (by omega), if_pos rfl]
        obtain ⟨L2, A2, Z2⟩ := told I2 hT (by omega) (by omega)
        have hmore := more_told Z2 h.sn (by omega) (hgb.trans (by rw [hcc]))
        rw [← smL_sum] at hmore
        generalize wants.set b (c + 1) = w2 at *
        rw [c_total hT h32 (LA.loc (l := sup.map .int) (by rw [gat0]; rfl)) (LA.loc (l := w2.map .int) (by rw [gat]; rfl)) (LA.loc (l := mayD may) (by rw [gat]; rfl)) I2 Z2 (by omega) (by omega) (fun r hr => by have := hrow r hr; omega)]
        bv_omega
        rw [intsOf_map]
        bv_omega
        rw [if_neg (by omega)]
        bv_omega
        unfold mayD
        rw [r_lcn may (fun row => .lst (row.map natD)) (fun row => .lst ((row.filter fun i => decide (0 < i)).map natD)) (by rw [gsOn_sl]; exact ⟨by rw [gat]; rfl, gsNil⟩)]
        · rw [show may.map (fun row => Dt.lst ((row.filter fun i => decide (0 < i)).map natD)) = mayD (may.map fun row => row.filter fun i => decide (0 < i)) by unfold mayD; rw [List.map_map]; rfl]
          have hgd : ∀ j, (may.map fun row => row.filter fun i => decide (0 < i)).getD j [] = (may.getD j []).filter fun i => decide (0 < i) := fun j => by
            rw [List.getD_eq_getElem?_getD, List.getD_eq_getElem?_getD, List.getElem?_map]
            cases may[j]? <;> rfl
          have hlen : (may.map fun row => row.filter fun i => decide (0 < i)).length = N := by rw [List.length_map, h3]
          have h0 : ∀ j, 0 ∉ (may.map fun row => row.filter fun i => decide (0 < i)).getD j [] := fun j q => by
            rw [hgd, List.mem_filter] at q
            exact absurd q.2 (by decide)
          have hsub : ∀ r ∈ may.map fun row => row.filter fun i => decide (0 < i), r.length ≤ 9 ∧ ∀ k ∈ r, k < sup.length := fun r hr => by
            obtain ⟨row, hr2, rfl⟩ := List.mem_map.mp hr
            have := hrow row hr2
            refine ⟨Nat.le_trans (List.length_filter_le _ _) (by omega), fun k hk => I.lt row hr2 k (List.mem_filter.mp hk).1⟩
          generalize (may.map fun row => row.filter fun i => decide (0 < i)) = left at *
          have I3 : In sup w2 left := ⟨I.sn, I2.wn, by omega, fun r hr => (hsub r hr).2⟩
          obtain ⟨L3, A3, Z3⟩ := told I3 hT (by omega) (by omega)
          have hgone := gone_told Z3 h.sn h0
          bv_omega
          refine ⟨by show (left.map _).length ≤ _; rw [List.length_map]; exact hsL (by omega), ?_⟩
          rw [c_total hT h32 (LA.loc (l := sup.map .int) (by rw [gat0]; rfl)) (LA.loc (l := w2.map .int) (by rw [gat]; rfl)) (LA.lst (l := mayD left)) I3 Z3 (by omega) (by omega) (fun r hr => (hsub r hr).1)]
          bv_omega
          rw [← List.map_drop, intsOf_map]
          refine ⟨by rw [List.length_map, List.length_drop]; exact hsL (by omega), ?_⟩
          bv_omega
          rw [decide_eq_true hgone]
        · intro row hr
          have := hrow row hr
          refine ⟨_, rfl, ?_⟩
          bv_omega
          rw [r_lcm row natD (fun i => decide (0 < i)) natD gsNil]
          · bv_omega
            rw [List.length_map]
            exact hsL (Nat.le_trans (List.length_filter_le _ _) (by omega))
          · intro i hi
            refine ⟨_, rfl, ?_, fun _ => ?_⟩
            · bv_omega
              rw [Bool.eq_iff_iff, decide_eq_true_eq, decide_eq_true_eq]
              omega
            · bv_omega
      · intro i hi
        have := h.lt b i hi
        refine ⟨_, rfl, ?_⟩
        bv_omega
        rw [show (sup.map Dt.int)[i]? = some (.int (sup.getD i 0)) by rw [List.getElem?_map, List.getD_eq_getElem?_getD, List.getElem?_eq_getElem (by omega)]; rfl]
        bv_omega
  · intro k hk
    refine ⟨_, rfl, ?_⟩
    bv_omega
include hB hD in
theorem k32_run {ns : List Int} (hn : ns.length ≤ 63) {s : Mem} : RunE ((sem R (n + 7)).fn "law" [.fls (ns.map .int)]) s (fun _ _ _ => False) fun d _ => d = .bl true := by
  have hsL : ∀ {m : Nat}, m ≤ 10000000 → m ≤ sizeLine := fun h => Nat.le_of_lt (Nat.lt_of_lt_of_le (by omega : _ < 16777216) (of_eq_true (le_size (Nat.le_refl _))))
  rw [sem_fn h32.law, RunE_callF]
  simp only [F_law]
  bv_omega
  rw [List.length_map, rng3 (by omega), RdQ_some]
  bv_omega
  refine RunS_form _ _ (fun pre φ s' => ∃ x1 x2 x3 x4, φ = [some (.fls (ns.map .int)), x1, x2, x3, x4]) ⟨_, _, _, _, rfl⟩ (fun _ _ _ _ => gsNil) ?_ ?_
  · rintro pre k post φ s' hk ⟨x1, x2, x3, x4, rfl⟩ _
    have hk2 : k ∈ List.range (if (0 : Int) < (ns.length : Int) + 1 then ((ns.length : Int) + 1 - 0 - 1) / 10 + 1 else 0).toNat := by rw [hk]; simp
    have hk3 := List.mem_range.mp hk2
    rw [if_pos (by omega)] at hk3
    have hk4 : (k : Int) ≤ 6 := by omega
    bv_omega
    rw [c_drawn hD (by omega) (by omega)]
    have I := drawn_in ns ((k : Int) * 10 * 7) 6
    have hls : (supF ns ((k : Int) * 10 * 7) 6).length ≤ 6 := supF_len (by omega)
    have hlw : (wanF ns ((k : Int) * 10 * 7) 6).length ≤ 6 := wanF_len (by omega)
    have hrl : ∀ row ∈ mayF ns ((k : Int) * 10 * 7) 6, row.length ≤ 9 := fun row hr => by
      have := (mayF_sub row hr).length_le
      rw [List.length_range] at this
      omega
    generalize supF ns ((k : Int) * 10 * 7) 6 = sup at *
    generalize wanF ns ((k : Int) * 10 * 7) 6 = wants at *
    generalize mayF ns ((k : Int) * 10 * 7) 6 = may at *
    obtain ⟨L, A, Z⟩ := told I hT (by omega) (by omega)
    rw [show may.map (fun row => Dt.lst (row.map natD)) = mayD may from rfl]
    bv_omega
    rw [c_total hT h32 LA.lst LA.lst LA.lst I Z (by omega) (by omega) hrl]
    bv_omega
    rw [c_least hB h32 Z I.len (by omega) (by omega)]
    bv_omega
    rw [c_met hT hD h32 (by omega)]
    bv_omega
    exact ⟨_, _, _, _, rfl⟩
  · rintro φ s' ⟨x1, x2, x3, x4, rfl⟩ _
    bv_omega
end
end QQ

namespace QQ
open PySem L2
def top (i : Nat) : Stmt := PySem.Challenge.pw_purserbook_k32_whole_least_of_all_lists.main.body.getD i (.Pass ⟨0, 0, 0, 0⟩)
abbrev sF_Transport___init__ : Stmt := inClass (top 1) 0
abbrev sF_Transport_reached : Stmt := inClass (top 1) 1
abbrev sF_Transport_change : Stmt := inClass (top 1) 2
abbrev sF_Transport_shift : Stmt := inClass (top 1) 3
abbrev sF_Transport_fill : Stmt := inClass (top 1) 4
abbrev sF_servedV : Stmt := top 2
abbrev sF__law_mixed : Stmt := top 4
abbrev sF__law_amount : Stmt := top 5
abbrev sF__law_drawn : Stmt := top 6
abbrev sF__law_bound : Stmt := top 7
abbrev sF__law_total : Stmt := top 8
abbrev sF__law_least : Stmt := top 9
abbrev sF__law_met_right : Stmt := top 10
abbrev sF_law : Stmt := top 11
def RR : Prg where
  fns := [("Transport.__init__", F_Transport___init__), ("Transport.reached", F_Transport_reached), ("Transport.change", F_Transport_change), ("Transport.shift", F_Transport_shift), ("Transport.fill", F_Transport_fill), ("served", F_servedV), ("_law_mixed", F__law_mixed), ("_law_amount", F__law_amount), ("_law_drawn", F__law_drawn), ("_law_bound", F__law_bound), ("_law_total", F__law_total), ("_law_least", F__law_least), ("_law_met_right", F__law_met_right), ("law", F_law)]
  mt := fun c m => ([(("Transport", "__init__"), "Transport.__init__"), (("Transport", "reached"), "Transport.reached"), (("Transport", "change"), "Transport.change"), (("Transport", "shift"), "Transport.shift"), (("Transport", "fill"), "Transport.fill")] : List ((Str × Str) × Str)).lookup (c, m)
  con := fun x => ([] : List (Str × Dt)).lookup x
  fd := fun c f => decide ((c, f) ∈ ([("Transport", "may"), ("Transport", "there"), ("Transport", "lack"), ("Transport", "given"), ("Transport", "spent")] : List (Str × Str)))
def SS : Sg := { bn := ["len", "list", "sum", "min", "max", "all", "any", "sorted", "dict", "isinstance", "range", "enumerate", "set"], fns := ["served", "_law_mixed", "_law_amount", "_law_drawn", "_law_bound", "_law_total", "_law_least", "_law_met_right"], mks := ["Transport"] }
theorem look {α : Type} : ∀ {l : List (Str × α)} {x : Str} {y : α}, (l.map (·.1)).Nodup → (x, y) ∈ l → l.lookup x = some y
  | (z, u) :: l, x, y, hn, h => by
    obtain ⟨h1, h2⟩ := List.nodup_cons.mp hn
    rcases List.mem_cons.mp h with e | e
    · cases e; simp [List.lookup]
    · have : x ≠ z := fun q => h1 (List.mem_map.mpr ⟨(x, y), e, q⟩)
      rw [List.lookup_cons, beq_eq_false_iff_ne.mpr this]
      exact look h2 e
theorem lmem {κ α : Type} [BEq κ] [LawfulBEq κ] : ∀ {l : List (κ × α)} {x : κ} {y : α}, l.lookup x = some y → (x, y) ∈ l
  | [], _, _, h => by cases h
  | (z, u) :: l, x, y, h => by
    rw [List.lookup_cons] at h
    split at h
    · rename_i q; cases h; rw [eq_of_beq q]; exact List.mem_cons_self ..
    · exact List.mem_cons_of_mem _ (lmem h)
abbrev tabNames : List Str := ["Transport.__init__", "Transport.reached", "Transport.change", "Transport.shift", "Transport.fill", "served", "_law_mixed", "_law_amount", "_law_drawn", "_law_bound", "_law_total", "_law_least", "_law_met_right", "law"]
theorem tab_nd : tabNames.Nodup := by decide +kernel
theorem scF_Transport___init__ : FnScope F_Transport___init__.N F_Transport___init__.ps (defScope sF_Transport___init__) := ⟨rfl, rfl, rfl, by decide +kernel, rfl, by decide +kernel, by decide +kernel⟩
theorem ckF_Transport___init__ : chkSs SS F_Transport___init__.N (defScope sF_Transport___init__) F_Transport___init__.body (defBody sF_Transport___init__) = true := by decide +kernel
theorem scF_Transport_reached : FnScope F_Transport_reached.N F_Transport_reached.ps (defScope sF_Transport_reached) := ⟨rfl, rfl, rfl, by decide +kernel, rfl, by decide +kernel, by decide +kernel⟩
theorem ckF_Transport_reached : chkSs SS F_Transport_reached.N (defScope sF_Transport_reached) F_Transport_reached.body (defBody sF_Transport_reached) = true := by decide +kernel
theorem scF_Transport_change : FnScope F_Transport_change.N F_Transport_change.ps (defScope sF_Transport_change) := ⟨rfl, rfl, rfl, by decide +kernel, rfl, by decide +kernel, by decide +kernel⟩
theorem ckF_Transport_change : chkSs SS F_Transport_change.N (defScope sF_Transport_change) F_Transport_change.body (defBody sF_Transport_change) = true := by decide +kernel
theorem scF_Transport_shift : FnScope F_Transport_shift.N F_Transport_shift.ps (defScope sF_Transport_shift) := ⟨rfl, rfl, rfl, by decide +kernel, rfl, by decide +kernel, by decide +kernel⟩
theorem ckF_Transport_shift : chkSs SS F_Transport_shift.N (defScope sF_Transport_shift) F_Transport_shift.body (defBody sF_Transport_shift) = true := by decide +kernel
theorem scF_Transport_fill : FnScope F_Transport_fill.N F_Transport_fill.ps (defScope sF_Transport_fill) := ⟨rfl, rfl, rfl, by decide +kernel, rfl, by decide +kernel, by decide +kernel⟩
theorem ckF_Transport_fill : chkSs SS F_Transport_fill.N (defScope sF_Transport_fill) F_Transport_fill.body (defBody sF_Transport_fill) = true := by decide +kernel
theorem scF_servedV : FnScope F_servedV.N F_servedV.ps (defScope sF_servedV) := ⟨rfl, rfl, rfl, by decide +kernel, rfl, by decide +kernel, by decide +kernel⟩
theorem ckF_servedV : chkSs SS F_servedV.N (defScope sF_servedV) F_servedV.body (defBody sF_servedV) = true := by decide +kernel
theorem scF__law_mixed : FnScope F__law_mixed.N F__law_mixed.ps (defScope sF__law_mixed) := ⟨rfl, rfl, rfl, by decide +kernel, rfl, by decide +kernel, by decide +kernel⟩
theorem ckF__law_mixed : chkSs SS F__law_mixed.N (defScope sF__law_mixed) F__law_mixed.body (defBody sF__law_mixed) = true := by decide +kernel
theorem scF__law_amount : FnScope F__law_amount.N F__law_amount.ps (defScope sF__law_amount) := ⟨rfl, rfl, rfl, by decide +kernel, rfl, by decide +kernel, by decide +kernel⟩
theorem ckF__law_amount : chkSs SS F__law_amount.N (defScope sF__law_amount) F__law_amount.body (defBody sF__law_amount) = true := by decide +kernel
theorem scF__law_drawn : FnScope F__law_drawn.N F__law_drawn.ps (defScope sF__law_drawn) := ⟨rfl, rfl, rfl, by decide +kernel, rfl, by decide +kernel, by decide +kernel⟩
theorem ckF__law_drawn : chkSs SS F__law_drawn.N (defScope sF__law_drawn) F__law_drawn.body (defBody sF__law_drawn) = true := by decide +kernel
theorem scF__law_bound : FnScope F__law_bound.N F__law_bound.ps (defScope sF__law_bound) := ⟨rfl, rfl, rfl, by decide +kernel, rfl, by decide +kernel, by decide +kernel⟩
theorem ckF__law_bound : chkSs SS F__law_bound.N (defScope sF__law_bound) F__law_bound.body (defBody sF__law_bound) = true := by decide +kernel
theorem scF__law_total : FnScope F__law_total.N F__law_total.ps (defScope sF__law_total) := ⟨rfl, rfl, rfl, by decide +kernel, rfl, by decide +kernel, by decide +kernel⟩
theorem ckF__law_total : chkSs SS F__law_total.N (defScope sF__law_total) F__law_total.body (defBody sF__law_total) = true := by decide +kernel
theorem scF__law_least : FnScope F__law_least.N F__law_least.ps (defScope sF__law_least) := ⟨rfl, rfl, rfl, by decide +kernel, rfl, by decide +kernel, by decide +kernel⟩
theorem ckF__law_least : chkSs SS F__law_least.N (defScope sF__law_least) F__law_least.body (defBody sF__law_least) = true := by decide +kernel
theorem scF__law_met_right : FnScope F__law_met_right.N F__law_met_right.ps (defScope sF__law_met_right) := ⟨rfl, rfl, rfl, by decide +kernel, rfl, by decide +kernel, by decide +kernel⟩
theorem ckF__law_met_right : chkSs SS F__law_met_right.N (defScope sF__law_met_right) F__law_met_right.body (defBody sF__law_met_right) = true := by decide +kernel
theorem scF_law : FnScope F_law.N F_law.ps (defScope sF_law) := ⟨rfl, rfl, rfl, by decide +kernel, rfl, by decide +kernel, by decide +kernel⟩
theorem ckF_law : chkSs SS F_law.N (defScope sF_law) F_law.body (defBody sF_law) = true := by decide +kernel
set_option maxHeartbeats 0 in
theorem all_mk {P : Program} {w : World} {K : PySem.W.Frag} {h : Heap} {mg : Str → Option Value} {oc0 kV0 dc0 pm0 cd0 ct0 : Value} {od0 an0 : Option Addr} {sl0 : Array (Option Value)} {f0 : Addr} {oc1 kV1 dc1 pm1 cd1 ct1 : Value} {od1 an1 : Option Addr} {sl1 : Array (Option Value)} {f1 : Addr} {oc2 kV2 dc2 pm2 cd2 ct2 : Value} {od2 an2 : Option Addr} {sl2 : Array (Option Value)} {f2 : Addr} {oc3 kV3 dc3 pm3 cd3 ct3 : Value} {od3 an3 : Option Addr} {sl3 : Array (Option Value)} {f3 : Addr} {oc4 kV4 dc4 pm4 cd4 ct4 : Value} {od4 an4 : Option Addr} {sl4 : Array (Option Value)} {f4 : Addr} {oc5 kV5 dc5 pm5 cd5 ct5 : Value} {od5 an5 : Option Addr} {sl5 : Array (Option Value)} {f5 : Addr} {oc6 kV6 dc6 pm6 cd6 ct6 : Value} {od6 an6 : Option Addr} {sl6 : Array (Option Value)} {f6 : Addr} {oc7 kV7 dc7 pm7 cd7 ct7 : Value} {od7 an7 : Option Addr} {sl7 : Array (Option Value)} {f7 : Addr} {oc8 kV8 dc8 pm8 cd8 ct8 : Value} {od8 an8 : Option Addr} {sl8 : Array (Option Value)} {f8 : Addr} {oc9 kV9 dc9 pm9 cd9 ct9 : Value} {od9 an9 : Option Addr} {sl9 : Array (Option Value)} {f9 : Addr} {oc10 kV10 dc10 pm10 cd10 ct10 : Value} {od10 an10 : Option Addr} {sl10 : Array (Option Value)} {f10 : Addr} {oc11 kV11 dc11 pm11 cd11 ct11 : Value} {od11 an11 : Option Addr} {sl11 : Array (Option Value)} {f11 : Addr} {oc12 kV12 dc12 pm12 cd12 ct12 : Value} {od12 an12 : Option Addr} {sl12 : Array (Option Value)} {f12 : Addr} {oc13 kV13 dc13 pm13 cd13 ct13 : Value} {od13 an13 : Option Addr} {sl13 : Array (Option Value)} {f13 : Addr} {C0 : Addr}
    (X : K.In h) (G : h.Ns mainGlobals mg)
    (aC0 : PySem.W.nsIn K mainGlobals "Transport" = some (some (.ref C0)))
    (a0 : PySem.W.findIn K (.ref C0) "__init__" = some (some (.ref f0)))
    (i0 : PySem.W.isFn K (.ref f0) = true)
    (l0 : K.lookup f0 = some ⟨oc0, od0, .func (PySem.W.fnOf "__init__" "Transport.__init__" (defArgs sF_Transport___init__) (defBody sF_Transport___init__) (defScope sF_Transport___init__) .none kV0 dc0 pm0 an0 cd0 ct0), sl0⟩)
    (c0 : PySem.W.codeIn K cd0 "Transport.__init__" = true)
    (k0 : PySem.W.keepIn K (.ref f0) = true)
    (a1 : PySem.W.findIn K (.ref C0) "reached" = some (some (.ref f1)))
    (i1 : PySem.W.isFn K (.ref f1) = true)
    (l1 : K.lookup f1 = some ⟨oc1, od1, .func (PySem.W.fnOf "reached" "Transport.reached" (defArgs sF_Transport_reached) (defBody sF_Transport_reached) (defScope sF_Transport_reached) .none kV1 dc1 pm1 an1 cd1 ct1), sl1⟩)
    (c1 : PySem.W.codeIn K cd1 "Transport.reached" = true)
    (k1 : PySem.W.keepIn K (.ref f1) = true)
    (a2 : PySem.W.findIn K (.ref C0) "change" = some (some (.ref f2)))
    (i2 : PySem.W.isFn K (.ref f2) = true)
    (l2 : K.lookup f2 = some ⟨oc2, od2, .func (PySem.W.fnOf "change" "Transport.change" (defArgs sF_Transport_change) (defBody sF_Transport_change) (defScope sF_Transport_change) .none kV2 dc2 pm2 an2 cd2 ct2), sl2⟩)
    (c2 : PySem.W.codeIn K cd2 "Transport.change" = true)
    (k2 : PySem.W.keepIn K (.ref f2) = true)
    (a3 : PySem.W.findIn K (.ref C0) "shift" = some (some (.ref f3)))
    (i3 : PySem.W.isFn K (.ref f3) = true)
    (l3 : K.lookup f3 = some ⟨oc3, od3, .func (PySem.W.fnOf "shift" "Transport.shift" (defArgs sF_Transport_shift) (defBody sF_Transport_shift) (defScope sF_Transport_shift) .none kV3 dc3 pm3 an3 cd3 ct3), sl3⟩)
    (c3 : PySem.W.codeIn K cd3 "Transport.shift" = true)
    (k3 : PySem.W.keepIn K (.ref f3) = true)
    (a4 : PySem.W.findIn K (.ref C0) "fill" = some (some (.ref f4)))
    (i4 : PySem.W.isFn K (.ref f4) = true)
    (l4 : K.lookup f4 = some ⟨oc4, od4, .func (PySem.W.fnOf "fill" "Transport.fill" (defArgs sF_Transport_fill) (defBody sF_Transport_fill) (defScope sF_Transport_fill) .none kV4 dc4 pm4 an4 cd4 ct4), sl4⟩)
    (c4 : PySem.W.codeIn K cd4 "Transport.fill" = true)
    (k4 : PySem.W.keepIn K (.ref f4) = true)
    (a5 : PySem.W.nsIn K mainGlobals "served" = some (some (.ref f5)))
    (l5 : K.lookup f5 = some ⟨oc5, od5, .func (PySem.W.fnOf "served" "served" (defArgs sF_servedV) (defBody sF_servedV) (defScope sF_servedV) .none kV5 dc5 pm5 an5 cd5 ct5), sl5⟩)
    (c5 : PySem.W.codeIn K cd5 "served" = true)
    (k5 : PySem.W.keepIn K (.ref f5) = true)
    (a6 : PySem.W.nsIn K mainGlobals "_law_mixed" = some (some (.ref f6)))
    (l6 : K.lookup f6 = some ⟨oc6, od6, .func (PySem.W.fnOf "_law_mixed" "_law_mixed" (defArgs sF__law_mixed) (defBody sF__law_mixed) (defScope sF__law_mixed) .none kV6 dc6 pm6 an6 cd6 ct6), sl6⟩)
    (c6 : PySem.W.codeIn K cd6 "_law_mixed" = true)
    (k6 : PySem.W.keepIn K (.ref f6) = true)
    (a7 : PySem.W.nsIn K mainGlobals "_law_amount" = some (some (.ref f7)))
    (l7 : K.lookup f7 = some ⟨oc7, od7, .func (PySem.W.fnOf "_law_amount" "_law_amount" (defArgs sF__law_amount) (defBody sF__law_amount) (defScope sF__law_amount) .none kV7 dc7 pm7 an7 cd7 ct7), sl7⟩)
    (c7 : PySem.W.codeIn K cd7 "_law_amount" = true)
    (k7 : PySem.W.keepIn K (.ref f7) = true)
    (a8 : PySem.W.nsIn K mainGlobals "_law_drawn" = some (some (.ref f8)))
    (l8 : K.lookup f8 = some ⟨oc8, od8, .func (PySem.W.fnOf "_law_drawn" "_law_drawn" (defArgs sF__law_drawn) (defBody sF__law_drawn) (defScope sF__law_drawn) .none kV8 dc8 pm8 an8 cd8 ct8), sl8⟩)
    (c8 : PySem.W.codeIn K cd8 "_law_drawn" = true)
    (k8 : PySem.W.keepIn K (.ref f8) = true)
    (a9 : PySem.W.nsIn K mainGlobals "_law_bound" = some (some (.ref f9)))
    (l9 : K.lookup f9 = some ⟨oc9, od9, .func (PySem.W.fnOf "_law_bound" "_law_bound" (defArgs sF__law_bound) (defBody sF__law_bound) (defScope sF__law_bound) .none kV9 dc9 pm9 an9 cd9 ct9), sl9⟩)
    (c9 : PySem.W.codeIn K cd9 "_law_bound" = true)
    (k9 : PySem.W.keepIn K (.ref f9) = true)
    (a10 : PySem.W.nsIn K mainGlobals "_law_total" = some (some (.ref f10)))
    (l10 : K.lookup f10 = some ⟨oc10, od10, .func (PySem.W.fnOf "_law_total" "_law_total" (defArgs sF__law_total) (defBody sF__law_total) (defScope sF__law_total) .none kV10 dc10 pm10 an10 cd10 ct10), sl10⟩)
    (c10 : PySem.W.codeIn K cd10 "_law_total" = true)
    (k10 : PySem.W.keepIn K (.ref f10) = true)
    (a11 : PySem.W.nsIn K mainGlobals "_law_least" = some (some (.ref f11)))
    (l11 : K.lookup f11 = some ⟨oc11, od11, .func (PySem.W.fnOf "_law_least" "_law_least" (defArgs sF__law_least) (defBody sF__law_least) (defScope sF__law_least) .none kV11 dc11 pm11 an11 cd11 ct11), sl11⟩)
    (c11 : PySem.W.codeIn K cd11 "_law_least" = true)
    (k11 : PySem.W.keepIn K (.ref f11) = true)
    (a12 : PySem.W.nsIn K mainGlobals "_law_met_right" = some (some (.ref f12)))
    (l12 : K.lookup f12 = some ⟨oc12, od12, .func (PySem.W.fnOf "_law_met_right" "_law_met_right" (defArgs sF__law_met_right) (defBody sF__law_met_right) (defScope sF__law_met_right) .none kV12 dc12 pm12 an12 cd12 ct12), sl12⟩)
    (c12 : PySem.W.codeIn K cd12 "_law_met_right" = true)
    (k12 : PySem.W.keepIn K (.ref f12) = true)
    (a13 : PySem.W.nsIn K mainGlobals "law" = some (some (.ref f13)))
    (l13 : K.lookup f13 = some ⟨oc13, od13, .func (PySem.W.fnOf "law" "law" (defArgs sF_law) (defBody sF_law) (defScope sF_law) .none kV13 dc13 pm13 an13 cd13 ct13), sl13⟩)
    (c13 : PySem.W.codeIn K cd13 "law" = true)
    (k13 : PySem.W.keepIn K (.ref f13) = true)
    (pg0 : PySem.W.plainGet K C0 Str.empty = true)
    (hd0 : PySem.W.hasDictIn K C0 = true)
    (po0 : PySem.W.plainOver K C0 = true)
    (sa0 : PySem.W.findIn K (.ref C0) "__setattr__" = some (some (.builtin "object.__setattr__")))
    (mk0 : PySem.W.makesIn K C0 = true)
    (kc0 : PySem.W.keepIn K (.ref C0) = true)
    (n0_0 : PySem.W.findIn K (.ref C0) "may" = some none)
    (n0_1 : PySem.W.findIn K (.ref C0) "there" = some none)
    (n0_2 : PySem.W.findIn K (.ref C0) "lack" = some none)
    (n0_3 : PySem.W.findIn K (.ref C0) "given" = some none)
    (n0_4 : PySem.W.findIn K (.ref C0) "spent" = some none)
    (b0 : PySem.W.nsIn K mainGlobals "len" = some none)
    (b1 : PySem.W.nsIn K mainGlobals "list" = some none)
    (b2 : PySem.W.nsIn K mainGlobals "sum" = some none)
    (b3 : PySem.W.nsIn K mainGlobals "min" = some none)
    (b4 : PySem.W.nsIn K mainGlobals "max" = some none)
    (b5 : PySem.W.nsIn K mainGlobals "all" = some none)
    (b6 : PySem.W.nsIn K mainGlobals "any" = some none)
    (b7 : PySem.W.nsIn K mainGlobals "sorted" = some none)
    (b8 : PySem.W.nsIn K mainGlobals "dict" = some none)
    (b9 : PySem.W.nsIn K mainGlobals "isinstance" = some none)
    (b10 : PySem.W.nsIn K mainGlobals "range" = some none)
    (b11 : PySem.W.nsIn K mainGlobals "enumerate" = some none)
    (b12 : PySem.W.nsIn K mainGlobals "set" = some none)
    : ∃ at_ : Str → Addr, mg "law" = some (.ref (at_ "law")) ∧ ∀ base, Txt P w K mg base RR SS at_ := by
  have hl : ∀ (x : Str) (f : Addr), (x, f) ∈ ([("Transport.__init__", f0), ("Transport.reached", f1), ("Transport.change", f2), ("Transport.shift", f3), ("Transport.fill", f4), ("served", f5), ("_law_mixed", f6), ("_law_amount", f7), ("_law_drawn", f8), ("_law_bound", f9), ("_law_total", f10), ("_law_least", f11), ("_law_met_right", f12), ("law", f13)] : List (Str × Addr)) → (([("Transport.__init__", f0), ("Transport.reached", f1), ("Transport.change", f2), ("Transport.shift", f3), ("Transport.fill", f4), ("served", f5), ("_law_mixed", f6), ("_law_amount", f7), ("_law_drawn", f8), ("_law_bound", f9), ("_law_total", f10), ("_law_least", f11), ("_law_met_right", f12), ("law", f13)] : List (Str × Addr)).lookup x).getD 0 = f := fun x f hm => by rw [look (l := [("Transport.__init__", f0), ("Transport.reached", f1), ("Transport.change", f2), ("Transport.shift", f3), ("Transport.fill", f4), ("served", f5), ("_law_mixed", f6), ("_law_amount", f7), ("_law_drawn", f8), ("_law_bound", f9), ("_law_total", f10), ("_law_least", f11), ("_law_met_right", f12), ("law", f13)]) tab_nd hm]; rfl
  generalize hat : (fun x : Str => (([("Transport.__init__", f0), ("Transport.reached", f1), ("Transport.change", f2), ("Transport.shift", f3), ("Transport.fill", f4), ("served", f5), ("_law_mixed", f6), ("_law_amount", f7), ("_law_drawn", f8), ("_law_bound", f9), ("_law_total", f10), ("_law_least", f11), ("_law_met_right", f12), ("law", f13)] : List (Str × Addr)).lookup x).getD 0) = at_
  have hl : ∀ (x : Str) (f : Addr), (x, f) ∈ ([("Transport.__init__", f0), ("Transport.reached", f1), ("Transport.change", f2), ("Transport.shift", f3), ("Transport.fill", f4), ("served", f5), ("_law_mixed", f6), ("_law_amount", f7), ("_law_drawn", f8), ("_law_bound", f9), ("_law_total", f10), ("_law_least", f11), ("_law_met_right", f12), ("law", f13)] : List (Str × Addr)) → at_ x = f := fun x f hm => by rw [← hat]; exact hl x f hm
  have e0 : at_ "Transport.__init__" = f0 := hl _ _ (.head _)
  have e1 : at_ "Transport.reached" = f1 := hl _ _ (.tail _ (.head _))
  have e2 : at_ "Transport.change" = f2 := hl _ _ (.tail _ (.tail _ (.head _)))
  have e3 : at_ "Transport.shift" = f3 := hl _ _ (.tail _ (.tail _ (.tail _ (.head _))))
  have e4 : at_ "Transport.fill" = f4 := hl _ _ (.tail _ (.tail _ (.tail _ (.tail _ (.head _)))))
  have e5 : at_ "served" = f5 := hl _ _ (.tail _ (.tail _ (.tail _ (.tail _ (.tail _ (.head _))))))
  have e6 : at_ "_law_mixed" = f6 := hl _ _ (.tail _ (.tail _ (.tail _ (.tail _ (.tail _ (.tail _ (.head _)))))))
  have e7 : at_ "_law_amount" = f7 := hl _ _ (.tail _ (.tail _ (.tail _ (.tail _ (.tail _ (.tail _ (.tail _ (.head _))))))))
  have e8 : at_ "_law_drawn" = f8 := hl _ _ (.tail _ (.tail _ (.tail _ (.tail _ (.tail _ (.tail _ (.tail _ (.tail _ (.head _)))))))))
  have e9 : at_ "_law_bound" = f9 := hl _ _ (.tail _ (.tail _ (.tail _ (.tail _ (.tail _ (.tail _ (.tail _ (.tail _ (.tail _ (.head _))))))))))
  have e10 : at_ "_law_total" = f10 := hl _ _ (.tail _ (.tail _ (.tail _ (.tail _ (.tail _ (.tail _ (.tail _ (.tail _ (.tail _ (.tail _ (.head _)))))))))))
  have e11 : at_ "_law_least" = f11 := hl _ _ (.tail _ (.tail _ (.tail _ (.tail _ (.tail _ (.tail _ (.tail _ (.tail _ (.tail _ (.tail _ (.tail _ (.head _))))))))))))
  have e12 : at_ "_law_met_right" = f12 := hl _ _ (.tail _ (.tail _ (.tail _ (.tail _ (.tail _ (.tail _ (.tail _ (.tail _ (.tail _ (.tail _ (.tail _ (.tail _ (.head _)))))))))))))
  have e13 : at_ "law" = f13 := hl _ _ (.tail _ (.tail _ (.tail _ (.tail _ (.tail _ (.tail _ (.tail _ (.tail _ (.tail _ (.tail _ (.tail _ (.tail _ (.tail _ (.head _))))))))))))))
  refine ⟨at_, by rw [e13]; exact PySem.W.mg_of X G a13, fun base => ?_⟩
  refine ⟨?fns, ?bn, ?glob, ?mt, ?mks, ?fd, ?con⟩
  case fns =>
    intro x F h0
    have hm := lmem h0
    unfold RR at hm
    rcases List.mem_cons.mp hm with hm | hm
    · obtain ⟨rfl, rfl⟩ := Prod.mk.inj hm
      refine ⟨"__init__", sF_Transport___init__, _, by rw [e0]; exact fun_mk (st := sF_Transport___init__) l0 c0 k0, scF_Transport___init__, ckF_Transport___init__, fun us hus => ?_, fun d hd hd2 => absurd hd2 (by show ¬ d ≤ 0; omega)⟩
      match us, hus with | [_, _, _, _], _ => rfl
    rcases List.mem_cons.mp hm with hm | hm
    · obtain ⟨rfl, rfl⟩ := Prod.mk.inj hm
      refine ⟨"reached", sF_Transport_reached, _, by rw [e1]; exact fun_mk (st := sF_Transport_reached) l1 c1 k1, scF_Transport_reached, ckF_Transport_reached, fun us hus => ?_, fun d hd hd2 => absurd hd2 (by show ¬ d ≤ 0; omega)⟩
      match us, hus with | [_, _, _], _ => rfl
    rcases List.mem_cons.mp hm with hm | hm
    · obtain ⟨rfl, rfl⟩ := Prod.mk.inj hm
      refine ⟨"change", sF_Transport_change, _, by rw [e2]; exact fun_mk (st := sF_Transport_change) l2 c2 k2, scF_Transport_change, ckF_Transport_change, fun us hus => ?_, fun d hd hd2 => absurd hd2 (by show ¬ d ≤ 0; omega)⟩
      match us, hus with | [_, _, _, _], _ => rfl
    rcases List.mem_cons.mp hm with hm | hm
    · obtain ⟨rfl, rfl⟩ := Prod.mk.inj hm
      refine ⟨"shift", sF_Transport_shift, _, by rw [e3]; exact fun_mk (st := sF_Transport_shift) l3 c3 k3, scF_Transport_shift, ckF_Transport_shift, fun us hus => ?_, fun d hd hd2 => absurd hd2 (by show ¬ d ≤ 0; omega)⟩
      match us, hus with | [_, _, _], _ => rfl
    rcases List.mem_cons.mp hm with hm | hm
    · obtain ⟨rfl, rfl⟩ := Prod.mk.inj hm
      refine ⟨"fill", sF_Transport_fill, _, by rw [e4]; exact fun_mk (st := sF_Transport_fill) l4 c4 k4, scF_Transport_fill, ckF_Transport_fill, fun us hus => ?_, fun d hd hd2 => absurd hd2 (by show ¬ d ≤ 0; omega)⟩
      match us, hus with | [_, _], _ => rfl
    rcases List.mem_cons.mp hm with hm | hm
    · obtain ⟨rfl, rfl⟩ := Prod.mk.inj hm
      refine ⟨"served", sF_servedV, _, by rw [e5]; exact fun_mk (st := sF_servedV) l5 c5 k5, scF_servedV, ckF_servedV, fun us hus => ?_, fun d hd hd2 => absurd hd2 (by show ¬ d ≤ 0; omega)⟩
      match us, hus with | [_, _, _], _ => rfl
    rcases List.mem_cons.mp hm with hm | hm
    · obtain ⟨rfl, rfl⟩ := Prod.mk.inj hm
      refine ⟨"_law_mixed", sF__law_mixed, _, by rw [e6]; exact fun_mk (st := sF__law_mixed) l6 c6 k6, scF__law_mixed, ckF__law_mixed, fun us hus => ?_, fun d hd hd2 => absurd hd2 (by show ¬ d ≤ 0; omega)⟩
      match us, hus with | [_, _], _ => rfl
    rcases List.mem_cons.mp hm with hm | hm
    · obtain ⟨rfl, rfl⟩ := Prod.mk.inj hm
      refine ⟨"_law_amount", sF__law_amount, _, by rw [e7]; exact fun_mk (st := sF__law_amount) l7 c7 k7, scF__law_amount, ckF__law_amount, fun us hus => ?_, fun d hd hd2 => absurd hd2 (by show ¬ d ≤ 0; omega)⟩
      match us, hus with | [_], _ => rfl
    rcases List.mem_cons.mp hm with hm | hm
    · obtain ⟨rfl, rfl⟩ := Prod.mk.inj hm
      refine ⟨"_law_drawn", sF__law_drawn, _, by rw [e8]; exact fun_mk (st := sF__law_drawn) l8 c8 k8, scF__law_drawn, ckF__law_drawn, fun us hus => ?_, fun d hd hd2 => absurd hd2 (by show ¬ d ≤ 0; omega)⟩
      match us, hus with | [_, _, _], _ => rfl
    rcases List.mem_cons.mp hm with hm | hm
    · obtain ⟨rfl, rfl⟩ := Prod.mk.inj hm
      refine ⟨"_law_bound", sF__law_bound, _, by rw [e9]; exact fun_mk (st := sF__law_bound) l9 c9 k9, scF__law_bound, ckF__law_bound, fun us hus => ?_, fun d hd hd2 => absurd hd2 (by show ¬ d ≤ 0; omega)⟩
      match us, hus with | [_, _, _, _], _ => rfl
    rcases List.mem_cons.mp hm with hm | hm
    · obtain ⟨rfl, rfl⟩ := Prod.mk.inj hm
      refine ⟨"_law_total", sF__law_total, _, by rw [e10]; exact fun_mk (st := sF__law_total) l10 c10 k10, scF__law_total, ckF__law_total, fun us hus => ?_, fun d hd hd2 => absurd hd2 (by show ¬ d ≤ 0; omega)⟩
      match us, hus with | [_, _, _], _ => rfl
    rcases List.mem_cons.mp hm with hm | hm
    · obtain ⟨rfl, rfl⟩ := Prod.mk.inj hm
      refine ⟨"_law_least", sF__law_least, _, by rw [e11]; exact fun_mk (st := sF__law_least) l11 c11 k11, scF__law_least, ckF__law_least, fun us hus => ?_, fun d hd hd2 => absurd hd2 (by show ¬ d ≤ 0; omega)⟩
      match us, hus with | [_, _, _], _ => rfl
    rcases List.mem_cons.mp hm with hm | hm
    · obtain ⟨rfl, rfl⟩ := Prod.mk.inj hm
      refine ⟨"_law_met_right", sF__law_met_right, _, by rw [e12]; exact fun_mk (st := sF__law_met_right) l12 c12 k12, scF__law_met_right, ckF__law_met_right, fun us hus => ?_, fun d hd hd2 => absurd hd2 (by show ¬ d ≤ 0; omega)⟩
      match us, hus with | [_, _], _ => rfl
    rcases List.mem_cons.mp hm with hm | hm
    · obtain ⟨rfl, rfl⟩ := Prod.mk.inj hm
      refine ⟨"law", sF_law, _, by rw [e13]; exact fun_mk (st := sF_law) l13 c13 k13, scF_law, ckF_law, fun us hus => ?_, fun d hd hd2 => absurd hd2 (by show ¬ d ≤ 0; omega)⟩
      match us, hus with | [_], _ => rfl
    · cases hm
  case bn =>
    intro x hx
    rcases List.mem_cons.mp hx with rfl | hx
    · exact ⟨PySem.W.mg_none_of X G b0, by decide +kernel, by decide +kernel⟩
    rcases List.mem_cons.mp hx with rfl | hx
    · exact ⟨PySem.W.mg_none_of X G b1, by decide +kernel, by decide +kernel⟩
    rcases List.mem_cons.mp hx with rfl | hx
    · exact ⟨PySem.W.mg_none_of X G b2, by decide +kernel, by decide +kernel⟩
    rcases List.mem_cons.mp hx with rfl | hx
    · exact ⟨PySem.W.mg_none_of X G b3, by decide +kernel, by decide +kernel⟩
    rcases List.mem_cons.mp hx with rfl | hx
    · exact ⟨PySem.W.mg_none_of X G b4, by decide +kernel, by decide +kernel⟩
    rcases List.mem_cons.mp hx with rfl | hx
    · exact ⟨PySem.W.mg_none_of X G b5, by decide +kernel, by decide +kernel⟩
    rcases List.mem_cons.mp hx with rfl | hx
    · exact ⟨PySem.W.mg_none_of X G b6, by decide +kernel, by decide +kernel⟩
    rcases List.mem_cons.mp hx with rfl | hx
    · exact ⟨PySem.W.mg_none_of X G b7, by decide +kernel, by decide +kernel⟩
    rcases List.mem_cons.mp hx with rfl | hx
    · exact ⟨PySem.W.mg_none_of X G b8, by decide +kernel, by decide +kernel⟩
    rcases List.mem_cons.mp hx with rfl | hx
    · exact ⟨PySem.W.mg_none_of X G b9, by decide +kernel, by decide +kernel⟩
    rcases List.mem_cons.mp hx with rfl | hx
    · exact ⟨PySem.W.mg_none_of X G b10, by decide +kernel, by decide +kernel⟩
    rcases List.mem_cons.mp hx with rfl | hx
    · exact ⟨PySem.W.mg_none_of X G b11, by decide +kernel, by decide +kernel⟩
    rcases List.mem_cons.mp hx with rfl | hx
    · exact ⟨PySem.W.mg_none_of X G b12, by decide +kernel, by decide +kernel⟩
    · cases hx
  case glob =>
    intro x hx
    rcases List.mem_cons.mp hx with rfl | hx
    · exact ⟨by decide +kernel, by rw [e5]; exact PySem.W.mg_of X G a5, by rw [e5]; exact k5⟩
    rcases List.mem_cons.mp hx with rfl | hx
    · exact ⟨by decide +kernel, by rw [e6]; exact PySem.W.mg_of X G a6, by rw [e6]; exact k6⟩
    rcases List.mem_cons.mp hx with rfl | hx
    · exact ⟨by decide +kernel, by rw [e7]; exact PySem.W.mg_of X G a7, by rw [e7]; exact k7⟩
    rcases List.mem_cons.mp hx with rfl | hx
    · exact ⟨by decide +kernel, by rw [e8]; exact PySem.W.mg_of X G a8, by rw [e8]; exact k8⟩
    rcases List.mem_cons.mp hx with rfl | hx
    · exact ⟨by decide +kernel, by rw [e9]; exact PySem.W.mg_of X G a9, by rw [e9]; exact k9⟩
    rcases List.mem_cons.mp hx with rfl | hx
    · exact ⟨by decide +kernel, by rw [e10]; exact PySem.W.mg_of X G a10, by rw [e10]; exact k10⟩
    rcases List.mem_cons.mp hx with rfl | hx
    · exact ⟨by decide +kernel, by rw [e11]; exact PySem.W.mg_of X G a11, by rw [e11]; exact k11⟩
    rcases List.mem_cons.mp hx with rfl | hx
    · exact ⟨by decide +kernel, by rw [e12]; exact PySem.W.mg_of X G a12, by rw [e12]; exact k12⟩
    · cases hx
  case mt =>
    intro c m q h0 C hC
    unfold RR at h0
    have hm := lmem h0
    rcases List.mem_cons.mp hm with hm | hm
    · obtain ⟨e, rfl⟩ := Prod.mk.inj hm
      obtain ⟨rfl, rfl⟩ := Prod.mk.inj e
      rw [PySem.W.mg_of X G aC0] at hC
      cases hC
      exact ⟨⟨pg0, hd0, po0, sa0⟩, by rw [e0]; exact ⟨a0, i0, k0⟩⟩
    rcases List.mem_cons.mp hm with hm | hm
    · obtain ⟨e, rfl⟩ := Prod.mk.inj hm
      obtain ⟨rfl, rfl⟩ := Prod.mk.inj e
      rw [PySem.W.mg_of X G aC0] at hC
      cases hC
      exact ⟨⟨pg0, hd0, po0, sa0⟩, by rw [e1]; exact ⟨a1, i1, k1⟩⟩
    rcases List.mem_cons.mp hm with hm | hm
    · obtain ⟨e, rfl⟩ := Prod.mk.inj hm
      obtain ⟨rfl, rfl⟩ := Prod.mk.inj e
      rw [PySem.W.mg_of X G aC0] at hC
      cases hC
      exact ⟨⟨pg0, hd0, po0, sa0⟩, by rw [e2]; exact ⟨a2, i2, k2⟩⟩
    rcases List.mem_cons.mp hm with hm | hm
    · obtain ⟨e, rfl⟩ := Prod.mk.inj hm
      obtain ⟨rfl, rfl⟩ := Prod.mk.inj e
      rw [PySem.W.mg_of X G aC0] at hC
      cases hC
      exact ⟨⟨pg0, hd0, po0, sa0⟩, by rw [e3]; exact ⟨a3, i3, k3⟩⟩
    rcases List.mem_cons.mp hm with hm | hm
    · obtain ⟨e, rfl⟩ := Prod.mk.inj hm
      obtain ⟨rfl, rfl⟩ := Prod.mk.inj e
      rw [PySem.W.mg_of X G aC0] at hC
      cases hC
      exact ⟨⟨pg0, hd0, po0, sa0⟩, by rw [e4]; exact ⟨a4, i4, k4⟩⟩
    · cases hm
  case mks =>
    intro x hx
    rcases List.mem_cons.mp hx with rfl | hx
    · refine ⟨by decide +kernel, C0, PySem.W.mg_of X G aC0, kc0, fun q hq => ?_⟩
      have eq : RR.mt "Transport" "__init__" = some "Transport.__init__" := by decide +kernel
      rw [eq] at hq
      cases hq
      rw [e0]
      exact ⟨mk0, a0, i0, kc0⟩
    · cases hx
  case fd =>
    intro c C f h0 hC
    have hm := of_decide_eq_true h0
    rcases List.mem_cons.mp hm with hm | hm
    · obtain ⟨rfl, rfl⟩ := Prod.mk.inj hm
      rw [PySem.W.mg_of X G aC0] at hC
      cases hC
      exact ⟨⟨pg0, hd0, po0, sa0⟩, n0_0⟩
    rcases List.mem_cons.mp hm with hm | hm
    · obtain ⟨rfl, rfl⟩ := Prod.mk.inj hm
      rw [PySem.W.mg_of X G aC0] at hC
      cases hC
      exact ⟨⟨pg0, hd0, po0, sa0⟩, n0_1⟩
    rcases List.mem_cons.mp hm with hm | hm
    · obtain ⟨rfl, rfl⟩ := Prod.mk.inj hm
      rw [PySem.W.mg_of X G aC0] at hC
      cases hC
      exact ⟨⟨pg0, hd0, po0, sa0⟩, n0_2⟩
    rcases List.mem_cons.mp hm with hm | hm
    · obtain ⟨rfl, rfl⟩ := Prod.mk.inj hm
      rw [PySem.W.mg_of X G aC0] at hC
      cases hC
      exact ⟨⟨pg0, hd0, po0, sa0⟩, n0_3⟩
    rcases List.mem_cons.mp hm with hm | hm
    · obtain ⟨rfl, rfl⟩ := Prod.mk.inj hm
      rw [PySem.W.mg_of X G aC0] at hC
      cases hC
      exact ⟨⟨pg0, hd0, po0, sa0⟩, n0_4⟩
    · cases hm
  case con =>
    intro x d h0
    unfold RR at h0
    have hm := lmem h0
    · cases hm
theorem hasT : HasT RR := ⟨rfl, rfl, rfl, rfl, rfl, rfl, rfl, rfl, rfl, rfl, rfl, rfl, rfl, rfl, rfl⟩
theorem hasD : HasD RR := ⟨rfl, rfl, rfl, rfl⟩
theorem hasB : HasB RR := ⟨rfl⟩
theorem has32 : Has32 RR := ⟨rfl, rfl, rfl, rfl, rfl⟩
theorem law_math (ns : List Int) (hn : ns.length ≤ 63) (hb : ∀ z ∈ ns, Builtin.Int.intBits z ≤ 1048576) : RunE ((sem RR 7).fn "law" [.fls (ns.map .int)]) [] (fun _ _ _ => False) fun d _ => d = .bl true := k32_run hasT hasD hasB has32 hn
set_option maxHeartbeats 0 in
theorem all_fin {P : Program} {w : World} {K : PySem.W.Frag} {h : Heap} {mg : Str → Option Value} {fa : Addr} {oc0 kV0 dc0 pm0 cd0 ct0 : Value} {od0 an0 : Option Addr} {sl0 : Array (Option Value)} {f0 : Addr} {oc1 kV1 dc1 pm1 cd1 ct1 : Value} {od1 an1 : Option Addr} {sl1 : Array (Option Value)} {f1 : Addr} {oc2 kV2 dc2 pm2 cd2 ct2 : Value} {od2 an2 : Option Addr} {sl2 : Array (Option Value)} {f2 : Addr} {oc3 kV3 dc3 pm3 cd3 ct3 : Value} {od3 an3 : Option Addr} {sl3 : Array (Option Value)} {f3 : Addr} {oc4 kV4 dc4 pm4 cd4 ct4 : Value} {od4 an4 : Option Addr} {sl4 : Array (Option Value)} {f4 : Addr} {oc5 kV5 dc5 pm5 cd5 ct5 : Value} {od5 an5 : Option Addr} {sl5 : Array (Option Value)} {f5 : Addr} {oc6 kV6 dc6 pm6 cd6 ct6 : Value} {od6 an6 : Option Addr} {sl6 : Array (Option Value)} {f6 : Addr} {oc7 kV7 dc7 pm7 cd7 ct7 : Value} {od7 an7 : Option Addr} {sl7 : Array (Option Value)} {f7 : Addr} {oc8 kV8 dc8 pm8 cd8 ct8 : Value} {od8 an8 : Option Addr} {sl8 : Array (Option Value)} {f8 : Addr} {oc9 kV9 dc9 pm9 cd9 ct9 : Value} {od9 an9 : Option Addr} {sl9 : Array (Option Value)} {f9 : Addr} {oc10 kV10 dc10 pm10 cd10 ct10 : Value} {od10 an10 : Option Addr} {sl10 : Array (Option Value)} {f10 : Addr} {oc11 kV11 dc11 pm11 cd11 ct11 : Value} {od11 an11 : Option Addr} {sl11 : Array (Option Value)} {f11 : Addr} {oc12 kV12 dc12 pm12 cd12 ct12 : Value} {od12 an12 : Option Addr} {sl12 : Array (Option Value)} {f12 : Addr} {oc13 kV13 dc13 pm13 cd13 ct13 : Value} {od13 an13 : Option Addr} {sl13 : Array (Option Value)} {f13 : Addr} {C0 : Addr}
    (X : K.In h) (G : h.Ns mainGlobals mg) (hfa : mg "law" = some (.ref fa))
    (aC0 : PySem.W.nsIn K mainGlobals "Transport" = some (some (.ref C0)))
    (a0 : PySem.W.findIn K (.ref C0) "__init__" = some (some (.ref f0)))
    (i0 : PySem.W.isFn K (.ref f0) = true)
    (l0 : K.lookup f0 = some ⟨oc0, od0, .func (PySem.W.fnOf "__init__" "Transport.__init__" (defArgs sF_Transport___init__) (defBody sF_Transport___init__) (defScope sF_Transport___init__) .none kV0 dc0 pm0 an0 cd0 ct0), sl0⟩)
    (c0 : PySem.W.codeIn K cd0 "Transport.__init__" = true)
    (k0 : PySem.W.keepIn K (.ref f0) = true)
    (a1 : PySem.W.findIn K (.ref C0) "reached" = some (some (.ref f1)))
    (i1 : PySem.W.isFn K (.ref f1) = true)
    (l1 : K.lookup f1 = some ⟨oc1, od1, .func (PySem.W.fnOf "reached" "Transport.reached" (defArgs sF_Transport_reached) (defBody sF_Transport_reached) (defScope sF_Transport_reached) .none kV1 dc1 pm1 an1 cd1 ct1), sl1⟩)
    (c1 : PySem.W.codeIn K cd1 "Transport.reached" = true)
    (k1 : PySem.W.keepIn K (.ref f1) = true)
    (a2 : PySem.W.findIn K (.ref C0) "change" = some (some (.ref f2)))
    (i2 : PySem.W.isFn K (.ref f2) = true)
    (l2 : K.lookup f2 = some ⟨oc2, od2, .func (PySem.W.fnOf "change" "Transport.change" (defArgs sF_Transport_change) (defBody sF_Transport_change) (defScope sF_Transport_change) .none kV2 dc2 pm2 an2 cd2 ct2), sl2⟩)
    (c2 : PySem.W.codeIn K cd2 "Transport.change" = true)
    (k2 : PySem.W.keepIn K (.ref f2) = true)
    (a3 : PySem.W.findIn K (.ref C0) "shift" = some (some (.ref f3)))
    (i3 : PySem.W.isFn K (.ref f3) = true)
    (l3 : K.lookup f3 = some ⟨oc3, od3, .func (PySem.W.fnOf "shift" "Transport.shift" (defArgs sF_Transport_shift) (defBody sF_Transport_shift) (defScope sF_Transport_shift) .none kV3 dc3 pm3 an3 cd3 ct3), sl3⟩)
    (c3 : PySem.W.codeIn K cd3 "Transport.shift" = true)
    (k3 : PySem.W.keepIn K (.ref f3) = true)
    (a4 : PySem.W.findIn K (.ref C0) "fill" = some (some (.ref f4)))
    (i4 : PySem.W.isFn K (.ref f4) = true)
    (l4 : K.lookup f4 = some ⟨oc4, od4, .func (PySem.W.fnOf "fill" "Transport.fill" (defArgs sF_Transport_fill) (defBody sF_Transport_fill) (defScope sF_Transport_fill) .none kV4 dc4 pm4 an4 cd4 ct4), sl4⟩)
    (c4 : PySem.W.codeIn K cd4 "Transport.fill" = true)
    (k4 : PySem.W.keepIn K (.ref f4) = true)
    (a5 : PySem.W.nsIn K mainGlobals "served" = some (some (.ref f5)))
    (l5 : K.lookup f5 = some ⟨oc5, od5, .func (PySem.W.fnOf "served" "served" (defArgs sF_servedV) (defBody sF_servedV) (defScope sF_servedV) .none kV5 dc5 pm5 an5 cd5 ct5), sl5⟩)
    (c5 : PySem.W.codeIn K cd5 "served" = true)
    (k5 : PySem.W.keepIn K (.ref f5) = true)
    (a6 : PySem.W.nsIn K mainGlobals "_law_mixed" = some (some (.ref f6)))
    (l6 : K.lookup f6 = some ⟨oc6, od6, .func (PySem.W.fnOf "_law_mixed" "_law_mixed" (defArgs sF__law_mixed) (defBody sF__law_mixed) (defScope sF__law_mixed) .none kV6 dc6 pm6 an6 cd6 ct6), sl6⟩)
    (c6 : PySem.W.codeIn K cd6 "_law_mixed" = true)
    (k6 : PySem.W.keepIn K (.ref f6) = true)
    (a7 : PySem.W.nsIn K mainGlobals "_law_amount" = some (some (.ref f7)))
    (l7 : K.lookup f7 = some ⟨oc7, od7, .func (PySem.W.fnOf "_law_amount" "_law_amount" (defArgs sF__law_amount) (defBody sF__law_amount) (defScope sF__law_amount) .none kV7 dc7 pm7 an7 cd7 ct7), sl7⟩)
    (c7 : PySem.W.codeIn K cd7 "_law_amount" = true)
    (k7 : PySem.W.keepIn K (.ref f7) = true)
    (a8 : PySem.W.nsIn K mainGlobals "_law_drawn" = some (some (.ref f8)))
    (l8 : K.lookup f8 = some ⟨oc8, od8, .func (PySem.W.fnOf "_law_drawn" "_law_drawn" (defArgs sF__law_drawn) (defBody sF__law_drawn) (defScope sF__law_drawn) .none kV8 dc8 pm8 an8 cd8 ct8), sl8⟩)
    (c8 : PySem.W.codeIn K cd8 "_law_drawn" = true)
    (k8 : PySem.W.keepIn K (.ref f8) = true)
    (a9 : PySem.W.nsIn K mainGlobals "_law_bound" = some (some (.ref f9)))
    (l9 : K.lookup f9 = some ⟨oc9, od9, .func (PySem.W.fnOf "_law_bound" "_law_bound" (defArgs sF__law_bound) (defBody sF__law_bound) (defScope sF__law_bound) .none kV9 dc9 pm9 an9 cd9 ct9), sl9⟩)
    (c9 : PySem.W.codeIn K cd9 "_law_bound" = true)
    (k9 : PySem.W.keepIn K (.ref f9) = true)
    (a10 : PySem.W.nsIn K mainGlobals "_law_total" = some (some (.ref f10)))
    (l10 : K.lookup f10 = some ⟨oc10, od10, .func (PySem.W.fnOf "_law_total" "_law_total" (defArgs sF__law_total) (defBody sF__law_total) (defScope sF__law_total) .none kV10 dc10 pm10 an10 cd10 ct10), sl10⟩)
    (c10 : PySem.W.codeIn K cd10 "_law_total" = true)
    (k10 : PySem.W.keepIn K (.ref f10) = true)
    (a11 : PySem.W.nsIn K mainGlobals "_law_least" = some (some (.ref f11)))
    (l11 : K.lookup f11 = some ⟨oc11, od11, .func (PySem.W.fnOf "_law_least" "_law_least" (defArgs sF__law_least) (defBody sF__law_least) (defScope sF__law_least) .none kV11 dc11 pm11 an11 cd11 ct11), sl11⟩)
    (c11 : PySem.W.codeIn K cd11 "_law_least" = true)
    (k11 : PySem.W.keepIn K (.ref f11) = true)
    (a12 : PySem.W.nsIn K mainGlobals "_law_met_right" = some (some (.ref f12)))
    (l12 : K.lookup f12 = some ⟨oc12, od12, .func (PySem.W.fnOf "_law_met_right" "_law_met_right" (defArgs sF__law_met_right) (defBody sF__law_met_right) (defScope sF__law_met_right) .none kV12 dc12 pm12 an12 cd12 ct12), sl12⟩)
    (c12 : PySem.W.codeIn K cd12 "_law_met_right" = true)
    (k12 : PySem.W.keepIn K (.ref f12) = true)
    (a13 : PySem.W.nsIn K mainGlobals "law" = some (some (.ref f13)))
    (l13 : K.lookup f13 = some ⟨oc13, od13, .func (PySem.W.fnOf "law" "law" (defArgs sF_law) (defBody sF_law) (defScope sF_law) .none kV13 dc13 pm13 an13 cd13 ct13), sl13⟩)
    (c13 : PySem.W.codeIn K cd13 "law" = true)
    (k13 : PySem.W.keepIn K (.ref f13) = true)
    (pg0 : PySem.W.plainGet K C0 Str.empty = true)
    (hd0 : PySem.W.hasDictIn K C0 = true)
    (po0 : PySem.W.plainOver K C0 = true)
    (sa0 : PySem.W.findIn K (.ref C0) "__setattr__" = some (some (.builtin "object.__setattr__")))
    (mk0 : PySem.W.makesIn K C0 = true)
    (kc0 : PySem.W.keepIn K (.ref C0) = true)
    (n0_0 : PySem.W.findIn K (.ref C0) "may" = some none)
    (n0_1 : PySem.W.findIn K (.ref C0) "there" = some none)
    (n0_2 : PySem.W.findIn K (.ref C0) "lack" = some none)
    (n0_3 : PySem.W.findIn K (.ref C0) "given" = some none)
    (n0_4 : PySem.W.findIn K (.ref C0) "spent" = some none)
    (b0 : PySem.W.nsIn K mainGlobals "len" = some none)
    (b1 : PySem.W.nsIn K mainGlobals "list" = some none)
    (b2 : PySem.W.nsIn K mainGlobals "sum" = some none)
    (b3 : PySem.W.nsIn K mainGlobals "min" = some none)
    (b4 : PySem.W.nsIn K mainGlobals "max" = some none)
    (b5 : PySem.W.nsIn K mainGlobals "all" = some none)
    (b6 : PySem.W.nsIn K mainGlobals "any" = some none)
    (b7 : PySem.W.nsIn K mainGlobals "sorted" = some none)
    (b8 : PySem.W.nsIn K mainGlobals "dict" = some none)
    (b9 : PySem.W.nsIn K mainGlobals "isinstance" = some none)
    (b10 : PySem.W.nsIn K mainGlobals "range" = some none)
    (b11 : PySem.W.nsIn K mainGlobals "enumerate" = some none)
    (b12 : PySem.W.nsIn K mainGlobals "set" = some none)
    : ∃ fd : FuncData, (∀ (s : Shared) (u : Value), BindsTo s fd ⟨[u], []⟩ [("_law_script", u)]) ∧ ∀ base : Heap, K.In base → base.Ns mainGlobals mg → FnOk P w K mg base (L2.CX P w) 14 fa fd ["_law_script"] (spLaw K) := by
  obtain ⟨at_, e, T⟩ := all_mk (P := P) (w := w) X G aC0 a0 i0 l0 c0 k0 a1 i1 l1 c1 k1 a2 i2 l2 c2 k2 a3 i3 l3 c3 k3 a4 i4 l4 c4 k4 a5 l5 c5 k5 a6 l6 c6 k6 a7 l7 c7 k7 a8 l8 c8 k8 a9 l9 c9 k9 a10 l10 c10 k10 a11 l11 c11 k11 a12 l12 c12 k12 a13 l13 c13 k13 pg0 hd0 po0 sa0 mk0 kc0 n0_0 n0_1 n0_2 n0_3 n0_4 b0 b1 b2 b3 b4 b5 b6 b7 b8 b9 b10 b11 b12
  have e2 : fa = at_ "law" := by rw [hfa] at e; injection e with e; injection e
  subst e2
  obtain ⟨fd, h1, h2⟩ := law_end T (n := 7) (F := F_law) (x := "_law_script") (look tab_nd (.tail _ (.tail _ (.tail _ (.tail _ (.tail _ (.tail _ (.tail _ (.tail _ (.tail _ (.tail _ (.tail _ (.tail _ (.tail _ (.head _))))))))))))))) rfl (fun ns hn hb => let ⟨d, s1, e, q⟩ := (law_math ns hn hb).ok_of; ⟨s1, by rw [e, q]⟩)
  exact ⟨fd, h1, fun base _ _ => h2 base⟩
theorem walk {l : PySem.W.OpenLaw} {q : Program} {loose : List Str} {XP : (Str → Option Value) → Heap → Prop} {YP : World → Heap → Prop} {d : DefRec} {K : Params → PySem.W.Frag} (hn : l.most = some 63) (hdf : d.params.defaults = [])
    (hY : ∀ (w : World) (h : Heap), YP w h → (K w.params).In h)
    (F : ∀ (w : World) (mg : Str → Option Value) (fa : Addr) (h : Heap), (K w.params).In h → h.Ns mainGlobals mg → mg d.name = some (.ref fa) →
      ∃ fd : FuncData, (∀ (s : Shared) (u : Value), BindsTo s fd ⟨[u], []⟩ [("_law_script", u)]) ∧ ∀ base : Heap, (K w.params).In base → base.Ns mainGlobals mg → FnOk l.prog w (K w.params) mg base (L2.CX l.prog w) 14 fa fd ["_law_script"] (spLaw (K w.params))) :
    PySem.W.WalkO q loose XP YP l.row.toRowW d [] (fun f vs => PySem.call f vs) :=
  L2.walk_ofB (n := 63) (k := 14) (x := "_law_script") (CX := fun w => L2.CX l.prog w) (sp := fun w => spLaw (K w.params)) hn (by decide) hdf ⟨rfl, by decide, by decide⟩ hY F (fun _ _ a ns hl hb _ hS => ⟨a, ns, rfl, hS, hl, hb, fun _ => rfl⟩)
    fun _ _ _ _ _ ⟨_, _, _, _, _, _, _, _, _, _, _, _, z⟩ => z
end QQ
open PySem PySem.W PyProof.Rows
set_option maxRecDepth 100000 in
set_option maxHeartbeats 0 in
theorem PySem.Challenge.cw_purserbook_k32_whole_least_of_all_lists_holds : PySem.Challenge.rw_purserbook_k32_whole_least_of_all_lists.Holds := by
  w_on; o_law; k_head; (case hw => w_witness2)
  k_fill
  refine QQ.walk (l := PySem.Challenge.rw_purserbook_k32_whole_least_of_all_lists) rfl rfl (fun w h Y => PySem.W.kIn_of Y) ?F
  case F =>
    intro w mg fa h KX G hmg
    refine' QQ.all_fin KX G hmg ?aC0 ?a0 ?i0 ?l0 ?c0 ?k0 ?a1 ?i1 ?l1 ?c1 ?k1 ?a2 ?i2 ?l2 ?c2 ?k2 ?a3 ?i3 ?l3 ?c3 ?k3 ?a4 ?i4 ?l4 ?c4 ?k4 ?a5 ?l5 ?c5 ?k5 ?a6 ?l6 ?c6 ?k6 ?a7 ?l7 ?c7 ?k7 ?a8 ?l8 ?c8 ?k8 ?a9 ?l9 ?c9 ?k9 ?a10 ?l10 ?c10 ?k10 ?a11 ?l11 ?c11 ?k11 ?a12 ?l12 ?c12 ?k12 ?a13 ?l13 ?c13 ?k13 ?pg0 ?hd0 ?po0 ?sa0 ?mk0 ?kc0 ?n0_0 ?n0_1 ?n0_2 ?n0_3 ?n0_4 ?b0 ?b1 ?b2 ?b3 ?b4 ?b5 ?b6 ?b7 ?b8 ?b9 ?b10 ?b11 ?b12
    (case aC0 => k_is)
    (case a0 => k_is)
    (case i0 => k_is)
    (case l0 => k_is)
    (case c0 => k_is)
    (case k0 => k_is)
    (case a1 => k_is)
    (case i1 => k_is)
    (case l1 => k_is)
    (case c1 => k_is)
    (case k1 => k_is)
    (case a2 => k_is)
    (case i2 => k_is)
    (case l2 => k_is)
    (case c2 => k_is)
    (case k2 => k_is)
    (case a3 => k_is)
    (case i3 => k_is)
    (case l3 => k_is)
    (case c3 => k_is)
    (case k3 => k_is)
    (case a4 => k_is)
    (case i4 => k_is)
    (case l4 => k_is)
    (case c4 => k_is)
    (case k4 => k_is)
    (case a5 => k_is)
    (case l5 => k_is)
    (case c5 => k_is)
    (case k5 => k_is)
    (case a6 => k_is)
    (case l6 => k_is)
    (case c6 => k_is)
    (case k6 => k_is)
    (case a7 => k_is)
    (case l7 => k_is)
    (case c7 => k_is)
    (case k7 => k_is)
    (case a8 => k_is)
    (case l8 => k_is)
    (case c8 => k_is)
    (case k8 => k_is)
    (case a9 => k_is)
    (case l9 => k_is)
    (case c9 => k_is)
    (case k9 => k_is)
    (case a10 => k_is)
    (case l10 => k_is)
    (case c10 => k_is)
    (case k10 => k_is)
    (case a11 => k_is)
    (case l11 => k_is)
    (case c11 => k_is)
    (case k11 => k_is)
    (case a12 => k_is)
    (case l12 => k_is)
    (case c12 => k_is)
    (case k12 => k_is)
    (case a13 => k_is)
    (case l13 => k_is)
    (case c13 => k_is)
    (case k13 => k_is)
    (case pg0 => k_is)
    (case hd0 => k_is)
    (case po0 => k_is)
    (case sa0 => k_is)
    (case mk0 => k_is)
    (case kc0 => k_is)
    (case n0_0 => k_is)
    (case n0_1 => k_is)
    (case n0_2 => k_is)
    (case n0_3 => k_is)
    (case n0_4 => k_is)
    (case b0 => k_is)
    (case b1 => k_is)
    (case b2 => k_is)
    (case b3 => k_is)
    (case b4 => k_is)
    (case b5 => k_is)
    (case b6 => k_is)
    (case b7 => k_is)
    (case b8 => k_is)
    (case b9 => k_is)
    (case b10 => k_is)
    (case b11 => k_is)
    (case b12 => k_is)

