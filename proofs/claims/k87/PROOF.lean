import PyProof.Rows.All
import Wide.All
import OpenK.AllK
import Wide.FinOn
import HandS.ForMost
import HandS.TupMul
import HandS.Wide
import HandS.Flow
import HandS.Deep
import HandS.TupAny
import HandS.FStr
import HandS.IsInst
import KE.SortData
import KE.DataEq
import KE.DataCmp
import HandS.RaiseMore
import HandS.More
import HandS.TupLen
import PyProof.ReprRoads
import KE.KeyNested
import KE.KDictKeyed
import KE.GoesMore
import HandS.Zip
import HandS.Style
import HandS.Codes
import HandS.ExcInit
import HandS.ExcValue
import KE.KExcIs
import HandS.Small
import HandS.ExcBuiltin
import PyProof.ExcBaseAll.ValueError
import PyProof.ExcBaseAll.LookupError
import PyProof.ExcBaseAll.RuntimeError
import HandS.Defaults
import HandS.Head0
import HandS.Head1
import HandS.Head2
import HandS.HeadEnd
import HandS.HeadHook1
import HandS.HeadHook2
import HandS.HeadHook4
import KE.LtData
import PySem.Challenge.RW_slotmaps_k87_error_classes
set_option Elab.async false
set_option linter.all false
set_option maxRecDepth 100000
/-! the evaluator: values, store, syntax, meaning -/
namespace PI
open PySem L2

inductive W where
  | non | bl (b : Bool) | int (i : Int) | str (x : Str) | tup (ws : List W) | ref (n : Nat)
  /-- a list that is read, never written -/
  | scr (ws : List W)
  /-- an exception: its class, its fields -/
  | exc (c : Str) (fn : List Str) (ws : List W)
  deriving Inhabited
mutual
def W.beq : W → W → Bool
  | .non, .non => true
  | .bl a, .bl b => decide (a = b)
  | .int a, .int b => decide (a = b)
  | .str a, .str b => decide (a = b)
  | .ref a, .ref b => decide (a = b)
  | .tup a, .tup b => W.beqs a b
  | .scr a, .scr b => W.beqs a b
  | .exc c f a, .exc d g b => decide (c = d) && (decide (f = g) && W.beqs a b)
  | _, _ => false
def W.beqs : List W → List W → Bool
  | [], [] => true
  | a :: r, b :: s => W.beq a b && W.beqs r s
  | _, _ => false
end
mutual
theorem W.beq_iff : ∀ a b : W, W.beq a b = true ↔ a = b
  | .non, b => by cases b <;> simp [W.beq]
  | .bl _, b => by cases b <;> simp [W.beq]
  | .int _, b => by cases b <;> simp [W.beq]
  | .str _, b => by cases b <;> simp [W.beq]
  | .ref _, b => by cases b <;> simp [W.beq]
  | .tup a, b => by cases b <;> simp [W.beq, W.beqs_iff a]
  | .scr a, b => by cases b <;> simp [W.beq, W.beqs_iff a]
  | .exc c f a, b => by cases b <;> simp [W.beq, W.beqs_iff a]
theorem W.beqs_iff : ∀ a b : List W, W.beqs a b = true ↔ a = b
  | [], b => by cases b <;> simp [W.beqs]
  | x :: r, b => by cases b <;> simp [W.beqs, W.beq_iff x, W.beqs_iff r]
end
instance : DecidableEq W := fun a b => decidable_of_iff _ (W.beq_iff a b)

/-- what stands in the store -/
inductive O where
  | lst (ws : List W)
  | dct (kvs : List (W × W))
  /-- a dict while it is walked -/
  | fdct (kvs : List (W × W))
abbrev Sto := List O
abbrev Env := List (Option W)
inductive Res (α : Type) where
  | ok (a : α) (S : Sto)
  | exc (c : Str) (fs : List (Str × W)) (S : Sto)
  | bad
def Res.bind {α β : Type} (r : Res α) (f : α → Sto → Res β) : Res β := match r with
  | .ok a S => f a S
  | .exc c fs S => .exc c fs S
  | .bad => .bad
inductive SRes where
  | nx (η : Env) (S : Sto)
  | rt (w : W) (S : Sto)
  | bk (η : Env) (S : Sto)
  | ct (η : Env) (S : Sto)
  | exc (c : Str) (fs : List (Str × W)) (η : Env) (S : Sto)
  | bad
/-- an expression's end goes on in a statement -/
def Res.go {α : Type} (r : Res α) (η : Env) (f : α → Sto → SRes) : SRes := match r with
  | .ok a S => f a S
  | .exc c fs S => .exc c fs η S
  | .bad => .bad

inductive Bop where | add | sub | mul | fdiv | mod | pow
  deriving DecidableEq
inductive Cop where | eq | ne | lt | le | gt | ge | is | isNot | isIn | notIn
  deriving DecidableEq
/-- what a for walks -/
inductive Itk where | plain | range1 | range2 | enum | zip | items | values
  deriving DecidableEq

inductive Bif where | len | all | any | sum | sorted | repr | str | int | list | tuple | dict | abs | min | max
  deriving DecidableEq
inductive Mth where | append | extend | pop | insert | clear | get | join | upper | split
  deriving DecidableEq
/-- expressions, argument lists (nil, cons), targets (v, tup, ix) -/
inductive E where
  | v (i : Nat)
  | kN | kB (b : Bool) | kI (i : Int) | kS (x : Str)
  | glob (x : Str) (w : E)
  | nil | cons (a b : E)
  | tup (es : E) | lst (es : E) | dct (kvs : E)
  | bin (o : Bop) (a b : E)
  | neg (a : E) | not (a : E)
  /-- and (true), or (false), of one part or more -/
  | boo (o : Bool) (es : E)
  | cmp (o : Cop) (a b : E) | chain (o p : Cop) (a b c : E)
  | ite (c a b : E)
  | ix (a i : E)
  | sl (a lo hi : E) | rev (a : E) | noE
  | call (f : Str) (es : E)
  | bif (f : Bif) (es : E)
  | isi (a : E) (tys : List String)
  /-- isinstance(a, own classes): all classes told of; each class asked for with those below it -/
  | isx (a : E) (all : List Str) (ds : List (Str × List Str))
  /-- an exception's field, of classes that are told of -/
  | fld (a : E) (f : Str) (cs : List Str)
  /-- a new exception, without fields, with one -/
  | new0 (c : Str)
  | new1 (c f : Str) (a : E)
  | mth (m : Mth) (o es : E)
  | lc (elt tg : E) (k : Itk) (it : E) (c : E) (own : List (Str × Nat))
  | fs (es : E)
/-- statements -/
inductive T where
  | nil | seq (s t : T)
  | asg (tg e : E)
  | aug (i : Nat) (o : Bop) (e : E)
  | ex (e : E)
  | ret (e : E) | retN
  | ite (c : E) (s t : T)
  | for_ (tg : E) (k : Itk) (it : E) (s : T)
  | whl (c : E) (s : T)
  | brk | cnt | pass
  | raise (c : Str) (fs : List Str) (es : E)
  /-- raise c(es), fields fn -/
  | rse (c : Str) (fn : List Str) (es : E)
  /-- try: s / except x as v: j = v; below: the classes below x among all -/
  | tryx (s : T) (x : Str) (all below : List Str) (v j : Nat)

/-! ### data -/
def optAll {α : Type} : List (Option α) → Option (List α)
  | [] => some []
  | none :: _ => none
  | some a :: r => (optAll r).map (a :: ·)
/-- a list of the store, by reference -/
def lstOf (S : Sto) (n : Nat) : Option (List W) := match S[n]? with
  | some (.lst ws) => some ws
  | _ => none
def dctOf (S : Sto) (n : Nat) : Option (List (W × W)) := match S[n]? with
  | some (.dct kvs) => some kvs
  | some (.fdct kvs) => some kvs
  | _ => none
/-- the items of a list or a tuple -/
def seqOf (S : Sto) : W → Option (List W)
  | .tup ws => some ws
  | .ref n => lstOf S n
  | _ => none
/-- a value as data; lists of the store by their contents -/
def toD (S : Sto) : Nat → W → Option PyData
  | 0, _ => none
  | _ + 1, .non => some .none
  | _ + 1, .bl b => some (.bool b)
  | _ + 1, .int i => some (.int i)
  | _ + 1, .str x => some (.str x)
  | k + 1, .tup ws => (optAll (ws.map (toD S k))).map .tuple
  | k + 1, .ref n => (lstOf S n).bind fun ws => (optAll (ws.map (toD S k))).map .list
  | _ + 1, .scr _ => none
  | _ + 1, .exc _ _ _ => none
def deepMax : Nat := 60
def dataOf (S : Sto) (w : W) : Option PyData := toD S deepMax w
def truthW (S : Sto) : W → Option Bool
  | .non => some false
  | .bl b => some b
  | .int i => some (i != 0)
  | .str x => if x.length ≤ sizeLine then some (x.length != 0) else none
  | .tup ws => some !ws.isEmpty
  | .ref n => match S[n]? with
    | some (.lst ws) => some !ws.isEmpty
    | some (.dct kvs) => if kvs.all (fun kv => match kv.1 with | .int _ => true | .str _ => true | _ => false) then some !kvs.isEmpty else none
    | some (.fdct kvs) => if kvs.all (fun kv => match kv.1 with | .int _ => true | .str _ => true | _ => false) then some !kvs.isEmpty else none
    | none => none
  | .scr _ => none
  | .exc _ _ _ => none

/-! ### operators -/
def newLst (ws : List W) (S : Sto) : Res W := if ws.length ≤ sizeLine then .ok (.ref S.length) (S ++ [.lst ws]) else .bad
def b2iW (b : Bool) : Int := if b = true then 1 else 0
def binW (o : Bop) (x y : W) (S : Sto) : Res W := match o, x, y with
  | .add, .int i, .int j => .ok (.int (i + j)) S
  | .add, .int i, .bl j => .ok (.int (i + b2iW j)) S
  | .add, .bl i, .int j => .ok (.int (b2iW i + j)) S
  | .sub, .int i, .bl j => .ok (.int (i - b2iW j)) S
  | .sub, .bl i, .int j => .ok (.int (b2iW i - j)) S
  | .add, .str a, .str b => if a.length + b.length ≤ sizeLine then .ok (.str (a ++ b)) S else .bad
  | .add, .tup a, .tup b => if a.length + b.length ≤ sizeLine then .ok (.tup (a ++ b)) S else .bad
  | .add, .ref n, .ref m => match S[n]?, S[m]? with
    | some (.lst a), some (.lst b) => if a.length + b.length ≤ sizeLine then .ok (.ref S.length) (S ++ [.lst (a ++ b)]) else .bad
    | _, _ => .bad
  | .sub, .int i, .int j => .ok (.int (i - j)) S
  | .mul, .int i, .int j => if i.natAbs.log2 + j.natAbs.log2 < 1000000 then .ok (.int (i * j)) S else .bad
  | .mul, .tup a, .int k => if 0 < k ∧ k ≤ 1000 ∧ a.length ≤ 1000 then .ok (.tup (List.replicate k.toNat a).flatten) S else .bad
  | .mul, .ref n, .int k => match S[n]? with
    | some (.lst a) => if -(2 ^ 63) ≤ k ∧ k < 2 ^ 63 ∧ a.length * k.toNat ≤ sizeLine then .ok (.ref S.length) (S ++ [.lst (List.replicate k.toNat a).flatten]) else .bad
    | _ => .bad
  | .fdiv, .int i, .int j => if 0 < j ∧ j.natAbs.log2 < 9000 then .ok (.int (i / j)) S else .bad
  | .mod, .int i, .int j => if 0 < j then .ok (.int (i % j)) S else .bad
  | .pow, .int i, .int j => if 0 ≤ j ∧ j ≤ 1000000 ∧ i.natAbs < 2 ^ 64 then .ok (.int (i ^ j.toNat)) S else .bad
  | _, _, _ => .bad
/-- a op= b, of ints -/
def augW (o : Bop) (x y : W) (S : Sto) : Res W := match o, x, y with
  | .add, .int i, .int j => .ok (.int (i + j)) S
  | .sub, .int i, .int j => .ok (.int (i - j)) S
  | _, _, _ => .bad
def isDeep (d : PyData) : Bool := decide (d.depth ≤ deepMax)
def eqD (d e : PyData) : Option Bool := if d.plain && e.plain && isDeep d && isDeep e then some (PyData.eqv d e) else none
def ordD (f : PyData → PyData → Bool) (d e : PyData) : Option Bool := match d with
  | .none => none
  | _ => if PySem.W.alike d e && isDeep d && isDeep e then some (f d e) else none
def onData (S : Sto) (f : PyData → PyData → Option Bool) (x y : W) : Res W := match dataOf S x, dataOf S y with
  | some d, some e => match f d e with
    | some b => .ok (.bl b) S
    | none => .bad
  | _, _ => .bad
def keyIn (kvs : List (W × W)) (k : W) : Bool := kvs.any fun kv => decide (kv.1 = k)
def keyGet (kvs : List (W × W)) (k : W) : Option W := (kvs.find? fun kv => decide (kv.1 = k)).map (·.2)
def keyPut (kvs : List (W × W)) (k v : W) : List (W × W) := if keyIn kvs k then kvs.map fun kv => if kv.1 = k then (kv.1, v) else kv else kvs ++ [(k, v)]
def keyDrop (kvs : List (W × W)) (k : W) : List (W × W) := kvs.filter fun kv => decide (kv.1 ≠ k)
/-- what may be a key: ints, texts -/
def flatKey : W → Bool
  | .int _ => true
  | .str _ => true
  | _ => false
/-- tuples of ints, texts, tuples .. -/
def deepKey : Nat → W → Bool
  | 0, _ => false
  | _ + 1, .non => true
  | _ + 1, .int _ => true
  | _ + 1, .str _ => true
  | k + 1, .tup ws => ws.all (deepKey k)
  | _ + 1, _ => false
def tupKey : W → Bool
  | .tup ws => ws.all (deepKey 7)
  | _ => false
def keyOk (kvs : List (W × W)) (k : W) : Bool := (flatKey k && kvs.all fun kv => flatKey kv.1) || (tupKey k && kvs.all fun kv => tupKey kv.1)
def inW (S : Sto) (x y : W) : Option Bool := match y with
  | .str z => match x with
    | .str a => some (!(Builtin.Str.occurrences z a 0 z.length 1).isEmpty)
    | _ => none
  | .tup ws => match dataOf S x, optAll (ws.map (dataOf S)) with
    | some d, some ds => if d.plain && PyData.plainAll ds && isDeep d && ds.all isDeep then some (ds.any fun z => PyData.eqv z d) else none
    | _, _ => none
  | .ref n => match S[n]? with
    | some (.dct kvs) => if keyOk kvs x then some (keyIn kvs x) else none
    | some (.fdct kvs) => if keyOk kvs x then some (keyIn kvs x) else none
    | _ => match lstOf S n, dataOf S x with
      | some ws, some d => match optAll (ws.map (dataOf S)) with
        | some ds => if d.plain && PyData.plainAll ds && isDeep d && ds.all isDeep then some (ds.any fun z => PyData.eqv z d) else none
        | none => none
      | _, _ => none
  | _ => none
def boolR (S : Sto) : Option Bool → Res W
  | some b => .ok (.bl b) S
  | none => .bad
/-- two lists of different lengths -/
def lenNe (S : Sto) (x y : W) : Bool := match x, y with
  | .ref n, .ref m => match lstOf S n, lstOf S m with
    | some a, some b => a.length != b.length
    | _, _ => false
  | _, _ => false
def cmpW (o : Cop) (x y : W) (S : Sto) : Res W := match o with
  | .eq => if lenNe S x y then .ok (.bl false) S else onData S eqD x y
  | .ne => if lenNe S x y then .ok (.bl true) S else onData S (fun d e => (eqD d e).map (!·)) x y
  | .lt => onData S (ordD fun d e => PySem.W.dataLt d e) x y
  | .gt => onData S (ordD fun d e => PySem.W.dataLt e d) x y
  | .le => onData S (ordD fun d e => !PySem.W.dataLt e d) x y
  | .ge => onData S (ordD fun d e => !PySem.W.dataLt d e) x y
  | .is => match y with
    | .non => .ok (.bl (decide (x = .non))) S
    | _ => .bad
  | .isNot => match y with
    | .non => .ok (.bl (!decide (x = .non))) S
    | _ => .bad
  | .isIn => boolR S (inW S x y)
  | .notIn => boolR S ((inW S x y).map (!·))
/-- a[i] -/
def ixL (ws : List W) (y : W) (S : Sto) : Res W := match y with
  | .int i => match atI ws i with
    | some w => .ok w S
    | none => .bad
  | _ => .bad
def ixS (z : Str) (y : W) (S : Sto) : Res W := match y with
  | .int i => if z.length ≤ sizeLine then match atI z.cps.toList i with
      | some c => .ok (.str ⟨#[c]⟩) S
      | none => .bad
    else .bad
  | _ => .bad
def ixD (kvs : List (W × W)) (y : W) (S : Sto) : Res W := if keyOk kvs y then match keyGet kvs y with
    | some w => .ok w S
    | none => .bad
  else .bad
def ixO (o : Option O) (y : W) (S : Sto) : Res W := match o with
  | some (.lst ws) => ixL ws y S
  | some (.dct kvs) => ixD kvs y S
  | some (.fdct kvs) => ixD kvs y S
  | none => .bad
def ixW (x y : W) (S : Sto) : Res W := match x with
  | .tup ws => ixL ws y S
  | .str z => ixS z y S
  | .ref n => ixO S[n]? y S
  | _ => .bad
def cutW (ws : List W) (lo hi : Option Int) : List W := (ws.drop (HT.sIx ws.length 0 lo)).take (HT.sIx ws.length ws.length hi - HT.sIx ws.length 0 lo)
/-- a[lo:hi] -/
def slW (x : W) (lo hi : Option Int) (S : Sto) : Res W := match x with
  | .tup ws => .ok (.tup (cutW ws lo hi)) S
  | .str z => if z.length ≤ sizeLine then .ok (.str (cutS z lo hi)) S else .bad
  | .ref n => match lstOf S n with
    | some ws => .ok (.ref S.length) (S ++ [.lst (cutW ws lo hi)])
    | none => .bad
  | .scr ws => .ok (.ref S.length) (S ++ [.lst (cutW ws lo hi)])
  | _ => .bad
/-- o[i] = v -/
def setL (n : Nat) (ws : List W) (i v : W) (S : Sto) : Res Unit := match i with
  | .int k => match ixN ws.length k with
    | some j => .ok () (S.set n (.lst (ws.set j v)))
    | none => .bad
  | _ => .bad
def setO (n : Nat) (o : Option O) (i v : W) (S : Sto) : Res Unit := match o with
  | some (.lst ws) => setL n ws i v S
  | some (.dct kvs) => if keyOk kvs i && decide (kvs.length < sizeLine) then .ok () (S.set n (.dct (keyPut kvs i v))) else .bad
  | _ => .bad
def setW (o i v : W) (S : Sto) : Res Unit := match o with
  | .ref n => setO n S[n]? i v S
  | _ => .bad
def tyW (S : Sto) : W → Option String
  | .non => some "NoneType"
  | .bl _ => some "bool"
  | .int _ => some "int"
  | .str _ => some "str"
  | .tup _ => some "tuple"
  | .ref n => match S[n]? with
    | some (.lst _) => some "list"
    | some (.dct _) => some "dict"
    | some (.fdct _) => some "dict"
    | none => none
  | .scr _ => none
  | .exc _ _ _ => none
def isOne (t u : String) : Bool := decide (t = u) || (decide (t = "bool") && decide (u = "int"))
def isiW (S : Sto) (w : W) (us : List String) : Option Bool := (tyW S w).map fun t => us.any (isOne t)

/-! ### repr, sorted -/
def pairOpt {α β : Type} : Option α × Option β → Option (α × β)
  | (some a, some b) => some (a, b)
  | _ => none
/-- a value as data, dicts too -/
def toP (S : Sto) : Nat → W → Option PyData
  | 0, _ => none
  | _ + 1, .non => some .none
  | _ + 1, .bl b => some (.bool b)
  | _ + 1, .int i => some (.int i)
  | _ + 1, .str x => some (.str x)
  | k + 1, .tup ws => (optAll (ws.map (toP S k))).map .tuple
  | k + 1, .ref n => match lstOf S n with
    | some ws => (optAll (ws.map (toP S k))).map .list
    | none => match dctOf S n with
      | some kvs => (optAll (kvs.map fun kv => pairOpt (toP S k kv.1, toP S k kv.2))).map .dict
      | none => none
  | _ + 1, .scr _ => none
  | _ + 1, .exc _ _ _ => none
def reprR (S : Sto) (w : W) : Res W := match toP S deepMax w with
  | some d => if d.showable = true ∧ d.shown.length ≤ sizeLine ∧ d.depth ≤ deepMax then .ok (.str d.shown) S else .bad
  | none => .bad
def isTupD : PyData → Bool
  | .tuple (_ :: _) => true
  | _ => false
def isOthD : PyData → Bool
  | .none => false
  | .tuple _ => false
  | _ => true
def sortOk (ds : List PyData) : Bool := (ds.all fun d => ds.all fun e => PySem.W.alike d e) && (ds.all isTupD || ds.all isOthD) && ds.all isDeep
def sortWD (l : List (W × PyData)) : List (W × PyData) := l.mergeSort (PySem.W.dataLe false Prod.snd)
def sortW (S : Sto) (ws : List W) : Option (List W) := match optAll (ws.map (dataOf S)) with
  | some ds => if sortOk ds && decide (ws.length ≤ sizeLine) then some ((sortWD (ws.zip ds)).map Prod.fst) else none
  | none => none
def blsOf : List W → Option (List Bool)
  | [] => some []
  | .bl b :: r => (blsOf r).map (b :: ·)
  | _ :: _ => none
def intsOf : List W → Option (List Int)
  | [] => some []
  | .int b :: r => (intsOf r).map (b :: ·)
  | _ :: _ => none
def strsOf : List W → Option (List Str)
  | [] => some []
  | .str b :: r => (strsOf r).map (b :: ·)
  | _ :: _ => none
/-- an iterable's items, at once (list(x), tuple(x), sorted(x)): a list, a tuple -/
def itemsOf (S : Sto) : W → Option (List W)
  | .tup ws => some ws
  | .ref n => lstOf S n
  | _ => none
/-- pairs (tuples of two) -/
def pairsW : List W → Option (List (W × W))
  | [] => some []
  | .tup [a, b] :: r => (pairsW r).map ((a, b) :: ·)
  | _ :: _ => none

/-! ### built-in functions -/
def lenO (S : Sto) : Option O → Res W
  | some (.lst ws) => .ok (.int ws.length) S
  | some (.dct kvs) => .ok (.int kvs.length) S
  | some (.fdct kvs) => .ok (.int kvs.length) S
  | none => .bad
def lenF (xs : List W) (S : Sto) : Res W := match xs with
  | [.str z] => if z.length ≤ sizeLine then .ok (.int z.length) S else .bad
  | [.tup ws] => .ok (.int ws.length) S
  | [.ref n] => lenO S S[n]?
  | _ => .bad
def allF (xs : List W) (S : Sto) : Res W := match xs with
  | [.ref n] => match (lstOf S n).bind blsOf with
    | some bs => .ok (.bl (bs.all id)) S
    | none => .bad
  | _ => .bad
def anyF (xs : List W) (S : Sto) : Res W := match xs with
  | [.ref n] => match (lstOf S n).bind blsOf with
    | some bs => .ok (.bl (bs.any id)) S
    | none => .bad
  | _ => .bad
def sumF (xs : List W) (S : Sto) : Res W := match xs with
  | [.ref n] => match (lstOf S n).bind intsOf with
    | some ns => .ok (.int ns.sum) S
    | none => .bad
  | _ => .bad
def sortedF (xs : List W) (S : Sto) : Res W := match xs with
  | [.ref n] => match (lstOf S n).bind (sortW S) with
    | some ws => .ok (.ref S.length) (S ++ [.lst ws])
    | none => .bad
  | _ => .bad
def reprF (xs : List W) (S : Sto) : Res W := match xs with
  | [w] => reprR S w
  | _ => .bad
def strF (xs : List W) (S : Sto) : Res W := match xs with
  | [.int i] => if i.natAbs.log2 < 1920 then .ok (.str (toString i)) S else .bad
  | [.str x] => .ok (.str x) S
  | [.bl b] => .ok (.str (if b then "True" else "False")) S
  | _ => .bad
def intF (xs : List W) (S : Sto) : Res W := match xs with
  | [.int i] => .ok (.int i) S
  | [.bl k] => .ok (.int (if k then 1 else 0)) S
  | [.str x] => match PySem.intText? x with
    | some n => if x.length ≤ 640 then .ok (.int n) S else .bad
    | none => .bad
  | _ => .bad
def listF (xs : List W) (S : Sto) : Res W := match xs with
  | [w] => match itemsOf S w with
    | some ws => .ok (.ref S.length) (S ++ [.lst ws])
    | none => .bad
  | _ => .bad
def tupleF (xs : List W) (S : Sto) : Res W := match xs with
  | [w] => match itemsOf S w with
    | some ws => .ok (.tup ws) S
    | none => .bad
  | _ => .bad
def dictF (xs : List W) (S : Sto) : Res W := match xs with
  | [.ref n] => match (lstOf S n).bind pairsW with
    | some kvs => if kvs.all (fun kv => flatKey kv.1) && decide (kvs.length ≤ sizeLine) then .ok (.ref S.length) (S ++ [.dct (kvs.foldl (fun acc kv => keyPut acc kv.1 kv.2) [])]) else .bad
    | none => .bad
  | _ => .bad
def absF (xs : List W) (S : Sto) : Res W := match xs with
  | [.int i] => .ok (.int (if i < 0 then -i else i)) S
  | _ => .bad
def minF (xs : List W) (S : Sto) : Res W := match xs with
  | [.int i, .int j] => .ok (.int (if j < i then j else i)) S
  | _ => .bad
def maxF (xs : List W) (S : Sto) : Res W := match xs with
  | [.int i, .int j] => .ok (.int (if j > i then j else i)) S
  | _ => .bad
def bifW : Bif → List W → Sto → Res W
  | .len => lenF | .all => allF | .any => anyF | .sum => sumF | .sorted => sortedF | .repr => reprF | .str => strF | .int => intF | .list => listF | .tuple => tupleF | .dict => dictF | .abs => absF | .min => minF | .max => maxF

/-! ### methods of built-in types -/
def insertM (n : Nat) (ws xs : List W) (S : Sto) : Res W := match xs with
  | [.int i, w] => if ws.length < sizeLine ∧ 0 ≤ i ∧ i < 2 ^ 63 then .ok .non (S.set n (.lst (ws.take i.toNat ++ [w] ++ ws.drop i.toNat))) else .bad
  | _ => .bad
def appendM (n : Nat) (ws xs : List W) (S : Sto) : Res W := match xs with
  | [w] => if ws.length < sizeLine then .ok .non (S.set n (.lst (ws ++ [w]))) else .bad
  | _ => .bad
def extendM (n : Nat) (ws xs : List W) (S : Sto) : Res W := match xs with
  | [.ref k] => match S[k]? with
    | some (.lst zs) => if ws.length + zs.length ≤ sizeLine then .ok .non (S.set n (.lst (ws ++ zs))) else .bad
    | _ => .bad
  | _ => .bad
def popM (n : Nat) (ws xs : List W) (S : Sto) : Res W := match xs with
  | [] => match ws[ws.length - 1]? with
    | some y => .ok y (S.set n (.lst ws.dropLast))
    | none => .bad
  | [.int i] => if -(2 ^ 63) ≤ i ∧ i < 2 ^ 63 then match seqIndex? i ws.length with
      | some k => match ws[k]? with
        | some y => .ok y (S.set n (.lst (ws.eraseIdx k)))
        | none => .bad
      | none => .bad
    else .bad
  | _ => .bad
def clearM (n : Nat) (xs : List W) (S : Sto) : Res W := match xs with
  | [] => .ok .non (S.set n (.lst []))
  | _ => .bad
def getM (kvs : List (W × W)) (xs : List W) (S : Sto) : Res W := match xs with
  | [k] => if keyOk kvs k then .ok ((keyGet kvs k).getD .non) S else .bad
  | [k, d] => if keyOk kvs k then .ok ((keyGet kvs k).getD d) S else .bad
  | _ => .bad
def dpopM (n : Nat) (kvs : List (W × W)) (xs : List W) (S : Sto) : Res W := match xs with
  | [k] => if keyOk kvs k then match keyGet kvs k with
      | some y => .ok y (S.set n (.dct (keyDrop kvs k)))
      | none => .bad
    else .bad
  | _ => .bad
def dclearM (n : Nat) (xs : List W) (S : Sto) : Res W := match xs with
  | [] => .ok .non (S.set n (.dct []))
  | _ => .bad
def joinM (a : Str) (xs : List W) (S : Sto) : Res W := match xs with
  | [w] => match (itemsOf S w).bind strsOf with
    | some ys => if (ys.map fun y => y.length).sum + ys.length * a.length ≤ 16777216 then .ok (.str (Txt.join a ys)) S else .bad
    | none => .bad
  | _ => .bad
def upperM (a : Str) (xs : List W) (S : Sto) : Res W := match xs with
  | [] => if a.length ≤ 5592405 then .ok (.str (Txt.upper a)) S else .bad
  | _ => .bad
def splitM (a : Str) (xs : List W) (S : Sto) : Res W := match xs with
  | [.str b] => if (b.length == 0) = false ∧ a.length + 2 ≤ sizeLine then .ok (.ref S.length) (S ++ [.lst ((Txt.split a b).map .str)]) else .bad
  | _ => .bad
def lstM (m : Mth) (n : Nat) (ws xs : List W) (S : Sto) : Res W := match m with
  | .append => appendM n ws xs S
  | .extend => extendM n ws xs S
  | .pop => popM n ws xs S
  | .insert => insertM n ws xs S
  | .clear => clearM n xs S
  | _ => .bad
def dctM (m : Mth) (n : Nat) (kvs : List (W × W)) (xs : List W) (S : Sto) : Res W := match m with
  | .get => getM kvs xs S
  | .pop => dpopM n kvs xs S
  | .clear => dclearM n xs S
  | _ => .bad
def fdctM (m : Mth) (kvs : List (W × W)) (xs : List W) (S : Sto) : Res W := match m with
  | .get => getM kvs xs S
  | _ => .bad
def strM (m : Mth) (a : Str) (xs : List W) (S : Sto) : Res W := match m with
  | .join => joinM a xs S
  | .upper => upperM a xs S
  | .split => splitM a xs S
  | _ => .bad
def refM (m : Mth) (n : Nat) (o : Option O) (xs : List W) (S : Sto) : Res W := match o with
  | some (.lst ws) => lstM m n ws xs S
  | some (.dct kvs) => dctM m n kvs xs S
  | some (.fdct kvs) => fdctM m kvs xs S
  | _ => .bad
def mthW (m : Mth) (o : W) (xs : List W) (S : Sto) : Res W := match o with
  | .ref n => refM m n S[n]? xs S
  | .str a => strM m a xs S
  | _ => .bad

/-! ### what a for walks -/
inductive Src where
  | vals (ws : List W)
  | lst (n : Nat)
  | enumL (n : Nat) | enumV (ws : List W)
  | zipL (n m : Nat) | zipV (ws zs : List W)
def enumW (ws : List W) : List W := ws.zipIdx.map fun p => .tup [.int (p.2 : Nat), p.1]
def Src.now (S : Sto) : Src → Option (List W)
  | .vals ws => some ws
  | .lst n => lstOf S n
  | .enumL n => (lstOf S n).map enumW
  | .enumV ws => some (enumW ws)
  | .zipL n m => match lstOf S n, lstOf S m with
    | some a, some b => some (a.zipWith (fun x y => .tup [x, y]) b)
    | _, _ => none
  | .zipV a b => some (a.zipWith (fun x y => .tup [x, y]) b)
def rangeW (lo : Int) (n : Nat) : List W := (List.range n).map fun i => .int (lo + (i : Nat))
/-- the source and, if a dict is walked, its place (it is locked meanwhile) -/
def srcOf (k : Itk) (xs : List W) (S : Sto) : Option (Src × Option Nat) := match k with
  | .plain => match xs with
    | [.tup ws] => some (.vals ws, none)
    | [.str z] => some (.vals (z.cps.toList.map fun c => .str ⟨#[c]⟩), none)
    | [.ref n] => match S[n]? with
      | some (.lst _) => some (.lst n, none)
      | some (.dct kvs) => some (.vals (kvs.map (·.1)), some n)
      | some (.fdct kvs) => some (.vals (kvs.map (·.1)), none)
      | _ => none
    | _ => none
  | .range1 => match xs with
    | [.int j] => if -(2 ^ 62) ≤ j ∧ j < 2 ^ 62 then some (.vals (rangeW 0 j.toNat), none) else none
    | _ => none
  | .range2 => match xs with
    | [.int i, .int j] => if -(2 ^ 62) ≤ i ∧ i < 2 ^ 62 ∧ -(2 ^ 62) ≤ j ∧ j < 2 ^ 62 then some (.vals (rangeW i (j - i).toNat), none) else none
    | _ => none
  | .enum => match xs with
    | [.tup ws] => some (.enumV ws, none)
    | [.ref n] => (lstOf S n).map fun _ => (.enumL n, none)
    | _ => none
  | .zip => match xs with
    | [.tup a, .tup b] => some (.zipV a b, none)
    | [.ref n, .ref m] => match lstOf S n, lstOf S m with
      | some _, some _ => some (.zipL n m, none)
      | _, _ => none
    | _ => none
  | .items => match xs with
    | [.ref n] => match S[n]? with
      | some (.dct kvs) => if kvs.all (fun kv => flatKey kv.1) then some (.vals (kvs.map fun kv => .tup [kv.1, kv.2]), some n) else none
      | _ => none
    | _ => none
  | .values => match xs with
    | [.ref n] => match S[n]? with
      | some (.dct kvs) => if kvs.all (fun kv => flatKey kv.1) then some (.vals (kvs.map (·.2)), some n) else none
      | _ => none
    | _ => none
def lockS (S : Sto) : Option Nat → Sto
  | none => S
  | some n => match S[n]? with
    | some (.dct kvs) => S.set n (.fdct kvs)
    | _ => S
/-- the dict is free again; it must be as it was -/
def unlockS (S : Sto) : Option Nat → Option Sto
  | none => some S
  | some n => match S[n]? with
    | some (.fdct kvs) => some (S.set n (.dct kvs))
    | _ => none
def wipeW (η : Env) : List Nat → Env
  | [] => η
  | v :: vs => (wipeW η vs).set v none
/-- a comprehension's loop: what is kept, from turn i on -/
def lcLoop (src : Src) (f : W → Sto → Res (Option W)) : Nat → Nat → List W → Sto → Res (List W)
  | 0, i, acc, S => match src.now S with
    | some ws => if ws.length = i then .ok acc S else .bad
    | none => .bad
  | k + 1, i, acc, S => match src.now S with
    | some ws => match ws[i]? with
      | some w => if ws.length = i + k + 1 then (f w S).bind fun o S' => match o with
          | some y => if acc.length < sizeLine then lcLoop src f k (i + 1) (acc ++ [y]) S' else .bad
          | none => lcLoop src f k (i + 1) acc S'
        else .bad
      | none => .bad
    | none => .bad
/-- no exception leaves a comprehension here -/
def Res.nox {α : Type} : Res α → Res α
  | .exc _ _ _ => .bad
  | r => r
/-- a for's loop -/
def forLoop (src : Src) (f : W → Env → Sto → SRes) : Nat → Nat → Env → Sto → SRes
  | 0, i, η, S => match src.now S with
    | some ws => if ws.length = i then .nx η S else .bad
    | none => .bad
  | k + 1, i, η, S => match src.now S with
    | some ws => match ws[i]? with
      | some w => if ws.length = i + k + 1 then match f w η S with
          | .nx η' S' => forLoop src f k (i + 1) η' S'
          | .ct η' S' => forLoop src f k (i + 1) η' S'
          | .bk η' S' => .nx η' S'
          | r => r
        else .bad
      | none => .bad
    | none => .bad
def unlockR (l : Option Nat) : SRes → SRes
  | .nx η S => match unlockS S l with
    | some S' => .nx η S'
    | none => .bad
  | .rt w S => match unlockS S l with
    | some S' => .rt w S'
    | none => .bad
  | .bk η S => match unlockS S l with
    | some S' => .bk η S'
    | none => .bad
  | .ct η S => match unlockS S l with
    | some S' => .ct η S'
    | none => .bad
  | .exc c fs η S => match l with
    | none => .exc c fs η S
    | some _ => .bad
  | .bad => .bad
def whileMax : Nat := 1000000000
def whileLoop (c : Env → Sto → Res Bool) (f : Env → Sto → SRes) : Nat → Env → Sto → SRes
  | 0, _, _ => .bad
  | k + 1, η, S => (c η S).go η fun b S1 => match b with
    | false => .nx η S1
    | true => match f η S1 with
      | .nx η' S' => whileLoop c f k η' S'
      | .ct η' S' => whileLoop c f k η' S'
      | .bk η' S' => .nx η' S'
      | r => r
/-- the text of a part of an f-string -/
def fmtW : W → Option Str
  | .str x => some x
  | .int i => if i.natAbs.log2 < 1920 then some (toString i) else none
  | _ => none

/-- the types that have a method -/
def mthOk (m : Mth) (t : Option String) : Bool := match m with
  | .append | .extend | .insert => decide (t = some "list")
  | .pop | .clear => decide (t = some "list") || decide (t = some "dict")
  | .get => decide (t = some "dict")
  | .join | .upper | .split => decide (t = some "str")
def mthGo (m : Mth) (x : W) (t : Option String) (xs : List W) (S : Sto) : Res W := if tyW S x = t then mthW m x xs S else .bad

/-! ### the evaluator -/
abbrev Fns := Str → List W → Sto → Res W
def E.isNil : E → Bool
  | .nil => true
  | _ => false
def E.isNo : E → Bool
  | .noE => true
  | _ => false
/-- a slice's part; r: its evaluation -/
def partOf (e : E) (S : Sto) (r : Res W) : Res (Option Int) := if e.isNo then .ok none S else r.bind fun w S1 => match w with
  | .int i => .ok (some i) S1
  | _ => .bad
def truthR (r : Res W) : Res Bool := r.bind fun w S1 => match truthW S1 w with
  | some t => .ok t S1
  | none => .bad
def condOf (e : E) (S : Sto) (r : Res W) : Res Bool := if e.isNo then .ok true S else truthR r
mutual
/-- names stored, tuples taken apart -/
def bindT : E → W → Env → Option Env
  | .v i, w, η => some (η.set i (some w))
  | .tup es, w, η => match w with
    | .tup ws => bindTs es ws η
    | _ => none
  | _, _, _ => none
def bindTs : E → List W → Env → Option Env
  | .nil, ws, η => match ws with
    | [] => some η
    | _ => none
  | .cons a r, ws, η => match ws with
    | w :: vs => (bindT a w η).bind (bindTs r vs)
    | [] => none
  | _, _, _ => none
end
def pairUp : List W → Option (List (W × W))
  | [] => some []
  | k :: v :: r => (pairUp r).map ((k, v) :: ·)
  | _ => none
/-- a dict's display -/
def dispW (ws : List W) (S : Sto) : Res W := match pairUp ws with
  | some kvs => if kvs.all (fun kv => flatKey kv.1) ∧ kvs.length ≤ 15 then .ok (.ref S.length) (S ++ [.dct (kvs.foldl (fun acc kv => keyPut acc kv.1 kv.2) [])]) else .bad
  | none => .bad
def globW : E → Sto → Res W
  | .kI i, S => .ok (.int i) S
  | .kS x, S => .ok (.str x) S
  | _, _ => .bad
def revW (x : W) (S : Sto) : Res W := match x with
  | .tup ws => .ok (.tup ws.reverse) S
  | .ref n => match lstOf S n with
    | some ws => .ok (.ref S.length) (S ++ [.lst ws.reverse])
    | none => .bad
  | _ => .bad
def negW (x : W) (S : Sto) : Res W := match x with
  | .int i => .ok (.int (-i)) S
  | _ => .bad
/-- an exception's classes -/
def isxW (all : List Str) (ds : List (Str × List Str)) (x : W) : Option Bool := match x with
  | .non => some false
  | .exc c _ _ => if all.contains c then some (ds.any fun d => d.2.contains c) else none
  | _ => none
def fldV (f : Str) (cs : List Str) (x : W) (S : Sto) : Res W := match x with
  | .exc c fn ws => if cs.contains c then match fn, ws with
      | [g], [w] => if g = f then .ok w S else .bad
      | _, _ => .bad
    else .bad
  | _ => .bad
mutual
def eval (Φ : Fns) : E → Env → Sto → Res W
  | .v i, η, S => match η[i]? with
    | some (some w) => .ok w S
    | _ => .bad
  | .kN, _, S => .ok .non S
  | .kB b, _, S => .ok (.bl b) S
  | .kI i, _, S => .ok (.int i) S
  | .kS x, _, S => .ok (.str x) S
  | .glob _ w, _, S => globW w S
  | .tup es, η, S => (evals Φ es η S).bind fun ws S1 => if ws.length ≤ sizeLine then .ok (.tup ws) S1 else .bad
  | .lst es, η, S => (evals Φ es η S).bind newLst
  | .dct kvs, η, S => (evals Φ kvs η S).bind dispW
  | .bin o a b, η, S => (eval Φ a η S).bind fun x S1 => (eval Φ b η S1).bind (binW o x)
  | .neg a, η, S => (eval Φ a η S).bind negW
  | .not a, η, S => (truthR (eval Φ a η S)).bind fun b S1 => .ok (.bl !b) S1
  | .boo o es, η, S => evalB Φ o es η S
  | .cmp o a b, η, S => (eval Φ a η S).bind fun x S1 => (eval Φ b η S1).bind (cmpW o x)
  | .chain o p a b c, η, S => (eval Φ a η S).bind fun x S1 => (eval Φ b η S1).bind fun y S2 => (cmpW o x y S2).bind fun z S3 => match z with
    | .bl true => (eval Φ c η S3).bind (cmpW p y)
    | .bl false => .ok (.bl false) S3
    | _ => .bad
  | .ite c a b, η, S => (truthR (eval Φ c η S)).bind fun t S1 => match t with
    | true => eval Φ a η S1
    | false => eval Φ b η S1
  | .ix a i, η, S => (eval Φ a η S).bind fun x S1 => (eval Φ i η S1).bind (ixW x)
  | .sl a lo hi, η, S => (eval Φ a η S).bind fun x S1 => (partOf lo S1 (eval Φ lo η S1)).bind fun l S2 => (partOf hi S2 (eval Φ hi η S2)).bind (slW x l)
  | .rev a, η, S => (eval Φ a η S).bind revW
  | .call f es, η, S => (evals Φ es η S).bind (Φ f)
  | .bif f es, η, S => (evals Φ es η S).bind (bifW f)
  | .isi a us, η, S => (eval Φ a η S).bind fun x S1 => boolR S1 (isiW S1 x us)
  | .isx a all ds, η, S => (eval Φ a η S).bind fun x S1 => boolR S1 (isxW all ds x)
  | .fld a f cs, η, S => (eval Φ a η S).bind (fldV f cs)
  | .new0 c, _, S => .ok (.exc c [] []) S
  | .new1 c f a, η, S => (eval Φ a η S).bind fun w S1 => .ok (.exc c [f] [w]) S1
  | .mth m o es, η, S => (eval Φ o η S).bind fun x S1 => if mthOk m (tyW S1 x) then (evals Φ es η S1).bind (mthGo m x (tyW S1 x)) else .bad
  | .lc elt tg k it c own, η, S => (evals Φ it η S).bind fun xs S1 => match srcOf k xs S1 with
    | none => .bad
    | some (src, l) => match src.now S1 with
      | none => .bad
      | some ws0 => (lcLoop src (fun w S' => match bindT tg w (wipeW η (own.map (·.2))) with
          | none => .bad
          | some η1 => ((condOf c S' (eval Φ c η1 S')).bind fun t S3 => match t with
            | true => (eval Φ elt η1 S3).bind fun y S4 => .ok (some y) S4
            | false => .ok none S3).nox) ws0.length 0 [] (lockS S1 l)).bind fun acc S5 => match unlockS S5 l with
              | some S6 => newLst acc S6
              | none => .bad
  | .fs es, η, S => (evalF Φ es Str.empty η S).bind fun x S1 => .ok (.str x) S1
  | .nil, _, _ => .bad
  | .cons _ _, _, _ => .bad
  | .noE, _, _ => .bad
def evals (Φ : Fns) : E → Env → Sto → Res (List W)
  | .nil, _, S => .ok [] S
  | .cons a r, η, S => (eval Φ a η S).bind fun w S1 => (evals Φ r η S1).bind fun ws S2 => .ok (w :: ws) S2
  | _, _, _ => .bad
def evalF (Φ : Fns) : E → Str → Env → Sto → Res Str
  | .nil, acc, _, S => .ok acc S
  | .cons a r, acc, η, S => (eval Φ a η S).bind fun w S1 => match fmtW w with
    | some y => if (acc ++ y).length ≤ sizeLine then evalF Φ r (acc ++ y) η S1 else .bad
    | none => .bad
  | _, _, _, _ => .bad
def evalB (Φ : Fns) (o : Bool) : E → Env → Sto → Res W
  | .cons a r, η, S => if r.isNil then eval Φ a η S else (eval Φ a η S).bind fun x S1 => match truthW S1 x with
    | some t => if t = o then evalB Φ o r η S1 else .ok x S1
    | none => .bad
  | _, _, _ => .bad
end
mutual
/-- a value stored into a target -/
def asgE (Φ : Fns) : E → W → Env → Sto → Res Env
  | .v i, w, η, S => .ok (η.set i (some w)) S
  | .tup es, w, η, S => match w with
    | .tup ws => asgEs Φ es ws η S
    | _ => .bad
  | .ix o i, w, η, S => (eval Φ o η S).bind fun x S1 => (eval Φ i η S1).bind fun y S2 => (setW x y w S2).bind fun _ S3 => .ok η S3
  | _, _, _, _ => .bad
def asgEs (Φ : Fns) : E → List W → Env → Sto → Res Env
  | .nil, ws, η, S => match ws with
    | [] => .ok η S
    | _ => .bad
  | .cons a r, ws, η, S => match ws with
    | w :: vs => (asgE Φ a w η S).bind fun η1 S1 => asgEs Φ r vs η1 S1
    | [] => .bad
  | _, _, _, _ => .bad
end
def fieldsOf : List Str → List W → Option (List (Str × W))
  | [], [] => some []
  | x :: r, w :: s => (fieldsOf r s).map ((x, w) :: ·)
  | _, _ => none
def exec (Φ : Fns) : T → Env → Sto → SRes
  | .nil, η, S => .nx η S
  | .seq s t, η, S => match exec Φ s η S with
    | .nx η1 S1 => exec Φ t η1 S1
    | r => r
  | .asg tg e, η, S => (eval Φ e η S).go η fun w S1 => (asgE Φ tg w η S1).go η fun η1 S2 => .nx η1 S2
  | .aug i o e, η, S => match η[i]? with
    | some (some x) => (eval Φ e η S).go η fun y S1 => (augW o x y S1).go η fun z S2 => .nx (η.set i (some z)) S2
    | _ => .bad
  | .ex e, η, S => (eval Φ e η S).go η fun _ S1 => .nx η S1
  | .ret e, η, S => (eval Φ e η S).go η fun w S1 => .rt w S1
  | .retN, _, S => .rt .non S
  | .ite c s t, η, S => (truthR (eval Φ c η S)).go η fun b S1 => match b with
    | true => exec Φ s η S1
    | false => exec Φ t η S1
  | .for_ tg k it s, η, S => (evals Φ it η S).go η fun xs S1 => match srcOf k xs S1 with
    | none => .bad
    | some (src, l) => match src.now S1 with
      | none => .bad
      | some ws0 => unlockR l (forLoop src (fun w η' S' => match bindT tg w η' with
          | none => .bad
          | some η1 => exec Φ s η1 S') ws0.length 0 η (lockS S1 l))
  | .whl c s, η, S => whileLoop (fun η' S' => truthR (eval Φ c η' S')) (fun η' S' => exec Φ s η' S') whileMax η S
  | .brk, η, S => .bk η S
  | .cnt, η, S => .ct η S
  | .pass, η, S => .nx η S
  | .raise _ _ _, _, _ => .bad
  | .rse c fn es, η, S => (evals Φ es η S).go η fun ws S1 => if fn.length = ws.length then .exc c (fn.zip ws) η S1 else .bad
  | .tryx s _ all below _ j, η, S => match exec Φ s η S with
    | .exc c fs η1 S1 => if all.contains c then (if below.contains c then .nx ((List.replicate η.length none).set j (some (.exc c (fs.map (·.1)) (fs.map (·.2))))) S1 else .exc c fs η1 S1) else .bad
    | r => r
/-- a def: how many names it has, its parameters' number, its body -/
structure Def where
  params : List Str
  names : List Str
  body : T
def startW (d : Def) (ws : List W) : Env := ws.map some ++ List.replicate (d.names.length - ws.length) none
def runDef (Φ : Fns) (d : Def) (ws : List W) (S : Sto) : Res W := if ws.length = d.params.length then match exec Φ d.body (startW d ws) S with
    | .nx _ S' => .ok .non S'
    | .rt w S' => .ok w S'
    | .exc c fs _ S' => .exc c fs S'
    | _ => .bad
  else .bad
/-- the defs of a text, called at most n deep -/
def callN (Γ : List (Str × Def)) : Nat → Fns
  | 0 => fun _ _ _ => .bad
  | n + 1 => fun f ws S => match Γ.lookup f with
    | some d => runDef (callN Γ n) d ws S
    | none => .bad
end PI

set_option Elab.async false
set_option linter.all false
set_option maxRecDepth 100000
set_option maxHeartbeats 4000000
/-! the evaluator's store beside the machine's heap -/
namespace PI
open PySem PySem.Spec PyProof.Rows L2

/-- a list that stands still -/
def SqF (K : PySem.W.Frag) (H : Hp) (a : Addr) (xs : List V) : Prop :=
  (∃ ob, H a = some (.frz ob (.lst xs))) ∨ ∃ (o : Obj) (its : Array Value) (n : Nat), K.lookup a = some o ∧ o.cls = .type "list" ∧ o.dict = none ∧ o.data = .seq its n ∧ its.size ≤ sizeLine ∧ Vals xs its.toList
theorem SqF.sql {K : PySem.W.Frag} {H : Hp} {a : Addr} {xs : List V} (h : SqF K H a xs) : SqL K H a xs := by
  rcases h with ⟨ob, h⟩ | ⟨o, its, n, h⟩
  · exact .inl (.inr ⟨ob, h⟩)
  · exact .inr ⟨o, its, n, h⟩
/-- the module's objects that are told of, and its names -/
structure KM where
  K : PySem.W.Frag
  mg : Str → Option Value
abbrev _root_.L2.Cx.J (X : L2.Cx) : KM := ⟨X.K, X.mg⟩
/-- an exception's object -/
def ExA (cls : Value) (d : Option Addr) (a : Addr) : HO := .ext fun h => ∃ (oe : Obj) (vs : Array Value), h.get? a = some oe ∧ Zc cls d oe ∧ oe.data = .fields vs
section
variable (P : Program) (w : World) (K : KM)
mutual
/-- a value of the evaluator beside one of the layer; ρ: where the store's objects stand -/
inductive RW (ρ : List Addr) (H : Hp) : W → V → Prop
  | non : RW ρ H .non .non
  | bl (b : Bool) : RW ρ H (.bl b) (.bl b)
  | int (i : Int) : RW ρ H (.int i) (.int i)
  | str (x : Str) : RW ρ H (.str x) (.str x)
  | tup {a : Addr} {ws : List W} {vs : List V} : SqT K.K H a vs → RWs ρ H ws vs → RW ρ H (.tup ws) (.ref a)
  | ref {n : Nat} {a : Addr} : ρ[n]? = some a → RW ρ H (.ref n) (.ref a)
  | scr {a : Addr} {ws : List W} {vs : List V} : SqF K.K H a vs → RWs ρ H ws vs → RW ρ H (.scr ws) (.ref a)
  | exc {a : Addr} {c : Str} {fn : List Str} {ws : List W} {vs : List V} {cls : Value} {d : Option Addr} : K.mg c = some cls → a ∉ ρ → H a = some (ExA cls d a) → (fn = [] ∧ d = none ∨ ∃ dx, d = some dx ∧ dx ∉ ρ ∧ H dx = some (.xd (fn.zip vs))) → fn.length = ws.length → RWs ρ H ws vs → RW ρ H (.exc c fn ws) (.ref a)
inductive RWs (ρ : List Addr) (H : Hp) : List W → List V → Prop
  | nil : RWs ρ H [] []
  | cons {w : W} {v : V} {ws : List W} {vs : List V} : RW ρ H w v → RWs ρ H ws vs → RWs ρ H (w :: ws) (v :: vs)
end
/-- a key of a dict with ints and texts -/
def kOf : W → Option Key
  | .int i => some (.inl i)
  | .str x => some (.inr x)
  | _ => none
/-- a dict with ints and texts as keys -/
abbrev RK (ρ : List Addr) (H : Hp) : List (W × W) → List (Key × V) → Prop := Paired fun p q => kOf p.1 = some q.1 ∧ RW K ρ H p.2 q.2
mutual
def nkOf : W → Option NestedKey
  | .non => some .none
  | .int i => some (.num i)
  | .str x => some (.text x)
  | .tup ws => (nksOf ws).map .tup
  | _ => none
def nksOf : List W → Option (List NestedKey)
  | [] => some []
  | w :: ws => match nkOf w, nksOf ws with
    | some k, some ks => some (k :: ks)
    | _, _ => none
end
/-- a dict whose keys are tuples, nested: its own object -/
def NDict (d : Addr) (xs : List (NestedKey × Addr × Value)) : HO := .ext fun h => ∃ o es ep, h.get? d = some o ∧ o.ExactDict ∧ o.data = .dict es ep ∧ es.toList = xs.map (entryOfKey (nestedKind P w)) ∧ (xs.map (·.1)).Nodup
abbrev RN (ρ : List Addr) (H : Hp) : List (W × W) → List (NestedKey × Addr × Value) → Prop :=
  Paired fun p q => (tupKey p.1 = true ∧ nkOf p.1 = some q.1) ∧ RW K ρ H p.1 (.ref q.2.1) ∧ ∃ x, RelV x q.2.2 ∧ RW K ρ H p.2 x
/-- an object of the store at an address -/
inductive RO (ρ : List Addr) (H : Hp) (a : Addr) : O → Prop
  | lst {ws : List W} {vs : List V} : H a = some (.lst vs) → RWs K ρ H ws vs → RO ρ H a (.lst ws)
  | dK {kvs : List (W × W)} {qs : List (Key × V)} : H a = some (.dK qs) → RK K ρ H kvs qs → RO ρ H a (.dct kvs)
  | dN {kvs : List (W × W)} {xs : List (NestedKey × Addr × Value)} : H a = some (NDict P w a xs) → (a == sysModules) = false → RN K ρ H kvs xs → kvs.length ≤ sizeLine → RO ρ H a (.dct kvs)
  | fK {kvs : List (W × W)} {qs : List (Key × V)} {o : Obj} : H a = some (.frz o (.dK qs)) → RK K ρ H kvs qs → RO ρ H a (.fdct kvs)
  | fN {kvs : List (W × W)} {xs : List (NestedKey × Addr × Value)} {o : Obj} : H a = some (.frz o (NDict P w a xs)) → (a == sysModules) = false → RN K ρ H kvs xs → kvs.length ≤ sizeLine → RO ρ H a (.fdct kvs)
/-- the store beside the heap -/
structure Rel (ρ : List Addr) (S : Sto) (H : Hp) : Prop where
  len : ρ.length = S.length
  inj : ∀ n m a : Nat, ρ[n]? = some a → ρ[m]? = some a → n = m
  obj : ∀ (n : Nat) (o : O) (a : Addr), S[n]? = some o → ρ[n]? = some a → RO P w K ρ H a o
/-- what came behind -/
structure Le (ρ : List Addr) (H : Hp) (ρ' : List Addr) (H' : Hp) : Prop where
  pre : ∃ l, ρ' = ρ ++ l ∧ ∀ a ∈ l, a ∉ ρ → H a = none
  sqt : ∀ a xs, SqT K.K H a xs → SqT K.K H' a xs
  keep : ∀ a o, H a = some o → a ∉ ρ → H' a = some o
  frz : ∀ a ob u, H a = some (.frz ob u) → H' a = some (.frz ob u)
structure REnv (ρ : List Addr) (H : Hp) (η : Env) (σ : L2.St) : Prop where
  len : η.length = σ.length
  at_ : ∀ (i : Nat) (x : W), η[i]? = some (some x) → ∃ v, σ[i]? = some (some v) ∧ RW K ρ H x v
end

section
variable {P : Program} {w : World} {K : KM} {ρ ρ1 ρ2 : List Addr} {H H1 H2 : Hp} {S S1 : Sto}
theorem Le.refl : Le K ρ H ρ H := ⟨⟨[], by simp, fun _ h => by cases h⟩, fun _ _ h => h, fun _ _ h _ => h, fun _ _ _ h => h⟩
theorem Le.trans (x : Le K ρ H ρ1 H1) (y : Le K ρ1 H1 ρ2 H2) : Le K ρ H ρ2 H2 := by
  obtain ⟨l, e, f⟩ := x.pre
  obtain ⟨l', e', f'⟩ := y.pre
  refine ⟨⟨l ++ l', by rw [e', e, List.append_assoc], fun a ha hn => ?_⟩, fun a xs h => y.sqt a xs (x.sqt a xs h), fun a o h hn => ?_, fun a ob u h => y.frz a ob u (x.frz a ob u h)⟩
  · by_cases ha' : a ∈ l
    · exact f a ha' hn
    · have hl : a ∈ l' := (List.mem_append.mp ha).resolve_left ha'
      have h1 : H1 a = none := f' a hl (by rw [e]; simp [hn, ha'])
      cases q : H a with
      | none => rfl
      | some o =>
        rw [x.keep a o q hn] at h1
        cases h1
  · refine y.keep a o (x.keep a o h hn) ?_
    rw [e]
    intro hm
    rcases List.mem_append.mp hm with hm | hm
    · exact hn hm
    · rw [f a hm hn] at h
      cases h
theorem Le.at_ (x : Le K ρ H ρ1 H1) {n : Nat} {a : Addr} (h : ρ[n]? = some a) : ρ1[n]? = some a := by
  obtain ⟨l, e, _⟩ := x.pre
  have hl := (List.getElem?_eq_some_iff.mp h).1
  rw [e, List.getElem?_append_left hl]
  exact h
theorem Le.sqf (x : Le K ρ H ρ1 H1) {a : Addr} {xs : List V} (h : SqF K.K H a xs) : SqF K.K H1 a xs := by
  rcases h with ⟨ob, h⟩ | h
  · exact .inl ⟨ob, x.frz _ _ _ h⟩
  · exact .inr h
theorem Le.notin (x : Le K ρ H ρ1 H1) {a : Addr} {o : HO} (hn : a ∉ ρ) (h : H a = some o) : a ∉ ρ1 := by
  obtain ⟨l, e, f⟩ := x.pre
  rw [e]
  intro hm
  rcases List.mem_append.mp hm with hm | hm
  · exact hn hm
  · rw [f a hm hn] at h
    cases h
theorem Le.xd (x : Le K ρ H ρ1 H1) {fn : List Str} {vs : List V} {d : Option Addr} (h : fn = [] ∧ d = none ∨ ∃ dx, d = some dx ∧ dx ∉ ρ ∧ H dx = some (.xd (fn.zip vs))) : fn = [] ∧ d = none ∨ ∃ dx, d = some dx ∧ dx ∉ ρ1 ∧ H1 dx = some (.xd (fn.zip vs)) := by
  rcases h with h | ⟨dx, h1, h2, h3⟩
  · exact .inl h
  · exact .inr ⟨dx, h1, x.notin h2 h3, x.keep _ _ h3 h2⟩
mutual
theorem RW.mono (x : Le K ρ H ρ1 H1) : ∀ {u : W} {v : V}, RW K ρ H u v → RW K ρ1 H1 u v
  | _, _, .non => .non
  | _, _, .bl b => .bl b
  | _, _, .int i => .int i
  | _, _, .str z => .str z
  | _, _, .tup h r => .tup (x.sqt _ _ h) (RWs.mono x r)
  | _, _, .ref h => .ref (x.at_ h)
  | _, _, .scr h r => .scr (x.sqf h) (RWs.mono x r)
  | _, _, .exc h1 h2 h3 h4 h5 r => .exc h1 (x.notin h2 h3) (x.keep _ _ h3 h2) (x.xd h4) h5 (RWs.mono x r)
theorem RWs.mono (x : Le K ρ H ρ1 H1) : ∀ {u : List W} {v : List V}, RWs K ρ H u v → RWs K ρ1 H1 u v
  | _, _, .nil => .nil
  | _, _, .cons h r => .cons (RW.mono x h) (RWs.mono x r)
end
theorem REnv.mono {η : Env} {σ : L2.St} (x : Le K ρ H ρ1 H1) (r : REnv K ρ H η σ) : REnv K ρ1 H1 η σ :=
  ⟨r.len, fun i u h => let ⟨v, e, q⟩ := r.at_ i u h; ⟨v, e, q.mono x⟩⟩
theorem REnv.set {η : Env} {σ : L2.St} (r : REnv K ρ H η σ) (i : Nat) {u : W} {v : V} (q : RW K ρ H u v) : REnv K ρ H (η.set i (some u)) (σ.set i (some v)) := by
  refine ⟨by rw [List.length_set, List.length_set, r.len], fun j x h => ?_⟩
  by_cases e : i = j
  · subst e
    have hl : i < η.length := by
      have := (List.getElem?_eq_some_iff.mp h).1
      rwa [List.length_set] at this
    rw [List.getElem?_set_self hl] at h
    cases h
    exact ⟨v, by rw [List.getElem?_set_self (by rw [← r.len]; exact hl)], q⟩
  · rw [List.getElem?_set_ne e] at h
    rw [List.getElem?_set_ne e]
    exact r.at_ j x h
theorem REnv.wipe1 {η : Env} {σ : L2.St} (r : REnv K ρ H η σ) (i : Nat) : REnv K ρ H (η.set i none) (σ.set i none) := by
  refine ⟨by rw [List.length_set, List.length_set, r.len], fun j x h => ?_⟩
  by_cases e : i = j
  · subst e
    by_cases hl : i < η.length
    · rw [List.getElem?_set_self hl] at h
      cases h
    · rw [List.getElem?_eq_none (by simpa using hl)] at h
      cases h
  · rw [List.getElem?_set_ne e] at h
    rw [List.getElem?_set_ne e]
    exact r.at_ j x h
theorem REnv.wipe {η : Env} {σ : L2.St} (r : REnv K ρ H η σ) : ∀ vs : List Nat, REnv K ρ H (wipeW η vs) (L2.wipe σ vs)
  | [] => r
  | v :: vs => (REnv.wipe r vs).wipe1 v
theorem RWs.length : ∀ {u : List W} {v : List V}, RWs K ρ H u v → u.length = v.length
  | _, _, .nil => rfl
  | _, _, .cons _ r => by simp [RWs.length r]
theorem RWs.get : ∀ {u : List W} {v : List V} {i : Nat} {x : W}, RWs K ρ H u v → u[i]? = some x → ∃ y, v[i]? = some y ∧ RW K ρ H x y
  | _, _, _, _, .nil, e => by simp at e
  | _, _, 0, _, .cons h _, e => by simp at e; subst e; exact ⟨_, rfl, h⟩
  | _, _, i + 1, x, .cons _ r, e => by
    obtain ⟨y, h1, h2⟩ := RWs.get (i := i) (x := x) r (by simpa using e)
    exact ⟨y, by simpa using h1, h2⟩
theorem RWs.get' : ∀ {u : List W} {v : List V} {i : Nat} {y : V}, RWs K ρ H u v → v[i]? = some y → ∃ x, u[i]? = some x ∧ RW K ρ H x y
  | _, _, _, _, .nil, e => by simp at e
  | _, _, 0, _, .cons h _, e => by simp at e; subst e; exact ⟨_, rfl, h⟩
  | _, _, i + 1, x, .cons _ r, e => by
    obtain ⟨y, h1, h2⟩ := RWs.get' (i := i) r (by simpa using e)
    exact ⟨y, by simpa using h1, h2⟩
theorem RWs.append : ∀ {u u' : List W} {v v' : List V}, RWs K ρ H u v → RWs K ρ H u' v' → RWs K ρ H (u ++ u') (v ++ v')
  | _, _, _, _, .nil, s => s
  | _, _, _, _, .cons h r, s => .cons h (RWs.append r s)
theorem RWs.take : ∀ {u : List W} {v : List V} (n : Nat), RWs K ρ H u v → RWs K ρ H (u.take n) (v.take n)
  | _, _, 0, _ => .nil
  | _, _, _ + 1, .nil => .nil
  | _, _, n + 1, .cons h r => .cons h (RWs.take n r)
theorem RWs.drop : ∀ {u : List W} {v : List V} (n : Nat), RWs K ρ H u v → RWs K ρ H (u.drop n) (v.drop n)
  | _, _, 0, r => r
  | _, _, _ + 1, .nil => .nil
  | _, _, n + 1, .cons _ r => RWs.drop n r
theorem RWs.set : ∀ {u : List W} {v : List V} (i : Nat) {x : W} {y : V}, RWs K ρ H u v → RW K ρ H x y → RWs K ρ H (u.set i x) (v.set i y)
  | _, _, _, _, _, .nil, _ => .nil
  | _, _, 0, _, _, .cons _ r, q => .cons q r
  | _, _, i + 1, _, _, .cons h r, q => .cons h (RWs.set i r q)
theorem RWs.eraseIdx : ∀ {u : List W} {v : List V} (i : Nat), RWs K ρ H u v → RWs K ρ H (u.eraseIdx i) (v.eraseIdx i)
  | _, _, _, .nil => by simpa using RWs.nil
  | _, _, 0, .cons _ r => by simpa using r
  | _, _, i + 1, .cons h r => by simpa using RWs.cons h (RWs.eraseIdx i r)
theorem RWs.dropLast {u : List W} {v : List V} (h : RWs K ρ H u v) : RWs K ρ H u.dropLast v.dropLast := by
  rw [List.dropLast_eq_take, List.dropLast_eq_take, h.length]
  exact h.take _
theorem RWs.reverse : ∀ {u : List W} {v : List V}, RWs K ρ H u v → RWs K ρ H u.reverse v.reverse
  | _, _, .nil => .nil
  | _, _, .cons h r => by
    rw [List.reverse_cons, List.reverse_cons]
    exact (RWs.reverse r).append (.cons h .nil)
theorem RWs.rep {u : List W} {v : List V} (h : RWs K ρ H u v) : ∀ k : Nat, RWs K ρ H (List.replicate k u).flatten (List.replicate k v).flatten
  | 0 => .nil
  | k + 1 => by
    rw [List.replicate_succ, List.replicate_succ, List.flatten_cons, List.flatten_cons]
    exact h.append (RWs.rep h k)
theorem RWs.isEmpty : ∀ {u : List W} {v : List V}, RWs K ρ H u v → u.isEmpty = v.isEmpty
  | _, _, .nil => rfl
  | _, _, .cons _ _ => rfl
theorem RK.mono {kvs : List (W × W)} {qs : List (Key × V)} (x : Le K ρ H ρ1 H1) (r : RK K ρ H kvs qs) : RK K ρ1 H1 kvs qs := Paired.mapP r fun _ _ z => ⟨z.1, z.2.mono x⟩
theorem RN.mono {kvs : List (W × W)} {xs : List (NestedKey × Addr × Value)} (x : Le K ρ H ρ1 H1) (r : RN K ρ H kvs xs) : RN K ρ1 H1 kvs xs :=
  Paired.mapP r fun _ _ z => ⟨z.1, z.2.1.mono x, let ⟨y, h1, h2⟩ := z.2.2; ⟨y, h1, h2.mono x⟩⟩
/-- an object stays what it is if its address does -/
theorem RO.mono {a : Addr} {o : O} (x : Le K ρ H ρ1 H1) (ha : ∀ u, H a = some u → H1 a = some u) (r : RO P w K ρ H a o) : RO P w K ρ1 H1 a o := by
  cases r with
  | lst h r => exact .lst (ha _ h) (r.mono x)
  | dK h r => exact .dK (ha _ h) (RK.mono x r)
  | dN h z r hl => exact .dN (ha _ h) z (RN.mono x r) hl
  | fK h r => exact .fK (ha _ h) (RK.mono x r)
  | fN h z r hl => exact .fN (ha _ h) z (RN.mono x r) hl
theorem sqt_upd {p : Addr} {o : HO} (hp : ∀ u, H p = some u → (∀ xs, u ≠ .tup xs) ∧ ∀ ob xs, u ≠ .frz ob (.tup xs)) (a : Addr) (xs : List V) (h : SqT K.K H a xs) : SqT K.K (upd H p o) a xs := by
  rcases h with (h | ⟨ob, h⟩) | h
  · have hne : a ≠ p := fun e => (hp _ (e ▸ h)).1 xs rfl
    exact .inl (.inl (by rw [upd_ne hne]; exact h))
  · have hne : a ≠ p := fun e => (hp _ (e ▸ h)).2 ob xs rfl
    exact .inl (.inr ⟨ob, by rw [upd_ne hne]; exact h⟩)
  · exact .inr h
theorem sqt_new {p : Addr} {o : HO} (hp : H p = none) (a : Addr) (xs : List V) (h : SqT K.K H a xs) : SqT K.K (upd H p o) a xs := sqt_upd (fun u e => by rw [hp] at e; cases e) a xs h
/-- a new object of the heap, not of the store (a tuple) -/
theorem Le.new {p : Addr} {o : HO} (hp : H p = none) : Le K ρ H ρ (upd H p o) :=
  ⟨⟨[], by simp, fun _ h => by cases h⟩, sqt_new hp, fun a u h _ => by rw [upd_ne (ne_of_none h hp)]; exact h, fun a ob u h => by rw [upd_ne (ne_of_none h hp)]; exact h⟩
theorem Rel.new {p : Addr} {o : HO} (r : Rel P w K ρ S H) (hp : H p = none) : Rel P w K ρ S (upd H p o) :=
  ⟨r.len, r.inj, fun n ob a h1 h2 => (r.obj n ob a h1 h2).mono (Le.new hp) fun u e => by rw [upd_ne (ne_of_none e hp)]; exact e⟩
/-- a new object of the store -/
theorem Le.alloc {p : Addr} {o : HO} (hp : H p = none) : Le K ρ H (ρ ++ [p]) (upd H p o) :=
  ⟨⟨[p], rfl, fun a h _ => by rw [List.mem_singleton.mp h]; exact hp⟩, sqt_new hp, fun a u h _ => by rw [upd_ne (ne_of_none h hp)]; exact h, fun a ob u h => by rw [upd_ne (ne_of_none h hp)]; exact h⟩
/-- an address that is not a K-list's is tracked -/
theorem RO.there {a : Addr} {o : O} (r : RO P w K ρ H a o) : ∃ u, H a = some u := by
  cases r with
  | lst h r => exact ⟨_, h⟩
  | dK h r => exact ⟨_, h⟩
  | dN h z r hl => exact ⟨_, h⟩
  | fK h r => exact ⟨_, h⟩
  | fN h z r hl => exact ⟨_, h⟩
theorem Rel.notin (r : Rel P w K ρ S H) {p : Addr} (hp : H p = none) : p ∉ ρ := fun hm => by
  obtain ⟨n, hn⟩ := List.mem_iff_getElem?.mp hm
  have hl : n < S.length := by rw [← r.len]; exact (List.getElem?_eq_some_iff.mp hn).1
  obtain ⟨u, e⟩ := (r.obj n S[n] p (by simp [hl]) hn).there
  rw [hp] at e
  cases e
theorem Rel.alloc {p : Addr} {ho : HO} {o : O} (r : Rel P w K ρ S H) (hp : H p = none) (new : RO P w K (ρ ++ [p]) (upd H p ho) p o) : Rel P w K (ρ ++ [p]) (S ++ [o]) (upd H p ho) := by
  have L : Le K ρ H (ρ ++ [p]) (upd H p ho) := Le.alloc hp
  have tr : ∀ n : Nat, ρ[n]? = some p → False := fun n e => r.notin hp (List.mem_of_getElem? e)
  refine ⟨by simp [r.len], fun n m a h1 h2 => ?_, fun n ob a h1 h2 => ?_⟩
  · by_cases hn : n < ρ.length
    · rw [List.getElem?_append_left hn] at h1
      by_cases hm : m < ρ.length
      · rw [List.getElem?_append_left hm] at h2
        exact r.inj n m a h1 h2
      · rw [List.getElem?_append_right (by omega)] at h2
        have : m - ρ.length = 0 := by
          by_cases q : m - ρ.length = 0
          · exact q
          · rw [List.getElem?_eq_none (by simp; omega)] at h2; cases h2
        rw [this] at h2
        cases h2
        exact (tr n h1).elim
    · rw [List.getElem?_append_right (by omega)] at h1
      have hn0 : n - ρ.length = 0 := by
        by_cases q : n - ρ.length = 0
        · exact q
        · rw [List.getElem?_eq_none (by simp; omega)] at h1; cases h1
      rw [hn0] at h1
      cases h1
      by_cases hm : m < ρ.length
      · rw [List.getElem?_append_left hm] at h2
        exact (tr m h2).elim
      · rw [List.getElem?_append_right (by omega)] at h2
        have : m - ρ.length = 0 := by
          by_cases q : m - ρ.length = 0
          · exact q
          · rw [List.getElem?_eq_none (by simp; omega)] at h2; cases h2
        omega
  · by_cases hn : n < ρ.length
    · rw [List.getElem?_append_left (by rw [← r.len]; exact hn)] at h1
      rw [List.getElem?_append_left hn] at h2
      exact (r.obj n ob a h1 h2).mono L fun u e => by rw [upd_ne (ne_of_none e hp)]; exact e
    · rw [List.getElem?_append_right (by omega)] at h2
      have hn0 : n - ρ.length = 0 := by
        by_cases q : n - ρ.length = 0
        · exact q
        · rw [List.getElem?_eq_none (by simp; omega)] at h2; cases h2
      rw [hn0] at h2
      cases h2
      rw [List.getElem?_append_right (by rw [← r.len]; omega), ← r.len, hn0] at h1
      cases h1
      exact new
/-- an object of the store is changed -/
theorem Le.set {n : Nat} {a : Addr} {u : HO} (hn : ρ[n]? = some a) (hp : ∀ u, H a = some u → (∀ xs, u ≠ .tup xs) ∧ ∀ ob v, u ≠ .frz ob v) : Le K ρ H ρ (upd H a u) :=
  ⟨⟨[], by simp, fun _ h => by cases h⟩, sqt_upd fun u e => ⟨(hp u e).1, fun ob xs => (hp u e).2 ob _⟩, fun b q h hb => by
    have hne : b ≠ a := fun e => hb (by rw [e]; exact List.mem_of_getElem? hn)
    rw [upd_ne hne]
    exact h, fun b ob q h => by
    have hne : b ≠ a := fun e => (hp _ (e ▸ h)).2 ob q rfl
    rw [upd_ne hne]
    exact h⟩
theorem Rel.set {n : Nat} {a : Addr} {u u' : HO} {o : O} (r : Rel P w K ρ S H) (hn : ρ[n]? = some a) (ha : H a = some u) (hp : (∀ xs, u ≠ .tup xs) ∧ ∀ ob v, u ≠ .frz ob v)
    (new : RO P w K ρ (upd H a u') a o) : Rel P w K ρ (S.set n o) (upd H a u') := by
  have L : Le K ρ H ρ (upd H a u') := Le.set hn fun q e => by rw [ha] at e; cases e; exact hp
  refine ⟨by simp [r.len], r.inj, fun m ob b h1 h2 => ?_⟩
  by_cases hm : m = n
  · subst hm
    have hl : m < S.length := by rw [← r.len]; exact (List.getElem?_eq_some_iff.mp hn).1
    rw [List.getElem?_set_self hl] at h1
    cases h1
    rw [hn] at h2
    cases h2
    exact new
  · rw [List.getElem?_set_ne (Ne.symm hm)] at h1
    have x := r.obj m ob b h1 h2
    have hb : b ≠ a := fun e => hm (r.inj m n b h2 (by rw [e]; exact hn))
    exact x.mono L fun q hq => by rw [upd_ne hb]; exact hq
end
end PI

set_option Elab.async false
set_option linter.all false
set_option maxRecDepth 100000
set_option maxHeartbeats 4000000
/-! operators: the evaluator's beside the machine's -/
namespace PI
open PySem PySem.Spec PyProof.Rows L2

/-- an exception of the evaluator beside one of the layer -/
def RX (X : Cx) (ρ : List Addr) (H : Hp) (c : Str) (fs : List (Str × W)) (cls : Value) (d : Option Addr) : Prop :=
  X.mg c = some cls ∧ match fs with
    | [] => d = none
    | (f, u) :: r => r = [] ∧ ∃ dx v, d = some dx ∧ H dx = some (.xd [(f, v)]) ∧ RW X.J ρ H u v
abbrev XW := Value → Option Addr → Hp → Prop
/-- what is asked of the world behind an evaluation -/
def Fin (X : Cx) {α : Type} (xw : XW) (ρ : List Addr) (H : Hp) (r : Res α) (Q : α → Sto → List Addr → Hp → Prop) : Prop := match r with
  | .ok a S' => ∀ ρ' H', Le X.J ρ H ρ' H' → Rel X.prog X.w X.J ρ' S' H' → Q a S' ρ' H'
  | .exc c fs S' => ∀ ρ' H' cls d, Le X.J ρ H ρ' H' → Rel X.prog X.w X.J ρ' S' H' → RX X ρ' H' c fs cls d → xw cls d H'
  | .bad => False
section
variable {X : Cx} {α β : Type} {xw : XW} {ρ ρ1 : List Addr} {H H1 : Hp}
theorem Fin.mono {r : Res α} {Q : α → Sto → List Addr → Hp → Prop} (h : Fin X xw ρ H r Q) (x : Le X.J ρ H ρ1 H1) : Fin X xw ρ1 H1 r Q := by
  cases r with
  | ok a S => exact fun ρ' H' L R => h ρ' H' (x.trans L) R
  | exc c fs S => exact fun ρ' H' cls d L R e => h ρ' H' cls d (x.trans L) R e
  | bad => exact h
theorem Fin.imp {r : Res α} {Q Q' : α → Sto → List Addr → Hp → Prop} (h : Fin X xw ρ H r Q) (k : ∀ a S' ρ' H', Le X.J ρ H ρ' H' → Rel X.prog X.w X.J ρ' S' H' → Q a S' ρ' H' → Q' a S' ρ' H') : Fin X xw ρ H r Q' := by
  cases r with
  | ok a S => exact fun ρ' H' L R => k _ _ _ _ L R (h ρ' H' L R)
  | exc c fs S => exact h
  | bad => exact h
theorem Fin.bind {r : Res α} {f : α → Sto → Res β} {Q : β → Sto → List Addr → Hp → Prop} (h : Fin X xw ρ H (r.bind f) Q) : Fin X xw ρ H r fun a S' ρ' H' => Fin X xw ρ' H' (f a S') Q := by
  cases r with
  | ok a S =>
    have h' : Fin X xw ρ H (f a S) Q := h
    exact fun ρ' H' L R => h'.mono L
  | exc c fs S => exact h
  | bad => exact h
end

/-- an answer: a value wanted by Q -/
def Ans (X : Cx) (ρ : List Addr) (H : Hp) (r : Res W) (Q : VK) : Prop := ∃ xw, Fin X xw ρ H r fun u _ ρ' H' => ∀ v, RW X.J ρ' H' u v → Q v H'
section
variable {X : Cx} {ρ : List Addr} {H : Hp} {S : Sto} {Q : VK}
theorem Ans.no (h : Ans X ρ H .bad Q) : False := let ⟨_, h⟩ := h; h
theorem Ans.now {u : W} {v : V} (h : Ans X ρ H (.ok u S) Q) (R : Rel X.prog X.w X.J ρ S H) (r : RW X.J ρ H u v) : Q v H := let ⟨_, h⟩ := h; h ρ H .refl R v r
theorem Ans.tup {ws : List W} {vs : List V} {p : Addr} (h : Ans X ρ H (.ok (.tup ws) S) Q) (R : Rel X.prog X.w X.J ρ S H) (r : RWs X.J ρ H ws vs) (hp : H p = none) : Q (.ref p) (upd H p (.tup vs)) :=
  let ⟨_, h⟩ := h
  h ρ _ (.new hp) (R.new hp) _ (.tup (.of upd_same) (r.mono (.new hp)))
theorem Ans.alloc {o : O} {ho : HO} {p : Addr} (h : Ans X ρ H (.ok (.ref S.length) (S ++ [o])) Q) (R : Rel X.prog X.w X.J ρ S H) (hp : H p = none) (new : RO X.prog X.w X.J (ρ ++ [p]) (upd H p ho) p o) : Q (.ref p) (upd H p ho) :=
  let ⟨_, h⟩ := h
  h _ _ (.alloc hp) (R.alloc hp new) _ (.ref (by rw [← R.len]; simp))
theorem Ans.lst {ws : List W} {vs : List V} {p : Addr} (h : Ans X ρ H (.ok (.ref S.length) (S ++ [.lst ws])) Q) (R : Rel X.prog X.w X.J ρ S H) (r : RWs X.J ρ H ws vs) (hp : H p = none) : Q (.ref p) (upd H p (.lst vs)) :=
  h.alloc R hp (.lst upd_same (r.mono (.alloc hp)))
theorem Ans.ite {c : Prop} [Decidable c] {r : Res W} (h : Ans X ρ H (if c then r else .bad) Q) : c ∧ Ans X ρ H r Q := by
  by_cases hc : c
  · rw [if_pos hc] at h
    exact ⟨hc, h⟩
  · rw [if_neg hc] at h
    exact h.no.elim
end

/-- a two-place operation of the evaluator, by the layer's values -/
def LR2 (X : Cx) (f : W → W → Sto → Res W) : R2 := fun x y H Q => ∃ ρ S a b, RW X.J ρ H a x ∧ RW X.J ρ H b y ∧ Rel X.prog X.w X.J ρ S H ∧ Ans X ρ H (f a b S) Q
section
variable {X : Cx} {ρ : List Addr} {H : Hp} {S : Sto}
theorem Rel.at_ (R : Rel X.prog X.w X.J ρ S H) {n : Nat} {a : Addr} (h : ρ[n]? = some a) {o : O} (e : S[n]? = some o) : RO X.prog X.w X.J ρ H a o := R.obj n o a e h
theorem rw_int {x : V} {i : Int} (h : RW X.J ρ H (.int i) x) : x = .int i := by cases h; rfl
theorem rw_bl {x : V} {i : Bool} (h : RW X.J ρ H (.bl i) x) : x = .bl i := by cases h; rfl
theorem rw_str {x : V} {i : Str} (h : RW X.J ρ H (.str i) x) : x = .str i := by cases h; rfl
theorem rw_non {x : V} (h : RW X.J ρ H .non x) : x = .non := by cases h; rfl
theorem rw_tup {x : V} {ws : List W} (h : RW X.J ρ H (.tup ws) x) : ∃ a vs, x = .ref a ∧ SqT X.K H a vs ∧ RWs X.J ρ H ws vs := by cases h with | tup h r => exact ⟨_, _, rfl, h, r⟩
theorem rw_ref {x : V} {n : Nat} (h : RW X.J ρ H (.ref n) x) : ∃ a, x = .ref a ∧ ρ[n]? = some a := by cases h with | ref h => exact ⟨_, rfl, h⟩
theorem RO.lst_inv {a : Addr} {ws : List W} (h : RO X.prog X.w X.J ρ H a (.lst ws)) : ∃ vs, H a = some (.lst vs) ∧ RWs X.J ρ H ws vs := by cases h with | lst h r => exact ⟨_, h, r⟩
/-- a list of the store, read -/
theorem Rel.lstOf (R : Rel X.prog X.w X.J ρ S H) {n : Nat} {a : Addr} (h : ρ[n]? = some a) {ws : List W} (e : lstOf S n = some ws) : ∃ vs, SqL X.K H a vs ∧ RWs X.J ρ H ws vs := by
  unfold PI.lstOf at e
  cases q : S[n]? with
  | none => rw [q] at e; cases e
  | some o =>
    rw [q] at e
    have x := R.obj n o a q h
    cases x with
    | lst h r => cases e; exact ⟨_, .of h, r⟩
    | dK h r => cases e
    | dN h z r => cases e
    | fK h r => cases e
    | fN h z r => cases e



mutual
theorem Rel.dp (R : Rel X.prog X.w X.J ρ S H) : ∀ (k : Nat) (u : W) (v : V) (d : PyData), RW X.J ρ H u v → toD S k u = some d → Dp X.K H v d
  | 0, _, _, _, _, e => by simp [toD] at e
  | k + 1, .non, _, _, r, e => by cases r; simp [toD] at e; subst e; exact .non
  | k + 1, .bl b, _, _, r, e => by cases r; simp [toD] at e; subst e; exact .bl b
  | k + 1, .int b, _, _, r, e => by cases r; simp [toD] at e; subst e; exact .int b
  | k + 1, .str b, _, _, r, e => by cases r; simp [toD] at e; subst e; exact .str b
  | k + 1, .tup ws, _, _, r, e => by
    obtain ⟨a, vs, rfl, h, r⟩ := rw_tup r
    simp only [toD] at e
    obtain ⟨ds, e1, rfl⟩ := Option.map_eq_some_iff.mp e
    exact .tup h (Rel.dps R k ws vs ds r e1)
  | k + 1, .ref n, _, _, r, e => by
    obtain ⟨a, rfl, h⟩ := rw_ref r
    simp only [toD] at e
    obtain ⟨ws, e0, e⟩ := Option.bind_eq_some_iff.mp e
    obtain ⟨ds, e1, rfl⟩ := Option.map_eq_some_iff.mp e
    obtain ⟨vs, h1, r1⟩ := R.lstOf h e0
    exact .lst h1 (Rel.dps R k ws vs ds r1 e1)
  termination_by k u => (k, 0)
theorem Rel.dps (R : Rel X.prog X.w X.J ρ S H) : ∀ (k : Nat) (ws : List W) (vs : List V) (ds : List PyData), RWs X.J ρ H ws vs → optAll (ws.map (toD S k)) = some ds → DpAll X.K H vs ds
  | k, [], _, _, r, e => by cases r; cases e; exact .nil
  | k, u :: ws, _, _, r, e => by
    cases r with
    | cons h r =>
      rw [List.map_cons] at e
      cases q : toD S k u with
      | none => rw [q] at e; cases e
      | some d =>
        rw [q] at e
        obtain ⟨ds', e1, rfl⟩ := Option.map_eq_some_iff.mp e
        exact .cons (Rel.dp R k u _ d h q) (Rel.dps R k ws _ ds' r e1)
  termination_by k ws => (k, ws.length + 1)
end
theorem Rel.data (R : Rel X.prog X.w X.J ρ S H) {u : W} {v : V} {d : PyData} (r : RW X.J ρ H u v) (e : dataOf S u = some d) : Dp X.K H v d := R.dp _ _ _ _ r e

/-- a new tuple or one that stands: by value there is no difference -/
theorem op_addW : OpR X (binaryOp .Add) (LR2 X (binW .add)) := by
  intro pins s σ H x y v u Q I rx ry ⟨ρ, S, a, b, ha, hb, R, h⟩
  cases ha with
  | int i =>
    cases hb with
    | int j => exact op_add pins s σ H _ _ v u Q I rx ry ⟨i, j, rfl, rfl, h.now R (.int _)⟩
    | bl j =>
      obtain ⟨t, rfl⟩ := rx
      cases ry
      exact add_int_bool ⟨.int (i + b2iW j), H, I.tok _, ⟨_, rfl⟩, h.now R (.int _)⟩
    | _ => exact h.no.elim
  | bl i =>
    cases hb with
    | int j =>
      cases rx
      obtain ⟨t, rfl⟩ := ry
      exact IntBool.add_bool_int ⟨.int (b2iW i + j), H, I.tok _, ⟨_, rfl⟩, h.now R (.int _)⟩
    | _ => exact h.no.elim
  | str i =>
    cases hb with
    | str j =>
      obtain ⟨hc, h⟩ := h.ite
      exact op_add_str pins s σ H _ _ v u Q I rx ry ⟨i, j, rfl, rfl, hc, h.now R (.str _)⟩
    | _ => exact h.no.elim
  | tup t1 r1 =>
    cases hb with
    | tup t2 r2 =>
      obtain ⟨hc, h⟩ := h.ite
      rw [r1.length, r2.length] at hc
      refine op_catA pins s σ H _ _ v u Q I rx ry ⟨_, _, _, _, rfl, rfl, t1, t2, hc, fun e => ?_, fun _ e => ?_, fun _ _ p hp => h.tup R (r1.append r2) hp⟩
      · subst e
        cases r1
        exact h.now R (.tup t2 r2)
      · subst e
        cases r2
        rw [List.append_nil] at h
        exact h.now R (.tup t1 r1)
    | _ => exact h.no.elim
  | ref e1 =>
    cases hb with
    | ref e2 =>
      rename_i n a m b
      have h : Ans X ρ H (match S[n]?, S[m]? with
        | some (.lst a), some (.lst b) => if a.length + b.length ≤ sizeLine then .ok (.ref S.length) (S ++ [.lst (a ++ b)]) else .bad
        | _, _ => .bad) Q := h
      split at h
      · rename_i ws zs q1 q2
        obtain ⟨hc, h⟩ := h.ite
        obtain ⟨vs, h1, r1⟩ := (R.at_ e1 q1).lst_inv
        obtain ⟨us, h2, r2⟩ := (R.at_ e2 q2).lst_inv
        rw [r1.length, r2.length] at hc
        exact op_cat pins s σ H _ _ v u Q I rx ry ⟨_, _, _, _, rfl, rfl, h1, h2, hc, fun p hp => h.lst R (r1.append r2) hp⟩
      · exact h.no.elim
    | _ => exact h.no.elim
  | _ => exact h.no.elim
theorem op_subW : OpR X (binaryOp .Sub) (LR2 X (binW .sub)) := by
  intro pins s σ H x y v u Q I rx ry ⟨ρ, S, a, b, ha, hb, R, h⟩
  cases ha with
  | int i =>
    cases hb with
    | int j => exact op_sub pins s σ H _ _ v u Q I rx ry ⟨i, j, rfl, rfl, h.now R (.int _)⟩
    | bl j =>
      obtain ⟨t, rfl⟩ := rx
      cases ry
      exact IntBool.sub_int_bool ⟨.int (i - b2iW j), H, I.tok _, ⟨_, rfl⟩, h.now R (.int _)⟩
    | _ => exact h.no.elim
  | bl i =>
    cases hb with
    | int j =>
      cases rx
      obtain ⟨t, rfl⟩ := ry
      exact IntBool.sub_bool_int ⟨.int (b2iW i - j), H, I.tok _, ⟨_, rfl⟩, h.now R (.int _)⟩
    | _ => exact h.no.elim
  | _ => exact h.no.elim
theorem tuple_mulE (l : Addr) (items : Array Value) (n : Nat) (dd : Option Addr) (sl : Array (Option Value)) (x : Int) (u : Tok) (c0 : (decide (x < -(2 ^ 63)) || decide (x ≥ 2 ^ 63)) = false) (c1 : (items.isEmpty || x == 1) = true) :
    Meets (Builtin.«tuple.__mul__» ⟨[.ref l, .int x u], []⟩) (fun _ R s => s.heap.get? l = some { cls := .type "tuple", dict := dd, data := .seq items n, slots := sl } ∧ R (.ok (.ret (Value.ref l))) s) :=
  .of_wp fun prog w A R s h => by
    obtain ⟨hp, g, d, tk, os⟩ := s
    obtain ⟨hl, h⟩ := h
    have f1 := AutoSeq1.idx_int
    wp_walk using wpAny_loadPart' hl
    repeat (first
      | (refine wpAny_ite_false (decide_eq_false (by rw [c0]; exact Bool.false_ne_true)) ?_; wp_walk using wpAny_loadPart' hl)
      | (refine wpAny_ite_true (decide_eq_true c1) ?_; wp_walk using wpAny_loadPart' hl))
    exact ⟨_, rfl, h⟩
/-- t * k that gives t itself -/
theorem op_repE : OpR X (binaryOp .Mult) (fun x y H Q => ∃ l k xs, x = .ref l ∧ y = .int k ∧ SqT X.K H l xs ∧ (xs = [] ∨ k = 1) ∧ 0 < k ∧ k ≤ 1000 ∧ Q (.ref l) H) := by
  intro pins s σ H x y v u Q I rx ry h
  obtain ⟨l, k, xs, rfl, rfl, hT, hne, h1, h2, q⟩ := h
  cases rx
  obtain ⟨t, rfl⟩ := ry
  obtain ⟨its, r, ⟨⟨cls, dd, data, sl⟩, ho, hc, n, hd⟩, hs⟩ := I.tuple hT
  simp only at hc hd
  subst hc hd
  have c0 : (decide (k < -(2 ^ 63)) || decide (k ≥ 2 ^ 63)) = false := by
    rw [decide_eq_false (by omega), decide_eq_false (by omega)] <;> rfl
  have c1 : (its.toArray.isEmpty || k == 1) = true := by
    rcases hne with e | e
    · subst e
      cases r
      rfl
    · subst e
      simp
  refine wpAny_binaryOp_repeat_ref (T := "tuple") (U := "int") (by decide) ⟨_, ho, rfl⟩ (fun s' => typeIs_int s' k t) noFill_tuple_mul F.fills_int_mul F.slot_int_rmul repeat_tuple F.slot_int_index.lookup
    (call_meets F.slot_int_rmul (typeIs_int s k t) F.entry_int_rmul (F.args_int_rmul_2 _ _) (int_rmul_tuple k t l its.toArray n dd sl)
      ⟨ho, rfl, ⟨_, ho, rfl⟩, call_meets F.slot_tuple_mul ⟨_, ho, rfl⟩ F.entry_tuple_mul (F.args_tuple_mul_2 _ _) (tuple_mulE l its.toArray n dd sl k t c0 c1) ⟨ho, ?_⟩⟩)
  exact ⟨.ref l, H, I, rfl, q⟩
theorem op_mulWW : OpR X (binaryOp .Mult) (LR2 X (binW .mul)) := by
  intro pins s σ H x y v u Q I rx ry ⟨ρ, S, a, b, ha, hb, R, h⟩
  cases ha with
  | int i =>
    cases hb with
    | int j =>
      obtain ⟨hc, h⟩ := h.ite
      exact op_mulW pins s σ H _ _ v u Q I rx ry ⟨i, j, rfl, rfl, hc, h.now R (.int _)⟩
    | _ => exact h.no.elim
  | tup t1 r1 =>
    cases hb with
    | int k =>
      obtain ⟨hc, h⟩ := h.ite
      rename_i a0 ws vs hx0
      by_cases he : vs = [] ∨ k = 1
      · refine op_repE pins s σ H _ _ v u Q I rx ry ⟨_, _, _, rfl, rfl, t1, he, hc.1, hc.2.1, ?_⟩
        rcases he with e | e
        · subst e
          cases r1
          have h : Ans X ρ H (.ok (.tup (List.replicate k.toNat []).flatten) S) Q := h
          rw [show (List.replicate k.toNat ([] : List W)).flatten = [] by simp] at h
          exact h.now R (.tup t1 .nil)
        · subst e
          have h : Ans X ρ H (.ok (.tup (List.replicate 1 ws).flatten) S) Q := h
          rw [show (List.replicate 1 ws).flatten = ws by simp] at h
          exact h.now R (.tup t1 r1)
      · exact op_repT pins s σ H _ _ v u Q I rx ry ⟨_, _, _, rfl, rfl, t1, fun e => he (.inl e), by
          have : k ≠ 1 := fun e => he (.inr e)
          omega, hc.2.1, by rw [← r1.length]; exact hc.2.2, fun p hp => h.tup R (r1.rep _) hp⟩
    | _ => exact h.no.elim
  | ref e1 =>
    cases hb with
    | int k =>
      rename_i n a
      have h : Ans X ρ H (match S[n]? with
        | some (.lst a) => if -(2 ^ 63) ≤ k ∧ k < 2 ^ 63 ∧ a.length * k.toNat ≤ sizeLine then .ok (.ref S.length) (S ++ [.lst (List.replicate k.toNat a).flatten]) else .bad
        | _ => .bad) Q := h
      split at h
      · rename_i ws q1
        obtain ⟨hc, h⟩ := h.ite
        obtain ⟨vs, h1, r1⟩ := (R.at_ e1 q1).lst_inv
        rw [r1.length] at hc
        exact op_rep pins s σ H _ _ v u Q I rx ry ⟨_, _, _, rfl, rfl, h1, hc.1, hc.2.1, hc.2.2, fun p hp => h.lst R (r1.rep _) hp⟩
      · exact h.no.elim
    | _ => exact h.no.elim
  | _ => exact h.no.elim
theorem op_fdivWW : OpR X (binaryOp .FloorDiv) (LR2 X (binW .fdiv)) := by
  intro pins s σ H x y v u Q I rx ry ⟨ρ, S, a, b, ha, hb, R, h⟩
  cases ha with
  | int i =>
    cases hb with
    | int j =>
      obtain ⟨hc, h⟩ := h.ite
      exact op_fdivW pins s σ H _ _ v u Q I rx ry ⟨i, j, rfl, rfl, hc, h.now R (.int _)⟩
    | _ => exact h.no.elim
  | _ => exact h.no.elim
theorem op_modWW : OpR X (binaryOp .Mod) (LR2 X (binW .mod)) := by
  intro pins s σ H x y v u Q I rx ry ⟨ρ, S, a, b, ha, hb, R, h⟩
  cases ha with
  | int i =>
    cases hb with
    | int j =>
      obtain ⟨hc, h⟩ := h.ite
      exact op_mod pins s σ H _ _ v u Q I rx ry ⟨i, j, rfl, rfl, hc, h.now R (.int _)⟩
    | _ => exact h.no.elim
  | _ => exact h.no.elim
theorem op_powWW : OpR X (binaryOp .Pow) (LR2 X (binW .pow)) := by
  intro pins s σ H x y v u Q I rx ry ⟨ρ, S, a, b, ha, hb, R, h⟩
  cases ha with
  | int i =>
    cases hb with
    | int j =>
      obtain ⟨hc, h⟩ := h.ite
      exact op_pow pins s σ H _ _ v u Q I rx ry ⟨i, j, rfl, rfl, hc, h.now R (.int _)⟩
    | _ => exact h.no.elim
  | _ => exact h.no.elim
def bopOf : Bop → Operator
  | .add => .Add | .sub => .Sub | .mul => .Mult | .fdiv => .FloorDiv | .mod => .Mod | .pow => .Pow
theorem op_bin : ∀ o : Bop, OpR X (binaryOp (bopOf o)) (LR2 X (binW o))
  | .add => op_addW | .sub => op_subW | .mul => op_mulWW | .fdiv => op_fdivWW | .mod => op_modWW | .pow => op_powWW

/-! ### comparisons -/
theorem onData_inv {f : PyData → PyData → Option Bool} {a b : W} {Q : VK} (h : Ans X ρ H (onData S f a b) Q) (R : Rel X.prog X.w X.J ρ S H) : ∃ d e c, dataOf S a = some d ∧ dataOf S b = some e ∧ f d e = some c ∧ Q (.bl c) H := by
  unfold onData at h
  split at h
  · rename_i d e h1 h2
    split at h
    · rename_i c h3
      exact ⟨d, e, c, h1, h2, h3, h.now R (.bl _)⟩
    · exact h.no.elim
  · exact h.no.elim
theorem min_deep {A : Around} {d e : PyData} (hu : A.units + 64 < cLine) (h : isDeep d = true) : A.units + min d.depth e.depth < cLine := by
  have h1 : d.depth ≤ 60 := of_decide_eq_true h
  have h2 : min d.depth e.depth ≤ d.depth := Nat.min_le_left _ _
  omega
theorem eqD_inv {d e : PyData} {c : Bool} (h : eqD d e = some c) : d.plain = true ∧ e.plain = true ∧ isDeep d = true ∧ c = PyData.eqv d e := by
  unfold eqD at h
  split at h
  · rename_i hc
    simp only [Bool.and_eq_true] at hc
    cases h
    exact ⟨hc.1.1.1, hc.1.1.2, hc.1.2, rfl⟩
  · cases h
theorem ordD_inv {f : PyData → PyData → Bool} {d e : PyData} {c : Bool} (h : ordD f d e = some c) : PySem.W.alike d e = true ∧ d ≠ .none ∧ isDeep d = true ∧ c = f d e := by
  unfold ordD at h
  split at h
  · cases h
  · rename_i hn
    split at h
    · rename_i hc
      simp only [Bool.and_eq_true] at hc
      cases h
      exact ⟨hc.1.1, hn, hc.1.2, rfl⟩
    · cases h
theorem lenNe_inv {a b : W} {x y : V} (ha : RW X.J ρ H a x) (hb : RW X.J ρ H b y) (R : Rel X.prog X.w X.J ρ S H) (e : lenNe S a b = true) : ∃ p q xs ys, x = .ref p ∧ y = .ref q ∧ SqL X.K H p xs ∧ SqL X.K H q ys ∧ xs.length ≠ ys.length := by
  unfold lenNe at e
  split at e
  · rename_i n m
    split at e
    · rename_i ws zs q1 q2
      cases ha with
      | ref e1 =>
        cases hb with
        | ref e2 =>
          obtain ⟨vs, h1, r1⟩ := R.lstOf e1 q1
          obtain ⟨us, h2, r2⟩ := R.lstOf e2 q2
          refine ⟨_, _, vs, us, rfl, rfl, h1, h2, ?_⟩
          rw [← r1.length, ← r2.length]
          simpa using e
    · cases e
  · cases e
theorem op_eqW (hu : X.A.units + 64 < cLine) : OpR X (compareOp .Eq) (LR2 X (cmpW .eq)) := by
  intro pins s σ H x y v u Q I rx ry ⟨ρ, S, a, b, ha, hb, R, h⟩
  have h : Ans X ρ H (if lenNe S a b then .ok (.bl false) S else onData S eqD a b) Q := h
  by_cases hl : lenNe S a b = true
  · rw [if_pos hl] at h
    obtain ⟨p, q, xs, ys, rfl, rfl, h1, h2, hne⟩ := lenNe_inv ha hb R hl
    cases rx
    cases ry
    obtain ⟨is, r1, i1, _⟩ := I.list h1
    obtain ⟨js, r2, j1, _⟩ := I.list h2
    refine PySem.SeqAt.eq_list_lengthsAt i1.isList j1.isList ?_ (by omega) ⟨.bl _, H, I, rfl, h.now R (.bl _)⟩
    simpa [← r1.length, ← r2.length] using hne
  rw [if_neg hl] at h
  obtain ⟨d, e, c, h1, h2, h3, q⟩ := onData_inv h R
  obtain ⟨p1, p2, p3, rfl⟩ := eqD_inv h3
  obtain ⟨as, r1⟩ := Dp.reads I d x v (R.data ha h1) rx
  obtain ⟨bs, r2⟩ := Dp.reads I e y u (R.data hb h2) ry
  exact PySem.SeqAt.eq_plain r1 r2 p1 p2 (min_deep hu p3) ⟨.bl _, H, I, rfl, q⟩
theorem op_neW (hu : X.A.units + 64 < cLine) : OpR X (compareOp .NotEq) (LR2 X (cmpW .ne)) := by
  intro pins s σ H x y v u Q I rx ry ⟨ρ, S, a, b, ha, hb, R, h⟩
  have h : Ans X ρ H (if lenNe S a b then .ok (.bl true) S else onData S (fun d e => (eqD d e).map (!·)) a b) Q := h
  by_cases hl : lenNe S a b = true
  · rw [if_pos hl] at h
    obtain ⟨p, q, xs, ys, rfl, rfl, h1, h2, hne⟩ := lenNe_inv ha hb R hl
    cases rx
    cases ry
    obtain ⟨is, r1, i1, _⟩ := I.list h1
    obtain ⟨js, r2, j1, _⟩ := I.list h2
    refine PySem.SeqAt.RcNeAt.lists_lengths i1.isList j1.isList ?_ (by omega) X.prog X.w _ _ ⟨.bl _, H, I, rfl, h.now R (.bl _)⟩
    simpa [← r1.length, ← r2.length] using hne
  rw [if_neg hl] at h
  obtain ⟨d, e, c, h1, h2, h3, q⟩ := onData_inv h R
  obtain ⟨c', h4, rfl⟩ := Option.map_eq_some_iff.mp h3
  obtain ⟨p1, p2, p3, rfl⟩ := eqD_inv h4
  obtain ⟨as, r1⟩ := Dp.reads I d x v (R.data ha h1) rx
  obtain ⟨bs, r2⟩ := Dp.reads I e y u (R.data hb h2) ry
  exact PySem.SeqAt.ne_plain r1 r2 p1 p2 (min_deep hu p3) ⟨.bl _, H, I, rfl, q⟩
theorem op_ltW (hu : X.A.units + 64 < cLine) : OpR X (compareOp .Lt) (LR2 X (cmpW .lt)) := by
  intro pins s σ H x y v u Q I rx ry ⟨ρ, S, a, b, ha, hb, R, h⟩
  obtain ⟨d, e, c, h1, h2, h3, q⟩ := onData_inv h R
  obtain ⟨p1, p2, p3, rfl⟩ := ordD_inv h3
  obtain ⟨as, r1⟩ := Dp.reads I d x v (R.data ha h1) rx
  obtain ⟨bs, r2⟩ := Dp.reads I e y u (R.data hb h2) ry
  exact PySem.W.lt_data r1 r2 p1 p2 (min_deep hu p3) ⟨.bl _, H, I, rfl, q⟩
theorem op_gtW (hu : X.A.units + 64 < cLine) : OpR X (compareOp .Gt) (LR2 X (cmpW .gt)) := by
  intro pins s σ H x y v u Q I rx ry ⟨ρ, S, a, b, ha, hb, R, h⟩
  obtain ⟨d, e, c, h1, h2, h3, q⟩ := onData_inv h R
  obtain ⟨p1, p2, p3, rfl⟩ := ordD_inv h3
  obtain ⟨as, r1⟩ := Dp.reads I d x v (R.data ha h1) rx
  obtain ⟨bs, r2⟩ := Dp.reads I e y u (R.data hb h2) ry
  exact PySem.W.gt_data r1 r2 p1 p2 (min_deep hu p3) ⟨.bl _, H, I, rfl, q⟩
theorem op_leW (hu : X.A.units + 64 < cLine) : OpR X (compareOp .LtE) (LR2 X (cmpW .le)) := by
  intro pins s σ H x y v u Q I rx ry ⟨ρ, S, a, b, ha, hb, R, h⟩
  obtain ⟨d, e, c, h1, h2, h3, q⟩ := onData_inv h R
  obtain ⟨p1, p2, p3, rfl⟩ := ordD_inv h3
  obtain ⟨as, r1⟩ := Dp.reads I d x v (R.data ha h1) rx
  obtain ⟨bs, r2⟩ := Dp.reads I e y u (R.data hb h2) ry
  exact PySem.W.le_data r1 r2 p1 p2 (min_deep hu p3) ⟨.bl _, H, I, rfl, q⟩
theorem op_geW (hu : X.A.units + 64 < cLine) : OpR X (compareOp .GtE) (LR2 X (cmpW .ge)) := by
  intro pins s σ H x y v u Q I rx ry ⟨ρ, S, a, b, ha, hb, R, h⟩
  obtain ⟨d, e, c, h1, h2, h3, q⟩ := onData_inv h R
  obtain ⟨p1, p2, p3, rfl⟩ := ordD_inv h3
  obtain ⟨as, r1⟩ := Dp.reads I d x v (R.data ha h1) rx
  obtain ⟨bs, r2⟩ := Dp.reads I e y u (R.data hb h2) ry
  exact PySem.W.ge_data r1 r2 p1 p2 (min_deep hu p3) ⟨.bl _, H, I, rfl, q⟩
theorem non_iff {a : W} {x : V} (r : RW X.J ρ H a x) : decide (a = .non) = decide (x = .non) := by
  cases r <;> simp
theorem op_isW : OpR X (compareOp .Is) (LR2 X (cmpW .is)) := by
  intro pins s σ H x y v u Q I rx ry ⟨ρ, S, a, b, ha, hb, R, h⟩
  cases hb with
  | non =>
    refine op_isN pins s σ H _ _ v u Q I rx ry ⟨rfl, ?_⟩
    rw [← non_iff ha]
    exact h.now R (.bl _)
  | _ => exact h.no.elim
theorem op_isNotW : OpR X (compareOp .IsNot) (LR2 X (cmpW .isNot)) := by
  intro pins s σ H x y v u Q I rx ry ⟨ρ, S, a, b, ha, hb, R, h⟩
  cases hb with
  | non =>
    refine op_notN pins s σ H _ _ v u Q I rx ry ⟨rfl, ?_⟩
    rw [← non_iff ha]
    exact h.now R (.bl _)
  | _ => exact h.no.elim
end
end PI

set_option Elab.async false
set_option linter.all false
set_option maxRecDepth 100000
set_option maxHeartbeats 4000000
/-! dicts, membership, subscripts, slices, truth -/
namespace PI
open PySem PySem.Spec PyProof.Rows L2

/-! ### keys -/
section
variable {X : Cx} {ρ : List Addr} {H : Hp} {S : Sto}
theorem kOf_rw {k : W} {q : Key} {y : V} (e : kOf k = some q) (r : RW X.J ρ H k y) : y = kV q := by
  cases r <;> simp [kOf] at e <;> subst e <;> rfl
theorem kOf_inj {k l : W} {q : Key} (e : kOf k = some q) (e' : kOf l = some q) : k = l := by
  cases k <;> simp [kOf] at e <;> subst e <;> cases l <;> simp [kOf] at e' <;> simp [e']
theorem flat_kOf {k : W} (h : flatKey k = true) : ∃ q, kOf k = some q := by cases k <;> simp [flatKey, kOf] at h ⊢
theorem kOf_flat {k : W} {q : Key} (e : kOf k = some q) : flatKey k = true := by cases k <;> simp [flatKey, kOf] at e ⊢
theorem RK.get {k : W} {q : Key} (e : kOf k = some q) : ∀ {kvs : List (W × W)} {qs : List (Key × V)}, RK X.J ρ H kvs qs →
    (∀ u, keyGet kvs k = some u → ∃ v, valV qs q = some v ∧ RW X.J ρ H u v) ∧ (keyGet kvs k = none → valV qs q = none)
  | _, _, .nil => ⟨fun u h => by simp [keyGet] at h, fun _ => rfl⟩
  | _, _, .cons (a := p) (b := t) ⟨h1, h2⟩ r => by
    obtain ⟨i1, i2⟩ := RK.get e r
    by_cases hk : p.1 = k
    · have hq : t.1 = q := by rw [hk, e] at h1; exact (Option.some.inj h1).symm
      refine ⟨fun u h => ?_, fun h => ?_⟩
      · simp [keyGet, hk] at h
        subst h
        exact ⟨_, valV_pos hq, h2⟩
      · simp [keyGet, hk] at h
    · have hq : ¬ t.1 = q := fun z => hk (kOf_inj (z ▸ h1) e)
      have e1 : ∀ l, keyGet (p :: l) k = keyGet l k := fun l => by simp [keyGet, List.find?_cons, hk]
      rw [e1]
      exact ⟨fun u h => let ⟨v, h1, h2⟩ := i1 u h; ⟨v, by rw [valV_neg hq]; exact h1, h2⟩, fun h => by rw [valV_neg hq]; exact i2 h⟩
theorem keyIn_get (kvs : List (W × W)) (k : W) : keyIn kvs k = (keyGet kvs k).isSome := by
  induction kvs with
  | nil => rfl
  | cons p r ih =>
    by_cases hk : p.1 = k
    · simp [keyIn, keyGet, hk]
    · have : keyIn (p :: r) k = keyIn r k := by simp [keyIn, hk]
      rw [this, ih]
      simp [keyGet, List.find?_cons, hk]
theorem RK.val {k : W} {q : Key} (e : kOf k = some q) {kvs : List (W × W)} {qs : List (Key × V)} (r : RK X.J ρ H kvs qs) : keyIn kvs k = (valV qs q).isSome := by
  rw [keyIn_get]
  obtain ⟨h1, h2⟩ := RK.get e r
  cases h : keyGet kvs k with
  | none => rw [h2 h]; rfl
  | some u =>
    obtain ⟨v, h3, _⟩ := h1 u h
    rw [h3]; rfl
theorem RK.repl {k : W} {q : Key} (e : kOf k = some q) {u : W} {v : V} (ru : RW X.J ρ H u v) : ∀ {kvs : List (W × W)} {qs : List (Key × V)}, RK X.J ρ H kvs qs →
    RK X.J ρ H (kvs.map fun kv => if kv.1 = k then (kv.1, u) else kv) (qs.map fun kv => if kv.1 = q then (kv.1, v) else kv)
  | _, _, .nil => .nil
  | _, _, .cons (a := p) (b := t) ⟨h1, h2⟩ r => by
    rw [List.map_cons, List.map_cons]
    refine .cons ?_ (RK.repl e ru r)
    by_cases hk : p.1 = k
    · have hq : t.1 = q := by rw [hk, e] at h1; exact (Option.some.inj h1).symm
      rw [if_pos hk, if_pos hq]
      exact ⟨h1, ru⟩
    · have hq : ¬ t.1 = q := fun z => hk (kOf_inj (z ▸ h1) e)
      rw [if_neg hk, if_neg hq]
      exact ⟨h1, h2⟩
theorem paired_append {α β : Type} {F : α → β → Prop} : ∀ {l₁ : List α} {l₂ : List β} {m₁ : List α} {m₂ : List β}, Paired F l₁ l₂ → Paired F m₁ m₂ → Paired F (l₁ ++ m₁) (l₂ ++ m₂)
  | _, _, _, _, .nil, s => s
  | _, _, _, _, .cons h r, s => .cons h (paired_append r s)
theorem RK.put {k : W} {q : Key} (e : kOf k = some q) {u : W} {v : V} (ru : RW X.J ρ H u v) {kvs : List (W × W)} {qs : List (Key × V)} (r : RK X.J ρ H kvs qs) : RK X.J ρ H (keyPut kvs k u) (putK qs q v) := by
  have hv := r.val e
  unfold keyPut putK
  rw [hv, valV_any]
  by_cases h : (valV qs q).isSome = true
  · rw [if_pos h, if_pos h]
    exact r.repl e ru
  · rw [if_neg h, if_neg h]
    exact paired_append r (.cons ⟨e, ru⟩ .nil)
theorem RK.drop {k : W} {q : Key} (e : kOf k = some q) : ∀ {kvs : List (W × W)} {qs : List (Key × V)}, RK X.J ρ H kvs qs → RK X.J ρ H (keyDrop kvs k) (dropK qs q)
  | _, _, .nil => .nil
  | _, _, .cons (a := p) (b := t) ⟨h1, h2⟩ r => by
    have ih := RK.drop e r
    unfold keyDrop dropK at ih ⊢
    by_cases hk : p.1 = k
    · have hq : t.1 = q := by rw [hk, e] at h1; exact (Option.some.inj h1).symm
      rw [List.filter_cons_of_neg (by simp [hk]), List.filter_cons_of_neg (by simp [hq])]
      exact ih
    · have hq : ¬ t.1 = q := fun z => hk (kOf_inj (z ▸ h1) e)
      rw [List.filter_cons_of_pos (by simp [hk]), List.filter_cons_of_pos (by simp [hq])]
      exact .cons ⟨h1, h2⟩ ih
mutual
theorem nkOf_inj : ∀ (k l : W) (q : NestedKey), nkOf k = some q → nkOf l = some q → k = l
  | .non, l, q, e, e' => by
    simp [nkOf] at e; subst e
    cases l <;> simp [nkOf] at e' <;> rfl
  | .int i, l, q, e, e' => by
    simp [nkOf] at e; subst e
    cases l <;> simp [nkOf] at e' <;> simp [e']
  | .str i, l, q, e, e' => by
    simp [nkOf] at e; subst e
    cases l <;> simp [nkOf] at e' <;> simp [e']
  | .bl _, l, q, e, _ => by simp [nkOf] at e
  | .ref _, l, q, e, _ => by simp [nkOf] at e
  | .tup ws, l, q, e, e' => by
    simp only [nkOf] at e
    obtain ⟨ks, e1, rfl⟩ := Option.map_eq_some_iff.mp e
    cases l with
    | tup zs =>
      simp only [nkOf] at e'
      obtain ⟨ks', e2, h⟩ := Option.map_eq_some_iff.mp e'
      have : ks' = ks := by injection h
      subst this
      rw [nksOf_inj ws zs ks' e1 e2]
    | _ => simp [nkOf] at e'
theorem nksOf_inj : ∀ (k l : List W) (q : List NestedKey), nksOf k = some q → nksOf l = some q → k = l
  | [], l, q, e, e' => by
    simp [nksOf] at e; subst e
    cases l with
    | nil => rfl
    | cons x r =>
      simp only [nksOf] at e'
      split at e' <;> simp at e'
  | x :: r, l, q, e, e' => by
    simp only [nksOf] at e
    split at e
    · rename_i k1 ks1 h1 h2
      cases e
      cases l with
      | nil => simp [nksOf] at e'
      | cons y s =>
        simp only [nksOf] at e'
        split at e'
        · rename_i k2 ks2 h3 h4
          have e'' : k2 :: ks2 = k1 :: ks1 := Option.some.inj e'
          injection e'' with e5 e6
          subst e5 e6
          rw [nkOf_inj x y k2 h1 h3, nksOf_inj r s ks2 h2 h4]
        · cases e'
    · cases e
end
theorem tup_nkOf : ∀ (k : Nat) (u : W), deepKey k u = true → ∃ q, nkOf u = some q ∧ q.depth ≤ k
  | 0, _, h => by simp [deepKey] at h
  | k + 1, .non, _ => ⟨_, rfl, by simp [NestedKey.depth]⟩
  | k + 1, .int _, _ => ⟨_, rfl, by simp [NestedKey.depth]⟩
  | k + 1, .str _, _ => ⟨_, rfl, by simp [NestedKey.depth]⟩
  | k + 1, .bl _, h => by simp [deepKey] at h
  | k + 1, .ref _, h => by simp [deepKey] at h
  | k + 1, .tup ws, h => by
    simp only [deepKey] at h
    have all : ∀ ws : List W, ws.all (deepKey k) = true → ∃ qs, nksOf ws = some qs ∧ NestedKey.depthAll qs ≤ k := by
      intro ws
      induction ws with
      | nil => exact fun _ => ⟨[], rfl, by simp [NestedKey.depthAll]⟩
      | cons x r ih =>
        intro h
        rw [List.all_cons, Bool.and_eq_true] at h
        obtain ⟨q, h1, h2⟩ := tup_nkOf k x h.1
        obtain ⟨qs, h3, h4⟩ := ih h.2
        refine ⟨q :: qs, by simp [nksOf, h1, h3], ?_⟩
        simp only [NestedKey.depthAll]
        omega
    obtain ⟨qs, h1, h2⟩ := all ws h
    exact ⟨.tup qs, by simp [nkOf, h1], by simp only [NestedKey.depth]; omega⟩
theorem tupKey_nk {u : W} (h : tupKey u = true) : ∃ q, nkOf u = some q ∧ q.depth ≤ 8 := by
  cases u with
  | tup ws => exact tup_nkOf 8 (.tup ws) h
  | _ => simp [tupKey] at h
variable {pins : List (Addr × Obj)} {σ : L2.St} {s : Shared}
mutual
theorem nested_is (I : Inv X pins σ H s) : ∀ (u : W) (v : V) (z : Value) (q : NestedKey), RW X.J ρ H u v → RelV v z → nkOf u = some q → NestedIs s.heap q z
  | .non, _, _, _, r, rz, e => by cases r; simp [nkOf] at e; subst e; cases rz; exact .none
  | .int i, _, _, _, r, rz, e => by cases r; simp [nkOf] at e; subst e; obtain ⟨t, rfl⟩ := rz; exact .int i t
  | .str i, _, _, _, r, rz, e => by cases r; simp [nkOf] at e; subst e; obtain ⟨t, rfl⟩ := rz; exact .text i t
  | .bl _, _, _, _, _, _, e => by simp [nkOf] at e
  | .ref _, _, _, _, _, _, e => by simp [nkOf] at e
  | .tup ws, _, _, _, r, rz, e => by
    obtain ⟨a, vs, rfl, h, r⟩ := rw_tup r
    simp only [nkOf] at e
    obtain ⟨ks, e1, rfl⟩ := Option.map_eq_some_iff.mp e
    cases rz
    obtain ⟨its, rv, ⟨o, ho, hc, n, hd⟩, _⟩ := I.tuple h
    exact .tup ho hc hd (by simpa using nested_all I ws vs its ks r rv e1)
theorem nested_all (I : Inv X pins σ H s) : ∀ (us : List W) (vs : List V) (zs : List Value) (qs : List NestedKey), RWs X.J ρ H us vs → Vals vs zs → nksOf us = some qs → NestedAll s.heap qs zs
  | [], _, _, _, r, rz, e => by cases r; cases rz; simp [nksOf] at e; subst e; exact .nil
  | u :: us, _, _, _, r, rz, e => by
    cases r with
    | cons h r =>
      cases rz with
      | cons h' r' =>
        simp only [nksOf] at e
        split at e
        · rename_i k ks h1 h2
          cases e
          exact .cons (nested_is I u _ _ k h h' h1) (nested_all I us _ _ ks r r' h2)
        · cases e
end
theorem RN.get {k : W} {q : NestedKey} (e : nkOf k = some q) : ∀ {kvs : List (W × W)} {xs : List (NestedKey × Addr × Value)}, RN X.J ρ H kvs xs →
    (∀ u, keyGet kvs k = some u → ∃ b z v, atKey xs q = some (b, z) ∧ RelV v z ∧ RW X.J ρ H u v) ∧ (keyGet kvs k = none → atKey xs q = none)
  | _, _, .nil => ⟨fun u h => by simp [keyGet] at h, fun _ => rfl⟩
  | _, _, .cons (a := p) (b := t) ⟨⟨_, h1⟩, h2, v, hv, h3⟩ r => by
    obtain ⟨i1, i2⟩ := RN.get e r
    by_cases hk : p.1 = k
    · have hq : t.1 = q := by rw [hk, e] at h1; exact (Option.some.inj h1).symm
      refine ⟨fun u h => ?_, fun h => ?_⟩
      · simp [keyGet, hk] at h
        subst h
        exact ⟨t.2.1, t.2.2, v, by simp [atKey, hq], hv, h3⟩
      · simp [keyGet, hk] at h
    · have hq : ¬ t.1 = q := fun z => hk (nkOf_inj _ _ _ (z ▸ h1) e)
      have e1 : ∀ l, keyGet (p :: l) k = keyGet l k := fun l => by simp [keyGet, List.find?_cons, hk]
      have e2 : ∀ l, atKey (t :: l) q = atKey l q := fun l => by simp [atKey, List.find?_cons, hq]
      rw [e1, e2]
      exact ⟨i1, i2⟩
theorem RN.val {k : W} {q : NestedKey} (e : nkOf k = some q) {kvs : List (W × W)} {xs : List (NestedKey × Addr × Value)} (r : RN X.J ρ H kvs xs) : keyIn kvs k = (atKey xs q).isSome := by
  rw [keyIn_get]
  obtain ⟨h1, h2⟩ := RN.get e r
  cases h : keyGet kvs k with
  | none => rw [h2 h]; rfl
  | some u =>
    obtain ⟨b, z, v, h3, _⟩ := h1 u h
    rw [h3]; rfl
theorem RN.repl {k : W} {q : NestedKey} (e : nkOf k = some q) {u : W} {v : V} {z : Value} (rz : RelV v z) (ru : RW X.J ρ H u v) : ∀ {kvs : List (W × W)} {xs : List (NestedKey × Addr × Value)}, RN X.J ρ H kvs xs →
    RN X.J ρ H (kvs.map fun kv => if kv.1 = k then (kv.1, u) else kv) (xs.map (putAt q z))
  | _, _, .nil => .nil
  | _, _, .cons (a := p) (b := t) ⟨⟨h0, h1⟩, h2⟩ r => by
    rw [List.map_cons, List.map_cons]
    refine .cons ?_ (RN.repl e rz ru r)
    by_cases hk : p.1 = k
    · have hq : t.1 = q := by rw [hk, e] at h1; exact (Option.some.inj h1).symm
      unfold putAt
      rw [if_pos hk, if_pos hq]
      exact ⟨⟨h0, h1⟩, h2.1, v, rz, ru⟩
    · have hq : ¬ t.1 = q := fun z => hk (nkOf_inj _ _ _ (z ▸ h1) e)
      unfold putAt
      rw [if_neg hk, if_neg hq]
      exact ⟨⟨h0, h1⟩, h2⟩
theorem RN.put {k : W} {q : NestedKey} {b : Addr} (ht : tupKey k = true) (e : nkOf k = some q) (rk : RW X.J ρ H k (.ref b)) {u : W} {v : V} {z : Value} (rz : RelV v z) (ru : RW X.J ρ H u v) {kvs : List (W × W)} {xs : List (NestedKey × Addr × Value)} (r : RN X.J ρ H kvs xs) :
    RN X.J ρ H (keyPut kvs k u) (storedH xs q b z) := by
  have hv := r.val e
  unfold keyPut storedH
  rw [hv]
  by_cases h : (atKey xs q).isSome = true
  · rw [if_pos h, if_pos h]
    exact r.repl e rz ru
  · rw [if_neg h, if_neg h]
    exact paired_append r (.cons ⟨⟨ht, e⟩, rk, v, rz, ru⟩ .nil)
theorem RN.is (I : Inv X pins σ H s) : ∀ {kvs : List (W × W)} {xs : List (NestedKey × Addr × Value)}, RN X.J ρ H kvs xs → ∀ x ∈ xs, (nestedKind X.prog X.w).is s.heap x.1 x.2.1
  | _, _, .nil, _, h => by cases h
  | _, _, .cons (a := p) (b := t) ⟨⟨h0, h1⟩, h2, _⟩ r, x, h => by
    rcases List.mem_cons.mp h with rfl | h
    · obtain ⟨q, e1, e2⟩ := tupKey_nk h0
      rw [h1] at e1
      cases e1
      exact ⟨nested_is I _ _ _ _ h2 rfl h1, e2⟩
    · exact RN.is I r x h
/-- what may be read as a nested dict -/
theorem Inv.ndict (I : Inv X pins σ H s) {a : Addr} {xs : List (NestedKey × Addr × Value)} {kvs : List (W × W)} (h : Rd H a (NDict X.prog X.w a xs)) (r : RN X.J ρ H kvs xs) : s.heap.DictOfH (nestedKind X.prog X.w) a xs := by
  have ok := h.ok I.hok
  obtain ⟨⟨o, es, ep, h1, h2, h3, h4, h5⟩, _⟩ := ok
  exact ⟨o, es, ep, h1, h2, h3, h4, RN.is I r, h5⟩

theorem nk_deep {k : W} {q : NestedKey} (h : tupKey k = true) (e : nkOf k = some q) : q.depth ≤ 8 := by
  obtain ⟨q', e1, e2⟩ := tupKey_nk h
  rw [e] at e1
  cases e1
  exact e2
theorem tup_ref {k : W} {y : V} (h : tupKey k = true) (r : RW X.J ρ H k y) : ∃ b, y = .ref b := by
  cases k with
  | tup ws =>
    obtain ⟨a, _, rfl, _⟩ := rw_tup r
    exact ⟨a, rfl⟩
  | _ => simp [tupKey] at h
theorem flat_tup {k : W} (h : flatKey k = true) : tupKey k = false := by cases k <;> simp [flatKey, tupKey] at h ⊢
theorem all_both {kvs : List (W × W)} (h1 : (kvs.all fun kv => flatKey kv.1) = true) (h2 : (kvs.all fun kv => tupKey kv.1) = true) : kvs = [] := by
  cases kvs with
  | nil => rfl
  | cons p r =>
    simp only [List.all_cons, Bool.and_eq_true] at h1 h2
    rw [flat_tup h1.1] at h2
    cases h2.1
theorem RK.all : ∀ {kvs : List (W × W)} {qs : List (Key × V)}, RK X.J ρ H kvs qs → (kvs.all fun kv => flatKey kv.1) = true
  | _, _, .nil => rfl
  | _, _, .cons ⟨h1, _⟩ r => by rw [List.all_cons, kOf_flat h1, RK.all r]; rfl
theorem RN.all : ∀ {kvs : List (W × W)} {xs : List (NestedKey × Addr × Value)}, RN X.J ρ H kvs xs → (kvs.all fun kv => tupKey kv.1) = true
  | _, _, .nil => rfl
  | _, _, .cons ⟨⟨h0, _⟩, _⟩ r => by rw [List.all_cons, h0, RN.all r]; rfl
theorem pairs_nil {P : Program} {w : World} {es : List DictEntry} (h : Pairs (mixKind P w) es []) : es = [] := by cases h; rfl
theorem of_nil {P : Program} {w : World} {h : Heap} {a : Addr} (x : h.DictOf (mixKind P w) a []) : h.DictOfH (nestedKind P w) a [] := by
  obtain ⟨o, es, ep, h1, h2, h3, _, h4, _⟩ := x
  exact ⟨o, es, ep, h1, h2, h3, by rw [pairs_nil h4]; rfl, (fun x h => by cases h), by simp⟩
theorem ofH_nil {P : Program} {w : World} {h : Heap} {a : Addr} (x : h.DictOfH (nestedKind P w) a []) : h.DictOf (mixKind P w) a [] := by
  obtain ⟨o, es, ep, h1, h2, h3, h4, _, _⟩ := x
  have he : es = #[] := by
    have : es.toList = [] := h4
    simpa using this
  subst he
  exact ⟨o, #[], ep, h1, h2, h3, (fun e he => by simp at he), .nil, by simp⟩
/-- a dict of the store as it is read at a key -/
structure DView (X : Cx) (ρ : List Addr) (H : Hp) (s : Shared) (a : Addr) (kvs : List (W × W)) (k : W) (z : Value) : Prop where
  sys : (a == sysModules) = false
  len : kvs.length ≤ sizeLine
  way : (∃ q qs vs, kOf k = some q ∧ (mixKind X.prog X.w).is q z = true ∧ RK X.J ρ H kvs qs ∧ KV qs vs ∧ s.heap.DictOf (mixKind X.prog X.w) a vs) ∨
    ∃ q xs b, tupKey k = true ∧ nkOf k = some q ∧ z = .ref b ∧ RW X.J ρ H k (.ref b) ∧ (nestedKind X.prog X.w).is s.heap q b ∧ RN X.J ρ H kvs xs ∧ s.heap.DictOfH (nestedKind X.prog X.w) a xs
/-- the forms of a dict in the heap -/
theorem Rel.dct (R : Rel X.prog X.w X.J ρ S H) {n : Nat} {a : Addr} (h : ρ[n]? = some a) {kvs : List (W × W)} (e : dctOf S n = some kvs) :
    (∃ qs, Rd H a (.dK qs) ∧ RK X.J ρ H kvs qs) ∨ ∃ xs, Rd H a (NDict X.prog X.w a xs) ∧ (a == sysModules) = false ∧ RN X.J ρ H kvs xs ∧ kvs.length ≤ sizeLine := by
  unfold dctOf at e
  cases q : S[n]? with
  | none => rw [q] at e; cases e
  | some o =>
    rw [q] at e
    have x := R.obj n o a q h
    cases x with
    | lst h r => cases e
    | dK h r => cases e; exact .inl ⟨_, .inl h, r⟩
    | dN h z r hl => cases e; exact .inr ⟨_, .inl h, z, r, hl⟩
    | fK h r => cases e; exact .inl ⟨_, .inr ⟨_, h⟩, r⟩
    | fN h z r hl => cases e; exact .inr ⟨_, .inr ⟨_, h⟩, z, r, hl⟩
theorem Rel.dview (R : Rel X.prog X.w X.J ρ S H) (I : Inv X pins σ H s) {n : Nat} {a : Addr} (h : ρ[n]? = some a) {kvs : List (W × W)} (e : dctOf S n = some kvs) {k : W} {y : V} {z : Value} (ok : keyOk kvs k = true)
    (rk : RW X.J ρ H k y) (rz : RelV y z) : DView X ρ H s a kvs k z := by
  unfold keyOk at ok
  rw [Bool.or_eq_true, Bool.and_eq_true, Bool.and_eq_true] at ok
  rcases R.dct h e with ⟨qs, hr, r⟩ | ⟨xs, hr, hs, r, hl⟩
  · obtain ⟨hz, hd, vs, rel, dd⟩ := dk_rd I.hok hr
    have hl : kvs.length ≤ sizeLine := by rw [Paired.length r]; exact hz
    rcases ok with ⟨ok, _⟩ | ⟨ok, oa⟩
    · obtain ⟨q, eq⟩ := flat_kOf ok
      have ey := kOf_rw eq rk
      subst ey
      exact ⟨hd, hl, .inl ⟨q, qs, vs, eq, kV_is rz, r, rel, dd⟩⟩
    · have e0 := all_both r.all oa
      subst e0
      cases r
      cases rel
      obtain ⟨q, eq, dq⟩ := tupKey_nk ok
      obtain ⟨b, rfl⟩ := tup_ref ok rk
      have hz : z = .ref b := rz
      subst hz
      exact ⟨hd, hl, .inr ⟨q, [], b, ok, eq, rfl, rk, ⟨nested_is I _ _ _ _ rk rfl eq, dq⟩, .nil, of_nil dd⟩⟩
  · have dd := Inv.ndict I hr r
    rcases ok with ⟨ok, oa⟩ | ⟨ok, oa⟩
    · have e0 := all_both oa r.all
      subst e0
      cases r
      obtain ⟨q, eq⟩ := flat_kOf ok
      have ey := kOf_rw eq rk
      subst ey
      exact ⟨hs, hl, .inl ⟨q, [], [], eq, kV_is rz, .nil, .nil, ofH_nil dd⟩⟩
    · obtain ⟨q, eq, dq⟩ := tupKey_nk ok
      obtain ⟨b, rfl⟩ := tup_ref ok rk
      have hz : z = .ref b := rz
      subst hz
      exact ⟨hs, hl, .inr ⟨q, xs, b, ok, eq, rfl, rk, ⟨nested_is I _ _ _ _ rk rfl eq, dq⟩, r, dd⟩⟩
theorem DView.typeIs {a : Addr} {kvs : List (W × W)} {k : W} {z : Value} (d : DView X ρ H s a kvs k z) : s.TypeIs (.ref a) "dict" := by
  rcases d.way with ⟨_, _, _, _, _, _, _, dd⟩ | ⟨_, _, _, _, _, _, _, _, _, dd⟩ <;> exact dd.typeIs
section
variable {A : Around} {E : Value → Shared → Prop} {a : Addr} {kvs : List (W × W)} {k : W} {z : Value}
/-- d[k], there -/
theorem dv_get {u : W} {Q : Value → Shared → Prop} (hu : A.units + 64 < cLine) (I : Inv X pins σ H s) (d : DView X ρ H s a kvs k z) (e : keyGet kvs k = some u) (h : ∀ v z' s', RelV v z' → RW X.J ρ H u v → Inv X pins σ H s' → Q z' s') :
    wpAny (model X.prog X.w) A (getItem (.ref a) z) Q E s := by
  rcases d.way with ⟨q, qs, vs, eq, iz, r, rel, dd⟩ | ⟨q, xs, b, _, eq, rfl, rk, iz, r, dd⟩
  · obtain ⟨v, h1, h2⟩ := (RK.get eq r).1 u e
    obtain ⟨w', hw, rw'⟩ := RelO.some_of (v := v) (o := valueAt vs q) (by rw [← h1]; exact rel.val q)
    exact wpAny_getItem_of iz dd.mapOf hw (h v w' _ rw' h2 (I.tok _))
  · obtain ⟨b', z', v, h1, h2, h3⟩ := (RN.get eq r).1 u e
    exact wpAny_getItem_heap (show A.in1.units + 8 < cLine by show A.units + 1 + 8 < cLine; omega) iz dd h1 (h v z' _ h2 h3 (I.tok _))
theorem dv_in {Q : Value → Shared → Prop} (hu : A.units + 64 < cLine) (I : Inv X pins σ H s) (d : DView X ρ H s a kvs k z) (h : ∀ s', Inv X pins σ H s' → Q (.bool (keyIn kvs k)) s') :
    wpAny (model X.prog X.w) A (compareOp .In z (.ref a)) Q E s := by
  rcases d.way with ⟨q, qs, vs, eq, iz, r, rel, dd⟩ | ⟨q, xs, b, _, eq, rfl, rk, iz, r, dd⟩
  · refine wpAny_in_of iz d.sys dd.mapOf ?_
    rw [← (rel.val q).isSome_eq, ← r.val eq]
    exact h _ (I.tok _)
  · refine wpAny_in_heap (show A.in1.units + 8 < cLine by show A.units + 1 + 8 < cLine; omega) iz d.sys dd ?_
    rw [← r.val eq]
    exact h _ (I.tok _)
theorem dv_notIn {Q : Value → Shared → Prop} (hu : A.units + 64 < cLine) (I : Inv X pins σ H s) (d : DView X ρ H s a kvs k z) (h : ∀ s', Inv X pins σ H s' → Q (.bool (!keyIn kvs k)) s') :
    wpAny (model X.prog X.w) A (compareOp .NotIn z (.ref a)) Q E s := by
  rcases d.way with ⟨q, qs, vs, eq, iz, r, rel, dd⟩ | ⟨q, xs, b, _, eq, rfl, rk, iz, r, dd⟩
  · refine wpAny_notIn_of iz d.sys dd.mapOf ?_
    rw [← (rel.val q).isSome_eq, ← r.val eq]
    exact h _ (I.tok _)
  · refine wpAny_notIn_heap (show A.in1.units + 8 < cLine by show A.units + 1 + 8 < cLine; omega) iz d.sys dd ?_
    rw [← r.val eq]
    exact h _ (I.tok _)
theorem dv_get1 {Q : Value → Shared → Prop} (hu : A.units + 64 < cLine) (I : Inv X pins σ H s) (d : DView X ρ H s a kvs k z) (h : ∀ v z' s', RelV v z' → RW X.J ρ H ((keyGet kvs k).getD .non) v → Inv X pins σ H s' → Q z' s') :
    wpAny (model X.prog X.w) A (call (.builtin "dict.get") [.ref a, z]) Q E s := by
  rcases d.way with ⟨q, qs, vs, eq, iz, r, rel, dd⟩ | ⟨q, xs, b, _, eq, rfl, rk, iz, r, dd⟩
  · obtain ⟨g1, g2⟩ := RK.get eq r
    refine call_meetsIn PySem.F.slot_dict_get dd.typeIs PySem.F.entry_dict_get (PySem.F.args_dict_get_2 _ _) (meets_dict_get (mixKind X.prog X.w) a iz d.sys) ⟨_, dd.mapOf, ?_⟩
    cases hk : keyGet kvs k with
    | none =>
      rw [RelO.none_of (o := valueAt vs q) (by rw [← g2 hk]; exact rel.val q)]
      exact h .non _ _ rfl (by rw [hk]; exact .non) (I.tok _)
    | some u =>
      obtain ⟨v, h1, h2⟩ := g1 u hk
      obtain ⟨w', hw, rw'⟩ := RelO.some_of (v := v) (o := valueAt vs q) (by rw [← h1]; exact rel.val q)
      rw [hw]
      exact h v w' _ rw' (by rw [hk]; exact h2) (I.tok _)
  · obtain ⟨g1, g2⟩ := RN.get eq r
    refine call_meetsIn PySem.F.slot_dict_get dd.typeIs PySem.F.entry_dict_get (PySem.F.args_dict_get_2 _ _) (meetsH_dict_get (nestedKind X.prog X.w) a b d.sys) ⟨(show A.in1.units + 8 < cLine by show A.units + 1 + 8 < cLine; omega), q, xs, iz, dd, ?_⟩
    cases hk : keyGet kvs k with
    | none =>
      rw [g2 hk]
      exact h .non _ _ rfl (by rw [hk]; exact .non) (I.tok _)
    | some u =>
      obtain ⟨b', z', v, h1, h2, h3⟩ := g1 u hk
      rw [h1]
      exact h v z' _ h2 (by rw [hk]; exact h3) (I.tok _)
theorem dv_get2 {Q : Value → Shared → Prop} {t : W} {tv : V} {tz : Value} (hu : A.units + 64 < cLine) (I : Inv X pins σ H s) (d : DView X ρ H s a kvs k z) (rt : RW X.J ρ H t tv) (rtz : RelV tv tz) (h : ∀ v z' s', RelV v z' → RW X.J ρ H ((keyGet kvs k).getD t) v → Inv X pins σ H s' → Q z' s') :
    wpAny (model X.prog X.w) A (call (.builtin "dict.get") [.ref a, z, tz]) Q E s := by
  rcases d.way with ⟨q, qs, vs, eq, iz, r, rel, dd⟩ | ⟨q, xs, b, _, eq, rfl, rk, iz, r, dd⟩
  · obtain ⟨g1, g2⟩ := RK.get eq r
    refine call_meetsIn PySem.F.slot_dict_get dd.typeIs PySem.F.entry_dict_get (PySem.F.args_dict_get_3 _ _ _) (meets_dict_get_default (mixKind X.prog X.w) a iz d.sys tz) ⟨_, dd.mapOf, ?_⟩
    cases hk : keyGet kvs k with
    | none =>
      rw [RelO.none_of (o := valueAt vs q) (by rw [← g2 hk]; exact rel.val q)]
      exact h tv _ _ rtz (by rw [hk]; exact rt) (I.tok _)
    | some u =>
      obtain ⟨v, h1, h2⟩ := g1 u hk
      obtain ⟨w', hw, rw'⟩ := RelO.some_of (v := v) (o := valueAt vs q) (by rw [← h1]; exact rel.val q)
      rw [hw]
      exact h v w' _ rw' (by rw [hk]; exact h2) (I.tok _)
  · obtain ⟨g1, g2⟩ := RN.get eq r
    refine call_meetsIn PySem.F.slot_dict_get dd.typeIs PySem.F.entry_dict_get (PySem.F.args_dict_get_3 _ _ _) (meetsH_dict_get_default (nestedKind X.prog X.w) a b d.sys tz) ⟨(show A.in1.units + 8 < cLine by show A.units + 1 + 8 < cLine; omega), q, xs, iz, dd, ?_⟩
    cases hk : keyGet kvs k with
    | none =>
      rw [g2 hk]
      exact h tv _ _ rtz (by rw [hk]; exact rt) (I.tok _)
    | some u =>
      obtain ⟨b', z', v, h1, h2, h3⟩ := g1 u hk
      rw [h1]
      exact h v z' _ h2 (by rw [hk]; exact h3) (I.tok _)
end
/-- the store's dict, writable -/
theorem RO.dct_inv {a : Addr} {kvs : List (W × W)} (x : RO X.prog X.w X.J ρ H a (.dct kvs)) : ∃ u, H a = some u ∧ Mut (H a) ∧ (∀ xs, u ≠ .tup xs) ∧ ∀ ob v, u ≠ .frz ob v := by
  cases x with
  | dK h r => exact ⟨_, h, by rw [h]; trivial, (fun _ z => by cases z), (fun _ _ z => by cases z)⟩
  | dN h z r hl => exact ⟨_, h, by rw [h]; trivial, (fun _ z => by cases z), (fun _ _ z => by cases z)⟩
theorem keyPut_length (kvs : List (W × W)) (k v : W) : (keyPut kvs k v).length ≤ kvs.length + 1 := by
  unfold keyPut
  split <;> simp
/-- d[k] = v -/
theorem dv_set {A : Around} {E : Value → Shared → Prop} {a : Addr} {n : Nat} {kvs : List (W × W)} {k : W} {y : V} {z : Value} {u : W} {v : V} {zv : Value} {Q : Unit → Shared → Prop} (hu : A.units + 64 < cLine) (R : Rel X.prog X.w X.J ρ S H) (I : Inv X pins σ H s)
    (h0 : ρ[n]? = some a) (e : S[n]? = some (.dct kvs)) (ok : keyOk kvs k = true) (hl : kvs.length < sizeLine) (rk : RW X.J ρ H k y) (rz : RelV y z) (ru : RW X.J ρ H u v) (rv : RelV v zv)
    (h : ∀ H' s', Le X.J ρ H ρ H' → Rel X.prog X.w X.J ρ (S.set n (.dct (keyPut kvs k u))) H' → Inv X pins σ H' s' → Q () s') : wpAny (model X.prog X.w) A (setItem (.ref a) z zv) Q E s := by
  have d : DView X ρ H s a kvs k z := R.dview I h0 (by unfold dctOf; rw [e]) ok rk rz
  obtain ⟨w0, hw0, mu, n1, n2⟩ := (R.at_ h0 e).dct_inv
  have L : ∀ o, Le X.J ρ H ρ (upd H a o) := fun o => Le.set h0 fun q e' => by rw [hw0] at e'; cases e'; exact ⟨n1, n2⟩
  have hl' : (keyPut kvs k u).length ≤ sizeLine := by have := keyPut_length kvs k u; omega
  rcases d.way with ⟨q, qs, vs, eq, iz, r, rel, dd⟩ | ⟨q, xs, b, ht, eq, rfl, rk', iz, r, dd⟩
  · have hz : vs.length ≤ sizeLine := by rw [← rel.length, ← Paired.length r]; exact d.len
    have hp : (putK qs q v).length ≤ sizeLine := by have := length_putK qs q v; have := Paired.length r; omega
    refine wpAny_setItem_pairs (hsz := hz) iz dd fun h' dd' hs => ?_
    have he : ∃ q, h'.get? a = some q := let ⟨q, _, _, hq, _⟩ := dd'; ⟨q, hq⟩
    exact h (upd H a (.dK (putK qs q v))) _ (L _) (R.set h0 hw0 ⟨n1, n2⟩ (.dK upd_same ((r.put eq ru).mono (L _)))) (d_write I mu hs he (dk_new hp d.sys (rel.put q rv) dd'))
  · have hz : xs.length ≤ sizeLine := by rw [← Paired.length r]; exact d.len
    refine wpAny_setItem_heap (hsz := hz) (show A.in1.units + 8 < cLine by show A.units + 1 + 8 < cLine; omega) iz dd fun h' dd' hs => ?_
    obtain ⟨o, es, ep, g1, g2, g3, g4, g5, g6⟩ := dd'
    exact h (upd H a (NDict X.prog X.w a (storedH xs q b zv))) _ (L _) (R.set h0 hw0 ⟨n1, n2⟩ (.dN upd_same d.sys ((r.put ht eq rk' rv ru).mono (L _)) hl'))
      (d_write I mu hs ⟨o, g1⟩ ⟨⟨o, es, ep, g1, g2, g3, g4, g6⟩, ⟨o, g1⟩, fun h1 h2 ⟨o, es, ep, g1, g2⟩ k => ⟨o, es, ep, k o g1, g2⟩⟩)
end
end PI

set_option Elab.async false
set_option linter.all false
set_option maxRecDepth 100000
set_option maxHeartbeats 4000000
/-! membership, subscripts, slices, truth, isinstance -/
namespace PI
open PySem PySem.Spec PyProof.Rows L2
section
variable {X : Cx} {ρ : List Addr} {H : Hp} {S : Sto} {pins : List (Addr × Obj)} {σ : L2.St} {s : Shared}

/-! ### in, not in -/
theorem depthAll_le : ∀ ds : List PyData, ds.all isDeep = true → PyData.depthAll ds ≤ 60
  | [], _ => by simp [PyData.depthAll]
  | d :: ds, h => by
    rw [List.all_cons, Bool.and_eq_true] at h
    have h1 : d.depth ≤ 60 := of_decide_eq_true h.1
    have h2 := depthAll_le ds h.2
    simp only [PyData.depthAll]
    omega
theorem dpAll_of (R : Rel X.prog X.w X.J ρ S H) {ws : List W} {vs : List V} {ds : List PyData} (r : RWs X.J ρ H ws vs) (e : optAll (ws.map (dataOf S)) = some ds) : DpAll X.K H vs ds := R.dps _ _ _ _ r e
theorem op_inB (hu : X.A.units + 64 < cLine) (neg : Bool) : OpR X (compareOp (if neg then .NotIn else .In)) (LR2 X (cmpW (if neg then .notIn else .isIn))) := by
  intro pins s σ H x y v u Q I rx ry ⟨ρ, S, a, b, ha, hb, R, h⟩
  have h0 : ∃ c, inW S a b = some c ∧ Q (.bl (if neg then !c else c)) H := by
    cases neg with
    | false =>
      have h : Ans X ρ H (boolR S (inW S a b)) Q := h
      cases e : inW S a b with
      | none => rw [e] at h; exact h.no.elim
      | some c => rw [e] at h; exact ⟨c, rfl, h.now R (.bl _)⟩
    | true =>
      have h : Ans X ρ H (boolR S ((inW S a b).map (!·))) Q := h
      cases e : inW S a b with
      | none => rw [e] at h; exact h.no.elim
      | some c => rw [e] at h; exact ⟨c, rfl, h.now R (.bl _)⟩
  obtain ⟨c, e, q⟩ := h0
  have seqs : ∀ {ds : List PyData} {d : PyData}, (d.plain && PyData.plainAll ds && isDeep d && ds.all isDeep) = true → d.plain = true ∧ PyData.plainAll ds = true ∧ X.A.units + 1 + min (PyData.depthAll ds) d.depth < cLine := fun {ds d} hc => by
    simp only [Bool.and_eq_true] at hc
    have h1 : d.depth ≤ 60 := of_decide_eq_true hc.1.2
    have h2 : min (PyData.depthAll ds) d.depth ≤ d.depth := Nat.min_le_right _ _
    exact ⟨hc.1.1.1, hc.1.1.2, by omega⟩
  cases hb with
  | str z =>
    cases ha with
    | str i =>
      have e' : some (!(Builtin.Str.occurrences z i 0 z.length 1).isEmpty) = some c := e
      cases e'
      cases neg with
      | false => exact op_in_str pins s σ H _ _ v u Q I rx ry ⟨i, z, rfl, rfl, q⟩
      | true => exact op_notin_str pins s σ H _ _ v u Q I rx ry ⟨i, z, rfl, rfl, q⟩
    | _ => cases e
  | tup t r =>
    rename_i ad ws vs
    simp only [inW] at e
    split at e
    · rename_i d ds h1 h2
      split at e
      · rename_i hc
        obtain ⟨p1, p2, p3⟩ := seqs hc
        cases e
        obtain ⟨as, r1⟩ := Dp.reads I d x v (R.data ha h1) rx
        obtain ⟨bs, r2⟩ := Dp.reads I (.tuple ds) _ u (.tup t (dpAll_of R r h2)) ry
        cases neg with
        | false => exact PySem.SeqAt.in_tuple_data r2 r1 p2 p1 p3 ⟨.bl _, H, I, rfl, q⟩
        | true => exact PySem.SeqAt.notIn_tuple_data r2 r1 p2 p1 p3 ⟨.bl _, H, I, rfl, q⟩
      · cases e
    · cases e
  | ref hn =>
    rename_i n ad
    have ru : u = Value.ref ad := ry
    subst ru
    have lists : ∀ {ws : List W} {d : PyData}, lstOf S n = some ws → dataOf S a = some d → (match optAll (ws.map (dataOf S)) with
        | some ds => if d.plain && PyData.plainAll ds && isDeep d && ds.all isDeep then some (ds.any fun z => PyData.eqv z d) else none
        | none => none) = some c → wpAny (model X.prog X.w) X.A (compareOp (if neg then .NotIn else .In) v (.ref ad)) (EP X pins σ Q) X.xe s := fun {ws d} h1 h2 e => by
      split at e
      · rename_i ds h3
        split at e
        · rename_i hc
          obtain ⟨p1, p2, p3⟩ := seqs hc
          cases e
          obtain ⟨vs, hl, r⟩ := R.lstOf hn h1
          obtain ⟨as, r1⟩ := Dp.reads I d x v (R.data ha h2) rx
          obtain ⟨bs, r2⟩ := Dp.reads I (.list ds) _ _ (.lst hl (dpAll_of R r h3)) ry
          cases neg with
          | false => exact PySem.SeqAt.in_list_data r2 r1 p2 p1 p3 ⟨.bl _, H, I, rfl, q⟩
          | true => exact PySem.SeqAt.notIn_list_data r2 r1 p2 p1 p3 ⟨.bl _, H, I, rfl, q⟩
        · cases e
      · cases e
    have dicts : ∀ {kvs : List (W × W)}, dctOf S n = some kvs → (if keyOk kvs a then some (keyIn kvs a) else none) = some c → wpAny (model X.prog X.w) X.A (compareOp (if neg then .NotIn else .In) v (.ref ad)) (EP X pins σ Q) X.xe s := fun {kvs} h1 e => by
      split at e
      · rename_i ok
        cases e
        have d := R.dview I hn h1 ok ha rx
        cases neg with
        | false => exact dv_in hu I d fun s' I' => ⟨.bl _, H, I', rfl, q⟩
        | true => exact dv_notIn hu I d fun s' I' => ⟨.bl _, H, I', rfl, q⟩
      · cases e
    simp only [inW] at e
    split at e
    · rename_i kvs h1
      exact dicts (by unfold dctOf; rw [h1]) e
    · rename_i kvs h1
      exact dicts (by unfold dctOf; rw [h1]) e
    · split at e
      · rename_i ws d h1 h2
        exact lists h1 h2 e
      · cases e
  | _ => cases e
def copOf : Cop → CmpOp
  | .eq => .Eq | .ne => .NotEq | .lt => .Lt | .le => .LtE | .gt => .Gt | .ge => .GtE | .is => .Is | .isNot => .IsNot | .isIn => .In | .notIn => .NotIn
theorem op_cmp (hu : X.A.units + 64 < cLine) : ∀ o : Cop, OpR X (compareOp (copOf o)) (LR2 X (cmpW o))
  | .eq => op_eqW hu | .ne => op_neW hu | .lt => op_ltW hu | .le => op_leW hu | .gt => op_gtW hu | .ge => op_geW hu | .is => op_isW | .isNot => op_isNotW | .isIn => op_inB hu false | .notIn => op_inB hu true

/-! ### a[i] -/
theorem atI_map {ws : List W} {vs : List V} {i : Int} {w : W} (r : RWs X.J ρ H ws vs) (e : atI ws i = some w) : ∃ v, atI vs i = some v ∧ RW X.J ρ H w v := by
  unfold atI at e ⊢
  rw [r.length] at e
  obtain ⟨j, h1, h2⟩ := Option.bind_eq_some_iff.mp e
  obtain ⟨v, h3, h4⟩ := r.get h2
  exact ⟨v, by rw [h1]; exact h3, h4⟩
theorem ixL_inv {ws : List W} {b : W} {Q : VK} (h : Ans X ρ H (ixL ws b S) Q) : ∃ i w, b = .int i ∧ atI ws i = some w ∧ Ans X ρ H (.ok w S) Q := by
  unfold ixL at h
  split at h
  · split at h
    · exact ⟨_, _, rfl, by assumption, h⟩
    · exact h.no.elim
  · exact h.no.elim
theorem ix_W (hu : X.A.units + 64 < cLine) : IxR X (LR2 X ixW) := by
  intro value slice pins s σ H x y v u Q I rx ry ⟨ρ, S, a, b, ha, hb, R, h⟩ hs
  cases ha with
  | tup t r =>
    obtain ⟨i, w, rfl, e, h⟩ := ixL_inv h
    cases hb
    obtain ⟨v', e1, r1⟩ := atI_map r e
    exact ix_tup value slice pins s σ H _ _ v u Q I rx ry ⟨_, _, _, _, rfl, rfl, t, e1, h.now R r1⟩ hs
  | str z =>
    have h : Ans X ρ H (ixS z b S) Q := h
    unfold ixS at h
    split at h
    · cases hb
      obtain ⟨hz, h⟩ := h.ite
      split at h
      · rename_i c e
        exact ix_str value slice pins s σ H _ _ v u Q I rx ry ⟨z, _, c, rfl, rfl, hz, e, h.now R (.str _)⟩ hs
      · exact h.no.elim
    · exact h.no.elim
  | ref hn =>
    rename_i n ad
    have rv : v = Value.ref ad := rx
    have lists : ∀ {ws : List W}, lstOf S n = some ws → Ans X ρ H (ixL ws b S) Q → wpAny (model X.prog X.w) X.A (subscriptTail value slice v u) (EP X pins σ Q) X.xe s := fun {ws} h1 h => by
      obtain ⟨i, w, rfl, e, h⟩ := ixL_inv h
      cases hb
      obtain ⟨vs, hl, r⟩ := R.lstOf hn h1
      obtain ⟨v', e1, r1⟩ := atI_map r e
      exact ix_list value slice pins s σ H _ _ v u Q I rx ry ⟨_, _, _, _, rfl, rfl, hl, e1, h.now R r1⟩ hs
    have dicts : ∀ {kvs : List (W × W)}, dctOf S n = some kvs → Ans X ρ H (ixD kvs b S) Q → wpAny (model X.prog X.w) X.A (subscriptTail value slice v u) (EP X pins σ Q) X.xe s := fun {kvs} h1 h => by
      unfold ixD at h
      obtain ⟨ok, h⟩ := h.ite
      split at h
      · rename_i w e
        have d := R.dview I hn h1 ok hb ry
        subst rv
        have hT := d.typeIs
        unfold subscriptTail
        refine wpAny_bind ?_
        rw [getitemInPython_of_ne hT.not_modules]
        refine wpAny_bind (wpAny_specialOf hT PySem.F.slot_dict_getitem.lookup ?_)
        have fin : wpAny (model X.prog X.w) X.A (subscripted slice false (.ref ad) u) (fun r s₃ => wpAny (model X.prog X.w) X.A (letTemporaryGo value (.ref ad) r >>= fun _ => pure r) (EP X pins σ Q) X.xe s₃) X.xe s := by
          rw [hs]
          exact wpAny_operating (dv_get hu I d e fun v z' s' rz' r' I' => wpAny_bind (wpAny_letTemporaryGo (wpAny_pure ⟨v, H, I', rz', h.now R r'⟩)))
        first
          | exact wpAny_pure (wpAny_bind fin)
          | exact wpAny_bind (wpAny_pure (wpAny_bind fin))
          | exact wpAny_bind fin
      · exact h.no.elim
    have h : Ans X ρ H (ixO S[n]? b S) Q := h
    unfold ixO at h
    split at h
    · rename_i ws h1
      exact lists (by unfold PI.lstOf; rw [h1]) h
    · rename_i kvs h1
      exact dicts (by unfold dctOf; rw [h1]) h
    · rename_i kvs h1
      exact dicts (by unfold dctOf; rw [h1]) h
    · exact h.no.elim
  | _ => exact h.no.elim

/-! ### a[lo:hi] -/
theorem cut_rel {ws : List W} {vs : List V} (lo hi : Option Int) (r : RWs X.J ρ H ws vs) : RWs X.J ρ H (cutW ws lo hi) (cutV vs lo hi) := by
  unfold cutW cutV
  rw [r.length]
  exact (r.drop _).take _
def LSl (X : Cx) : V → Option Int → Option Int → Hp → VK → Prop := fun x lo hi H Q => ∃ ρ S a, RW X.J ρ H a x ∧ Rel X.prog X.w X.J ρ S H ∧ Ans X ρ H (slW a lo hi S) Q
theorem sl_W : SlR X (LSl X) := by
  intro pins s σ H x v vl vu lo hi sl Q I rx hs pl pu ⟨ρ, S, a, ha, R, h⟩
  cases ha with
  | tup t r =>
    rename_i ad ws vs
    have h : Ans X ρ H (.ok (.tup (cutW ws lo hi)) S) Q := h
    refine sl_tupA pins s σ H _ v vl vu lo hi sl Q I rx hs pl pu ⟨_, _, rfl, t, fun e => ?_, fun _ p hp => h.tup R (cut_rel lo hi r) hp⟩
    have e' : cutW ws lo hi = ws := by
      unfold cutW
      rw [r.length, e.1, e.2, List.drop_zero, Nat.sub_zero]
      exact List.take_of_length_le (by rw [r.length]; exact Nat.le_refl _)
    rw [e'] at h
    exact h.now R (.tup t r)
  | str z =>
    obtain ⟨hz, h⟩ := (show Ans X ρ H (if z.length ≤ sizeLine then .ok (.str (cutS z lo hi)) S else .bad) Q from h).ite
    exact sl_str pins s σ H _ v vl vu lo hi sl Q I rx hs pl pu ⟨z, rfl, hz, h.now R (.str _)⟩
  | ref hn =>
    rename_i n ad
    have h : Ans X ρ H (match lstOf S n with
      | some ws => .ok (.ref S.length) (S ++ [.lst (cutW ws lo hi)])
      | none => .bad) Q := h
    split at h
    · rename_i ws e
      obtain ⟨vs, hl, r⟩ := R.lstOf hn e
      exact sl_list pins s σ H _ v vl vu lo hi sl Q I rx hs pl pu ⟨_, _, rfl, hl, fun p hp => h.lst R (cut_rel lo hi r) hp⟩
    · exact h.no.elim
  | scr t r =>
    have h : Ans X ρ H (.ok (.ref S.length) (S ++ [.lst (cutW _ lo hi)])) Q := h
    exact sl_list pins s σ H _ v vl vu lo hi sl Q I rx hs pl pu ⟨_, _, rfl, t.sql, fun p hp => h.lst R (cut_rel lo hi r) hp⟩
  | _ => exact h.no.elim

/-! ### truth -/
theorem flatAll {kvs : List (W × W)} (h : (kvs.all fun kv => match kv.1 with | .int _ => true | .str _ => true | _ => false) = true) : (kvs.all fun kv => flatKey kv.1) = true := by
  have e : (fun kv : W × W => match kv.1 with | .int _ => true | .str _ => true | _ => false) = fun kv => flatKey kv.1 := by
    funext kv
    cases kv.1 <;> rfl
  rw [e] at h
  exact h
def LTru (X : Cx) : V → Hp → (Bool → Hp → Prop) → Prop := fun x H Q => ∃ ρ S a t, RW X.J ρ H a x ∧ Rel X.prog X.w X.J ρ S H ∧ truthW S a = some t ∧ Q t H
theorem tru_W : TruR X (LTru X) := by
  intro pins s σ H x v Q I rx ⟨ρ, S, a, t, ha, R, e, q⟩
  cases ha with
  | exc h1 h2 h3 h4 h5 r => cases e
  | scr t r => cases e
  | non => cases e; exact tru_ok pins s σ H _ v Q I rx ⟨_, rfl, q⟩
  | bl b => cases e; exact tru_ok pins s σ H _ v Q I rx ⟨_, rfl, q⟩
  | int i => cases e; exact tru_ok pins s σ H _ v Q I rx ⟨_, rfl, q⟩
  | str z =>
    simp only [truthW] at e
    split at e
    · rename_i hz
      cases e
      refine tru_ok pins s σ H _ v Q I rx ⟨_, ⟨hz, ?_⟩, q⟩
      by_cases h0 : z.length = 0
      · simp [h0]
      · have h1 : ((z.length : Int) != 0) = true := by simpa using h0
        rw [h1]; simpa using h0
    · cases e
  | tup t r =>
    cases e
    refine tru_ok pins s σ H _ v Q I rx ⟨_, .inr (.inl ⟨_, t, rfl⟩), ?_⟩
    rw [← r.isEmpty]
    exact q
  | ref hn =>
    rename_i n ad
    have rv : v = Value.ref ad := rx
    have lists : ∀ {ws : List W}, lstOf S n = some ws → t = !ws.isEmpty → wpAny (model X.prog X.w) X.A (truthy v) (TP X pins σ Q) X.xe s := fun {ws} h1 e => by
      obtain ⟨vs, hl, r⟩ := R.lstOf hn h1
      refine tru_ok pins s σ H _ v Q I rx ⟨_, .inl ⟨_, hl, rfl⟩, ?_⟩
      rw [← r.isEmpty, ← e]
      exact q
    have dicts : ∀ {kvs : List (W × W)}, dctOf S n = some kvs → (kvs.all fun kv => match kv.1 with | .int _ => true | .str _ => true | _ => false) = true → t = !kvs.isEmpty → wpAny (model X.prog X.w) X.A (truthy v) (TP X pins σ Q) X.xe s := fun {kvs} h1 hf e => by
      subst rv
      have hsl : sizeLine = 16777216 := sizeLine_eq
      rcases R.dct hn h1 with ⟨qs, hr, r⟩ | ⟨xs, hr, hs, r, hl⟩
      · refine d_truth I hr fun s' I' => ⟨H, I', ?_⟩
        have : qs.isEmpty = kvs.isEmpty := by cases r <;> rfl
        rw [this, ← e]
        exact q
      · have e0 := all_both (flatAll hf) r.all
        subst e0
        have dd := Inv.ndict I hr r
        cases r
        refine wpAny_truthy_dict hs (ofH_nil dd) (by simp) ⟨H, I.tok _, ?_⟩
        rw [e] at q
        exact q
    simp only [truthW] at e
    split at e
    · rename_i ws h1; cases e; exact lists (by unfold PI.lstOf; rw [h1]) rfl
    · rename_i kvs h1
      split at e
      · rename_i hf; cases e; exact dicts (by unfold dctOf; rw [h1]) hf rfl
      · cases e
    · rename_i kvs h1
      split at e
      · rename_i hf; cases e; exact dicts (by unfold dctOf; rw [h1]) hf rfl
      · cases e
    · cases e

/-! ### o[i] = v -/
def LSet (X : Cx) : TSet := fun o i v H Q => ∃ ρ S a b c, RW X.J ρ H a o ∧ RW X.J ρ H b i ∧ RW X.J ρ H c v ∧ Rel X.prog X.w X.J ρ S H ∧ ∃ xw, Fin X xw ρ H (setW a b c S) fun _ _ _ H' => Q H'
theorem set_W (hu : X.A.units + 64 < cLine) : PSet X (LSet X) := by
  intro pins s σ H o i v ov iv u Q I ro ri rv ⟨ρ, S, a, b, c, ha, hb, hc, R, xw, h⟩
  cases ha with
  | ref hn =>
    rename_i n ad
    have h : Fin X xw ρ H (setO n S[n]? b c S) (fun _ _ _ H' => Q H') := h
    unfold setO at h
    split at h
    · rename_i ws h1
      unfold setL at h
      split at h
      · split at h
        · rename_i j e
          cases hb
          obtain ⟨vs, h2, r⟩ := (R.at_ hn h1).lst_inv
          have L : Le X.J ρ H ρ (upd H ad (.lst (vs.set j v))) := Le.set hn fun q e' => by rw [h2] at e'; cases e'; exact ⟨(fun _ z => by cases z), (fun _ _ z => by cases z)⟩
          refine set_list pins s σ H _ _ v ov iv u Q I ro ri rv ⟨ad, vs, _, j, rfl, rfl, h2, by rw [← r.length]; exact e, ?_⟩
          exact h _ _ L (R.set hn h2 ⟨(fun _ z => by cases z), (fun _ _ z => by cases z)⟩ (.lst upd_same ((r.set j hc).mono L)))
        · exact h.elim
      · exact h.elim
    · rename_i kvs h1
      have hro : ov = Value.ref ad := ro
      subst hro
      by_cases hok : (keyOk kvs b && decide (kvs.length < sizeLine)) = true
      · rw [if_pos hok] at h
        rw [Bool.and_eq_true] at hok
        exact dv_set hu R I hn h1 hok.1 (of_decide_eq_true hok.2) hb ri hc rv fun H' s' L R' I' => ⟨H', I', h _ _ L R'⟩
      · rw [if_neg hok] at h
        exact h.elim
    · exact h.elim
  | _ => exact False.elim h

/-! ### isinstance -/
theorem ty_kit (R : Rel X.prog X.w X.J ρ S H) (I : Inv X pins σ H s) {a : W} {x : V} {z : Value} {t : String} (ra : RW X.J ρ H a x) (rz : RelV x z) (e : tyW S a = some t) : ∃ P : Heap → Prop, PySem.W.KitX X.K z (.type t) P ∧ P s.heap ∧ z ≠ .builtin "__main__.__loader__#opaque" := by
  cases ra with
  | exc h1 h2 h3 h4 h5 r => cases e
  | scr t r => cases e
  | non => cases e; exact kit_of I rz (.base .non)
  | bl b => cases e; exact kit_of I rz (.base (.bl b))
  | int i => cases e; exact kit_of I rz (.base (.int i))
  | str y => cases e; exact kit_of I rz (.base (.str y))
  | tup t r =>
    cases e
    cases (show z = Value.ref _ from rz)
    obtain ⟨its, r, ⟨o, h1, h2, _⟩, hz⟩ := I.tuple t
    exact ⟨_, PySem.W.kitx_tuple, ⟨o, h1, h2⟩, fun z => nomatch z⟩
  | ref hn =>
    rename_i n ad
    cases (show z = Value.ref ad from rz)
    have lists : ∀ {ws : List W}, lstOf S n = some ws → ∃ P : Heap → Prop, PySem.W.KitX X.K (.ref ad) (.type "list") P ∧ P s.heap ∧ (Value.ref ad) ≠ .builtin "__main__.__loader__#opaque" := fun {ws} h1 => by
      obtain ⟨vs, hl, r⟩ := R.lstOf hn h1
      obtain ⟨its, _, ⟨o, k, h1, h2, _⟩, _⟩ := I.list hl
      exact ⟨_, PySem.W.kitx_list, ⟨o, h1, h2⟩, fun z => nomatch z⟩
    have dicts : ∀ {kvs : List (W × W)}, dctOf S n = some kvs → ∃ P : Heap → Prop, PySem.W.KitX X.K (.ref ad) (.type "dict") P ∧ P s.heap ∧ (Value.ref ad) ≠ .builtin "__main__.__loader__#opaque" := fun {kvs} h1 => by
      rcases R.dct hn h1 with ⟨qs, hr, r⟩ | ⟨xs, hr, hs, r, hl⟩
      · obtain ⟨_, _, vs, _, o, es, ep, h1, h2, _⟩ := dk_rd I.hok hr
        exact ⟨_, PySem.W.kitx_dict, ⟨o, h1, h2.1⟩, fun z => nomatch z⟩
      · obtain ⟨o, es, ep, h1, h2, _⟩ := Inv.ndict I hr r
        exact ⟨_, PySem.W.kitx_dict, ⟨o, h1, h2.1⟩, fun z => nomatch z⟩
    simp only [tyW] at e
    split at e
    · rename_i ws h1; cases e; exact lists (by unfold PI.lstOf; rw [h1])
    · rename_i kvs h1; cases e; exact dicts (by unfold dctOf; rw [h1])
    · rename_i kvs h1; cases e; exact dicts (by unfold dctOf; rw [h1])
    · cases e
/-- the classes that isinstance is asked here -/
def tyNames : List String := ["int", "bool", "str", "tuple", "list", "dict"]
def tyAll : List String := ["NoneType", "int", "bool", "str", "tuple", "list", "dict"]
theorem kitB_one : (tyAll.all fun t => tyNames.all fun u => decide (kitB t u = some (isOne t u))) = true := by decide +kernel
theorem kit_one {K : PySem.W.Frag} {t u : String} (h1 : t ∈ tyAll) (h2 : u ∈ tyNames) : PySem.W.kitOne K (.type t) (.type u) = some (isOne t u) :=
  kit_ty (of_decide_eq_true (List.all_eq_true.mp (List.all_eq_true.mp kitB_one t h1) u h2))
theorem kit_any {K : PySem.W.Frag} {t : String} (h1 : t ∈ tyAll) : ∀ us : List String, (∀ u ∈ us, u ∈ tyNames) → PySem.W.kitAny K (.type t) (us.map .type) = some (us.any (isOne t))
  | [], _ => rfl
  | u :: us, h => by
    refine kitAny_cons (kit_one h1 (h u List.mem_cons_self)) (fun e => ?_) (fun e => by simp [e])
    rw [kit_any h1 us fun x hx => h x (List.mem_cons_of_mem _ hx)]
    simp [e]
theorem tyW_all {a : W} {t : String} (e : tyW S a = some t) : t ∈ tyAll := by
  cases a <;> simp only [tyW] at e
  all_goals first
    | (cases e; done)
    | (cases e; decide)
    | (split at e <;> cases e <;> decide)
end
end PI

set_option Elab.async false
set_option linter.all false
set_option maxRecDepth 100000
set_option maxHeartbeats 4000000
/-! built-in functions -/
namespace PI
open PySem PySem.Spec PyProof.Rows L2
section
variable {X : Cx} {ρ : List Addr} {H : Hp} {S : Sto} {pins : List (Addr × Obj)} {σ : L2.St} {s : Shared}
def LCall (X : Cx) (f : List W → Sto → Res W) : List V → Hp → VK → Prop := fun xs H Q => ∃ ρ S ws, RWs X.J ρ H ws xs ∧ Rel X.prog X.w X.J ρ S H ∧ Ans X ρ H (f ws S) Q
theorem rws1 {ws : List W} {xs : List V} {u : W} (r : RWs X.J ρ H ws xs) (e : ws = [u]) : ∃ x, xs = [x] ∧ RW X.J ρ H u x := by
  subst e
  cases r with
  | cons h r => cases r; exact ⟨_, rfl, h⟩
theorem rws2 {ws : List W} {xs : List V} {u u' : W} (r : RWs X.J ρ H ws xs) (e : ws = [u, u']) : ∃ x y, xs = [x, y] ∧ RW X.J ρ H u x ∧ RW X.J ρ H u' y := by
  subst e
  cases r with
  | cons h r =>
    cases r with
    | cons h' r => cases r; exact ⟨_, _, rfl, h, h'⟩
theorem c_len : CallR X (.builtin "len") (LCall X lenF) := by
  intro pins s σ H xs us Q I rs ⟨ρ, S, ws, r, R, h⟩
  unfold lenF at h
  split at h
  · obtain ⟨x, rfl, rx⟩ := rws1 r rfl
    obtain ⟨hz, h⟩ := h.ite
    cases rx
    exact call_len_str pins s σ H _ us Q I rs ⟨_, rfl, hz, h.now R (.int _)⟩
  · obtain ⟨x, rfl, rx⟩ := rws1 r rfl
    obtain ⟨a, vs, rfl, t, r⟩ := rw_tup rx
    refine call_len_seq pins s σ H _ us Q I rs ⟨_, _, rfl, .inr t, ?_⟩
    rw [← r.length]
    exact h.now R (.int _)
  · obtain ⟨x, rfl, rx⟩ := rws1 r rfl
    obtain ⟨a, rfl, hn⟩ := rw_ref rx
    rename_i n
    have lists : ∀ {ws : List W}, lstOf S n = some ws → Ans X ρ H (.ok (.int ws.length) S) Q → wpAny (model X.prog X.w) X.A (call (.builtin "len") us) (EP X pins σ Q) X.xe s := fun {ws} h1 h => by
      obtain ⟨vs, hl, r⟩ := R.lstOf hn h1
      refine call_len_seq pins s σ H _ us Q I rs ⟨_, _, rfl, .inl hl, ?_⟩
      rw [← r.length]
      exact h.now R (.int _)
    have dicts : ∀ {kvs : List (W × W)}, dctOf S n = some kvs → Ans X ρ H (.ok (.int kvs.length) S) Q → wpAny (model X.prog X.w) X.A (call (.builtin "len") us) (EP X pins σ Q) X.xe s := fun {kvs} h1 h => by
      obtain ⟨u, rfl, ru⟩ := vals1 rs
      cases (show u = Value.ref a from ru)
      have q := h.now R (.int _)
      rcases R.dct hn h1 with ⟨qs, hr, r⟩ | ⟨xs, hr, hs, r, hl⟩
      · rw [Paired.length r] at q
        exact d_len I hr fun t s' I' => ⟨.int _, H, I', ⟨t, rfl⟩, q⟩
      · have dd := Inv.ndict I hr r
        have hsl : sizeLine = 16777216 := sizeLine_eq
        have hx : xs.length = kvs.length := (Paired.length r).symm
        refine call_len_dictH hs dd (by rw [hx]; omega) ?_
        rw [hx]
        exact ⟨.int _, H, I.tok _, ⟨_, rfl⟩, q⟩
    unfold lenO at h
    split at h
    · rename_i ws h1
      exact lists (by unfold PI.lstOf; rw [h1]) h
    · rename_i kvs h1
      exact dicts (by unfold dctOf; rw [h1]) h
    · rename_i kvs h1
      exact dicts (by unfold dctOf; rw [h1]) h
    · exact h.no.elim
  · exact h.no.elim
theorem bls_rel : ∀ {ws : List W} {vs : List V} {bs : List Bool}, RWs X.J ρ H ws vs → blsOf ws = some bs → vs = bs.map V.bl
  | [], _, _, r, e => by cases r; cases e; rfl
  | w :: ws, _, _, r, e => by
    cases r with
    | cons h r =>
      cases h <;> simp only [blsOf] at e <;> first | cases e | skip
      obtain ⟨bs', e1, rfl⟩ := Option.map_eq_some_iff.mp e
      rw [bls_rel r e1]
      rfl
theorem ints_rel : ∀ {ws : List W} {vs : List V} {bs : List Int}, RWs X.J ρ H ws vs → intsOf ws = some bs → vs = bs.map V.int
  | [], _, _, r, e => by cases r; cases e; rfl
  | w :: ws, _, _, r, e => by
    cases r with
    | cons h r =>
      cases h <;> simp only [intsOf] at e <;> first | cases e | skip
      obtain ⟨bs', e1, rfl⟩ := Option.map_eq_some_iff.mp e
      rw [ints_rel r e1]
      rfl
theorem strs_rel : ∀ {ws : List W} {vs : List V} {bs : List Str}, RWs X.J ρ H ws vs → strsOf ws = some bs → vs = bs.map V.str
  | [], _, _, r, e => by cases r; cases e; rfl
  | w :: ws, _, _, r, e => by
    cases r with
    | cons h r =>
      cases h <;> simp only [strsOf] at e <;> first | cases e | skip
      obtain ⟨bs', e1, rfl⟩ := Option.map_eq_some_iff.mp e
      rw [strs_rel r e1]
      rfl
theorem c_all (hc : X.calm = true) : CallR X (.builtin "all") (LCall X allF) := by
  intro pins s σ H xs us Q I rs ⟨ρ, S, ws, r, R, h⟩
  unfold allF at h
  split at h
  · obtain ⟨x, rfl, rx⟩ := rws1 r rfl
    obtain ⟨a, rfl, hn⟩ := rw_ref rx
    split at h
    · rename_i bs e
      obtain ⟨zs, e1, e2⟩ := Option.bind_eq_some_iff.mp e
      obtain ⟨vs, hl, r⟩ := R.lstOf hn e1
      have ev := bls_rel r e2
      subst ev
      exact cr_all hc pins s σ H _ us Q I rs ⟨a, bs, rfl, hl, h.now R (.bl _)⟩
    · exact h.no.elim
  · exact h.no.elim
theorem c_any (hc : X.calm = true) : CallR X (.builtin "any") (LCall X anyF) := by
  intro pins s σ H xs us Q I rs ⟨ρ, S, ws, r, R, h⟩
  unfold anyF at h
  split at h
  · obtain ⟨x, rfl, rx⟩ := rws1 r rfl
    obtain ⟨a, rfl, hn⟩ := rw_ref rx
    split at h
    · rename_i bs e
      obtain ⟨zs, e1, e2⟩ := Option.bind_eq_some_iff.mp e
      obtain ⟨vs, hl, r⟩ := R.lstOf hn e1
      have ev := bls_rel r e2
      subst ev
      exact cr_any hc pins s σ H _ us Q I rs ⟨a, bs, rfl, hl, h.now R (.bl _)⟩
    · exact h.no.elim
  · exact h.no.elim
theorem c_sum (hc : X.calm = true) : CallR X (.builtin "sum") (LCall X sumF) := by
  intro pins s σ H xs us Q I rs ⟨ρ, S, ws, r, R, h⟩
  unfold sumF at h
  split at h
  · obtain ⟨x, rfl, rx⟩ := rws1 r rfl
    obtain ⟨a, rfl, hn⟩ := rw_ref rx
    split at h
    · rename_i bs e
      obtain ⟨zs, e1, e2⟩ := Option.bind_eq_some_iff.mp e
      obtain ⟨vs, hl, r⟩ := R.lstOf hn e1
      have ev := ints_rel r e2
      subst ev
      exact cr_sum hc pins s σ H _ us Q I rs ⟨a, bs, rfl, hl, h.now R (.int _)⟩
    · exact h.no.elim
  · exact h.no.elim
theorem c_str : CallR X (.type "str") (LCall X strF) := by
  intro pins s σ H xs us Q I rs ⟨ρ, S, ws, r, R, h⟩
  unfold strF at h
  split at h
  · obtain ⟨x, rfl, rx⟩ := rws1 r rfl
    cases rx
    obtain ⟨hz, h⟩ := h.ite
    exact call_str_int pins s σ H _ us Q I rs ⟨_, rfl, hz, h.now R (.str _)⟩
  · obtain ⟨x, rfl, rx⟩ := rws1 r rfl
    cases rx
    exact SkE.call_str_str pins s σ H _ us Q I rs ⟨_, rfl, h.now R (.str _)⟩
  · obtain ⟨x, rfl, rx⟩ := rws1 r rfl
    cases rx
    obtain ⟨u, rfl, t⟩ := vals1 rs
    cases t
    exact PySem.P.str_of_bool ⟨.str _, H, I.tok _, ⟨_, rfl⟩, h.now R (.str _)⟩
  · exact h.no.elim
theorem c_int : CallR X (.type "int") (LCall X intF) := by
  intro pins s σ H xs us Q I rs ⟨ρ, S, ws, r, R, h⟩
  unfold intF at h
  split at h
  · obtain ⟨x, rfl, rx⟩ := rws1 r rfl
    cases rx
    exact call_int1 pins s σ H _ us Q I rs (.inl ⟨_, rfl, h.now R (.int _)⟩)
  · obtain ⟨x, rfl, rx⟩ := rws1 r rfl
    cases rx
    exact call_int1 pins s σ H _ us Q I rs (.inr ⟨_, rfl, h.now R (.int _)⟩)
  · obtain ⟨x, rfl, rx⟩ := rws1 r rfl
    cases rx
    split at h
    · rename_i n e
      obtain ⟨hz, h⟩ := h.ite
      exact call_int_str pins s σ H _ us Q I rs ⟨_, n, rfl, e, hz, h.now R (.int _)⟩
    · exact h.no.elim
  · exact h.no.elim
theorem c_list : CallR X (.type "list") (LCall X listF) := by
  intro pins s σ H xs us Q I rs ⟨ρ, S, ws, r, R, h⟩
  unfold listF at h
  split at h
  · rename_i w
    obtain ⟨x, rfl, rx⟩ := rws1 r rfl
    split at h
    · rename_i zs e
      cases rx with
      | tup t r1 => cases e; exact call_list_of pins s σ H _ us Q I rs ⟨_, _, rfl, .inr t, fun p hp => h.lst R r1 hp⟩
      | ref hn =>
        obtain ⟨vs, hl, r⟩ := R.lstOf hn e
        exact call_list_of pins s σ H _ us Q I rs ⟨_, _, rfl, .inl hl, fun p hp => h.lst R r hp⟩
      | _ => cases e
    · exact h.no.elim
  · exact h.no.elim
theorem c_tuple : CallR X (.type "tuple") (LCall X tupleF) := by
  intro pins s σ H xs us Q I rs ⟨ρ, S, ws, r, R, h⟩
  unfold tupleF at h
  split at h
  · rename_i w
    obtain ⟨x, rfl, rx⟩ := rws1 r rfl
    split at h
    · rename_i zs e
      cases rx with
      | tup t r1 => cases e; exact call_tuple_of pins s σ H _ us Q I rs ⟨_, _, rfl, .inr ⟨t, h.now R (.tup t r1)⟩⟩
      | ref hn =>
        obtain ⟨vs, hl, r⟩ := R.lstOf hn e
        exact call_tuple_of pins s σ H _ us Q I rs ⟨_, _, rfl, .inl ⟨hl, fun p hp => h.tup R r hp⟩⟩
      | _ => cases e
    · exact h.no.elim
  · exact h.no.elim
theorem c_abs : CallR X (.builtin "abs") (LCall X absF) := by
  intro pins s σ H xs us Q I rs ⟨ρ, S, ws, r, R, h⟩
  unfold absF at h
  split at h
  · obtain ⟨x, rfl, rx⟩ := rws1 r rfl
    cases rx
    exact call_abs pins s σ H _ us Q I rs ⟨_, rfl, h.now R (.int _)⟩
  · exact h.no.elim
theorem c_min (hc : X.calm = true) : CallR X (.builtin "min") (LCall X minF) := by
  intro pins s σ H xs us Q I rs ⟨ρ, S, ws, r, R, h⟩
  unfold minF at h
  split at h
  · obtain ⟨x, y, rfl, rx, ry⟩ := rws2 r rfl
    cases rx
    cases ry
    exact call_min2 hc pins s σ H _ us Q I rs ⟨_, _, rfl, h.now R (.int _)⟩
  · exact h.no.elim
theorem c_max (hc : X.calm = true) : CallR X (.builtin "max") (LCall X maxF) := by
  intro pins s σ H xs us Q I rs ⟨ρ, S, ws, r, R, h⟩
  unfold maxF at h
  split at h
  · obtain ⟨x, y, rfl, rx, ry⟩ := rws2 r rfl
    cases rx
    cases ry
    exact call_max2 hc pins s σ H _ us Q I rs ⟨_, _, rfl, h.now R (.int _)⟩
  · exact h.no.elim
/-- what is sorted -/
def SrtR (X : Cx) (ρ : List Addr) (H : Hp) (z : Value) (b : W × PyData) : Prop := ∃ x, RelV x z ∧ RW X.J ρ H b.1 x
theorem optAll_some {α β : Type} {f : α → Option β} : ∀ {l : List α} {r : List β}, optAll (l.map f) = some r → r.length = l.length
  | [], _, e => by cases e; rfl
  | a :: l, r, e => by
    rw [List.map_cons] at e
    cases q : f a with
    | none => rw [q] at e; cases e
    | some b =>
      rw [q] at e
      obtain ⟨r', e1, rfl⟩ := Option.map_eq_some_iff.mp e
      simp [optAll_some e1]
theorem each_srt : ∀ {ws : List W} {vs : List V} {zs : List Value} {ds : List PyData}, RWs X.J ρ H ws vs → Vals vs zs → ds.length = ws.length → PySem.W.EachIs (SrtR X ρ H) zs (ws.zip ds)
  | [], _, _, ds, r, rz, _ => by cases r; cases rz; exact .nil
  | w :: ws, _, _, ds, r, rz, hl => by
    cases r with
    | cons h r =>
      cases rz with
      | cons h' r' =>
        cases ds with
        | nil => simp at hl
        | cons d ds => exact .cons ⟨_, h', h⟩ (each_srt r r' (by simpa using hl))
theorem each_reads (I : Inv X pins σ H s) : ∀ {ws : List W} {vs : List V} {zs : List Value} {ds : List PyData}, RWs X.J ρ H ws vs → Vals vs zs → DpAll X.K H vs ds → PySem.W.EachIs (fun (v : Value) (b : W × PyData) => ∃ as, Reads s.heap v b.2 as) zs (ws.zip ds)
  | [], _, _, ds, r, rz, hd => by cases r; cases rz; cases hd; exact .nil
  | w :: ws, _, _, ds, r, rz, hd => by
    cases r with
    | cons h r =>
      cases rz with
      | cons h' r' =>
        cases hd with
        | cons h'' d' => exact .cons (Dp.reads I _ _ _ h'' h') (each_reads I r r' d')
theorem each_out : ∀ {zs : List Value} {bs : List (W × PyData)}, PySem.W.EachIs (SrtR X ρ H) zs bs → ∃ vs, Vals vs zs ∧ RWs X.J ρ H (bs.map Prod.fst) vs
  | _, _, .nil => ⟨[], .nil, .nil⟩
  | _, _, .cons ⟨x, h1, h2⟩ r => by
    obtain ⟨vs, h3, h4⟩ := each_out r
    exact ⟨x :: vs, .cons h1 h3, .cons h2 h4⟩
theorem c_sorted (hu : X.A.units + 64 < cLine) : CallR X (.builtin "sorted") (LCall X sortedF) := by
  intro pins s σ H xs us Q I rs ⟨ρ, S, ws, r, R, h⟩
  unfold sortedF at h
  split at h
  · obtain ⟨x, rfl, rx⟩ := rws1 r rfl
    obtain ⟨a, rfl, hn⟩ := rw_ref rx
    split at h
    · rename_i zs e
      obtain ⟨ws, e1, e2⟩ := Option.bind_eq_some_iff.mp e
      obtain ⟨vs, hl, r⟩ := R.lstOf hn e1
      unfold sortW at e2
      split at e2
      · rename_i ds ed
        split at e2
        · rename_i hc
          cases e2
          rw [Bool.and_eq_true] at hc
          obtain ⟨hc, hlen⟩ := hc
          have hlen := of_decide_eq_true hlen
          unfold sortOk at hc
          rw [Bool.and_eq_true, Bool.and_eq_true] at hc
          obtain ⟨⟨c1, c2⟩, c3⟩ := hc
          have hdl := optAll_some ed
          have dp := dpAll_of R r ed
          obtain ⟨its, rv, pl, _⟩ := I.list hl
          obtain ⟨u, rfl, ru⟩ := vals1 rs
          cases (show u = Value.ref a from ru)
          have e_map : (ws.zip ds).map Prod.snd = ds := by rw [List.map_snd_zip (by omega)]
          have hal : PySem.W.AllAlike ((ws.zip ds).map Prod.snd) := by
            rw [e_map]
            exact fun d hd d' hd' => List.all_eq_true.mp (List.all_eq_true.mp c1 d hd) d' hd'
          have hk : PySem.W.Sortable ((ws.zip ds).map Prod.snd) := by
            rw [e_map]
            rw [Bool.or_eq_true] at c2
            rcases c2 with c2 | c2
            · refine .inl fun d hd => ?_
              have := List.all_eq_true.mp c2 d hd
              cases d with
              | tuple l => cases l with
                | nil => cases this
                | cons x r => exact ⟨x, r, rfl⟩
              | _ => cases this
            · refine .inr fun d hd => ?_
              have := List.all_eq_true.mp c2 d hd
              cases d with
              | none => cases this
              | tuple l => cases this
              | _ => exact ⟨fun z => (by cases z), fun _ z => (by cases z)⟩
          have hbl : (ws.zip ds).length ≤ sizeLine := by rw [List.length_zip]; omega
          refine PySem.W.sorted_data (R := SrtR X ρ H) (enc := Prod.snd) (bs := ws.zip ds) pl.isList (each_srt r rv hdl) (each_reads I r rv dp) hal hk hbl (fun b hb => ?_) fun out ho eo => ?_
          · have hm : b.2 ∈ ds := by rw [← e_map]; exact List.mem_map_of_mem hb
            have h1 : b.2.depth ≤ 60 := of_decide_eq_true (List.all_eq_true.mp c3 b.2 hm)
            omega
          · obtain ⟨vs', h1, h2⟩ := each_out eo
            obtain ⟨ep, he'⟩ := PyProof.Rows.sortedAll_at s.heap its out.toArray
            have hl2 : vs'.length ≤ sizeLine := by rw [h1.length, ho]; exact hbl
            have hp := I.hok.fresh (Nat.le_succ s.heap.objs.size)
            refine ⟨.ref _, upd H (s.heap.objs.size + 1) (.lst vs'), I.laid (t' := s.toks) (fun _ _ => PyProof.Rows.sortedAll_old) (Nat.le_succ _) ⟨hl2, out, ep, h1, he'⟩, rfl, ?_⟩
            exact h.lst R h2 hp
        · cases e2
      · cases e2
    · exact h.no.elim
  · exact h.no.elim
end
end PI

set_option Elab.async false
set_option linter.all false
set_option maxRecDepth 100000
set_option maxHeartbeats 4000000
/-! dict(pairs), methods -/
namespace PI
open PySem PySem.Spec PyProof.Rows L2
section
variable {X : Cx} {ρ : List Addr} {H : Hp} {S : Sto} {pins : List (Addr × Obj)} {σ : L2.St} {s : Shared}
theorem pairs_rel : ∀ {ws : List W} {vs : List V} {kvs : List (W × W)}, RWs X.J ρ H ws vs → pairsW ws = some kvs → (kvs.all fun kv => flatKey kv.1) = true →
    ∃ (ps : List Addr) (qs : List (Key × V)), vs = ps.map V.ref ∧ Paired (fun p kv => SqT X.K H p [kV kv.1, kv.2]) ps qs ∧ RK X.J ρ H kvs qs
  | [], _, _, r, e, _ => by cases r; cases e; exact ⟨[], [], rfl, .nil, .nil⟩
  | w :: ws, _, _, r, e, ha => by
    cases r with
    | cons h r =>
      cases h with
      | tup t r2 =>
        cases r2 with
        | nil => simp [pairsW] at e
        | cons hk r3 =>
          cases r3 with
          | nil => simp [pairsW] at e
          | cons hv r4 =>
            cases r4 with
            | cons _ _ => simp [pairsW] at e
            | nil =>
              simp only [pairsW] at e
              obtain ⟨kvs', e1, rfl⟩ := Option.map_eq_some_iff.mp e
              rw [List.all_cons, Bool.and_eq_true] at ha
              obtain ⟨ps, qs, h1, h2, h3⟩ := pairs_rel r e1 ha.2
              obtain ⟨q, eq⟩ := flat_kOf ha.1
              have ey := kOf_rw eq hk
              subst ey
              exact ⟨_ :: ps, (q, _) :: qs, by rw [h1]; rfl, .cons t h2, .cons ⟨eq, hv⟩ h3⟩
      | _ => simp [pairsW] at e
theorem RK.fold : ∀ {more : List (W × W)} {ms : List (Key × V)} {acc : List (W × W)} {as : List (Key × V)}, RK X.J ρ H more ms → RK X.J ρ H acc as →
    RK X.J ρ H (more.foldl (fun acc kv => keyPut acc kv.1 kv.2) acc) (mergeK as ms)
  | _, _, _, _, .nil, r => r
  | _, _, _, _, .cons ⟨h1, h2⟩ t, r => by
    have z := RK.fold t (r.put h1 h2)
    exact z
theorem c_dict (hc : X.calm = true) : CallR X (.type "dict") (LCall X dictF) := by
  intro pins s σ H xs us Q I rs ⟨ρ, S, ws, r, R, h⟩
  unfold dictF at h
  split at h
  · obtain ⟨x, rfl, rx⟩ := rws1 r rfl
    obtain ⟨a, rfl, hn⟩ := rw_ref rx
    split at h
    · rename_i kvs e
      obtain ⟨ws, e1, e2⟩ := Option.bind_eq_some_iff.mp e
      obtain ⟨vs, hl, r⟩ := R.lstOf hn e1
      obtain ⟨hz, h⟩ := h.ite
      rw [Bool.and_eq_true] at hz
      obtain ⟨ps, qs, rfl, h2, h3⟩ := pairs_rel r e2 hz.1
      exact call_dictP hc pins s σ H _ us Q I rs ⟨a, ps, qs, rfl, hl, h2, fun p hp => h.alloc R hp (.dK upd_same ((RK.fold h3 .nil).mono (.alloc hp)))⟩
    · exact h.no.elim
  · exact h.no.elim

/-! ### methods -/
def LMth (X : Cx) (m : Mth) : V → List V → Hp → VK → Prop := fun x xs H Q => ∃ ρ S w ws, RW X.J ρ H w x ∧ RWs X.J ρ H ws xs ∧ Rel X.prog X.w X.J ρ S H ∧ Ans X ρ H (mthW m w ws S) Q
theorem Ans.set {n : Nat} {a : Addr} {u u' : HO} {o : O} {w : W} {v : V} {Q : VK} (h : Ans X ρ H (.ok w (S.set n o)) Q) (R : Rel X.prog X.w X.J ρ S H) (hn : ρ[n]? = some a) (ha : H a = some u)
    (hp : (∀ xs, u ≠ .tup xs) ∧ ∀ ob v, u ≠ .frz ob v) (new : RO X.prog X.w X.J ρ (upd H a u') a o) (r : RW X.J ρ (upd H a u') w v) : Q v (upd H a u') :=
  let ⟨_, h⟩ := h
  h ρ _ (Le.set hn fun q e => by rw [ha] at e; cases e; exact hp) (R.set hn ha hp new) v r
theorem nolst {vs : List V} : (∀ xs, HO.lst vs ≠ .tup xs) ∧ ∀ ob v, HO.lst vs ≠ .frz ob v := ⟨(fun _ z => by cases z), (fun _ _ z => by cases z)⟩
theorem le_lst {n : Nat} {a : Addr} {vs : List V} {o : HO} (hn : ρ[n]? = some a) (h : H a = some (.lst vs)) : Le X.J ρ H ρ (upd H a o) := Le.set hn fun q e => by rw [h] at e; cases e; exact ⟨nolst.1, nolst.2⟩
/-- a method that changes the list at n -/
theorem set_lst {n : Nat} {a : Addr} {ws ws' : List W} {vs vs' : List V} {w : W} {v : V} {Q : VK} (h : Ans X ρ H (.ok w (S.set n (.lst ws'))) Q) (R : Rel X.prog X.w X.J ρ S H) (hn : ρ[n]? = some a) (e : S[n]? = some (.lst ws)) (ha : H a = some (.lst vs))
    (r' : RWs X.J ρ H ws' vs') (r : RW X.J ρ H w v) : Q v (upd H a (.lst vs')) :=
  h.set R hn ha nolst (.lst upd_same (r'.mono (le_lst hn ha))) (r.mono (le_lst hn ha))
theorem m_append {n : Nat} {a : Addr} {ws zs : List W} {xs : List V} {u : Value} {us : List Value} {Q : VK} (I : Inv X pins σ H s) (R : Rel X.prog X.w X.J ρ S H) (hn : ρ[n]? = some a) (e : S[n]? = some (.lst ws)) (ru : RelV (.ref a) u) (r : RWs X.J ρ H zs xs) (rs : Vals xs us)
    (h : Ans X ρ H (appendM n ws zs S) Q) : wpAny (model X.prog X.w) X.A (call (.builtin "list.append") (u :: us)) (EP X pins σ Q) X.xe s := by
  obtain ⟨vs, ha, r0⟩ := (R.at_ hn e).lst_inv
  unfold appendM at h
  split at h
  · obtain ⟨x, rfl, rx⟩ := rws1 r rfl
    obtain ⟨hz, h⟩ := h.ite
    rw [r0.length] at hz
    exact mt_append pins s σ H _ _ u us Q I ru rs ⟨a, vs, x, rfl, rfl, ha, hz, set_lst h R hn e ha (r0.append (.cons rx .nil)) .non⟩
  · exact h.no.elim
theorem m_extend {n : Nat} {a : Addr} {ws zs : List W} {xs : List V} {u : Value} {us : List Value} {Q : VK} (I : Inv X pins σ H s) (R : Rel X.prog X.w X.J ρ S H) (hn : ρ[n]? = some a) (e : S[n]? = some (.lst ws)) (ru : RelV (.ref a) u) (r : RWs X.J ρ H zs xs) (rs : Vals xs us)
    (h : Ans X ρ H (extendM n ws zs S) Q) : wpAny (model X.prog X.w) X.A (call (.builtin "list.extend") (u :: us)) (EP X pins σ Q) X.xe s := by
  obtain ⟨vs, ha, r0⟩ := (R.at_ hn e).lst_inv
  unfold extendM at h
  split at h
  · obtain ⟨x, rfl, rx⟩ := rws1 r rfl
    obtain ⟨b, rfl, hk⟩ := rw_ref rx
    split at h
    · rename_i k ys e2
      obtain ⟨hz, h⟩ := h.ite
      obtain ⟨vs2, hb, r2⟩ := (R.at_ hk e2).lst_inv
      rw [r0.length, r2.length] at hz
      exact mt_extend pins s σ H _ _ u us Q I ru rs ⟨a, b, vs, vs2, rfl, rfl, ha, hb, hz, set_lst h R hn e ha (r0.append r2) .non⟩
    · exact h.no.elim
  · exact h.no.elim
theorem m_pop {n : Nat} {a : Addr} {ws zs : List W} {xs : List V} {u : Value} {us : List Value} {Q : VK} (I : Inv X pins σ H s) (R : Rel X.prog X.w X.J ρ S H) (hn : ρ[n]? = some a) (e : S[n]? = some (.lst ws)) (ru : RelV (.ref a) u) (r : RWs X.J ρ H zs xs) (rs : Vals xs us)
    (h : Ans X ρ H (popM n ws zs S) Q) : wpAny (model X.prog X.w) X.A (call (.builtin "list.pop") (u :: us)) (EP X pins σ Q) X.xe s := by
  obtain ⟨vs, ha, r0⟩ := (R.at_ hn e).lst_inv
  unfold popM at h
  split at h
  · cases r
    split at h
    · rename_i y ey
      rw [r0.length] at ey
      obtain ⟨v, ev, rv⟩ := r0.get ey
      exact mt_pop pins s σ H _ _ u us Q I ru rs ⟨a, vs, v, rfl, rfl, ha, ev, set_lst h R hn e ha r0.dropLast rv⟩
    · exact h.no.elim
  · obtain ⟨x, rfl, rx⟩ := rws1 r rfl
    cases rx
    obtain ⟨hz, h⟩ := h.ite
    split at h
    · rename_i k ek
      split at h
      · rename_i y ey
        rw [r0.length] at ek
        obtain ⟨v, ev, rv⟩ := r0.get ey
        exact mt_popAt pins s σ H _ _ u us Q I ru rs ⟨a, vs, _, k, v, rfl, rfl, ha, hz.1, hz.2, ek, ev, set_lst h R hn e ha (r0.eraseIdx k) rv⟩
      · exact h.no.elim
    · exact h.no.elim
  · exact h.no.elim
theorem m_clear {n : Nat} {a : Addr} {ws zs : List W} {xs : List V} {u : Value} {us : List Value} {Q : VK} (I : Inv X pins σ H s) (R : Rel X.prog X.w X.J ρ S H) (hn : ρ[n]? = some a) (e : S[n]? = some (.lst ws)) (ru : RelV (.ref a) u) (r : RWs X.J ρ H zs xs) (rs : Vals xs us)
    (h : Ans X ρ H (clearM n zs S) Q) : wpAny (model X.prog X.w) X.A (call (.builtin "list.clear") (u :: us)) (EP X pins σ Q) X.xe s := by
  obtain ⟨vs, ha, r0⟩ := (R.at_ hn e).lst_inv
  unfold clearM at h
  split at h
  · cases r
    exact mt_clear pins s σ H _ _ u us Q I ru rs ⟨a, vs, rfl, rfl, ha, set_lst h R hn e ha .nil .non⟩
  · exact h.no.elim
theorem m_insert {n : Nat} {a : Addr} {ws zs : List W} {xs : List V} {u : Value} {us : List Value} {Q : VK} (I : Inv X pins σ H s) (R : Rel X.prog X.w X.J ρ S H) (hn : ρ[n]? = some a) (e : S[n]? = some (.lst ws)) (ru : RelV (.ref a) u) (r : RWs X.J ρ H zs xs) (rs : Vals xs us)
    (h : Ans X ρ H (insertM n ws zs S) Q) : wpAny (model X.prog X.w) X.A (call (.builtin "list.insert") (u :: us)) (EP X pins σ Q) X.xe s := by
  obtain ⟨vs, ha, r0⟩ := (R.at_ hn e).lst_inv
  unfold insertM at h
  split at h
  · obtain ⟨x, y, rfl, rx, ry⟩ := rws2 r rfl
    cases rx
    obtain ⟨hz, h⟩ := h.ite
    rw [r0.length] at hz
    exact mt_insert pins s σ H _ _ u us Q I ru rs ⟨a, vs, _, y, rfl, rfl, ha, hz.1, hz.2.1, hz.2.2, set_lst h R hn e ha (((r0.take _).append (.cons ry .nil)).append (r0.drop _)) .non⟩
  · exact h.no.elim
theorem m_get {n : Nat} {a : Addr} {kvs : List (W × W)} {zs : List W} {xs : List V} {u : Value} {us : List Value} {Q : VK} (hu : X.A.units + 64 < cLine) (I : Inv X pins σ H s) (R : Rel X.prog X.w X.J ρ S H) (hn : ρ[n]? = some a) (e : dctOf S n = some kvs) (ru : RelV (.ref a) u) (r : RWs X.J ρ H zs xs) (rs : Vals xs us)
    (h : Ans X ρ H (getM kvs zs S) Q) : wpAny (model X.prog X.w) X.A (call (.builtin "dict.get") (u :: us)) (EP X pins σ Q) X.xe s := by
  cases (show u = Value.ref a from ru)
  unfold getM at h
  split at h
  · obtain ⟨x, rfl, rx⟩ := rws1 r rfl
    obtain ⟨ok, h⟩ := h.ite
    obtain ⟨z, rfl, rz⟩ := vals1 rs
    exact dv_get1 hu I (R.dview I hn e ok rx rz) fun v z' s' rz' rv I' => ⟨v, H, I', rz', h.now R rv⟩
  · obtain ⟨x, y, rfl, rx, ry⟩ := rws2 r rfl
    obtain ⟨ok, h⟩ := h.ite
    obtain ⟨z, z2, rfl, rz, rz2⟩ := vals2 rs
    exact dv_get2 hu I (R.dview I hn e ok rx rz) ry rz2 fun v z' s' rz' rv I' => ⟨v, H, I', rz', h.now R rv⟩
  · exact h.no.elim
theorem m_join {a : Str} {zs : List W} {xs : List V} {u : Value} {us : List Value} {Q : VK} (I : Inv X pins σ H s) (R : Rel X.prog X.w X.J ρ S H) (ru : RelV (.str a) u) (r : RWs X.J ρ H zs xs) (rs : Vals xs us)
    (h : Ans X ρ H (joinM a zs S) Q) : wpAny (model X.prog X.w) X.A (call (.builtin "str.join") (u :: us)) (EP X pins σ Q) X.xe s := by
  unfold joinM at h
  split at h
  · obtain ⟨x, rfl, rx⟩ := rws1 r rfl
    split at h
    · rename_i ys e
      obtain ⟨ws, e1, e2⟩ := Option.bind_eq_some_iff.mp e
      obtain ⟨hz, h⟩ := h.ite
      cases rx with
      | tup t r1 =>
        cases e1
        have ev := strs_rel r1 e2
        subst ev
        exact mt_join pins s σ H _ _ u us Q I ru rs ⟨a, _, ys, rfl, rfl, .inr t, hz, h.now R (.str _)⟩
      | ref hn =>
        obtain ⟨vs, hl, r1⟩ := R.lstOf hn e1
        have ev := strs_rel r1 e2
        subst ev
        exact mt_join pins s σ H _ _ u us Q I ru rs ⟨a, _, ys, rfl, rfl, .inl hl, hz, h.now R (.str _)⟩
      | _ => cases e1
    · exact h.no.elim
  · exact h.no.elim
theorem m_upper {a : Str} {zs : List W} {xs : List V} {u : Value} {us : List Value} {Q : VK} (I : Inv X pins σ H s) (R : Rel X.prog X.w X.J ρ S H) (ru : RelV (.str a) u) (r : RWs X.J ρ H zs xs) (rs : Vals xs us)
    (h : Ans X ρ H (upperM a zs S) Q) : wpAny (model X.prog X.w) X.A (call (.builtin "str.upper") (u :: us)) (EP X pins σ Q) X.xe s := by
  unfold upperM at h
  split at h
  · cases r
    obtain ⟨hz, h⟩ := h.ite
    exact mt_upper pins s σ H _ _ u us Q I ru rs ⟨a, rfl, rfl, hz, h.now R (.str _)⟩
  · exact h.no.elim
theorem strs_rw : ∀ ys : List Str, RWs X.J ρ H (ys.map W.str) (ys.map V.str)
  | [] => .nil
  | y :: ys => .cons (.str y) (strs_rw ys)
theorem m_split {a : Str} {zs : List W} {xs : List V} {u : Value} {us : List Value} {Q : VK} (I : Inv X pins σ H s) (R : Rel X.prog X.w X.J ρ S H) (ru : RelV (.str a) u) (r : RWs X.J ρ H zs xs) (rs : Vals xs us)
    (h : Ans X ρ H (splitM a zs S) Q) : wpAny (model X.prog X.w) X.A (call (.builtin "str.split") (u :: us)) (EP X pins σ Q) X.xe s := by
  unfold splitM at h
  split at h
  · obtain ⟨x, rfl, rx⟩ := rws1 r rfl
    cases rx
    obtain ⟨hz, h⟩ := h.ite
    exact mt_split pins s σ H _ _ u us Q I ru rs ⟨a, _, rfl, rfl, hz.1, hz.2, fun p hp => h.lst R (strs_rw _) hp⟩
  · exact h.no.elim

theorem tyW_list {n : Nat} (e : tyW S (.ref n) = some "list") : ∃ ws, lstOf S n = some ws := by
  simp only [tyW] at e
  split at e
  · rename_i ws h; exact ⟨ws, by unfold PI.lstOf; rw [h]⟩
  · simp at e
  · simp at e
  · simp at e
theorem tyW_dict {n : Nat} (e : tyW S (.ref n) = some "dict") : ∃ kvs, dctOf S n = some kvs := by
  simp only [tyW] at e
  split at e
  · simp at e
  · rename_i ws h; exact ⟨ws, by unfold dctOf; rw [h]⟩
  · rename_i ws h; exact ⟨ws, by unfold dctOf; rw [h]⟩
  · simp at e
theorem tyW_str {x : W} (e : tyW S x = some "str") : ∃ a, x = .str a := by
  cases x <;> simp only [tyW] at e
  case str a => exact ⟨a, rfl⟩
  case ref n => split at e <;> simp at e
  all_goals simp at e
theorem tyW_refl {x : W} (e : tyW S x = some "list") : ∃ n, x = .ref n := by
  cases x <;> simp only [tyW] at e
  case ref n => exact ⟨n, rfl⟩
  all_goals simp at e
theorem tyW_refd {x : W} (e : tyW S x = some "dict") : ∃ n, x = .ref n := by
  cases x <;> simp only [tyW] at e
  case ref n => exact ⟨n, rfl⟩
  all_goals simp at e
/-- the receiver's type in the heap -/
theorem recv_is (R : Rel X.prog X.w X.J ρ S H) (I : Inv X pins σ H s) {a : W} {x : V} {z : Value} {t : String} (ra : RW X.J ρ H a x) (rz : RelV x z) (ht : t = "list" ∨ t = "dict" ∨ t = "str") (e : tyW S a = some t) :
    s.TypeIs z t ∧ ∀ b, z = .ref b → ∃ ob, s.heap.get? b = some ob ∧ ob.dict = none := by
  rcases ht with rfl | rfl | rfl
  · obtain ⟨n, rfl⟩ := tyW_refl e
    obtain ⟨ws, e1⟩ := tyW_list e
    obtain ⟨b, rfl, hn⟩ := rw_ref ra
    obtain ⟨vs, hl, r⟩ := R.lstOf hn e1
    exact tyV_is (T := "list") I rz (.inl ⟨rfl, vs, hl⟩)
  · obtain ⟨n, rfl⟩ := tyW_refd e
    obtain ⟨kvs, e1⟩ := tyW_dict e
    obtain ⟨b, rfl, hn⟩ := rw_ref ra
    cases (show z = Value.ref b from rz)
    rcases R.dct hn e1 with ⟨qs, hr, r⟩ | ⟨xs, hr, hs, r, hl⟩
    · obtain ⟨_, _, vs, _, o, es, ep, h1, h2, _⟩ := dk_rd I.hok hr
      exact ⟨⟨o, h1, h2.1⟩, fun b' q => by cases q; exact ⟨o, h1, h2.2.1⟩⟩
    · obtain ⟨o, es, ep, h1, h2, _⟩ := Inv.ndict I hr r
      exact ⟨⟨o, h1, h2.1⟩, fun b' q => by cases q; exact ⟨o, h1, h2.2.1⟩⟩
  · obtain ⟨a, rfl⟩ := tyW_str e
    cases ra
    exact tyV_is (T := "str") I rz rfl
def mthName : Mth → Str
  | .append => "append" | .extend => "extend" | .pop => "pop" | .insert => "insert" | .clear => "clear" | .get => "get" | .join => "join" | .upper => "upper" | .split => "split"
/-- a call of the method that was found -/
def MCall (X : Cx) (m : Mth) (a : W) (t : String) (id : String) : Prop := ∀ (pins : List (Addr × Obj)) (s : Shared) (σ : L2.St) (H : Hp) (ρ : List Addr) (S : Sto) (x : V) (z : Value) (ws : List W) (xs : List V) (us : List Value) (Q : VK),
  Inv X pins σ H s → Rel X.prog X.w X.J ρ S H → RW X.J ρ H a x → RelV x z → RWs X.J ρ H ws xs → Vals xs us → Ans X ρ H (mthGo m a (some t) ws S) Q → wpAny (model X.prog X.w) X.A (call (.builtin id) (z :: us)) (EP X pins σ Q) X.xe s
theorem RN.drop {k : W} {q : NestedKey} (e : nkOf k = some q) : ∀ {kvs : List (W × W)} {xs : List (NestedKey × Addr × Value)}, RN X.J ρ H kvs xs → RN X.J ρ H (keyDrop kvs k) (withoutH xs q)
  | _, _, .nil => .nil
  | _, _, .cons (a := p) (b := t) ⟨⟨h0, h1⟩, h2⟩ r => by
    have ih := RN.drop e r
    unfold keyDrop withoutH at ih ⊢
    by_cases hk : p.1 = k
    · have hq : t.1 = q := by rw [hk, e] at h1; exact (Option.some.inj h1).symm
      rw [List.filter_cons_of_neg (by simp [hk]), List.filter_cons_of_neg (by simp [hq])]
      exact ih
    · have hq : ¬ t.1 = q := fun z => hk (nkOf_inj _ _ _ (z ▸ h1) e)
      rw [List.filter_cons_of_pos (by simp [hk]), List.filter_cons_of_pos (by simp [hq])]
      exact .cons ⟨⟨h0, h1⟩, h2⟩ ih
theorem m_dpop {n : Nat} {a : Addr} {kvs : List (W × W)} {zs : List W} {xs : List V} {u : Value} {us : List Value} {Q : VK} (hu : X.A.units + 64 < cLine) (I : Inv X pins σ H s) (R : Rel X.prog X.w X.J ρ S H) (hn : ρ[n]? = some a) (e : S[n]? = some (.dct kvs)) (ru : RelV (.ref a) u) (r : RWs X.J ρ H zs xs) (rs : Vals xs us)
    (h : Ans X ρ H (dpopM n kvs zs S) Q) : wpAny (model X.prog X.w) X.A (call (.builtin "dict.pop") (u :: us)) (EP X pins σ Q) X.xe s := by
  cases (show u = Value.ref a from ru)
  unfold dpopM at h
  split at h
  · rename_i k
    obtain ⟨x, rfl, rx⟩ := rws1 r rfl
    obtain ⟨ok, h⟩ := h.ite
    obtain ⟨z, rfl, rz⟩ := vals1 rs
    split at h
    · rename_i y ey
      have d : DView X ρ H s a kvs k z := R.dview I hn (by unfold dctOf; rw [e]) ok rx rz
      obtain ⟨w0, hw0, mu, nn⟩ := (R.at_ hn e).dct_inv
      have L : ∀ o, Le X.J ρ H ρ (upd H a o) := fun o => Le.set hn fun q e' => by rw [hw0] at e'; cases e'; exact ⟨nn.1, nn.2⟩
      have hld : (keyDrop kvs k).length ≤ sizeLine := Nat.le_trans (List.length_filter_le _ _) d.len
      rcases d.way with ⟨q, qs, vs, eq, iz, r, rel, dd⟩ | ⟨q, xs, b, ht, eq, rfl, rk', iz, r, dd⟩
      · obtain ⟨v, h1, h2⟩ := (RK.get eq r).1 y ey
        obtain ⟨w', hw, rw'⟩ := RelO.some_of (v := v) (o := valueAt vs q) (by rw [← h1]; exact rel.val q)
        have hz : vs.length ≤ sizeLine := by rw [← rel.length, ← Paired.length r]; exact d.len
        have hp : (dropK qs q).length ≤ sizeLine := Nat.le_trans (dropK_le qs q) (by rw [← Paired.length r]; exact d.len)
        have hkp : (keyPart z).isSome = true := by
          rcases keyIs_shape iz with ⟨i, t, _, rfl⟩ | ⟨i, t, _, rfl⟩ <;> rfl
        refine call_meetsIn PySem.F.slot_dict_pop dd.typeIs PySem.F.entry_dict_pop (PySem.F.args_dict_pop_2 _ _) (meets_dict_pop_there (mixKind X.prog X.w) a iz [] (.inl rfl) hkp)
          ⟨vs, w', dd, hz, hw, fun h' dd' hs => ?_⟩
        have he : ∃ q, h'.get? a = some q := let ⟨q, _, _, hq, _⟩ := dd'; ⟨q, hq⟩
        exact ⟨v, upd H a (.dK (dropK qs q)), d_write I mu hs he (dk_new hp d.sys (rel.drop q) dd'), rw', h.set R hn hw0 nn (.dK upd_same ((r.drop eq).mono (L _))) (h2.mono (L _))⟩
      · obtain ⟨b', z', v, h1, h2, h3⟩ := (RN.get eq r).1 y ey
        have hz : xs.length ≤ sizeLine := by rw [← Paired.length r]; exact d.len
        refine call_pop_heap (hsz := hz) (.inl rfl) (PySem.F.args_dict_pop_2 _ _) (show X.A.in1.units + 8 < cLine by show X.A.units + 1 + 8 < cLine; omega) iz d.sys dd h1 fun h' dd' hs => ?_
        obtain ⟨o, es, ep, g1, g2, g3, g4, g5, g6⟩ := dd'
        refine ⟨v, upd H a (NDict X.prog X.w a (withoutH xs q)), d_write I mu hs ⟨o, g1⟩ ⟨⟨o, es, ep, g1, g2, g3, g4, g6⟩, ⟨o, g1⟩, fun h1 h2 ⟨o, es, ep, g1, g2⟩ k => ⟨o, es, ep, k o g1, g2⟩⟩, h2, ?_⟩
        refine h.set R hn hw0 nn (.dN upd_same d.sys (?_) hld) (h3.mono (L _))
        exact RN.mono (L _) (RN.drop eq r)
    · exact h.no.elim
  · exact h.no.elim
theorem m_dclear {n : Nat} {a : Addr} {kvs : List (W × W)} {zs : List W} {xs : List V} {u : Value} {us : List Value} {Q : VK} (I : Inv X pins σ H s) (R : Rel X.prog X.w X.J ρ S H) (hn : ρ[n]? = some a) (e : S[n]? = some (.dct kvs)) (ru : RelV (.ref a) u) (r : RWs X.J ρ H zs xs) (rs : Vals xs us)
    (h : Ans X ρ H (dclearM n zs S) Q) : wpAny (model X.prog X.w) X.A (call (.builtin "dict.clear") (u :: us)) (EP X pins σ Q) X.xe s := by
  cases (show u = Value.ref a from ru)
  unfold dclearM at h
  split at h
  · cases r
    cases rs
    obtain ⟨w0, hw0, mu, nn⟩ := (R.at_ hn e).dct_inv
    have fin : Q .non (upd H a (.dK [])) := h.set R hn hw0 nn (.dK upd_same .nil) .non
    have x := R.at_ hn e
    cases x with
    | dK h0 r0 => exact d_clear I h0 fun s' I' => ⟨.non, _, I', rfl, fin⟩
    | dN h0 z r0 hl =>
      have dd := Inv.ndict I (.inl h0) r0
      refine clear_keyed (hsz := by unfold pairsH; rw [List.length_map, ← Paired.length r0]; exact hl) (knd := nestedKind X.prog X.w) (kvs := pairsH _) ⟨_, dd, rfl⟩ fun h' dd' hs => ?_
      obtain ⟨ys, dd', hy⟩ := dd'
      have : ys = [] := by
        cases ys with
        | nil => rfl
        | cons _ _ => cases hy
      subst this
      have he : ∃ q, h'.get? a = some q := let ⟨q, _, _, hq, _⟩ := dd'; ⟨q, hq⟩
      exact ⟨.non, _, d_write (t' := s.toks) I mu hs he (dk_new (Nat.zero_le _) z .nil (ofH_nil dd')), rfl, fin⟩
  · exact h.no.elim
theorem mth_way (hu : X.A.units + 64 < cLine) (m : Mth) (a : W) (t : String) (hm : mthOk m (some t) = true) : ∃ id, PlainAttrs t ∧ Slot t (mthName m) id ∧ typeOf (.builtin id) = pure (.type "method_descriptor") ∧ (t = "list" ∨ t = "dict" ∨ t = "str") ∧ MCall X m a t id := by
  have go : ∀ {id : String} {t : String}, (∀ (pins : List (Addr × Obj)) (s : Shared) (σ : L2.St) (H : Hp) (ρ : List Addr) (S : Sto) (x : V) (z : Value) (ws : List W) (xs : List V) (us : List Value) (Q : VK),
      Inv X pins σ H s → Rel X.prog X.w X.J ρ S H → RW X.J ρ H a x → RelV x z → RWs X.J ρ H ws xs → Vals xs us → tyW S a = some t → Ans X ρ H (mthW m a ws S) Q → wpAny (model X.prog X.w) X.A (call (.builtin id) (z :: us)) (EP X pins σ Q) X.xe s) → MCall X m a t id :=
    fun {id t} f pins s σ H ρ S x z ws xs us Q I R ra rz r rs h => by
      unfold mthGo at h
      obtain ⟨ht, h⟩ := h.ite
      exact f pins s σ H ρ S x z ws xs us Q I R ra rz r rs ht h
  have lists : ∀ {id : String}, (∀ (pins : List (Addr × Obj)) (s : Shared) (σ : L2.St) (H : Hp) (ρ : List Addr) (S : Sto) (n : Nat) (b : Addr) (zs : List W) (z : Value) (ws : List W) (xs : List V) (us : List Value) (Q : VK),
      Inv X pins σ H s → Rel X.prog X.w X.J ρ S H → ρ[n]? = some b → S[n]? = some (.lst zs) → RelV (.ref b) z → RWs X.J ρ H ws xs → Vals xs us → Ans X ρ H (lstM m n zs ws S) Q → wpAny (model X.prog X.w) X.A (call (.builtin id) (z :: us)) (EP X pins σ Q) X.xe s) → MCall X m a "list" id :=
    fun {id} f => go fun pins s σ H ρ S x z ws xs us Q I R ra rz r rs ht h => by
      obtain ⟨n, rfl⟩ := tyW_refl ht
      obtain ⟨b, rfl, hn⟩ := rw_ref ra
      have h : Ans X ρ H (refM m n S[n]? ws S) Q := h
      obtain ⟨zs, e⟩ := tyW_list ht
      unfold PI.lstOf at e
      unfold refM at h
      split at h
      · rename_i zs' e'
        exact f pins s σ H ρ S n b zs' z ws xs us Q I R hn e' rz r rs h
      · rename_i e'
        rw [e'] at e
        cases e
      · rename_i e'
        rw [e'] at e
        cases e
      · exact h.no.elim
  have dicts : ∀ {id : String}, (∀ (pins : List (Addr × Obj)) (s : Shared) (σ : L2.St) (H : Hp) (ρ : List Addr) (S : Sto) (n : Nat) (b : Addr) (kvs : List (W × W)) (z : Value) (ws : List W) (xs : List V) (us : List Value) (Q : VK),
      Inv X pins σ H s → Rel X.prog X.w X.J ρ S H → ρ[n]? = some b → RelV (.ref b) z → RWs X.J ρ H ws xs → Vals xs us → (S[n]? = some (.dct kvs) ∧ Ans X ρ H (dctM m n kvs ws S) Q) ∨ (S[n]? = some (.fdct kvs) ∧ Ans X ρ H (fdctM m kvs ws S) Q) → wpAny (model X.prog X.w) X.A (call (.builtin id) (z :: us)) (EP X pins σ Q) X.xe s) → MCall X m a "dict" id :=
    fun {id} f => go fun pins s σ H ρ S x z ws xs us Q I R ra rz r rs ht h => by
      obtain ⟨n, rfl⟩ := tyW_refd ht
      obtain ⟨b, rfl, hn⟩ := rw_ref ra
      have h : Ans X ρ H (refM m n S[n]? ws S) Q := h
      obtain ⟨zs, e⟩ := tyW_dict ht
      unfold dctOf at e
      unfold refM at h
      split at h
      · rename_i zs' e'
        rw [e'] at e
        cases e
      · rename_i kvs e'
        exact f pins s σ H ρ S n b kvs z ws xs us Q I R hn rz r rs (.inl ⟨e', h⟩)
      · rename_i kvs e'
        exact f pins s σ H ρ S n b kvs z ws xs us Q I R hn rz r rs (.inr ⟨e', h⟩)
      · exact h.no.elim
  have textsM : ∀ {id : String}, (∀ (pins : List (Addr × Obj)) (s : Shared) (σ : L2.St) (H : Hp) (ρ : List Addr) (S : Sto) (b : Str) (z : Value) (ws : List W) (xs : List V) (us : List Value) (Q : VK),
      Inv X pins σ H s → Rel X.prog X.w X.J ρ S H → RelV (.str b) z → RWs X.J ρ H ws xs → Vals xs us → Ans X ρ H (strM m b ws S) Q → wpAny (model X.prog X.w) X.A (call (.builtin id) (z :: us)) (EP X pins σ Q) X.xe s) → MCall X m a "str" id :=
    fun {id} f => go fun pins s σ H ρ S x z ws xs us Q I R ra rz r rs ht h => by
      obtain ⟨b, rfl⟩ := tyW_str ht
      cases ra
      exact f pins s σ H ρ S b z ws xs us Q I R rz r rs h
  cases m with
  | append =>
    cases Option.some.inj (of_decide_eq_true hm)
    exact ⟨_, PySem.F.plainAttrs_list, PySem.F.slot_list_append, PySem.F.type_list_append, .inl rfl, lists fun pins s σ H ρ S n b zs z ws xs us Q I R hn e rz r rs h => m_append I R hn e rz r rs h⟩
  | extend =>
    cases Option.some.inj (of_decide_eq_true hm)
    exact ⟨_, PySem.F.plainAttrs_list, PySem.F.slot_list_extend, PySem.F.type_list_extend, .inl rfl, lists fun pins s σ H ρ S n b zs z ws xs us Q I R hn e rz r rs h => m_extend I R hn e rz r rs h⟩
  | insert =>
    cases Option.some.inj (of_decide_eq_true hm)
    exact ⟨_, PySem.F.plainAttrs_list, PySem.F.slot_list_insert, PySem.F.type_list_insert, .inl rfl, lists fun pins s σ H ρ S n b zs z ws xs us Q I R hn e rz r rs h => m_insert I R hn e rz r rs h⟩
  | pop =>
    rcases (Bool.or_eq_true _ _ ▸ hm : _ ∨ _) with hm | hm
    · cases Option.some.inj (of_decide_eq_true hm)
      exact ⟨_, PySem.F.plainAttrs_list, PySem.F.slot_list_pop, PySem.F.type_list_pop, .inl rfl, lists fun pins s σ H ρ S n b zs z ws xs us Q I R hn e rz r rs h => m_pop I R hn e rz r rs h⟩
    · cases Option.some.inj (of_decide_eq_true hm)
      refine ⟨_, PySem.F.plainAttrs_dict, PySem.F.slot_dict_pop, PySem.F.type_dict_pop, .inr (.inl rfl), dicts fun pins s σ H ρ S n b kvs z ws xs us Q I R hn rz r rs h => ?_⟩
      rcases h with ⟨e, h⟩ | ⟨e, h⟩
      · exact m_dpop hu I R hn e rz r rs h
      · exact h.no.elim
  | clear =>
    rcases (Bool.or_eq_true _ _ ▸ hm : _ ∨ _) with hm | hm
    · cases Option.some.inj (of_decide_eq_true hm)
      exact ⟨_, PySem.F.plainAttrs_list, PySem.F.slot_list_clear, PySem.F.type_list_clear, .inl rfl, lists fun pins s σ H ρ S n b zs z ws xs us Q I R hn e rz r rs h => m_clear I R hn e rz r rs h⟩
    · cases Option.some.inj (of_decide_eq_true hm)
      refine ⟨_, PySem.F.plainAttrs_dict, PySem.F.slot_dict_clear, PySem.F.type_dict_clear, .inr (.inl rfl), dicts fun pins s σ H ρ S n b kvs z ws xs us Q I R hn rz r rs h => ?_⟩
      rcases h with ⟨e, h⟩ | ⟨e, h⟩
      · exact m_dclear I R hn e rz r rs h
      · exact h.no.elim
  | get =>
    cases Option.some.inj (of_decide_eq_true hm)
    refine ⟨_, PySem.F.plainAttrs_dict, PySem.F.slot_dict_get, PySem.F.type_dict_get, .inr (.inl rfl), dicts fun pins s σ H ρ S n b kvs z ws xs us Q I R hn rz r rs h => ?_⟩
    rcases h with ⟨e, h⟩ | ⟨e, h⟩
    · exact m_get hu I R hn (by unfold dctOf; rw [e]) rz r rs h
    · exact m_get hu I R hn (by unfold dctOf; rw [e]) rz r rs h
  | join =>
    cases Option.some.inj (of_decide_eq_true hm)
    exact ⟨_, PySem.F.plainAttrs_str, PySem.F.slot_str_join, PySem.F.type_str_join, .inr (.inr rfl), textsM fun pins s σ H ρ S b z ws xs us Q I R rz r rs h => m_join I R rz r rs h⟩
  | upper =>
    cases Option.some.inj (of_decide_eq_true hm)
    exact ⟨_, PySem.F.plainAttrs_str, PySem.F.slot_str_upper, PySem.F.type_str_upper, .inr (.inr rfl), textsM fun pins s σ H ρ S b z ws xs us Q I R rz r rs h => m_upper I R rz r rs h⟩
  | split =>
    cases Option.some.inj (of_decide_eq_true hm)
    exact ⟨_, PySem.F.plainAttrs_str, PySem.F.slot_str_split, PySem.F.type_str_split, .inr (.inr rfl), textsM fun pins s σ H ρ S b z ws xs us Q I R rz r rs h => m_split I R rz r rs h⟩
end
end PI

set_option Elab.async false
set_option linter.all false
set_option maxRecDepth 100000
set_option maxHeartbeats 4000000
/-! repr -/
namespace PI
open PySem PySem.Spec PyProof.Rows L2
section
variable {X : Cx} {ρ : List Addr} {H : Hp} {S : Sto} {pins : List (Addr × Obj)} {σ : L2.St} {s : Shared}
/-- an entry of a dict -/
def EntR (X : Cx) (ρ : List Addr) (H : Hp) (kv : W × W) (e : DictEntry) : Prop := ∃ x y, RW X.J ρ H kv.1 x ∧ RelV x e.key ∧ RW X.J ρ H kv.2 y ∧ RelV y e.val
theorem ents_flat {P : Program} {w : World} : ∀ {kvs : List (W × W)} {qs : List (Key × V)} {vs : List (Key × Value)} {es : List DictEntry}, RK X.J ρ H kvs qs → KV qs vs → Pairs (mixKind P w) es vs → Paired (EntR X ρ H) kvs es
  | [], _, _, _, .nil, .nil, .nil => .nil
  | (k, u) :: kvs, _, _, _, .cons ⟨h1, h2⟩ r, .cons ⟨g1, g2⟩ rel, .cons p1 p2 ps => by
    refine .cons ?_ (ents_flat r rel ps)
    have p1' : keyIs _ _ = true := p1
    rw [← g1] at p1'
    have hk : ∃ x, RW X.J ρ H k x := by
      cases k <;> simp [kOf] at h1
      · exact ⟨_, .int _⟩
      · exact ⟨_, .str _⟩
    obtain ⟨x, hx⟩ := hk
    have ex := kOf_rw h1 hx
    subst ex
    exact ⟨_, _, hx, relV_key p1', h2, by rw [p2]; exact g2⟩
theorem ents_nest {knd : HeapKind X.prog X.w NestedKey} : ∀ {kvs : List (W × W)} {xs : List (NestedKey × Addr × Value)}, RN X.J ρ H kvs xs → Paired (EntR X ρ H) kvs (xs.map (entryOfKey knd))
  | _, _, .nil => .nil
  | _, _, .cons ⟨h0, h1, v, h2, h3⟩ r => .cons ⟨_, v, h1, rfl, h3, h2⟩ (ents_nest r)
theorem Rel.entries (R : Rel X.prog X.w X.J ρ S H) (I : Inv X pins σ H s) {n : Nat} {a : Addr} (hn : ρ[n]? = some a) {kvs : List (W × W)} (e : dctOf S n = some kvs) :
    ∃ o es ep, s.heap.get? a = some o ∧ o.cls = .type "dict" ∧ o.data = .dict es ep ∧ (a == sysModules) = false ∧ Paired (EntR X ρ H) kvs es.toList := by
  rcases R.dct hn e with ⟨qs, hr, r⟩ | ⟨xs, hr, hs, r, hl⟩
  · obtain ⟨_, hd, vs, rel, o, es, ep, h1, h2, h3, _, h5, _⟩ := dk_rd I.hok hr
    exact ⟨o, es, ep, h1, h2.1, h3, hd, ents_flat r rel h5⟩
  · obtain ⟨o, es, ep, h1, h2, h3, h4, h5⟩ := Inv.ndict I hr r
    exact ⟨o, es, ep, h1, h2.1, h3, hs, by rw [h4]; exact ents_nest r⟩
/-- a value's text -/
def CallsRepr (X : Cx) (s : Shared) (z : Value) (d : PyData) : Prop := d.showable = true → d.shown.length ≤ sizeLine → d.depth ≤ 60 → ∀ (E : Value → Shared → Prop) (Q : Value → Shared → Prop), X.A.units + 64 < cLine → X.A.guards = some [] →
  (∀ h' u tk, (∀ b o, s.heap.get? b = some o → h'.get? b = some o) → Q (.str d.shown u) { s with heap := h', toks := tk }) → wpAny (model X.prog X.w) X.A (call (.builtin "repr") [z]) Q E s
structure Shows (X : Cx) (s : Shared) (z : Value) (d : PyData) : Prop where
  rd : ∃ as, Reads s.heap z d as
  rk : d.showable = true → d.shown.length ≤ sizeLine → ∃ bs, ReadAtMost s.heap d.depth bs ∧ ReprK X.prog X.w bs s.heap d.depth z d.shown
  cl : CallsRepr X s z d
inductive ShowsAll (X : Cx) (s : Shared) : List Value → List PyData → Prop
  | nil : ShowsAll X s [] []
  | cons {z : Value} {d : PyData} {zs : List Value} {ds : List PyData} : Shows X s z d → ShowsAll X s zs ds → ShowsAll X s (z :: zs) (d :: ds)
theorem ShowsAll.reads : ∀ {zs : List Value} {ds : List PyData}, ShowsAll X s zs ds → ∃ as, ReadsAll s.heap zs ds as
  | _, _, .nil => ⟨[], .nil⟩
  | _, _, .cons h t => let ⟨as, r⟩ := h.rd; let ⟨bs, r'⟩ := ShowsAll.reads t; ⟨as ++ bs, .cons r r'⟩
theorem ShowsAll.repr : ∀ {zs : List Value} {ds : List PyData}, ShowsAll X s zs ds → PyData.showableAll ds = true → (∀ t ∈ PyData.shownAll ds, t.length ≤ sizeLine) →
    ∃ bs, ReadAtMost s.heap (PyData.depthAll ds) bs ∧ ReprAllK X.prog X.w bs s.heap (PyData.depthAll ds) zs (PyData.shownAll ds)
  | _, _, .nil, _, _ => ⟨[], (fun _ h => nomatch h), by simp only [PyData.shownAll]; exact .nil⟩
  | _, _, .cons (d := d) (ds := ds) r rs, hs, hz => by
    have hs' : d.showable = true ∧ PyData.showableAll ds = true := by simpa [PyData.showableAll] using hs
    obtain ⟨b1, hb1, k1⟩ := r.rk hs'.1 (hz _ (by simp only [PyData.shownAll]; exact List.mem_cons_self ..))
    obtain ⟨b2, hb2, k2⟩ := ShowsAll.repr rs hs'.2 (fun t ht => hz t (by simp only [PyData.shownAll]; exact List.mem_cons_of_mem _ ht))
    refine ⟨b1 ++ b2, ?_, ?_⟩
    · intro b hm
      simp only [PyData.depthAll]
      rcases List.mem_append.mp hm with hm | hm
      · obtain ⟨d', as', r', hd'⟩ := hb1 b hm
        exact ⟨d', as', r', Nat.le_trans hd' (Nat.le_max_left _ _)⟩
      · obtain ⟨d', as', r', hd'⟩ := hb2 b hm
        exact ⟨d', as', r', Nat.le_trans hd' (Nat.le_max_right _ _)⟩
    · simp only [PyData.depthAll, PyData.shownAll]
      exact .cons ((k1.more fun b hb => List.mem_append_left _ hb).level_le (Nat.le_max_left _ _)) (k2.more_le (fun b hb => List.mem_append_right _ hb) (Nat.le_max_right _ _))
theorem shows_flat {z : Value} {d : PyData} (r : Reads s.heap z d []) (hd : d.hasDict = false) (c : CallsRepr X s z d) : Shows X s z d :=
  ⟨⟨[], r⟩, fun hs hz => ReprK.of_reads r hs (PyData.noDict_hsm hd) hz, c⟩
theorem shows_list {a : Addr} {o : Obj} {vs : Array Value} {n : Nat} {xs : List PyData} (h1 : s.heap.get? a = some o) (h2 : o.cls = .type "list") (h3 : o.data = .seq vs n) (h4 : ShowsAll X s vs.toList xs) : Shows X s (.ref a) (.list xs) := by
  obtain ⟨as, ra⟩ := h4.reads
  have r : Reads s.heap (.ref a) (.list xs) _ := .list h1 h2 h3 ra
  refine ⟨⟨_, r⟩, fun hs hz => ?_, fun hs hz hd E Q hu hg hQ => ?_⟩
  · have hz' : (listText (PyData.shownAll xs)).length ≤ sizeLine := by simpa only [PyData.shown] using hz
    obtain ⟨bs, hb, hk⟩ := h4.repr (by simpa [PyData.showable] using hs) (fun t ht => Nat.le_trans (listText_mem_le ht) hz')
    have hna : a ∉ bs := not_mem_of_deeper r (by simp only [PyData.depth]; omega) hb
    refine ⟨a :: bs, ReadAtMost.cons r (by simp only [PyData.depth]; omega) hb, ?_⟩
    simp only [PyData.depth, PyData.shown]
    obtain ⟨l⟩ := vs
    cases l with
    | nil =>
      have h4' : ShowsAll X s [] xs := h4
      cases h4'
      simp only [PyData.shownAll, listText_nil]
      exact ReprK.listEmpty h1 h2 h3
    | cons x l => exact ReprK.list h1 h2 h3 hna (by simpa using hk.length_eq) (fun i y e => hk.item i y (by simpa using e))
  · have hz' : (listText (PyData.shownAll xs)).length ≤ sizeLine := by simpa only [PyData.shown] using hz
    obtain ⟨bs, hb, hk⟩ := h4.repr (by simpa [PyData.showable] using hs) (fun t ht => Nat.le_trans (listText_mem_le ht) hz')
    have hna : a ∉ bs := not_mem_of_deeper r (by simp only [PyData.depth]; omega) hb
    simp only [PyData.depth] at hd
    simp only [PyData.shown] at hQ
    refine call_repr_slot (by omega) ⟨o, h1, h2⟩ F.slot_list_repr.toG ?_
    obtain ⟨l⟩ := vs
    cases l with
    | nil =>
      have h4' : ShowsAll X s [] xs := h4
      cases h4'
      simp only [PyData.shownAll, listText_nil] at hQ
      exact call_list_repr_empty ⟨o, h1, h2⟩ h1 h3 ⟨_, _, rfl, hQ s.heap _ _ fun _ _ e => e⟩
    | cons x l =>
      exact call_list_reprK h1 h2 h3 hna (by simpa using hk.length_eq) (fun i y e => hk.item i y (by simpa using e)) hg (fun b _ => Clear.nil b) (by show X.A.units + 1 + _ < cLine; omega) (fun _ _ e => e) (fun h' u tk k => ⟨_, _, rfl, hQ h' u tk k⟩) hz'
theorem shows_tuple {a : Addr} {o : Obj} {vs : Array Value} {n : Nat} {xs : List PyData} (h1 : s.heap.get? a = some o) (h2 : o.cls = .type "tuple") (h3 : o.data = .seq vs n) (h4 : ShowsAll X s vs.toList xs) : Shows X s (.ref a) (.tuple xs) := by
  obtain ⟨as, ra⟩ := h4.reads
  have r : Reads s.heap (.ref a) (.tuple xs) _ := .tuple h1 h2 h3 ra
  refine ⟨⟨_, r⟩, fun hs hz => ?_, fun hs hz hd E Q hu hg hQ => ?_⟩
  · have hz' : (tupleText (PyData.shownAll xs)).length ≤ sizeLine := by simpa only [PyData.shown] using hz
    obtain ⟨bs, hb, hk⟩ := h4.repr (by simpa [PyData.showable] using hs) (fun t ht => Nat.le_trans (tupleText_mem_le ht) hz')
    have hna : a ∉ bs := not_mem_of_deeper r (by simp only [PyData.depth]; omega) hb
    refine ⟨a :: bs, ReadAtMost.cons r (by simp only [PyData.depth]; omega) hb, ?_⟩
    simp only [PyData.depth, PyData.shown]
    exact ReprK.tuple h1 h2 h3 hna hk
  · have hz' : (tupleText (PyData.shownAll xs)).length ≤ sizeLine := by simpa only [PyData.shown] using hz
    obtain ⟨bs, hb, hk⟩ := h4.repr (by simpa [PyData.showable] using hs) (fun t ht => Nat.le_trans (tupleText_mem_le ht) hz')
    have hna : a ∉ bs := not_mem_of_deeper r (by simp only [PyData.depth]; omega) hb
    simp only [PyData.depth] at hd
    simp only [PyData.shown] at hQ
    exact call_repr_slot (by omega) ⟨o, h1, h2⟩ F.slot_tuple_repr (call_tuple_reprK h1 h2 h3 hna hk hg (fun b _ => Clear.nil b) (by show X.A.units + 1 + _ < cLine; omega) (fun _ _ e => e) (fun h' u tk k => ⟨_, _, rfl, hQ h' u tk k⟩) hz')
def d0 (kvs : List (PyData × PyData)) : Bool := PyData.showableKv kvs
theorem shows_dict {a : Addr} {o : Obj} {es : Array DictEntry} {n : Nat} {kvs : List (PyData × PyData)} (h1 : s.heap.get? a = some o) (h2 : o.cls = .type "dict") (h3 : o.data = .dict es n) (hsys : (a == sysModules) = false)
    (h4 : ShowsAll X s (es.toList.map (·.key)) (kvs.map (·.1))) (h5 : ShowsAll X s (es.toList.map (·.val)) (kvs.map (·.2))) : Shows X s (.ref a) (.dict kvs) := by
  obtain ⟨as, ra⟩ := h4.reads
  obtain ⟨as', ra'⟩ := h5.reads
  have r : Reads s.heap (.ref a) (.dict kvs) _ := .dict h1 h2 h3 ra ra'
  have key : d0 kvs = true → (dictText (PyData.shownKv kvs)).length ≤ sizeLine → ∃ bs, ReadAtMost s.heap (PyData.depthKv kvs) bs ∧ a ∉ bs ∧ ReprEntriesK X.prog X.w bs s.heap (PyData.depthKv kvs) es.toList (List.zipWith (fun k v : Str => k ++ ": " ++ v) (PyData.shownAll (kvs.map (·.1))) (PyData.shownAll (kvs.map (·.2)))) := fun hs hz' => by
    obtain ⟨hs1, hs2⟩ := PyData.showableKv_split kvs hs
    obtain ⟨b1, hb1, k1⟩ := h4.repr hs1 (fun t ht => let ⟨p, hp, hl⟩ := PyData.shownKv_key_le kvs t ht; Nat.le_trans hl (Nat.le_trans (dictText_mem_le hp) hz'))
    obtain ⟨b2, hb2, k2⟩ := h5.repr hs2 (fun t ht => let ⟨p, hp, hl⟩ := PyData.shownKv_val_le kvs t ht; Nat.le_trans hl (Nat.le_trans (dictText_mem_le hp) hz'))
    have hb : ReadAtMost s.heap (PyData.depthKv kvs) (b1 ++ b2) := (hb1.mono (PyData.depthAll_keys_le kvs)).append (hb2.mono (PyData.depthAll_vals_le kvs))
    have hna : a ∉ b1 ++ b2 := not_mem_of_deeper r (by simp only [PyData.depth]; omega) hb
    exact ⟨_, hb, hna, ReprEntriesK.of_two es.toList _ _
      (k1.more_le (fun b hb => List.mem_append_left _ hb) (PyData.depthAll_keys_le kvs)) (k2.more_le (fun b hb => List.mem_append_right _ hb) (PyData.depthAll_vals_le kvs))⟩
  refine ⟨⟨_, r⟩, fun hs hz => ?_, fun hs hz hd E Q hu hg hQ => ?_⟩
  · obtain ⟨bs, hb, hna, k⟩ := key (by simpa [d0, PyData.showable] using hs) (by simpa only [PyData.shown] using hz)
    refine ⟨a :: bs, ReadAtMost.cons r (by simp only [PyData.depth]; omega) hb, ?_⟩
    simp only [PyData.depth, PyData.shown, PyData.shownKv_eq]
    exact ReprK.dict h1 h2 h3 hsys hna k
  · have hz' : (dictText (PyData.shownKv kvs)).length ≤ sizeLine := by simpa only [PyData.shown] using hz
    obtain ⟨bs, hb, hna, k⟩ := key (by simpa [d0, PyData.showable] using hs) hz'
    simp only [PyData.depth] at hd
    simp only [PyData.shown, PyData.shownKv_eq] at hQ
    exact call_repr_slot (by omega) ⟨o, h1, h2⟩ F.slot_dict_repr (call_dict_reprK h1 h2 h3 hsys hna k hg (fun b _ => Clear.nil b) (by show X.A.units + 1 + _ < cLine; omega) (fun _ _ e => e) (fun h' u tk k => ⟨_, _, rfl, hQ h' u tk k⟩) (by rw [← PyData.shownKv_eq]; exact hz'))
theorem pairOpt_some {α β : Type} {x : Option α} {y : Option β} {p : α × β} (h : pairOpt (x, y) = some p) : x = some p.1 ∧ y = some p.2 := by
  cases x <;> cases y <;> simp [pairOpt] at h
  subst h
  exact ⟨rfl, rfl⟩
theorem Rel.shows (R : Rel X.prog X.w X.J ρ S H) (I : Inv X pins σ H s) : ∀ (k : Nat) (u : W) (v : V) (z : Value) (d : PyData), RW X.J ρ H u v → RelV v z → toP S k u = some d → Shows X s z d := by
  intro k
  induction k with
  | zero => intro u v z d _ _ e; simp [toP] at e
  | succ k ih =>
    have all : ∀ (ws : List W) (vs : List V) (zs : List Value) (ds : List PyData), RWs X.J ρ H ws vs → Vals vs zs → optAll (ws.map (toP S k)) = some ds → ShowsAll X s zs ds := by
      intro ws
      induction ws with
      | nil => intro vs zs ds r rz e; cases r; cases rz; cases e; exact .nil
      | cons w ws ihw =>
        intro vs zs ds r rz e
        cases r with
        | cons h r =>
          cases rz with
          | cons h' rz =>
            rw [List.map_cons] at e
            cases q : toP S k w with
            | none => rw [q] at e; cases e
            | some d =>
              rw [q] at e
              obtain ⟨ds', e1, rfl⟩ := Option.map_eq_some_iff.mp e
              exact .cons (ih _ _ _ _ h h' q) (ihw _ _ _ r rz e1)
    have ents : ∀ (kvs : List (W × W)) (es : List DictEntry) (ds : List (PyData × PyData)), Paired (EntR X ρ H) kvs es → optAll (kvs.map fun kv => pairOpt (toP S k kv.1, toP S k kv.2)) = some ds →
        ShowsAll X s (es.map (·.key)) (ds.map (·.1)) ∧ ShowsAll X s (es.map (·.val)) (ds.map (·.2)) := by
      intro kvs
      induction kvs with
      | nil => intro es ds r e; cases r; cases e; exact ⟨.nil, .nil⟩
      | cons kv kvs ihw =>
        intro es ds r e
        cases r with
        | cons h r =>
          rw [List.map_cons] at e
          cases q : pairOpt (toP S k kv.1, toP S k kv.2) with
          | none => rw [q] at e; cases e
          | some p =>
            rw [q] at e
            obtain ⟨ds', e1, rfl⟩ := Option.map_eq_some_iff.mp e
            obtain ⟨i1, i2⟩ := ihw _ _ r e1
            obtain ⟨x, y, h1, h2, h3, h4⟩ := h
            obtain ⟨q1, q2⟩ := pairOpt_some q
            exact ⟨.cons (ih _ _ _ _ h1 h2 q1) i1, .cons (ih _ _ _ _ h3 h4 q2) i2⟩
    intro u v z d r rz e
    cases r with
    | exc h1 h2 h3 h4 h5 r => simp [toP] at e
    | scr t r => simp [toP] at e
    | non => simp [toP] at e; subst e; cases rz; exact shows_flat .none rfl fun _ _ _ E Q _ _ hQ => P.repr_of_none (hQ s.heap _ _ fun _ _ e => e)
    | bl b => simp [toP] at e; subst e; cases rz; refine shows_flat (.bool b) rfl fun _ _ _ E Q _ _ hQ => P.repr_of_bool ?_; have q := hQ s.heap s.toks (s.toks + 1) fun _ _ e => e; cases b <;> exact q
    | int i => simp [toP] at e; subst e; obtain ⟨t, rfl⟩ := rz; exact shows_flat (.int i t) rfl fun hs _ _ E Q _ _ hQ => P.repr_of_int (by simpa [PyData.showable] using hs) (hQ s.heap _ _ fun _ _ e => e)
    | str x => simp [toP] at e; subst e; obtain ⟨t, rfl⟩ := rz; exact shows_flat (.str x t) rfl fun _ hz _ E Q _ _ hQ => P.repr_of_str (hQ s.heap _ _ fun _ _ e => e) hz
    | tup t r =>
      simp only [toP] at e
      obtain ⟨ds, e1, rfl⟩ := Option.map_eq_some_iff.mp e
      cases rz
      obtain ⟨its, rv, ⟨o, ho, hc, n, hd⟩, _⟩ := I.tuple t
      exact shows_tuple ho hc hd (all _ _ _ _ r (by simpa using rv) e1)
    | ref hn =>
      rename_i n a
      cases rz
      simp only [toP] at e
      split at e
      · rename_i ws e0
        obtain ⟨ds, e1, rfl⟩ := Option.map_eq_some_iff.mp e
        obtain ⟨vs, hl, r⟩ := R.lstOf hn e0
        obtain ⟨its, rv, ⟨o, n', ho, hc, _, hd⟩, _⟩ := I.list hl
        exact shows_list ho hc hd (all _ _ _ _ r (by simpa using rv) e1)
      · split at e
        · rename_i kvs e0
          obtain ⟨ds, e1, rfl⟩ := Option.map_eq_some_iff.mp e
          obtain ⟨o, es, ep, h1, h2, h3, h4, h5⟩ := R.entries I hn e0
          obtain ⟨i1, i2⟩ := ents _ _ _ h5 e1
          exact shows_dict h1 h2 h3 h4 i1 i2
        · cases e
theorem c_repr (hu : X.A.units + 64 < cLine) (hg : X.A.guards = some []) : CallR X (.builtin "repr") (LCall X reprF) := by
  intro pins s σ H xs us Q I rs ⟨ρ, S, ws, r, R, h⟩
  unfold reprF at h
  split at h
  · rename_i w
    obtain ⟨x, rfl, rx⟩ := rws1 r rfl
    obtain ⟨z, rfl, rz⟩ := vals1 rs
    unfold reprR at h
    split at h
    · rename_i d e
      obtain ⟨hc, h⟩ := h.ite
      have sh := R.shows I _ _ _ _ _ rx rz e
      have q := h.now R (.str _)
      exact sh.cl hc.1 hc.2.1 hc.2.2 _ _ hu hg fun h' u tk k => ⟨.str _, H, I.kept (t' := tk) k, ⟨u, rfl⟩, q⟩
    · exact h.no.elim
  · exact h.no.elim
end
end PI

set_option Elab.async false
set_option linter.all false
set_option maxRecDepth 100000
set_option maxHeartbeats 4000000
/-! expressions: judgements -/
namespace PI
open PySem PySem.Spec PyProof.Rows L2
theorem PE.wk {X : Cx} {e : Expr} {t t' : TE} (h : PE X e t) (k : ∀ σ H Q, t' σ H Q → t σ H Q) : PE X e t' := ⟨fun pins s σ H Q I q => h.run pins s σ H Q I (k σ H Q q)⟩
theorem PT.wk {X : Cx} {e : Expr} {t t' : TT} (h : PT X e t) (k : ∀ σ H Q, t' σ H Q → t σ H Q) : PT X e t' := ⟨fun pins s σ H Q I q => h.run pins s σ H Q I (k σ H Q q)⟩
theorem PW.wk {X : Cx} {e : Expr} {t t' : TT} (h : PW X e t) (k : ∀ σ H Q, t' σ H Q → t σ H Q) : PW X e t' := ⟨fun wh pins s σ H Q I q => h.run wh pins s σ H Q I (k σ H Q q)⟩
theorem PA.wk {X : Cx} {e : List Expr} {t t' : TA} (h : PA X e t) (k : ∀ σ H Q, t' σ H Q → t σ H Q) : PA X e t' := ⟨fun p pins s σ H Q I q => h.run p pins s σ H Q I (k σ H Q q)⟩
theorem PS.wk {X : Cx} {e : Stmt} {t t' : TS} (h : PS X e t) (k : ∀ D σ H, t' D σ H → t D σ H) : PS X e t' := ⟨fun pins s σ H Q I q => h.run pins s σ H Q I (k Q σ H q)⟩
theorem PSs.wk {X : Cx} {e : List Stmt} {t t' : TS} (h : PSs X e t) (k : ∀ D σ H, t' D σ H → t D σ H) : PSs X e t' := ⟨fun pins s σ H Q I q => h.run pins s σ H Q I (k Q σ H q)⟩
theorem PG.wk {X : Cx} {e : Expr} {t t' : TG} (h : PG X e t) (k : ∀ v σ H Q, t' v σ H Q → t v σ H Q) : PG X e t' := ⟨fun pins s σ H v u Q I r q => h.run pins s σ H v u Q I r (k v σ H Q q)⟩
theorem PGs.wk {X : Cx} {e : List Expr} {t t' : TGs} (h : PGs X e t) (k : ∀ v σ H Q, t' v σ H Q → t v σ H Q) : PGs X e t' := ⟨fun pins s σ H v u Q I r q => h.run pins s σ H v u Q I r (k v σ H Q q)⟩
/-- the evaluator's reading -/
def LE (X : Cx) (xw : XW) (m : Env → Sto → Res W) : TE := fun σ H Q => ∃ ρ S η, REnv X.J ρ H η σ ∧ Rel X.prog X.w X.J ρ S H ∧ Fin X xw ρ H (m η S) fun u _ ρ' H' => ∀ v, RW X.J ρ' H' u v → Q v H'
def LA (X : Cx) (xw : XW) (m : Env → Sto → Res (List W)) : TA := fun σ H Q => ∃ ρ S η, REnv X.J ρ H η σ ∧ Rel X.prog X.w X.J ρ S H ∧ Fin X xw ρ H (m η S) fun u _ ρ' H' => ∀ v, RWs X.J ρ' H' u v → Q v H'
def LT (X : Cx) (xw : XW) (m : Env → Sto → Res Bool) : TT := fun σ H Q => ∃ ρ S η, REnv X.J ρ H η σ ∧ Rel X.prog X.w X.J ρ S H ∧ Fin X xw ρ H (m η S) fun u _ _ H' => Q u H'
/-- an expression keeps to the evaluator, as a value and as a test -/
structure Snd (X : Cx) (xw : XW) (e : Expr) (m : Env → Sto → Res W) : Prop where
  pe : PE X e (LE X xw m)
  pt : PT X e (LT X xw fun η S => truthR (m η S))
section
variable {X : Cx} {xw : XW} {ρ : List Addr} {H : Hp} {S : Sto} {σ : L2.St} {Q : VK}
theorem Fin.ok_imp {α : Type} {a : α} {S : Sto} {P : α → Sto → List Addr → Hp → Prop} (h : Fin X xw ρ H (.ok a S) P) (R : Rel X.prog X.w X.J ρ S H) : P a S ρ H := h ρ H .refl R
theorem Fin.no {α : Type} {P : α → Sto → List Addr → Hp → Prop} (h : Fin X xw ρ H .bad P) : False := h
theorem Fin.truth {r : Res W} {P : Bool → Hp → Prop} (h : Fin X xw ρ H (truthR r) fun u _ _ H' => P u H') : Fin X xw ρ H r fun u S' ρ' H' => ∃ t, truthW S' u = some t ∧ P t H' := by
  refine (Fin.bind h).imp fun u S' ρ' H' L R q => ?_
  split at q
  · rename_i t e
    exact ⟨t, e, q.ok_imp R⟩
  · exact q.no.elim
theorem snd_plain {e : Expr} {m : Env → Sto → Res W} (h : PE X e (LE X xw m)) (he : ∀ whole, isTrue e X.env whole = (do let v ← whole; standAt e.pos; holding [v] (truthy v))) : Snd X xw e m := by
  refine ⟨h, ⟨fun pins s σ H Q I hw => ?_⟩⟩
  obtain ⟨ρ, S, η, re, R, hw⟩ := hw
  have hw' : LE X xw m σ H fun x H' => LTru X x H' Q := ⟨ρ, S, η, re, R, hw.truth.imp fun u S' ρ' H' L R' ⟨t, e, q⟩ v rv => ⟨ρ', S', u, t, rv, R', e, q⟩⟩
  exact isTrue_plain (thn (h.run pins s σ H _ I hw') fun v s1 ⟨x, H1, I1, r1, q1⟩ => tru_W pins s1 σ H1 x v Q I1 r1 q1) (he _)
/-- truth, the heap as it was -/
theorem tru_at {pins : List (Addr × Obj)} {s : Shared} {u : W} {x : V} {v : Value} {t : Bool} {P : Bool → Shared → Prop} (I : Inv X pins σ H s) (R : Rel X.prog X.w X.J ρ S H) (ru : RW X.J ρ H u x) (rv : RelV x v) (e : truthW S u = some t)
    (k : ∀ s', Inv X pins σ H s' → P t s') : wpAny (model X.prog X.w) X.A (truthy v) P X.xe s :=
  thn (tru_W pins s σ H x v (fun c H2 => c = t ∧ H2 = H) I rv ⟨ρ, S, u, t, ru, R, e, rfl, rfl⟩) fun c s2 ⟨H2, I2, e1, e2⟩ => by
    subst e1 e2
    exact k s2 I2
/-! ### names, constants -/
theorem s_var {i : Nat} {x : Str} {pos : Pos} (hN : X.N[i]? = some x) (hv : Vis X.env.scope x) (hd : (x == ("__debug__" : Str)) = false) (hcd : (x == ("__classdict__" : Str)) = false) {Φ : Fns} : Snd X xw (.Name x pos) (eval Φ (.v i)) := by
  refine snd_plain (PE.wk (pe_var hN hv hd hcd) fun σ H Q ⟨ρ, S, η, re, R, h⟩ => ?_) fun _ => rfl
  rw [eval] at h
  split at h
  · rename_i w e
    obtain ⟨v, e1, r⟩ := re.at_ i w e
    exact ⟨v, e1, h.ok_imp R v r⟩
  · exact h.no.elim
theorem s_con {e : Expr} {v : V} {m : Env → Sto → Res W} {u : W} (h : PE X e (tC v)) (hm : ∀ η S, m η S = .ok u S) (hr : ∀ ρ H, RW X.J ρ H u v) (he : ∀ whole, isTrue e X.env whole = (do let v ← whole; standAt e.pos; holding [v] (truthy v))) : Snd X xw e m := by
  refine snd_plain (PE.wk h fun σ H Q ⟨ρ, S, η, re, R, h⟩ => ?_) he
  rw [hm] at h
  exact h.ok_imp R _ (hr _ _)
/-! ### argument lists -/
theorem a_nil {Φ : Fns} : PA X [] (LA X xw (evals Φ .nil)) := PA.wk pa_nil fun σ H Q ⟨ρ, S, η, re, R, h⟩ => by
  rw [evals] at h
  exact h.ok_imp R _ .nil
theorem a_cons {e : Expr} {es : List Expr} {Φ : Fns} {a r : E} (h1 : Snd X xw e (eval Φ a)) (h2 : PA X es (LA X xw (evals Φ r))) (hs : starEach (e :: es) X.env = (false, PySem.eval e X.env) :: starEach es X.env) : PA X (e :: es) (LA X xw (evals Φ (.cons a r))) :=
  PA.wk (pa_cons h1.pe h2 hs) fun σ H Q ⟨ρ, S, η, re, R, h⟩ => by
    rw [evals] at h
    refine ⟨ρ, S, η, re, R, (Fin.bind h).imp fun u S1 ρ1 H1 L1 R1 q v rv => ⟨ρ1, S1, η, re.mono L1, R1, (Fin.bind q).imp fun us S2 ρ2 H2 L2 R2 q2 vs rvs => ?_⟩⟩
    exact q2.ok_imp R2 (v :: vs) (.cons (rv.mono L2) rvs)
theorem s_tup {es : List Expr} {k : Nat} {pos : Pos} {Φ : Fns} {r : E} (h : PA X es (LA X xw (evals Φ r))) : Snd X xw (.Tuple es k pos) (eval Φ (.tup r)) := by
  refine snd_plain (PE.wk (pe_tup h) fun σ H Q ⟨ρ, S, η, re, R, h⟩ => ?_) fun _ => rfl
  rw [eval] at h
  refine ⟨ρ, S, η, re, R, (Fin.bind h).imp fun us S1 ρ1 H1 L1 R1 q vs rvs => ?_⟩
  have q : Ans X ρ1 H1 (if us.length ≤ sizeLine then .ok (.tup us) S1 else .bad) Q := ⟨_, q⟩
  obtain ⟨hc, q⟩ := q.ite
  exact ⟨by rw [← rvs.length]; exact hc, fun p hp => q.tup R1 rvs hp⟩
theorem s_lst {es : List Expr} {pos : Pos} {Φ : Fns} {r : E} (h : PA X es (LA X xw (evals Φ r))) : Snd X xw (.List es pos) (eval Φ (.lst r)) := by
  refine snd_plain (PE.wk (pe_lst h) fun σ H Q ⟨ρ, S, η, re, R, h⟩ => ?_) fun _ => rfl
  rw [eval] at h
  refine ⟨ρ, S, η, re, R, (Fin.bind h).imp fun us S1 ρ1 H1 L1 R1 q vs rvs => ?_⟩
  have q : Ans X ρ1 H1 (if us.length ≤ sizeLine then .ok (.ref S1.length) (S1 ++ [.lst us]) else .bad) Q := ⟨_, q⟩
  obtain ⟨hc, q⟩ := q.ite
  exact ⟨by rw [← rvs.length]; exact hc, fun p hp => q.lst R1 rvs hp⟩
/-! ### operators -/
theorem le_op {ma mb : Env → Sto → Res W} {g : W → W → Sto → Res W} (h : LE X xw (fun η S => (ma η S).bind fun x S1 => (mb η S1).bind (g x)) σ H Q) : tOp (LR2 X g) (LE X xw ma) (LE X xw mb) σ H Q := by
  obtain ⟨ρ, S, η, re, R, h⟩ := h
  refine ⟨ρ, S, η, re, R, (Fin.bind h).imp fun x S1 ρ1 H1 L1 R1 q v rv => ⟨ρ1, S1, η, re.mono L1, R1, (Fin.bind q).imp fun y S2 ρ2 H2 L2 R2 q2 w rw => ?_⟩⟩
  exact ⟨ρ2, S2, x, y, rv.mono L2, rw, R2, xw, q2⟩
theorem s_bin {a b : Expr} {pos : Pos} {Φ : Fns} {o : Bop} {ea eb : E} (ha : Snd X xw a (eval Φ ea)) (hb : Snd X xw b (eval Φ eb)) : Snd X xw (.BinOp a (bopOf o) b pos) (eval Φ (.bin o ea eb)) :=
  snd_plain (PE.wk (pe_op (op_bin o) ha.pe hb.pe) fun σ H Q h => le_op (by rw [show eval Φ (.bin o ea eb) = fun η S => (eval Φ ea η S).bind fun x S1 => (eval Φ eb η S1).bind (binW o x) from by funext η S; rw [eval]] at h; exact h)) fun _ => rfl
theorem s_neg {a : Expr} {pos : Pos} {Φ : Fns} {ea : E} (ha : Snd X xw a (eval Φ ea)) : Snd X xw (.UnaryOp .USub a pos) (eval Φ (.neg ea)) := by
  refine snd_plain (PE.wk (pe_un un_neg ha.pe) fun σ H Q ⟨ρ, S, η, re, R, h⟩ => ?_) fun _ => rfl
  rw [eval] at h
  refine ⟨ρ, S, η, re, R, (Fin.bind h).imp fun u S1 ρ1 H1 L1 R1 q v rv => ?_⟩
  unfold negW at q
  split at q
  · cases rv
    exact ⟨_, rfl, q.ok_imp R1 _ (.int _)⟩
  · exact q.no.elim
theorem s_not {a : Expr} {pos : Pos} {Φ : Fns} {ea : E} (ha : Snd X xw a (eval Φ ea)) : Snd X xw (.UnaryOp .Not a pos) (eval Φ (.not ea)) := by
  refine ⟨⟨fun pins s σ H Q I h => ?_⟩, ?_⟩
  · obtain ⟨ρ, S, η, re, R, h⟩ := h
    rw [eval] at h
    have h1 : LE X xw (eval Φ ea) σ H fun x H' => LTru X x H' fun c H2 => Q (.bl !c) H2 := ⟨ρ, S, η, re, R, (Fin.truth (P := fun c H2 => Q (.bl !c) H2) ((Fin.bind h).imp fun t S1 ρ1 H1 L1 R1 q => q.ok_imp R1 _ (.bl _))).imp fun u S' ρ' H' L R' ⟨t, e, q⟩ v rv => ⟨ρ', S', u, t, rv, R', e, q⟩⟩
    refine UnaryOp_ (thn (ha.pe.run pins s σ H _ I h1) fun v s1 ⟨x, H1, I1, r1, q1⟩ => ?_)
    exact not_of (thn (tru_W pins s1 σ H1 x v _ I1 r1 q1) fun c s2 ⟨H2, I2, q2⟩ => ⟨.bl (!c), H2, I2, rfl, q2⟩)
  · refine PT.wk (pt_not ha.pt) fun σ H Q ⟨ρ, S, η, re, R, h⟩ => ?_
    refine ⟨ρ, S, η, re, R, ?_⟩
    have h : Fin X xw ρ H (truthR (eval Φ (.not ea) η S)) fun u _ _ H' => Q u H' := h
    rw [eval] at h
    refine (Fin.bind h.truth).imp fun t S1 ρ1 H1 L1 R1 q => ?_
    obtain ⟨c, e, q⟩ := q.ok_imp R1
    cases e
    exact q
end
end PI

set_option Elab.async false
set_option linter.all false
set_option maxRecDepth 100000
set_option maxHeartbeats 4000000
/-! expressions: and, or, comparisons, if-else, subscripts -/
namespace PI
open PySem PySem.Spec PyProof.Rows L2
section
variable {X : Cx} {xw : XW} {ρ : List Addr} {H : Hp} {S : Sto} {σ : L2.St} {Q : VK}
def booOf : Bool → BoolOp
  | true => .And
  | false => .Or
/-- and, or of the rest -/
structure SndB (X : Cx) (xw : XW) (o : Bool) (es : List Expr) (pos : Pos) (m : Env → Sto → Res W) : Prop where
  pe : PE X (.BoolOp (booOf o) es pos) (LE X xw m)
  pw : PW X (.BoolOp (booOf o) es pos) (LT X xw fun η S => truthR (m η S))
theorem sb_one {a : Expr} {pos : Pos} {o : Bool} {Φ : Fns} {ea : E} (ha : Snd X xw a (eval Φ ea)) : SndB X xw o [a] pos (evalB Φ o (.cons ea .nil)) := by
  have e : evalB Φ o (.cons ea .nil) = eval Φ ea := by funext η S; rw [evalB]; rfl
  rw [e]
  cases o with
  | true => exact ⟨pe_one ha.pe, pw_and1 ha.pt⟩
  | false => exact ⟨pe_one ha.pe, pw_or1 ha.pt⟩
theorem sb_cons {a b : Expr} {rest : List Expr} {pos : Pos} {o : Bool} {Φ : Fns} {ea er : E} (hn : er.isNil = false) (ha : Snd X xw a (eval Φ ea)) (hb : SndB X xw o (b :: rest) pos (evalB Φ o er)) : SndB X xw o (a :: b :: rest) pos (evalB Φ o (.cons ea er)) := by
  have e : evalB Φ o (.cons ea er) = fun η S => (eval Φ ea η S).bind fun x S1 => match truthW S1 x with
    | some t => if t = o then evalB Φ o er η S1 else .ok x S1
    | none => .bad := by
    funext η S
    rw [evalB, hn]
    rfl
  rw [e]
  refine ⟨⟨fun pins s σ H Q I h => ?_⟩, ?_⟩
  · obtain ⟨ρ, S, η, re, R, h⟩ := h
    have h1 : LE X xw (eval Φ ea) σ H fun x H' => ∃ ρ S u t, REnv X.J ρ H' η σ ∧ RW X.J ρ H' u x ∧ Rel X.prog X.w X.J ρ S H' ∧ truthW S u = some t ∧ if t = o then LE X xw (evalB Φ o er) σ H' Q else Q x H' := by
      refine ⟨ρ, S, η, re, R, (Fin.bind h).imp fun u S1 ρ1 H1 L1 R1 q v rv => ?_⟩
      split at q
      · rename_i t et
        refine ⟨ρ1, S1, u, t, re.mono L1, rv, R1, et, ?_⟩
        split
        · rename_i ho
          rw [if_pos ho] at q
          exact ⟨ρ1, S1, η, re.mono L1, R1, q⟩
        · rename_i ho
          rw [if_neg ho] at q
          exact q.ok_imp R1 v rv
      · exact q.no.elim
    have key := ha.pe.run pins s σ H _ I h1
    cases o with
    | true =>
      refine BoolOp_and (thn key fun v s1 ⟨x, H1, I1, r1, ρ2, S2, u, t, re2, ru, R2, et, q⟩ => tru_at I1 R2 ru r1 et fun s2 I2 => ?_)
      cases t with
      | true => exact hb.pe.run pins s2 σ H1 Q I2 (by simpa using q)
      | false => exact ⟨x, H1, I2, r1, by simpa using q⟩
    | false =>
      refine BoolOp_or (thn key fun v s1 ⟨x, H1, I1, r1, ρ2, S2, u, t, re2, ru, R2, et, q⟩ => tru_at I1 R2 ru r1 et fun s2 I2 => ?_)
      cases t with
      | false => exact hb.pe.run pins s2 σ H1 Q I2 (by simpa using q)
      | true => exact ⟨x, H1, I2, r1, by simpa using q⟩
  · have key : ∀ σ H (Q : Bool → Hp → Prop), LT X xw (fun η S => truthR ((eval Φ ea η S).bind fun x S1 => match truthW S1 x with
          | some t => if t = o then evalB Φ o er η S1 else .ok x S1
          | none => .bad)) σ H Q → LT X xw (fun η S => truthR (eval Φ ea η S)) σ H fun c H1 => if c = o then LT X xw (fun η S => truthR (evalB Φ o er η S)) σ H1 Q else Q c H1 := by
      intro σ H Q ⟨ρ, S, η, re, R, h⟩
      refine ⟨ρ, S, η, re, R, ?_⟩
      show Fin X xw ρ H (truthR (eval Φ ea η S)) _
      have h : Fin X xw ρ H (truthR ((eval Φ ea η S).bind fun x S1 => match truthW S1 x with
          | some t => if t = o then evalB Φ o er η S1 else .ok x S1
          | none => .bad)) fun u _ _ H' => Q u H' := h
      cases q : eval Φ ea η S with
      | ok u S1 =>
        rw [q] at h
        simp only [Res.bind, truthR] at h ⊢
        cases e : truthW S1 u with
        | none => simp only [e] at h; exact h
        | some t =>
          simp only [e] at h ⊢
          intro ρ1 H1 L1 R1
          split
          · rename_i ho
            rw [if_pos ho] at h
            exact ⟨ρ1, S1, η, re.mono L1, R1, h.mono L1⟩
          · rename_i ho
            rw [if_neg ho] at h
            simp only [e] at h
            exact h ρ1 H1 L1 R1
      | exc c fs S1 =>
        rw [q] at h
        simp only [Res.bind, truthR] at h ⊢
        exact h
      | bad =>
        rw [q] at h
        simp only [Res.bind, truthR] at h ⊢
        exact h
    have fin : PW X (.BoolOp (booOf o) (a :: b :: rest) pos) (fun σ H Q => LT X xw (fun η S => truthR (eval Φ ea η S)) σ H fun c H1 => if c = o then LT X xw (fun η S => truthR (evalB Φ o er η S)) σ H1 Q else Q c H1) := by
      cases o with
      | true => exact PW.wk (pw_and ha.pt hb.pw) fun σ H Q ⟨ρ, S, η, re, R, h⟩ => ⟨ρ, S, η, re, R, h.imp fun c S' ρ' H' L R' q => by cases c <;> simpa using q⟩
      | false => exact PW.wk (pw_or ha.pt hb.pw) fun σ H Q ⟨ρ, S, η, re, R, h⟩ => ⟨ρ, S, η, re, R, h.imp fun c S' ρ' H' L R' q => by cases c <;> simpa using q⟩
    exact PW.wk fin fun σ H Q h => key σ H Q h
theorem s_boo {es : List Expr} {pos : Pos} {o : Bool} {Φ : Fns} {r : E} (h : SndB X xw o es pos (evalB Φ o r)) : Snd X xw (.BoolOp (booOf o) es pos) (eval Φ (.boo o r)) := by
  have e : eval Φ (.boo o r) = evalB Φ o r := by funext η S; rw [eval]
  rw [e]
  exact ⟨h.pe, h.pw.pt⟩
/-! ### comparisons -/
def BlR (r : Res W) : Prop := ∀ u S', r = .ok u S' → ∃ b, u = .bl b
theorem BlR.bad : BlR .bad := fun _ _ e => by cases e
theorem BlR.ok {b : Bool} {S : Sto} : BlR (.ok (.bl b) S) := fun _ _ e => by cases e; exact ⟨_, rfl⟩
theorem BlR.bind {α : Type} {r : Res α} {f : α → Sto → Res W} (h : ∀ a S, BlR (f a S)) : BlR (r.bind f) := by
  cases r with
  | ok a S => exact h a S
  | exc c fs S => exact fun _ _ e => by cases e
  | bad => exact .bad
theorem onData_bl {S : Sto} {f : PyData → PyData → Option Bool} {x y : W} : BlR (onData S f x y) := by
  unfold onData
  split
  · split
    · exact .ok
    · exact .bad
  · exact .bad
theorem boolR_bl {S : Sto} {r : Option Bool} : BlR (boolR S r) := by
  cases r
  · exact .bad
  · exact .ok
theorem cmpW_bl {S : Sto} {o : Cop} {x y : W} : BlR (cmpW o x y S) := by
  cases o with
  | eq =>
    show BlR (if _ then _ else _)
    split
    · exact .ok
    · exact onData_bl
  | ne =>
    show BlR (if _ then _ else _)
    split
    · exact .ok
    · exact onData_bl
  | lt => exact onData_bl
  | le => exact onData_bl
  | gt => exact onData_bl
  | ge => exact onData_bl
  | is => cases y <;> first | exact .ok | exact .bad
  | isNot => cases y <;> first | exact .ok | exact .bad
  | isIn => exact boolR_bl
  | notIn => exact boolR_bl
theorem truth_bl {r : Res W} {P : Bool → Hp → Prop} (b : BlR r) (h : Fin X xw ρ H (truthR r) fun u _ _ H' => P u H') : Fin X xw ρ H r fun u _ ρ' H' => ∀ v, RW X.J ρ' H' u v → ∃ k, v = .bl k ∧ P k H' := by
  cases r with
  | ok u S =>
    obtain ⟨c, rfl⟩ := b _ _ rfl
    intro ρ' H' L R v rv
    cases rv
    exact ⟨c, rfl, h ρ' H' L R⟩
  | exc c fs S => exact h
  | bad => exact h
theorem s_cmp {a b : Expr} {pos : Pos} {Φ : Fns} {o : Cop} {ea eb : E} (hu : X.A.units + 64 < cLine) (hm : behindInMarks (copOf o) b = false) (ha : Snd X xw a (eval Φ ea)) (hb : Snd X xw b (eval Φ eb)) : Snd X xw (.Compare a [copOf o] [b] pos) (eval Φ (.cmp o ea eb)) := by
  have e : eval Φ (.cmp o ea eb) = fun η S => (eval Φ ea η S).bind fun x S1 => (eval Φ eb η S1).bind (cmpW o x) := by funext η S; rw [eval]
  rw [e]
  refine ⟨PE.wk (pe_cmpR (op_cmp hu o) ha.pe hb.pe hm) fun σ H Q h => le_op h, PT.wk (pt_cmpR (op_cmp hu o) ha.pe hb.pe hm) fun σ H Q h => ?_⟩
  obtain ⟨ρ, S, η, re, R, h⟩ := h
  exact le_op ⟨ρ, S, η, re, R, truth_bl (BlR.bind fun _ _ => BlR.bind fun _ _ => cmpW_bl) h⟩
def chainW (Φ : Fns) (p : Cop) (ec : E) (η : Env) (y z : W) (S3 : Sto) : Res W := match z with
  | .bl true => (eval Φ ec η S3).bind (cmpW p y)
  | .bl false => .ok (.bl false) S3
  | _ => .bad
theorem s_chain {a b c : Expr} {pos : Pos} {Φ : Fns} {o p : Cop} {ea eb ec : E} (hu : X.A.units + 64 < cLine) (hm : behindInMarks (copOf p) c = false) (ha : Snd X xw a (eval Φ ea)) (hb : Snd X xw b (eval Φ eb)) (hc : Snd X xw c (eval Φ ec)) :
    Snd X xw (.Compare a [copOf o, copOf p] [b, c] pos) (eval Φ (.chain o p ea eb ec)) := by
  have e : eval Φ (.chain o p ea eb ec) = fun η S => (eval Φ ea η S).bind fun x S1 => (eval Φ eb η S1).bind fun y S2 => (cmpW o x y S2).bind fun z S3 => chainW Φ p ec η y z S3 := by funext η S; rw [eval]; rfl
  rw [e]
  have core : ∀ σ H Q, LE X xw (fun η S => (eval Φ ea η S).bind fun x S1 => (eval Φ eb η S1).bind fun y S2 => (cmpW o x y S2).bind fun z S3 => chainW Φ p ec η y z S3) σ H Q → tChain (LR2 X (cmpW o)) (LR2 X (cmpW p)) (LE X xw (eval Φ ea)) (LE X xw (eval Φ eb)) (LE X xw (eval Φ ec)) σ H Q := by
    intro σ H Q ⟨ρ, S, η, re, R, h⟩
    refine ⟨ρ, S, η, re, R, (Fin.bind h).imp fun x S1 ρ1 H1 L1 R1 q v rv => ⟨ρ1, S1, η, re.mono L1, R1, (Fin.bind q).imp fun y S2 ρ2 H2 L2 R2 q2 w rw => ?_⟩⟩
    refine ⟨ρ2, S2, x, y, rv.mono L2, rw, R2, xw, (Fin.bind q2).imp fun z S3 ρ3 H3 L3 R3 q3 v3 rv3 => ?_⟩
    unfold chainW at q3
    split at q3
    · cases rv3
      exact ⟨true, rfl, ⟨ρ3, S3, η, ((re.mono L1).mono L2).mono L3, R3, (Fin.bind q3).imp fun t S4 ρ4 H4 L4 R4 q4 w4 rw4 => ⟨ρ4, S4, y, t, (rw.mono L3).mono L4, rw4, R4, xw, q4⟩⟩⟩
    · cases rv3
      exact ⟨false, rfl, q3.ok_imp R3 _ (.bl _)⟩
    · exact q3.no.elim
  refine ⟨PE.wk (pe_chain (op_cmp hu o) (op_cmp hu p) ha.pe hb.pe hc.pe hm) core, PT.wk (pt_chain (op_cmp hu o) (op_cmp hu p) ha.pe hb.pe hc.pe hm) fun σ H Q h => ?_⟩
  obtain ⟨ρ, S, η, re, R, h⟩ := h
  refine core _ _ _ ⟨ρ, S, η, re, R, truth_bl (BlR.bind fun _ _ => BlR.bind fun _ _ => BlR.bind fun _ _ => ?_) h⟩
  unfold chainW
  split
  · exact .bind fun _ _ => cmpW_bl
  · exact .ok
  · exact .bad
theorem s_ite {c a b : Expr} {pos : Pos} {Φ : Fns} {ec ea eb : E} (hc : Snd X xw c (eval Φ ec)) (ha : Snd X xw a (eval Φ ea)) (hb : Snd X xw b (eval Φ eb)) : Snd X xw (.IfExp c a b pos) (eval Φ (.ite ec ea eb)) := by
  have e : eval Φ (.ite ec ea eb) = fun η S => (truthR (eval Φ ec η S)).bind fun t S1 => match t with
    | true => eval Φ ea η S1
    | false => eval Φ eb η S1 := by funext η S; rw [eval] <;> rfl
  rw [e]
  refine ⟨PE.wk (pe_ifExp hc.pt ha.pe hb.pe) fun σ H Q ⟨ρ, S, η, re, R, h⟩ => ?_, ⟨fun pins s σ H Q I h => ?_⟩⟩
  · refine ⟨ρ, S, η, re, R, (Fin.bind h).imp fun t S1 ρ1 H1 L1 R1 q => ?_⟩
    cases t with
    | true => exact ⟨ρ1, S1, η, re.mono L1, R1, q⟩
    | false => exact ⟨ρ1, S1, η, re.mono L1, R1, q⟩
  · obtain ⟨ρ, S, η, re, R, h⟩ := h
    have h : Fin X xw ρ H (truthR ((truthR (eval Φ ec η S)).bind fun t S1 => match t with
      | true => eval Φ ea η S1
      | false => eval Φ eb η S1)) fun u _ _ H' => Q u H' := h
    have h1 : LT X xw (fun η S => truthR (eval Φ ec η S)) σ H fun c H1 => if c = true then LT X xw (fun η S => truthR (eval Φ ea η S)) σ H1 Q else LT X xw (fun η S => truthR (eval Φ eb η S)) σ H1 Q := by
      refine ⟨ρ, S, η, re, R, ?_⟩
      show Fin X xw ρ H (truthR (eval Φ ec η S)) _
      cases q : truthR (eval Φ ec η S) with
      | ok t S1 =>
        rw [q] at h
        intro ρ1 H1 L1 R1
        cases t with
        | true => exact ⟨ρ1, S1, η, re.mono L1, R1, Fin.mono h L1⟩
        | false => exact ⟨ρ1, S1, η, re.mono L1, R1, Fin.mono h L1⟩
      | exc c fs S1 => rw [q] at h; exact h
      | bad => rw [q] at h; exact h
    refine isTrue_IfExp (thn (hc.pt.run pins s σ H _ I h1) fun c s1 ⟨H1, I1, q1⟩ => ?_)
    cases c with
    | true => exact ha.pt.run pins s1 σ H1 Q I1 (by simpa using q1)
    | false => exact hb.pt.run pins s1 σ H1 Q I1 (by simpa using q1)
/-! ### subscripts -/
def notSlice : Expr → Bool
  | .Slice .. => false
  | _ => true
theorem plainIx_of {b : Expr} (h : notSlice b = true) : PlainIx b := by
  cases b <;> first
    | exact fun _ _ => rfl
    | cases h
theorem s_ix {a b : Expr} {pos : Pos} {Φ : Fns} {ea eb : E} (hu : X.A.units + 64 < cLine) (hs : notSlice b = true) (ha : Snd X xw a (eval Φ ea)) (hb : Snd X xw b (eval Φ eb)) : Snd X xw (.Subscript a b pos) (eval Φ (.ix ea eb)) := by
  have e : eval Φ (.ix ea eb) = fun η S => (eval Φ ea η S).bind fun x S1 => (eval Φ eb η S1).bind (ixW x) := by funext η S; rw [eval]
  rw [e]
  exact snd_plain (PE.wk (pe_ix (ix_W hu) ha.pe hb.pe (plainIx_of hs)) fun σ H Q h => le_op h) fun _ => rfl
/-- a slice's part -/
def optE : E → Option Expr → Option Expr
  | .noE, _ => none
  | _, x => x
theorem po_E {Φ : Fns} {lo : Option Expr} {el : E} (h : (el = .noE ∧ lo = none) ∨ (el.isNo = false ∧ ∃ e, lo = some e ∧ Snd X xw e (eval Φ el))) :
    PO X lo (fun σ H Q => ∃ ρ S η, REnv X.J ρ H η σ ∧ Rel X.prog X.w X.J ρ S H ∧ Fin X xw ρ H (partOf el S (eval Φ el η S)) fun o _ _ H' => Q o H') := by
  rcases h with ⟨rfl, rfl⟩ | ⟨hn, e, rfl, h⟩
  · refine ⟨fun pins s σ H Q I ⟨ρ, S, η, re, R, q⟩ => po_none.run pins s σ H Q I ?_⟩
    exact q.ok_imp R
  · refine ⟨fun pins s σ H Q I ⟨ρ, S, η, re, R, q⟩ => (po_some h.pe).run pins s σ H Q I ⟨ρ, S, η, re, R, ?_⟩⟩
    unfold partOf at q
    rw [hn] at q
    refine (Fin.bind q).imp fun u S1 ρ1 H1 L1 R1 q1 v rv => ?_
    split at q1
    · cases rv
      exact ⟨_, rfl, q1.ok_imp R1⟩
    · exact q1.no.elim
theorem s_sl {e : Expr} {lo hi : Option Expr} {p2 pos : Pos} {Φ : Fns} {ea el eh : E} (ha : Snd X xw e (eval Φ ea)) (hl : (el = .noE ∧ lo = none) ∨ (el.isNo = false ∧ ∃ e, lo = some e ∧ Snd X xw e (eval Φ el))) (hh : (eh = .noE ∧ hi = none) ∨ (eh.isNo = false ∧ ∃ e, hi = some e ∧ Snd X xw e (eval Φ eh))) :
    Snd X xw (.Subscript e (.Slice lo hi none p2) pos) (eval Φ (.sl ea el eh)) := by
  refine snd_plain (PE.wk (pe_slice sl_W ha.pe (po_E hl) (po_E hh)) fun σ H Q ⟨ρ, S, η, re, R, h⟩ => ?_) fun _ => rfl
  rw [eval] at h
  refine ⟨ρ, S, η, re, R, (Fin.bind h).imp fun x S1 ρ1 H1 L1 R1 q v rv => ⟨ρ1, S1, η, re.mono L1, R1, (Fin.bind q).imp fun l S2 ρ2 H2 L2 R2 q2 => ⟨ρ2, S2, η, (re.mono L1).mono L2, R2, (Fin.bind q2).imp fun h' S3 ρ3 H3 L3 R3 q3 => ?_⟩⟩⟩
  exact ⟨ρ3, S3, x, (rv.mono L2).mono L3, R3, xw, q3⟩
end
end PI

set_option Elab.async false
set_option linter.all false
set_option maxRecDepth 100000
set_option maxHeartbeats 4000000
/-! x[::-1] -/
namespace PI
open PySem PySem.Spec PyProof.Rows L2
section
variable {prog : Program} {w : World} {A : Around} {E : Value → Shared → Prop} {s : Shared}
theorem sliceApplied_rev {sl : Addr} {vl vu vs : Value} {n : Nat} {Q : Int × Int × Nat → Shared → Prop} (hs : s.heap.IsSliceOf sl vl vu vs) (pl : IsPart vl none) (pu : IsPart vu none) (ps : IsPart vs (some (-1)))
    (h : Q ((n : Int) - 1, -1, n) s) : wpAny (model prog w) A (Builtin.Slice.sliceApplied (.ref sl) (pure (n : Int))) Q E s := by
  obtain ⟨os, hos, hcs, hds⟩ := id hs
  unfold Builtin.Slice.sliceApplied Builtin.Slice.sliceFields
  refine wpAny_bind (wpAny_bind (wpAny_field hos hds (x := vl) rfl (wpAny_bind (wpAny_field hos hds (x := vu) rfl (wpAny_bind (wpAny_field hos hds (x := vs) rfl (wpAny_pure ?_)))))))
  refine wpAny_bind (HT.slicePart_ ps ?_)
  show wpAny _ _ (if ((-1 : Int) == 0) = true then _ else _) _ _ s
  rw [if_neg (by decide)]
  refine wpAny_bind (HT.slicePart_ pl (wpAny_bind (HT.slicePart_ pu (wpAny_bind (wpAny_pure ?_)))))
  show wpAny _ _ (pure ((n : Int) - 1, (-1 : Int), Builtin.Slice.slicePlaces ((n : Int) - 1) (-1) (-1))) _ _ s
  have e : Builtin.Slice.slicePlaces ((n : Int) - 1) (-1) (-1) = n := by
    unfold Builtin.Slice.slicePlaces
    have h1 : ¬ ((-1 : Int) > 0) := by decide
    simp only [h1, if_false]
    split
    · rw [show (-(-1) : Int) = 1 by decide, Int.ediv_one]; omega
    · omega
  rw [e]
  exact wpAny_pure h
theorem pick_rev (xs : Array Value) : ((List.range xs.size).filterMap fun (m : Nat) => xs[(((xs.size : Int) - 1) + (m : Int) * -1).toNat]?).toArray = xs.toList.reverse.toArray := by
  have e : (List.range xs.size).filterMap (fun (m : Nat) => xs[(((xs.size : Int) - 1) + (m : Int) * -1).toNat]?) = ((List.range xs.size).map fun k => xs.size - 1 - k).filterMap (xs[·]?) := by
    rw [List.filterMap_map]
    have cg : ∀ l : List Nat, (∀ m ∈ l, m < xs.size) → l.filterMap (fun (m : Nat) => xs[(((xs.size : Int) - 1) + (m : Int) * -1).toNat]?) = l.filterMap ((xs[·]?) ∘ fun k => xs.size - 1 - k) := by
      intro l
      induction l with
      | nil => intro _; rfl
      | cons m l ih =>
        intro hl
        have := hl m List.mem_cons_self
        have q : (((xs.size : Int) - 1) + (m : Int) * -1).toNat = xs.size - 1 - m := by omega
        rw [List.filterMap_cons, List.filterMap_cons, q, ih fun k hk => hl k (List.mem_cons_of_mem _ hk)]
        rfl
    exact cg _ fun m hm => List.mem_range.mp hm
  rw [e, PySem.W.krv_range, List.filterMap_reverse, PySem.W.krv_all]
theorem getItem_tuple_rev {t sl : Addr} {items : Array Value} {vl vu vs : Value} {Q : Value → Shared → Prop} (ht : IsTup s.heap t items) (hs : s.heap.IsSliceOf sl vl vu vs) (pl : IsPart vl none) (pu : IsPart vu none) (ps : IsPart vs (some (-1)))
    (h : Q (.ref s.heap.objs.size) { s with heap := s.heap.push { cls := .type "tuple", data := .seq items.toList.reverse.toArray } })
    (hsz : items.size ≤ sizeLine) : wpAny (model prog w) A (getItem (.ref t) (.ref sl)) Q E s := by
  have htake : sizeOk (.seq items.toList.reverse.toArray) := by
    show items.toList.reverse.toArray.size ≤ sizeLine
    rw [List.size_toArray, List.length_reverse, Array.length_toList]
    exact hsz
  obtain ⟨os, hos, hcs, hds⟩ := id hs
  have hTs : s.TypeIs (.ref sl) "slice" := ⟨os, hos, hcs⟩
  unfold getItem
  try with_reducible refine wpAny_holding ?_
  first | refine wpAny_bind (wpAny_pure ?_) | skip
  refine wpAny_bind (wpAny_sequenceKey ht.typeIs (by decide) ?_)
  refine wpAny_bind (wpAny_callSpecial?_slot (name := Str.ofString "__getitem__") ht.typeIs PyProof.Rows.slot_tuple_getitem
    (wpAny_call_entry PyProof.Rows.slot_tuple_getitem ht.typeIs entry_tuple_getitem ?_ (args_tuple_getitem _ _)))
  show wpAny _ _ (Builtin.Tuple.tupleItemsOf (.ref t) >>= _) _ _ s
  refine wpAny_bind (tupleItemsOf_ ht ?_)
  refine wpAny_bind (wpAny_typeOf hTs ?_)
  rw [if_pos (by decide)]
  refine wpAny_bind (sliceApplied_rev hs pl pu ps ?_)
  have hno : ¬ ((((items.size : Int) - 1) == 0 && (-1 : Int) == 1 && items.size == items.size) = true) := by
    intro q
    rw [Bool.and_eq_true, Bool.and_eq_true] at q
    exact absurd q.1.2 (by decide)
  show wpAny _ _ (if (((items.size : Int) - 1) == 0 && (-1 : Int) == 1 && items.size == items.size) = true then _ else _) _ _ s
  rw [if_neg hno, pick_rev]
  first
    | exact wpAny_bind (m := Builtin.Tuple.tupleExact _) (wpAny_newObj_type (wpAny_pure ⟨_, rfl, wpAny_pure h⟩) htake)
    | exact wpAny_bind (m := Builtin.Tuple.tupleExact _) (wpAny_newObj_type (wpAny_bind (wpAny_pure (wpAny_pure ⟨_, rfl, wpAny_pure h⟩))) htake)
    | exact wpAny_bind (wpAny_bind (m := Builtin.Tuple.tupleExact _) (wpAny_newObj_type (wpAny_pure (wpAny_pure ⟨_, rfl, wpAny_pure h⟩)) htake))
    | exact wpAny_bind (wpAny_bind (m := Builtin.Tuple.tupleExact _) (wpAny_newObj_type (wpAny_pure ⟨_, rfl, wpAny_pure h⟩) htake))
end
section
variable {X : Cx} {xw : XW} {ρ : List Addr} {H : Hp} {S : Sto} {σ : L2.St} {Q : VK}
theorem s_rev {e : Expr} {k : Nat} {p1 p2 p3 pos : Pos} {Φ : Fns} {ea : E} (ha : Snd X xw e (eval Φ ea)) : Snd X xw (.Subscript e (.Slice none none (some (.UnaryOp .USub (.Constant (.int 1) k p1) p2)) p3) pos) (eval Φ (.rev ea)) := by
  refine snd_plain ⟨fun pins s σ H Q I hw => ?_⟩ fun _ => rfl
  obtain ⟨ρ, S, η, re, R, h⟩ := hw
  rw [eval] at h
  have h1 : LE X xw (eval Φ ea) σ H fun x H' => ∃ ρ S u, RW X.J ρ H' u x ∧ Rel X.prog X.w X.J ρ S H' ∧ Ans X ρ H' (revW u S) Q := ⟨ρ, S, η, re, R, (Fin.bind h).imp fun u S1 ρ1 H1 L1 R1 q v rv => ⟨ρ1, S1, u, rv, R1, xw, q⟩⟩
  refine Subscript_ (thn (ha.pe.run pins s σ H _ I h1) fun v s1 ⟨x, H1, I1, r1, ρ1, S1, u, ru, R1, q⟩ => ?_)
  have hst : PO X (some (.UnaryOp .USub (.Constant (.int 1) k p1) p2)) (tPart (tUn (rU fun i => .int (-i)) (tC (.int 1)))) := po_some (pe_un un_neg pe_int)
  refine wpAny_Slice (thn (po_none.run pins s1 σ H1 (fun o H2 => o = none ∧ H2 = H1) I1 ⟨rfl, rfl⟩) fun vl s2 ⟨l, H2, I2, pl, el, e2⟩ => ?_)
  subst el e2
  refine thn (po_none.run pins s2 σ H2 (fun o H3 => o = none ∧ H3 = H2) I2 ⟨rfl, rfl⟩) fun vu s3 ⟨u', H3, I3, pu, eu, e3⟩ => ?_
  subst eu e3
  refine thn (hst.run pins s3 σ H3 (fun o H4 => o = some (-1) ∧ H4 = H3) I3 ⟨1, rfl, -1, rfl, rfl, rfl⟩) fun vs s4 ⟨o, H4, I4, ps, eo, e4⟩ => ?_
  subst eo e4
  have I5 : Inv X pins σ H4 { s4 with heap := s4.heap.push { cls := .type "slice", data := .fields #[vl, vu, vs] } } := I4.kept (t' := s4.toks) fun b ob q => Heap.get?_push_of_some _ q
  show wpAny (model X.prog X.w) X.A (subscriptTail e (.Slice none none (some (.UnaryOp .USub (.Constant (.int 1) k p1) p2)) p3) v (.ref s4.heap.objs.size)) (EP X pins σ Q) X.xe { s4 with heap := s4.heap.push { cls := .type "slice", data := .fields #[vl, vu, vs] } }
  unfold revW at q
  split at q
  · obtain ⟨a, xs, rfl, t, rws⟩ := rw_tup ru
    obtain ⟨its, r, ht, hz⟩ := I5.tuple t
    have hlen := r.length
    cases r1
    refine tail_any (ops := [.ref a, .ref s4.heap.objs.size]) ht.typeIs (PyProof.Rows.slot_tuple_getitem.lookup) ?_ (by with_unfolding_all rfl)
    refine getItem_tuple_rev ht (Heap.IsSliceOf.new _ vl vu vs) pl pu ps ?_ (by rw [List.size_toArray]; omega)
    have hn := I5.hok.fresh (Nat.le_refl _)
    refine ⟨.ref _, _, I5.laid (t' := s4.toks) (o := .tup xs.reverse) (fun b ob q => Heap.get?_push_of_some _ q) (Nat.le_refl _) ?_, rfl, q.tup R1 rws.reverse hn⟩
    exact ⟨by rw [List.length_reverse]; exact hz, _, r.reverse, IsTup.new _ _⟩
  · split at q
    · rename_i n ws e0
      obtain ⟨a, rfl, hn'⟩ := rw_ref ru
      obtain ⟨xs, hx, rws⟩ := R1.lstOf hn' e0
      obtain ⟨its, r, ht, hz⟩ := I5.list hx
      have hlen := r.length
      cases r1
      refine tail_any (ops := [.ref a, .ref s4.heap.objs.size]) ht.isList.typeIs (PySem.slot_list_getitem.lookup) ?_ (by with_unfolding_all rfl)
      refine wpAny_getItem_list_slice ht.isList (Heap.IsSliceOf.new _ vl vu vs) pl pu ps (by decide) ?_ (by rw [List.size_toArray]; omega)
      rw [PySem.W.krv_pick]
      have hn := I5.hok.fresh (Nat.le_refl _)
      refine ⟨.ref _, _, I5.laid (t' := s4.toks) (o := .lst xs.reverse) (fun b ob q => Heap.get?_push_of_some _ q) (Nat.le_refl _) ?_, rfl, q.lst R1 rws.reverse hn⟩
      exact ⟨by rw [List.length_reverse]; exact hz, _, 0, r.reverse, Heap.get?_push_size _ rfl⟩
    · exact q.no.elim
  · exact q.no.elim
end
end PI

set_option Elab.async false
set_option linter.all false
set_option maxRecDepth 100000
set_option maxHeartbeats 4000000
/-! calls of built-in functions, methods, f-strings, dict displays -/
namespace PI
open PySem PySem.Spec PyProof.Rows L2
section
variable {X : Cx} {xw : XW} {ρ : List Addr} {H : Hp} {S : Sto} {σ : L2.St} {Q : VK}
def notStar : Expr → Bool
  | .Starred .. => false
  | _ => true
theorem star_cons {e : Expr} {es : List Expr} {env : PySem.Env} (h : notStar e = true) : starEach (e :: es) env = (false, PySem.eval e env) :: starEach es env := by
  cases e <;> first
    | rfl
    | cases h
theorem star_plain {env : PySem.Env} {pos : Pos} : ∀ {es : List Expr}, es.all notStar = true → (backTo pos (starEach es env)).any (·.1) = false
  | [], _ => rfl
  | e :: es, h => by
    rw [List.all_cons, Bool.and_eq_true] at h
    rw [star_cons h.1]
    show (false || (backTo pos (starEach es env)).any (·.1)) = false
    rw [star_plain h.2]
    rfl
theorem star_few {env : PySem.Env} {pos : Pos} : ∀ {es : List Expr}, es.all notStar = true → (backTo pos (starEach es env)).all (fun x => !x.1) = true
  | [], _ => rfl
  | e :: es, h => by
    rw [List.all_cons, Bool.and_eq_true] at h
    rw [star_cons h.1]
    show (true && (backTo pos (starEach es env)).all (fun x => !x.1)) = true
    rw [star_few h.2]
    rfl
/-! ### built-in functions -/
def bifId : Bif → String
  | .len => "len" | .all => "all" | .any => "any" | .sum => "sum" | .sorted => "sorted" | .repr => "repr" | .str => "str" | .int => "int" | .list => "list" | .tuple => "tuple" | .dict => "dict" | .abs => "abs" | .min => "min" | .max => "max"
def bifTy : Bif → Bool
  | .str => true | .int => true | .list => true | .tuple => true | .dict => true
  | _ => false
def bifNm (f : Bif) : Str := Str.ofString (bifId f)
def bifV (f : Bif) : Value := if bifTy f then .type (bifId f) else .builtin (bifId f)
theorem bif_boot : ∀ f : Bif, bootBuiltins (bifNm f) = some (bifV f) := by
  intro f
  cases f <;> decide +kernel
theorem bif_nm : ∀ f : Bif, bifNm f ≠ "__name__" ∧ (bifNm f == ("__debug__" : Str)) = false := by
  intro f
  cases f <;> decide +kernel
theorem bif_call (hu : X.A.units + 64 < cLine) (hc : X.calm = true) (hg : X.A.guards = some []) : ∀ f : Bif, CallR X (bifV f) (LCall X (bifW f))
  | .len => c_len | .all => c_all hc | .any => c_any hc | .sum => c_sum hc | .sorted => c_sorted hu | .repr => c_repr hu hg | .str => c_str | .int => c_int
  | .list => c_list | .tuple => c_tuple | .dict => c_dict hc | .abs => c_abs | .min => c_min hc | .max => c_max hc
theorem la_bind {m : Env → Sto → Res (List W)} {g : List W → Sto → Res W} (h : LE X xw (fun η S => (m η S).bind g) σ H Q) : tCB (LCall X g) (LA X xw m) σ H Q := by
  obtain ⟨ρ, S, η, re, R, h⟩ := h
  exact ⟨ρ, S, η, re, R, (Fin.bind h).imp fun us S1 ρ1 H1 L1 R1 q vs rvs => ⟨ρ1, S1, us, rvs, R1, xw, q⟩⟩
theorem s_bif {e : Expr} {es : List Expr} {p pos : Pos} {Φ : Fns} {f : Bif} {r : E} (hu : X.A.units + 64 < cLine) (hc : X.calm = true) (hgd : X.A.guards = some []) (hg : Gl X (bifNm f)) (hm : X.mg (bifNm f) = none) (hs : (e :: es).all notStar = true) (h : PA X (e :: es) (LA X xw (evals Φ r))) :
    Snd X xw (.Call (.Name (bifNm f) p) (e :: es) [] pos) (eval Φ (.bif f r)) := by
  have ev : eval Φ (.bif f r) = fun η S => (evals Φ r η S).bind (bifW f) := by funext η S; rw [eval]
  rw [ev]
  rw [List.all_cons, Bool.and_eq_true] at hs
  refine snd_plain (PE.wk (t := tCB (LCall X (bifW f)) (LA X xw (evals Φ r))) ?_ fun σ H Q q => la_bind q) fun _ => rfl
  have hb := bif_boot f
  have hcall := bif_call hu hc hgd f
  unfold bifV at hb hcall
  by_cases ht : bifTy f = true
  · rw [if_pos ht] at hb hcall
    exact pe_callTy hcall hg hm hb h (bif_nm f).1 (bif_nm f).2 (star_cons hs.1) (star_plain hs.2)
  · rw [if_neg ht] at hb hcall
    exact pe_callB hcall hg hm hb h (bif_nm f).1 (bif_nm f).2 (star_cons hs.1) (star_plain hs.2)
/-! ### isinstance -/
theorem c_isi1 : CallR X (.builtin "isinstance") (fun xs H Q => ∃ ρ S u x t n, xs = [x, .ty n] ∧ RW X.J ρ H u x ∧ Rel X.prog X.w X.J ρ S H ∧ tyW S u = some t ∧ n ∈ tyNames ∧ Q (.bl (isOne t n)) H) := by
  intro pins s σ H xs us Q I r h
  obtain ⟨ρ, S, u, x, t, n, rfl, ru, R, e, hn, q⟩ := h
  obtain ⟨u1, u2, rfl, r1, r2⟩ := vals2 r
  cases (show u2 = Value.type n from r2)
  obtain ⟨P, Z, p, hx⟩ := ty_kit R I ru r1 e
  exact PySem.W.kia_one Z I.kIn p (kit_one (tyW_all e) hn) hx fun tk => ⟨.bl _, H, I.tok tk, rfl, q⟩
theorem cls_tys : ∀ ns : List String, Paired ClsV (ns.map V.ty) (ns.map Value.type)
  | [] => .nil
  | n :: ns => .cons (.ty n) (cls_tys ns)
theorem c_isiT : CallR X (.builtin "isinstance") (fun xs H Q => ∃ (ρ : List Addr) (S : Sto) (u : W) (x : V) (t : String) (ns : List String) (tp : Addr), xs = [x, .ref tp] ∧ H tp = some (.tup (ns.map V.ty)) ∧ RW X.J ρ H u x ∧ Rel X.prog X.w X.J ρ S H ∧ tyW S u = some t ∧ (∀ n ∈ ns, n ∈ tyNames) ∧ Q (.bl (ns.any (isOne t))) H) := by
  intro pins s σ H xs us Q I r h
  obtain ⟨ρ, S, u, x, t, ns, tp, rfl, hT, ru, R, e, hn, q⟩ := h
  obtain ⟨u1, u2, rfl, r1, r2⟩ := vals2 r
  cases (show u2 = Value.ref tp from r2)
  obtain ⟨P, Z, p, hx⟩ := ty_kit R I ru r1 e
  obtain ⟨_, its, rv, o, h1, h2, n, h3⟩ := (show ObjOk X.prog X.w H s.heap tp (.tup (ns.map V.ty)) from I.hok tp _ hT)
  have e3 : its = ns.map Value.type := ClsV.all (cls_tys ns) rv
  subst e3
  obtain ⟨oc, od, dt, sl⟩ := o
  simp only at h2 h3
  subst h2 h3
  exact PySem.W.kia_tup Z I.kIn p h1 (kit_any (tyW_all e) ns hn) hx fun tk => ⟨.bl _, H, I.tok tk, rfl, q⟩
/-- a class's name -/
theorem pe_ty {n : String} {p : Pos} (hn : n ∈ tyNames) (hg : Gl X (Str.ofString n)) (hm : X.mg (Str.ofString n) = none) : PE X (.Name (Str.ofString n) p) (tC (.ty n)) := by
  have key : bootBuiltins (Str.ofString n) = some (.type n) ∧ Str.ofString n ≠ "__name__" ∧ (Str.ofString n == ("__debug__" : Str)) = false := by
    have all : tyNames.all (fun n => decide (bootBuiltins (Str.ofString n) = some (.type n) ∧ Str.ofString n ≠ "__name__" ∧ (Str.ofString n == ("__debug__" : Str)) = false)) = true := by decide +kernel
    exact of_decide_eq_true (List.all_eq_true.mp all n hn)
  exact pe_bltn hg hm key.1 rfl key.2.1 key.2.2
theorem boot_isi : bootBuiltins "isinstance" = some (.builtin "isinstance") := by decide +kernel
theorem isi_inv {Φ : Fns} {a : E} {us : List String} {η : Env} {P : W → Sto → List Addr → Hp → Prop} (h : Fin X xw ρ H (eval Φ (.isi a us) η S) P) : Fin X xw ρ H (eval Φ a η S) fun u S1 ρ1 H1 => ∃ t, tyW S1 u = some t ∧ Fin X xw ρ1 H1 (.ok (.bl (us.any (isOne t))) S1) P := by
  rw [eval] at h
  refine (Fin.bind h).imp fun u S1 ρ1 H1 L1 R1 q => ?_
  unfold isiW at q
  cases e : tyW S1 u with
  | none => rw [e] at q; exact q.no.elim
  | some t => rw [e] at q; exact ⟨t, rfl, q⟩
theorem s_isi1 {a : Expr} {n : String} {p p2 pos : Pos} {Φ : Fns} {ea : E} (hg : Gl X "isinstance") (hm : X.mg "isinstance" = none) (hn : n ∈ tyNames) (hgn : Gl X (Str.ofString n)) (hmn : X.mg (Str.ofString n) = none) (hs : notStar a = true) (ha : Snd X xw a (eval Φ ea)) :
    Snd X xw (.Call (.Name "isinstance" p) [a, .Name (Str.ofString n) p2] [] pos) (eval Φ (.isi ea [n])) := by
  refine snd_plain (PE.wk (pe_callB c_isi1 hg hm boot_isi (pa_cons ha.pe (pa_cons (pe_ty hn hgn hmn) pa_nil) (star_cons hs)) (he := star_cons hs)) fun σ H Q ⟨ρ, S, η, re, R, h⟩ => ?_) fun _ => rfl
  refine ⟨ρ, S, η, re, R, (isi_inv h).imp fun u S1 ρ1 H1 L1 R1 ⟨t, e, q⟩ v rv => ?_⟩
  refine ⟨ρ1, S1, u, v, t, n, rfl, rv, R1, e, hn, ?_⟩
  have := q.ok_imp R1 _ (.bl _)
  simpa using this
theorem pa_tys {p : Pos} : ∀ {ns : List String} {es : List Expr}, Paired (fun n e => n ∈ tyNames ∧ Gl X (Str.ofString n) ∧ X.mg (Str.ofString n) = none ∧ ∃ p, e = Expr.Name (Str.ofString n) p) ns es → PA X es (fun σ H Q => Q (ns.map V.ty) H)
  | _, _, .nil => pa_nil
  | _, _, .cons ⟨h1, h2, h3, p, h4⟩ r => by
    subst h4
    exact PA.wk (pa_cons (pe_ty h1 h2 h3) (pa_tys (p := p) r)) fun σ H Q q => q
theorem s_isiT {a : Expr} {ns : List String} {es : List Expr} {k : Nat} {p p2 pos : Pos} {Φ : Fns} {ea : E} (hg : Gl X "isinstance") (hm : X.mg "isinstance" = none)
    (hl : ns.length ≤ 10) (hn : Paired (fun n e => n ∈ tyNames ∧ Gl X (Str.ofString n) ∧ X.mg (Str.ofString n) = none ∧ ∃ p, e = Expr.Name (Str.ofString n) p) ns es) (hs : notStar a = true) (ha : Snd X xw a (eval Φ ea)) :
    Snd X xw (.Call (.Name "isinstance" p) [a, .Tuple es k p2] [] pos) (eval Φ (.isi ea ns)) := by
  refine snd_plain (PE.wk (pe_callB c_isiT hg hm boot_isi (pa_cons ha.pe (pa_cons (pe_tup (pa_tys (p := p) hn)) pa_nil) (star_cons hs)) (he := star_cons hs)) fun σ H Q ⟨ρ, S, η, re, R, h⟩ => ?_) fun _ => rfl
  have mem : ∀ {ns : List String} {es : List Expr}, Paired (fun n e => n ∈ tyNames ∧ Gl X (Str.ofString n) ∧ X.mg (Str.ofString n) = none ∧ ∃ p, e = Expr.Name (Str.ofString n) p) ns es → ∀ n ∈ ns, n ∈ tyNames := by
    intro ns es r
    induction r with
    | nil => intro n hn; cases hn
    | cons h r ih =>
      intro n hn
      rcases List.mem_cons.mp hn with rfl | hn
      · exact h.1
      · exact ih n hn
  refine ⟨ρ, S, η, re, R, (isi_inv h).imp fun u S1 ρ1 H1 L1 R1 ⟨t, e, q⟩ v rv => ?_⟩
  refine ⟨by rw [List.length_map, sizeLine_eq]; omega, fun p hp => ?_⟩
  refine ⟨ρ1, S1, u, v, t, ns, p, rfl, upd_same, rv.mono (.new hp), R1.new hp, e, mem hn, ?_⟩
  exact q _ _ (.new hp) (R1.new hp) _ (.bl _)
/-! ### methods -/
def notSuper : Expr → Bool
  | .Call (.Name id _) [] [] _ => id != "super"
  | _ => true
theorem attr_base {e : Expr} {m : Str} {env : PySem.Env} (h : notSuper e = true) : attributeBase e m env (PySem.eval e env) = PySem.eval e env := by
  unfold attributeBase
  split
  · rename_i id p pos
    have h : (id != "super") = true := h
    simp [h]
  · rfl
theorem s_mth {o : Expr} {es : List Expr} {apos pos : Pos} {Φ : Fns} {m : Mth} {eo r : E} (hu : X.A.units + 64 < cLine) (hb : notSuper o = true) (hline : (apos.endLine == pos.line) = true) (hs : es.all notStar = true) (hl : es.length < 29) (hr : r.isNil = es.isEmpty) (ho : Snd X xw o (eval Φ eo)) (ha : PA X es (LA X xw (evals Φ r))) :
    Snd X xw (.Call (.Attribute o (mthName m) apos) es [] pos) (eval Φ (.mth m eo r)) := by
  refine snd_plain ⟨fun pins s σ H Q I hw => ?_⟩ fun _ => rfl
  obtain ⟨ρ, S, η, re, R, h⟩ := hw
  rw [eval] at h
  have h1 : LE X xw (eval Φ eo) σ H fun x H' => ∃ ρ S u t, REnv X.J ρ H' η σ ∧ RW X.J ρ H' u x ∧ Rel X.prog X.w X.J ρ S H' ∧ tyW S u = some t ∧ mthOk m (some t) = true ∧ Fin X xw ρ H' ((evals Φ r η S).bind (mthGo m u (some t))) fun u _ ρ' H' => ∀ v, RW X.J ρ' H' u v → Q v H' := by
    refine ⟨ρ, S, η, re, R, (Fin.bind h).imp fun u S1 ρ1 H1 L1 R1 q v rv => ?_⟩
    cases e : tyW S1 u with
    | none =>
      rw [e] at q
      rw [if_neg (by cases m <;> decide)] at q
      exact q.no.elim
    | some t =>
      rw [e] at q
      by_cases hm : mthOk m (some t) = true
      · rw [if_pos hm] at q
        exact ⟨ρ1, S1, u, t, re.mono L1, rv, R1, e, hm, q⟩
      · rw [if_neg hm] at q
        exact q.no.elim
  have hfew : ((backTo pos (starEach es X.env)).all (fun x => !x.1) && (backToKw pos (keywordEach [] X.env)).all (fun x => x.1.isSome)
      && decide (es.length + ([] : List Keyword).length + (if ([] : List Keyword).isEmpty then 0 else 1) < 30)) = true := by
    rw [star_few hs]
    show (true && true && decide (es.length + 0 + 0 < 30)) = true
    simp
    omega
  refine wpAny_Call_method_late (attr_base hb) hfew hline rfl (thn (ho.pe.run pins s σ H _ I h1) fun v s1 ⟨x, H1, I1, r1, ρ1, S1, u, t, re1, ru, R1, et, hm, q⟩ => ?_)
  obtain ⟨id, w1, w2, w3, w4, w5⟩ := mth_way hu m u t hm
  obtain ⟨t1, t2⟩ := recv_is R1 I1 ru r1 w4 et
  refine ⟨t, id, w1, w2, w3, t1, t2, ?_⟩
  have h2 : LA X xw (evals Φ r) σ H1 fun vs H' => ∃ ρ S ws, RW X.J ρ H' u x ∧ RWs X.J ρ H' ws vs ∧ Rel X.prog X.w X.J ρ S H' ∧ Ans X ρ H' (mthGo m u (some t) ws S) Q := ⟨ρ1, S1, η, re1, R1, (Fin.bind q).imp fun ws S2 ρ2 H2 L2 R2 q2 vs rvs => ⟨ρ2, S2, ws, ru.mono L2, rvs, R2, xw, q2⟩⟩
  have hA := ha.run pos pins s1 σ H1 _ I1 h2
  have fin : ∀ us s2, AP X pins σ (fun vs H' => ∃ ρ S ws, RW X.J ρ H' u x ∧ RWs X.J ρ H' ws vs ∧ Rel X.prog X.w X.J ρ S H' ∧ Ans X ρ H' (mthGo m u (some t) ws S) Q) us s2 → wpAny (model X.prog X.w) X.A (call (.builtin id) (v :: us)) (EP X pins σ Q) X.xe s2 :=
    fun us s2 ⟨vs, H2, I2, r2, ρ2, S2, ws, ru2, rws, R2, q2⟩ => w5 pins s2 σ H2 ρ2 S2 x v ws vs us Q I2 R2 ru2 r1 rws r2 q2
  cases es with
  | nil =>
    obtain ⟨ρ2, S2, η2, re2, R2, q2⟩ := h2
    cases r with
    | nil =>
      rw [evals] at q2
      obtain ⟨ρ3, S3, ws, c1, c2, c3, c4⟩ := q2.ok_imp R2 [] .nil
      exact Calls.callWith_builtin rfl (PySem.evalArgs_none (fin [] s1 ⟨[], H1, I1, .nil, ρ3, S3, ws, c1, c2, c3, c4⟩))
    | _ => cases hr
  | cons e es =>
    rw [List.all_cons, Bool.and_eq_true] at hs
    rw [star_cons hs.1] at hA ⊢
    exact Calls.callWith_builtin (by show (false || (backTo pos (starEach es X.env)).any (·.1)) = false; rw [star_plain hs.2]; rfl) (Calls.evalArgs_plain (thn hA fin))
/-! ### f-strings -/
/-- a part of an f-string: t gives its text -/
def FmtOk (X : Cx) (xw : XW) (m : Env → Sto → Res W) (t : TE) : Prop := ∀ σ H (Q : VK) (ρ : List Addr) (S : Sto) (η : Env), REnv X.J ρ H η σ → Rel X.prog X.w X.J ρ S H →
  Fin X xw ρ H (m η S) (fun u _ _ H' => ∃ y, fmtW u = some y ∧ y.length ≤ sizeLine ∧ Q (.str y) H') → t σ H Q
inductive FParts (X : Cx) (xw : XW) (Φ : Fns) : E → List Expr → List TE → Prop
  | nil : FParts X xw Φ .nil [] []
  | cons {a r : E} {e : Expr} {es : List Expr} {t : TE} {ts : List TE} : PE X e t → FmtOk X xw (eval Φ a) t → FParts X xw Φ r es ts → FParts X xw Φ (.cons a r) (e :: es) (t :: ts)
theorem FParts.pj {Φ : Fns} {a : E} {es : List Expr} {ts : List TE} (h : FParts X xw Φ a es ts) : PJ X es ts := by
  induction h with
  | nil => exact .nil
  | cons h _ _ ih => exact .cons h ih
theorem FParts.go {Φ : Fns} {a : E} {es : List Expr} {ts : List TE} (h : FParts X xw Φ a es ts) : ∀ (acc : Str) (σ : L2.St) (H : Hp) (Q : Str → Hp → Prop) (ρ : List Addr) (S : Sto) (η : Env), REnv X.J ρ H η σ → Rel X.prog X.w X.J ρ S H →
    Fin X xw ρ H (evalF Φ a acc η S) (fun x _ _ H' => Q x H') → tJs ts acc σ H Q := by
  induction h with
  | nil =>
    intro acc σ H Q ρ S η re R q
    rw [evalF] at q
    exact q.ok_imp R
  | cons h1 h2 _ ih =>
    rename_i a r e es t ts h3
    intro acc σ H Q ρ S η re R q
    rw [evalF] at q
    refine h2 σ H _ ρ S η re R ((Fin.bind q).imp fun u S1 ρ1 H1 L1 R1 q1 => ?_)
    split at q1
    · rename_i y ey
      split at q1
      · rename_i hl
        have hle : y.length ≤ (acc ++ y).length := by
          rw [strLen_append]
          omega
        exact ⟨y, ey, Nat.le_trans hle hl, y, rfl, hl, ih (acc ++ y) σ H1 Q ρ1 S1 η (re.mono L1) R1 q1⟩
      · exact q1.no.elim
    · exact q1.no.elim
theorem fmt_con {Φ : Fns} {x : Str} {t : TE} (ht : t = tC (.str x)) : FmtOk X xw (eval Φ (.kS x)) t := by
  subst ht
  intro σ H Q ρ S η re R q
  rw [eval] at q
  obtain ⟨y, e, hl, q⟩ := q.ok_imp R
  cases e
  exact q
theorem fmt_val {Φ : Fns} {a : E} {e : Expr} (h : Snd X xw e (eval Φ a)) : FmtOk X xw (eval Φ a) (tFmt (LE X xw (eval Φ a))) := by
  intro σ H Q ρ S η re R q
  refine ⟨ρ, S, η, re, R, q.imp fun u S1 ρ1 H1 L1 R1 ⟨y, e, hl, q1⟩ v rv => ?_⟩
  unfold fmtW at e
  split at e
  · cases e
    cases rv
    exact .inl ⟨_, rfl, hl, q1⟩
  · split at e
    · rename_i hz
      cases e
      cases rv
      exact .inr ⟨_, rfl, hz, q1⟩
    · cases e
  · cases e
theorem s_fs {v1 v2 : Expr} {rest : List Expr} {ts : List TE} {pos : Pos} {Φ : Fns} {a : E} (h : FParts X xw Φ a (v1 :: v2 :: rest) ts) : Snd X xw (.JoinedStr (v1 :: v2 :: rest) pos) (eval Φ (.fs a)) := by
  refine snd_plain (PE.wk (pe_joined h.pj) fun σ H Q ⟨ρ, S, η, re, R, q⟩ => h.go Str.empty σ H _ ρ S η re R ?_) fun _ => rfl
  rw [eval] at q
  exact (Fin.bind q).imp fun x S1 ρ1 H1 L1 R1 q1 => q1.ok_imp R1 _ (.str _)
theorem s_fs1 {v1 : Expr} {ts : List TE} {pos : Pos} {Φ : Fns} {a : E} (h : FParts X xw Φ a [v1] ts) : Snd X xw (.JoinedStr [v1] pos) (eval Φ (.fs a)) := by
  cases h with
  | cons h1 h2 h3 =>
    cases h3
    refine snd_plain (PE.wk (pe_joined1 h1) fun σ H Q ⟨ρ, S, η, re, R, q⟩ => h2 σ H _ ρ S η re R ?_) fun _ => rfl
    rw [eval, evalF] at q
    refine (Fin.bind (Fin.bind q)).imp fun u S1 ρ1 H1 L1 R1 q1 => ?_
    split at q1
    · rename_i y ey
      split at q1
      · rename_i hl
        rw [evalF] at q1
        have e0 : Str.empty ++ y = y := by
          apply TL.ext_tl
          simp [TL.tl_append, Str.empty, TL.tl]
        rw [e0] at q1 hl
        exact ⟨y, ey, hl, (q1.ok_imp R1).ok_imp R1 _ (.str _)⟩
      · exact q1.no.elim
    · exact q1.no.elim
end
end PI

set_option Elab.async false
set_option linter.all false
set_option maxRecDepth 100000
set_option maxHeartbeats 4000000
/-! objects laid ahead, locks; dict displays -/
namespace PI
open PySem PySem.Spec PyProof.Rows L2
/-- what an exception's parts are, among others -/
def xo : HO → Prop
  | .ext _ => True
  | .xd _ => True
  | _ => False
/-- values stay what they are -/
structure Lw (K : KM) (ρ : List Addr) (H : Hp) (ρ1 : List Addr) (H1 : Hp) : Prop where
  at_ : ∀ {n : Nat} {a : Addr}, ρ[n]? = some a → ρ1[n]? = some a
  sqt : ∀ a xs, SqT K.K H a xs → SqT K.K H1 a xs
  sqf : ∀ a xs, SqF K.K H a xs → SqF K.K H1 a xs
  own : ∀ a o, a ∉ ρ → H a = some o → xo o → a ∉ ρ1 ∧ H1 a = some o
section
variable {P : Program} {w : World} {K : KM} {ρ ρ1 ρ2 : List Addr} {H H1 H2 : Hp} {S S1 : Sto}
mutual
theorem RW.mw (x : Lw K ρ H ρ1 H1) : ∀ {u : W} {v : V}, RW K ρ H u v → RW K ρ1 H1 u v
  | _, _, .non => .non
  | _, _, .bl b => .bl b
  | _, _, .int i => .int i
  | _, _, .str z => .str z
  | _, _, .tup h r => .tup (x.sqt _ _ h) (RWs.mw x r)
  | _, _, .ref h => .ref (x.at_ h)
  | _, _, .scr h r => .scr (x.sqf _ _ h) (RWs.mw x r)
  | _, _, .exc h1 h2 h3 h4 h5 r => .exc h1 (x.own _ _ h2 h3 trivial).1 (x.own _ _ h2 h3 trivial).2 (h4.imp (fun z => z) fun ⟨dx, z1, z2, z3⟩ => ⟨dx, z1, (x.own _ _ z2 z3 trivial).1, (x.own _ _ z2 z3 trivial).2⟩) h5 (RWs.mw x r)
theorem RWs.mw (x : Lw K ρ H ρ1 H1) : ∀ {u : List W} {v : List V}, RWs K ρ H u v → RWs K ρ1 H1 u v
  | _, _, .nil => .nil
  | _, _, .cons h r => .cons (RW.mw x h) (RWs.mw x r)
end
theorem RK.mw {kvs : List (W × W)} {qs : List (Key × V)} (x : Lw K ρ H ρ1 H1) (r : RK K ρ H kvs qs) : RK K ρ1 H1 kvs qs := Paired.mapP r fun _ _ z => ⟨z.1, z.2.mw x⟩
theorem RN.mw {kvs : List (W × W)} {xs : List (NestedKey × Addr × Value)} (x : Lw K ρ H ρ1 H1) (r : RN K ρ H kvs xs) : RN K ρ1 H1 kvs xs :=
  Paired.mapP r fun _ _ z => ⟨z.1, z.2.1.mw x, let ⟨y, h1, h2⟩ := z.2.2; ⟨y, h1, h2.mw x⟩⟩
theorem RO.mw {a : Addr} {o : O} (x : Lw K ρ H ρ1 H1) (ha : ∀ u, H a = some u → H1 a = some u) (r : RO P w K ρ H a o) : RO P w K ρ1 H1 a o := by
  cases r with
  | lst h r => exact .lst (ha _ h) (r.mw x)
  | dK h r => exact .dK (ha _ h) (RK.mw x r)
  | dN h z r hl => exact .dN (ha _ h) z (RN.mw x r) hl
  | fK h r => exact .fK (ha _ h) (RK.mw x r)
  | fN h z r hl => exact .fN (ha _ h) z (RN.mw x r) hl
theorem REnv.mw {η : Env} {σ : L2.St} (x : Lw K ρ H ρ1 H1) (r : REnv K ρ H η σ) : REnv K ρ1 H1 η σ :=
  ⟨r.len, fun i u h => let ⟨v, e, q⟩ := r.at_ i u h; ⟨v, e, q.mw x⟩⟩
/-- what may be changed without harm to tuples, locks -/
def Free (q : HO) : Prop := (∀ xs, q ≠ .tup xs) ∧ ∀ ob v, q ≠ .frz ob v
theorem free_lst {xs : List V} : Free (.lst xs) := ⟨(fun _ z => by cases z), fun _ _ z => by cases z⟩
theorem free_dK {xs : List (Key × V)} : Free (.dK xs) := ⟨(fun _ z => by cases z), fun _ _ z => by cases z⟩
theorem xo_lst {xs : List V} : ¬ xo (.lst xs) := fun z => z
theorem xo_dK {xs : List (Key × V)} : ¬ xo (.dK xs) := fun z => z
theorem lw_upd {p : Addr} {q u : HO} (e : H p = some q) (f : ∀ xs, q ≠ .tup xs) (f2 : ∀ ob xs, q ≠ .frz ob (.tup xs)) (f3 : ∀ ob xs, q ≠ .frz ob (.lst xs)) (f4 : ¬ xo q) : Lw K ρ H ρ (upd H p u) :=
  ⟨fun h => h, sqt_upd fun v e' => by rw [e] at e'; cases e'; exact ⟨f, f2⟩, fun a xs h => by
    rcases h with ⟨ob, h⟩ | h
    · refine .inl ⟨ob, ?_⟩
      have : a ≠ p := fun z => f3 ob xs (by rw [z, e] at h; exact Option.some.inj h)
      rw [upd_ne this]
      exact h
    · exact .inr h, fun a o ha h ho => ⟨ha, by
    have : a ≠ p := fun z => f4 (by rw [z, e] at h; rw [Option.some.inj h]; exact ho)
    rw [upd_ne this]
    exact h⟩⟩
theorem app_at {n : Nat} {a : Addr} {l : List Addr} (h : ρ[n]? = some a) : (ρ ++ l)[n]? = some a := by
  rw [List.getElem?_append_left (List.getElem?_eq_some_iff.mp h).1]
  exact h
/-- a place more -/
theorem lw_app {p : Addr} {u : HO} (x : Lw K ρ H ρ1 H1) (e : H1 p = some u) (f : ¬ xo u) : Lw K ρ H (ρ1 ++ [p]) H1 :=
  ⟨fun h => app_at (x.at_ h), x.sqt, x.sqf, fun a o ha h ho => ⟨fun hm => by
    have h1 := x.own a o ha h ho
    rcases List.mem_append.mp hm with hm | hm
    · exact h1.1 hm
    · have h2 := h1.2
      rw [List.mem_singleton.mp hm, e] at h2
      rw [← Option.some.inj h2] at ho
      exact f ho, (x.own a o ha h ho).2⟩⟩
theorem lw_refl : Lw K ρ H ρ H := ⟨fun h => h, fun _ _ h => h, fun _ _ h => h, fun _ _ h1 h2 _ => ⟨h1, h2⟩⟩
/-- an object that was laid ahead is changed -/
theorem Rel.other {p : Addr} {q u : HO} (R : Rel P w K ρ S H) (hp : p ∉ ρ) (e : H p = some q) (f : Free q) (fx : ¬ xo q) : Rel P w K ρ S (upd H p u) :=
  ⟨R.len, R.inj, fun n o a h1 h2 => (R.obj n o a h1 h2).mw (lw_upd e f.1 (fun ob xs => f.2 ob _) (fun ob xs => f.2 ob _) fx) fun v hv => by
    have hne : a ≠ p := fun z => hp (by rw [← z]; exact List.mem_of_getElem? h2)
    rw [upd_ne hne]
    exact hv⟩
/-- .. is taken into the store -/
theorem Rel.track {p : Addr} {q u : HO} {o : O} (R : Rel P w K ρ S H) (hp : p ∉ ρ) (e : H p = some q) (f : Free q) (fx : ¬ xo q) (fu : ¬ xo u) (new : RO P w K (ρ ++ [p]) (upd H p u) p o) : Rel P w K (ρ ++ [p]) (S ++ [o]) (upd H p u) := by
  have R' := R.other (u := u) hp e f fx
  have old : ∀ (n : Nat) (a : Addr), ρ[n]? = some a → a ≠ p := fun n a h z => hp (by rw [← z]; exact List.mem_of_getElem? h)
  have get : ∀ (n : Nat) (a : Addr), (ρ ++ [p])[n]? = some a → ρ[n]? = some a ∨ (n = ρ.length ∧ a = p) := fun n a h => by
    by_cases hn : n < ρ.length
    · rw [List.getElem?_append_left hn] at h
      exact .inl h
    · rw [List.getElem?_append_right (by omega)] at h
      have hn0 : n - ρ.length = 0 := by
        by_cases q : n - ρ.length = 0
        · exact q
        · rw [List.getElem?_eq_none (by simp; omega)] at h; cases h
      rw [hn0] at h
      cases h
      exact .inr ⟨by omega, rfl⟩
  refine ⟨by simp [R.len], fun n m a h1 h2 => ?_, fun n ob a h1 h2 => ?_⟩
  · rcases get n a h1 with k1 | ⟨k1, k2⟩
    · rcases get m a h2 with j1 | ⟨j1, j2⟩
      · exact R.inj n m a k1 j1
      · exact absurd j2 (old n a k1)
    · rcases get m a h2 with j1 | ⟨j1, j2⟩
      · exact absurd k2 (old m a j1)
      · omega
  · rcases get n a h2 with k1 | ⟨k1, k2⟩
    · have hl : n < S.length := by rw [← R.len]; exact (List.getElem?_eq_some_iff.mp k1).1
      rw [List.getElem?_append_left hl] at h1
      exact (R'.obj n ob a h1 k1).mw ⟨fun h => app_at h, fun _ _ h => h, fun _ _ h => h, fun b q hb h ho => ⟨fun hm => by
        rcases List.mem_append.mp hm with hm | hm
        · exact hb hm
        · rw [List.mem_singleton.mp hm, upd_same] at h
          rw [← Option.some.inj h] at ho
          exact fu ho, h⟩⟩ fun v hv => hv
    · subst k1 k2
      rw [List.getElem?_append_right (by rw [R.len]; exact Nat.le_refl _), R.len, Nat.sub_self] at h1
      cases h1
      exact new
/-- behind a thing that was laid ahead -/
theorem Le.ahead {p : Addr} {o q u : HO} (hp : H p = none) (L : Le K ρ (upd H p o) ρ1 H1) (e : H1 p = some q) (f : Free q) : Le K ρ H ρ1 (upd H1 p u) := by
  obtain ⟨l, el, fl⟩ := L.pre
  refine ⟨⟨l, el, fun a ha hn => ?_⟩, fun a xs h => sqt_upd (fun v e' => by rw [e] at e'; cases e'; exact ⟨f.1, fun ob xs => f.2 ob _⟩) _ _ (L.sqt _ _ (sqt_new hp _ _ h)), fun a o' h hn => ?_, fun a ob v h => ?_⟩
  · have := fl a ha hn
    by_cases z : a = p
    · rw [z]; exact hp
    · rw [upd_ne z] at this; exact this
  · have z : a ≠ p := ne_of_none h hp
    rw [upd_ne z]
    exact L.keep a o' (by rw [upd_ne z]; exact h) hn
  · have z : a ≠ p := ne_of_none h hp
    rw [upd_ne z]
    exact L.frz a ob v (by rw [upd_ne z]; exact h)
theorem Le.app {p : Addr} (L : Le K ρ H ρ1 H1) (hp : H p = none) : Le K ρ H (ρ1 ++ [p]) H1 := by
  obtain ⟨l, el, fl⟩ := L.pre
  refine ⟨⟨l ++ [p], by rw [el, List.append_assoc], fun a ha hn => ?_⟩, L.sqt, L.keep, L.frz⟩
  rcases List.mem_append.mp ha with h | h
  · exact fl a h hn
  · rw [List.mem_singleton.mp h]; exact hp
/-- what was laid ahead is not the store's -/
theorem Le.apart {p : Addr} {o : HO} (L : Le K ρ H ρ1 H1) (e : H p = some o) (hp : p ∉ ρ) : p ∉ ρ1 ∧ H1 p = some o := by
  obtain ⟨l, el, fl⟩ := L.pre
  refine ⟨fun hm => ?_, L.keep p o e hp⟩
  rw [el] at hm
  rcases List.mem_append.mp hm with h | h
  · exact hp h
  · rw [fl p h hp] at e; cases e
end
end PI

set_option Elab.async false
set_option linter.all false
set_option maxRecDepth 100000
set_option maxHeartbeats 4000000
/-! dict displays; locks -/
namespace PI
open PySem PySem.Spec PyProof.Rows L2
section
variable {X : Cx} {xw : XW} {ρ : List Addr} {H : Hp} {S : Sto} {σ : L2.St} {Q : VK}
inductive DPs (X : Cx) (xw : XW) (Φ : Fns) : E → List (Option Expr) → List Expr → List (TE × TE) → Prop
  | nil : DPs X xw Φ .nil [] [] []
  | cons {a b r : E} {k v : Expr} {ks : List (Option Expr)} {vs : List Expr} {trs : List (TE × TE)} : Snd X xw k (eval Φ a) → Snd X xw v (eval Φ b) → DPs X xw Φ r ks vs trs →
      DPs X xw Φ (.cons a (.cons b r)) (some k :: ks) (v :: vs) ((LE X xw (eval Φ a), LE X xw (eval Φ b)) :: trs)
theorem DPs.pps {Φ : Fns} {a : E} {ks : List (Option Expr)} {vs : List Expr} {trs : List (TE × TE)} {pos : Pos} (h : DPs X xw Φ a ks vs trs) : PPs X pos ks vs trs := by
  induction h with
  | nil => exact pps_nil
  | cons h1 h2 _ ih => exact pps_cons h1.pe h2.pe ih
theorem DPs.ok {Φ : Fns} {a : E} {ks : List (Option Expr)} {vs : List Expr} {trs : List (TE × TE)} (h : DPs X xw Φ a ks vs trs) : ks.all (·.isSome) = true ∧ ks.length = vs.length := by
  induction h with
  | nil => exact ⟨rfl, rfl⟩
  | cons h1 h2 _ ih => exact ⟨by simpa using ih.1, by simpa using ih.2⟩
def flatP (ps : List (V × V)) : List V := ps.flatMap fun p => [p.1, p.2]
theorem DPs.go {Φ : Fns} {a : E} {ks : List (Option Expr)} {vs : List Expr} {trs : List (TE × TE)} (h : DPs X xw Φ a ks vs trs) : ∀ (σ : L2.St) (H : Hp) (Q : List (V × V) → Hp → Prop) (ρ : List Addr) (S : Sto) (η : Env), REnv X.J ρ H η σ → Rel X.prog X.w X.J ρ S H →
    Fin X xw ρ H (evals Φ a η S) (fun us _ ρ' H' => ∀ ps, RWs X.J ρ' H' us (flatP ps) → Q ps H') → tPairs trs σ H Q := by
  induction h with
  | nil =>
    intro σ H Q ρ S η re R q
    rw [evals] at q
    exact q.ok_imp R [] .nil
  | cons h1 h2 _ ih =>
    intro σ H Q ρ S η re R q
    rw [evals] at q
    refine ⟨ρ, S, η, re, R, (Fin.bind q).imp fun u S1 ρ1 H1 L1 R1 q1 x rx => ?_⟩
    rw [evals] at q1
    refine ⟨ρ1, S1, η, re.mono L1, R1, (Fin.bind (Fin.bind q1)).imp fun u2 S2 ρ2 H2 L2 R2 q2 y ry => ?_⟩
    refine ih σ H2 _ ρ2 S2 η ((re.mono L1).mono L2) R2 ((Fin.bind q2).imp fun us S3 ρ3 H3 L3 R3 q3 ps rps => ?_)
    have q4 := (q3.ok_imp R3).ok_imp R3
    exact q4 ((x, y) :: ps) (.cons ((rx.mono L2).mono L3) (.cons (ry.mono L3) rps))
theorem disp_rel : ∀ {us : List W} {ps : List (V × V)} {kvs : List (W × W)}, RWs X.J ρ H us (flatP ps) → pairUp us = some kvs → (kvs.all fun kv => flatKey kv.1) = true →
    ∃ qs : List (Key × V), RK X.J ρ H kvs qs ∧ ps = qs.map (fun kv => (kV kv.1, kv.2)) ∧ qs.length = kvs.length
  | us, [], kvs, r, e, _ => by
    cases r
    cases e
    exact ⟨[], .nil, rfl, rfl⟩
  | us, (x, y) :: ps, kvs, r, e, hf => by
    have r : RWs X.J ρ H us (x :: y :: flatP ps) := r
    cases r with
    | cons h1 r =>
      cases r with
      | cons h2 r =>
        unfold pairUp at e
        obtain ⟨kvs', e1, rfl⟩ := Option.map_eq_some_iff.mp e
        rw [List.all_cons, Bool.and_eq_true] at hf
        obtain ⟨qs, a1, a2, a3⟩ := disp_rel r e1 hf.2
        obtain ⟨k, hk⟩ := flat_kOf hf.1
        refine ⟨(k, y) :: qs, .cons ⟨hk, h2⟩ a1, ?_, by simp [a3]⟩
        rw [List.map_cons, ← a2, kOf_rw hk h1]
theorem s_dct {keys : List (Option Expr)} {values : List Expr} {trs : List (TE × TE)} {pos : Pos} {Φ : Fns} {a : E} (h : DPs X xw Φ a keys values trs) (h0 : keys ≠ []) (h15 : keys.length ≤ 15) : Snd X xw (.Dict keys values pos) (eval Φ (.dct a)) := by
  refine snd_plain (PE.wk (pe_disp (h.pps (pos := pos)) h.ok.1 h.ok.2 h0 h15) fun σ H Q ⟨ρ, S, η, re, R, q⟩ p hp => ?_) fun _ => rfl
  rw [eval] at q
  have L0 : Le X.J ρ H ρ (upd H p (.dK [])) := .new hp
  refine h.go σ _ _ ρ S η (re.mono L0) (R.new hp) ?_
  have q0 : Fin X xw ρ H (evals Φ a η S) fun us S1 _ _ => Fin X xw ρ H (dispW us S1) fun u _ ρ' H' => ∀ v, RW X.J ρ' H' u v → Q v H' := by
    cases e : evals Φ a η S with
    | ok us S1 =>
      rw [e] at q
      exact fun _ _ _ _ => q
    | exc c fs S1 => rw [e] at q; exact q
    | bad => rw [e] at q; exact q
  refine (q0.mono L0).imp fun us S1 ρ1 H1 L1 R1 q1 ps rps => ?_
  obtain ⟨ha, e1⟩ := L1.apart upd_same (R.notin hp)
  unfold dispW at q1
  split at q1
  · rename_i kvs e2
    split at q1
    · rename_i hc
      obtain ⟨qs, r, e3, e4⟩ := disp_rel rps e2 hc.1
      refine ⟨e1, qs, e3, by rw [e4]; exact hc.2, ?_⟩
      have Lw1 : Lw X.J ρ1 H1 (ρ1 ++ [p]) (upd H1 p (.dK (mergeK [] qs))) := lw_app (lw_upd (ρ := ρ1) e1 free_dK.1 (fun ob xs => free_dK.2 ob _) (fun ob xs => free_dK.2 ob _) xo_dK) upd_same xo_dK
      have new : RO X.prog X.w X.J (ρ1 ++ [p]) (upd H1 p (.dK (mergeK [] qs))) p (.dct (kvs.foldl (fun acc kv => keyPut acc kv.1 kv.2) [])) := .dK upd_same (RK.mw Lw1 (RK.fold r .nil))
      exact q1 _ _ ((Le.ahead hp L1 e1 free_dK).app hp) (R1.track ha e1 free_dK xo_dK xo_dK new) _ (.ref (by rw [← R1.len]; simp))
    · exact q1.no.elim
  · exact q1.no.elim
theorem s_dnew {pos : Pos} {Φ : Fns} : Snd X xw (.Dict [] [] pos) (eval Φ (.dct .nil)) := by
  refine snd_plain (PE.wk pe_dnewK fun σ H Q ⟨ρ, S, η, re, R, q⟩ p hp => ?_) fun _ => rfl
  rw [eval, evals] at q
  have q : Ans X ρ H (.ok (.ref S.length) (S ++ [.dct []])) Q := ⟨xw, by
    refine Fin.mono (ρ := ρ) (H := H) ?_ .refl
    have := (Fin.bind q).ok_imp R
    simpa [dispW, pairUp] using this⟩
  exact q.alloc R hp (.dK upd_same .nil)
/-! ### locks -/
/-- behind a loop: a dict is free again -/
def Unl (X : Cx) (P : Hp → Prop) (H' : Hp) : Prop := P H' ∨ ∃ d od u, H' d = some (.frz od u) ∧ (∀ o' u', X.H_0 d ≠ some (.frz o' u')) ∧ P (upd H' d u)
theorem pe_unl {e : Expr} {t : TE} (h : PE X e t) : PE X e (fun σ H Q => t σ H fun v H' => Unl X (Q v) H') := by
  refine ⟨fun pins s σ H Q I hw => thn (h.run pins s σ H _ I hw) fun v s1 ⟨x, H1, I1, r1, q1⟩ => ?_⟩
  rcases q1 with q1 | ⟨d, od, u, e, hn, q1⟩
  · exact ⟨x, H1, I1, r1, q1⟩
  · exact ⟨x, _, I1.unlock e hn, r1, q1⟩
theorem ps_unl {st : Stmt} {t : TS} (h : PS X st t) : PS X st (fun D σ H => t ⟨fun σ' H' => Unl X (D.nx σ') H', fun v H' => Unl X (D.rt v) H', fun σ' H' => Unl X (D.bk σ') H', fun σ' H' => Unl X (D.ct σ') H'⟩ σ H) := by
  refine ⟨fun pins s σ H D I hw => thn (h.run pins s σ H _ I hw) fun f s1 q => ?_⟩
  cases f with
  | next =>
    obtain ⟨σ', H', I2, q⟩ := q
    rcases q with q | ⟨d, od, u, e, hn, q⟩
    · exact ⟨σ', H', I2, q⟩
    · exact ⟨σ', _, I2.unlock e hn, q⟩
  | brk =>
    obtain ⟨σ', H', I2, q⟩ := q
    rcases q with q | ⟨d, od, u, e, hn, q⟩
    · exact ⟨σ', H', I2, q⟩
    · exact ⟨σ', _, I2.unlock e hn, q⟩
  | cont =>
    obtain ⟨σ', H', I2, q⟩ := q
    rcases q with q | ⟨d, od, u, e, hn, q⟩
    · exact ⟨σ', H', I2, q⟩
    · exact ⟨σ', _, I2.unlock e hn, q⟩
  | ret v =>
    obtain ⟨x, σ', H', I2, r, q⟩ := q
    rcases q with q | ⟨d, od, u, e, hn, q⟩
    · exact ⟨x, σ', H', I2, r, q⟩
    · exact ⟨x, σ', _, I2.unlock e hn, r, q⟩
end
end PI

set_option Elab.async false
set_option linter.all false
set_option maxRecDepth 100000
set_option maxHeartbeats 4000000
/-! iterators the layer lacks: enumerate of a tuple, the keys of a dict with tuples as keys -/
namespace PI
open PySem PySem.Spec PyProof.Rows L2
open AutoSeq1 (wpAny_loadPart')
theorem meets_enumerate_newT (l : Addr) (items : Array Value) (n : Nat) (dct : Option Addr) (sl : Array (Option Value)) :
    Meets (Builtin.«enumerate.__new__» ⟨[.type "enumerate", .ref l], []⟩) (fun _ R s => s.heap.get? l = some { cls := .type "tuple", dict := dct, data := .seq items n, slots := sl } ∧
      R (.ok (.ret (.ref (s.heap.push { cls := .type "tuple_iterator", data := .fields #[.ref l, .int 0 0] }).objs.size)))
        { s with heap := (s.heap.push { cls := .type "tuple_iterator", data := .fields #[.ref l, .int 0 0] }).push { cls := .type "enumerate", data := .fields #[.none, .bool false, .ref s.heap.objs.size, rawInt 0, .none, .none] } }) :=
  .of_wp fun prog w A R s h => by
    obtain ⟨hp, g, d, tk, os⟩ := s; obtain ⟨hl, h⟩ := h
    have hsub := sub_enumerate
    have hL : Heap.IsTuple (Shared.heap ⟨hp, g, d, tk, os⟩) l items := ⟨_, hl, rfl, n, rfl⟩
    wp_walk using wpAny_loadPart' hl
    refine wpAny_stack_any fun st => wpAny_pure ?_
    split
    · rename_i c _ _ _ _ _
      cases (c == Value.type "enumerate")
      · wp_walk using wpAny_loadPart' hl, wpAny_pyIter_tuple hL
        exact ⟨_, rfl, h⟩
      · wp_walk using wpAny_loadPart' hl, wpAny_pyIter_tuple hL
        exact ⟨_, rfl, h⟩
    · wp_walk using wpAny_loadPart' hl, wpAny_pyIter_tuple hL
      exact ⟨_, rfl, h⟩
section
variable {prog : Program} {w : World} {A : Around} {E : Value → Shared → Prop} {s : Shared}
theorem call_enumerate_tuple {l : Addr} {items : Array Value} {Q : Value → Shared → Prop} (hL : s.heap.IsTuple l items)
    (h : ∀ h', IsEnum h' (s.heap.objs.size + 1) s.heap.objs.size 0 .none → h'.IsTupleIter s.heap.objs.size l 0 → h'.objs.size = s.heap.objs.size + 2 →
      (∀ b o, s.heap.get? b = some o → h'.get? b = some o) → Q (.ref (s.heap.objs.size + 1)) { s with heap := h' }) :
    wpAny (model prog w) A (call (.type "enumerate") [.ref l]) Q E s := by
  obtain ⟨⟨c, dct, dt, sl⟩, hl, hc, n, hd⟩ := hL
  replace hc : c = .type "tuple" := hc
  replace hd : dt = .seq items n := hd
  subst hc hd
  refine callType_new F.called_enumerate (by decide) (F.typeCall_enumerate_1 _) (F.newCall_enumerate_1 _) (fun obj => F.args_object_init_2 obj _) F.entry_enumerate_new
    (meets_enumerate_newT l items n dct sl) ⟨hl, ?_⟩
  have hz : (s.heap.push { cls := .type "tuple_iterator", data := .fields #[.ref l, .int 0 0] }).objs.size = s.heap.objs.size + 1 := Heap.size_push ..
  show _ ∧ _
  rw [hz]
  have he : IsEnum ((s.heap.push { cls := .type "tuple_iterator", data := .fields #[.ref l, .int 0 0] }).push
      { cls := .type "enumerate", data := .fields #[.none, .bool false, .ref s.heap.objs.size, rawInt 0, .none, .none] }) (s.heap.objs.size + 1) s.heap.objs.size 0 .none := by
    have := Heap.get?_push_size (s.heap.push { cls := .type "tuple_iterator", data := .fields #[.ref l, .int 0 0] })
      (o := { cls := .type "enumerate", data := .fields #[.none, .bool false, .ref s.heap.objs.size, rawInt 0, .none, .none] }) rfl
    rw [hz] at this; exact this
  refine ⟨⟨_, he, rfl⟩, h _ he ⟨_, Heap.get?_push_of_some _ (Heap.get?_push_size _ rfl), rfl, rfl⟩ (by rw [Heap.size_push, hz]) fun b o x => Heap.get?_push_of_some _ (Heap.get?_push_of_some _ x)⟩
end
/-- the tuple at a, each item in a new pair -/
def IteT (K : PySem.W.Frag) (a : Addr) : It :=
  ⟨fun i H => ∃ (xs : List V) (x : V), SqT K H a xs ∧ xs[i]? = some x, fun i H v H' => ∃ T x, v = .ref T ∧ H T = none ∧ H' = upd H T (.tup [.int (i : Nat), x]) ∧ ∀ xs, SqT K H a xs → xs[i]? = some x, fun i H => ∃ xs : List V, SqT K H a xs ∧ xs.length = i⟩
theorem turn_enumT {P : Program} {w : World} {K : PySem.W.Frag} {elts : List Expr} {kk : Nat} {tpos : Pos} (a e it : Addr) :
    Turn P w K (.Tuple elts kk tpos) (IteT K a) [e, it] e (fun i h => (∃ old, IsEnum h e it ((i : Nat) : Int) old) ∧ h.IsTupleIter it a i ∧ e ≠ it ∧ a ≠ it ∧ a ≠ e) where
  mem := by simp
  obj := fun i h st b hb => by
    obtain ⟨⟨old, he⟩, ⟨o, ho, hc, hd⟩, _⟩ := st
    have e' : b = e ∨ b = it := by simpa using hb
    rcases e' with z | z
    · rw [z]; exact ⟨_, he, fun v q => nomatch q⟩
    · rw [z]; exact ⟨o, ho, fun v q => by rw [hd] at q; cases q⟩
  keep := fun i h h' st k => let ⟨⟨old, he⟩, hi, hne⟩ := st; ⟨⟨old, k e (by simp) _ he⟩, hi.at fun o q => k it (by simp) o q, hne⟩
  item := by
    intro X hP hw hK hc i pins s σ H E I hf st hg
    subst hP hw hK
    obtain ⟨⟨old, he⟩, hit, hne, ha1, ha2⟩ := st
    obtain ⟨xs, x, hq, hx⟩ := hg
    obtain ⟨its, rv, p, hz⟩ := I.tuple hq
    obtain ⟨u, hu, ru⟩ := rv.get hx
    have hel : e < s.heap.objs.size := Heap.lt_size he
    have hil : it < s.heap.objs.size := by obtain ⟨_, q, _⟩ := hit; exact Heap.lt_size q
    have hlt : i < its.toArray.size := by
      have := (List.getElem?_eq_some_iff.mp hu).1
      simpa using this
    refine wpAny_pyNext_enum_itemD (Draws.tuple (prog := X.prog) (w := X.w) (A := X.A.in1) (I.ok.hd hc) it a ha1 its.toArray) he ⟨hit, p⟩ hlt hne (by simp [hne, Ne.symm ha2]) fun x' h' tk hP ho hst hT hsz hk => ?_
    have hx' : x' = u := by
      rw [List.getElem?_toArray] at hP
      rw [hu] at hP
      exact (Option.some.inj hP).symm
    subst hx'
    refine ⟨_, rfl, wpAny_letOwnedTupleGo_enum (s := { s with heap := h', toks := tk + 1 }) ho fun h'' he' sb => ?_⟩
    have hT2 : h''.get? s.heap.objs.size = some { cls := .type "tuple", data := .seq #[.int i tk, x'] } := (sb.2 _ (Nat.ne_of_gt hel)).trans hT
    have new : ObjOk X.prog X.w (upd H s.heap.objs.size (.tup [.int (i : Nat), x])) h'' s.heap.objs.size (.tup [.int (i : Nat), x]) :=
      ⟨by show 2 ≤ sizeLine; decide, [.int i tk, x'], .cons ⟨_, rfl⟩ (.cons ru .nil), ⟨_, hT2, rfl, _, rfl⟩⟩
    have I1 : Inv X pins σ (upd H s.heap.objs.size (.tup [.int (i : Nat), x])) { s with heap := h'', toks := tk + 1 } :=
      I.turnedNew (ch := [e, it]) (fun b ob hb q => (sb.2 b (fun z => hb (by simp [z]))).trans (hk b ob (fun z => hb (by simp [z])) (fun z => hb (by simp [z])) q)) hf (Nat.le_refl _) new
    refine ⟨.ref s.heap.objs.size, _, I1, rfl, ⟨_, x, rfl, I.hok.fresh (Nat.le_refl _), rfl, fun ys hy => by rw [I.tuple_inj hy hq]; exact hx⟩, ⟨⟨x', ?_⟩, hst.1.at fun o q => (sb.2 it (Ne.symm hne)).trans q, hne, ha1, ha2⟩, fun b hb => ?_⟩
    · have e1 : ((i + 1 : Nat) : Int) = (i : Int) + 1 := by omega
      rw [e1]; exact he'
    · have hb' : b < s.heap.objs.size := by
        have e' : b = e ∨ b = it := by simpa using hb
        rcases e' with z | z
        · rw [z]; exact hel
        · rw [z]; exact hil
      rw [upd_ne (Nat.ne_of_lt hb')]
      exact (hf b hb).1
  done := by
    intro X hP hw hK hc i pins s σ H E I hf st hg
    subst hP hw hK
    obtain ⟨⟨old, he⟩, hit, hne, ha1, ha2⟩ := st
    obtain ⟨xs, hq, hx⟩ := hg
    obtain ⟨its, rv, p, hz⟩ := I.tuple hq
    obtain ⟨f0, f1, f2, f3, f4, f5⟩ := hf it (by simp)
    have hl : i = its.toArray.size := by
      have := rv.length
      simp
      omega
    subst hl
    exact wpAny_pyNext_enum_endD (Draws.tuple (prog := X.prog) (w := X.w) (A := X.A.in1) (I.ok.hd hc) it a ha1 its.toArray) he ⟨hit, p⟩ fun h' eb => ⟨rfl, I.turned (t' := s.toks) (fun b o hb q => eb b o hb q) f0 f1 f3 f4 f5⟩
  self := fun A i s Q E st h => let ⟨⟨_, he⟩, _⟩ := st; wpAny_pyIter_enum he h
/-! ### the keys of a dict whose keys are tuples -/
section
variable {X : Cx} {pins : List (Addr × Obj)} {σ : L2.St} {H : Hp} {s : Shared} {d : Addr} {o : Obj}
theorem Inv.frzN {xs : List (NestedKey × Addr × Value)} (I : L2.Inv X pins σ H s) (h : H d = some (.frz o (NDict X.prog X.w d xs))) :
    s.heap.get? d = some o ∧ o.ExactDict ∧ ∃ (es : Array DictEntry) (ep : Nat), o.data = .dict es ep ∧ es.size = xs.length ∧ es.toList = xs.map (entryOfKey (nestedKind X.prog X.w)) := by
  obtain ⟨hd, ⟨o', es, ep, ho, hx, hdt, he, _⟩, _⟩ := I.hok d _ h
  rw [hd] at ho
  cases ho
  exact ⟨hd, hx, es, ep, hdt, size_of_entries he, he⟩
end
def Itn (P : Program) (w : World) (d : Addr) (o : Obj) (xs : List (NestedKey × Addr × Value)) : It :=
  ⟨fun i H => H d = some (.frz o (NDict P w d xs)) ∧ i < xs.length, fun i H x H' => H' = H ∧ ∃ q, xs[i]? = some q ∧ x = .ref q.2.1, fun i H => H d = some (.frz o (NDict P w d xs)) ∧ xs.length ≤ i⟩
theorem turn_keysN {P : Program} {w : World} {K : PySem.W.Frag} {tg : Expr} {d : Addr} {o : Obj} {es : Array DictEntry} {ep : Nat} {xs : List (NestedKey × Addr × Value)} (it : Addr) (hs : (d == sysModules) = false) (hod : o.data = .dict es ep) :
    Turn P w K tg (Itn P w d o xs) [it] it (fun i h => h.IsKeyIter it d i xs.length ep) where
  mem := by simp
  obj := fun i h st b hb => by
    have e : b = it := by simpa using hb
    subst e
    obtain ⟨oi, e, c, dd⟩ := st
    exact ⟨oi, e, fun v z => by rw [dd] at z; cases z⟩
  keep := fun i h h' st k => st.at fun oi e => k it (by simp) oi e
  item := by
    intro X hP hw hK hc i pins s σ H E I hf st hg
    subst hP hw hK
    obtain ⟨hd, hi⟩ := hg
    obtain ⟨f0, f1, f2, f3, f4, f5⟩ := hf it (by simp)
    obtain ⟨hgd, hx, es', ep', hdt, hsz, he⟩ := Inv.frzN I hd
    obtain ⟨rfl, rfl⟩ := dict_ep hod hdt
    obtain ⟨q, hq⟩ : ∃ p, xs[i]? = some p := ⟨xs[i], List.getElem?_eq_getElem hi⟩
    have hen := entry_at he i
    rw [hq] at hen
    refine next_key_item st hgd hdt hsz hen fun h' st' sb => ?_
    have I1 : L2.Inv X pins σ H { s with heap := h' } := I.turned (t' := s.toks) (fun b ob hb e => (sb.2 b hb).trans e) f0 f1 f3 f4 f5
    obtain ⟨oi, e, c, dd⟩ := id st'
    exact ⟨_, rfl, go_of (s := { s with heap := h' }) e c dd (by decide) ⟨.ref q.2.1, H, I1, rfl, ⟨rfl, q, hq, rfl⟩, st', fun b hb => (hf b hb).1⟩⟩
  done := by
    intro X hP hw hK hc i pins s σ H E I hf st hg
    subst hP hw hK
    obtain ⟨hd, hi⟩ := hg
    obtain ⟨f0, f1, f2, f3, f4, f5⟩ := hf it (by simp)
    obtain ⟨hgd, hx, es', ep', hdt, hsz, he⟩ := Inv.frzN I hd
    obtain ⟨rfl, rfl⟩ := dict_ep hod hdt
    exact next_key_end (I.ok.hd hc) st hgd hdt hsz hi fun h' eb => ⟨rfl, I.turned (t' := s.toks) (fun b o hb e => eb b o hb e) f0 f1 f3 f4 f5⟩
  self := fun A i s Q E st h => by
    refine wpAny_pyIter_slot st.typeIs F.slot_dict_keyiterator_iter (wpAny_call_entry F.slot_dict_keyiterator_iter st.typeIs F.entry_dict_keyiterator_iter ?_ (F.args_dict_keyiterator_iter_1 _))
    show wpAny _ _ (ret (.ref it)) _ _ s
    exact wpAny_pure ⟨_, rfl, "dict_keyiterator", _, st.typeIs, F.slot_dict_keyiterator_next.lookup, h⟩
end PI

set_option Elab.async false
set_option linter.all false
set_option maxRecDepth 100000
set_option maxHeartbeats 4000000
/-! what a for walks -/
namespace PI
open PySem PySem.Spec PyProof.Rows L2
/-- an iterator of the layer beside a source of the evaluator -/
structure Wk (X : Cx) (J : It) (src : Src) (ρ0 : List Addr) (H0 : Hp) : Prop where
  goes : ∀ ρ S H ws i, Le X.J ρ0 H0 ρ H → Rel X.prog X.w X.J ρ S H → src.now S = some ws → i < ws.length → J.go i H
  stops : ∀ ρ S H ws, Le X.J ρ0 H0 ρ H → Rel X.prog X.w X.J ρ S H → src.now S = some ws → J.stop ws.length H
  yields : ∀ ρ S H ws i w x H', Le X.J ρ0 H0 ρ H → Rel X.prog X.w X.J ρ S H → src.now S = some ws → ws[i]? = some w → J.yld i H x H' → Le X.J ρ H ρ H' ∧ Rel X.prog X.w X.J ρ S H' ∧ RW X.J ρ H' w x
/-- how the dict that is walked is locked -/
def Lck (X : Cx) (l : Option Nat) (ρ : List Addr) (S : Sto) (H H2 : Hp) : Prop := match l with
  | none => H2 = H
  | some n => ∃ d u0 u od kvs, ρ[n]? = some d ∧ S[n]? = some (.dct kvs) ∧ H d = some u0 ∧ Free u0 ∧ Free u ∧ H2 = upd H d (.frz od u) ∧ (∀ o' u', X.H_0 d ≠ some (.frz o' u')) ∧ RO X.prog X.w X.J ρ H2 d (.fdct kvs)
def Src1 (X : Cx) (k : Itk) (xs : List W) (S : Sto) (ρ : List Addr) (H : Hp) (R : It → Hp → Prop) : Prop :=
  ∃ src l, srcOf k xs S = some (src, l) ∧ ∀ J H2, Wk X J src ρ H2 → Lck X l ρ S H H2 → R J H2
def LI (X : Cx) (xw : XW) (m : Env → Sto → Res (List W)) (k : Itk) : TI := fun σ H R => ∃ ρ S η, REnv X.J ρ H η σ ∧ Rel X.prog X.w X.J ρ S H ∧ Fin X xw ρ H (m η S) fun xs S1 ρ1 H1 => Src1 X k xs S1 ρ1 H1 R
section
variable {X : Cx} {xw : XW} {ρ : List Addr} {H : Hp} {S : Sto} {σ : L2.St} {pins : List (Addr × Obj)} {s : Shared} {tg : Expr} {R : It → Hp → Prop}
theorem get_len {ws : List W} {vs : List V} {i : Nat} (r : RWs X.J ρ H ws vs) (hi : i < ws.length) : ∃ v, vs[i]? = some v := by
  have : i < vs.length := by rw [← r.length]; exact hi
  exact ⟨_, List.getElem?_eq_getElem this⟩
theorem rws_at {ws : List W} {vs : List V} {i : Nat} {w : W} {v : V} (r : RWs X.J ρ H ws vs) (h1 : ws[i]? = some w) (h2 : vs[i]? = some v) : RW X.J ρ H w v := by
  obtain ⟨y, e, q⟩ := r.get h1
  rw [h2] at e
  cases e
  exact q
theorem wk_tup {a : Addr} {ws : List W} {vs : List V} (t : SqT X.K H a vs) (r : RWs X.J ρ H ws vs) : Wk X (Itt X.K a) (.vals ws) ρ H where
  goes := fun ρ1 S1 H1 us i L R e hi => by
    cases e
    obtain ⟨v, hv⟩ := get_len r hi
    exact ⟨vs, v, L.sqt _ _ t, hv⟩
  stops := fun ρ1 S1 H1 us L R e => by
    cases e
    exact ⟨vs, L.sqt _ _ t, by rw [r.length]; exact Nat.le_refl _⟩
  yields := fun ρ1 S1 H1 us i w x H' L R e hw y => by
    cases e
    obtain ⟨e1, y⟩ := y
    subst e1
    exact ⟨.refl, R, rws_at (r.mono L) hw (y vs (L.sqt _ _ t))⟩
theorem wk_list {a : Addr} {n : Nat} (hn : ρ[n]? = some a) : Wk X (Itl X.K a) (.lst n) ρ H where
  goes := fun ρ1 S1 H1 us i L R e hi => by
    obtain ⟨vs, t, r⟩ := R.lstOf (L.at_ hn) e
    obtain ⟨v, hv⟩ := get_len r hi
    exact ⟨vs, v, t, hv⟩
  stops := fun ρ1 S1 H1 us L R e => by
    obtain ⟨vs, t, r⟩ := R.lstOf (L.at_ hn) e
    exact ⟨vs, t, by rw [r.length]; exact Nat.le_refl _⟩
  yields := fun ρ1 S1 H1 us i w x H' L R e hw y => by
    obtain ⟨vs, t, r⟩ := R.lstOf (L.at_ hn) e
    obtain ⟨e1, y⟩ := y
    subst e1
    exact ⟨.refl, R, rws_at r hw (y vs t)⟩
theorem wk_str {z : Str} : Wk X (Its z) (.vals (z.cps.toList.map fun c => .str ⟨#[c]⟩)) ρ H where
  goes := fun ρ1 S1 H1 us i L R e hi => by
    cases e
    show i < z.cps.size
    simpa using hi
  stops := fun ρ1 S1 H1 us L R e => by
    cases e
    show z.cps.size ≤ _
    simp
  yields := fun ρ1 S1 H1 us i w x H' L R e hw y => by
    cases e
    obtain ⟨e1, c, hc, ex⟩ := y
    subst e1 ex
    rw [List.getElem?_map, Array.getElem?_toList, hc] at hw
    cases hw
    exact ⟨.refl, R, .str _⟩
theorem wk_range {lo : Int} {n : Nat} : Wk X (Itr lo n) (.vals (rangeW lo n)) ρ H where
  goes := fun ρ1 S1 H1 us i L R e hi => by
    cases e
    show i < n
    simpa [rangeW] using hi
  stops := fun ρ1 S1 H1 us L R e => by
    cases e
    show n ≤ _
    simp [rangeW]
  yields := fun ρ1 S1 H1 us i w x H' L R e hw y => by
    cases e
    obtain ⟨e1, ex⟩ := y
    subst e1 ex
    unfold rangeW at hw
    rw [List.getElem?_map] at hw
    obtain ⟨j, hj, e⟩ := Option.map_eq_some_iff.mp hw
    have : j = i := by
      have h2 := List.getElem?_eq_some_iff.mp hj
      obtain ⟨h3, h4⟩ := h2
      rw [List.getElem_range] at h4
      exact h4.symm
    subst this e
    exact ⟨.refl, R, .int _⟩
/-- a new pair of two values -/
theorem new_pair {x y : V} {a b : W} {T : Addr} (R : Rel X.prog X.w X.J ρ S H) (hT : H T = none) (h1 : RW X.J ρ H a x) (h2 : RW X.J ρ H b y) :
    Le X.J ρ H ρ (upd H T (.tup [x, y])) ∧ Rel X.prog X.w X.J ρ S (upd H T (.tup [x, y])) ∧ RW X.J ρ (upd H T (.tup [x, y])) (.tup [a, b]) (.ref T) :=
  ⟨.new hT, R.new hT, .tup (.of upd_same) (.cons (h1.mono (.new hT)) (.cons (h2.mono (.new hT)) .nil))⟩
theorem enum_get {ws : List W} {i : Nat} {w : W} (h : (enumW ws)[i]? = some w) : ∃ u, ws[i]? = some u ∧ w = .tup [.int (i : Nat), u] := by
  unfold enumW at h
  rw [List.getElem?_map, List.getElem?_zipIdx] at h
  obtain ⟨p, hp, e⟩ := Option.map_eq_some_iff.mp h
  obtain ⟨u, hu, e2⟩ := Option.map_eq_some_iff.mp hp
  subst e2
  refine ⟨u, hu, ?_⟩
  rw [← e]
  simp
theorem enum_len {ws : List W} : (enumW ws).length = ws.length := by simp [enumW]
theorem wk_enumL {a : Addr} {n : Nat} (hn : ρ[n]? = some a) : Wk X (Ite X.K a) (.enumL n) ρ H where
  goes := fun ρ1 S1 H1 us i L R e hi => by
    obtain ⟨ws, e1, rfl⟩ := Option.map_eq_some_iff.mp e
    obtain ⟨vs, t, r⟩ := R.lstOf (L.at_ hn) e1
    obtain ⟨v, hv⟩ := get_len r (by simpa [enum_len] using hi)
    exact ⟨vs, v, t, hv⟩
  stops := fun ρ1 S1 H1 us L R e => by
    obtain ⟨ws, e1, rfl⟩ := Option.map_eq_some_iff.mp e
    obtain ⟨vs, t, r⟩ := R.lstOf (L.at_ hn) e1
    exact ⟨vs, t, by rw [enum_len, r.length]; exact Nat.le_refl _⟩
  yields := fun ρ1 S1 H1 us i w x H' L R e hw y => by
    obtain ⟨ws, e1, rfl⟩ := Option.map_eq_some_iff.mp e
    obtain ⟨vs, t, r⟩ := R.lstOf (L.at_ hn) e1
    obtain ⟨T, x', ex, hT, eH, y⟩ := y
    obtain ⟨u, hu, rfl⟩ := enum_get hw
    subst ex eH
    exact new_pair R hT (.int _) (rws_at r hu (y vs t))
theorem wk_enumV {a : Addr} {ws : List W} {vs : List V} (t : SqT X.K H a vs) (r : RWs X.J ρ H ws vs) : Wk X (IteT X.K a) (.enumV ws) ρ H where
  goes := fun ρ1 S1 H1 us i L R e hi => by
    cases e
    obtain ⟨v, hv⟩ := get_len r (by simpa [enum_len] using hi)
    exact ⟨vs, v, L.sqt _ _ t, hv⟩
  stops := fun ρ1 S1 H1 us L R e => by
    cases e
    exact ⟨vs, L.sqt _ _ t, by rw [enum_len, r.length]⟩
  yields := fun ρ1 S1 H1 us i w x H' L R e hw y => by
    cases e
    obtain ⟨T, x', ex, hT, eH, y⟩ := y
    obtain ⟨u, hu, rfl⟩ := enum_get hw
    subst ex eH
    exact new_pair R hT (.int _) (rws_at (r.mono L) hu (y vs (L.sqt _ _ t)))
theorem zip_get {as bs : List W} {i : Nat} {w : W} (h : (as.zipWith (fun x y => W.tup [x, y]) bs)[i]? = some w) : ∃ a b, as[i]? = some a ∧ bs[i]? = some b ∧ w = .tup [a, b] := by
  rw [List.getElem?_zipWith] at h
  cases e1 : as[i]? with
  | none => rw [e1] at h; cases h
  | some a =>
    cases e2 : bs[i]? with
    | none => rw [e1, e2] at h; cases h
    | some b => rw [e1, e2] at h; cases h; exact ⟨a, b, rfl, rfl, rfl⟩
theorem zipL_now {n m : Nat} {us : List W} (e : (Src.zipL n m).now S = some us) : ∃ as bs, lstOf S n = some as ∧ lstOf S m = some bs ∧ us = as.zipWith (fun x y => W.tup [x, y]) bs := by
  have e : (match lstOf S n, lstOf S m with
    | some a, some b => some (a.zipWith (fun x y => W.tup [x, y]) b)
    | _, _ => none) = some us := e
  split at e
  · rename_i a b h1 h2
    cases e
    exact ⟨a, b, h1, h2, rfl⟩
  · cases e
theorem wk_zipL {a b : Addr} {n m : Nat} (hn : ρ[n]? = some a) (hm : ρ[m]? = some b) : Wk X (Itz X.K a b) (.zipL n m) ρ H where
  goes := fun ρ1 S1 H1 us i L R e hi => by
    obtain ⟨as, bs, e1, e2, rfl⟩ := zipL_now e
    obtain ⟨xs, t1, r1⟩ := R.lstOf (L.at_ hn) e1
    obtain ⟨ys, t2, r2⟩ := R.lstOf (L.at_ hm) e2
    rw [List.length_zipWith] at hi
    obtain ⟨v, hv⟩ := get_len r1 (i := i) (by omega)
    obtain ⟨v', hv'⟩ := get_len r2 (i := i) (by omega)
    exact ⟨xs, ys, v, v', t1, t2, hv, hv'⟩
  stops := fun ρ1 S1 H1 us L R e => by
    obtain ⟨as, bs, e1, e2, rfl⟩ := zipL_now e
    obtain ⟨xs, t1, r1⟩ := R.lstOf (L.at_ hn) e1
    obtain ⟨ys, t2, r2⟩ := R.lstOf (L.at_ hm) e2
    refine ⟨xs, ys, t1, t2, ?_⟩
    rw [List.length_zipWith, ← r1.length, ← r2.length]
    omega
  yields := fun ρ1 S1 H1 us i w x H' L R e hw y => by
    obtain ⟨as, bs, e1, e2, rfl⟩ := zipL_now e
    obtain ⟨xs, t1, r1⟩ := R.lstOf (L.at_ hn) e1
    obtain ⟨ys, t2, r2⟩ := R.lstOf (L.at_ hm) e2
    obtain ⟨T, x', y', ex, hT, eH, y1, y2⟩ := y
    obtain ⟨u, u', hu, hu', rfl⟩ := zip_get hw
    subst ex eH
    exact new_pair R hT (rws_at r1 hu (y1 xs t1)) (rws_at r2 hu' (y2 ys t2))
theorem wk_zipV {a b : Addr} {as bs : List W} {xs ys : List V} (t1 : SqT X.K H a xs) (r1 : RWs X.J ρ H as xs) (t2 : SqT X.K H b ys) (r2 : RWs X.J ρ H bs ys) : Wk X (RZ.ItzT X.K a b) (.zipV as bs) ρ H where
  goes := fun ρ1 S1 H1 us i L R e hi => by
    cases e
    rw [List.length_zipWith] at hi
    obtain ⟨v, hv⟩ := get_len r1 (i := i) (by omega)
    obtain ⟨v', hv'⟩ := get_len r2 (i := i) (by omega)
    exact ⟨xs, ys, v, v', L.sqt _ _ t1, L.sqt _ _ t2, hv, hv'⟩
  stops := fun ρ1 S1 H1 us L R e => by
    cases e
    refine ⟨xs, ys, L.sqt _ _ t1, L.sqt _ _ t2, ?_⟩
    rw [List.length_zipWith, ← r1.length, ← r2.length]
    omega
  yields := fun ρ1 S1 H1 us i w x H' L R e hw y => by
    cases e
    obtain ⟨T, x', y', ex, hT, eH, y1, y2⟩ := y
    obtain ⟨u, u', hu, hu', rfl⟩ := zip_get hw
    subst ex eH
    exact new_pair R hT (rws_at (r1.mono L) hu (y1 xs (L.sqt _ _ t1))) (rws_at (r2.mono L) hu' (y2 ys (L.sqt _ _ t2)))
/-! dicts, locked -/
theorem paired_at {α β : Type} {G : α → β → Prop} {l₁ : List α} {l₂ : List β} (h : Paired G l₁ l₂) {i : Nat} {a : α} {b : β} (h1 : l₁[i]? = some a) (h2 : l₂[i]? = some b) : G a b := by
  obtain ⟨b', e, g⟩ := paired_get h h1
  rw [h2] at e
  cases e
  exact g
theorem wk_keysK {d : Addr} {od : Obj} {kvs : List (W × W)} {qs : List (Key × V)} (h : H d = some (.frz od (.dK qs))) (r : RK X.J ρ H kvs qs) : Wk X (L2.Itk d od qs) (.vals (kvs.map (·.1))) ρ H where
  goes := fun ρ1 S1 H1 us i L R e hi => by
    cases e
    exact ⟨L.frz _ _ _ h, by rw [← Paired.length r]; simpa using hi⟩
  stops := fun ρ1 S1 H1 us L R e => by
    cases e
    exact ⟨L.frz _ _ _ h, by rw [← Paired.length r]; simp⟩
  yields := fun ρ1 S1 H1 us i w x H' L R e hw y => by
    cases e
    obtain ⟨e1, k, v, hk, ex⟩ := y
    subst e1 ex
    rw [List.getElem?_map] at hw
    obtain ⟨kv, hkv, rfl⟩ := Option.map_eq_some_iff.mp hw
    have g := paired_at r hkv hk
    refine ⟨.refl, R, ?_⟩
    cases e2 : kv.1 <;> rw [e2] at g <;> simp [kOf] at g
    · rw [← g.1]; exact .int _
    · rw [← g.1]; exact .str _
theorem wk_keysN {d : Addr} {od : Obj} {kvs : List (W × W)} {xs : List (NestedKey × Addr × Value)} (h : H d = some (.frz od (NDict X.prog X.w d xs))) (r : RN X.J ρ H kvs xs) : Wk X (Itn X.prog X.w d od xs) (.vals (kvs.map (·.1))) ρ H where
  goes := fun ρ1 S1 H1 us i L R e hi => by
    cases e
    exact ⟨L.frz _ _ _ h, by rw [← Paired.length r]; simpa using hi⟩
  stops := fun ρ1 S1 H1 us L R e => by
    cases e
    exact ⟨L.frz _ _ _ h, by rw [← Paired.length r]; simp⟩
  yields := fun ρ1 S1 H1 us i w x H' L R e hw y => by
    cases e
    obtain ⟨e1, q, hq, ex⟩ := y
    subst e1 ex
    rw [List.getElem?_map] at hw
    obtain ⟨kv, hkv, rfl⟩ := Option.map_eq_some_iff.mp hw
    exact ⟨.refl, R, (paired_at r hkv hq).2.1.mono L⟩
theorem wk_values {d : Addr} {od : Obj} {kvs : List (W × W)} {qs : List (Key × V)} (h : H d = some (.frz od (.dK qs))) (r : RK X.J ρ H kvs qs) : Wk X (Itd d od qs) (.vals (kvs.map (·.2))) ρ H where
  goes := fun ρ1 S1 H1 us i L R e hi => by
    cases e
    exact ⟨L.frz _ _ _ h, by rw [← Paired.length r]; simpa using hi⟩
  stops := fun ρ1 S1 H1 us L R e => by
    cases e
    exact ⟨L.frz _ _ _ h, by rw [← Paired.length r]; simp⟩
  yields := fun ρ1 S1 H1 us i w x H' L R e hw y => by
    cases e
    obtain ⟨e1, k, hk⟩ := y
    subst e1
    rw [List.getElem?_map] at hw
    obtain ⟨kv, hkv, rfl⟩ := Option.map_eq_some_iff.mp hw
    exact ⟨.refl, R, (paired_at r hkv hk).2.mono L⟩
theorem wk_items {d : Addr} {od : Obj} {kvs : List (W × W)} {qs : List (Key × V)} (h : H d = some (.frz od (.dK qs))) (r : RK X.J ρ H kvs qs) : Wk X (Iti d od qs) (.vals (kvs.map fun kv => .tup [kv.1, kv.2])) ρ H where
  goes := fun ρ1 S1 H1 us i L R e hi => by
    cases e
    exact ⟨L.frz _ _ _ h, by rw [← Paired.length r]; simpa using hi⟩
  stops := fun ρ1 S1 H1 us L R e => by
    cases e
    exact ⟨L.frz _ _ _ h, by rw [← Paired.length r]; simp⟩
  yields := fun ρ1 S1 H1 us i w x H' L R e hw y => by
    cases e
    obtain ⟨T, k, v, hk, ex, hT, eH⟩ := y
    subst ex eH
    rw [List.getElem?_map] at hw
    obtain ⟨kv, hkv, rfl⟩ := Option.map_eq_some_iff.mp hw
    have g := paired_at r hkv hk
    refine new_pair R hT ?_ (g.2.mono L)
    cases e2 : kv.1 <;> rw [e2] at g <;> simp [kOf] at g
    · rw [← g.1]; exact .int _
    · rw [← g.1]; exact .str _
end
end PI

set_option Elab.async false
set_option linter.all false
set_option maxRecDepth 100000
set_option maxHeartbeats 4000000
/-! what a for walks: the iterators are made -/
namespace PI
open PySem PySem.Spec PyProof.Rows L2
theorem PI.wk {X : Cx} {tg e : Expr} {t t' : TI} (h : L2.PI X tg e t) (k : ∀ σ H Q, t' σ H Q → t σ H Q) : L2.PI X tg e t' := ⟨fun pins s σ H Q I q => h.run pins s σ H Q I (k σ H Q q)⟩
section
variable {X : Cx} {xw : XW} {ρ : List Addr} {H : Hp} {S : Sto} {σ : L2.St} {pins : List (Addr × Obj)} {s : Shared} {tg : Expr} {R : It → Hp → Prop}
theorem evals_one {Φ : Fns} {a : E} {η : Env} {P : List W → Sto → List Addr → Hp → Prop} (h : Fin X xw ρ H (evals Φ (.cons a .nil) η S) P) : Fin X xw ρ H (eval Φ a η S) fun u S1 ρ1 H1 => P [u] S1 ρ1 H1 := by
  rw [evals] at h
  refine (Fin.bind h).imp fun u S1 ρ1 H1 L1 R1 q => ?_
  rw [evals] at q
  exact (Fin.bind q).ok_imp R1 |>.ok_imp R1
/-- one value, from which the iterator is made -/
theorem le_one {Φ : Fns} {a : E} {k : Itk} (h : LI X xw (evals Φ (.cons a .nil)) k σ H R) : LE X xw (eval Φ a) σ H fun x H1 => ∃ ρ S u, RW X.J ρ H1 u x ∧ Rel X.prog X.w X.J ρ S H1 ∧ Src1 X k [u] S ρ H1 R := by
  obtain ⟨ρ, S, η, re, R0, h⟩ := h
  exact ⟨ρ, S, η, re, R0, (evals_one h).imp fun u S1 ρ1 H1 L1 R1 q v rv => ⟨ρ1, S1, u, rv, R1, q⟩⟩
/-- a dict of the store, to be locked -/
theorem dct_lock (I : Inv X pins σ H s) (R0 : Rel X.prog X.w X.J ρ S H) {n : Nat} {d : Addr} (hn : ρ[n]? = some d) {kvs : List (W × W)} (e : S[n]? = some (.dct kvs)) :
    ∃ u od, Inv X pins σ (upd H d (.frz od u)) s ∧ Lck X (some n) ρ S H (upd H d (.frz od u)) ∧
      ((∃ qs, u = .dK qs ∧ RK X.J ρ (upd H d (.frz od u)) kvs qs) ∨ ∃ xs, u = NDict X.prog X.w d xs ∧ (d == sysModules) = false ∧ RN X.J ρ (upd H d (.frz od u)) kvs xs) := by
  have x := R0.at_ hn e
  obtain ⟨u, hu, mu, f⟩ := x.dct_inv
  rw [hu] at mu
  obtain ⟨od, I1⟩ := I.lock hu mu
  have L : Le X.J ρ H ρ (upd H d (.frz od u)) := Le.set hn fun q e' => by rw [hu] at e'; cases e'; exact f
  cases x with
  | dK h r =>
    rw [hu] at h
    cases h
    exact ⟨_, od, I1, ⟨d, _, _, od, kvs, hn, e, hu, f, f, rfl, I.nofrz hu mu, .fK upd_same (RK.mono L r)⟩, .inl ⟨_, rfl, RK.mono L r⟩⟩
  | dN h z r hl =>
    rw [hu] at h
    cases h
    exact ⟨_, od, I1, ⟨d, _, _, od, kvs, hn, e, hu, f, f, rfl, I.nofrz hu mu, .fN upd_same z (RN.mono L r) hl⟩, .inr ⟨_, rfl, z, RN.mono L r⟩⟩
theorem all_flat_nil {xs : List (NestedKey × Addr × Value)} {kvs : List (W × W)} (r : RN X.J ρ H kvs xs) (hf : (kvs.all fun kv => flatKey kv.1) = true) : kvs = [] ∧ xs = [] := by
  have e := all_both hf r.all
  subst e
  cases r
  exact ⟨rfl, rfl⟩
/-- .. whose keys are ints and texts -/
theorem dct_lockF (I : Inv X pins σ H s) (R0 : Rel X.prog X.w X.J ρ S H) {n : Nat} {d : Addr} (hn : ρ[n]? = some d) {kvs : List (W × W)} (e : S[n]? = some (.dct kvs)) (hf : (kvs.all fun kv => flatKey kv.1) = true) :
    ∃ qs od, Inv X pins σ (upd H d (.frz od (.dK qs))) s ∧ Lck X (some n) ρ S H (upd H d (.frz od (.dK qs))) ∧ RK X.J ρ (upd H d (.frz od (.dK qs))) kvs qs := by
  have x := R0.at_ hn e
  obtain ⟨u, hu, mu, f⟩ := x.dct_inv
  have mu0 := mu
  rw [hu] at mu
  cases x with
  | dK h r =>
    rw [hu] at h
    cases h
    obtain ⟨od, I1⟩ := I.lock hu mu
    rename_i qs
    have L : Le X.J ρ H ρ (upd H d (.frz od (.dK qs))) := Le.set hn fun q e' => by rw [hu] at e'; cases e'; exact f
    exact ⟨_, od, I1, ⟨d, _, _, od, kvs, hn, e, hu, f, f, rfl, I.nofrz hu mu, .fK upd_same (RK.mono L r)⟩, RK.mono L r⟩
  | dN h z r hl =>
    rw [hu] at h
    cases h
    obtain ⟨rfl, rfl⟩ := all_flat_nil r hf
    have dd := Inv.ndict I (.of hu) r
    have I0 : Inv X pins σ (upd H d (.dK [])) s := by
      have ho : ∃ q, s.heap.get? d = some q := let ⟨q, _, _, hq, _⟩ := dd; ⟨q, hq⟩
      exact d_write (t' := s.toks) (h' := s.heap) I mu0 ⟨rfl, fun _ _ => rfl⟩ ho (dk_new (Nat.zero_le _) z .nil (ofH_nil dd))
    obtain ⟨od, I1⟩ := I0.lock (d := d) upd_same trivial
    rw [upd_upd] at I1
    exact ⟨[], od, I1, ⟨d, _, _, od, [], hn, e, hu, f, free_dK, rfl, I.nofrz hu mu, .fK upd_same .nil⟩, .nil⟩
theorem it_keysK {H : Hp} {d : Addr} {od : Obj} {kvs : List (W × W)} {qs : List (Key × V)} (I : Inv X pins σ H s) (h : H d = some (.frz od (.dK qs))) (r : RK X.J ρ H kvs qs)
    (q : ∀ J, Wk X J (.vals (kvs.map (·.1))) ρ H → R J H) : wpAny (model X.prog X.w) X.A (pyIter (.ref d)) (PIE X pins σ tg R) X.xe s := by
  obtain ⟨hs, hgd, hx, es, ep, vs, hdt, hsz, kv, hm⟩ := I.frzK h
  refine iter_keys hs hgd hx hdt (pi_one (tk := s.toks) I _ (turn_keys _ hdt) ⟨_, Heap.get?_push_size _ rfl, rfl, ?_⟩ (q _ (wk_keysK h r)))
  rw [hsz] <;> rfl
theorem it_keysN {H : Hp} {d : Addr} {od : Obj} {kvs : List (W × W)} {xs : List (NestedKey × Addr × Value)} (I : Inv X pins σ H s) (hs : (d == sysModules) = false) (h : H d = some (.frz od (NDict X.prog X.w d xs))) (r : RN X.J ρ H kvs xs)
    (q : ∀ J, Wk X J (.vals (kvs.map (·.1))) ρ H → R J H) : wpAny (model X.prog X.w) X.A (pyIter (.ref d)) (PIE X pins σ tg R) X.xe s := by
  obtain ⟨hgd, hx, es, ep, hdt, hsz, he⟩ := Inv.frzN I h
  refine iter_keys hs hgd hx hdt (pi_one (tk := s.toks) I _ (turn_keysN _ hs hdt) ⟨_, Heap.get?_push_size _ rfl, rfl, ?_⟩ (q _ (wk_keysN h r)))
  rw [hsz] <;> rfl
theorem i_plain {e : Expr} {Φ : Fns} {a : E} (ha : Snd X xw e (eval Φ a)) : L2.PI X tg e (LI X xw (evals Φ (.cons a .nil)) .plain) := by
  refine ⟨fun pins s σ H R I h => thn (ha.pe.run pins s σ H _ I (le_one h)) fun v s1 ⟨x, H1, I1, r1, ρ1, S1, u, ru, R1, src, l, es, q⟩ => ?_⟩
  cases ru with
  | tup t r =>
    cases es
    cases r1
    obtain ⟨its, rv, p, hz⟩ := I1.tuple t
    refine wpAny_pyIter_tuple (show s1.heap.IsTuple _ its.toArray from p) ?_
    refine ⟨s1.heap.objs.size, [s1.heap.objs.size], _, _, H1, rfl, I1.kept (t' := s1.toks) fun b o e => Heap.get?_push_of_some _ e, turn_tuple _ _, ⟨_, Heap.get?_push_size _ rfl, rfl, rfl⟩, fun b hb => ?_, q _ _ (wk_tup t r) rfl⟩
    have e : b = s1.heap.objs.size := by simpa using hb
    subst e
    exact I1.fpOk (Nat.le_refl _) (I1.hok.fresh (Nat.le_refl _))
  | str z =>
    cases es
    obtain ⟨t, rfl⟩ := r1
    cases ha : z.cps.all (· < 128)
    · exact wpAny_pyIter_wide ha (pi_one (tk := s1.toks) I1 _ (turn_str _ z t "str_iterator" (.inr rfl)) ⟨_, Heap.get?_push_size _ rfl, rfl, rfl⟩ (q _ _ wk_str rfl))
    · exact wpAny_pyIter_ascii ha (pi_one (tk := s1.toks) I1 _ (turn_str _ z t "str_ascii_iterator" (.inl rfl)) ⟨_, Heap.get?_push_size _ rfl, rfl, rfl⟩ (q _ _ wk_str rfl))
  | ref hn =>
    rename_i n d
    cases r1
    simp only [srcOf] at es
    split at es
    · rename_i ws e0
      cases es
      obtain ⟨vs, t, r⟩ := R1.lstOf hn (by unfold PI.lstOf; rw [e0])
      obtain ⟨its, rv, p, hz⟩ := I1.list t
      refine wpAny_pyIter_list p.isList ?_
      refine ⟨s1.heap.objs.size, [s1.heap.objs.size], _, _, H1, rfl, I1.kept (t' := s1.toks) fun b o e => Heap.get?_push_of_some _ e, turn_list _ _, ⟨_, Heap.get?_push_size _ rfl, rfl, rfl⟩, fun b hb => ?_, q _ _ (wk_list hn) rfl⟩
      have e : b = s1.heap.objs.size := by simpa using hb
      subst e
      exact I1.fpOk (Nat.le_refl _) (I1.hok.fresh (Nat.le_refl _))
    · rename_i kvs e0
      cases es
      obtain ⟨u, od, I2, lk, w⟩ := dct_lock I1 R1 hn e0
      rcases w with ⟨qs, rfl, r⟩ | ⟨xs, rfl, hs, r⟩
      · exact it_keysK I2 upd_same r fun J wk => q J _ (by
          exact ⟨fun ρ2 S2 H2 ws i L' => wk.goes ρ2 S2 H2 ws i L', fun ρ2 S2 H2 ws L' => wk.stops ρ2 S2 H2 ws L', fun ρ2 S2 H2 ws i w x H' L' => wk.yields ρ2 S2 H2 ws i w x H' L'⟩) lk
      · exact it_keysN I2 hs upd_same r fun J wk => q J _ wk lk
    · rename_i kvs e0
      cases es
      have x := R1.at_ hn e0
      cases x with
      | fK h r => exact it_keysK I1 h r fun J wk => q J _ wk rfl
      | fN h z r hl => exact it_keysN I1 z h r fun J wk => q J _ wk rfl
    · cases es
  | _ => cases es
/-! ### range -/
theorem la_of {m : Env → Sto → Res (List W)} {k : Itk} {P : List V → Hp → Prop} (h : LI X xw m k σ H R) (f : ∀ ρ S us vs H1, RWs X.J ρ H1 us vs → Rel X.prog X.w X.J ρ S H1 → Src1 X k us S ρ H1 R → P vs H1) : LA X xw m σ H P := by
  obtain ⟨ρ, S, η, re, R0, h⟩ := h
  exact ⟨ρ, S, η, re, R0, h.imp fun us S1 ρ1 H1 L1 R1 q vs rvs => f ρ1 S1 us vs H1 rvs R1 q⟩
theorem i_range1 {a : Expr} {m : Env → Sto → Res (List W)} {p pos : Pos} (hg : Gl X "range") (hm : X.mg "range" = none) (hs : notStar a = true) (ha : PA X [a] (LA X xw m)) : L2.PI X tg (.Call (.Name "range" p) [a] [] pos) (LI X xw m .range1) := by
  refine PI.wk (pi_range1 hg hm ha (star_cons hs)) fun σ H R h => la_of h fun ρ S us vs H1 r R1 ⟨src, l, es, q⟩ => ?_
  simp only [srcOf] at es
  split at es
  · rename_i j hx0
    split at es
    · rename_i hc
      cases es
      obtain ⟨x, rfl, rx⟩ := rws1 r rfl
      cases rx
      exact ⟨j, rfl, hc.1, hc.2, q _ _ wk_range rfl⟩
    · cases es
  · cases es
theorem i_range2 {a b : Expr} {m : Env → Sto → Res (List W)} {p pos : Pos} (hg : Gl X "range") (hm : X.mg "range" = none) (hs : notStar a = true) (hs2 : notStar b = true) (ha : PA X [a, b] (LA X xw m)) : L2.PI X tg (.Call (.Name "range" p) [a, b] [] pos) (LI X xw m .range2) := by
  refine PI.wk (pi_range2 hg hm ha (by rw [star_cons hs, star_cons hs2]; rfl) (star_cons hs2)) fun σ H R h => la_of h fun ρ S us vs H1 r R1 ⟨src, l, es, q⟩ => ?_
  simp only [srcOf] at es
  split at es
  · rename_i i j hx0
    split at es
    · rename_i hc
      cases es
      obtain ⟨x, y, rfl, rx, ry⟩ := rws2 r rfl
      cases rx
      cases ry
      exact ⟨i, j, rfl, hc, q _ _ wk_range rfl⟩
    · cases es
  · cases es
/-! ### enumerate, zip -/
theorem i_enum {e : Expr} {m : Env → Sto → Res (List W)} {p pos tpos : Pos} {elts : List Expr} {kk : Nat} (hg : Gl X "enumerate") (hm : X.mg "enumerate" = none) (hs : notStar e = true) (ha : PA X [e] (LA X xw m)) :
    L2.PI X (.Tuple elts kk tpos) (.Call (.Name "enumerate" p) [e] [] pos) (LI X xw m .enum) := by
  refine ⟨fun pins s σ H R I h => ?_⟩
  have h' : LA X xw m σ H fun vs H1 => ∃ ρ S us, RWs X.J ρ H1 us vs ∧ Rel X.prog X.w X.J ρ S H1 ∧ Src1 X .enum us S ρ H1 R := la_of h fun ρ S us vs H1 r R1 q => ⟨ρ, S, us, r, R1, q⟩
  refine Call_ (ld_blt I hg hm boot_enumerate (PyProof.Rows.callWith_type1 (thn (ha.run pos pins s σ H _ I h') fun us s1 ⟨vs, H1, I1, r1, ρ1, S1, ws, rw, R1, src, l, es, q⟩ => ?_) (star_cons hs) rfl))
  simp only [srcOf] at es
  split at es
  · rename_i xs
    cases es
    obtain ⟨x, rfl, rx⟩ := rws1 rw rfl
    obtain ⟨v, rfl, rv⟩ := vals1 r1
    obtain ⟨a, vs, rfl, t, r⟩ := rw_tup rx
    cases rv
    obtain ⟨its, rv, p', hz⟩ := I1.tuple t
    have hl : a < s1.heap.objs.size := p'.lt
    refine call_enumerate_tuple (show s1.heap.IsTuple a its.toArray from p') fun h' he hit hsz hk => wpAny_pyIter_enum he ?_
    have I2 : Inv X pins σ H1 { s1 with heap := h' } := I1.kept (t' := s1.toks) hk
    refine ⟨s1.heap.objs.size + 1, [s1.heap.objs.size + 1, s1.heap.objs.size], _, _, H1, rfl, I2, turn_enumT a (s1.heap.objs.size + 1) s1.heap.objs.size, ⟨⟨.none, he⟩, hit, Nat.succ_ne_self _, Nat.ne_of_lt hl, Nat.ne_of_lt (Nat.lt_succ_of_lt hl)⟩, fun b hb => ?_, q _ _ (wk_enumV t r) rfl⟩
    have e' : b = s1.heap.objs.size + 1 ∨ b = s1.heap.objs.size := by simpa using hb
    have hle : s1.heap.objs.size ≤ b := by
      rcases e' with z | z
      · rw [z]; exact Nat.le_add_right _ _
      · rw [z]; exact Nat.le_refl _
    exact I1.fpOk hle (I1.hok.fresh hle)
  · rename_i n
    obtain ⟨ws0, e0, es⟩ := Option.map_eq_some_iff.mp es
    cases es
    obtain ⟨x, rfl, rx⟩ := rws1 rw rfl
    obtain ⟨v, rfl, rv⟩ := vals1 r1
    obtain ⟨a, rfl, hn⟩ := rw_ref rx
    cases rv
    obtain ⟨vs, t, r⟩ := R1.lstOf hn e0
    obtain ⟨its, rv, p', hz⟩ := I1.list t
    refine call_enumerate_list p'.isList fun h' he hit hsz hk => wpAny_pyIter_enum he ?_
    have I2 : Inv X pins σ H1 { s1 with heap := h' } := I1.kept (t' := s1.toks) hk
    refine ⟨s1.heap.objs.size + 1, [s1.heap.objs.size + 1, s1.heap.objs.size], _, _, H1, rfl, I2, turn_enum a (s1.heap.objs.size + 1) s1.heap.objs.size, ⟨⟨.none, he⟩, hit, Nat.succ_ne_self _⟩, fun b hb => ?_, q _ _ (wk_enumL hn) rfl⟩
    have e' : b = s1.heap.objs.size + 1 ∨ b = s1.heap.objs.size := by simpa using hb
    have hle : s1.heap.objs.size ≤ b := by
      rcases e' with z | z
      · rw [z]; exact Nat.le_add_right _ _
      · rw [z]; exact Nat.le_refl _
    exact I1.fpOk hle (I1.hok.fresh hle)
  · cases es
theorem i_zip {e e2 : Expr} {m : Env → Sto → Res (List W)} {p pos tpos : Pos} {elts : List Expr} {kk : Nat} (hg : Gl X "zip") (hm : X.mg "zip" = none) (hs : notStar e = true) (hs2 : notStar e2 = true) (ha : PA X [e, e2] (LA X xw m)) :
    L2.PI X (.Tuple elts kk tpos) (.Call (.Name "zip" p) [e, e2] [] pos) (LI X xw m .zip) := by
  refine PI.wk (RZ.pi_zipA hg hm ha (star_cons hs) (star_plain (by simp [hs2]))) fun σ H R h => la_of h fun ρ S us vs H1 r R1 ⟨src, l, es, q⟩ => ?_
  simp only [srcOf] at es
  split at es
  · rename_i as bs
    cases es
    obtain ⟨x, y, rfl, rx, ry⟩ := rws2 r rfl
    obtain ⟨a, xs, rfl, t1, r1⟩ := rw_tup rx
    obtain ⟨b, ys, rfl, t2, r2⟩ := rw_tup ry
    exact ⟨a, b, xs, ys, rfl, .inr ⟨t1, t2, q _ _ (wk_zipV t1 r1 t2 r2) rfl⟩⟩
  · rename_i n m
    split at es
    · rename_i as bs e1 e2
      cases es
      obtain ⟨x, y, rfl, rx, ry⟩ := rws2 r rfl
      obtain ⟨a, rfl, hn⟩ := rw_ref rx
      obtain ⟨b, rfl, hm⟩ := rw_ref ry
      obtain ⟨xs, t1, r1⟩ := R1.lstOf hn e1
      obtain ⟨ys, t2, r2⟩ := R1.lstOf hm e2
      exact ⟨a, b, xs, ys, rfl, .inl ⟨t1, t2, q _ _ (wk_zipL hn hm) rfl⟩⟩
    · cases es
  · cases es
/-! ### items, values -/
theorem i_items {e : Expr} {Φ : Fns} {a : E} {elts : List Expr} {kk : Nat} {tpos apos cpos : Pos} (hb : notSuper e = true) (hline : (apos.endLine == cpos.line) = true) (ha : Snd X xw e (eval Φ a)) :
    L2.PI X (.Tuple elts kk tpos) (.Call (.Attribute e "items" apos) [] [] cpos) (LI X xw (evals Φ (.cons a .nil)) .items) := by
  refine ⟨fun pins s σ H R I h => ?_⟩
  refine wpAny_Call_method (T := "dict") (id := "dict.items") (attr_base hb) rfl hline F.plainAttrs_dict F.slot_dict_items F.type_dict_items (thn (ha.pe.run pins s σ H _ I (le_one h)) fun v s1 ⟨x, H0, I0, r1, ρ1, S1, u, ru, R1, src, l, es, q⟩ => ?_)
  simp only [srcOf] at es
  split at es
  · rename_i n hl0
    cases hl0
    split at es
    · rename_i kvs e0
      split at es
      · rename_i hf
        cases es
        obtain ⟨d, rfl, hn⟩ := rw_ref ru
        obtain rfl : v = Value.ref d := r1
        obtain ⟨qs, od, I1, lk, rk⟩ := dct_lockF I0 R1 hn e0 hf
        obtain ⟨hs, hgd, hx, es, ep, vs, hdt, hsz, kv, hm⟩ := I1.frzK upd_same
        have hl : qs.length = vs.length := Paired.length kv
        refine ⟨hm.dictOf.typeIs, hm.dictOf.mapOf.noDict, ?_⟩
        have I2 : Inv X pins σ (upd H0 d (.frz od (.dK qs))) { s1 with heap := s1.heap.push { cls := .type "dict_items", data := .fields #[.ref d] } } := I1.kept (t' := s1.toks) fun b ob q => Heap.get?_push_of_some _ q
        have fin : wpAny (model X.prog X.w) X.A (pyIter (.ref s1.heap.objs.size)) (PIE X pins σ (.Tuple elts kk tpos) R) X.xe { s1 with heap := s1.heap.push { cls := .type "dict_items", data := .fields #[.ref d] } } := by
          refine wpAny_pyIter_items (d := d) (knd := mixKind X.prog X.w) ⟨_, Heap.get?_push_size _ rfl, rfl, rfl⟩ (hm.push _) (pi_one (tk := s1.toks) I2 _ (turn_items _ hdt) ⟨.none, .none, ?_⟩ (q _ _ (wk_items upd_same rk) lk))
          rw [hl]
          exact Heap.get?_push_size _ rfl
        show wpAny _ _ (callWith cpos (.builtin "dict.items") [.ref d] [] []) _ X.xe s1
        exact method_meetsIn F.slot_dict_items F.entry_dict_items rfl (PySem.evalArgs_none ⟨rfl, hm.dictOf.typeIs, F.args_dict_items_1 _, _, meets_dict_items (mixKind X.prog X.w) d hs, ⟨vs, hm.dictOf⟩, fin⟩)
      · cases es
    · cases es
  · cases es
theorem i_values {e : Expr} {Φ : Fns} {a : E} {apos cpos : Pos} (hb : notSuper e = true) (hline : (apos.endLine == cpos.line) = true) (ha : Snd X xw e (eval Φ a)) :
    L2.PI X tg (.Call (.Attribute e "values" apos) [] [] cpos) (LI X xw (evals Φ (.cons a .nil)) .values) := by
  refine ⟨fun pins s σ H R I h => ?_⟩
  refine wpAny_Call_method (T := "dict") (id := "dict.values") (attr_base hb) rfl hline F.plainAttrs_dict F.slot_dict_values F.type_dict_values (thn (ha.pe.run pins s σ H _ I (le_one h)) fun v s1 ⟨x, H0, I0, r1, ρ1, S1, u, ru, R1, src, l, es, q⟩ => ?_)
  simp only [srcOf] at es
  split at es
  · rename_i n hl0
    cases hl0
    split at es
    · rename_i kvs e0
      split at es
      · rename_i hf
        cases es
        obtain ⟨d, rfl, hn⟩ := rw_ref ru
        obtain rfl : v = Value.ref d := r1
        obtain ⟨qs, od, I1, lk, rk⟩ := dct_lockF I0 R1 hn e0 hf
        obtain ⟨hs, hgd, hx, es, ep, vs, hdt, hsz, kv, hm⟩ := I1.frzK upd_same
        have hl : qs.length = vs.length := Paired.length kv
        refine ⟨hm.dictOf.typeIs, hm.dictOf.mapOf.noDict, ?_⟩
        have I2 : Inv X pins σ (upd H0 d (.frz od (.dK qs))) { s1 with heap := s1.heap.push { cls := .type "dict_values", data := .fields #[.ref d] } } := I1.kept (t' := s1.toks) fun b ob q => Heap.get?_push_of_some _ q
        have fin : wpAny (model X.prog X.w) X.A (pyIter (.ref s1.heap.objs.size)) (PIE X pins σ tg R) X.xe { s1 with heap := s1.heap.push { cls := .type "dict_values", data := .fields #[.ref d] } } := by
          refine wpAny_pyIter_values (d := d) (knd := mixKind X.prog X.w) ⟨_, Heap.get?_push_size _ rfl, rfl, rfl⟩ (hm.push _) (pi_one (tk := s1.toks) I2 _ (turn_vals _ hdt) ⟨_, Heap.get?_push_size _ rfl, rfl, ?_⟩ (q _ _ (wk_values upd_same rk) lk))
          rw [hl] <;> rfl
        show wpAny _ _ (callWith cpos (.builtin "dict.values") [.ref d] [] []) _ X.xe s1
        exact method_meetsIn F.slot_dict_values F.entry_dict_values rfl (PySem.evalArgs_none ⟨rfl, hm.dictOf.typeIs, F.args_dict_values_1 _, _, meets_dict_values (mixKind X.prog X.w) d hs, ⟨vs, hm.dictOf⟩, fin⟩)
      · cases es
    · cases es
  · cases es
end
end PI

set_option Elab.async false
set_option linter.all false
set_option maxRecDepth 100000
set_option maxHeartbeats 4000000
/-! targets, statements, loops -/
namespace PI
open PySem PySem.Spec PyProof.Rows L2
/-- what is asked of the world behind a statement -/
def SFin (X : Cx) (xw : XW) (ρ : List Addr) (H : Hp) (r : SRes) (D : Ends) : Prop := match r with
  | .nx η S => ∀ ρ' H' σ', Le X.J ρ H ρ' H' → Rel X.prog X.w X.J ρ' S H' → REnv X.J ρ' H' η σ' → D.nx σ' H'
  | .rt w S => ∀ ρ' H' v, Le X.J ρ H ρ' H' → Rel X.prog X.w X.J ρ' S H' → RW X.J ρ' H' w v → D.rt v H'
  | .bk η S => ∀ ρ' H' σ', Le X.J ρ H ρ' H' → Rel X.prog X.w X.J ρ' S H' → REnv X.J ρ' H' η σ' → D.bk σ' H'
  | .ct η S => ∀ ρ' H' σ', Le X.J ρ H ρ' H' → Rel X.prog X.w X.J ρ' S H' → REnv X.J ρ' H' η σ' → D.ct σ' H'
  | .exc c fs _ S => ∀ ρ' H' cls d, Le X.J ρ H ρ' H' → Rel X.prog X.w X.J ρ' S H' → RX X ρ' H' c fs cls d → xw cls d H'
  | .bad => False
def LS (X : Cx) (xw : XW) (m : Env → Sto → SRes) : TS := fun D σ H => ∃ ρ S η, REnv X.J ρ H η σ ∧ Rel X.prog X.w X.J ρ S H ∧ SFin X xw ρ H (m η S) D
def LG (X : Cx) (xw : XW) (Φ : Fns) (tg : E) : TG := fun v σ H Q => ∃ ρ S η w, RW X.J ρ H w v ∧ REnv X.J ρ H η σ ∧ Rel X.prog X.w X.J ρ S H ∧ Fin X xw ρ H (asgE Φ tg w η S) fun η1 _ ρ1 H1 => ∀ σ1, REnv X.J ρ1 H1 η1 σ1 → Q σ1 H1
def LGs (X : Cx) (xw : XW) (Φ : Fns) (tg : E) : TGs := fun vs σ H Q => ∃ ρ S η ws, RWs X.J ρ H ws vs ∧ REnv X.J ρ H η σ ∧ Rel X.prog X.w X.J ρ S H ∧ Fin X xw ρ H (asgEs Φ tg ws η S) fun η1 _ ρ1 H1 => ∀ σ1, REnv X.J ρ1 H1 η1 σ1 → Q σ1 H1
section
variable {X : Cx} {xw : XW} {ρ ρ1 : List Addr} {H H1 : Hp} {S : Sto} {σ : L2.St} {pins : List (Addr × Obj)} {s : Shared} {D : Ends}
theorem SFin.no (h : SFin X xw ρ H .bad D) : False := h
theorem SFin.mono {r : SRes} (h : SFin X xw ρ H r D) (x : Le X.J ρ H ρ1 H1) : SFin X xw ρ1 H1 r D := by
  cases r with
  | nx η S => exact fun ρ' H' σ' L R e => h ρ' H' σ' (x.trans L) R e
  | rt w S => exact fun ρ' H' σ' L R e => h ρ' H' σ' (x.trans L) R e
  | bk η S => exact fun ρ' H' σ' L R e => h ρ' H' σ' (x.trans L) R e
  | ct η S => exact fun ρ' H' σ' L R e => h ρ' H' σ' (x.trans L) R e
  | exc c fs η S => exact fun ρ' H' cls d L R e => h ρ' H' cls d (x.trans L) R e
  | bad => exact h
theorem SFin.go {α : Type} {r : Res α} {η : Env} {f : α → Sto → SRes} (h : SFin X xw ρ H (r.go η f) D) : Fin X xw ρ H r fun a S1 ρ1 H1 => SFin X xw ρ1 H1 (f a S1) D := by
  cases r with
  | ok a S =>
    have h' : SFin X xw ρ H (f a S) D := h
    exact fun ρ' H' L R => h'.mono L
  | exc c fs S => exact h
  | bad => exact h
/-! ### targets -/
def locB (fnb : Str → Bool) (sc : Scope) (x : Str) : Bool := decide (sc.names.lookup x = some .local) || (decide (sc.names.lookup x = some .cell) && fnb x)
theorem locB_ok {fnb : Str → Bool} {x : Str} (hf : ∀ x, fnb x = true → X.fn x = true) (h : locB fnb X.env.scope x = true) : Loc X.env.scope x ∧ (X.fn x = true ∨ X.env.scope.names.lookup x = some .local) := by
  unfold locB at h
  rw [Bool.or_eq_true, decide_eq_true_eq, Bool.and_eq_true, decide_eq_true_eq] at h
  rcases h with h | h
  · exact ⟨.inl h, .inr h⟩
  · exact ⟨.inr h.1, .inl (hf x h.2)⟩
theorem g_name {i : Nat} {x : Str} {pos : Pos} {Φ : Fns} (hN : X.N.Nodup) (hi : X.N[i]? = some x) (hx : Loc X.env.scope x) (hf : X.fn x = true ∨ X.env.scope.names.lookup x = some .local) : PG X (.Name x pos) (LG X xw Φ (.v i)) :=
  PG.wk (pg_name hN hi hx hf) fun v σ H Q ⟨ρ, S, η, w, rw, re, R, h⟩ => by
    rw [asgE] at h
    exact h.ok_imp R _ (re.set i rw)
theorem gs_nil {Φ : Fns} : PGs X [] (LGs X xw Φ .nil) := PGs.wk pgs_nil fun vs σ H Q ⟨ρ, S, η, ws, rws, re, R, h⟩ => by
  unfold asgEs at h
  split at h
  · cases rws
    exact ⟨rfl, h.ok_imp R _ re⟩
  · exact h.no.elim
theorem assign_map {e : Expr} {es : List Expr} {env : PySem.Env} (h : notStar e = true) : (assignEach (e :: es) env).map (·.2) = assign e env :: (assignEach es env).map (·.2) := by
  cases e <;> first
    | rfl
    | cases h
theorem assign_len {env : PySem.Env} : ∀ {es : List Expr}, es.all notStar = true → (assignEach es env).length = es.length ∧ (assignEach es env).findIdx? (·.1) = none
  | [], _ => ⟨rfl, rfl⟩
  | e :: es, h => by
    rw [List.all_cons, Bool.and_eq_true] at h
    have q := assign_len (env := env) h.2
    have e0 : assignEach (e :: es) env = (false, assign e env) :: assignEach es env := by
      have := h.1
      cases e <;> first
        | rfl
        | cases this
    rw [e0]
    refine ⟨by simp [q.1], ?_⟩
    rw [List.findIdx?_cons, q.2]
    rfl
theorem gs_cons {e : Expr} {es : List Expr} {Φ : Fns} {a r : E} (hs : notStar e = true) (h1 : PG X e (LG X xw Φ a)) (h2 : PGs X es (LGs X xw Φ r)) : PGs X (e :: es) (LGs X xw Φ (.cons a r)) :=
  PGs.wk (pgs_cons h1 h2 (assign_map hs)) fun vs σ H Q ⟨ρ, S, η, ws, rws, re, R, h⟩ => by
    unfold asgEs at h
    split at h
    · cases rws with
      | cons q rws =>
        exact ⟨_, _, rfl, ρ, S, η, _, q, re, R, (Fin.bind h).imp fun η1 S1 ρ1 H1 L1 R1 q1 σ1 re1 => ⟨ρ1, S1, η1, _, rws.mono L1, re1, R1, q1⟩⟩
    · exact h.no.elim
theorem g_tup {es : List Expr} {k : Nat} {pos : Pos} {Φ : Fns} {r : E} (hc : X.calm = true) (hs : es.all notStar = true) (hl : ∀ (ws : List W) η S, ws.length ≠ es.length → asgEs Φ r ws η S = .bad) (h : PGs X es (LGs X xw Φ r)) : PG X (.Tuple es k pos) (LG X xw Φ (.tup r)) :=
  PG.wk (pg_tup hc h (assign_len hs).1 (assign_len hs).2) fun v σ H Q ⟨ρ, S, η, w, rw, re, R, q⟩ => by
    unfold asgE at q
    split at q
    · rename_i ws
      obtain ⟨a, vs, rfl, t, rws⟩ := rw_tup rw
      by_cases hw : ws.length = es.length
      · exact ⟨a, vs, rfl, t, by rw [← rws.length]; exact hw, ρ, S, η, ws, rws, re, R, q⟩
      · rw [hl ws η S hw] at q
        exact q.no.elim
    · exact q.no.elim
theorem g_ix {o i : Expr} {pos : Pos} {Φ : Fns} {eo ei : E} (hu : X.A.units + 64 < cLine) (hs : notSlice i = true) (ho : Snd X xw o (eval Φ eo)) (hi : Snd X xw i (eval Φ ei)) : PG X (.Subscript o i pos) (LG X xw Φ (.ix eo ei)) := by
  refine PG.wk (pg_sub ho.pe hi.pe (set_W hu) (fun v => ?_)) fun v σ H Q ⟨ρ, S, η, w, rw, re, R, h⟩ => ?_
  · cases i <;> first
      | rfl
      | cases hs
  · rw [asgE] at h
    refine ⟨ρ, S, η, re, R, (Fin.bind h).imp fun x S1 ρ1 H1 L1 R1 q v1 rv1 => ⟨ρ1, S1, η, re.mono L1, R1, (Fin.bind q).imp fun y S2 ρ2 H2 L2 R2 q2 v2 rv2 => ?_⟩⟩
    refine ⟨ρ2, S2, x, y, w, rv1.mono L2, rv2, (rw.mono L1).mono L2, R2, xw, (Fin.bind q2).imp fun _ S3 ρ3 H3 L3 R3 q3 => ?_⟩
    exact q3.ok_imp R3 _ (((re.mono L1).mono L2).mono L3)
mutual
theorem bindT_asg {Φ : Fns} : ∀ (tg : E) (w : W) (η η1 : Env) (S : Sto), bindT tg w η = some η1 → asgE Φ tg w η S = .ok η1 S
  | .v i, w, η, η1, S, h => by
    unfold bindT at h
    unfold asgE
    cases h
    rfl
  | .tup es, w, η, η1, S, h => by
    unfold bindT at h
    unfold asgE
    cases w with
    | tup ws => exact bindTs_asg es ws η η1 S h
    | _ => cases h
  | .kN, _, _, _, _, h | .kB _, _, _, _, _, h | .kI _, _, _, _, _, h | .kS _, _, _, _, _, h | .glob _ _, _, _, _, _, h | .nil, _, _, _, _, h | .cons _ _, _, _, _, _, h | .lst _, _, _, _, _, h | .dct _, _, _, _, _, h
  | .bin _ _ _, _, _, _, _, h | .neg _, _, _, _, _, h | .not _, _, _, _, _, h | .boo _ _, _, _, _, _, h | .cmp _ _ _, _, _, _, _, h | .chain _ _ _ _ _, _, _, _, _, h | .ite _ _ _, _, _, _, _, h | .ix _ _, _, _, _, _, h | .sl _ _ _, _, _, _, _, h
  | .rev _, _, _, _, _, h | .noE, _, _, _, _, h | .call _ _, _, _, _, _, h | .bif _ _, _, _, _, _, h | .isi _ _, _, _, _, _, h | .mth _ _ _, _, _, _, _, h | .lc _ _ _ _ _ _, _, _, _, _, h | .fs _, _, _, _, _, h => by simp [bindT] at h
theorem bindTs_asg {Φ : Fns} : ∀ (tg : E) (ws : List W) (η η1 : Env) (S : Sto), bindTs tg ws η = some η1 → asgEs Φ tg ws η S = .ok η1 S
  | .nil, ws, η, η1, S, h => by
    unfold bindTs at h
    unfold asgEs
    cases ws with
    | nil => cases h; rfl
    | cons _ _ => cases h
  | .cons a r, ws, η, η1, S, h => by
    unfold bindTs at h
    unfold asgEs
    cases ws with
    | nil => cases h
    | cons w vs =>
      obtain ⟨η2, h1, h2⟩ := Option.bind_eq_some_iff.mp h
      show (asgE Φ a w η S).bind _ = _
      rw [bindT_asg a w η η2 S h1]
      exact bindTs_asg r vs η2 η1 S h2
  | .v _, _, _, _, _, h | .tup _, _, _, _, _, h | .kN, _, _, _, _, h | .kB _, _, _, _, _, h | .kI _, _, _, _, _, h | .kS _, _, _, _, _, h | .glob _ _, _, _, _, _, h | .lst _, _, _, _, _, h | .dct _, _, _, _, _, h
  | .bin _ _ _, _, _, _, _, h | .neg _, _, _, _, _, h | .not _, _, _, _, _, h | .boo _ _, _, _, _, _, h | .cmp _ _ _, _, _, _, _, h | .chain _ _ _ _ _, _, _, _, _, h | .ite _ _ _, _, _, _, _, h | .ix _ _, _, _, _, _, h | .sl _ _ _, _, _, _, _, h
  | .rev _, _, _, _, _, h | .noE, _, _, _, _, h | .call _ _, _, _, _, _, h | .bif _ _, _, _, _, _, h | .isi _ _, _, _, _, _, h | .mth _ _ _, _, _, _, _, h | .lc _ _ _ _ _ _, _, _, _, _, h | .fs _, _, _, _, _, h => by simp [bindTs] at h
end
/-! ### plain statements -/
theorem t_nil {Φ : Fns} : PSs X [] (LS X xw (exec Φ .nil)) := PSs.wk pss_nil fun D σ H ⟨ρ, S, η, re, R, h⟩ => by
  rw [exec] at h
  exact h ρ H σ .refl R re
theorem t_seq {st : Stmt} {rest : List Stmt} {Φ : Fns} {a b : T} (h1 : PS X st (LS X xw (exec Φ a))) (h2 : PSs X rest (LS X xw (exec Φ b))) : PSs X (st :: rest) (LS X xw (exec Φ (.seq a b))) :=
  PSs.wk (pss_cons h1 h2) fun D σ H ⟨ρ, S, η, re, R, h⟩ => by
    rw [exec] at h
    refine ⟨ρ, S, η, re, R, ?_⟩
    cases e : exec Φ a η S with
    | nx η1 S1 =>
      rw [e] at h
      exact fun ρ' H' σ' L R' re' => ⟨ρ', S1, η1, re', R', h.mono L⟩
    | rt w S1 => rw [e] at h; exact h
    | bk η1 S1 => rw [e] at h; exact h
    | ct η1 S1 => rw [e] at h; exact h
    | exc c fs η1 S1 => rw [e] at h; exact h
    | bad => rw [e] at h; exact h
theorem t_pass {pos : Pos} {Φ : Fns} : PS X (.Pass pos) (LS X xw (exec Φ .pass)) := PS.wk ps_pass fun D σ H ⟨ρ, S, η, re, R, h⟩ => by
  rw [exec] at h
  exact h ρ H σ .refl R re
theorem t_doc {x j pos pos'} {Φ : Fns} : PS X (.Expr (.Constant (.str x) j pos) pos') (LS X xw (exec Φ .pass)) := PS.wk ps_doc fun D σ H ⟨ρ, S, η, re, R, h⟩ => by
  rw [exec] at h
  exact h ρ H σ .refl R re
theorem t_brk {pos : Pos} {Φ : Fns} : PS X (.Break pos) (LS X xw (exec Φ .brk)) := PS.wk ps_break fun D σ H ⟨ρ, S, η, re, R, h⟩ => by
  rw [exec] at h
  exact h ρ H σ .refl R re
theorem t_cnt {pos : Pos} {Φ : Fns} : PS X (.Continue pos) (LS X xw (exec Φ .cnt)) := PS.wk ps_continue fun D σ H ⟨ρ, S, η, re, R, h⟩ => by
  rw [exec] at h
  exact h ρ H σ .refl R re
theorem t_raise {st : Stmt} {Φ : Fns} {c : Str} {fs : List Str} {es : E} : PS X st (LS X xw (exec Φ (.raise c fs es))) := PS.wk ps_never fun D σ H ⟨ρ, S, η, re, R, h⟩ => by
  rw [exec] at h
  exact h
theorem t_ret {e : Expr} {pos : Pos} {Φ : Fns} {a : E} (h1 : Snd X xw e (eval Φ a)) : PS X (.Return (some e) pos) (LS X xw (exec Φ (.ret a))) := PS.wk (ps_ret h1.pe) fun D σ H ⟨ρ, S, η, re, R, h⟩ => by
  rw [exec] at h
  exact ⟨ρ, S, η, re, R, (SFin.go h).imp fun u S1 ρ1 H1 L1 R1 q v rv => q ρ1 H1 v .refl R1 rv⟩
theorem t_retN {pos : Pos} {Φ : Fns} : PS X (.Return none pos) (LS X xw (exec Φ .retN)) := PS.wk ps_retN fun D σ H ⟨ρ, S, η, re, R, h⟩ => by
  rw [exec] at h
  exact h ρ H _ .refl R .non
theorem t_if {c : Expr} {a b : List Stmt} {pos : Pos} {Φ : Fns} {ec : E} {ta tb : T} (hc : Snd X xw c (eval Φ ec)) (h1 : PSs X a (LS X xw (exec Φ ta))) (h2 : PSs X b (LS X xw (exec Φ tb))) : PS X (.If c a b pos) (LS X xw (exec Φ (.ite ec ta tb))) :=
  PS.wk (ps_if hc.pt h1 h2) fun D σ H ⟨ρ, S, η, re, R, h⟩ => by
    rw [exec] at h
    refine ⟨ρ, S, η, re, R, (SFin.go h).imp fun t S1 ρ1 H1 L1 R1 q => ?_⟩
    cases t with
    | true => exact ⟨ρ1, S1, η, re.mono L1, R1, q⟩
    | false => exact ⟨ρ1, S1, η, re.mono L1, R1, q⟩
def noComp : Expr → Bool
  | .ListComp .. => false
  | .SetComp .. => false
  | .DictComp .. => false
  | _ => true
theorem swaps_no {e : Expr} {t : Option Expr} {l : Nat} {env : PySem.Env} (h : noComp e = true) : swapsWith e t l env = pure false := by
  cases e <;> first
    | rfl
    | cases h
theorem t_ex {e : Expr} {pos : Pos} {Φ : Fns} {a : E} (hn : noComp e = true) (h1 : Snd X xw e (eval Φ a)) : PS X (.Expr e pos) (LS X xw (exec Φ (.ex a))) := PS.wk (ps_expr h1.pe (swaps_no hn)) fun D σ H ⟨ρ, S, η, re, R, h⟩ => by
  rw [exec] at h
  exact ⟨ρ, S, η, re, R, (SFin.go h).imp fun u S1 ρ1 H1 L1 R1 q v rv => q ρ1 H1 σ .refl R1 (re.mono L1)⟩
theorem ls_asg {Φ : Fns} {tg a : E} {te : TE} {g : TG} (h : ∀ D σ H, (LS X xw (exec Φ (.asg tg a))) D σ H → LE X xw (eval Φ a) σ H fun x H1 => LG X xw Φ tg x σ H1 D.nx) : ∀ D σ H, LS X xw (exec Φ (.asg tg a)) D σ H → tAsg (LE X xw (eval Φ a)) (LG X xw Φ tg) D σ H := h
theorem asg_inv {Φ : Fns} {tg a : E} : ∀ D σ H, LS X xw (exec Φ (.asg tg a)) D σ H → tAsg (LE X xw (eval Φ a)) (LG X xw Φ tg) D σ H := by
  intro D σ H ⟨ρ, S, η, re, R, h⟩
  rw [exec] at h
  refine ⟨ρ, S, η, re, R, (SFin.go h).imp fun u S1 ρ1 H1 L1 R1 q v rv => ⟨ρ1, S1, η, u, rv, re.mono L1, R1, (SFin.go q).imp fun η1 S2 ρ2 H2 L2 R2 q2 σ1 re1 => ?_⟩⟩
  exact q2 ρ2 H2 σ1 .refl R2 re1
theorem t_asg {tg e : Expr} {pos : Pos} {Φ : Fns} {etg a : E} (h1 : Snd X xw e (eval Φ a)) (h2 : PG X tg (LG X xw Φ etg)) (hs : swapsWithSole [tg] e pos.line X.env = pure false) (hw : swappedStores [tg] e X.env = pure none) (ht : notStar tg = true) :
    PS X (.Assign [tg] e pos) (LS X xw (exec Φ (.asg etg a))) := PS.wk (ps_asg h1.pe h2 hs hw (assign_map ht)) asg_inv
theorem t_aug {i : Nat} {x : Str} {e : Expr} {pos' pos : Pos} {Φ : Fns} {o : Bop} {a : E} (hN : X.N.Nodup) (hi : X.N[i]? = some x) (hx : Loc X.env.scope x) (hf : X.fn x = true ∨ X.env.scope.names.lookup x = some .local) (h1 : Snd X xw e (eval Φ a)) :
    PS X (.AugAssign (.Name x pos') (bopOf o) e pos) (LS X xw (exec Φ (.aug i o a))) := by
  have hop : PIp X (bopOf o) (LR2 X (augW o)) := by
    cases o with
    | add =>
      intro pins s σ H x y v u Q I rx ry ⟨ρ, S, a, b, ha, hb, R, h⟩
      cases ha with
      | int i =>
        cases hb with
        | int j => exact iop_add pins s σ H _ _ v u Q I rx ry ⟨i, j, rfl, rfl, h.now R (.int _)⟩
        | _ => exact h.no.elim
      | _ => exact h.no.elim
    | sub =>
      intro pins s σ H x y v u Q I rx ry ⟨ρ, S, a, b, ha, hb, R, h⟩
      cases ha with
      | int i =>
        cases hb with
        | int j => exact iop_sub pins s σ H _ _ v u Q I rx ry ⟨i, j, rfl, rfl, h.now R (.int _)⟩
        | _ => exact h.no.elim
      | _ => exact h.no.elim
    | _ => exact fun pins s σ H x y v u Q I rx ry ⟨ρ, S, a, b, ha, hb, R, h⟩ => h.no.elim
  refine PS.wk (ps_aug hN hi hx h1.pe hop hf) fun D σ H ⟨ρ, S, η, re, R, h⟩ => ?_
  rw [exec] at h
  split at h
  · rename_i w ew
    obtain ⟨v, ev, rv⟩ := re.at_ i w ew
    refine ⟨v, ev, ρ, S, η, re, R, (SFin.go h).imp fun u S1 ρ1 H1 L1 R1 q y ry => ⟨ρ1, S1, w, u, rv.mono L1, ry, R1, xw, (SFin.go q).imp fun z S2 ρ2 H2 L2 R2 q2 zv rz => ?_⟩⟩
    exact q2 ρ2 H2 _ .refl R2 (((re.mono L1).mono L2).set i rz)
  · exact h.no.elim
end
end PI

set_option Elab.async false
set_option linter.all false
set_option maxRecDepth 100000
set_option maxHeartbeats 4000000
/-! for, while -/
namespace PI
open PySem PySem.Spec PyProof.Rows L2
section
variable {X : Cx} {xw : XW} {ρ ρ1 : List Addr} {H H1 H2 : Hp} {S : Sto} {σ : L2.St} {pins : List (Addr × Obj)} {s : Shared} {D : Ends}
/-! ### locks -/
theorem rel_lock {l : Option Nat} (R : Rel X.prog X.w X.J ρ S H) (k : Lck X l ρ S H H2) : Rel X.prog X.w X.J ρ (lockS S l) H2 ∧ Le X.J ρ H ρ H2 := by
  cases l with
  | none =>
    have e : H2 = H := k
    subst e
    exact ⟨R, .refl⟩
  | some n =>
    obtain ⟨d, u0, u, od, kvs, hn, e, hd, f0, f, rfl, _, ro⟩ := k
    have L : Le X.J ρ H ρ (upd H d (.frz od u)) := Le.set hn fun q e' => by rw [hd] at e'; cases e'; exact f0
    refine ⟨?_, L⟩
    simp only [lockS, e]
    exact R.set hn hd f0 ro
/-- behind the lock -/
theorem un_lock {n : Nat} {d : Addr} {u0 u : HO} {od : Obj} {S' : Sto} {ρ' : List Addr} {H' : Hp} {kvs : List (W × W)} (hn : ρ[n]? = some d) (hd : H d = some u0) (f0 : Free u0)
    (L : Le X.J ρ (upd H d (.frz od u)) ρ' H') (R : Rel X.prog X.w X.J ρ' S' H') (e : S'[n]? = some (.fdct kvs)) :
    H' d = some (.frz od u) ∧ Le X.J ρ H ρ' (upd H' d u) ∧ Rel X.prog X.w X.J ρ' (S'.set n (.dct kvs)) (upd H' d u) ∧ Lw X.J ρ' H' ρ' (upd H' d u) := by
  have hd' : H' d = some (.frz od u) := L.frz _ _ _ upd_same
  have hn' := L.at_ hn
  have ro := R.at_ hn' e
  have key : (∃ qs, u = .dK qs) ∨ ∃ xs, u = NDict X.prog X.w d xs := by
    cases ro with
    | fK h r => rw [hd'] at h; cases h; exact .inl ⟨_, rfl⟩
    | fN h z r hl => rw [hd'] at h; cases h; exact .inr ⟨_, rfl⟩
  have f1 : ∀ ob xs, HO.frz od u ≠ .frz ob (.tup xs) := fun ob xs z => by
    cases z
    rcases key with ⟨_, e⟩ | ⟨_, e⟩ <;> cases e
  have f2 : ∀ ob xs, HO.frz od u ≠ .frz ob (.lst xs) := fun ob xs z => by
    cases z
    rcases key with ⟨_, e⟩ | ⟨_, e⟩ <;> cases e
  have lw : Lw X.J ρ' H' ρ' (upd H' d u) := lw_upd hd' (fun _ z => by cases z) f1 f2 (fun z => z)
  refine ⟨hd', ?_, ⟨by simp [R.len], R.inj, fun m o b h1 h2 => ?_⟩, lw⟩
  · obtain ⟨l, el, fl⟩ := L.pre
    have hm : d ∈ ρ := List.mem_of_getElem? hn
    refine ⟨⟨l, el, fun a ha hna => ?_⟩, fun a xs h => lw.sqt _ _ (L.sqt _ _ ?_), fun a o h hna => ?_, fun a ob v h => ?_⟩
    · have z : a ≠ d := fun z => hna (by rw [z]; exact hm)
      have := fl a ha hna
      rw [upd_ne z] at this
      exact this
    · exact sqt_upd (fun v e' => by rw [hd] at e'; cases e'; exact ⟨f0.1, fun ob xs => f0.2 ob _⟩) _ _ h
    · have z : a ≠ d := fun z => hna (by rw [z]; exact hm)
      rw [upd_ne z]
      exact L.keep a o (by rw [upd_ne z]; exact h) hna
    · have z : a ≠ d := fun z => by
        rw [z, hd] at h
        cases h
        exact f0.2 _ _ rfl
      rw [upd_ne z]
      exact L.frz a ob v (by rw [upd_ne z]; exact h)
  · by_cases hm : m = n
    · subst hm
      have hl : m < S'.length := by rw [← R.len]; exact (List.getElem?_eq_some_iff.mp hn').1
      rw [List.getElem?_set_self hl] at h1
      cases h1
      rw [hn'] at h2
      cases h2
      cases ro with
      | fK h r => rw [hd'] at h; cases h; exact .dK upd_same (RK.mw lw r)
      | fN h z r hl => rw [hd'] at h; cases h; exact .dN upd_same z (RN.mw lw r) hl
    · rw [List.getElem?_set_ne (Ne.symm hm)] at h1
      have hb : b ≠ d := fun z => hm (R.inj m n b h2 (by rw [z]; exact hn'))
      exact (R.obj m o b h1 h2).mw lw fun q hq => by rw [upd_ne hb]; exact hq
abbrev UnlD (X : Cx) (D : Ends) : Ends := ⟨fun σ' H' => Unl X (D.nx σ') H', fun v H' => Unl X (D.rt v) H', fun σ' H' => Unl X (D.bk σ') H', fun σ' H' => Unl X (D.ct σ') H'⟩
theorem unlock_fin {l : Option Nat} {r : SRes} (k : Lck X l ρ S H H2) (h : SFin X xw ρ H (unlockR l r) D) : SFin X xw ρ H2 r (UnlD X D) := by
  cases l with
  | none =>
    have e : H2 = H := k
    subst e
    cases r with
    | nx η S => exact fun ρ' H' σ' L R e => .inl (h ρ' H' σ' L R e)
    | rt w S => exact fun ρ' H' σ' L R e => .inl (h ρ' H' σ' L R e)
    | bk η S => exact fun ρ' H' σ' L R e => .inl (h ρ' H' σ' L R e)
    | ct η S => exact fun ρ' H' σ' L R e => .inl (h ρ' H' σ' L R e)
    | exc c fs η S => exact h
    | bad => exact h
  | some n =>
    obtain ⟨d, u0, u, od, kvs, hn, e0, hd, f0, f, rfl, nf, ro⟩ := k
    have inv : ∀ {S' : Sto} {S'' : Sto}, unlockS S' (some n) = some S'' → ∃ kvs, S'[n]? = some (.fdct kvs) ∧ S'' = S'.set n (.dct kvs) := fun {S' S''} e => by
      simp only [unlockS] at e
      split at e
      · rename_i kvs' e1
        cases e
        exact ⟨kvs', e1, rfl⟩
      · cases e
    cases r with
    | nx η S' =>
      simp only [unlockR] at h
      split at h
      · rename_i S'' e1
        obtain ⟨kvs', e2, rfl⟩ := inv e1
        intro ρ' H' σ' L R re
        obtain ⟨hd', L2, R2, lw⟩ := un_lock hn hd f0 L R e2
        exact .inr ⟨d, od, u, hd', nf, h ρ' _ σ' L2 R2 (re.mw lw)⟩
      · exact h.no.elim
    | rt w S' =>
      simp only [unlockR] at h
      split at h
      · rename_i S'' e1
        obtain ⟨kvs', e2, rfl⟩ := inv e1
        intro ρ' H' σ' L R re
        obtain ⟨hd', L2, R2, lw⟩ := un_lock hn hd f0 L R e2
        exact .inr ⟨d, od, u, hd', nf, h ρ' _ σ' L2 R2 (re.mw lw)⟩
      · exact h.no.elim
    | bk η S' =>
      simp only [unlockR] at h
      split at h
      · rename_i S'' e1
        obtain ⟨kvs', e2, rfl⟩ := inv e1
        intro ρ' H' σ' L R re
        obtain ⟨hd', L2, R2, lw⟩ := un_lock hn hd f0 L R e2
        exact .inr ⟨d, od, u, hd', nf, h ρ' _ σ' L2 R2 (re.mw lw)⟩
      · exact h.no.elim
    | ct η S' =>
      simp only [unlockR] at h
      split at h
      · rename_i S'' e1
        obtain ⟨kvs', e2, rfl⟩ := inv e1
        intro ρ' H' σ' L R re
        obtain ⟨hd', L2, R2, lw⟩ := un_lock hn hd f0 L R e2
        exact .inr ⟨d, od, u, hd', nf, h ρ' _ σ' L2 R2 (re.mw lw)⟩
      · exact h.no.elim
    | exc c fs η S' => exact h.no.elim
    | bad => exact h.no.elim
/-! ### for -/
def forBody (Φ : Fns) (tg : E) (b : T) (w : W) (η : Env) (S : Sto) : SRes := match bindT tg w η with
  | none => .bad
  | some η1 => exec Φ b η1 S
theorem for_core {J : It} {src : Src} {Φ : Fns} {tg : E} {b : T} {ρ0 : List Addr} {H0 : Hp} (wk : Wk X J src ρ0 H0) (D : Ends) :
    ∀ i m σ H, (∃ ρ S η, REnv X.J ρ H η σ ∧ Rel X.prog X.w X.J ρ S H ∧ Le X.J ρ0 H0 ρ H ∧ SFin X xw ρ H (forLoop src (forBody Φ tg b) m i η S) D) →
      (J.stop i H ∧ D.nx σ H) ∨ (J.go i H ∧ ∃ N : L2.St → Hp → Prop, (∀ σ' H', N σ' H' → ∃ m', m' < m ∧ ∃ ρ S η, REnv X.J ρ H' η σ' ∧ Rel X.prog X.w X.J ρ S H' ∧ Le X.J ρ0 H0 ρ H' ∧ SFin X xw ρ H' (forLoop src (forBody Φ tg b) m' (i + 1) η S) D) ∧
        ∀ x H', J.yld i H x H' → LG X xw Φ tg x σ H' fun σ2 H2 => LS X xw (exec Φ b) { D with nx := N, ct := N, bk := D.nx } σ2 H2) := by
  intro i m σ H ⟨ρ, S, η, re, R, L, h⟩
  cases m with
  | zero =>
    unfold forLoop at h
    split at h
    · rename_i ws e
      split at h
      · rename_i hl
        refine .inl ⟨?_, h ρ H σ .refl R re⟩
        rw [← hl]
        exact wk.stops ρ S H ws L R e
      · exact h.no.elim
    · exact h.no.elim
  | succ k =>
    unfold forLoop at h
    split at h
    · rename_i ws e
      split at h
      · rename_i w ew
        split at h
        · rename_i hl
          refine .inr ⟨wk.goes ρ S H ws i L R e (by omega), fun σ' H' => ∃ ρ S η, REnv X.J ρ H' η σ' ∧ Rel X.prog X.w X.J ρ S H' ∧ Le X.J ρ0 H0 ρ H' ∧ SFin X xw ρ H' (forLoop src (forBody Φ tg b) k (i + 1) η S) D, fun σ' H' q => ⟨k, Nat.lt_succ_self k, q⟩, fun x H' y => ?_⟩
          obtain ⟨L1, R1, rw⟩ := wk.yields ρ S H ws i w x H' L R e ew y
          cases q : bindT tg w η with
          | none =>
            have : forBody Φ tg b w η S = .bad := by unfold forBody; rw [q]
            rw [this] at h
            exact h.no.elim
          | some η1 =>
            have eb : forBody Φ tg b w η S = exec Φ b η1 S := by unfold forBody; rw [q]
            rw [eb] at h
            refine ⟨ρ, S, η, w, rw, re.mono L1, R1, ?_⟩
            rw [bindT_asg tg w η η1 S q]
            intro ρ2 H2 L2 R2 σ2 re2
            refine ⟨ρ2, S, η1, re2, R2, ?_⟩
            have L12 := L1.trans L2
            cases r : exec Φ b η1 S with
            | nx η' S' =>
              rw [r] at h
              exact fun ρ' H' σ' L3 R3 re3 => ⟨ρ', S', η', re3, R3, (L.trans L12).trans L3, h.mono (L12.trans L3)⟩
            | ct η' S' =>
              rw [r] at h
              exact fun ρ' H' σ' L3 R3 re3 => ⟨ρ', S', η', re3, R3, (L.trans L12).trans L3, h.mono (L12.trans L3)⟩
            | bk η' S' => rw [r] at h; exact SFin.mono (r := .nx η' S') h L12
            | rt w' S' => rw [r] at h; exact SFin.mono (r := .rt w' S') h L12
            | exc c fs η' S' => rw [r] at h; exact SFin.mono (r := .exc c fs η' S') h L12
            | bad => rw [r] at h; exact h.no.elim
        · exact h.no.elim
      · exact h.no.elim
    · exact h.no.elim
def notSet : Expr → Bool
  | .Set .. => false
  | _ => true
theorem folded_no {e : Expr} {env : PySem.Env} (h : notSet e = true) : ∀ x, foldedSetIterable e env x = pure x := by
  cases e <;> first
    | exact fun _ => rfl
    | cases h
theorem t_for {tgE iter : Expr} {body : List Stmt} {pos : Pos} {Φ : Fns} {tg it : E} {k : Itk} {b : T} (hp : PassesOwn (model X.prog X.w) X.A X.env X.xe) (hc : X.calm = true) (hi : L2.PI X tgE iter (LI X xw (evals Φ it) k)) (hg : PG X tgE (LG X xw Φ tg)) (hb : PSs X body (LS X xw (exec Φ b)))
    (hs : notSet iter = true) : PS X (.For tgE iter body [] pos) (LS X xw (exec Φ (.for_ tg k it b))) := by
  refine PS.wk (ps_unl (ps_for hp hc hi hg hb (folded_no hs))) fun D σ H ⟨ρ, S, η, re, R, h⟩ => ?_
  rw [exec] at h
  refine ⟨ρ, S, η, re, R, (SFin.go h).imp fun xs S1 ρ1 H1 L1 R1 q => ?_⟩
  split at q
  · exact q.no.elim
  · rename_i src l es
    split at q
    · exact q.no.elim
    · rename_i ws0 e0
      refine ⟨src, l, es, fun J H2 wk lk => ?_⟩
      obtain ⟨R2, L2⟩ := rel_lock R1 lk
      have q2 : SFin X xw ρ1 H2 (forLoop src (forBody Φ tg b) ws0.length 0 η (lockS S1 l)) (UnlD X D) := unlock_fin lk q
      exact ⟨fun i m σ H => ∃ ρ S η, REnv X.J ρ H η σ ∧ Rel X.prog X.w X.J ρ S H ∧ Le X.J ρ1 H2 ρ H ∧ SFin X xw ρ H (forLoop src (forBody Φ tg b) m i η S) (UnlD X D), ⟨ws0.length, ρ1, lockS S1 l, η, (re.mono L1).mono L2, R2, .refl, q2⟩, for_core wk (UnlD X D)⟩
/-! ### while -/
theorem t_whl {c : Expr} {body : List Stmt} {pos : Pos} {Φ : Fns} {ec : E} {b : T} (hp : PassesOwn (model X.prog X.w) X.A X.env X.xe) (h1 : Snd X xw c (eval Φ ec)) (hb : PSs X body (LS X xw (exec Φ b))) : PS X (.While c body [] pos) (LS X xw (exec Φ (.whl ec b))) := by
  refine PS.wk (ps_while hp h1.pt hb) fun D σ H ⟨ρ, S, η, re, R, h⟩ => ?_
  rw [exec] at h
  refine ⟨fun m σ H => ∃ ρ S η, REnv X.J ρ H η σ ∧ Rel X.prog X.w X.J ρ S H ∧ SFin X xw ρ H (whileLoop (fun η' S' => truthR (eval Φ ec η' S')) (fun η' S' => exec Φ b η' S') m η S) D, ⟨whileMax, ρ, S, η, re, R, h⟩, ?_⟩
  clear h R re η S ρ
  intro m σ H ⟨ρ, S, η, re, R, h⟩
  cases m with
  | zero => exact h.no.elim
  | succ k =>
    unfold whileLoop at h
    refine ⟨ρ, S, η, re, R, (SFin.go h).imp fun t S1 ρ1 H1 L1 R1 q => ?_⟩
    cases t with
    | false => exact q ρ1 H1 σ .refl R1 (re.mono L1)
    | true =>
      rw [if_pos rfl]
      refine ⟨fun σ' H' => ∃ ρ S η, REnv X.J ρ H' η σ' ∧ Rel X.prog X.w X.J ρ S H' ∧ SFin X xw ρ H' (whileLoop (fun η' S' => truthR (eval Φ ec η' S')) (fun η' S' => exec Φ b η' S') k η S) D, fun σ' H' z => ⟨k, Nat.lt_succ_self k, z⟩, ρ1, S1, η, re.mono L1, R1, ?_⟩
      have q : SFin X xw ρ1 H1 (match exec Φ b η S1 with
        | .nx η' S' => whileLoop (fun η' S' => truthR (eval Φ ec η' S')) (fun η' S' => exec Φ b η' S') k η' S'
        | .ct η' S' => whileLoop (fun η' S' => truthR (eval Φ ec η' S')) (fun η' S' => exec Φ b η' S') k η' S'
        | .bk η' S' => .nx η' S'
        | r => r) D := q
      cases r : exec Φ b η S1 with
      | nx η' S' => rw [r] at q; exact fun ρ' H' σ' L3 R3 re3 => ⟨ρ', S', η', re3, R3, q.mono L3⟩
      | ct η' S' => rw [r] at q; exact fun ρ' H' σ' L3 R3 re3 => ⟨ρ', S', η', re3, R3, q.mono L3⟩
      | bk η' S' => rw [r] at q; exact q
      | rt w' S' => rw [r] at q; exact q
      | exc c fs η' S' => rw [r] at q; exact q
      | bad => rw [r] at q; exact q.no.elim
end
end PI

set_option Elab.async false
set_option linter.all false
set_option maxRecDepth 100000
set_option maxHeartbeats 4000000
/-! list comprehensions -/
namespace PI
open PySem PySem.Spec PyProof.Rows L2
theorem wipe_set {σ : L2.St} {i : Nat} {x : Option V} : ∀ {vs : List Nat}, i ∈ vs → wipe (σ.set i x) vs = wipe σ vs
  | [], h => by cases h
  | v :: vs, h => by
    show (wipe (σ.set i x) vs).set v none = (wipe σ vs).set v none
    by_cases hm : i ∈ vs
    · rw [wipe_set hm]
    · have e : i = v := by
        rcases List.mem_cons.mp h with e | e
        · exact e
        · exact absurd e hm
      subst e
      have com : ∀ (vs : List Nat), i ∉ vs → wipe (σ.set i x) vs = (wipe σ vs).set i x := by
        intro vs
        induction vs with
        | nil => intro _; rfl
        | cons u us ih =>
          intro hn
          simp only [List.mem_cons, not_or] at hn
          show (wipe (σ.set i x) us).set u none = ((wipe σ us).set u none).set i x
          rw [ih hn.2, List.set_comm _ _ hn.1]
      rw [com vs hm, List.set_set]
theorem wipe_wipe (σ : L2.St) : ∀ (vs us : List Nat), (∀ u ∈ us, u ∈ vs) → wipe (wipe σ us) vs = wipe σ vs
  | vs, [], _ => rfl
  | vs, u :: us, h => by
    show wipe ((wipe σ us).set u none) vs = _
    rw [wipe_set (h u List.mem_cons_self)]
    exact wipe_wipe σ vs us fun x hx => h x (List.mem_cons_of_mem _ hx)
/-- a target of names alone, all of them in vs -/
def LGw (X : Cx) (tg : E) (vs : List Nat) : TG := fun v σ H Q => ∃ ρ S η w η1, RW X.J ρ H w v ∧ REnv X.J ρ H η σ ∧ Rel X.prog X.w X.J ρ S H ∧ bindT tg w η = some η1 ∧ ∀ σ1, REnv X.J ρ H η1 σ1 → wipe σ1 vs = wipe σ vs → Q σ1 H
def LGws (X : Cx) (tg : E) (vs : List Nat) : TGs := fun v σ H Q => ∃ ρ S η w η1, RWs X.J ρ H w v ∧ REnv X.J ρ H η σ ∧ Rel X.prog X.w X.J ρ S H ∧ bindTs tg w η = some η1 ∧ ∀ σ1, REnv X.J ρ H η1 σ1 → wipe σ1 vs = wipe σ vs → Q σ1 H
section
variable {X : Cx} {xw : XW} {ρ ρ1 : List Addr} {H H1 H2 : Hp} {S : Sto} {σ : L2.St} {pins : List (Addr × Obj)} {s : Shared} {D : Ends}
theorem gw_name {i : Nat} {x : Str} {pos : Pos} {vs : List Nat} (hN : X.N.Nodup) (hi : X.N[i]? = some x) (hm : i ∈ vs) (hx : Loc X.env.scope x) (hf : X.fn x = true ∨ X.env.scope.names.lookup x = some .local) : PG X (.Name x pos) (LGw X (.v i) vs) :=
  PG.wk (pg_name hN hi hx hf) fun v σ H Q ⟨ρ, S, η, w, η1, rw, re, R, e, h⟩ => by
    unfold bindT at e
    cases e
    exact h _ (re.set i rw) (wipe_set hm)
theorem gws_nil {vs : List Nat} : PGs X [] (LGws X .nil vs) := PGs.wk pgs_nil fun us σ H Q ⟨ρ, S, η, ws, η1, rws, re, R, e, h⟩ => by
  unfold bindTs at e
  split at e
  · cases rws
    cases e
    exact ⟨rfl, h _ re rfl⟩
  · cases e
theorem gws_cons {e : Expr} {es : List Expr} {a r : E} {vs : List Nat} (hs : notStar e = true) (h1 : PG X e (LGw X a vs)) (h2 : PGs X es (LGws X r vs)) : PGs X (e :: es) (LGws X (.cons a r) vs) :=
  PGs.wk (pgs_cons h1 h2 (assign_map hs)) fun us σ H Q ⟨ρ, S, η, ws, η1, rws, re, R, e0, h⟩ => by
    unfold bindTs at e0
    split at e0
    · cases rws with
      | cons q rws =>
        obtain ⟨η2, e1, e2⟩ := Option.bind_eq_some_iff.mp e0
        exact ⟨_, _, rfl, ρ, S, η, _, η2, q, re, R, e1, fun σ1 re1 w1 => ⟨ρ, S, η2, _, η1, rws, re1, R, e2, fun σ2 re2 w2 => h σ2 re2 (w2.trans w1)⟩⟩
    · cases e0
theorem bindTs_len : ∀ (r : E) (es : List Expr) (vs : List Nat) (ws : List W) (η η1 : Env), PGs X es (LGws X r vs) → bindTs r ws η = some η1 → True := fun _ _ _ _ _ _ _ _ => trivial
def arity : E → Nat
  | .cons _ r => arity r + 1
  | _ => 0
theorem bindTs_arity : ∀ (r : E) (ws : List W) (η η1 : Env), bindTs r ws η = some η1 → ws.length = arity r
  | .nil, ws, η, η1, h => by
    unfold bindTs at h
    cases ws with
    | nil => rfl
    | cons _ _ => cases h
  | .cons a r, ws, η, η1, h => by
    unfold bindTs at h
    cases ws with
    | nil => cases h
    | cons w vs =>
      obtain ⟨η2, h1, h2⟩ := Option.bind_eq_some_iff.mp h
      simp [arity, bindTs_arity r vs η2 η1 h2]
  | .v _, _, _, _, h | .tup _, _, _, _, h | .kN, _, _, _, h | .kB _, _, _, _, h | .kI _, _, _, _, h | .kS _, _, _, _, h | .glob _ _, _, _, _, h | .lst _, _, _, _, h | .dct _, _, _, _, h
  | .bin _ _ _, _, _, _, h | .neg _, _, _, _, h | .not _, _, _, _, h | .boo _ _, _, _, _, h | .cmp _ _ _, _, _, _, h | .chain _ _ _ _ _, _, _, _, h | .ite _ _ _, _, _, _, h | .ix _ _, _, _, _, h | .sl _ _ _, _, _, _, h
  | .rev _, _, _, _, h | .noE, _, _, _, h | .call _ _, _, _, _, h | .bif _ _, _, _, _, h | .isi _ _, _, _, _, h | .mth _ _ _, _, _, _, h | .lc _ _ _ _ _ _, _, _, _, h | .fs _, _, _, _, h => by simp [bindTs] at h
theorem gw_tup {es : List Expr} {k : Nat} {pos : Pos} {r : E} {vs : List Nat} (hc : X.calm = true) (hs : es.all notStar = true) (ha : arity r = es.length) (h : PGs X es (LGws X r vs)) : PG X (.Tuple es k pos) (LGw X (.tup r) vs) :=
  PG.wk (pg_tup hc h (assign_len hs).1 (assign_len hs).2) fun v σ H Q ⟨ρ, S, η, w, η1, rw, re, R, e, q⟩ => by
    unfold bindT at e
    split at e
    · rename_i ws
      obtain ⟨a, us, rfl, t, rws⟩ := rw_tup rw
      exact ⟨a, us, rfl, t, by rw [← rws.length, bindTs_arity _ _ _ _ e, ha], ρ, S, η, ws, η1, rws, re, R, e, q⟩
    · cases e
/-! ### conditions -/
def LC (X : Cx) (xw : XW) (Φ : Fns) (c : E) : TT := fun σ H Q => ∃ ρ S η, REnv X.J ρ H η σ ∧ Rel X.prog X.w X.J ρ S H ∧ Fin X xw ρ H (condOf c S (eval Φ c η S)) fun t _ _ H' => Q t H'
structure PTs.Wk (X : Cx) : Prop where
theorem pts_wk {ifs : List Expr} {t t' : TT} (h : PTs X ifs t) (k : ∀ σ H Q, t' σ H Q → t σ H Q) : PTs X ifs t' := ⟨fun pins s σ H Q I q => h.run pins s σ H Q I (k σ H Q q)⟩
theorem c_nil {Φ : Fns} : PTs X [] (LC X xw Φ .noE) := pts_wk pts_nil fun σ H Q ⟨ρ, S, η, re, R, h⟩ => Fin.ok_imp h R
theorem c_one {e : Expr} {Φ : Fns} {c : E} (hn : c.isNo = false) (h : Snd X xw e (eval Φ c)) : PTs X [e] (LC X xw Φ c) := pts_wk (pts_one h.pt) fun σ H Q ⟨ρ, S, η, re, R, q⟩ => by
  unfold condOf at q
  rw [hn] at q
  exact ⟨ρ, S, η, re, R, q⟩
/-! ### the comprehension -/
theorem upd_self {a : Addr} {o : HO} (h : H a = some o) : upd H a o = H := by
  funext b
  unfold upd
  split
  · rename_i e
    rw [e, h]
  · rfl
theorem Le.over {K : KM} {p : Addr} {q u : HO} (L : Le K ρ H ρ1 H1) (hp : H p = none) (e : H1 p = some q) (f : Free q) : Le K ρ H ρ1 (upd H1 p u) := by
  refine ⟨L.pre, fun a xs h => sqt_upd (fun v e' => by rw [e] at e'; cases e'; exact ⟨f.1, fun ob xs => f.2 ob _⟩) _ _ (L.sqt _ _ h), fun a o' h hn => ?_, fun a ob v h => ?_⟩
  · have z : a ≠ p := ne_of_none h hp
    rw [upd_ne z]
    exact L.keep a o' h hn
  · have z : a ≠ p := ne_of_none h hp
    rw [upd_ne z]
    exact L.frz a ob v h
def lcTurn (Φ : Fns) (elt tg c : E) (η0 : Env) (w : W) (S : Sto) : Res (Option W) := match bindT tg w η0 with
  | none => .bad
  | some η1 => ((condOf c S (eval Φ c η1 S)).bind fun t S3 => match t with
    | true => (eval Φ elt η1 S3).bind fun y S4 => .ok (some y) S4
    | false => .ok none S3).nox
def lcEnd (l : Option Nat) (acc : List W) (S5 : Sto) : Res W := match unlockS S5 l with
  | some S6 => newLst acc S6
  | none => .bad
def NoX : XW := fun _ _ _ => False
/-- what holds between two turns -/
structure LW (X : Cx) (ρ1 : List Addr) (H2 : Hp) (Dd : Addr) (goal : List W → Sto → Prop) (H : Hp) : Prop where
  ex : ∃ ρ S acc vs, Rel X.prog X.w X.J ρ S H ∧ Le X.J ρ1 H2 ρ H ∧ Dd ∉ ρ ∧ H Dd = some (.lst vs) ∧ RWs X.J ρ H acc vs ∧ goal acc S
theorem lc_core {J : It} {src : Src} {Φ : Fns} {elt tg c : E} {vs : List Nat} {η : Env} {σ : L2.St} {ρ1 : List Addr} {H2 : Hp} {Dd : Addr} {QD : Hp → Prop} {GG : Res W → Prop} (fin : List W → Sto → Res W) (wk : Wk X J src ρ1 H2) (hD : H2 Dd = none) (re : REnv X.J ρ1 H2 η σ)
    (hbad : ¬ GG .bad) (done : ∀ acc S H ρ us, Rel X.prog X.w X.J ρ S H → Le X.J ρ1 H2 ρ H → Dd ∉ ρ → H Dd = some (.lst us) → RWs X.J ρ H acc us → GG (fin acc S) → QD H) :
    ∀ i m H, LW X ρ1 H2 Dd (fun acc S => GG ((lcLoop src (lcTurn Φ elt tg c (wipeW η vs)) m i acc S).bind fin)) H →
      (J.stop i H ∧ QD H) ∨ (J.go i H ∧ ∃ Nx : Hp → Prop, (∀ H', Nx H' → ∃ m', m' < m ∧ LW X ρ1 H2 Dd (fun acc S => GG ((lcLoop src (lcTurn Φ elt tg c (wipeW η vs)) m' (i + 1) acc S).bind fin)) H') ∧
        ∀ x H', J.yld i H x H' → LGw X tg vs x (wipe σ vs) H' fun σ2 H3 => wipe σ2 vs = wipe σ vs ∧ LC X NoX Φ c σ2 H3 fun b H4 =>
          if b = true then LE X NoX (eval Φ elt) σ2 H4 fun y H5 => ∃ acc, H5 Dd = some (.lst acc) ∧ acc.length < sizeLine ∧ Nx (upd H5 Dd (.lst (acc ++ [y]))) else Nx H4) := by
  intro i m H ⟨ρ, S, acc, us, R, L, hn, hd, rws, h⟩
  cases m with
  | zero =>
    unfold lcLoop at h
    split at h
    · rename_i ws e
      split at h
      · rename_i hl
        refine .inl ⟨?_, done acc S H ρ us R L hn hd rws h⟩
        rw [← hl]
        exact wk.stops ρ S H ws L R e
      · exact absurd h hbad
    · exact absurd h hbad
  | succ k =>
    unfold lcLoop at h
    split at h
    · rename_i ws e
      split at h
      · rename_i w ew
        split at h
        · rename_i hl
          refine .inr ⟨wk.goes ρ S H ws i L R e (by omega), _, fun H' q => ⟨k, Nat.lt_succ_self k, q⟩, fun x H' y => ?_⟩
          obtain ⟨L1, R1, rw1⟩ := wk.yields ρ S H ws i w x H' L R e ew y
          have L2 := L.trans L1
          have hd1 : H' Dd = some (.lst us) := L1.keep _ _ hd hn
          cases q : bindT tg w (wipeW η vs) with
          | none =>
            have z : lcTurn Φ elt tg c (wipeW η vs) w S = .bad := by unfold lcTurn; rw [q]
            rw [z] at h
            exact absurd h hbad
          | some η1 =>
            have z : lcTurn Φ elt tg c (wipeW η vs) w S = ((condOf c S (eval Φ c η1 S)).bind fun t S3 => match t with
              | true => (eval Φ elt η1 S3).bind fun y S4 => .ok (some y) S4
              | false => .ok none S3).nox := by unfold lcTurn; rw [q]
            rw [z] at h
            refine ⟨ρ, S, wipeW η vs, w, η1, rw1, (re.mono L2).wipe vs, R1, q, fun σ2 re2 hw => ⟨hw.trans (wipe_wipe σ vs vs fun _ h => h), ρ, S, η1, re2, R1, ?_⟩⟩
            cases r : condOf c S (eval Φ c η1 S) with
            | bad => rw [r] at h; exact absurd h hbad
            | exc c fs S' => rw [r] at h; exact absurd h hbad
            | ok t S3 =>
              rw [r] at h
              intro ρ3 H3 L3 R3
              obtain ⟨hn3, hd3⟩ := L3.apart hd1 hn
              cases t with
              | false =>
                rw [if_neg Bool.false_ne_true]
                exact ⟨ρ3, S3, acc, us, R3, L2.trans L3, hn3, hd3, (rws.mono L1).mono L3, h⟩
              | true =>
                rw [if_pos rfl]
                refine ⟨ρ3, S3, η1, re2.mono L3, R3, ?_⟩
                cases r2 : eval Φ elt η1 S3 with
                | bad =>
                  have h : GG ((Res.nox ((eval Φ elt η1 S3).bind fun y S4 => .ok (some y) S4)).bind _ |>.bind fin) := h
                  rw [r2] at h
                  exact absurd h hbad
                | exc c fs S' =>
                  have h : GG ((Res.nox ((eval Φ elt η1 S3).bind fun y S4 => .ok (some y) S4)).bind _ |>.bind fin) := h
                  rw [r2] at h
                  exact absurd h hbad
                | ok y S4 =>
                  have h : GG ((Res.nox ((eval Φ elt η1 S3).bind fun y S4 => .ok (some y) S4)).bind _ |>.bind fin) := h
                  rw [r2] at h
                  intro ρ4 H4 L4 R4 v rv
                  obtain ⟨hn4, hd4⟩ := L4.apart hd3 hn3
                  have h : GG ((if acc.length < sizeLine then lcLoop src (lcTurn Φ elt tg c (wipeW η vs)) k (i + 1) (acc ++ [y]) S4 else .bad).bind fin) := h
                  by_cases hz : acc.length < sizeLine
                  · rw [if_pos hz] at h
                    have rws4 := ((rws.mono L1).mono L3).mono L4
                    have lw : Lw X.J ρ4 H4 ρ4 (upd H4 Dd (.lst (us ++ [v]))) := lw_upd hd4 free_lst.1 (fun ob xs => free_lst.2 ob _) (fun ob xs => free_lst.2 ob _) xo_lst
                    refine ⟨us, hd4, by rw [← rws.length]; exact hz, ρ4, S4, acc ++ [y], us ++ [v], R4.other hn4 hd4 free_lst xo_lst, ((L2.trans L3).trans L4).over hD hd4 free_lst, hn4, upd_same, (rws4.append (.cons rv .nil)).mw lw, h⟩
                  · rw [if_neg hz] at h
                    exact absurd h hbad
        · exact absurd h hbad
      · exact absurd h hbad
    · exact absurd h hbad
end
end PI

set_option Elab.async false
set_option linter.all false
set_option maxRecDepth 100000
set_option maxHeartbeats 4000000
/-! comprehensions, parallel assignments: the statements -/
namespace PI
open PySem PySem.Spec PyProof.Rows L2
section
variable {X : Cx} {xw : XW} {ρ ρ1 : List Addr} {H H1 H2 : Hp} {S : Sto} {σ : L2.St} {pins : List (Addr × Obj)} {s : Shared} {D : Ends}
theorem newLst_fin {xw : XW} {acc : List W} {us : List V} {Dd : Addr} {Q : VK} (g : Fin X xw ρ1 H1 (newLst acc S) fun u _ ρ' H' => ∀ v, RW X.J ρ' H' u v → Q v H') (L : Le X.J ρ1 H1 ρ H) (hD : H1 Dd = none) (R : Rel X.prog X.w X.J ρ S H) (hn : Dd ∉ ρ) (hd : H Dd = some (.lst us)) (rws : RWs X.J ρ H acc us) :
    Q (.ref Dd) H := by
  unfold newLst at g
  split at g
  · have lw : Lw X.J ρ H (ρ ++ [Dd]) H := lw_app lw_refl hd xo_lst
    have tr := R.track (u := .lst us) (o := .lst acc) hn hd free_lst xo_lst xo_lst (by rw [upd_self hd]; exact .lst hd (rws.mw lw))
    rw [upd_self hd] at tr
    exact g _ _ (L.app hD) tr _ (.ref (by rw [← R.len]; simp))
  · exact g.no.elim
theorem le_lc {Φ : Fns} {elt tg it c : E} {k : Itk} {own : List (Str × Nat)} {Q : VK} (h : LE X xw (eval Φ (.lc elt tg k it c own)) σ H Q) :
    tLc (LI X xw (evals Φ it) k) (LGw X tg (own.map (·.2))) (LC X NoX Φ c) (LE X NoX (eval Φ elt)) (own.map (·.2)) σ H fun v H' => Unl X (Q v) H' := by
  obtain ⟨ρ, S, η, re, R, h⟩ := h
  rw [eval] at h
  refine ⟨ρ, S, η, re, R, (Fin.bind h).imp fun xs S1 ρ1 H1 L1 R1 q => ?_⟩
  split at q
  · exact q.no.elim
  · rename_i src l es
    split at q
    · exact q.no.elim
    · rename_i ws0 e0
      refine ⟨src, l, es, fun J H2 wk lk Dd hD => ?_⟩
      obtain ⟨R2, L2⟩ := rel_lock R1 lk
      have q2 : Fin X xw ρ1 H1 ((lcLoop src (lcTurn Φ elt tg c (wipeW η (own.map (·.2)))) ws0.length 0 [] (lockS S1 l)).bind (lcEnd l)) fun u _ ρ' H' => ∀ v, RW X.J ρ' H' u v → Q v H' := q
      have hD1 : H1 Dd = none := by
        cases l with
        | none =>
          have e : H2 = H1 := lk
          rw [← e]
          exact hD
        | some n =>
          obtain ⟨d, u0, u, od, kvs, hn, e1, hd, f0, f, rfl, nf, ro⟩ := lk
          by_cases z : Dd = d
          · rw [z, upd_same] at hD
            cases hD
          · rw [upd_ne z] at hD
            exact hD
      refine ⟨fun i m H => LW X ρ1 H2 Dd (fun acc S => Fin X xw ρ1 H1 ((lcLoop src (lcTurn Φ elt tg c (wipeW η (own.map (·.2)))) m i acc S).bind (lcEnd l)) fun u _ ρ' H' => ∀ v, RW X.J ρ' H' u v → Q v H') H,
        ⟨ws0.length, ρ1, lockS S1 l, [], [], R2.new hD, .new hD, R2.notin hD, upd_same, .nil, q2⟩, ?_⟩
      refine lc_core (lcEnd l) wk hD ((re.mono L1).mono L2) (GG := fun r => Fin X xw ρ1 H1 r fun u _ ρ' H' => ∀ v, RW X.J ρ' H' u v → Q v H') (fun h => h) fun acc S5 H ρ us R L hn hd rws g => ?_
      cases l with
      | none =>
        have e : H2 = H1 := lk
        subst e
        exact .inl (newLst_fin g L hD1 R hn hd rws)
      | some n =>
        obtain ⟨d, u0, u, od, kvs, hnd, e1, hd0, f0, f, rfl, nf, ro⟩ := lk
        unfold lcEnd at g
        simp only [unlockS] at g
        cases e2 : S5[n]? with
        | none => simp only [e2] at g; exact g.no.elim
        | some o =>
          cases o with
          | lst _ => simp only [e2] at g; exact g.no.elim
          | dct _ => simp only [e2] at g; exact g.no.elim
          | fdct kvs' =>
            simp only [e2] at g
            obtain ⟨hd', L2', R2', lw⟩ := un_lock hnd hd0 f0 L R e2
            have z : Dd ≠ d := fun z => by
              rw [z, hd'] at hd
              cases hd
            refine .inr ⟨d, od, u, hd', nf, ?_⟩
            exact newLst_fin g L2' hD1 R2' hn (by rw [upd_ne z]; exact hd) (rws.mw lw)
theorem s_lc {elt tg iter : Expr} {ifs : List Expr} {scope : Scope} {own : List (Str × Nat)} {pos : Pos} {Φ : Fns} {a b it c : E} {k : Itk} (hc : X.calm = true) (hN : X.N.Nodup) (hi : L2.PI X tg iter (LI X xw (evals Φ it) k)) (ok : BlkOk X.N X.env.scope scope own)
    (hg : ∀ (s : Shared) (H : Hp) (C : Addr) (cl : List (Str × Addr)) (fp : List Addr), PG (X.blk s H scope (compEnvC scope cl C X.env) fp) tg (LGw (X.blk s H scope (compEnvC scope cl C X.env) fp) b (own.map (·.2))))
    (ht : ∀ (s : Shared) (H : Hp) (C : Addr) (cl : List (Str × Addr)) (fp : List Addr), PTs (X.blk s H scope (compEnvC scope cl C X.env) fp) ifs (LC (X.blk s H scope (compEnvC scope cl C X.env) fp) NoX Φ c))
    (he : ∀ (s : Shared) (H : Hp) (C : Addr) (cl : List (Str × Addr)) (fp : List Addr), PE (X.blk s H scope (compEnvC scope cl C X.env) fp) elt (LE (X.blk s H scope (compEnvC scope cl C X.env) fp) NoX (eval Φ a))) (hs : notSet iter = true) :
    Snd X xw (.ListComp elt [⟨tg, iter, ifs, 0⟩] scope pos) (eval Φ (.lc a b k it c own)) :=
  snd_plain (PE.wk (pe_unl (pe_lc hc hN hi ok hg ht he (folded_no hs))) fun σ H Q h => le_lc h) fun _ => rfl
theorem le_mono {m : Env → Sto → Res W} {Q Q' : VK} (h : LE X xw m σ H Q) (k : ∀ v H, Q v H → Q' v H) : LE X xw m σ H Q' := by
  obtain ⟨ρ, S, η, re, R, h⟩ := h
  exact ⟨ρ, S, η, re, R, h.imp fun u S1 ρ1 H1 L1 R1 q v rv => k v H1 (q v rv)⟩
theorem t_setLc {i : Nat} {y : Str} {py : Pos} {elt tg iter : Expr} {ifs : List Expr} {scope : Scope} {own : List (Str × Nat)} {pos spos : Pos} {Φ : Fns} {a b it c : E} {k : Itk} (hc : X.calm = true) (hN : X.N.Nodup) (hy : X.N[i]? = some y) (hyl : X.env.scope.names.lookup y = some .local)
    (hsw : swapsWith (.ListComp elt [⟨tg, iter, ifs, 0⟩] scope pos) (some (.Name y py)) spos.line X.env = pure true) (hi : L2.PI X tg iter (LI X xw (evals Φ it) k)) (ok : BlkOk X.N X.env.scope scope own)
    (hg : ∀ (s : Shared) (H : Hp) (C : Addr) (cl : List (Str × Addr)) (fp : List Addr), PG (X.blk s H scope (compEnvC scope cl C X.env) fp) tg (LGw (X.blk s H scope (compEnvC scope cl C X.env) fp) b (own.map (·.2))))
    (ht : ∀ (s : Shared) (H : Hp) (C : Addr) (cl : List (Str × Addr)) (fp : List Addr), PTs (X.blk s H scope (compEnvC scope cl C X.env) fp) ifs (LC (X.blk s H scope (compEnvC scope cl C X.env) fp) NoX Φ c))
    (he : ∀ (s : Shared) (H : Hp) (C : Addr) (cl : List (Str × Addr)) (fp : List Addr), PE (X.blk s H scope (compEnvC scope cl C X.env) fp) elt (LE (X.blk s H scope (compEnvC scope cl C X.env) fp) NoX (eval Φ a))) (hs : notSet iter = true) :
    PS X (.Assign [.Name y py] (.ListComp elt [⟨tg, iter, ifs, 0⟩] scope pos) spos) (LS X xw (exec Φ (.asg (.v i) (.lc a b k it c own)))) := by
  refine PS.wk (ps_unl (ps_setLc (g := LGw X b (own.map fun p : Str × Nat => p.2)) (tt := LC X NoX Φ c) (te := LE X NoX (eval Φ a)) hc hN hy hyl hsw hi ok hg ht he (folded_no hs))) fun D σ H h => ?_
  have h1 := asg_inv D σ H h
  refine le_lc (Q := fun x H1 => D.nx (σ.set i (some x)) H1) (le_mono h1 fun v H1 ⟨ρ, S, η, w, rw, re, R, q⟩ => ?_)
  rw [asgE] at q
  exact q.ok_imp R _ (re.set i rw)
theorem swaps_lc {elt : Expr} {gs : List Comprehension} {scope : Scope} {pos py : Pos} {y : Str} {l : Nat} {env : PySem.Env} (hk : env.scope.kind = .function) :
    swapsWith (.ListComp elt gs scope pos) (some (.Name y py)) l env = pure (env.scope.names.lookup y == some .local && py.line == pos.line && !(scope.names.any fun (n, k) => n == y && (k == .local || k == .cell))) := by
  have hb : env.blockKind = .function := by unfold Env.blockKind; rw [hk]; rfl
  unfold swapsWith
  simp only [hb, Expr.pos]
  rfl
/-! ### parallel assignments -/
theorem par_inv {Φ : Fns} {tg es : E} {P : List V → Hp → Prop} (h : LS X xw (exec Φ (.asg tg (.tup es))) D σ H)
    (k : ∀ ρ S η ws vs H1, REnv X.J ρ H1 η σ → RWs X.J ρ H1 ws vs → Rel X.prog X.w X.J ρ S H1 → Fin X xw ρ H1 (asgE Φ tg (.tup ws) η S) (fun η1 _ ρ1 H1 => ∀ σ1, REnv X.J ρ1 H1 η1 σ1 → D.nx σ1 H1) → P vs H1) : LA X xw (evals Φ es) σ H P := by
  obtain ⟨ρ, S, η, re, R, h⟩ := h
  rw [exec, eval] at h
  refine ⟨ρ, S, η, re, R, (Fin.bind (SFin.go h)).imp fun ws S1 ρ1 H1 L1 R1 q vs rvs => ?_⟩
  split at q
  · have q1 := q.ok_imp R1
    exact k ρ1 S1 η ws vs H1 (re.mono L1) rvs R1 ((SFin.go q1).imp fun η1 S2 ρ2 H2 L2 R2 q2 σ1 re1 => q2 ρ2 H2 σ1 .refl R2 re1)
  · exact q.no.elim
theorem t_par {i j : Nat} {x y : Str} {a b : Expr} {px py pt pos : Pos} {kt k2 pt2} {Φ : Fns} {es : E} (hc : X.calm = true) (hN : X.N.Nodup) (hi : X.N[i]? = some x) (hj : X.N[j]? = some y) (hij : i ≠ j)
    (hx : X.env.scope.names.lookup x = some .local) (hy : X.env.scope.names.lookup y = some .local) (ha : PA X [a, b] (LA X xw (evals Φ es)))
    (hw : swappedStores [.Tuple [.Name x px, .Name y py] kt pt] (.Tuple [a, b] k2 pt2) X.env = pure (some [x, y])) :
    PS X (.Assign [.Tuple [.Name x px, .Name y py] kt pt] (.Tuple [a, b] k2 pt2) pos) (LS X xw (exec Φ (.asg (.tup (.cons (.v i) (.cons (.v j) .nil))) (.tup es)))) := by
  refine PS.wk (ps_par hc hN hi hj hij hx hy ha hw rfl) fun D σ H h => par_inv h fun ρ S η ws vs H1 re rvs R q => ?_
  simp only [asgE] at q
  unfold asgEs at q
  split at q
  · rename_i w ws'
    simp only [asgE, Res.bind] at q
    unfold asgEs at q
    split at q
    · rename_i w2 ws2
      simp only [asgE, Res.bind] at q
      unfold asgEs at q
      split at q
      · cases rvs with
        | cons r1 rvs =>
          cases rvs with
          | cons r2 rvs =>
            cases rvs
            exact ⟨_, _, rfl, q.ok_imp R _ ((re.set i r1).set j r2)⟩
      · exact q.no.elim
    · exact q.no.elim
  · exact q.no.elim
theorem t_par3 {i j l : Nat} {x y z : Str} {a b c : Expr} {px py pz pt pos : Pos} {kt k2 pt2} {Φ : Fns} {es : E} (hc : X.calm = true) (hN : X.N.Nodup) (hi : X.N[i]? = some x) (hj : X.N[j]? = some y) (hl : X.N[l]? = some z) (hij : i ≠ j) (hil : i ≠ l) (hjl : j ≠ l)
    (hx : X.env.scope.names.lookup x = some .local) (hy : X.env.scope.names.lookup y = some .local) (hz : X.env.scope.names.lookup z = some .local) (ha : PA X [a, b, c] (LA X xw (evals Φ es)))
    (hw : swappedStores [.Tuple [.Name x px, .Name y py, .Name z pz] kt pt] (.Tuple [a, b, c] k2 pt2) X.env = pure (some [x, y, z])) :
    PS X (.Assign [.Tuple [.Name x px, .Name y py, .Name z pz] kt pt] (.Tuple [a, b, c] k2 pt2) pos) (LS X xw (exec Φ (.asg (.tup (.cons (.v i) (.cons (.v j) (.cons (.v l) .nil)))) (.tup es)))) := by
  refine PS.wk (ps_par3 hc hN hi hj hl hij hil hjl hx hy hz ha hw rfl) fun D σ H h => par_inv h fun ρ S η ws vs H1 re rvs R q => ?_
  simp only [asgE] at q
  unfold asgEs at q
  split at q
  · simp only [asgE, Res.bind] at q
    unfold asgEs at q
    split at q
    · simp only [asgE, Res.bind] at q
      unfold asgEs at q
      split at q
      · simp only [asgE, Res.bind] at q
        unfold asgEs at q
        split at q
        · cases rvs with
          | cons r1 rvs =>
            cases rvs with
            | cons r2 rvs =>
              cases rvs with
              | cons r3 rvs =>
                cases rvs
                exact ⟨_, _, _, rfl, q.ok_imp R _ (((re.set i r1).set j r2).set l r3)⟩
        · exact q.no.elim
      · exact q.no.elim
    · exact q.no.elim
  · exact q.no.elim
end
end PI

set_option Elab.async false
set_option linter.all false
set_option maxRecDepth 100000
set_option maxHeartbeats 4000000
/-! defs and calls -/
namespace PI
open PySem PySem.Spec PyProof.Rows L2
/-- a def's promise, where no guard stands -/
structure FnG (P : Program) (w : World) (K : PySem.W.Frag) (mg : Str → Option Value) (base : Heap) (CX : CXT) (k : Nat) (f : Addr) (fd : FuncData) (ps : List Str) (sp : Sp) : Prop where
  len : ∀ vs H Q E, sp vs H Q E → vs.length = ps.length
  run : ∀ (A : Around) (outer : List PySem.Env) (s : Shared) (H : Hp) (args : Args) (us : List Value) (vs : List V) (Q : VK) (E : XK), A.guards = some [] → Room k A → Env0 P w K mg base A outer s H → BindsTo s fd args (ps.zip us) → Vals vs us → sp vs H Q E →
    codeAny (model P w) A (.call (.ref f) args) (CR CX outer P w H s Q E) s
section
variable {X : Cx} {CX : CXT} {k : Nat} {f C : Addr} {fd : FuncData} {ps : List Str} {sp : Sp} {dvs : List V} {ds : List Value} {E : XK} {x m : Str} {p pos apos : Pos} {e o : Expr} {es : List Expr} {ta : TE} {t : TA}
theorem FnG.mono {P : Program} {w : World} {K : PySem.W.Frag} {mg : Str → Option Value} {base : Heap} {j : Nat} (F : FnG P w K mg base CX j f fd ps sp) (h : j ≤ k) : FnG P w K mg base CX k f fd ps sp :=
  ⟨F.len, fun A outer s H args us vs Q E hg hr => F.run A outer s H args us vs Q E hg (hr.mono h)⟩
theorem run_fnG {pins : List (Addr × Obj)} {σ : L2.St} {H : Hp} {s : Shared} {Q : VK} {us : List Value} {vs : List V} (F : FnG X.prog X.w X.K X.mg X.base CX k f fd ps sp) (hgd : X.A.guards = some []) (hr : Room k X.A) (hb : Binds X.K fd ps []) (hx : Passes CX X E)
    (I : Inv X pins σ H s) (r : Vals vs us) (h : sp vs H Q E) : wpAny (model X.prog X.w) X.A (call (.ref f) us) (EP X pins σ Q) X.xe s := by
  have hl : us.length = ps.length := by rw [← r.length]; exact F.len _ _ _ _ h
  have hb' := hb s us I.kIn (by rw [List.append_nil]; exact hl)
  rw [List.append_nil] at hb'
  refine wpAny_call (codeAny_mono (F.run X.A X.stack s H ⟨us, []⟩ us vs Q E hgd hr I.env0 hb' r h) fun r s' hq => ?_)
  cases r with
  | error e => exact hx pins σ H s e s' I hq
  | ok fl =>
    cases fl with
    | ret u => exact I.after hq
    | next => exact False.elim hq
    | brk => exact False.elim hq
    | cont => exact False.elim hq
theorem pe_callG (F : FnG X.prog X.w X.K X.mg X.base CX k f fd ps sp) (hgd : X.A.guards = some []) (hr : Room k X.A) (hg : Gl X x) (hm : X.mg x = some (.ref f)) (hk : PySem.W.keepIn X.K (.ref f) = true) (hb : Binds X.K fd ps []) (hx : Passes CX X E)
    (ha : PA X (e :: es) t) (hdb : (x == ("__debug__" : Str)) = false) (hs : (e :: es).all notStar = true) :
    PE X (.Call (.Name x p) (e :: es) [] pos) (tCB (fun vs H Q => sp vs H Q E) t) := by
  refine ⟨fun pins s σ H Q I h => ?_⟩
  refine wpAny_Call_Name_kw (ld_glob I hg hm ?_ hdb)
  rw [List.all_cons, Bool.and_eq_true] at hs
  refine PySem.W.callWith_K (h₀ := X.base) I.ok.mod.kin hk (thn (ha.run pos pins s σ H _ I h) fun us s1 ⟨vs, H1, I1, r, q⟩ => ⟨I1.kIn, ?_⟩) (star_cons hs.1) (star_plain hs.2)
  exact run_fnG F hgd hr hb hx I1 r q
theorem pe_callG0 (F : FnG X.prog X.w X.K X.mg X.base CX k f fd ps sp) (hgd : X.A.guards = some []) (hr : Room k X.A) (hg : Gl X x) (hm : X.mg x = some (.ref f)) (hk : PySem.W.keepIn X.K (.ref f) = true) (hb : Binds X.K fd ps []) (hx : Passes CX X E)
    (hdb : (x == ("__debug__" : Str)) = false) : PE X (.Call (.Name x p) [] [] pos) (fun σ H Q => sp [] H Q E) := by
  refine ⟨fun pins s σ H Q I h => ?_⟩
  refine wpAny_Call_Name_kw (ld_glob I hg hm ?_ hdb)
  exact PySem.W.callWith_K0 I.kIn hk (run_fnG (us := []) F hgd hr hb hx I .nil h)
/-- THE RULE: a def of the text, by its body -/
theorem fn_ofG {CX : CXT} {P : Program} {w : World} {K : PySem.W.Frag} {mg : Str → Option Value} {base : Heap} {k : Nat} {f : Addr} {name qual : Str} {params : Arguments} {body : List Stmt} {scope : Scope} {dV kV doc pm cdv ct oc : Value} {an od : Option Addr}
    {osl : Array (Option Value)} {N ps : List Str} {sp : Sp} (lk : K.lookup f = some ⟨oc, od, .func (PySem.W.fnOf name qual params body scope dV kV doc pm an cdv ct), osl⟩) (hcd : PySem.W.codeIn K cdv qual = true) (S : FnScope N ps scope)
    (len : ∀ vs H Q E, sp vs H Q E → vs.length = ps.length)
    (hbody : ∀ (A : Around) (outer : List PySem.Env) (s : Shared) (H : Hp) (vs : List V) (Q : VK) (E : XK), A.guards = some [] → Room k (A.deeper (envOfC qual scope s.heap.objs.size f cdv)) → sp vs H Q E →
      ∃ t, PSs (cxOf CX P w K mg base N qual scope f cdv A outer s H E) body t ∧ t { nx := fun _ H' => Q .non H', rt := Q } (start N vs) H) :
    FnG P w K mg base CX (k + 1) f (PySem.W.fnOf name qual params body scope dV kV doc pm an cdv ct) ps sp := by
  refine ⟨len, fun A outer s H args us vs Q E hgd hr e0 hb r hsp => ?_⟩
  have hl := len _ _ _ _ hsp
  have KX : K.In s.heap := e0.mod.kin.keeps fun b o e => (e0.bs b o e).1
  have lim : s.heap.NoLimit := e0.mod.nolimit.keeps fun b o e => (e0.bs b o e).1
  have hkind : ∀ y ∈ ps.zip us, scope.names.lookup y.1 = some .local ∨ (scope.names.lookup y.1 = some .cell ∧ ((cellsFrom (s.heap.objs.size + 1) scope.names []).lookup y.1).isSome = true) := fun ⟨n, v⟩ hy => by
    rcases S.par n (List.of_mem_zip hy).1 with q | q
    · exact .inl q
    · exact .inr ⟨q, PySem.W.cellsFrom_some _ _ _ (.inl q)⟩
  refine codeAny_call_function hr.depth (KX _ _ lk) rfl S.co S.gen rfl (PySem.W.codeRec_of KX hcd) (hb _ _ _ _ ?_)
  refine wpAny_newFunctionEnv_cells S.kind hkind fun env he s1 x => ?_
  subst he
  refine ⟨lim.keeps x.toInCall.keep, codeAny_func ?_⟩
  obtain ⟨t, ht, hq⟩ := hbody A outer s H vs Q E hgd (hr.deeper _) hsp
  have I : Inv (cxOf CX P w K mg base N qual scope f cdv A outer s H E) [] (start N vs) H s1 := inv_start S hr.hd e0 hl r x
  refine wpAny_mono (ht.run [] s1 (start N vs) H _ I hq) (fun fl s' hs => ?_) fun e s' hs => hs
  have fin : ∀ {σ' : L2.St} {H' : Hp} {v : V} {u : Value}, Inv (cxOf CX P w K mg base N qual scope f cdv A outer s H E) [] σ' H' s' → RelV v u → Q v H' → CE outer P w H s Q u s' :=
    fun {σ' H' v u} J rv q => ⟨v, H', J.os, J.bare, J.base, J.hok, rv, q⟩
  cases fl with
  | ret u =>
    obtain ⟨v, σ', H', J, rv, q⟩ := hs
    exact fin J rv q
  | next =>
    obtain ⟨σ', H', J, q⟩ := hs
    exact fin (v := V.non) (u := Value.none) J rfl q
  | brk =>
    obtain ⟨_, _, _, q⟩ := hs
    exact False.elim q
  | cont =>
    obtain ⟨_, _, _, q⟩ := hs
    exact False.elim q
end
/-! ### the evaluator's defs -/
/-- what a def promises: the evaluator's answer -/
def spW (P : Program) (w : World) (K : PySem.W.Frag) (mg : Str → Option Value) (Φ : Fns) (f : Str) (n : Nat) : Sp := fun vs H Q E => vs.length = n ∧ ∃ ρ S ws, RWs ⟨K, mg⟩ ρ H ws vs ∧ Rel P w ⟨K, mg⟩ ρ S H ∧
  ∀ X : Cx, X.prog = P → X.w = w → X.K = K → X.mg = mg → Fin X E ρ H (Φ f ws S) fun u _ ρ' H' => ∀ v, RW ⟨K, mg⟩ ρ' H' u v → Q v H'
theorem Fin.tr {X X' : Cx} {α : Type} {xw : XW} {ρ : List Addr} {H : Hp} {r : Res α} {Q : α → Sto → List Addr → Hp → Prop} (h1 : X.prog = X'.prog) (h2 : X.w = X'.w) (h3 : X.K = X'.K) (h4 : X.mg = X'.mg) (h : Fin X xw ρ H r Q) : Fin X' xw ρ H r Q := by
  have h5 : X.J = X'.J := by
    show (⟨X.K, X.mg⟩ : KM) = ⟨X'.K, X'.mg⟩
    rw [h3, h4]
  cases r with
  | ok a S => exact fun ρ' H' L R => h ρ' H' (by rw [h5]; exact L) (by rw [h1, h2, h5]; exact R)
  | exc c fs S => exact fun ρ' H' cls d L R e => h ρ' H' cls d (by rw [h5]; exact L) (by rw [h1, h2, h5]; exact R) (by unfold RX at e ⊢; rw [h4, h5]; exact e)
  | bad => exact h
structure Sig where
  /-- the defs that may be called, by the number of their parameters -/
  fns : List (Str × Nat)
  /-- the built-in names that are what they are -/
  blt : List Str
  /-- the module's constants -/
  cs : List (Str × E)
  /-- the program's exception classes that are told of -/
  all : List Str
  /-- classes that are asked for, each with those of them below it -/
  sub : List (Str × List Str)
  /-- classes that are raised without arguments -/
  raw : List Str
  /-- classes with own __init__ and one field -/
  fld : List (Str × Str)
def CV : E → Option V
  | .kI i => some (.int i)
  | .kS x => some (.str x)
  | _ => none
/-- a class by its name: the module's or built in -/
def clsOf (mg : Str → Option Value) (d : Str) : Option Value := match mg d with
  | some v => some v
  | none => if d = "__name__" then none else bootBuiltins d
def clsV : Value → Option V
  | .ref a => some (.ref a)
  | .type n => some (.ty n)
  | _ => none
/-- an exception class of the program, for isinstance -/
def xcB (K : PySem.W.Frag) (C : Addr) : Bool := (PySem.W.clsIn K C).isSome && PySem.W.findIn K (.ref C) "__getattribute__" == some (some (.builtin "BaseException.__getattribute__")) && (PySem.W.findIn K (.ref C) "__getattr__").isSome
  && PySem.W.subIn K (.ref C) (.type "BaseException") == some true && PySem.W.findIn K (.ref C) "__class__" == some (some (.builtin "object.__class__")) && PySem.W.specialIn K (.builtin "object.__class__") "__get__" == some (some (.builtin "getset_descriptor.__get__"))
  && PySem.W.takesIn K (.builtin "object.__class__") == some true && PySem.W.mroIn K C (.type "object") == some true && PySem.W.typeIn K (.ref C) == some (.type "type")
def baseV : List Value := [.type "ValueError", .type "Exception", .type "BaseException", .type "object"]
def baseL : List Value := [.type "LookupError", .type "Exception", .type "BaseException", .type "object"]
def baseR : List Value := [.type "RuntimeError", .type "Exception", .type "BaseException", .type "object"]
/-- an own class without own __init__ -/
def rawB (K : PySem.W.Frag) (C : Addr) : Bool := PySem.W.keepIn K (.ref C) && (PySem.W.excIn K C baseV "ValueError.__new__" || PySem.W.excIn K C baseL "LookupError.__new__" || PySem.W.excIn K C baseR "RuntimeError.__new__")
/-- one class beside a class that is asked for -/
def kitB (K : PySem.W.Frag) (mg : Str → Option Value) (dv : Value) (below : List Str) (c : Str) : Bool := match mg c with
  | some (.ref C) => xcB K C && PySem.W.exmOne K (.ref C) dv == some (below.contains c) && PySem.W.kitOne K (.ref C) dv == some (below.contains c)
  | _ => false
/-- what is known of a class that is asked for -/
def subB (K : PySem.W.Frag) (mg : Str → Option Value) (all : List Str) (d : Str) (below : List Str) : Bool := match clsOf mg d with
  | some dv => (clsV dv).isSome && PySem.W.kitOne K (.type "NoneType") dv == some false && (d == ("__debug__" : Str)) == false && all.all (kitB K mg dv below)
  | none => false
def rawC (K : PySem.W.Frag) (mg : Str → Option Value) (c : Str) : Bool := match mg c with
  | some (.ref C) => xcB K C && rawB K C && (c == ("__debug__" : Str)) == false
  | _ => false
/-- what is told of a class with own __init__ and a field f -/
def oexB (K : PySem.W.Frag) (C fI : Addr) (f : Str) : Bool := (match K.lookup C with
  | some ⟨.type "type", _, .cls cd, sl⟩ => (match cd.mro, sl.toList with
    | .ref C' :: bm, [_, _, _, _, some (.builtin n), _] => C' == C && n == "ValueError.__new__" && !cd.hasDel && cd.hasDict && HandSPX.refsVE bm
    | _, _ => false)
  | _ => false) && PySem.W.findIn K (.ref C) "__setattr__" == some (some (.builtin "object.__setattr__")) && PySem.W.keepIn K (.ref C) && PySem.W.hasDictIn K C && PySem.W.findIn K (.ref C) f == some none
  && PySem.W.findIn K (.ref C) "__init__" == some (some (.ref fI)) && PySem.W.typeIn K (.ref fI) == some (.type "function")
def spI (K : PySem.W.Frag) (f : Str) : Sp := fun vs H Q E => ∃ (a C : Addr) (v : V), vs = [.ref a, v] ∧ OexC K C ∧ PySem.W.findIn K (.ref C) f = some none ∧ H a = some (exo a C none) ∧ ∀ dx, H dx = none → dx ≠ a → Q .non (upd (upd H dx (exd dx [(f, v)])) a (exo a C (some dx)))
/-- a class with own __init__ and one field -/
structure FldOk (P : Program) (w : World) (K : PySem.W.Frag) (mg : Str → Option Value) (base : Heap) (c f : Str) : Prop where
  ex : ∃ (C fI : Addr) (fd : FuncData), mg c = some (.ref C) ∧ xcB K C = true ∧ oexB K C fI f = true ∧ (c == ("__debug__" : Str)) = false ∧ Binds K fd ["self", f] [] ∧ FnOk P w K mg base C8.CX0 1 fI fd ["self", f] (spI K f)
structure Ctx (X : Cx) (G : Sig) (Φ : Fns) (xw : XW) : Prop where
  calm : X.calm = true
  nd : X.N.Nodup
  gd : X.A.guards = some []
  un : X.A.units + 64 < cLine
  kind : X.env.scope.kind = .function
  pass : PassesOwn (model X.prog X.w) X.A X.env X.xe
  blt : ∀ x ∈ G.blt, X.mg x = none
  cs : ∀ x e, (x, e) ∈ G.cs → ∃ v u, CV e = some v ∧ X.mg x = some u ∧ RelV v u
  fns : ∀ f n, (f, n) ∈ G.fns → ∃ k a fd ps, Room k X.A ∧ X.mg f = some (.ref a) ∧ PySem.W.keepIn X.K (.ref a) = true ∧ Binds X.K fd ps [] ∧ FnG X.prog X.w X.K X.mg X.base (CX X.prog X.w) k a fd ps (spW X.prog X.w X.K X.mg Φ f n)
  tk : Takes X (fun cls d _ H => xw cls d H)
  xs : ∀ p ∈ G.sub, subB X.K X.mg G.all p.1 p.2 = true
  xr : ∀ c ∈ G.raw, rawC X.K X.mg c = true
  room : Room 2 X.A
  xf : ∀ p ∈ G.fld, FldOk X.prog X.w X.K X.mg X.base p.1 p.2
section
variable {X : Cx} {xw : XW} {G : Sig} {Φ : Fns}
theorem Ctx.blk {scope : Scope} (C : Ctx X G Φ xw) (hk : scope.kind = .function) (s : Shared) (H : Hp) (L : Addr) (cl : List (Str × Addr)) (fp : List Addr) : Ctx (X.blk s H scope (compEnvC scope cl L X.env) fp) G Φ NoX :=
  ⟨C.calm, C.nd, C.gd, C.un, by show (relS scope X.env.scope).kind = .function; exact hk, .never, C.blt, C.cs, C.fns, fun _ _ ⟨_, _, _, _, _, _, _, _, _, _, _, _, _, _, _, _, w⟩ => w.elim, C.xs, C.xr, C.room, C.xf⟩
theorem s_call {x : Str} {n : Nat} {p pos : Pos} {e : Expr} {es : List Expr} {r : E} (C : Ctx X G Φ xw) (hf : (x, n) ∈ G.fns) (hg : Gl X x) (hdb : (x == ("__debug__" : Str)) = false) (hs : (e :: es).all notStar = true) (hl : (e :: es).length = n) (ha : PA X (e :: es) (LA X xw (evals Φ r)))
    (hlen : ∀ η S us S', evals Φ r η S = .ok us S' → us.length = n) : Snd X xw (.Call (.Name x p) (e :: es) [] pos) (eval Φ (.call x r)) := by
  obtain ⟨k, a, fd, ps, hr, hm, hk, hb, F⟩ := C.fns x n hf
  refine snd_plain (PE.wk (pe_callG (E := xw) F C.gd hr hg hm hk hb (passes_call C.tk fun _ _ _ _ h => h) ha hdb hs) fun σ H Q ⟨ρ, S, η, re, R, h⟩ => ?_) fun _ => rfl
  rw [eval] at h
  refine ⟨ρ, S, η, re, R, ?_⟩
  have h1 := Fin.bind h
  cases q : evals Φ r η S with
  | ok us S1 =>
    rw [q] at h1
    intro ρ1 H1 L1 R1 vs rvs
    exact ⟨by rw [← rvs.length]; exact hlen η S us S1 q, ρ1, S1, us, rvs, R1, fun X' e1 e2 e3 e4 => Fin.tr e1.symm e2.symm e3.symm e4.symm (h1 ρ1 H1 L1 R1)⟩
  | exc c fs S1 => rw [q] at h1; exact h1
  | bad => rw [q] at h1; exact h1
theorem s_call0 {x : Str} {p pos : Pos} (C : Ctx X G Φ xw) (hf : (x, 0) ∈ G.fns) (hg : Gl X x) (hdb : (x == ("__debug__" : Str)) = false) : Snd X xw (.Call (.Name x p) [] [] pos) (eval Φ (.call x .nil)) := by
  obtain ⟨k, a, fd, ps, hr, hm, hk, hb, F⟩ := C.fns x 0 hf
  refine snd_plain (PE.wk (pe_callG0 (E := xw) F C.gd hr hg hm hk hb (passes_call C.tk fun _ _ _ _ h => h) hdb) fun σ H Q ⟨ρ, S, η, re, R, h⟩ => ?_) fun _ => rfl
  rw [eval, evals] at h
  exact ⟨rfl, ρ, S, [], .nil, R, fun X' e1 e2 e3 e4 => Fin.tr e1.symm e2.symm e3.symm e4.symm h⟩
theorem s_glob {x : Str} {w : E} {pos : Pos} (C : Ctx X G Φ xw) (hc : ∃ e, (x, e) ∈ G.cs ∧ CV e = CV w) (hg : Gl X x) (hd : (x == ("__debug__" : Str)) = false) : Snd X xw (.Name x pos) (eval Φ (.glob x w)) := by
  obtain ⟨e, hc, hv⟩ := hc
  obtain ⟨v, u, h1, h2, h3⟩ := C.cs x e hc
  rw [hv] at h1
  cases w <;> first
    | (cases h1; done)
    | (cases h1
       exact s_con (pe_glob hg h2 h3 hd) (fun η S => by rw [eval]; rfl) (fun _ _ => by first | exact .int _ | exact .str _) fun _ => rfl)
/-! ### which store first -/
theorem sw_none {t e : Expr} {env : PySem.Env} (h : ∀ ts k p, t ≠ .Tuple ts k p) (h2 : ∀ ts p, t ≠ .List ts p) : swappedStores [t] e env = pure none := by
  unfold swappedStores
  cases t <;> first
    | rfl
    | exact absurd rfl (h _ _ _)
    | exact absurd rfl (h2 _ _)
theorem sw_none2 {t e : Expr} {env : PySem.Env} (h : ∀ ts k p, e ≠ .Tuple ts k p) : swappedStores [t] e env = pure none := by
  unfold swappedStores
  cases e <;> first
    | exact absurd rfl (h _ _ _)
    | (cases t <;> rfl)
def isStar : Expr → Bool
  | .Starred .. => true
  | _ => false
def swNames (sc : Scope) (ts : List Expr) : List Str := ts.filterMap fun t => match t with
  | .Name id pos => if sc.names.lookup id == some .local && pos.line == (ts.head?.map (·.pos.line)).getD 0 then some id else none
  | _ => none
def swN (sc : Scope) (ts vs : List Expr) : Bool := !(ts.length == 2 || ts.length == 3) || vs.length != ts.length || vs.any isStar || (swNames sc ts).length != ts.length || (swNames sc ts).eraseDups.length != (swNames sc ts).length || vs.all (foldedForSure 8)
theorem sw_tt {ts vs : List Expr} {k k2 : Nat} {p p2 : Pos} {env : PySem.Env} (hk : env.scope.kind = .function) (h : swN env.scope ts vs = true) : swappedStores [.Tuple ts k p] (.Tuple vs k2 p2) env = pure none := by
  have hb : (env.blockKind != .function) = false := by unfold Env.blockKind; rw [hk]; rfl
  unfold swappedStores
  simp only [hb, Bool.or_false]
  unfold swN at h
  by_cases h1 : (!(ts.length == 2 || ts.length == 3) || vs.length != ts.length) = true
  · rw [if_pos h1]
  · rw [if_neg h1]
    change (if vs.any isStar = true then _ else if ((swNames env.scope ts).length != ts.length || (swNames env.scope ts).eraseDups.length != (swNames env.scope ts).length) = true then _ else if vs.all (foldedForSure 8) = true then _ else _) = _
    by_cases h2 : vs.any isStar = true
    · rw [if_pos h2]
    · rw [if_neg h2]
      by_cases h3 : ((swNames env.scope ts).length != ts.length || (swNames env.scope ts).eraseDups.length != (swNames env.scope ts).length) = true
      · rw [if_pos h3]
      · rw [if_neg h3]
        have h4 : vs.all (foldedForSure 8) = true := by
          rw [Bool.or_eq_true] at h
          rcases h with h | h
          · exfalso
            simp only [Bool.or_eq_true, not_or, Bool.not_eq_true] at h1 h2 h3 h
            obtain ⟨a1, a2⟩ := h1
            obtain ⟨b1, b2⟩ := h3
            simp_all
            obtain ⟨x, hx, hs⟩ := h
            rw [h2 x hx] at hs
            cases hs
          · exact h
        rw [if_pos h4]
/-- stored from the right: all local, on one line, apart -/
def swY (sc : Scope) (ts vs : List Expr) : Bool := (ts.length == 2 || ts.length == 3) && vs.length == ts.length && !vs.any isStar && (swNames sc ts).length == ts.length && (swNames sc ts).eraseDups.length == (swNames sc ts).length && !vs.all (foldedForSure 8) && !vs.all (constantsAlone 8)
theorem sw_yes {ts vs : List Expr} {k k2 : Nat} {p p2 : Pos} {env : PySem.Env} (hk : env.scope.kind = .function) (h : swY env.scope ts vs = true) : swappedStores [.Tuple ts k p] (.Tuple vs k2 p2) env = pure (some (swNames env.scope ts)) := by
  have hb : (env.blockKind != .function) = false := by unfold Env.blockKind; rw [hk]; rfl
  unfold swappedStores
  simp only [hb, Bool.or_false]
  unfold swY at h
  simp only [Bool.and_eq_true, Bool.not_eq_true'] at h
  obtain ⟨⟨⟨⟨⟨⟨a1, a2⟩, a3⟩, a4⟩, a5⟩, a6⟩, a7⟩ := h
  have e1 : (!(ts.length == 2 || ts.length == 3) || vs.length != ts.length) = false := by
    rw [a1]
    simp only [bne, a2]
    rfl
  rw [if_neg (by rw [e1]; exact Bool.false_ne_true)]
  change (if vs.any isStar = true then _ else if ((swNames env.scope ts).length != ts.length || (swNames env.scope ts).eraseDups.length != (swNames env.scope ts).length) = true then _ else if vs.all (foldedForSure 8) = true then _ else if vs.all (constantsAlone 8) = true then _ else pure (some (swNames env.scope ts))) = _
  rw [if_neg (by rw [a3]; exact Bool.false_ne_true), if_neg (by simp only [bne, a4, a5]; exact Bool.false_ne_true), if_neg (by rw [a6]; exact Bool.false_ne_true), if_neg (by rw [a7]; exact Bool.false_ne_true)]
end
end PI

set_option Elab.async false
set_option linter.all false
set_option maxRecDepth 100000
set_option maxHeartbeats 4000000
/-! exceptions: a caught one becomes a value; try -/
namespace PI
open PySem PySem.Spec PyProof.Rows L2
section
variable {X : Cx} {pins : List (Addr × Obj)} {σ : L2.St} {H : Hp} {s : Shared}
theorem exA_ok {P : Program} {w : World} {H : Hp} {h : Heap} {a : Addr} {cls : Value} {d : Option Addr} {oe : Obj} {vs : Array Value} (e : h.get? a = some oe) (z : Zc cls d oe) (hd : oe.data = .fields vs) : ObjOk P w H h a (ExA cls d a) :=
  ⟨⟨oe, vs, e, z, hd⟩, ⟨oe, e⟩, fun _ _ ⟨o, v, q, r⟩ k => ⟨o, v, k o q, r⟩⟩
/-- an exception's object becomes one of the world -/
theorem adopt {a : Addr} {oe : Obj} {vs : Array Value} {cls : Value} {d : Option Addr} (I : Inv X pins σ H s) (ha : s.heap.get? a = some oe) (z : Zc cls d oe) (hd : oe.data = .fields vs) (na : H a = none)
    (n0 : X.s_0.heap.get? a = none) (nL : a ≠ X.env.locals) (np : ∀ p ∈ X.pn ++ pins, p.1 ≠ a) : Inv X pins σ (upd H a (ExA cls d a)) s := by
  have ne0 : ∀ b o, X.s_0.heap.get? b = some o → b ≠ a := fun b o e q => by rw [q, n0] at e; cases e
  have neH : ∀ b o, H b = some o → b ≠ a := fun b o e q => by rw [q, na] at e; cases e
  refine ⟨I.ok, I.os, I.bare, ⟨I.base.keep, I.base.slot, fun b o e n hx => ?_, I.base.there, fun b xs e => ?_, fun b o u e => ?_, fun b ps e => ?_⟩, I.loc, I.cell, ?_, fun x c e => ?_, fun p hp => ?_, fun b u e => ?_, I.len⟩
  · rw [upd_ne (ne0 b o e)]
    exact I.base.free b o e n hx
  · have q := I.base.tups b xs e
    rw [upd_ne (neH b _ q)]
    exact q
  · have q := I.base.frzs b o u e
    rw [upd_ne (neH b _ q)]
    exact q
  · obtain ⟨m, q⟩ := I.base.tbls b ps e
    exact ⟨m, by rw [upd_ne (neH b _ q)]; exact q⟩
  · rw [upd_ne (Ne.symm nL)]
    exact I.free
  · obtain ⟨v, o, ho, hc⟩ := I.cell x c e
    have hne : c ≠ a := fun q => by
      rw [q, ha] at ho
      cases ho
      rw [hd] at hc
      cases hc
    rw [upd_ne hne]
    exact I.freeC x c e
  · obtain ⟨e, n, ne, nf, dd⟩ := I.pin p hp
    exact ⟨e, by rw [upd_ne (np p hp)]; exact n, ne, nf, dd⟩
  · by_cases hb : b = a
    · subst hb
      rw [upd_same] at e
      cases e
      exact exA_ok ha z hd
    · rw [upd_ne hb] at e
      exact (I.hok b u e).stay (fun _ _ _ q => q) (fun c q => by rw [upd_ne (neH c _ q)]; exact q) fun c xs q => by rw [upd_ne (neH c _ q)]; exact q
/-- what is known of the names may be forgotten -/
theorem forget {σ' : L2.St} (I : Inv X pins σ H s) (hl : σ'.length = σ.length) (h : ∀ (i : Nat) (v : V), σ'[i]? = some (some v) → σ[i]? = some (some v)) : Inv X pins σ' H s :=
  ⟨I.ok, I.os, I.bare, I.base, let ⟨m, h1, h2⟩ := I.loc; ⟨m, h1, fun i x v e1 e2 e3 => h2 i x v e1 (h i v e2) e3⟩, I.cell, I.free, I.freeC, I.pin, I.hok, by rw [hl, I.len]⟩
end
/-- nothing known but of one name -/
def oneS (n j : Nat) (v : V) : L2.St := (List.replicate n none).set j (some v)
/-- what a try wishes of an exception of its body -/
def wCatch (X : Cx) (c : Value) (n j : Nat) (xw : XW) (D : Ends) : XW := fun cls d H =>
  ∃ b, PySem.W.exmOne X.K cls c = some b ∧ (b = true → ∀ a, H a = none → D.nx (oneS n j (.ref a)) (upd H a (ExA cls d a))) ∧ (b = false → xw cls d H)
section
variable {X : Cx} {xw : XW} {x n : Str} {c : Value} {i j : Nat} {body suite : List Stmt} {np pos pos' : Pos} {m : Str} {b₀ : Stmt}
theorem ps_catch (m : Env → Sto → SRes) (hx0 : X.ex = []) (hs : X.stack = X.env :: X.outer) (hf : X.env.frame = some X.env.locals) (hN : X.N.Nodup) (hi : X.N[i]? = some n) (hln : X.env.kindOf n = some .local) (hij : i ≠ j) (hc : Names X x c) (tk : Takes X (fun cls d _ H => xw cls d H))
    (hb : ∀ (xw' : XW) (pn : List (Addr × Obj)) (xe : Value → Shared → Prop), Takes (X.tr pn xe) (fun cls d _ H => xw' cls d H) → PassesOwn (model X.prog X.w) X.A X.env xe → PSs (X.tr pn xe) body (LS X xw' m))
    (hsu : ∀ (a : Addr) (pn : List (Addr × Obj)), PSs (X.suite a pn) (b₀ :: suite) (fun D σ H => σ[i]? = some (some (.ref a)) ∧ D.nx (σ.set j (some (.ref a))) H)) :
    PS X (.Try body [.ExceptHandler (some (.Name x np)) (some n) (b₀ :: suite) pos'] [] [] pos) (fun D σ H => LS X (wCatch X c σ.length j xw D) m D σ H) := by
  refine ⟨fun pins s σ H D I h => ?_⟩
  have ok := I.ok
  have hfr : X.A.frames = some (X.env :: X.outer) := by rw [ok.frames, hs]
  have hloc : Loc X.env.scope n := .inl hln
  refine wpAny_Try_except ?_
  refine wpAny_mono ((hb (wCatch X c σ.length j xw D) (X.pn ++ pins) (fun e s₁ => wpAny (model X.prog X.w) X.A (noteFrame e X.env) (fun _ s₂ => wpAny (model X.prog X.w) X.A (setFlight e none) (fun _ s₃ =>
    wpAny (model X.prog X.w) X.A (handleBy e X.env [.ExceptHandler (some (.Name x np)) (some n) (b₀ :: suite) pos']) (SP X pins D) X.xe s₃) X.xe s₂) X.xe s₁) (fun u s' xx => ?_) PassesOwn.looking).run [] s σ H D (I.toTry _) h) (fun f s1 hsp => ?_) (fun e s1 he => he)
  · -- the catch
    obtain ⟨a, B, sI, pins', σ', H', cls, d, rfl, J', nb, up, sky, na, os, ag, b, hb1, hyes, hno⟩ := xx
    have J : Inv X pins σ' H' sI := J'.ofTry ok
    have sky' : Sky B (X.env :: X.outer) a (Zc cls d) X.env.locals s'.heap := by rw [← hs]; exact sky
    have nB : B.get? a = none := by
      rcases sky with z | z | z
      · exact z.2.1
      · exact z.2.1
      · exact z.2.1
    show wpAny (model X.prog X.w) X.A (noteFrame (.ref a) X.env) _ _ _
    refine Sky.land Zc.steady hfr hf sky' fun h3 fl3 up3 => ?_
    have J3 : Inv X pins σ' H' { s' with heap := h3 } := J.landed nb fl3.1 (up.trans up3) os ag
    obtain ⟨oe3, vs3, he3, hz3, hd3⟩ := fl3.there
    have notFr : ∀ {h : Heap} {o : Obj} {vs : Array Value}, h.FunFrames B (X.env :: X.outer) → h.get? a = some o → o.data = .fields vs → a ∉ frs (X.env :: X.outer) := fun {h o vs} ff e dd hm => by
      obtain ⟨_, o', e', hnf⟩ := ff.mem hm
      rw [e] at e'; cases e'
      exact hnf _ dd
    have nfr := notFr fl3.2.2.1 he3 hd3
    have nL : a ≠ X.env.locals := fun z => nfr (List.mem_filterMap.mpr ⟨X.env, List.mem_cons_self, by rw [hf, z]⟩)
    have nF : a ∉ X.fs := fun hm => by
      obtain ⟨e, he, q⟩ := List.mem_filterMap.mp hm
      exact nfr (List.mem_filterMap.mpr ⟨e, List.mem_cons_of_mem _ he, q⟩)
    have inFr : ∀ b, b ≠ X.env.locals → b ∉ X.fs → b ∉ frs X.stack := fun b h1 h2 hm => by
      rw [hs] at hm
      obtain ⟨e, he, q⟩ := List.mem_filterMap.mp hm
      rcases List.mem_cons.mp he with rfl | he
      · rw [hf] at q
        cases q
        exact h1 rfl
      · exact h2 (List.mem_filterMap.mpr ⟨e, he, q⟩)
    have n0 : X.s_0.heap.get? a = none := by
      cases e : X.s_0.heap.get? a with
      | none => rfl
      | some o =>
        by_cases hex : a ∈ X.ex
        · exact absurd hex (by rw [hx0]; intro z; cases z)
        · obtain ⟨o', e'⟩ := J.base.there a o e hex
          have := nb a o' e' (inFr a nL nF)
          rw [nB] at this
          cases this
    have npn : ∀ p ∈ X.pn ++ pins, p.1 ≠ a := fun p hp q => by
      obtain ⟨e, n, ne, nf, _⟩ := J.pin p hp
      have := nb p.1 p.2 e (inFr p.1 ne nf)
      rw [q, nB] at this
      cases this
    have S3 := J3.suite he3 hd3 na nL nF
    refine wpAny_handleBy_cons (codeAny_handlers_test ?_) (by intro q; cases q)
    have LT : PySem.W.Looks (model X.prog X.w) h3 (typeOf (.ref a)) cls := fun A Q E s k q => wpAny_typeOf_ref (k _ _ he3) (by rw [hz3.1]; exact q)
    have LM := PySem.W.exm_one (M := model X.prog X.w) (J3.kIn) LT hb1
    have test : ∀ {Q : Value → Shared → Prop} {E : Value → Shared → Prop}, Q c { s' with heap := h3 } → wpAny (model X.prog X.w) (X.A.mark (some (.ref a))) (PySem.eval (.Name x np) X.env) Q E { s' with heap := h3 } := fun {Q E} q => by
      obtain ⟨hg, hdbg, hm | ⟨hm, hv, hnn⟩⟩ := hc
      · exact ld_glob (X := X.suite a ((a, oe3) :: (X.pn ++ pins))) S3 hg hm q hdbg
      · exact ld_blt (X := X.suite a ((a, oe3) :: (X.pn ++ pins))) S3 hg hm hv q hnn hdbg
    refine test (LM.here ?_)
    cases b with
    | true =>
      refine codeAny_handlers_suite_as ?_
      refine HandSPX.lands_againZ fl3 fun h4 fl4 up4 => ?_
      have J4 : Inv X pins σ' H' { s' with heap := h4 } := J.landed nb fl4.1 ((up.trans up3).trans up4) os ag
      obtain ⟨oe4, vs4, he4, hz4, hd4⟩ := fl4.there
      have S4 := J4.suite he4 hd4 na nL nF
      have hil : i < σ'.length := by rw [J.len]; exact (List.getElem?_eq_some_iff.mp hi).1
      refine store_ok (X := X.suite a ((a, oe4) :: (X.pn ++ pins))) (v := .ref a) S4 hN hi hloc rfl (fun s5 S5 => ?_) (.inr hln)
      refine wpAny_mono ((hsu a ((a, oe4) :: (X.pn ++ pins))).run [] s5 _ H' { nx := fun σ6 H6 => σ6 = (σ'.set i (some (V.ref a))).set j (some (V.ref a)) ∧ H6 = H', rt := fun _ _ => False, bk := fun _ _ => False, ct := fun _ _ => False } S5 ⟨List.getElem?_set_self hil, rfl, rfl⟩) (fun f s6 hsp => ?_) (fun _ _ z => False.elim z)
      cases f with
      | next =>
        obtain ⟨σ6, H6, S6, rfl, rfl⟩ := hsp
        have pa := (S6.pin (a, oe4) (List.mem_append_left _ List.mem_cons_self)).1
        have J6 : Inv X pins _ H6 s6 := S6.unsuite ok
        have J7 := adopt J6 pa hz4 hd4 na n0 nL npn
        refine gone_ok J7 hN hi hln fun s7 J8 => ⟨_, _, ?_, hyes rfl a na⟩
        refine forget J8 (by simp [oneS, J.len, I.len]) fun k v e => ?_
        unfold oneS at e
        rw [I.len] at e
        by_cases hk : j = k
        · subst hk
          by_cases hl : j < X.N.length
          · rw [List.getElem?_set_self (by simpa using hl)] at e
            cases e
            rw [List.getElem?_set_ne hij, List.getElem?_set_self (by simp [J.len, hl])]
          · rw [List.getElem?_eq_none (by simpa using hl)] at e
            cases e
        · rw [List.getElem?_set_ne hk, List.getElem?_replicate] at e
          split at e <;> cases e
      | brk => obtain ⟨_, _, _, z⟩ := hsp; exact z.elim
      | cont => obtain ⟨_, _, _, z⟩ := hsp; exact z.elim
      | ret u => obtain ⟨_, _, _, _, _, z⟩ := hsp; exact z.elim
    | false =>
      show wpAny _ X.A (handleBy (.ref a) X.env []) _ _ _
      refine wpAny_handleBy_nil ?_
      obtain ⟨k1, k2, k3, oe, vs, T, oT, ts', he, hz, hd, h1, hr⟩ := id fl3
      unfold PySem.passOn
      refine wpAny_bind (wpAny_field he hd h1 ?_)
      rw [if_neg (show ¬ ((Value.ref T == Value.none) = true) from by simp)]
      have fin : wpAny (model X.prog X.w) X.A (setFlight (.ref a) X.env.frame) (fun _ s4 => wpAny (model X.prog X.w) X.A (throw (.ref a) : Sem Flow) (SP X pins D) X.xe s4) X.xe { s' with heap := h3 } := by
        rw [hf]
        refine HandSPX.setFlight_upZ fl3 fun h4 hh4 up4 => wpAny_throw (tk _ _ ?_)
        exact ⟨a, B, sI, pins, σ', H', cls, d, rfl, J, nb, (up.trans up3).trans up4, .inr (.inr (by rw [hs]; exact hh4)), na, os, ag, hno rfl⟩
      first
        | exact wpAny_bind (wpAny_pure (wpAny_bind fin))
        | exact wpAny_bind fin
  · cases f with
    | next =>
      obtain ⟨σ', H', J', q⟩ := hsp
      exact wpAny_execs_nil ⟨σ', H', J'.ofTry ok, q⟩
    | brk =>
      obtain ⟨σ', H', J', q⟩ := hsp
      exact ⟨σ', H', J'.ofTry ok, q⟩
    | cont =>
      obtain ⟨σ', H', J', q⟩ := hsp
      exact ⟨σ', H', J'.ofTry ok, q⟩
    | ret u =>
      obtain ⟨v, σ', H', J', r, q⟩ := hsp
      exact ⟨v, σ', H', J'.ofTry ok, r, q⟩
end
end PI

set_option Elab.async false
set_option linter.all false
set_option maxRecDepth 100000
set_option maxHeartbeats 4000000
/-! exceptions: isinstance, fields, raise, try -/
namespace PI
open PySem PySem.Spec PyProof.Rows L2
theorem xc_of {K : PySem.W.Frag} {C : Addr} (h : xcB K C = true) : (∀ {x : Addr} {ox : Obj} {od : Option Obj}, PySem.W.KitX K (.ref x) (.ref C) (fun h => PySem.W.InstAt h x ox C od)) ∧ PySem.W.subIn K (.ref C) (.type "BaseException") = some true ∧ PySem.W.typeIn K (.ref C) = some (.type "type") := by
  unfold xcB at h
  simp only [Bool.and_eq_true, beq_iff_eq] at h
  obtain ⟨⟨⟨⟨⟨⟨⟨⟨h1, h2⟩, h3⟩, h4⟩, h5⟩, h6⟩, h7⟩, h8⟩, h9⟩ := h
  obtain ⟨gt, h3⟩ := Option.isSome_iff_exists.mp h3
  exact ⟨PySem.W.kitx_exc h1 h2 h3 h4 h5 h6 h7 h8, h4, h9⟩
/-- what isinstance of a value answers -/
def KitU (K : PySem.W.Frag) (mg : Str → Option Value) (dv : Value) (b : Bool) : W → Prop
  | .non => PySem.W.kitOne K (.type "NoneType") dv = some b
  | .exc c _ _ => ∃ C, mg c = some (.ref C) ∧ xcB K C = true ∧ PySem.W.kitOne K (.ref C) dv = some b
  | _ => False
section
variable {X : Cx} {xw : XW} {G : Sig} {Φ : Fns} {pins : List (Addr × Obj)} {σ : L2.St} {H : Hp} {s : Shared} {ρ : List Addr}
theorem inst_of {cls : Value} {d : Option Addr} {a C : Addr} {fs : List (Str × V)} (I : Inv X pins σ H s) (ha : H a = some (ExA (.ref C) d a)) (hd : d = none ∨ ∃ dx, d = some dx ∧ H dx = some (.xd fs)) : ∃ ox od, PySem.W.InstAt s.heap a ox C od := by
  obtain ⟨⟨oe, vs, h1, h2, h3⟩, _, _⟩ := I.hok a _ ha
  have hn : PySem.W.notCls oe = true := by unfold PySem.W.notCls; rw [h3]
  rcases hd with rfl | ⟨dx, rfl, hx⟩
  · exact ⟨oe, none, h1, h2.1, hn, by rw [h2.2]; trivial⟩
  · obtain ⟨mA, ⟨od, es, ep, e, c⟩, r⟩ := (show ObjOk X.prog X.w H s.heap dx (.xd fs) from I.hok dx _ hx)
    exact ⟨oe, some od, h1, h2.1, hn, by rw [h2.2]; exact e⟩
/-- a value's own class, for isinstance -/
theorem kit_u {u : W} {x : V} {u1 : Value} (I : Inv X pins σ H s) (ru : RW X.J ρ H u x) (r : RelV x u1) (hu : u = .non ∨ ∃ c f ws, u = .exc c f ws ∧ ∃ C, X.mg c = some (.ref C) ∧ xcB X.K C = true) :
    ∃ (t : Value) (P : Heap → Prop), PySem.W.KitX X.K u1 t P ∧ P s.heap ∧ u1 ≠ .builtin "__main__.__loader__#opaque" ∧ ∀ dv b, KitU X.K X.mg dv b u → PySem.W.kitOne X.K t dv = some b := by
  rcases hu with rfl | ⟨c, f, ws, rfl, C, hm, hx⟩
  · cases ru
    cases (show u1 = Value.none from r)
    exact ⟨_, _, PySem.W.kitx_none, trivial, (fun z => by cases z), fun dv b k => k⟩
  · cases ru with
    | exc h1 h2 h3 h4 h5 h6 =>
      rename_i a vs cls d
      cases (show u1 = Value.ref a from r)
      rw [show X.J.mg c = X.mg c from rfl, hm] at h1
      cases h1
      obtain ⟨ox, od, i⟩ := inst_of (cls := .ref C) (fs := f.zip vs) I h3 (by
        rcases h4 with ⟨_, h4⟩ | ⟨dx, h4, _, h5⟩
        · exact .inl h4
        · exact .inr ⟨dx, h4, h5⟩)
      refine ⟨_, _, (xc_of hx).1 (x := a) (ox := ox) (od := od), i, (fun z => by cases z), fun dv b ⟨C', k1, k2, k3⟩ => ?_⟩
      rw [hm] at k1
      cases k1
      exact k3
/-- the class objects of names -/
def ClsP (X : Cx) (p : Str × List Str) (v : V) (dv : Value) : Prop := clsOf X.mg p.1 = some dv ∧ clsV dv = some v
theorem clsV_rel {dv : Value} {v : V} (h : clsV dv = some v) : ClsV v dv := by
  unfold clsV at h
  split at h
  · cases h; exact .own _
  · cases h; exact .ty _
  · cases h
theorem clsV_relV {dv : Value} {v : V} (h : clsV dv = some v) : RelV v dv := by
  unfold clsV at h
  split at h
  · cases h; rfl
  · cases h; rfl
  · cases h
theorem pe_cls {d : Str} {p : Pos} {dv : Value} {v : V} (hg : Gl X d) (hdb : (d == ("__debug__" : Str)) = false) (h : clsOf X.mg d = some dv) (hv : clsV dv = some v) : PE X (.Name d p) (tC v) := by
  unfold clsOf at h
  split at h
  · rename_i u hm
    cases h
    exact pe_glob hg hm (clsV_relV hv) hdb
  · rename_i hm
    split at h
    · cases h
    · rename_i hn
      exact pe_bltn hg hm h (clsV_relV hv) hn hdb
theorem names_cls {d : Str} {dv : Value} (hg : Gl X d) (hdb : (d == ("__debug__" : Str)) = false) (h : clsOf X.mg d = some dv) : Names X d dv := by
  unfold clsOf at h
  split at h
  · rename_i u hm
    cases h
    exact ⟨hg, hdb, .inl hm⟩
  · rename_i hm
    split at h
    · cases h
    · rename_i hn
      exact ⟨hg, hdb, .inr ⟨hm, h, hn⟩⟩
theorem sub_of {K : PySem.W.Frag} {mg : Str → Option Value} {all : List Str} {p : Str × List Str} (h : subB K mg all p.1 p.2 = true) : ∃ dv v, clsOf mg p.1 = some dv ∧ clsV dv = some v ∧ (p.1 == ("__debug__" : Str)) = false ∧ PySem.W.kitOne K (.type "NoneType") dv = some false ∧
    ∀ c ∈ all, ∃ C, mg c = some (.ref C) ∧ xcB K C = true ∧ PySem.W.exmOne K (.ref C) dv = some (p.2.contains c) ∧ PySem.W.kitOne K (.ref C) dv = some (p.2.contains c) := by
  unfold subB at h
  split at h
  · rename_i dv he
    simp only [Bool.and_eq_true, beq_iff_eq] at h
    obtain ⟨⟨⟨h1, h2⟩, h3⟩, h4⟩ := h
    obtain ⟨v, h1⟩ := Option.isSome_iff_exists.mp h1
    refine ⟨dv, v, he, h1, h3, h2, fun c hc => ?_⟩
    have := List.all_eq_true.mp h4 c hc
    unfold kitB at this
    split at this
    · rename_i C hm
      simp only [Bool.and_eq_true, beq_iff_eq] at this
      exact ⟨C, hm, this.1.1, this.1.2, this.2⟩
    · cases this
  · cases h
/-- the evaluator's answer is isinstance's, for each class that is asked for -/
theorem isx_kit (C : Ctx X G Φ xw) {u : W} {p0 : Str × List Str} {dt : List (Str × List Str)} {b : Bool} (hd : ∀ p ∈ p0 :: dt, p ∈ G.sub) (h : isxW G.all (p0 :: dt) u = some b) :
    (u = .non ∨ ∃ c f ws, u = .exc c f ws ∧ ∃ C, X.mg c = some (.ref C) ∧ xcB X.K C = true) ∧ ∃ g : Str × List Str → Bool, b = (p0 :: dt).any g ∧ ∀ p ∈ p0 :: dt, ∀ dv, clsOf X.mg p.1 = some dv → KitU X.K X.mg dv (g p) u := by
  unfold isxW at h
  split at h
  · refine ⟨.inl rfl, fun _ => false, ?_, fun p hp dv e => ?_⟩
    · cases h
      symm
      rw [List.any_eq_false]
      intro p _
      exact Bool.false_ne_true
    · obtain ⟨dv', v, e1, e2, e3, e4, e5⟩ := sub_of (C.xs p (hd p hp))
      rw [e] at e1
      cases e1
      exact e4
  · rename_i c f ws
    split at h
    · rename_i hc
      cases h
      have hc' : c ∈ G.all := by simpa using hc
      refine ⟨?_, fun p => p.2.contains c, rfl, fun p hp dv e => ?_⟩
      · obtain ⟨dv', v, e1, e2, e3, e4, e5⟩ := sub_of (C.xs p0 (hd p0 List.mem_cons_self))
        obtain ⟨Ca, k1, k2, _⟩ := e5 c hc'
        exact .inr ⟨c, f, ws, rfl, Ca, k1, k2⟩
      · obtain ⟨dv', v, e1, e2, e3, e4, e5⟩ := sub_of (C.xs p (hd p hp))
        rw [e] at e1
        cases e1
        obtain ⟨Ca, k1, k2, _, k4⟩ := e5 c hc'
        exact ⟨Ca, k1, k2, k4⟩
    · cases h
  · cases h
theorem kit_any2 {K : PySem.W.Frag} {t : Value} {α : Type} {g : α → Bool} : ∀ {l : List α} {dvs : List Value}, Paired (fun p dv => PySem.W.kitOne K t dv = some (g p)) l dvs → PySem.W.kitAny K t dvs = some (l.any g)
  | _, _, .nil => rfl
  | p :: l, dv :: dvs, .cons h r => by
    unfold PySem.W.kitAny
    rw [h, List.any_cons]
    cases g p
    · simpa using kit_any2 r
    · simp
/-! ### isinstance -/
theorem c_isx1 : CallR X (.builtin "isinstance") (fun xs H Q => ∃ ρ u x v dv b, xs = [x, v] ∧ clsV dv = some v ∧ RW X.J ρ H u x ∧ (u = .non ∨ ∃ c f ws, u = .exc c f ws ∧ ∃ C, X.mg c = some (.ref C) ∧ xcB X.K C = true) ∧ KitU X.K X.mg dv b u ∧ Q (.bl b) H) := by
  intro pins s σ H xs us Q I r h
  obtain ⟨ρ, u, x, v, dv, b, rfl, hv, ru, hu, hk, q⟩ := h
  obtain ⟨u1, u2, rfl, r1, r2⟩ := vals2 r
  cases ClsV.eq (clsV_rel hv) r2
  obtain ⟨t, P, Z, p, hx, hkt⟩ := kit_u I ru r1 hu
  exact PySem.W.kia_one Z I.kIn p (hkt dv b hk) hx fun tk => ⟨.bl _, H, I.tok tk, rfl, q⟩
theorem c_isxT : CallR X (.builtin "isinstance") (fun xs H Q => ∃ (ρ : List Addr) (u : W) (x : V) (vs : List V) (dvs : List Value) (ds : List (Str × List Str)) (g : Str × List Str → Bool) (tp : Addr), xs = [x, .ref tp] ∧ H tp = some (.tup vs) ∧ Paired (fun v dv => clsV dv = some v) vs dvs ∧ RW X.J ρ H u x ∧
    (u = .non ∨ ∃ c f ws, u = .exc c f ws ∧ ∃ C, X.mg c = some (.ref C) ∧ xcB X.K C = true) ∧ Paired (fun p dv => KitU X.K X.mg dv (g p) u) ds dvs ∧ Q (.bl (ds.any g)) H) := by
  intro pins s σ H xs us Q I r h
  obtain ⟨ρ, u, x, vs, dvs, ds, g, tp, rfl, hT, hv, ru, hu, hk, q⟩ := h
  obtain ⟨u1, u2, rfl, r1, r2⟩ := vals2 r
  cases (show u2 = Value.ref tp from r2)
  obtain ⟨t, P, Z, p, hx, hkt⟩ := kit_u I ru r1 hu
  obtain ⟨_, its, rv, o, h1, h2, n, h3⟩ := (show ObjOk X.prog X.w H s.heap tp (.tup vs) from I.hok tp _ hT)
  have e3 : its = dvs := ClsV.all (Paired.mapP hv fun _ _ z => clsV_rel z) rv
  subst e3
  obtain ⟨oc, od, dt, sl⟩ := o
  simp only at h2 h3
  subst h2 h3
  exact PySem.W.kia_tup Z I.kIn p h1 (kit_any2 (Paired.mapP hk fun _ _ z => hkt _ _ z)) hx fun tk => ⟨.bl _, H, I.tok tk, rfl, q⟩
theorem isx_inv {a : E} {all : List Str} {ds : List (Str × List Str)} {η : Env} {S : Sto} {P : W → Sto → List Addr → Hp → Prop} (h : Fin X xw ρ H (eval Φ (.isx a all ds) η S) P) : Fin X xw ρ H (eval Φ a η S) fun u S1 ρ1 H1 => ∃ b, isxW all ds u = some b ∧ Fin X xw ρ1 H1 (.ok (.bl b) S1) P := by
  rw [eval] at h
  refine (Fin.bind h).imp fun u S1 ρ1 H1 L1 R1 q => ?_
  cases e : isxW all ds u with
  | none => rw [e] at q; exact q.no.elim
  | some t => rw [e] at q; exact ⟨t, rfl, q⟩
theorem s_isx1 {a : Expr} {d : Str} {bl : List Str} {p p2 pos : Pos} {ea : E} (C : Ctx X G Φ xw) (hg : Gl X "isinstance") (hm : X.mg "isinstance" = none) (hd : (d, bl) ∈ G.sub) (hgd : Gl X d) (hs : notStar a = true) (ha : Snd X xw a (eval Φ ea)) :
    Snd X xw (.Call (.Name "isinstance" p) [a, .Name d p2] [] pos) (eval Φ (.isx ea G.all [(d, bl)])) := by
  obtain ⟨dv, v, e1, e2, e3, e4, e5⟩ := sub_of (C.xs _ hd)
  refine snd_plain (PE.wk (pe_callB c_isx1 hg hm boot_isi (pa_cons ha.pe (pa_cons (pe_cls hgd e3 e1 e2) pa_nil) (star_cons hs)) (he := star_cons hs)) fun σ H Q ⟨ρ, S, η, re, R, h⟩ => ?_) fun _ => rfl
  refine ⟨ρ, S, η, re, R, (isx_inv h).imp fun u S1 ρ1 H1 L1 R1 ⟨b, e, q⟩ x rv => ?_⟩
  obtain ⟨k1, g, k2, k3⟩ := isx_kit C (fun p hp => by rw [List.mem_singleton.mp hp]; exact hd) e
  refine ⟨ρ1, u, x, v, dv, g (d, bl), rfl, e2, rv, k1, k3 _ List.mem_cons_self dv e1, ?_⟩
  have := q.ok_imp R1 _ (.bl _)
  rw [k2] at this
  simpa using this
theorem pa_cls (C : Ctx X G Φ xw) {p : Pos} : ∀ {ds : List (Str × List Str)} {es : List Expr}, Paired (fun d e => d ∈ G.sub ∧ Gl X d.1 ∧ ∃ p, e = Expr.Name d.1 p) ds es → ∃ (vs : List V) (dvs : List Value), Paired (fun v dv => clsV dv = some v) vs dvs ∧ Paired (fun d dv => d ∈ G.sub ∧ clsOf X.mg d.1 = some dv) ds dvs ∧ PA X es (fun σ H Q => Q vs H)
  | _, _, .nil => ⟨[], [], .nil, .nil, pa_nil⟩
  | d :: ds, _ :: es, .cons ⟨h1, h2, q, h4⟩ r => by
    subst h4
    obtain ⟨dv, v, e1, e2, e3, e4, e5⟩ := sub_of (C.xs _ h1)
    obtain ⟨vs, dvs, k1, k2, k3⟩ := pa_cls C (p := p) r
    exact ⟨v :: vs, dv :: dvs, .cons e2 k1, .cons ⟨h1, e1⟩ k2, PA.wk (pa_cons (pe_cls h2 e3 e1 e2) k3) fun σ H Q q => q⟩
theorem paired_len {α β : Type} {F : α → β → Prop} : ∀ {l : List α} {m : List β}, Paired F l m → l.length = m.length
  | _, _, .nil => rfl
  | _, _, .cons _ r => by simp [paired_len r]
theorem paired_all {α β : Type} {F : α → β → Prop} {P : α → Prop} : ∀ {l : List α} {m : List β}, Paired F l m → (∀ a b, F a b → P a) → ∀ a ∈ l, P a
  | _, _, .nil, _, a, h => by cases h
  | _, _, .cons h r, k, a, ha => by
    rcases List.mem_cons.mp ha with rfl | ha
    · exact k _ _ h
    · exact paired_all r k a ha
theorem paired_mem {α β : Type} {F G : α → β → Prop} : ∀ {l : List α} {m : List β}, Paired F l m → (∀ a ∈ l, ∀ b, F a b → G a b) → Paired G l m
  | _, _, .nil, _ => .nil
  | _, _, .cons h r, k => .cons (k _ List.mem_cons_self _ h) (paired_mem r fun a ha b => k a (List.mem_cons_of_mem _ ha) b)
theorem s_isxT {a : Expr} {ds : List (Str × List Str)} {es : List Expr} {k : Nat} {p p2 pos : Pos} {ea : E} (C : Ctx X G Φ xw) (hg : Gl X "isinstance") (hm : X.mg "isinstance" = none)
    (h0 : ds ≠ []) (hl : ds.length ≤ 10) (hn : Paired (fun d e => d ∈ G.sub ∧ Gl X d.1 ∧ ∃ p, e = Expr.Name d.1 p) ds es) (hs : notStar a = true) (ha : Snd X xw a (eval Φ ea)) :
    Snd X xw (.Call (.Name "isinstance" p) [a, .Tuple es k p2] [] pos) (eval Φ (.isx ea G.all ds)) := by
  obtain ⟨vs, dvs, k1, k2, k3⟩ := pa_cls C (p := p) hn
  refine snd_plain (PE.wk (pe_callB c_isxT hg hm boot_isi (pa_cons ha.pe (pa_cons (pe_tup k3) pa_nil) (star_cons hs)) (he := star_cons hs)) fun σ H Q ⟨ρ, S, η, re, R, h⟩ => ?_) fun _ => rfl
  refine ⟨ρ, S, η, re, R, (isx_inv h).imp fun u S1 ρ1 H1 L1 R1 ⟨b, e, q⟩ v rv => ?_⟩
  have hlen : vs.length = ds.length := by rw [paired_len k1, ← paired_len k2]
  refine ⟨by rw [hlen, sizeLine_eq]; omega, fun tp hp => ?_⟩
  obtain ⟨p0, dt, rfl⟩ : ∃ p0 dt, ds = p0 :: dt := by
    cases ds with
    | nil => exact absurd rfl h0
    | cons p0 dt => exact ⟨p0, dt, rfl⟩
  obtain ⟨z1, g, z2, z3⟩ := isx_kit C (fun p hp => paired_all hn (fun _ _ z => z.1) p hp) e
  refine ⟨ρ1, u, v, vs, dvs, p0 :: dt, g, tp, rfl, upd_same, k1, rv.mono (.new hp), z1, paired_mem k2 fun d hd dv e => z3 d hd dv e.2, ?_⟩
  rw [← z2]
  exact q _ _ (.new hp) (R1.new hp) _ (.bl _)
/-! ### raise -/
/-- X(), X an own exception class without own __init__ -/
theorem pmk_own0 {C : Addr} {bmB : List Value} {B newId initId : String} {x : Str} {p pos : Pos} (F : ExcBaseFacts B newId initId bmB) (q : PySem.W.excIn X.K C bmB newId = true) (gC : X.mg x = some (.ref C))
    (kC : PySem.W.keepIn X.K (.ref C) = true) (r : Raises X (.ref C)) (hg : Gl X x) (hdb : (x == ("__debug__" : Str)) = false) :
    PMk X (.Call (.Name x p) [] [] pos) (fun _ H Q => Q (.ref C) none H) := by
  intro pins s σ H Q I h
  refine wpAny_Call_Name_kw (ld_glob I hg gC ?_ hdb)
  refine PySem.W.callWith_K0 I.kIn kC ?_
  show wpAny _ _ (call (.ref C) []) _ _ _
  obtain ⟨bm, N, nm, qn, bs, hdct, sn, sub, ab, col, dd, k0, k1, k2, k3, k5, mN, hC, hN, hni, T⟩ := exc_obj I.kIn q
  refine wpAny_call_exc_subT F T hC hN hni (fun h' e hm => ?_) (Nat.zero_le _)
  exact mk_of I hm r h (I.hok.gone hm.new)
theorem raw_of {c : Str} (h : rawC X.K X.mg c = true) : ∃ C, X.mg c = some (.ref C) ∧ xcB X.K C = true ∧ (c == ("__debug__" : Str)) = false ∧ ∀ {p pos : Pos}, Gl X c → PMk X (.Call (.Name c p) [] [] pos) (fun _ H Q => Q (.ref C) none H) := by
  unfold rawC at h
  split at h
  · rename_i C hm
    simp only [Bool.and_eq_true, beq_iff_eq] at h
    obtain ⟨⟨h1, h2⟩, h3⟩ := h
    refine ⟨C, hm, h1, h3, fun {p pos} hg => ?_⟩
    unfold rawB at h2
    simp only [Bool.and_eq_true, Bool.or_eq_true] at h2
    obtain ⟨kC, (q | q) | q⟩ := h2
    · exact pmk_own0 PySem.F.excBase_ValueError q hm kC (raises_own (xc_of h1).2.1 (xc_of h1).2.2) hg h3
    · exact pmk_own0 PySem.F.excBase_LookupError q hm kC (raises_own (xc_of h1).2.1 (xc_of h1).2.2) hg h3
    · exact pmk_own0 PySem.F.excBase_RuntimeError q hm kC (raises_own (xc_of h1).2.1 (xc_of h1).2.2) hg h3
  · cases h
theorem t_rse0 {c : Str} {p pos pos' : Pos} (C : Ctx X G Φ xw) (hc : c ∈ G.raw) (hg : Gl X c) : PS X (.Raise (some (.Call (.Name c p) [] [] pos)) none pos') (LS X xw (exec Φ (.rse c [] .nil))) := by
  obtain ⟨Ca, hm, hx, hdb, hp⟩ := raw_of (C.xr c hc)
  refine PS.wk (ps_raise (W := fun cls d _ H => xw cls d H) C.calm C.tk (hp hg)) fun D σ H ⟨ρ, S, η, re, R, h⟩ => ?_
  rw [exec, evals] at h
  exact h ρ H (.ref Ca) none .refl R ⟨hm, rfl⟩
/-! ### try -/
/-- a def's own context -/
structure Top (X : Cx) : Prop where
  hs : X.stack = X.env :: X.outer
  hf : X.env.frame = some X.env.locals
  hx : X.ex = []
theorem Ctx.tr (C : Ctx X G Φ xw) {xw' : XW} {pn : List (Addr × Obj)} {xe : Value → Shared → Prop} (tk : Takes (X.tr pn xe) (fun cls d _ H => xw' cls d H)) (pass : PassesOwn (model X.prog X.w) X.A X.env xe) : Ctx (X.tr pn xe) G Φ xw' :=
  ⟨C.calm, C.nd, C.gd, C.un, C.kind, pass, C.blt, C.cs, C.fns, tk, C.xs, C.xr, C.room, C.xf⟩
theorem Top.tr (T : Top X) {pn : List (Addr × Obj)} {xe : Value → Shared → Prop} : Top (X.tr pn xe) := ⟨T.hs, T.hf, T.hx⟩
theorem Rel.noXd {P : Program} {w : World} {K : KM} {S : Sto} {dx : Addr} {fs : List (Str × V)} (R : Rel P w K ρ S H) (h : H dx = some (.xd fs)) : dx ∉ ρ := fun hm => by
  obtain ⟨n, hn⟩ := List.mem_iff_getElem?.mp hm
  have hl : n < S.length := by rw [← R.len]; exact (List.getElem?_eq_some_iff.mp hn).1
  have z := R.obj n S[n] dx (by simp [hl]) hn
  generalize S[n] = o at z
  cases z with
  | lst e _ => rw [h] at e; cases e
  | dK e _ => rw [h] at e; cases e
  | dN e _ _ _ => rw [h] at e; cases e
  | fK e _ => rw [h] at e; cases e
  | fN e _ _ _ => rw [h] at e; cases e
/-- a caught exception as a value -/
theorem rw_caught {S : Sto} {c : Str} {fs : List (Str × W)} {cls : Value} {d : Option Addr} {a : Addr} (R : Rel X.prog X.w X.J ρ S H) (e : RX X ρ H c fs cls d) (ha : H a = none) : RW X.J ρ (upd H a (ExA cls d a)) (.exc c (fs.map (·.1)) (fs.map (·.2))) (.ref a) := by
  obtain ⟨e1, e2⟩ := e
  cases fs with
  | nil => exact .exc (vs := []) (fn := []) e1 (R.notin ha) upd_same (.inl ⟨rfl, e2⟩) rfl .nil
  | cons p r =>
    obtain ⟨f, u⟩ := p
    obtain ⟨rfl, dx, v, rfl, hx, rv⟩ := e2
    exact .exc (vs := [v]) (fn := [f]) e1 (R.notin ha) upd_same (.inr ⟨dx, rfl, R.noXd hx, by rw [upd_ne (ne_of_none hx ha)]; exact hx⟩) rfl (.cons (rv.mono (.new ha)) .nil)
theorem t_try {s : T} {x n m : Str} {below : List Str} {i j : Nat} {body : List Stmt} {np p2 p3 p4 pos pos' : Pos} (C : Ctx X G Φ xw) (T : Top X) (hx : (x, below) ∈ G.sub) (hg : Gl X x) (hi : X.N[i]? = some n) (hj : X.N[j]? = some m) (hij : i ≠ j)
    (hli : X.env.kindOf n = some .local) (hlj : X.env.kindOf m = some .local) (hn : (n == ("__debug__" : Str)) = false ∧ (n == ("__classdict__" : Str)) = false)
    (hb : ∀ (xw' : XW) (pn : List (Addr × Obj)) (xe : Value → Shared → Prop), Ctx (X.tr pn xe) G Φ xw' → PSs (X.tr pn xe) body (LS X xw' (exec Φ s))) :
    PS X (.Try body [.ExceptHandler (some (.Name x np)) (some n) [.Assign [.Name m p2] (.Name n p3) p4] pos'] [] [] pos) (LS X xw (exec Φ (.tryx s x G.all below i j))) := by
  obtain ⟨dv, v, e1, e2, e3, e4, e5⟩ := sub_of (C.xs _ hx)
  refine PS.wk (ps_catch (exec Φ s) T.hx T.hs T.hf C.nd hi hli hij (names_cls hg e3 e1) C.tk (fun xw' pn xe tk ps => hb xw' pn xe (C.tr tk ps)) fun a pn => ?_) fun D σ H ⟨ρ, S, η, re, R, h⟩ => ⟨ρ, S, η, re, R, ?_⟩
  · refine PSs.wk (pss_cons (ps_asg (pe_var hi (.inl hli) hn.1 hn.2) (pg_name C.nd hj (.inl hlj) (.inr hlj)) rfl (sw_none2 fun _ _ _ z => by cases z) (assign_map rfl)) pss_nil) fun D σ H ⟨z1, z2⟩ => ⟨_, z1, z2⟩
  · rw [exec] at h
    cases q : exec Φ s η S with
    | exc c fs η1 S1 =>
      rw [q] at h
      by_cases ha : G.all.contains c = true
      · simp only [if_pos ha] at h
        obtain ⟨Ca, m1, m2, m3, m4⟩ := e5 c (by simpa using ha)
        intro ρ' H' cls d L' R' rx
        have hcls : cls = .ref Ca := by
          have z := rx.1
          rw [m1] at z
          cases z
          rfl
        subst hcls
        refine ⟨below.contains c, m3, fun hbt a hna => ?_, fun hbf => ?_⟩
        · simp only [if_pos hbt] at h
          refine h ρ' _ _ (L'.trans (.new hna)) (R'.new hna) ?_
          rw [oneS, ← re.len]
          refine REnv.set ⟨by simp, fun k u e => ?_⟩ j (rw_caught R' rx hna)
          rw [List.getElem?_replicate] at e
          split at e <;> cases e
        · simp only [hbf, Bool.false_eq_true, if_false] at h
          exact h ρ' H' _ d L' R' rx
      · simp only [if_neg ha] at h
        exact h.elim
    | _ =>
      rw [q] at h
      exact h
end
end PI

set_option Elab.async false
set_option linter.all false
set_option maxRecDepth 100000
set_option maxHeartbeats 4000000
/-! exceptions as values: made, with a field, the field read -/
namespace PI
open PySem PySem.Spec PyProof.Rows L2
section
variable {X : Cx} {xw : XW} {G : Sig} {Φ : Fns} {pins : List (Addr × Obj)} {σ : L2.St} {H : Hp} {s : Shared} {ρ : List Addr}
/-- what makes an exception gives it as a value -/
theorem pe_mk {e : Expr} {t : L2.St → Hp → XK → Prop} (h : PMk X e t) : PE X e (fun σ H Q => t σ H fun cls d H1 => ∀ a, H1 a = none → Q (.ref a) (upd H1 a (ExA cls d a))) := by
  refine ⟨fun pins s σ H Q I q => wpAny_mono (h pins s σ H _ I q) (fun u s1 hu => ?_) fun _ _ x => x⟩
  obtain ⟨a, oe, vs, sI, H', cls, d, rfl, J, k, hne, ha, hz, hd, h1, na, os, ag, r, q⟩ := hu
  exact ⟨.ref a, upd H' a (ExA cls d a), J.call' (ch := []) os (Un.laidN k hne na) (HOk.laidN J.hok k na (exA_ok ha hz hd)) ag (fun b z => absurd z (by simp)), rfl, q a na⟩
/-- C0.__init__(self, ..), C0 a class of the module without own __init__ -/
def initB (K : PySem.W.Frag) (C : Addr) : Bool := PySem.W.specialIn K (.ref C) "__getattribute__" == some (some (.builtin "type.__getattribute__")) && PySem.W.readsIn K C (.type "type")
  && (match PySem.W.findCls K (.ref C) (.type "type") "__init__" with
    | some (.val (.builtin n)) => n == "ValueError.__init__"
    | _ => false)
theorem pe_cinit {c0 : Str} {C0 : Addr} {e : Expr} {es : List Expr} {ta : TA} {p1 p2 pos : Pos} (hg : Gl X c0) (hm : X.mg c0 = some (.ref C0)) (hdb : (c0 == ("__debug__" : Str)) = false) (hb : initB X.K C0 = true) (ha : PA X (e :: es) ta)
    (hline : (p2.endLine == pos.line) = true) (hs : (e :: es).all notStar = true) (hfl : (e :: es).length < 29) :
    PE X (.Call (.Attribute (.Name c0 p1) "__init__" p2) (e :: es) [] pos) (tVeI X.K ta) := by
  refine ⟨fun pins s σ H Q I h => ?_⟩
  unfold initB at hb
  simp only [Bool.and_eq_true, beq_iff_eq] at hb
  obtain ⟨⟨b1, b2⟩, b3⟩ := hb
  have hbase : attributeBase (.Name c0 p1) "__init__" X.env (PySem.eval (.Name c0 p1) X.env) = PySem.eval (.Name c0 p1) X.env := attr_base rfl
  have hform : methodCallForm ((e :: es).length + ([] : List Keyword).length) (backTo pos (starEach (e :: es) X.env)) (backToKw pos (keywordEach [] X.env)) = true := by
    show ((backTo pos (starEach (e :: es) X.env)).all (fun x => !x.1) && (backToKw pos (keywordEach [] X.env)).all (fun x => x.1.isSome) && decide ((e :: es).length + ([] : List Keyword).length + (if ([] : List Keyword).isEmpty then 0 else 1) < 30)) = true
    rw [star_few hs]
    show (true && true && decide ((e :: es).length + 0 + 0 < 30)) = true
    simp only [Bool.and_self, Bool.true_and, decide_eq_true_eq]
    omega
  have hpos : methodCallPos true (.Name c0 p1) X.env p2 pos = pure pos := by unfold methodCallPos; simp [hline]
  rw [List.all_cons, Bool.and_eq_true] at hs
  rw [PySem.arm_eval_Call, hbase]
  refine wpAny_bind (ld_glob I hg hm ?_ hdb)
  refine wpAny_bind (wpAny_standAt ?_)
  unfold methodCall
  rw [hform]
  refine wpAny_bind (wpAny_holding (PySem.W.method_cls I.kIn b1 ?_))
  split at b3
  · rename_i n hf
    rw [beq_iff_eq] at b3
    subst b3
    refine PySem.W.cls_value I.kIn b2 hf (by decide +kernel) ?_
    refine wpAny_bind (wpAny_of_eq hpos ?_)
    show wpAny _ _ (callWith pos (Value.builtin "ValueError.__init__") [] (backTo pos (starEach (e :: es) X.env)) []) _ _ _
    refine PyProof.Rows.callWith_method1 (thn (ha.run pos pins _ σ H _ (I.tok _) h) fun us s1 ⟨vs, H1, I1, r1, a, C, ws, ev, hl, T, ea, q⟩ => ?_) (star_cons hs.1) (star_plain hs.2)
    subst ev
    cases r1 with
    | @cons _ u0 _ ur ra rw' =>
      obtain rfl : u0 = Value.ref a := ra
      have hlen : ur.length ≤ sizeLine := by
        rw [← Paired.length rw', sizeLine_eq]
        omega
      exact oinit_ok T I1 ea hlen fun s' J => ⟨.non, H1, J, rfl, q⟩
  · cases b3
theorem oex_of {K : PySem.W.Frag} {C fI : Addr} {f : Str} (h : oexB K C fI f = true) (hx : xcB K C = true) : OexC K C ∧ PySem.W.hasDictIn K C = true ∧ PySem.W.findIn K (.ref C) f = some none ∧ PySem.W.findIn K (.ref C) "__init__" = some (some (.ref fI)) ∧ PySem.W.typeIn K (.ref fI) = some (.type "function") := by
  unfold oexB at h
  simp only [Bool.and_eq_true, beq_iff_eq] at h
  obtain ⟨⟨⟨⟨⟨⟨h0, h1⟩, h2⟩, h3⟩, h4⟩, h5⟩, h6⟩ := h
  refine ⟨⟨?_, h1, (xc_of hx).2.1, (xc_of hx).2.2, h2⟩, h3, h4, h5, h6⟩
  split at h0
  · rename_i dd cd sl ho
    split at h0
    · rename_i C' bm k0 k1 k2 k3 n k5 hm hs
      simp only [Bool.and_eq_true, beq_iff_eq, Bool.not_eq_true'] at h0
      obtain ⟨⟨⟨⟨rfl, rfl⟩, hdel⟩, hhd⟩, hbm⟩ := h0
      obtain ⟨nm, bs, mro, ns, qn, hd, sn, sub, ab, col, del⟩ := cd
      dsimp only at hm hdel hhd
      subst hm hdel hhd
      have hsl : sl = #[k0, k1, k2, k3, some (.builtin "ValueError.__new__"), k5] := by
        obtain ⟨l⟩ := sl
        simp only at hs
        rw [hs]
      subst hsl
      exact ⟨nm, qn, ns, bs, bm, sn, sub, ab, col, dd, k0, k1, k2, k3, k5, ho, hbm⟩
    · cases h0
  · cases h0
end
end PI

set_option Elab.async false
set_option linter.all false
set_option maxRecDepth 100000
set_option maxHeartbeats 4000000
/-! exceptions with a field -/
namespace PI
open PySem PySem.Spec PyProof.Rows L2
/-- __init__(self, f): C0.__init__(self, f); self.f = f -/
def initL (c0 f : Str) : List Stmt → Bool
  | [.Expr (.Call (.Attribute (.Name a _) m apos) [.Name s1 _, .Name b1 _] [] pos) _, .Assign [.Attribute (.Name s2 _) g _] (.Name b2 _) _] => decide (a = c0) && decide (m = "__init__") && decide (s1 = "self") && decide (b1 = f) && decide (s2 = "self") && decide (g = f) && decide (b2 = f) && (apos.endLine == pos.line)
  | _ => false
theorem init_fn {P : Program} {w : World} {K : PySem.W.Frag} {mg : Str → Option Value} {base : Heap} {c0 f qual : Str} {C0 fI : Addr} {fd : FuncData} {params : Arguments} {body : List Stmt} {scope : Scope} (F : FunD K "__init__" qual params body scope [] [] fI fd) (hs : C8.scC ["self", f] ["self", f] scope = true)
    (hb : initL c0 f body = true) (hg : scope.names.lookup c0 = some .globalImplicit) (hl1 : scope.names.lookup ("self" : Str) = some .local) (hl2 : scope.names.lookup f = some .local) (hd : (f == ("__debug__" : Str)) = false) (hcd : (f == ("__classdict__" : Str)) = false) (h0 : (c0 == ("__debug__" : Str)) = false)
    (hm : mg c0 = some (.ref C0)) (hi : initB K C0 = true) : FnOk P w K mg base C8.CX0 1 fI fd ["self", f] (spI K f) := by
  obtain ⟨oc, od, dV, kV, doc, pm, an, cdv, ct, osl, rfl, lk, hcode, _, _⟩ := F.ex
  have FS : FnScope ["self", f] ["self", f] scope := C8.fnScope_by hs
  refine fn_of lk hcode FS (fun vs H Q E ⟨_, _, _, e, _⟩ => by rw [e]; rfl) fun A outer s H vs Q E hr hsp => ?_
  obtain ⟨a, C, v, rfl, T, hno, ha, q⟩ := hsp
  unfold initL at hb
  split at hb
  · rename_i a' p1 m apos s1 p3 b1 p4 pos p6 s2 p7 g p8 b2 p9 p10
    simp only [Bool.and_eq_true, decide_eq_true_eq] at hb
    obtain ⟨⟨⟨⟨⟨⟨⟨rfl, rfl⟩, rfl⟩, rfl⟩, rfl⟩, rfl⟩, rfl⟩, hline⟩ := hb
    refine ⟨_, PSs.nox (pss_cons (ps_expr (pe_cinit (X := (cxOf C8.CX0 P w K mg base ["self", b2] qual scope fI cdv A outer s H E).nox) hg hm h0 hi
      (pa_cons (pe_var (i := 0) rfl (.inl hl1) (by decide) (by decide)) (pa_cons (pe_var (i := 1) rfl (.inl hl2) hd hcd) pa_nil (star_cons rfl)) (star_cons rfl)) hline rfl (by show 2 < 29; omega)) (swaps_no rfl))
      (pss_cons (ps_ost (pe_var (i := 0) rfl (.inl hl1) (by decide) (by decide)) (pe_var (i := 1) rfl (.inl hl2) hd hcd)) pss_nil)), ?_⟩
    exact ⟨.ref a, rfl, v, rfl, a, C, [v], rfl, by show 1 ≤ 1000; omega, T, ha, v, rfl, .ref a, rfl, a, C, rfl, T, hno, .inl ⟨ha, fun dx h1 h2 => q dx h1 h2⟩⟩
  · cases hb
section
variable {X : Cx} {xw : XW} {G : Sig} {Φ : Fns} {ρ : List Addr} {H : Hp}
theorem upd_del {H1 : Hp} {a dx C : Addr} {o u : HO} {fs : List (Str × V)} (ha : H1 a = none) (hd : dx ≠ a) : upd (del (upd (upd (upd H1 a u) dx o) a (exo a C (some dx))) a) dx (.xd fs) = upd H1 dx (.xd fs) := by
  funext b
  by_cases h1 : b = dx
  · subst h1
    rw [upd_same, upd_same]
  · rw [upd_ne h1, upd_ne h1]
    by_cases h2 : b = a
    · subst h2
      rw [del_same, ha]
    · rw [del_ne h2, upd_ne h2, upd_ne h1, upd_ne h2]
theorem s_newF {c f : Str} {e : Expr} {a : E} {p pos : Pos} (hr : Room 2 X.A) (F : FldOk X.prog X.w X.K X.mg X.base c f) (hg : Gl X c) (hs : notStar e = true) (ha : Snd X xw e (eval Φ a)) (m : Env → Sto → Res W)
    (hm : ∀ η S, m η S = (eval Φ a η S).bind fun w S1 => .ok (.exc c [f] [w]) S1) : Snd X xw (.Call (.Name c p) [e] [] pos) m := by
  obtain ⟨C, fI, fd, hmg, hx, hb, hdb, hbn, F1⟩ := F.ex
  obtain ⟨T, hhd, hno, iC, tI⟩ := oex_of hb hx
  refine snd_plain (PE.wk (pe_mk (pmk_oex (CX := C8.CX0) (ds := []) (dvs := []) T iC tI F1 hr hbn .nil C8.pass0 hg hmg (pa_cons ha.pe pa_nil (star_cons hs)) hdb (star_cons hs) rfl)) fun σ H Q ⟨ρ, S, η, re, R, h⟩ => ?_) fun _ => rfl
  rw [hm] at h
  refine ⟨ρ, S, η, re, R, (Fin.bind h).imp fun w S1 ρ1 H1 L1 R1 q v rv => ?_⟩
  refine ⟨by show 1 ≤ 1000; omega, fun x hxn => ⟨x, C, v, rfl, T, hno, upd_same, fun dx h1 h2 => ?_⟩⟩
  have hd1 : H1 dx = none := by rw [upd_ne h2] at h1; exact h1
  refine ⟨rfl, dx, [(f, v)], upd_same, by rw [upd_ne h2, upd_same], hd1, fun a2 ha2 => ?_⟩
  rw [upd_del hxn h2] at ha2 ⊢
  have R2 := R1.new (o := .xd [(f, v)]) hd1
  have L3 : Le X.J ρ1 H1 ρ1 (upd (upd H1 dx (.xd [(f, v)])) a2 (ExA (.ref C) (some dx) a2)) := (Le.new hd1).trans (Le.new ha2)
  have hne : dx ≠ a2 := fun z => by rw [z, upd_same] at ha2; cases ha2
  exact q ρ1 _ L3 (R2.new ha2) _ (.exc (fn := [f]) (vs := [v]) (cls := .ref C) hmg (R2.notin ha2) upd_same (.inr ⟨dx, rfl, R1.notin hd1, by rw [upd_ne hne, upd_same]; rfl⟩) rfl (.cons (rv.mono L3) .nil))
theorem s_new0 {c : Str} {p pos : Pos} (C : Ctx X G Φ xw) (hc : c ∈ G.raw) (hg : Gl X c) (m : Env → Sto → Res W) (hm : ∀ η S, m η S = .ok (.exc c [] []) S) : Snd X xw (.Call (.Name c p) [] [] pos) m := by
  obtain ⟨Ca, hmg, hx, hdb, hp⟩ := raw_of (C.xr c hc)
  refine snd_plain (PE.wk (pe_mk (hp hg)) fun σ H Q ⟨ρ, S, η, re, R, h⟩ a ha => ?_) fun _ => rfl
  rw [hm] at h
  exact h ρ _ (.new ha) (R.new ha) _ (.exc (fn := []) (vs := []) (cls := .ref Ca) hmg (R.notin ha) upd_same (.inl ⟨rfl, rfl⟩) rfl .nil)
/-- e.f of an exception -/
theorem s_fld {e : Expr} {a : E} {f : Str} {cs : List Str} {pos : Pos} (hcs : ∀ c ∈ cs, FldOk X.prog X.w X.K X.mg X.base c f) (hb : notSuper e = true) (ha : Snd X xw e (eval Φ a)) (m : Env → Sto → Res W)
    (hm : ∀ η S, m η S = (eval Φ a η S).bind (fldV f cs)) : Snd X xw (.Attribute e f pos) m := by
  refine snd_plain ⟨fun pins s σ H Q I ⟨ρ, S, η, re, R, h⟩ => ?_⟩ fun _ => rfl
  rw [hm] at h
  have h1 : LE X xw (eval Φ a) σ H fun x H1 => ∃ ρ S u, RW X.J ρ H1 u x ∧ Rel X.prog X.w X.J ρ S H1 ∧ Fin X xw ρ H1 (fldV f cs u S) fun u _ ρ' H' => ∀ v, RW X.J ρ' H' u v → Q v H' := ⟨ρ, S, η, re, R, (Fin.bind h).imp fun u S1 ρ1 H1 L1 R1 q v rv => ⟨ρ1, S1, u, rv, R1, q⟩⟩
  refine attr_of (attr_base hb) (thn (ha.pe.run pins s σ H _ I h1) fun v s1 ⟨x, H1, I1, r1, ρ1, S1, u, ru, R1, q⟩ => ?_)
  unfold fldV at q
  split at q
  · rename_i c fn ws
    split at q
    · rename_i hc
      split at q
      · rename_i g w
        split at q
        · rename_i hg
          subst hg
          obtain ⟨C, fI, fd, hmg, hx, hob, hdb, hbn, F1⟩ := (hcs c (by simpa using hc)).ex
          obtain ⟨T, hhd, hno, iC, tI⟩ := oex_of hob hx
          cases ru with
          | exc k1 k2 k3 k4 k5 k6 =>
            rename_i ax vs cls d
            rw [show X.J.mg c = X.mg c from rfl, hmg] at k1
            cases k1
            obtain rfl : v = Value.ref ax := r1
            rcases k4 with ⟨k4, _⟩ | ⟨dx, rfl, k4, k7⟩
            · cases k4
            cases k6 with
            | cons kv kn =>
              rename_i v0 vs0
              cases kn
              obtain ⟨⟨oe, vf, h1, h2, h3⟩, _, _⟩ := I1.hok _ _ k3
              have hxd : ObjOk X.prog X.w H1 s1.heap dx (.xd ([g].zip [v0])) := I1.hok dx _ k7
              obtain ⟨mA, hns, hr⟩ := hxd
              obtain ⟨od, ho, hl⟩ := lookIn_ns hns
              have l : List.lookup g ([g].zip [v0]) = some v0 := by simp [List.lookup]
              obtain ⟨u2, hu, ru2⟩ := RelO.some_of (v := v0) (o := mA g) (by rw [← l]; exact hr g)
              have J : PySem.W.InstAt s1.heap ax oe C (some od) := ⟨h1, h2.1, by unfold PySem.W.notCls; rw [h3], by rw [h2.2]; exact ho⟩
              unfold xcB at hx
              simp only [Bool.and_eq_true, beq_iff_eq] at hx
              obtain ⟨⟨⟨⟨⟨⟨⟨⟨x1, x2⟩, x3⟩, x4⟩, x5⟩, x6⟩, x7⟩, x8⟩, x9⟩ := hx
              obtain ⟨gt, x3⟩ := Option.isSome_iff_exists.mp x3
              exact HandSPX.exc_get I1.kIn J x2 x3 x4 (PySem.W.findObj_own hhd hno rfl (by rw [hl, hu])) (handed_of ru2) ⟨v0, H1, I1.tok _, ru2, q.ok_imp R1 _ kv⟩
        · exact q.no.elim
      · exact q.no.elim
    · exact q.no.elim
  · exact q.no.elim
end
end PI

set_option Elab.async false
set_option linter.all false
set_option maxRecDepth 100000
set_option maxHeartbeats 4000000
/-! the look at a text: is it what the evaluator's term says? -/
namespace PI
open PySem PySem.Spec PyProof.Rows L2
def visB (sc : Scope) (x : Str) : Bool := match sc.names.lookup x with
  | some .local => true
  | some .cell => true
  | some .free => true
  | _ => false
def glB (sc : Scope) (x : Str) : Bool := decide (sc.names.lookup x = some .globalImplicit)
def nmB (x : Str) : Bool := (x == ("__debug__" : Str)) == false && (x == ("__classdict__" : Str)) == false
def bltB (G : Sig) (sc : Scope) (x : Str) : Bool := glB sc x && decide (x ∈ G.blt)
def bopB : Bop → Operator → Bool
  | .add, .Add => true | .sub, .Sub => true | .mul, .Mult => true | .fdiv, .FloorDiv => true | .mod, .Mod => true | .pow, .Pow => true
  | _, _ => false
def copB : Cop → CmpOp → Bool
  | .eq, .Eq => true | .ne, .NotEq => true | .lt, .Lt => true | .le, .LtE => true | .gt, .Gt => true | .ge, .GtE => true | .is, .Is => true | .isNot, .IsNot => true | .isIn, .In => true | .notIn, .NotIn => true
  | _, _ => false
def booB : Bool → BoolOp → Bool
  | true, .And => true
  | false, .Or => true
  | _, _ => false
def cvB : E → E → Bool
  | .kI i, .kI j => decide (i = j)
  | .kS i, .kS j => decide (i = j)
  | _, _ => false
/-- the classes of an isinstance -/
def tyB (G : Sig) (sc : Scope) (u : String) : Expr → Bool
  | .Name n _ => decide (n = Str.ofString u) && decide (u ∈ tyNames) && bltB G sc n
  | _ => false
def tysB (G : Sig) (sc : Scope) : List String → List Expr → Bool
  | [], [] => true
  | u :: us, e :: es => tyB G sc u e && tysB G sc us es
  | _, _ => false
def isiB (G : Sig) (sc : Scope) (us : List String) : Expr → Bool
  | .Tuple es _ _ => tysB G sc us es && decide (us.length ≤ 10)
  | e => match us with
    | [u] => tyB G sc u e
    | _ => false
def isTuple : Expr → Bool
  | .Tuple .. => true
  | _ => false
/-- the classes of an isinstance of an exception -/
def clB (G : Sig) (sc : Scope) (d : Str × List Str) : Expr → Bool
  | .Name n _ => decide (n = d.1) && decide (d ∈ G.sub) && glB sc n
  | _ => false
def clsB (G : Sig) (sc : Scope) : List (Str × List Str) → List Expr → Bool
  | [], [] => true
  | u :: us, e :: es => clB G sc u e && clsB G sc us es
  | _, _ => false
def isxB (G : Sig) (sc : Scope) (us : List (Str × List Str)) : Expr → Bool
  | .Tuple es _ _ => clsB G sc us es && decide (us.length ≤ 10) && !us.isEmpty
  | e => match us with
    | [u] => clB G sc u e
    | _ => false
abbrev Fnb := Str → Bool
def needT (k : Itk) (t : Expr) : Bool := match k with
  | .enum => isTuple t
  | .zip => isTuple t
  | .items => isTuple t
  | _ => true
mutual
def ck (N : List Str) (G : Sig) : E → Fnb → Scope → Expr → Bool
  | .v i, _, sc, e => match e with
    | .Name x _ => decide (N[i]? = some x) && visB sc x && nmB x
    | _ => false
  | .kN, _, _, e => match e with
    | .Constant .none _ _ => true
    | _ => false
  | .kB b, _, _, e => match e with
    | .Constant (.bool c) _ _ => decide (c = b)
    | _ => false
  | .kI b, _, _, e => match e with
    | .Constant (.int c) _ _ => decide (c = b)
    | _ => false
  | .kS b, _, _, e => match e with
    | .Constant (.str c) _ _ => decide (c = b)
    | _ => false
  | .glob x w, _, sc, e => match e with
    | .Name y _ => decide (y = x) && glB sc x && nmB x && G.cs.any (fun p => decide (p.1 = x) && cvB p.2 w)
    | _ => false
  | .tup a, f, sc, e => match e with
    | .Tuple l _ _ => cks N G a f sc l
    | _ => false
  | .lst a, f, sc, e => match e with
    | .List l _ => cks N G a f sc l
    | _ => false
  | .dct a, f, sc, e => match e with
    | .Dict ks vs _ => ckd N G a f sc ks vs && decide (ks.length ≤ 15)
    | _ => false
  | .bin o a b, f, sc, e => match e with
    | .BinOp x op y _ => bopB o op && ck N G a f sc x && ck N G b f sc y
    | _ => false
  | .neg a, f, sc, e => match e with
    | .UnaryOp .USub x _ => ck N G a f sc x
    | _ => false
  | .not a, f, sc, e => match e with
    | .UnaryOp .Not x _ => ck N G a f sc x
    | _ => false
  | .boo o a, f, sc, e => match e with
    | .BoolOp op l _ => booB o op && ckb N G a f sc l
    | _ => false
  | .cmp o a b, f, sc, e => match e with
    | .Compare x [op] [y] _ => copB o op && !behindInMarks op y && ck N G a f sc x && ck N G b f sc y
    | _ => false
  | .chain o p a b c, f, sc, e => match e with
    | .Compare x [op, op'] [y, z] _ => copB o op && copB p op' && !behindInMarks op' z && ck N G a f sc x && ck N G b f sc y && ck N G c f sc z
    | _ => false
  | .ite c a b, f, sc, e => match e with
    | .IfExp x y z _ => ck N G c f sc x && ck N G a f sc y && ck N G b f sc z
    | _ => false
  | .ix a b, f, sc, e => match e with
    | .Subscript x y _ => notSlice y && ck N G a f sc x && ck N G b f sc y
    | _ => false
  | .sl a lo hi, f, sc, e => match e with
    | .Subscript x (.Slice l h none _) _ => ck N G a f sc x && (match l with
        | none => lo.isNo
        | some y => !lo.isNo && ck N G lo f sc y) && (match h with
        | none => hi.isNo
        | some y => !hi.isNo && ck N G hi f sc y)
    | _ => false
  | .rev a, f, sc, e => match e with
    | .Subscript x (.Slice none none (some (.UnaryOp .USub (.Constant (.int 1) _ _) _)) _) _ => ck N G a f sc x
    | _ => false
  | .call x a, f, sc, e => match e with
    | .Call (.Name y _) l [] _ => decide (y = x) && glB sc x && nmB x && l.all notStar && decide ((x, l.length) ∈ G.fns) && cks N G a f sc l
    | _ => false
  | .bif b a, f, sc, e => match e with
    | .Call (.Name y _) (x :: l) [] _ => decide (y = bifNm b) && bltB G sc y && (x :: l).all notStar && cks N G a f sc (x :: l)
    | _ => false
  | .isi a us, f, sc, e => match e with
    | .Call (.Name y _) [x, t] [] _ => decide (y = "isinstance") && bltB G sc y && notStar x && isiB G sc us t && ck N G a f sc x
    | _ => false
  | .isx a all us, f, sc, e => match e with
    | .Call (.Name y _) [x, t] [] _ => decide (y = "isinstance") && decide (all = G.all) && bltB G sc y && notStar x && isxB G sc us t && ck N G a f sc x
    | _ => false
  | .fld a g cs, f, sc, e => match e with
    | .Attribute x nm _ => decide (nm = g) && notSuper x && cs.all (fun c => decide ((c, g) ∈ G.fld)) && ck N G a f sc x
    | _ => false
  | .new0 c, _, sc, e => match e with
    | .Call (.Name y _) [] [] _ => decide (y = c) && glB sc c && decide (c ∈ G.raw)
    | _ => false
  | .new1 c g a, f, sc, e => match e with
    | .Call (.Name y _) [x] [] _ => decide (y = c) && glB sc c && decide ((c, g) ∈ G.fld) && notStar x && ck N G a f sc x
    | _ => false
  | .mth m o a, f, sc, e => match e with
    | .Call (.Attribute x nm apos) l [] pos => decide (nm = mthName m) && notSuper x && (apos.endLine == pos.line) && l.all notStar && decide (l.length < 29) && (a.isNil == l.isEmpty) && ck N G o f sc x && cks N G a f sc l
    | _ => false
  | .lc a tg k it c own, f, sc, e => match e with
    | .ListComp x [⟨t, i, ifs, 0⟩] scope _ => blkC N sc scope own && notSet i && cki N G it k f sc i && needT k t && ckw N tg (own.map fun p => p.2) (fun x => scope.names.lookup x == some .cell) (relS scope sc) t && (match ifs with
        | [] => c.isNo
        | [y] => !c.isNo && ck N G c (fun x => scope.names.lookup x == some .cell) (relS scope sc) y
        | _ => false) && ck N G a (fun x => scope.names.lookup x == some .cell) (relS scope sc) x
    | _ => false
  | .fs a, f, sc, e => match e with
    | .JoinedStr (x :: l) _ => ckf N G a f sc (x :: l)
    | _ => false
  | .nil, _, _, _ => false
  | .cons _ _, _, _, _ => false
  | .noE, _, _, _ => false
def cks (N : List Str) (G : Sig) : E → Fnb → Scope → List Expr → Bool
  | .nil, _, _, l => l.isEmpty
  | .cons a r, f, sc, l => match l with
    | e :: es => notStar e && ck N G a f sc e && cks N G r f sc es
    | [] => false
  | _, _, _, _ => false
def ckb (N : List Str) (G : Sig) : E → Fnb → Scope → List Expr → Bool
  | .cons a r, f, sc, l => match l with
    | e :: es => ck N G a f sc e && (if r.isNil then es.isEmpty else ckb N G r f sc es)
    | [] => false
  | _, _, _, _ => false
def ckd (N : List Str) (G : Sig) : E → Fnb → Scope → List (Option Expr) → List Expr → Bool
  | .nil, _, _, ks, vs => ks.isEmpty && vs.isEmpty
  | .cons a (.cons b r), f, sc, ks, vs => match ks, vs with
    | some k :: ks, v :: vs => ck N G a f sc k && ck N G b f sc v && ckd N G r f sc ks vs
    | _, _ => false
  | _, _, _, _, _ => false
def ckf (N : List Str) (G : Sig) : E → Fnb → Scope → List Expr → Bool
  | .nil, _, _, l => l.isEmpty
  | .cons a r, f, sc, l => match l with
    | e :: es => (match e with
      | .FormattedValue x (-1) none _ => ck N G a f sc x
      | .Constant (.str y) _ _ => (match a with
        | .kS z => decide (y = z)
        | _ => false)
      | _ => false) && ckf N G r f sc es
    | [] => false
  | _, _, _, _ => false
/-- what is walked -/
def cki (N : List Str) (G : Sig) : E → Itk → Fnb → Scope → Expr → Bool
  | .cons a r, k, f, sc, e => match k with
    | .plain => r.isNil && ck N G a f sc e
    | .range1 => (match e with
      | .Call (.Name y _) [x] [] _ => decide (y = "range") && bltB G sc y && notStar x && r.isNil && ck N G a f sc x
      | _ => false)
    | .range2 => (match e with
      | .Call (.Name y _) [x, z] [] _ => decide (y = "range") && bltB G sc y && notStar x && notStar z && ck N G a f sc x && cks N G r f sc [z]
      | _ => false)
    | .enum => (match e with
      | .Call (.Name y _) [x] [] _ => decide (y = "enumerate") && bltB G sc y && notStar x && r.isNil && ck N G a f sc x
      | _ => false)
    | .zip => (match e with
      | .Call (.Name y _) [x, z] [] _ => decide (y = "zip") && bltB G sc y && notStar x && notStar z && ck N G a f sc x && cks N G r f sc [z]
      | _ => false)
    | .items => (match e with
      | .Call (.Attribute x nm apos) [] [] pos => decide (nm = "items") && notSuper x && (apos.endLine == pos.line) && r.isNil && ck N G a f sc x
      | _ => false)
    | .values => (match e with
      | .Call (.Attribute x nm apos) [] [] pos => decide (nm = "values") && notSuper x && (apos.endLine == pos.line) && r.isNil && ck N G a f sc x
      | _ => false)
  | _, _, _, _, _ => false
/-- a comprehension's target -/
def ckw (N : List Str) : E → List Nat → Fnb → Scope → Expr → Bool
  | .v i, vs, f, sc, e => match e with
    | .Name x _ => decide (N[i]? = some x) && decide (i ∈ vs) && locB f sc x
    | _ => false
  | .tup a, vs, f, sc, e => match e with
    | .Tuple l _ _ => l.all notStar && decide (arity a = l.length) && ckws N a vs f sc l
    | _ => false
  | _, _, _, _, _ => false
def ckws (N : List Str) : E → List Nat → Fnb → Scope → List Expr → Bool
  | .nil, _, _, _, l => l.isEmpty
  | .cons a r, vs, f, sc, l => match l with
    | e :: es => notStar e && ckw N a vs f sc e && ckws N r vs f sc es
    | [] => false
  | _, _, _, _, _ => false
end
mutual
/-- a target of names -/
def ckn (N : List Str) : E → Fnb → Scope → Expr → Bool
  | .v i, f, sc, e => match e with
    | .Name x _ => decide (N[i]? = some x) && locB f sc x
    | _ => false
  | .tup a, f, sc, e => match e with
    | .Tuple l _ _ => l.all notStar && decide (arity a = l.length) && ckns N a f sc l
    | _ => false
  | _, _, _, _ => false
def ckns (N : List Str) : E → Fnb → Scope → List Expr → Bool
  | .nil, _, _, l => l.isEmpty
  | .cons a r, f, sc, l => match l with
    | e :: es => notStar e && ckn N a f sc e && ckns N r f sc es
    | [] => false
  | _, _, _, _ => false
end
def ckt (N : List Str) (G : Sig) (f : Fnb) (sc : Scope) (tg : E) (e : Expr) : Bool := match tg with
  | .ix a i => (match e with
    | .Subscript x y _ => notSlice y && ck N G a f sc x && ck N G i f sc y
    | _ => false)
  | _ => ckn N tg f sc e
def lcSwaps (sc scope : Scope) (y : Str) (py pos : Pos) : Bool := sc.names.lookup y == some .local && py.line == pos.line && !(scope.names.any fun (n, k) => n == y && (k == .local || k == .cell))
/-- neither of the two orders -/
def swapNo (sc : Scope) (t x : Expr) : Bool := match x with
  | .ListComp _ _ scope pos => (match t with
    | .Name y py => !lcSwaps sc scope y py pos
    | .Subscript .. => true
    | _ => false)
  | .Tuple vs _ _ => (match t with
    | .Tuple ts _ _ => swN sc ts vs
    | .List _ _ => false
    | _ => true)
  | e => noComp e
def isTup : E → Bool
  | .tup _ => true
  | _ => false
def parB (sc : Scope) (tg a : E) (t x : Expr) : Bool := isTup a && match t, x with
  | .Tuple [.Name n pn, .Name m pm] _ _, .Tuple vs _ _ => (match tg with
    | .tup (.cons (.v i) (.cons (.v j) .nil)) => swY sc [.Name n pn, .Name m pm] vs && decide (i ≠ j) && decide (vs.length = 2)
    | _ => false)
  | .Tuple [.Name n pn, .Name m pm, .Name c pc] _ _, .Tuple vs _ _ => (match tg with
    | .tup (.cons (.v i) (.cons (.v j) (.cons (.v l) .nil))) => swY sc [.Name n pn, .Name m pm, .Name c pc] vs && decide (i ≠ j) && decide (i ≠ l) && decide (j ≠ l) && decide (vs.length = 3)
    | _ => false)
  | _, _ => false
mutual
def ck1 (N : List Str) (G : Sig) : T → Fnb → Scope → Stmt → Bool
  | .pass, _, _, st => match st with
    | .Pass _ => true
    | .Expr (.Constant (.str _) _ _) _ => true
    | _ => false
  | .brk, _, _, st => match st with
    | .Break _ => true
    | _ => false
  | .cnt, _, _, st => match st with
    | .Continue _ => true
    | _ => false
  | .ret a, f, sc, st => match st with
    | .Return (some x) _ => ck N G a f sc x
    | _ => false
  | .retN, _, _, st => match st with
    | .Return none _ => true
    | _ => false
  | .ite c a b, f, sc, st => match st with
    | .If x p q _ => ck N G c f sc x && ckS N G a f sc p && ckS N G b f sc q
    | _ => false
  | .ex a, f, sc, st => match st with
    | .Expr x _ => noComp x && ck N G a f sc x
    | _ => false
  | .asg tg a, f, sc, st => match st with
    | .Assign [t] x _ => notStar t && ckt N G f sc tg t && ck N G a f sc x && (swapNo sc t x || parB sc tg a t x || (match t, x with
        | .Name y py, .ListComp _ _ scope pos => lcSwaps sc scope y py pos
        | _, _ => false))
    | _ => false
  | .aug i o a, f, sc, st => match st with
    | .AugAssign (.Name x _) op y _ => decide (N[i]? = some x) && locB f sc x && bopB o op && ck N G a f sc y
    | _ => false
  | .for_ tg k it b, f, sc, st => match st with
    | .For t i body [] _ => ckn N tg f sc t && cki N G it k f sc i && notSet i && needT k t && ckS N G b f sc body
    | _ => false
  | .whl c b, f, sc, st => match st with
    | .While x body [] _ => ck N G c f sc x && ckS N G b f sc body
    | _ => false
  | .raise _ _ _, _, _, _ => true
  | .rse c fn es, f, sc, st => match st with
    | .Raise (some (.Call (.Name x _) [] [] _)) none _ => decide (x = c) && decide (c ∈ G.raw) && glB sc c && fn.isEmpty && es.isNil
    | _ => false
  | .tryx s x all below i j, f, sc, st => match st with
    | .Try body [.ExceptHandler (some (.Name y _)) (some n) [.Assign [.Name m _] (.Name n2 _) _] _] [] [] _ => decide (y = x) && decide (n2 = n) && glB sc x && decide ((x, below) ∈ G.sub) && decide (all = G.all) && decide (N[i]? = some n) && decide (N[j]? = some m) && decide (i ≠ j)
      && decide (sc.names.lookup n = some .local) && decide (sc.names.lookup m = some .local) && nmB n && ckS N G s f sc body
    | _ => false
  | .nil, _, _, _ => false
  | .seq _ _, _, _, _ => false
def ckS (N : List Str) (G : Sig) : T → Fnb → Scope → List Stmt → Bool
  | .nil, _, _, l => l.isEmpty
  | .seq a b, f, sc, l => match l with
    | st :: rest => ck1 N G a f sc st && ckS N G b f sc rest
    | [] => false
  | _, _, _, _ => false
end
end PI

set_option Elab.async false
set_option linter.all false
set_option maxRecDepth 100000
set_option maxHeartbeats 4000000
/-! what passes the look keeps to the evaluator -/
namespace PI
open PySem PySem.Spec PyProof.Rows L2
section
variable {X : Cx} {xw : XW} {G : Sig} {Φ : Fns}
theorem visB_ok {x : Str} (h : visB X.env.scope x = true) : Vis X.env.scope x := by
  unfold visB at h
  split at h
  · exact .inl (by assumption)
  · exact .inr (.inl (by assumption))
  · exact .inr (.inr (by assumption))
  · cases h
theorem nmB_ok {x : Str} (h : nmB x = true) : (x == ("__debug__" : Str)) = false ∧ (x == ("__classdict__" : Str)) = false := by
  unfold nmB at h
  simpa using h
theorem glB_ok {x : Str} (h : glB X.env.scope x = true) : Gl X x := by
  have h : X.env.scope.names.lookup x = some .globalImplicit := of_decide_eq_true h
  exact h
theorem bltB_ok (C : Ctx X G Φ xw) {x : Str} (h : bltB G X.env.scope x = true) : Gl X x ∧ X.mg x = none := by
  unfold bltB at h
  rw [Bool.and_eq_true, decide_eq_true_eq] at h
  exact ⟨glB_ok h.1, C.blt x h.2⟩
theorem bopB_ok {o : Bop} {op : Operator} (h : bopB o op = true) : op = bopOf o := by
  cases o <;> cases op <;> first | rfl | cases h
theorem copB_ok {o : Cop} {op : CmpOp} (h : copB o op = true) : op = copOf o := by
  cases o <;> cases op <;> first | rfl | cases h
theorem booB_ok {o : Bool} {op : BoolOp} (h : booB o op = true) : op = booOf o := by
  cases o <;> cases op <;> first | rfl | cases h
theorem cvB_ok {a b : E} (h : cvB a b = true) : CV a = CV b := by
  unfold cvB at h
  split at h
  · rw [of_decide_eq_true h]
  · rw [of_decide_eq_true h]
  · cases h
theorem tyB_ok (C : Ctx X G Φ xw) {u : String} {e : Expr} (h : tyB G X.env.scope u e = true) : u ∈ tyNames ∧ Gl X (Str.ofString u) ∧ X.mg (Str.ofString u) = none ∧ ∃ p, e = Expr.Name (Str.ofString u) p := by
  unfold tyB at h
  split at h
  · rename_i n p
    simp only [Bool.and_eq_true, decide_eq_true_eq] at h
    obtain ⟨⟨h1, h2⟩, h3⟩ := h
    subst h1
    exact ⟨h2, (bltB_ok C h3).1, (bltB_ok C h3).2, p, rfl⟩
  · cases h
theorem tysB_ok (C : Ctx X G Φ xw) : ∀ {us : List String} {es : List Expr}, tysB G X.env.scope us es = true → Paired (fun n e => n ∈ tyNames ∧ Gl X (Str.ofString n) ∧ X.mg (Str.ofString n) = none ∧ ∃ p, e = Expr.Name (Str.ofString n) p) us es
  | [], [], _ => .nil
  | u :: us, e :: es, h => by
    unfold tysB at h
    rw [Bool.and_eq_true] at h
    exact .cons (tyB_ok C h.1) (tysB_ok C h.2)
  | [], _ :: _, h => by cases h
  | _ :: _, [], h => by cases h
theorem clB_ok {d : Str × List Str} {e : Expr} (h : clB G X.env.scope d e = true) : d ∈ G.sub ∧ Gl X d.1 ∧ ∃ p, e = Expr.Name d.1 p := by
  unfold clB at h
  split at h
  · rename_i n p
    simp only [Bool.and_eq_true, decide_eq_true_eq] at h
    obtain ⟨⟨h1, h2⟩, h3⟩ := h
    subst h1
    exact ⟨h2, glB_ok h3, p, rfl⟩
  · cases h
theorem clsB_ok : ∀ {us : List (Str × List Str)} {es : List Expr}, clsB G X.env.scope us es = true → Paired (fun d e => d ∈ G.sub ∧ Gl X d.1 ∧ ∃ p, e = Expr.Name d.1 p) us es
  | [], [], _ => .nil
  | u :: us, e :: es, h => by
    unfold clsB at h
    rw [Bool.and_eq_true] at h
    exact .cons (clB_ok h.1) (clsB_ok h.2)
  | [], _ :: _, h => by cases h
  | _ :: _, [], h => by cases h
theorem isxB_ok (C : Ctx X G Φ xw) {a t : Expr} {us : List (Str × List Str)} {ea : E} {p pos : Pos} (g1 : Gl X "isinstance") (g2 : X.mg "isinstance" = none) (h : isxB G X.env.scope us t = true) (hs : notStar a = true) (ha : Snd X xw a (eval Φ ea)) :
    Snd X xw (.Call (.Name "isinstance" p) [a, t] [] pos) (eval Φ (.isx ea G.all us)) := by
  unfold isxB at h
  split at h
  · simp only [Bool.and_eq_true, decide_eq_true_eq, Bool.not_eq_true'] at h
    refine s_isxT C g1 g2 (fun z => ?_) h.1.2 (clsB_ok h.1.1) hs ha
    subst z
    cases h.2
  · split at h
    · rename_i u
      obtain ⟨q1, q2, p', rfl⟩ := clB_ok h
      exact s_isx1 C g1 g2 q1 q2 hs ha
    · cases h
theorem evals_len : ∀ (r : E) {η : Env} {S S' : Sto} {us : List W}, evals Φ r η S = .ok us S' → us.length = arity r
  | .nil, η, S, S', us, h => by
    rw [evals] at h
    cases h
    rfl
  | .cons a r, η, S, S', us, h => by
    rw [evals] at h
    cases q : eval Φ a η S with
    | ok w S1 =>
      rw [q] at h
      have h : ((evals Φ r η S1).bind fun ws S2 => Res.ok (w :: ws) S2) = .ok us S' := h
      cases q2 : evals Φ r η S1 with
      | ok ws S2 =>
        rw [q2] at h
        cases h
        simp [arity, evals_len r q2]
      | exc c fs S2 => rw [q2] at h; cases h
      | bad => rw [q2] at h; cases h
    | exc c fs S1 => rw [q] at h; cases h
    | bad => rw [q] at h; cases h
  | .v _, _, _, _, _, h | .tup _, _, _, _, _, h | .kN, _, _, _, _, h | .kB _, _, _, _, _, h | .kI _, _, _, _, _, h | .kS _, _, _, _, _, h | .glob _ _, _, _, _, _, h | .lst _, _, _, _, _, h | .dct _, _, _, _, _, h
  | .bin _ _ _, _, _, _, _, h | .neg _, _, _, _, _, h | .not _, _, _, _, _, h | .boo _ _, _, _, _, _, h | .cmp _ _ _, _, _, _, _, h | .chain _ _ _ _ _, _, _, _, _, h | .ite _ _ _, _, _, _, _, h | .ix _ _, _, _, _, _, h | .sl _ _ _, _, _, _, _, h
  | .rev _, _, _, _, _, h | .noE, _, _, _, _, h | .call _ _, _, _, _, _, h | .bif _ _, _, _, _, _, h | .isi _ _, _, _, _, _, h | .isx _ _ _, _, _, _, _, h | .fld _ _ _, _, _, _, _, h | .new0 _, _, _, _, _, h | .new1 _ _ _, _, _, _, _, h | .mth _ _ _, _, _, _, _, h | .lc _ _ _ _ _ _, _, _, _, _, h | .fs _, _, _, _, _, h => by simp [evals] at h
theorem cks_arity {N : List Str} : ∀ (r : E) {f : Fnb} {sc : Scope} {l : List Expr}, cks N G r f sc l = true → arity r = l.length
  | .nil, f, sc, l, h => by
    unfold cks at h
    cases l with
    | nil => rfl
    | cons _ _ => cases h
  | .cons a r, f, sc, l, h => by
    unfold cks at h
    cases l with
    | nil => cases h
    | cons e es =>
      simp only [Bool.and_eq_true] at h
      simp [arity, cks_arity r h.2]
  | .v _, _, _, _, h | .tup _, _, _, _, h | .kN, _, _, _, h | .kB _, _, _, _, h | .kI _, _, _, _, h | .kS _, _, _, _, h | .glob _ _, _, _, _, h | .lst _, _, _, _, h | .dct _, _, _, _, h
  | .bin _ _ _, _, _, _, h | .neg _, _, _, _, h | .not _, _, _, _, h | .boo _ _, _, _, _, h | .cmp _ _ _, _, _, _, h | .chain _ _ _ _ _, _, _, _, h | .ite _ _ _, _, _, _, h | .ix _ _, _, _, _, h | .sl _ _ _, _, _, _, h
  | .rev _, _, _, _, h | .noE, _, _, _, h | .call _ _, _, _, _, h | .bif _ _, _, _, _, h | .isi _ _, _, _, _, h | .isx _ _ _, _, _, _, h | .fld _ _ _, _, _, _, h | .new0 _, _, _, _, h | .new1 _ _ _, _, _, _, h | .mth _ _ _, _, _, _, h | .lc _ _ _ _ _ _, _, _, _, h | .fs _, _, _, _, h => by simp [cks] at h
end
mutual
theorem snw (w : E) {X : Cx} {G : Sig} {Φ : Fns} (C : Ctx X G Φ xw) {f : Fnb} (hf : ∀ x, f x = true → X.fn x = true) {vs : List Nat} {e : Expr} (h : ckw X.N w vs f X.env.scope e = true) : PG X e (LGw X w vs) := by
  cases w with
  | v i =>
    unfold ckw at h
    split at h
    · simp only [Bool.and_eq_true, decide_eq_true_eq] at h
      obtain ⟨⟨h1, h2⟩, h3⟩ := h
      obtain ⟨l1, l2⟩ := locB_ok hf h3
      exact gw_name C.nd h1 h2 l1 l2
    · cases h
  | tup a =>
    unfold ckw at h
    split at h
    · simp only [Bool.and_eq_true, decide_eq_true_eq] at h
      obtain ⟨⟨h1, h2⟩, h3⟩ := h
      exact gw_tup C.calm h1 h2 (snws a C hf h3)
    · cases h
  | _ => simp [ckw] at h
theorem snws (w : E) {X : Cx} {G : Sig} {Φ : Fns} (C : Ctx X G Φ xw) {f : Fnb} (hf : ∀ x, f x = true → X.fn x = true) {vs : List Nat} {l : List Expr} (h : ckws X.N w vs f X.env.scope l = true) : PGs X l (LGws X w vs) := by
  cases w with
  | nil =>
    unfold ckws at h
    cases l with
    | nil => exact gws_nil
    | cons _ _ => cases h
  | cons a r =>
    unfold ckws at h
    cases l with
    | nil => cases h
    | cons e es =>
      simp only [Bool.and_eq_true] at h
      exact gws_cons h.1.1 (snw a C hf h.1.2) (snws r C hf h.2)
  | _ => simp [ckws] at h
end
end PI

set_option Elab.async false
set_option linter.all false
set_option maxRecDepth 100000
set_option maxHeartbeats 40000000
/-! expressions that pass the look -/
namespace PI
open PySem PySem.Spec PyProof.Rows L2
theorem cks_star {N : List Str} {G : Sig} : ∀ (r : E) {f : Fnb} {sc : Scope} {l : List Expr}, cks N G r f sc l = true → l.all notStar = true
  | .nil, f, sc, l, h => by
    unfold cks at h
    cases l with
    | nil => rfl
    | cons _ _ => cases h
  | .cons a r, f, sc, l, h => by
    unfold cks at h
    cases l with
    | nil => cases h
    | cons e es =>
      simp only [Bool.and_eq_true] at h
      rw [List.all_cons, h.1.1, cks_star r h.2]
      rfl
  | .v _, _, _, _, h | .tup _, _, _, _, h | .kN, _, _, _, h | .kB _, _, _, _, h | .kI _, _, _, _, h | .kS _, _, _, _, h | .glob _ _, _, _, _, h | .lst _, _, _, _, h | .dct _, _, _, _, h
  | .bin _ _ _, _, _, _, h | .neg _, _, _, _, h | .not _, _, _, _, h | .boo _ _, _, _, _, h | .cmp _ _ _, _, _, _, h | .chain _ _ _ _ _, _, _, _, h | .ite _ _ _, _, _, _, h | .ix _ _, _, _, _, h | .sl _ _ _, _, _, _, h
  | .rev _, _, _, _, h | .noE, _, _, _, h | .call _ _, _, _, _, h | .bif _ _, _, _, _, h | .isi _ _, _, _, _, h | .isx _ _ _, _, _, _, h | .fld _ _ _, _, _, _, h | .new0 _, _, _, _, h | .new1 _ _ _, _, _, _, h | .mth _ _ _, _, _, _, h | .lc _ _ _ _ _ _, _, _, _, h | .fs _, _, _, _, h => by simp [cks] at h
abbrev CkE (w : E) : Prop := ∀ {X : Cx} {xw : XW} {G : Sig} {Φ : Fns}, Ctx X G Φ xw → ∀ {f : Fnb}, (∀ x, f x = true → X.fn x = true) → ∀ {e : Expr}, ck X.N G w f X.env.scope e = true → Snd X xw e (eval Φ w)
mutual
theorem snd : ∀ (w : E) {X : Cx} {xw : XW} {G : Sig} {Φ : Fns} (C : Ctx X G Φ xw) {f : Fnb} (hf : ∀ x, f x = true → X.fn x = true) {e : Expr} (h : ck X.N G w f X.env.scope e = true), Snd X xw e (eval Φ w)
  | .v i, X, xw, G, Φ, C, f, hf, e, h => by
    unfold ck at h
    split at h
    · simp only [Bool.and_eq_true, decide_eq_true_eq] at h
      exact s_var h.1.1 (visB_ok h.1.2) (nmB_ok h.2).1 (nmB_ok h.2).2
    · cases h
  | .kN, X, xw, G, Φ, C, f, hf, e, h => by
    unfold ck at h
    split at h
    · exact s_con pe_non (fun η S => by rw [eval]) (fun _ _ => .non) fun _ => rfl
    · cases h
  | .kB b, X, xw, G, Φ, C, f, hf, e, h => by
    unfold ck at h
    split at h
    · have h := of_decide_eq_true h
      subst h
      exact s_con pe_bl (fun η S => by rw [eval]) (fun _ _ => .bl _) fun _ => rfl
    · cases h
  | .kI b, X, xw, G, Φ, C, f, hf, e, h => by
    unfold ck at h
    split at h
    · have h := of_decide_eq_true h
      subst h
      exact s_con pe_int (fun η S => by rw [eval]) (fun _ _ => .int _) fun _ => rfl
    · cases h
  | .kS b, X, xw, G, Φ, C, f, hf, e, h => by
    unfold ck at h
    split at h
    · have h := of_decide_eq_true h
      subst h
      exact s_con pe_str (fun η S => by rw [eval]) (fun _ _ => .str _) fun _ => rfl
    · cases h
  | .glob x w, X, xw, G, Φ, C, f, hf, e, h => by
    unfold ck at h
    split at h
    · simp only [Bool.and_eq_true, decide_eq_true_eq, List.any_eq_true] at h
      obtain ⟨⟨⟨h1, h2⟩, h3⟩, p, hp, h4, h5⟩ := h
      subst h1
      obtain ⟨a, b⟩ := p
      simp only at h4 h5
      subst h4
      exact s_glob C ⟨b, hp, cvB_ok h5⟩ (glB_ok h2) (nmB_ok h3).1
    · cases h
  | .tup a, X, xw, G, Φ, C, f, hf, e, h => by
    unfold ck at h
    split at h
    · exact s_tup (snds a C hf h)
    · cases h
  | .lst a, X, xw, G, Φ, C, f, hf, e, h => by
    unfold ck at h
    split at h
    · exact s_lst (snds a C hf h)
    · cases h
  | .dct a, X, xw, G, Φ, C, f, hf, e, h => by
    unfold ck at h
    split at h
    · rename_i ks vs pos
      simp only [Bool.and_eq_true, decide_eq_true_eq] at h
      cases ks with
      | nil =>
        have h1 := h.1
        cases a <;> first
          | (simp [ckd] at h1; done)
          | (rename_i a b; cases b <;> simp [ckd] at h1 <;> done)
          | (simp [ckd] at h1; subst h1; exact s_dnew)
      | cons k ks =>
        obtain ⟨trs, d⟩ := sndd a C hf h.1
        exact s_dct d (by simp) h.2
    · cases h
  | .bin o a b, X, xw, G, Φ, C, f, hf, e, h => by
    unfold ck at h
    split at h
    · simp only [Bool.and_eq_true] at h
      rw [bopB_ok h.1.1]
      exact s_bin (snd a C hf h.1.2) (snd b C hf h.2)
    · cases h
  | .neg a, X, xw, G, Φ, C, f, hf, e, h => by
    unfold ck at h
    split at h
    · exact s_neg (snd a C hf h)
    · cases h
  | .not a, X, xw, G, Φ, C, f, hf, e, h => by
    unfold ck at h
    split at h
    · exact s_not (snd a C hf h)
    · cases h
  | .boo o a, X, xw, G, Φ, C, f, hf, e, h => by
    unfold ck at h
    split at h
    · simp only [Bool.and_eq_true] at h
      rw [booB_ok h.1]
      exact s_boo (sndb a C hf h.2)
    · cases h
  | .cmp o a b, X, xw, G, Φ, C, f, hf, e, h => by
    unfold ck at h
    split at h
    · simp only [Bool.and_eq_true, Bool.not_eq_true'] at h
      obtain ⟨⟨⟨h1, h2⟩, h3⟩, h4⟩ := h
      rw [copB_ok h1] at h2 ⊢
      exact s_cmp C.un h2 (snd a C hf h3) (snd b C hf h4)
    · cases h
  | .chain o p a b c, X, xw, G, Φ, C, f, hf, e, h => by
    unfold ck at h
    split at h
    · simp only [Bool.and_eq_true, Bool.not_eq_true'] at h
      obtain ⟨⟨⟨⟨⟨h1, h1'⟩, h2⟩, h3⟩, h4⟩, h5⟩ := h
      rw [copB_ok h1'] at h2
      rw [copB_ok h1, copB_ok h1']
      exact s_chain C.un h2 (snd a C hf h3) (snd b C hf h4) (snd c C hf h5)
    · cases h
  | .ite c a b, X, xw, G, Φ, C, f, hf, e, h => by
    unfold ck at h
    split at h
    · simp only [Bool.and_eq_true] at h
      exact s_ite (snd c C hf h.1.1) (snd a C hf h.1.2) (snd b C hf h.2)
    · cases h
  | .ix a b, X, xw, G, Φ, C, f, hf, e, h => by
    unfold ck at h
    split at h
    · simp only [Bool.and_eq_true] at h
      exact s_ix C.un h.1.1 (snd a C hf h.1.2) (snd b C hf h.2)
    · cases h
  | .sl a lo hi, X, xw, G, Φ, C, f, hf, e, h => by
    unfold ck at h
    split at h
    · rename_i x l hh p1 p2
      simp only [Bool.and_eq_true] at h
      obtain ⟨⟨h1, h2⟩, h3⟩ := h
      have key : ∀ (w : E) (l : Option Expr), (∀ y, ck X.N G w f X.env.scope y = true → Snd X xw y (eval Φ w)) → (match l with
          | none => w.isNo
          | some y => !w.isNo && ck X.N G w f X.env.scope y) = true → (w = .noE ∧ l = none) ∨ (w.isNo = false ∧ ∃ e, l = some e ∧ Snd X xw e (eval Φ w)) := by
        intro w l sn q
        cases l with
        | none =>
          left
          cases w <;> first | exact ⟨rfl, rfl⟩ | cases q
        | some y =>
          simp only [Bool.and_eq_true, Bool.not_eq_true'] at q
          exact .inr ⟨q.1, y, rfl, sn y q.2⟩
      exact s_sl (snd a C hf h1) (key lo l (fun y q => snd lo C hf q) h2) (key hi hh (fun y q => snd hi C hf q) h3)
    · cases h
  | .rev a, X, xw, G, Φ, C, f, hf, e, h => by
    unfold ck at h
    split at h
    · exact s_rev (snd a C hf h)
    · cases h
  | .call x a, X, xw, G, Φ, C, f, hf, e, h => by
    unfold ck at h
    split at h
    · rename_i y p l pos
      simp only [Bool.and_eq_true, decide_eq_true_eq] at h
      obtain ⟨⟨⟨⟨⟨h1, h2⟩, h3⟩, h4⟩, h5⟩, h6⟩ := h
      subst h1
      cases l with
      | nil =>
        have : a = .nil := by
          cases a <;> first
            | rfl
            | (simp [cks] at h6; done)
        subst this
        exact s_call0 C h5 (glB_ok h2) (nmB_ok h3).1
      | cons e es => exact s_call C h5 (glB_ok h2) (nmB_ok h3).1 h4 rfl (snds a C hf h6) fun η S us S' q => by rw [evals_len a q, cks_arity a h6]
    · cases h
  | .bif b a, X, xw, G, Φ, C, f, hf, e, h => by
    unfold ck at h
    split at h
    · simp only [Bool.and_eq_true, decide_eq_true_eq] at h
      obtain ⟨⟨⟨h1, h2⟩, h3⟩, h4⟩ := h
      subst h1
      exact s_bif C.un C.calm C.gd (bltB_ok C h2).1 (bltB_ok C h2).2 h3 (snds a C hf h4)
    · cases h
  | .isi a us, X, xw, G, Φ, C, f, hf, e, h => by
    unfold ck at h
    split at h
    · rename_i y p x t pos
      simp only [Bool.and_eq_true, decide_eq_true_eq] at h
      obtain ⟨⟨⟨⟨h1, h2⟩, h3⟩, h4⟩, h5⟩ := h
      subst h1
      obtain ⟨g1, g2⟩ := bltB_ok C h2
      unfold isiB at h4
      split at h4
      · simp only [Bool.and_eq_true, decide_eq_true_eq] at h4
        exact s_isiT g1 g2 h4.2 (tysB_ok C h4.1) h3 (snd a C hf h5)
      · split at h4
        · obtain ⟨q1, q2, q3, p', rfl⟩ := tyB_ok C h4
          exact s_isi1 g1 g2 q1 q2 q3 h3 (snd a C hf h5)
        · cases h4
    · cases h
  | .isx a all us, X, xw, G, Φ, C, f, hf, e, h => by
    unfold ck at h
    split at h
    · rename_i y p x t pos
      simp only [Bool.and_eq_true, decide_eq_true_eq] at h
      obtain ⟨⟨⟨⟨⟨h1, h0⟩, h2⟩, h3⟩, h4⟩, h5⟩ := h
      subst h1 h0
      obtain ⟨g1, g2⟩ := bltB_ok C h2
      exact isxB_ok C g1 g2 h4 h3 (snd a C hf h5)
    · cases h
  | .fld a g cs, X, xw, G, Φ, C, f, hf, e, h => by
    unfold ck at h
    split at h
    · simp only [Bool.and_eq_true, decide_eq_true_eq] at h
      obtain ⟨⟨⟨h1, h2⟩, h3⟩, h4⟩ := h
      subst h1
      exact s_fld (cs := cs) (fun c hc => C.xf _ (of_decide_eq_true (List.all_eq_true.mp h3 c hc))) h2 (snd a C hf h4) _ fun η S => by rw [eval]
    · cases h
  | .new0 c, X, xw, G, Φ, C, f, hf, e, h => by
    unfold ck at h
    split at h
    · simp only [Bool.and_eq_true, decide_eq_true_eq] at h
      obtain ⟨⟨h1, h2⟩, h3⟩ := h
      subst h1
      exact s_new0 C h3 (glB_ok h2) _ fun η S => by rw [eval]
    · cases h
  | .new1 c g a, X, xw, G, Φ, C, f, hf, e, h => by
    unfold ck at h
    split at h
    · simp only [Bool.and_eq_true, decide_eq_true_eq] at h
      obtain ⟨⟨⟨⟨h1, h2⟩, h3⟩, h4⟩, h5⟩ := h
      subst h1
      exact s_newF C.room (C.xf _ h3) (glB_ok h2) h4 (snd a C hf h5) _ fun η S => by rw [eval]
    · cases h
  | .mth m o a, X, xw, G, Φ, C, f, hf, e, h => by
    unfold ck at h
    split at h
    · simp only [Bool.and_eq_true, decide_eq_true_eq] at h
      obtain ⟨⟨⟨⟨⟨⟨⟨h1, h2⟩, h3⟩, h4⟩, h5⟩, h6⟩, h7⟩, h8⟩ := h
      subst h1
      exact s_mth C.un h2 h3 h4 h5 (by simpa using h6) (snd o C hf h7) (snds a C hf h8)
    · cases h
  | .lc a tg k it c own, X, xw, G, Φ, C, f, hf, e, h => by
    unfold ck at h
    split at h
    · rename_i x t i ifs scope pos
      simp only [Bool.and_eq_true] at h
      obtain ⟨⟨⟨⟨⟨⟨h1, h2⟩, h3⟩, h4⟩, h5⟩, h6⟩, h7⟩ := h
      have ok := blkOk_by h1
      refine s_lc C.calm C.nd (sndi it (tgE := t) C hf h3 h4) ok (fun s H L cl fp => snw tg (C.blk ok.kind s H L cl fp) (fun _ z => z) h5) (fun s H L cl fp => ?_) (fun s H L cl fp => (snd a (C.blk ok.kind s H L cl fp) (fun _ z => z) h7).pe) h2
      split at h6
      · have : c = .noE := by
          cases c <;> first
            | rfl
            | cases h6
        subst this
        exact c_nil
      · simp only [Bool.and_eq_true, Bool.not_eq_true'] at h6
        exact c_one h6.1 (snd c (C.blk ok.kind s H L cl fp) (fun _ z => z) h6.2)
      · cases h6
    · cases h
  | .fs a, X, xw, G, Φ, C, f, hf, e, h => by
    unfold ck at h
    split at h
    · rename_i x l pos
      obtain ⟨ts, d⟩ := sndf a (xw := xw) C hf h
      cases l with
      | nil => exact s_fs1 d
      | cons y l => exact s_fs d
    · cases h
  | .nil, X, xw, G, Φ, C, f, hf, e, h => by simp [ck] at h
  | .cons _ _, X, xw, G, Φ, C, f, hf, e, h => by simp [ck] at h
  | .noE, X, xw, G, Φ, C, f, hf, e, h => by simp [ck] at h
theorem snds : ∀ (w : E) {X : Cx} {xw : XW} {G : Sig} {Φ : Fns} (C : Ctx X G Φ xw) {f : Fnb} (hf : ∀ x, f x = true → X.fn x = true) {l : List Expr} (h : cks X.N G w f X.env.scope l = true), PA X l (LA X xw (evals Φ w))
  | .nil, X, xw, G, Φ, C, f, hf, l, h => by
    unfold cks at h
    cases l with
    | nil => exact a_nil
    | cons _ _ => cases h
  | .cons a r, X, xw, G, Φ, C, f, hf, l, h => by
    unfold cks at h
    cases l with
    | nil => cases h
    | cons e es =>
      simp only [Bool.and_eq_true] at h
      exact a_cons (snd a C hf h.1.2) (snds r C hf h.2) (star_cons h.1.1)
  | .v _, _, _, _, _, _, _, _, _, h | .tup _, _, _, _, _, _, _, _, _, h | .kN, _, _, _, _, _, _, _, _, h | .kB _, _, _, _, _, _, _, _, _, h | .kI _, _, _, _, _, _, _, _, _, h | .kS _, _, _, _, _, _, _, _, _, h | .glob _ _, _, _, _, _, _, _, _, _, h | .lst _, _, _, _, _, _, _, _, _, h | .dct _, _, _, _, _, _, _, _, _, h
  | .bin _ _ _, _, _, _, _, _, _, _, _, h | .neg _, _, _, _, _, _, _, _, _, h | .not _, _, _, _, _, _, _, _, _, h | .boo _ _, _, _, _, _, _, _, _, _, h | .cmp _ _ _, _, _, _, _, _, _, _, _, h | .chain _ _ _ _ _, _, _, _, _, _, _, _, _, h | .ite _ _ _, _, _, _, _, _, _, _, _, h | .ix _ _, _, _, _, _, _, _, _, _, h | .sl _ _ _, _, _, _, _, _, _, _, _, h
  | .rev _, _, _, _, _, _, _, _, _, h | .noE, _, _, _, _, _, _, _, _, h | .call _ _, _, _, _, _, _, _, _, _, h | .bif _ _, _, _, _, _, _, _, _, _, h | .isi _ _, _, _, _, _, _, _, _, _, h | .isx _ _ _, _, _, _, _, _, _, _, _, h | .fld _ _ _, _, _, _, _, _, _, _, _, h | .new0 _, _, _, _, _, _, _, _, _, h | .new1 _ _ _, _, _, _, _, _, _, _, _, h | .mth _ _ _, _, _, _, _, _, _, _, _, h | .lc _ _ _ _ _ _, _, _, _, _, _, _, _, _, h | .fs _, _, _, _, _, _, _, _, _, h => by simp [cks] at h
theorem sndb : ∀ (w : E) {X : Cx} {xw : XW} {G : Sig} {Φ : Fns} (C : Ctx X G Φ xw) {f : Fnb} (hf : ∀ x, f x = true → X.fn x = true) {l : List Expr} {o : Bool} {pos : Pos} (h : ckb X.N G w f X.env.scope l = true), SndB X xw o l pos (evalB Φ o w)
  | .cons a r, X, xw, G, Φ, C, f, hf, l, o, pos, h => by
    unfold ckb at h
    cases l with
    | nil => cases h
    | cons e es =>
      simp only [Bool.and_eq_true] at h
      by_cases hn : r.isNil = true
      · have : r = .nil := by
          cases r <;> first
            | rfl
            | cases hn
        subst this
        have h2 := h.2
        rw [if_pos hn] at h2
        cases es with
        | nil => exact sb_one (snd a C hf h.1)
        | cons _ _ => cases h2
      · have h2 := h.2
        rw [if_neg hn] at h2
        cases es with
        | nil =>
          cases r <;> first
            | (simp [ckb] at h2; done)
        | cons e2 es => exact sb_cons (by simpa using hn) (snd a C hf h.1) (sndb r C hf h2)
  | .nil, _, _, _, _, _, _, _, _, _, _, h | .v _, _, _, _, _, _, _, _, _, _, _, h | .tup _, _, _, _, _, _, _, _, _, _, _, h | .kN, _, _, _, _, _, _, _, _, _, _, h | .kB _, _, _, _, _, _, _, _, _, _, _, h | .kI _, _, _, _, _, _, _, _, _, _, _, h | .kS _, _, _, _, _, _, _, _, _, _, _, h | .glob _ _, _, _, _, _, _, _, _, _, _, _, h | .lst _, _, _, _, _, _, _, _, _, _, _, h | .dct _, _, _, _, _, _, _, _, _, _, _, h
  | .bin _ _ _, _, _, _, _, _, _, _, _, _, _, h | .neg _, _, _, _, _, _, _, _, _, _, _, h | .not _, _, _, _, _, _, _, _, _, _, _, h | .boo _ _, _, _, _, _, _, _, _, _, _, _, h | .cmp _ _ _, _, _, _, _, _, _, _, _, _, _, h | .chain _ _ _ _ _, _, _, _, _, _, _, _, _, _, _, h | .ite _ _ _, _, _, _, _, _, _, _, _, _, _, h | .ix _ _, _, _, _, _, _, _, _, _, _, _, h | .sl _ _ _, _, _, _, _, _, _, _, _, _, _, h
  | .rev _, _, _, _, _, _, _, _, _, _, _, h | .noE, _, _, _, _, _, _, _, _, _, _, h | .call _ _, _, _, _, _, _, _, _, _, _, _, h | .bif _ _, _, _, _, _, _, _, _, _, _, _, h | .isi _ _, _, _, _, _, _, _, _, _, _, _, h | .isx _ _ _, _, _, _, _, _, _, _, _, _, _, h | .fld _ _ _, _, _, _, _, _, _, _, _, _, _, h | .new0 _, _, _, _, _, _, _, _, _, _, _, h | .new1 _ _ _, _, _, _, _, _, _, _, _, _, _, h | .mth _ _ _, _, _, _, _, _, _, _, _, _, _, h | .lc _ _ _ _ _ _, _, _, _, _, _, _, _, _, _, _, h | .fs _, _, _, _, _, _, _, _, _, _, _, h => by simp [ckb] at h
theorem sndd : ∀ (w : E) {X : Cx} {xw : XW} {G : Sig} {Φ : Fns} (C : Ctx X G Φ xw) {f : Fnb} (hf : ∀ x, f x = true → X.fn x = true) {ks : List (Option Expr)} {vs : List Expr} (h : ckd X.N G w f X.env.scope ks vs = true), ∃ trs, DPs X xw Φ w ks vs trs
  | .nil, X, xw, G, Φ, C, f, hf, ks, vs, h => by
    unfold ckd at h
    cases ks <;> cases vs <;> first
      | exact ⟨_, .nil⟩
      | cases h
  | .cons a (.cons b r), X, xw, G, Φ, C, f, hf, ks, vs, h => by
    unfold ckd at h
    split at h
    · simp only [Bool.and_eq_true] at h
      obtain ⟨trs, d⟩ := sndd r C hf h.2
      exact ⟨_, .cons (snd a C hf h.1.1) (snd b C hf h.1.2) d⟩
    · cases h
  | .cons a .nil, X, xw, G, Φ, C, f, hf, ks, vs, h => by simp [ckd] at h
  | .cons a (.v _), _, _, _, _, _, _, _, _, _, h | .cons a (.tup _), _, _, _, _, _, _, _, _, _, h | .cons a .kN, _, _, _, _, _, _, _, _, _, h | .cons a (.kB _), _, _, _, _, _, _, _, _, _, h | .cons a (.kI _), _, _, _, _, _, _, _, _, _, h | .cons a (.kS _), _, _, _, _, _, _, _, _, _, h | .cons a (.glob _ _), _, _, _, _, _, _, _, _, _, h | .cons a (.lst _), _, _, _, _, _, _, _, _, _, h | .cons a (.dct _), _, _, _, _, _, _, _, _, _, h
  | .cons a (.bin _ _ _), _, _, _, _, _, _, _, _, _, h | .cons a (.neg _), _, _, _, _, _, _, _, _, _, h | .cons a (.not _), _, _, _, _, _, _, _, _, _, h | .cons a (.boo _ _), _, _, _, _, _, _, _, _, _, h | .cons a (.cmp _ _ _), _, _, _, _, _, _, _, _, _, h | .cons a (.chain _ _ _ _ _), _, _, _, _, _, _, _, _, _, h | .cons a (.ite _ _ _), _, _, _, _, _, _, _, _, _, h | .cons a (.ix _ _), _, _, _, _, _, _, _, _, _, h | .cons a (.sl _ _ _), _, _, _, _, _, _, _, _, _, h
  | .cons a (.rev _), _, _, _, _, _, _, _, _, _, h | .cons a .noE, _, _, _, _, _, _, _, _, _, h | .cons a (.call _ _), _, _, _, _, _, _, _, _, _, h | .cons a (.bif _ _), _, _, _, _, _, _, _, _, _, h | .cons a (.isi _ _), _, _, _, _, _, _, _, _, _, h | .cons a (.isx _ _ _), _, _, _, _, _, _, _, _, _, h | .cons a (.fld _ _ _), _, _, _, _, _, _, _, _, _, h | .cons a (.new0 _), _, _, _, _, _, _, _, _, _, h | .cons a (.new1 _ _ _), _, _, _, _, _, _, _, _, _, h | .cons a (.mth _ _ _), _, _, _, _, _, _, _, _, _, h | .cons a (.lc _ _ _ _ _ _), _, _, _, _, _, _, _, _, _, h | .cons a (.fs _), _, _, _, _, _, _, _, _, _, h => by simp [ckd] at h
  | .v _, _, _, _, _, _, _, _, _, _, h | .tup _, _, _, _, _, _, _, _, _, _, h | .kN, _, _, _, _, _, _, _, _, _, h | .kB _, _, _, _, _, _, _, _, _, _, h | .kI _, _, _, _, _, _, _, _, _, _, h | .kS _, _, _, _, _, _, _, _, _, _, h | .glob _ _, _, _, _, _, _, _, _, _, _, h | .lst _, _, _, _, _, _, _, _, _, _, h | .dct _, _, _, _, _, _, _, _, _, _, h
  | .bin _ _ _, _, _, _, _, _, _, _, _, _, h | .neg _, _, _, _, _, _, _, _, _, _, h | .not _, _, _, _, _, _, _, _, _, _, h | .boo _ _, _, _, _, _, _, _, _, _, _, h | .cmp _ _ _, _, _, _, _, _, _, _, _, _, h | .chain _ _ _ _ _, _, _, _, _, _, _, _, _, _, h | .ite _ _ _, _, _, _, _, _, _, _, _, _, h | .ix _ _, _, _, _, _, _, _, _, _, _, h | .sl _ _ _, _, _, _, _, _, _, _, _, _, h
  | .rev _, _, _, _, _, _, _, _, _, _, h | .noE, _, _, _, _, _, _, _, _, _, h | .call _ _, _, _, _, _, _, _, _, _, _, h | .bif _ _, _, _, _, _, _, _, _, _, _, h | .isi _ _, _, _, _, _, _, _, _, _, _, h | .isx _ _ _, _, _, _, _, _, _, _, _, _, h | .fld _ _ _, _, _, _, _, _, _, _, _, _, h | .new0 _, _, _, _, _, _, _, _, _, _, h | .new1 _ _ _, _, _, _, _, _, _, _, _, _, h | .mth _ _ _, _, _, _, _, _, _, _, _, _, h | .lc _ _ _ _ _ _, _, _, _, _, _, _, _, _, _, h | .fs _, _, _, _, _, _, _, _, _, _, h => by simp [ckd] at h
theorem sndf : ∀ (w : E) {X : Cx} {xw : XW} {G : Sig} {Φ : Fns} (C : Ctx X G Φ xw) {f : Fnb} (hf : ∀ x, f x = true → X.fn x = true) {l : List Expr} (h : ckf X.N G w f X.env.scope l = true), ∃ ts, FParts X xw Φ w l ts
  | .nil, X, xw, G, Φ, C, f, hf, l, h => by
    unfold ckf at h
    cases l with
    | nil => exact ⟨_, .nil⟩
    | cons _ _ => cases h
  | .cons a r, X, xw, G, Φ, C, f, hf, l, h => by
    unfold ckf at h
    cases l with
    | nil => cases h
    | cons e es =>
      simp only [Bool.and_eq_true] at h
      obtain ⟨ts, d⟩ := sndf r (xw := xw) C hf h.2
      have h1 := h.1
      split at h1
      · have sa : Snd X xw _ (eval Φ a) := snd a C hf h1
        exact ⟨_, .cons (pe_fmt sa.pe) (fmt_val sa) d⟩
      · split at h1
        · have h1 := of_decide_eq_true h1
          subst h1
          exact ⟨_, .cons pe_str (fmt_con rfl) d⟩
        · cases h1
      · cases h1
  | .v _, _, _, _, _, _, _, _, _, h | .tup _, _, _, _, _, _, _, _, _, h | .kN, _, _, _, _, _, _, _, _, h | .kB _, _, _, _, _, _, _, _, _, h | .kI _, _, _, _, _, _, _, _, _, h | .kS _, _, _, _, _, _, _, _, _, h | .glob _ _, _, _, _, _, _, _, _, _, h | .lst _, _, _, _, _, _, _, _, _, h | .dct _, _, _, _, _, _, _, _, _, h
  | .bin _ _ _, _, _, _, _, _, _, _, _, h | .neg _, _, _, _, _, _, _, _, _, h | .not _, _, _, _, _, _, _, _, _, h | .boo _ _, _, _, _, _, _, _, _, _, h | .cmp _ _ _, _, _, _, _, _, _, _, _, h | .chain _ _ _ _ _, _, _, _, _, _, _, _, _, h | .ite _ _ _, _, _, _, _, _, _, _, _, h | .ix _ _, _, _, _, _, _, _, _, _, h | .sl _ _ _, _, _, _, _, _, _, _, _, h
  | .rev _, _, _, _, _, _, _, _, _, h | .noE, _, _, _, _, _, _, _, _, h | .call _ _, _, _, _, _, _, _, _, _, h | .bif _ _, _, _, _, _, _, _, _, _, h | .isi _ _, _, _, _, _, _, _, _, _, h | .isx _ _ _, _, _, _, _, _, _, _, _, h | .fld _ _ _, _, _, _, _, _, _, _, _, h | .new0 _, _, _, _, _, _, _, _, _, h | .new1 _ _ _, _, _, _, _, _, _, _, _, h | .mth _ _ _, _, _, _, _, _, _, _, _, h | .lc _ _ _ _ _ _, _, _, _, _, _, _, _, _, h | .fs _, _, _, _, _, _, _, _, _, h => by simp [ckf] at h
theorem sndi : ∀ (w : E) {X : Cx} {xw : XW} {G : Sig} {Φ : Fns} (C : Ctx X G Φ xw) {f : Fnb} (hf : ∀ x, f x = true → X.fn x = true) {k : Itk} {e tgE : Expr} (h : cki X.N G w k f X.env.scope e = true) (ht : needT k tgE = true), L2.PI X tgE e (LI X xw (evals Φ w) k)
  | .cons a r, X, xw, G, Φ, C, f, hf, k, e, tgE, h, ht => by
    have nil_of : r.isNil = true → r = .nil := fun q => by
      cases r <;> first
        | rfl
        | cases q
    cases k with
    | plain =>
      simp only [cki, Bool.and_eq_true] at h
      rw [nil_of h.1]
      exact i_plain (snd a C hf h.2)
    | range1 =>
      simp only [cki] at h
      split at h
      · simp only [Bool.and_eq_true, decide_eq_true_eq] at h
        obtain ⟨⟨⟨⟨h1, h2⟩, h3⟩, h4⟩, h5⟩ := h
        subst h1
        rw [nil_of h4]
        exact i_range1 (bltB_ok C h2).1 (bltB_ok C h2).2 h3 (a_cons (snd a C hf h5) a_nil (star_cons h3))
      · cases h
    | range2 =>
      simp only [cki] at h
      split at h
      · simp only [Bool.and_eq_true, decide_eq_true_eq] at h
        obtain ⟨⟨⟨⟨⟨h1, h2⟩, h3⟩, h4⟩, h5⟩, h6⟩ := h
        subst h1
        exact i_range2 (bltB_ok C h2).1 (bltB_ok C h2).2 h3 h4 (a_cons (snd a C hf h5) (snds r C hf h6) (star_cons h3))
      · cases h
    | enum =>
      simp only [cki] at h
      split at h
      · simp only [Bool.and_eq_true, decide_eq_true_eq] at h
        obtain ⟨⟨⟨⟨h1, h2⟩, h3⟩, h4⟩, h5⟩ := h
        subst h1
        rw [nil_of h4]
        cases tgE <;> first
          | exact i_enum (bltB_ok C h2).1 (bltB_ok C h2).2 h3 (a_cons (snd a C hf h5) a_nil (star_cons h3))
          | cases ht
      · cases h
    | zip =>
      simp only [cki] at h
      split at h
      · simp only [Bool.and_eq_true, decide_eq_true_eq] at h
        obtain ⟨⟨⟨⟨⟨h1, h2⟩, h3⟩, h4⟩, h5⟩, h6⟩ := h
        subst h1
        cases tgE <;> first
          | exact i_zip (bltB_ok C h2).1 (bltB_ok C h2).2 h3 h4 (a_cons (snd a C hf h5) (snds r C hf h6) (star_cons h3))
          | cases ht
      · cases h
    | items =>
      simp only [cki] at h
      split at h
      · simp only [Bool.and_eq_true, decide_eq_true_eq] at h
        obtain ⟨⟨⟨⟨h1, h2⟩, h3⟩, h4⟩, h5⟩ := h
        subst h1
        rw [nil_of h4]
        cases tgE <;> first
          | exact i_items h2 h3 (snd a C hf h5)
          | cases ht
      · cases h
    | values =>
      simp only [cki] at h
      split at h
      · simp only [Bool.and_eq_true, decide_eq_true_eq] at h
        obtain ⟨⟨⟨⟨h1, h2⟩, h3⟩, h4⟩, h5⟩ := h
        subst h1
        rw [nil_of h4]
        exact i_values h2 h3 (snd a C hf h5)
      · cases h
  | .nil, _, _, _, _, _, _, _, _, _, _, h, _ | .v _, _, _, _, _, _, _, _, _, _, _, h, _ | .tup _, _, _, _, _, _, _, _, _, _, _, h, _ | .kN, _, _, _, _, _, _, _, _, _, _, h, _ | .kB _, _, _, _, _, _, _, _, _, _, _, h, _ | .kI _, _, _, _, _, _, _, _, _, _, _, h, _ | .kS _, _, _, _, _, _, _, _, _, _, _, h, _ | .glob _ _, _, _, _, _, _, _, _, _, _, _, h, _ | .lst _, _, _, _, _, _, _, _, _, _, _, h, _ | .dct _, _, _, _, _, _, _, _, _, _, _, h, _
  | .bin _ _ _, _, _, _, _, _, _, _, _, _, _, h, _ | .neg _, _, _, _, _, _, _, _, _, _, _, h, _ | .not _, _, _, _, _, _, _, _, _, _, _, h, _ | .boo _ _, _, _, _, _, _, _, _, _, _, _, h, _ | .cmp _ _ _, _, _, _, _, _, _, _, _, _, _, h, _ | .chain _ _ _ _ _, _, _, _, _, _, _, _, _, _, _, h, _ | .ite _ _ _, _, _, _, _, _, _, _, _, _, _, h, _ | .ix _ _, _, _, _, _, _, _, _, _, _, _, h, _ | .sl _ _ _, _, _, _, _, _, _, _, _, _, _, h, _
  | .rev _, _, _, _, _, _, _, _, _, _, _, h, _ | .noE, _, _, _, _, _, _, _, _, _, _, h, _ | .call _ _, _, _, _, _, _, _, _, _, _, _, h, _ | .bif _ _, _, _, _, _, _, _, _, _, _, _, h, _ | .isi _ _, _, _, _, _, _, _, _, _, _, _, h, _ | .isx _ _ _, _, _, _, _, _, _, _, _, _, _, h, _ | .fld _ _ _, _, _, _, _, _, _, _, _, _, _, h, _ | .new0 _, _, _, _, _, _, _, _, _, _, _, h, _ | .new1 _ _ _, _, _, _, _, _, _, _, _, _, _, h, _ | .mth _ _ _, _, _, _, _, _, _, _, _, _, _, h, _ | .lc _ _ _ _ _ _, _, _, _, _, _, _, _, _, _, _, h, _ | .fs _, _, _, _, _, _, _, _, _, _, _, h, _ => by simp [cki] at h
end
end PI

set_option Elab.async false
set_option linter.all false
set_option maxRecDepth 100000
set_option maxHeartbeats 4000000
/-! statements that pass the look; defs; the whole text -/
namespace PI
open PySem PySem.Spec PyProof.Rows L2
/-! ### targets -/
mutual
theorem asg_two {Φ : Fns} {N : List Str} {f : Fnb} {sc : Scope} : ∀ (w : E) {e : Expr}, ckn N w f sc e = true → ∀ (u : W) (η : Env) (S : Sto), (∃ η1, asgE Φ w u η S = .ok η1 S) ∨ asgE Φ w u η S = .bad
  | .v i, e, h, u, η, S => .inl ⟨_, by rw [asgE]⟩
  | .tup a, e, h, u, η, S => by
    unfold ckn at h
    split at h
    · simp only [Bool.and_eq_true] at h
      unfold asgE
      cases u with
      | tup ws => exact asgs_two a h.2 ws η S
      | _ => exact .inr rfl
    · cases h
  | .kN, _, h, _, _, _ | .kB _, _, h, _, _, _ | .kI _, _, h, _, _, _ | .kS _, _, h, _, _, _ | .glob _ _, _, h, _, _, _ | .nil, _, h, _, _, _ | .cons _ _, _, h, _, _, _ | .lst _, _, h, _, _, _ | .dct _, _, h, _, _, _
  | .bin _ _ _, _, h, _, _, _ | .neg _, _, h, _, _, _ | .not _, _, h, _, _, _ | .boo _ _, _, h, _, _, _ | .cmp _ _ _, _, h, _, _, _ | .chain _ _ _ _ _, _, h, _, _, _ | .ite _ _ _, _, h, _, _, _ | .ix _ _, _, h, _, _, _ | .sl _ _ _, _, h, _, _, _
  | .rev _, _, h, _, _, _ | .noE, _, h, _, _, _ | .call _ _, _, h, _, _, _ | .bif _ _, _, h, _, _, _ | .isi _ _, _, h, _, _, _ | .isx _ _ _, _, h, _, _, _ | .fld _ _ _, _, h, _, _, _ | .new0 _, _, h, _, _, _ | .new1 _ _ _, _, h, _, _, _ | .mth _ _ _, _, h, _, _, _ | .lc _ _ _ _ _ _, _, h, _, _, _ | .fs _, _, h, _, _, _ => by simp [ckn] at h
theorem asgs_two {Φ : Fns} {N : List Str} {f : Fnb} {sc : Scope} : ∀ (w : E) {l : List Expr}, ckns N w f sc l = true → ∀ (us : List W) (η : Env) (S : Sto), (∃ η1, asgEs Φ w us η S = .ok η1 S) ∨ asgEs Φ w us η S = .bad
  | .nil, l, h, us, η, S => by
    unfold asgEs
    cases us with
    | nil => exact .inl ⟨η, rfl⟩
    | cons _ _ => exact .inr rfl
  | .cons a r, l, h, us, η, S => by
    unfold ckns at h
    cases l with
    | nil => cases h
    | cons e es =>
      simp only [Bool.and_eq_true] at h
      unfold asgEs
      cases us with
      | nil => exact .inr rfl
      | cons u us =>
        rcases asg_two (Φ := Φ) a h.1.2 u η S with ⟨η1, e1⟩ | e1
        · simp only [e1, Res.bind]
          exact asgs_two r h.2 us η1 S
        · simp only [e1, Res.bind]
          exact .inr trivial
  | .v _, _, h, _, _, _ | .tup _, _, h, _, _, _ | .kN, _, h, _, _, _ | .kB _, _, h, _, _, _ | .kI _, _, h, _, _, _ | .kS _, _, h, _, _, _ | .glob _ _, _, h, _, _, _ | .lst _, _, h, _, _, _ | .dct _, _, h, _, _, _
  | .bin _ _ _, _, h, _, _, _ | .neg _, _, h, _, _, _ | .not _, _, h, _, _, _ | .boo _ _, _, h, _, _, _ | .cmp _ _ _, _, h, _, _, _ | .chain _ _ _ _ _, _, h, _, _, _ | .ite _ _ _, _, h, _, _, _ | .ix _ _, _, h, _, _, _ | .sl _ _ _, _, h, _, _, _
  | .rev _, _, h, _, _, _ | .noE, _, h, _, _, _ | .call _ _, _, h, _, _, _ | .bif _ _, _, h, _, _, _ | .isi _ _, _, h, _, _, _ | .isx _ _ _, _, h, _, _, _ | .fld _ _ _, _, h, _, _, _ | .new0 _, _, h, _, _, _ | .new1 _ _ _, _, h, _, _, _ | .mth _ _ _, _, h, _, _, _ | .lc _ _ _ _ _ _, _, h, _, _, _ | .fs _, _, h, _, _, _ => by simp [ckns] at h
end
theorem asgs_len {Φ : Fns} {N : List Str} {f : Fnb} {sc : Scope} : ∀ (w : E) {l : List Expr}, ckns N w f sc l = true → ∀ (us : List W) (η : Env) (S : Sto), us.length ≠ l.length → asgEs Φ w us η S = .bad
  | .nil, l, h, us, η, S, hn => by
    unfold ckns at h
    unfold asgEs
    cases l with
    | nil =>
      cases us with
      | nil => exact absurd rfl hn
      | cons _ _ => rfl
    | cons _ _ => cases h
  | .cons a r, l, h, us, η, S, hn => by
    unfold ckns at h
    cases l with
    | nil => cases h
    | cons e es =>
      simp only [Bool.and_eq_true] at h
      unfold asgEs
      cases us with
      | nil => rfl
      | cons u us =>
        rcases asg_two (Φ := Φ) a h.1.2 u η S with ⟨η1, e1⟩ | e1
        · simp only [e1, Res.bind]
          exact asgs_len r h.2 us η1 S (fun q => hn (by simp [q]))
        · simp only [e1, Res.bind]
  | .v _, _, h, _, _, _, _ | .tup _, _, h, _, _, _, _ | .kN, _, h, _, _, _, _ | .kB _, _, h, _, _, _, _ | .kI _, _, h, _, _, _, _ | .kS _, _, h, _, _, _, _ | .glob _ _, _, h, _, _, _, _ | .lst _, _, h, _, _, _, _ | .dct _, _, h, _, _, _, _
  | .bin _ _ _, _, h, _, _, _, _ | .neg _, _, h, _, _, _, _ | .not _, _, h, _, _, _, _ | .boo _ _, _, h, _, _, _, _ | .cmp _ _ _, _, h, _, _, _, _ | .chain _ _ _ _ _, _, h, _, _, _, _ | .ite _ _ _, _, h, _, _, _, _ | .ix _ _, _, h, _, _, _, _ | .sl _ _ _, _, h, _, _, _, _
  | .rev _, _, h, _, _, _, _ | .noE, _, h, _, _, _, _ | .call _ _, _, h, _, _, _, _ | .bif _ _, _, h, _, _, _, _ | .isi _ _, _, h, _, _, _, _ | .isx _ _ _, _, h, _, _, _, _ | .fld _ _ _, _, h, _, _, _, _ | .new0 _, _, h, _, _, _, _ | .new1 _ _ _, _, h, _, _, _, _ | .mth _ _ _, _, h, _, _, _, _ | .lc _ _ _ _ _ _, _, h, _, _, _, _ | .fs _, _, h, _, _, _, _ => by simp [ckns] at h
mutual
theorem sng {xw : XW} : ∀ (w : E) {X : Cx} {G : Sig} {Φ : Fns} (C : Ctx X G Φ xw) {f : Fnb} (hf : ∀ x, f x = true → X.fn x = true) {e : Expr} (h : ckn X.N w f X.env.scope e = true), PG X e (LG X xw Φ w)
  | .v i, X, G, Φ, C, f, hf, e, h => by
    unfold ckn at h
    split at h
    · simp only [Bool.and_eq_true, decide_eq_true_eq] at h
      obtain ⟨l1, l2⟩ := locB_ok hf h.2
      exact g_name C.nd h.1 l1 l2
    · cases h
  | .tup a, X, G, Φ, C, f, hf, e, h => by
    unfold ckn at h
    split at h
    · simp only [Bool.and_eq_true, decide_eq_true_eq] at h
      exact g_tup C.calm h.1.1 (fun ws η S q => asgs_len a h.2 ws η S q) (sngs a C hf h.2)
    · cases h
  | .kN, _, _, _, _, _, _, _, h | .kB _, _, _, _, _, _, _, _, h | .kI _, _, _, _, _, _, _, _, h | .kS _, _, _, _, _, _, _, _, h | .glob _ _, _, _, _, _, _, _, _, h | .nil, _, _, _, _, _, _, _, h | .cons _ _, _, _, _, _, _, _, _, h | .lst _, _, _, _, _, _, _, _, h | .dct _, _, _, _, _, _, _, _, h
  | .bin _ _ _, _, _, _, _, _, _, _, h | .neg _, _, _, _, _, _, _, _, h | .not _, _, _, _, _, _, _, _, h | .boo _ _, _, _, _, _, _, _, _, h | .cmp _ _ _, _, _, _, _, _, _, _, h | .chain _ _ _ _ _, _, _, _, _, _, _, _, h | .ite _ _ _, _, _, _, _, _, _, _, h | .ix _ _, _, _, _, _, _, _, _, h | .sl _ _ _, _, _, _, _, _, _, _, h
  | .rev _, _, _, _, _, _, _, _, h | .noE, _, _, _, _, _, _, _, h | .call _ _, _, _, _, _, _, _, _, h | .bif _ _, _, _, _, _, _, _, _, h | .isi _ _, _, _, _, _, _, _, _, h | .isx _ _ _, _, _, _, _, _, _, _, h | .fld _ _ _, _, _, _, _, _, _, _, h | .new0 _, _, _, _, _, _, _, _, h | .new1 _ _ _, _, _, _, _, _, _, _, h | .mth _ _ _, _, _, _, _, _, _, _, h | .lc _ _ _ _ _ _, _, _, _, _, _, _, _, h | .fs _, _, _, _, _, _, _, _, h => by simp [ckn] at h
theorem sngs {xw : XW} : ∀ (w : E) {X : Cx} {G : Sig} {Φ : Fns} (C : Ctx X G Φ xw) {f : Fnb} (hf : ∀ x, f x = true → X.fn x = true) {l : List Expr} (h : ckns X.N w f X.env.scope l = true), PGs X l (LGs X xw Φ w)
  | .nil, X, G, Φ, C, f, hf, l, h => by
    unfold ckns at h
    cases l with
    | nil => exact gs_nil
    | cons _ _ => cases h
  | .cons a r, X, G, Φ, C, f, hf, l, h => by
    unfold ckns at h
    cases l with
    | nil => cases h
    | cons e es =>
      simp only [Bool.and_eq_true] at h
      exact gs_cons h.1.1 (sng a C hf h.1.2) (sngs r C hf h.2)
  | .v _, _, _, _, _, _, _, _, h | .tup _, _, _, _, _, _, _, _, h | .kN, _, _, _, _, _, _, _, h | .kB _, _, _, _, _, _, _, _, h | .kI _, _, _, _, _, _, _, _, h | .kS _, _, _, _, _, _, _, _, h | .glob _ _, _, _, _, _, _, _, _, h | .lst _, _, _, _, _, _, _, _, h | .dct _, _, _, _, _, _, _, _, h
  | .bin _ _ _, _, _, _, _, _, _, _, h | .neg _, _, _, _, _, _, _, _, h | .not _, _, _, _, _, _, _, _, h | .boo _ _, _, _, _, _, _, _, _, h | .cmp _ _ _, _, _, _, _, _, _, _, h | .chain _ _ _ _ _, _, _, _, _, _, _, _, h | .ite _ _ _, _, _, _, _, _, _, _, h | .ix _ _, _, _, _, _, _, _, _, h | .sl _ _ _, _, _, _, _, _, _, _, h
  | .rev _, _, _, _, _, _, _, _, h | .noE, _, _, _, _, _, _, _, h | .call _ _, _, _, _, _, _, _, _, h | .bif _ _, _, _, _, _, _, _, _, h | .isi _ _, _, _, _, _, _, _, _, h | .isx _ _ _, _, _, _, _, _, _, _, h | .fld _ _ _, _, _, _, _, _, _, _, h | .new0 _, _, _, _, _, _, _, _, h | .new1 _ _ _, _, _, _, _, _, _, _, h | .mth _ _ _, _, _, _, _, _, _, _, h | .lc _ _ _ _ _ _, _, _, _, _, _, _, _, h | .fs _, _, _, _, _, _, _, _, h => by simp [ckns] at h
end
theorem sngt {X : Cx} {xw : XW} {G : Sig} {Φ : Fns} (C : Ctx X G Φ xw) {f : Fnb} (hf : ∀ x, f x = true → X.fn x = true) {w : E} {e : Expr} (h : ckt X.N G f X.env.scope w e = true) : PG X e (LG X xw Φ w) := by
  unfold ckt at h
  split at h
  · split at h
    · simp only [Bool.and_eq_true] at h
      exact g_ix C.un h.1.1 (snd _ C hf h.1.2) (snd _ C hf h.2)
    · cases h
  · exact sng _ C hf h
/-! ### assignments -/
theorem swapNo_ok {X : Cx} {t x : Expr} {l : Nat} (hk : X.env.scope.kind = .function) (h : swapNo X.env.scope t x = true) : swapsWithSole [t] x l X.env = pure false ∧ swappedStores [t] x X.env = pure none := by
  unfold swapNo at h
  split at h
  · rename_i elt gs scope pos
    refine ⟨?_, sw_none2 fun _ _ _ z => by cases z⟩
    split at h
    · rename_i y py
      rw [Bool.not_eq_true'] at h
      have q := swaps_lc (elt := elt) (gs := gs) (scope := scope) (pos := pos) (py := py) (y := y) (l := l) hk
      unfold lcSwaps at h
      rw [h] at q
      exact q
    · rfl
    · cases h
  · rename_i vs k p
    refine ⟨rfl, ?_⟩
    split at h
    · exact sw_tt hk h
    · cases h
    · rename_i z1 z2
      exact sw_none (fun ts k p z => z1 ts k p z) fun ts p z => z2 ts p z
  · rename_i z1 z2
    exact ⟨swaps_no h, sw_none2 fun ts k p z => z2 ts k p z⟩
theorem swNames2 {sc : Scope} {a b : Str} {pa pb : Pos} (h : (swNames sc [.Name a pa, .Name b pb]).length = 2) : sc.names.lookup a = some .local ∧ sc.names.lookup b = some .local ∧ swNames sc [.Name a pa, .Name b pb] = [a, b] := by
  unfold swNames at h ⊢
  simp only [List.filterMap_cons, List.filterMap_nil] at h ⊢
  by_cases h1 : (sc.names.lookup a == some .local && pa.line == (([Expr.Name a pa, Expr.Name b pb] : List Expr).head?.map (·.pos.line)).getD 0) = true
  · by_cases h2 : (sc.names.lookup b == some .local && pb.line == (([Expr.Name a pa, Expr.Name b pb] : List Expr).head?.map (·.pos.line)).getD 0) = true
    · rw [if_pos h1, if_pos h2]
      rw [Bool.and_eq_true, beq_iff_eq] at h1 h2
      exact ⟨h1.1, h2.1, rfl⟩
    · rw [if_pos h1, if_neg h2] at h
      simp at h
  · rw [if_neg h1] at h
    by_cases h2 : (sc.names.lookup b == some .local && pb.line == (([Expr.Name a pa, Expr.Name b pb] : List Expr).head?.map (·.pos.line)).getD 0) = true
    · rw [if_pos h2] at h; simp at h
    · rw [if_neg h2] at h; simp at h
theorem swNames3 {sc : Scope} {a b c : Str} {pa pb pc : Pos} (h : (swNames sc [.Name a pa, .Name b pb, .Name c pc]).length = 3) : sc.names.lookup a = some .local ∧ sc.names.lookup b = some .local ∧ sc.names.lookup c = some .local ∧ swNames sc [.Name a pa, .Name b pb, .Name c pc] = [a, b, c] := by
  unfold swNames at h ⊢
  simp only [List.filterMap_cons, List.filterMap_nil] at h ⊢
  by_cases h1 : (sc.names.lookup a == some .local && pa.line == (([Expr.Name a pa, Expr.Name b pb, Expr.Name c pc] : List Expr).head?.map (·.pos.line)).getD 0) = true
  · by_cases h2 : (sc.names.lookup b == some .local && pb.line == (([Expr.Name a pa, Expr.Name b pb, Expr.Name c pc] : List Expr).head?.map (·.pos.line)).getD 0) = true
    · by_cases h3 : (sc.names.lookup c == some .local && pc.line == (([Expr.Name a pa, Expr.Name b pb, Expr.Name c pc] : List Expr).head?.map (·.pos.line)).getD 0) = true
      · rw [if_pos h1, if_pos h2, if_pos h3]
        rw [Bool.and_eq_true, beq_iff_eq] at h1 h2 h3
        exact ⟨h1.1, h2.1, h3.1, rfl⟩
      · rw [if_pos h1, if_pos h2, if_neg h3] at h
        simp at h
    · rw [if_pos h1, if_neg h2] at h
      by_cases h3 : (sc.names.lookup c == some .local && pc.line == (([Expr.Name a pa, Expr.Name b pb, Expr.Name c pc] : List Expr).head?.map (·.pos.line)).getD 0) = true
      · rw [if_pos h3] at h; simp at h
      · rw [if_neg h3] at h; simp at h
  · rw [if_neg h1] at h
    by_cases h2 : (sc.names.lookup b == some .local && pb.line == (([Expr.Name a pa, Expr.Name b pb, Expr.Name c pc] : List Expr).head?.map (·.pos.line)).getD 0) = true
    · rw [if_pos h2] at h
      by_cases h3 : (sc.names.lookup c == some .local && pc.line == (([Expr.Name a pa, Expr.Name b pb, Expr.Name c pc] : List Expr).head?.map (·.pos.line)).getD 0) = true
      · rw [if_pos h3] at h; simp at h
      · rw [if_neg h3] at h; simp at h
    · rw [if_neg h2] at h
      by_cases h3 : (sc.names.lookup c == some .local && pc.line == (([Expr.Name a pa, Expr.Name b pb, Expr.Name c pc] : List Expr).head?.map (·.pos.line)).getD 0) = true
      · rw [if_pos h3] at h; simp at h
      · rw [if_neg h3] at h; simp at h
theorem len2 {α : Type} {l : List α} (h : l.length = 2) : ∃ a b, l = [a, b] := by
  match l, h with
  | [a, b], _ => exact ⟨a, b, rfl⟩
theorem len3 {α : Type} {l : List α} (h : l.length = 3) : ∃ a b c, l = [a, b, c] := by
  match l, h with
  | [a, b, c], _ => exact ⟨a, b, c, rfl⟩
theorem par_ok {X : Cx} {xw : XW} {G : Sig} {Φ : Fns} (C : Ctx X G Φ xw) {f : Fnb} (hf : ∀ x, f x = true → X.fn x = true) {tg a : E} {t x : Expr} {pos : Pos} (ht : ckt X.N G f X.env.scope tg t = true) (ha : ck X.N G a f X.env.scope x = true) (h : parB X.env.scope tg a t x = true) :
    PS X (.Assign [t] x pos) (LS X xw (exec Φ (.asg tg a))) := by
  unfold parB at h
  rw [Bool.and_eq_true] at h
  obtain ⟨h0, h⟩ := h
  obtain ⟨es, rfl⟩ : ∃ es, a = .tup es := by
    cases a <;> first
      | exact ⟨_, rfl⟩
      | cases h0
  split at h
  · rename_i na pa nb pb kt pt vs k2 p2
    split at h
    · rename_i i j
      simp only [Bool.and_eq_true, decide_eq_true_eq] at h
      obtain ⟨⟨h1, h2⟩, h3⟩ := h
      obtain ⟨e1, e2, rfl⟩ := len2 h3
      have h1' := h1
      unfold swY at h1'
      simp only [Bool.and_eq_true, beq_iff_eq] at h1'
      obtain ⟨l1, l2, l3⟩ := swNames2 h1'.1.1.1.2
      have hw := sw_yes (k := kt) (k2 := k2) (p := pt) (p2 := p2) C.kind h1
      rw [l3] at hw
      simp only [ck] at ha
      simp only [ckt, ckn, ckns, Bool.and_eq_true, decide_eq_true_eq] at ht
      exact t_par C.calm C.nd ht.2.1.2.1 ht.2.2.1.2.1 h2 l1 l2 (snds _ C hf ha) hw
    · cases h
  · rename_i na pa nb pb nc pc kt pt vs k2 p2
    split at h
    · rename_i i j l
      simp only [Bool.and_eq_true, decide_eq_true_eq] at h
      obtain ⟨⟨⟨⟨h1, h2⟩, h2'⟩, h2''⟩, h3⟩ := h
      obtain ⟨e1, e2, e3, rfl⟩ := len3 h3
      have h1' := h1
      unfold swY at h1'
      simp only [Bool.and_eq_true, beq_iff_eq] at h1'
      obtain ⟨l1, l2, l4, l3⟩ := swNames3 h1'.1.1.1.2
      have hw := sw_yes (k := kt) (k2 := k2) (p := pt) (p2 := p2) C.kind h1
      rw [l3] at hw
      simp only [ck] at ha
      simp only [ckt, ckn, ckns, Bool.and_eq_true, decide_eq_true_eq] at ht
      exact t_par3 C.calm C.nd ht.2.1.2.1 ht.2.2.1.2.1 ht.2.2.2.1.2.1 h2 h2' h2'' l1 l2 l4 (snds _ C hf ha) hw
    · cases h
  · cases h
theorem kind_local {X : Cx} {G : Sig} {Φ : Fns} {xw : XW} (C : Ctx X G Φ xw) {n : Str} (h : X.env.scope.names.lookup n = some .local) : X.env.kindOf n = some .local := h
/-! ### statements -/
mutual
theorem st1 : ∀ (w : T) {xw : XW} {X : Cx} {G : Sig} {Φ : Fns} (P : Top X) (C : Ctx X G Φ xw) {f : Fnb} (hf : ∀ x, f x = true → X.fn x = true) {st : Stmt} (h : ck1 X.N G w f X.env.scope st = true), PS X st (LS X xw (exec Φ w))
  | .pass, xw, X, G, Φ, P, C, f, hf, st, h => by
    unfold ck1 at h
    split at h
    · exact t_pass
    · exact t_doc
    · cases h
  | .brk, xw, X, G, Φ, P, C, f, hf, st, h => by
    unfold ck1 at h
    split at h
    · exact t_brk
    · cases h
  | .cnt, xw, X, G, Φ, P, C, f, hf, st, h => by
    unfold ck1 at h
    split at h
    · exact t_cnt
    · cases h
  | .ret a, xw, X, G, Φ, P, C, f, hf, st, h => by
    unfold ck1 at h
    split at h
    · exact t_ret (snd a C hf h)
    · cases h
  | .retN, xw, X, G, Φ, P, C, f, hf, st, h => by
    unfold ck1 at h
    split at h
    · exact t_retN
    · cases h
  | .ite c a b, xw, X, G, Φ, P, C, f, hf, st, h => by
    unfold ck1 at h
    split at h
    · simp only [Bool.and_eq_true] at h
      exact t_if (snd c C hf h.1.1) (stS a P C hf h.1.2) (stS b P C hf h.2)
    · cases h
  | .ex a, xw, X, G, Φ, P, C, f, hf, st, h => by
    unfold ck1 at h
    split at h
    · simp only [Bool.and_eq_true] at h
      exact t_ex h.1 (snd a C hf h.2)
    · cases h
  | .asg tg a, xw, X, G, Φ, P, C, f, hf, st, h => by
    unfold ck1 at h
    split at h
    · rename_i t x pos
      simp only [Bool.and_eq_true, Bool.or_eq_true] at h
      obtain ⟨⟨⟨h1, h2⟩, h3⟩, h4⟩ := h
      rcases h4 with (h4 | h4) | h4
      · obtain ⟨s1, s2⟩ := swapNo_ok (l := pos.line) C.kind h4
        exact t_asg (snd a C hf h3) (sngt C hf h2) s1 s2 h1
      · exact par_ok C hf h2 h3 h4
      · split at h4
        · rename_i y py elt gs scope lpos
          have h4' := h4
          unfold lcSwaps at h4'
          simp only [Bool.and_eq_true, beq_iff_eq, Bool.not_eq_true'] at h4'
          have hsw := swaps_lc (elt := elt) (gs := gs) (scope := scope) (pos := lpos) (py := py) (y := y) (l := pos.line) C.kind
          unfold lcSwaps at h4
          rw [h4] at hsw
          cases a with
          | lc a tg' k it c own =>
            unfold ck at h3
            split at h3
            · rename_i x t i ifs scope' pos' heq
              cases heq
              simp only [Bool.and_eq_true] at h3
              obtain ⟨⟨⟨⟨⟨⟨g1, g2⟩, g3⟩, g4⟩, g5⟩, g6⟩, g7⟩ := h3
              have ok := blkOk_by g1
              obtain ⟨j, rfl, hj⟩ : ∃ j, tg = .v j ∧ X.N[j]? = some y := by
                unfold ckt at h2
                split at h2
                · cases h2
                · cases tg <;> first
                    | (simp only [ckn, Bool.and_eq_true, decide_eq_true_eq] at h2; exact ⟨_, rfl, h2.1⟩)
                    | (simp [ckn] at h2; done)
              refine t_setLc C.calm C.nd hj h4'.1.1 hsw (sndi it (tgE := t) C hf g3 g4) ok (fun s H L cl fp => snw tg' (C.blk ok.kind s H L cl fp) (fun _ z => z) g5) (fun s H L cl fp => ?_) (fun s H L cl fp => (snd a (C.blk ok.kind s H L cl fp) (fun _ z => z) g7).pe) g2
              split at g6
              · have : c = .noE := by
                  cases c <;> first
                    | rfl
                    | cases g6
                subst this
                exact c_nil
              · simp only [Bool.and_eq_true, Bool.not_eq_true'] at g6
                exact c_one g6.1 (snd c (C.blk ok.kind s H L cl fp) (fun _ z => z) g6.2)
              · cases g6
            · cases h3
          | _ => simp [ck] at h3
        · cases h4
    · cases h
  | .aug i o a, xw, X, G, Φ, P, C, f, hf, st, h => by
    unfold ck1 at h
    split at h
    · simp only [Bool.and_eq_true, decide_eq_true_eq] at h
      obtain ⟨⟨⟨h1, h2⟩, h3⟩, h4⟩ := h
      obtain ⟨l1, l2⟩ := locB_ok hf h2
      rw [bopB_ok h3]
      exact t_aug C.nd h1 l1 l2 (snd a C hf h4)
    · cases h
  | .for_ tg k it b, xw, X, G, Φ, P, C, f, hf, st, h => by
    unfold ck1 at h
    split at h
    · simp only [Bool.and_eq_true] at h
      obtain ⟨⟨⟨⟨h1, h2⟩, h3⟩, h4⟩, h5⟩ := h
      exact t_for C.pass C.calm (sndi it C hf h2 h4) (sng tg C hf h1) (stS b P C hf h5) h3
    · cases h
  | .whl c b, xw, X, G, Φ, P, C, f, hf, st, h => by
    unfold ck1 at h
    split at h
    · simp only [Bool.and_eq_true] at h
      exact t_whl C.pass (snd c C hf h.1) (stS b P C hf h.2)
    · cases h
  | .raise _ _ _, xw, X, G, Φ, P, C, f, hf, st, h => t_raise
  | .rse c fn es, xw, X, G, Φ, P, C, f, hf, st, h => by
    unfold ck1 at h
    split at h
    · simp only [Bool.and_eq_true, decide_eq_true_eq] at h
      obtain ⟨⟨⟨⟨h1, h2⟩, h3⟩, h4⟩, h5⟩ := h
      subst h1
      have e4 : fn = [] := by simpa using h4
      have e5 : es = .nil := by cases es <;> first | rfl | cases h5
      subst e4 e5
      exact t_rse0 C h2 (glB_ok h3)
    · cases h
  | .tryx s x all below i j, xw, X, G, Φ, P, C, f, hf, st, h => by
    unfold ck1 at h
    split at h
    · simp only [Bool.and_eq_true, decide_eq_true_eq] at h
      obtain ⟨⟨⟨⟨⟨⟨⟨⟨⟨⟨⟨h1, h2⟩, h3⟩, h4⟩, h5⟩, h6⟩, h7⟩, h8⟩, h9⟩, h10⟩, h11⟩, h12⟩ := h
      subst h1 h2 h5
      exact t_try C P h4 (glB_ok h3) h6 h7 h8 (kind_local C h9) (kind_local C h10) (nmB_ok h11) fun xw' pn xe C' => stS s P.tr C' hf h12
    · cases h
  | .nil, xw, X, G, Φ, P, C, f, hf, st, h => by simp [ck1] at h
  | .seq _ _, xw, X, G, Φ, P, C, f, hf, st, h => by simp [ck1] at h
theorem stS : ∀ (w : T) {xw : XW} {X : Cx} {G : Sig} {Φ : Fns} (P : Top X) (C : Ctx X G Φ xw) {f : Fnb} (hf : ∀ x, f x = true → X.fn x = true) {l : List Stmt} (h : ckS X.N G w f X.env.scope l = true), PSs X l (LS X xw (exec Φ w))
  | .nil, xw, X, G, Φ, P, C, f, hf, l, h => by
    unfold ckS at h
    cases l with
    | nil => exact t_nil
    | cons _ _ => cases h
  | .seq a b, xw, X, G, Φ, P, C, f, hf, l, h => by
    unfold ckS at h
    cases l with
    | nil => cases h
    | cons st rest =>
      simp only [Bool.and_eq_true] at h
      exact t_seq (st1 a P C hf h.1) (stS b P C hf h.2)
  | .pass, xw, X, G, Φ, P, C, f, hf, l, h => by simp [ckS] at h
  | .brk, xw, X, G, Φ, P, C, f, hf, l, h => by simp [ckS] at h
  | .cnt, xw, X, G, Φ, P, C, f, hf, l, h => by simp [ckS] at h
  | .ret _, xw, X, G, Φ, P, C, f, hf, l, h => by simp [ckS] at h
  | .retN, xw, X, G, Φ, P, C, f, hf, l, h => by simp [ckS] at h
  | .ite _ _ _, xw, X, G, Φ, P, C, f, hf, l, h => by simp [ckS] at h
  | .ex _, xw, X, G, Φ, P, C, f, hf, l, h => by simp [ckS] at h
  | .asg _ _, xw, X, G, Φ, P, C, f, hf, l, h => by simp [ckS] at h
  | .aug _ _ _, xw, X, G, Φ, P, C, f, hf, l, h => by simp [ckS] at h
  | .for_ _ _ _ _, xw, X, G, Φ, P, C, f, hf, l, h => by simp [ckS] at h
  | .whl _ _, xw, X, G, Φ, P, C, f, hf, l, h => by simp [ckS] at h
  | .raise _ _ _, xw, X, G, Φ, P, C, f, hf, l, h => by simp [ckS] at h
  | .rse _ _ _, xw, X, G, Φ, P, C, f, hf, l, h => by simp [ckS] at h
  | .tryx _ _ _ _ _ _, xw, X, G, Φ, P, C, f, hf, l, h => by simp [ckS] at h
end
end PI

set_option Elab.async false
set_option linter.all false
set_option maxRecDepth 100000
set_option maxHeartbeats 4000000
/-! the text's defs; the law -/
namespace PI
open PySem PySem.Spec PyProof.Rows L2
/-- a def of the text is what the evaluator's says -/
structure DefOk (K : PySem.W.Frag) (mg : Str → Option Value) (G : Sig) (f : Str) (d : Def) (a : Addr) (fd : FuncData) : Prop where
  ex : ∃ (params : Arguments) (body : List Stmt) (scope : Scope), FunD K f f params body scope [] [] a fd ∧ C8.scC d.names d.params scope = true ∧ ckS d.names G d.body (fun _ => true) scope body = true
  mgf : mg f = some (.ref a)
  bnd : Binds K fd d.params []
theorem renv_start {K : KM} {ρ : List Addr} {H : Hp} {ws : List W} {vs : List V} (d : Def) (r : RWs K ρ H ws vs) : REnv K ρ H (startW d ws) (L2.start d.names vs) := by
  unfold startW L2.start
  refine ⟨by simp [r.length], fun i x h => ?_⟩
  by_cases hi : i < ws.length
  · rw [List.getElem?_append_left (by simpa using hi), List.getElem?_map] at h
    obtain ⟨u, hu, e⟩ := Option.map_eq_some_iff.mp h
    cases e
    obtain ⟨v, hv, rv⟩ := r.get hu
    refine ⟨v, ?_, rv⟩
    rw [List.getElem?_append_left (by rw [List.length_map, ← r.length]; exact hi), List.getElem?_map, hv]
    rfl
  · rw [List.getElem?_append_right (by simpa using hi), List.getElem?_replicate] at h
    split at h <;> cases h
section
variable {P : Program} {w : World} {K : PySem.W.Frag} {mg : Str → Option Value} {base : Heap}
theorem callN_ok {G : Sig} {Γ : List (Str × Def)} (hd : ∀ f d, Γ.lookup f = some d → ∃ a fd, DefOk K mg G f d a fd) (hG : ∀ f n, (f, n) ∈ G.fns → ∃ d, Γ.lookup f = some d ∧ d.params.length = n) (hb : ∀ x ∈ G.blt, mg x = none)
    (hc : ∀ x e, (x, e) ∈ G.cs → ∃ v u, CV e = some v ∧ mg x = some u ∧ RelV v u) (hxs : ∀ p ∈ G.sub, subB K mg G.all p.1 p.2 = true) (hxr : ∀ c ∈ G.raw, rawC K mg c = true) (hxf : ∀ p ∈ G.fld, FldOk P w K mg base p.1 p.2) : ∀ (n : Nat) (f : Str) (d : Def) (a : Addr) (fd : FuncData), Γ.lookup f = some d → DefOk K mg G f d a fd → FnG P w K mg base (CX P w) (n + 3) a fd d.params (spW P w K mg (callN Γ n) f d.params.length) := by
  intro n
  induction n with
  | zero =>
    intro f d a fd hl D
    obtain ⟨⟨params, body, scope, F, hs, hk⟩, hm, hbn⟩ := D
    refine ⟨fun vs H Q E h => h.1, fun A outer s H args us vs Q E hgd hr e0 hb r hsp => ?_⟩
    obtain ⟨_, ρ, S, ws, rws, R, h⟩ := hsp
    obtain ⟨oc, od, dV, kV, doc, pm, an, cdv, ct, osl, rfl, lk, hcd, _, _⟩ := F.ex
    exact (h (cxOf (CX P w) P w K mg base [] f scope a cdv A outer s H E) rfl rfl rfl rfl).elim
  | succ n ih =>
    intro f d a fd hl D
    obtain ⟨⟨params, body, scope, F, hs, hk⟩, hm, hbn⟩ := D
    obtain ⟨oc, od, dV, kV, doc, pm, an, cdv, ct, osl, rfl, lk, hcd, _, _⟩ := F.ex
    have FS : FnScope d.names d.params scope := C8.fnScope_by hs
    refine fn_ofG lk hcd FS (fun vs H Q E h => h.1) fun A outer s H vs Q E hgd hr hsp => ?_
    obtain ⟨_, ρ, S, ws, rws, R, h⟩ := hsp
    have C : Ctx (cxOf (CX P w) P w K mg base d.names f scope a cdv A outer s H E) G (callN Γ n) E := by
      refine ⟨rfl, FS.nd, hgd, hr.units, FS.kind, passes_of rfl, hb, hc, fun g m hg => ?_, takes_of rfl rfl rfl rfl, hxs, hxr, hr.mono (by omega), hxf⟩
      obtain ⟨d', hl', hn'⟩ := hG g m hg
      obtain ⟨a', fd', D'⟩ := hd g d' hl'
      obtain ⟨⟨params', body', scope', F', _, _⟩, hm', hbn'⟩ := id D'
      subst hn'
      exact ⟨n + 3, a', fd', d'.params, hr, hm', F'.kp, hbn', ih g d' a' fd' hl' D'⟩
    refine ⟨_, stS d.body ⟨rfl, rfl, rfl⟩ C (fun _ _ => rfl) hk, ρ, S, startW d ws, renv_start d rws, R, ?_⟩
    have h := h (cxOf (CX P w) P w K mg base d.names f scope a cdv A outer s H E) rfl rfl rfl rfl
    have e1 : callN Γ (n + 1) f ws S = runDef (callN Γ n) d ws S := by
      show (match Γ.lookup f with
        | some d => runDef (callN Γ n) d ws S
        | none => .bad) = _
      rw [hl]
    rw [e1] at h
    unfold runDef at h
    split at h
    · cases r : exec (callN Γ n) d.body (startW d ws) S with
      | nx η S' => rw [r] at h; exact fun ρ' H' σ' L R' _ => h ρ' H' L R' _ .non
      | rt u S' => rw [r] at h; exact fun ρ' H' v L R' rv => h ρ' H' L R' v rv
      | bk η S' => rw [r] at h; exact h.elim
      | ct η S' => rw [r] at h; exact h.elim
      | exc c fs η S' => rw [r] at h; exact h
      | bad => rw [r] at h; exact h.elim
    · exact h.elim
end
/-! ### from the heap behind the top into the layer -/
section
variable {P : Program} {w : World} {K : PySem.W.Frag} {mg mb : Str → Option Value} {s1 : Shared} {a : Addr} {vs : List Value} {ns : List Int} {H : Hp}
/-- a heap of the layer in which at most the script is told -/
structure AtTop (P : Program) (w : World) (K : PySem.W.Frag) (s1 : Shared) (a : Addr) (ns : List Int) (H : Hp) : Prop where
  only : Only H
  scr : SqL K H a (ns.map V.int)
  hok : HOk P w H s1.heap
  one : ∀ b, H b ≠ none → b = a ∧ K.lookup a = none
theorem at_top (KX : K.In s1.heap) (ha : s1.heap.get? a = some { cls := .type "list", data := .seq vs.toArray }) (hi : IntsAre vs ns) (hl : ns.length ≤ sizeLine) : ∃ H, AtTop P w K s1 a ns H := by
  have rv := vals_ints hi
  have len : vs.toArray.size ≤ sizeLine := by rw [List.size_toArray, hi.length]; exact hl
  cases hk : K.lookup a with
  | some o =>
    have e := KX a o hk
    rw [ha] at e
    cases e
    exact ⟨fun _ => none, fun _ => .inl rfl, .inr ⟨_, vs.toArray, _, hk, rfl, rfl, rfl, len, by simpa using rv⟩, (fun _ _ z => by cases z), fun _ z => absurd rfl z⟩
  | none =>
    refine ⟨upd (fun _ => none) a (.frz { cls := .type "list", data := .seq vs.toArray } (.lst (ns.map V.int))), fun b => ?_, .inl (.inr ⟨_, upd_same⟩), fun b u z => ?_, fun b z => ?_⟩
    · by_cases hb : b = a
      · subst hb; exact .inr ⟨_, _, upd_same⟩
      · exact .inl (upd_ne hb)
    · by_cases hb : b = a
      · subst hb
        rw [upd_same] at z
        cases z
        exact ⟨ha, by rw [List.length_map]; exact hl, vs, _, rv, ha⟩
      · rw [upd_ne hb] at z; cases z
    · by_cases hb : b = a
      · exact ⟨hb, hk⟩
      · exact absurd (upd_ne hb) z
theorem AtTop.mod (T : AtTop P w K s1 a ns H) (KX : K.In s1.heap) (hns : s1.heap.Ns mainGlobals mg) (hb : s1.heap.Ns builtinsNs mb) (hbb : ∀ x : Str, x ≠ "__name__" → mb x = bootBuiltins x) (hlim : s1.heap.NoLimit)
    (ha : s1.heap.get? a = some { cls := .type "list", data := .seq vs.toArray }) : Mod K mg (hidT s1.heap H) := by
  have dicts : ∀ {b : Addr} {o : Obj} {es : Array DictEntry} {ep : Nat}, s1.heap.get? b = some o → o.data = .dict es ep → (hidT s1.heap H).get? b = some o := fun {b o es ep} e d => by
    refine hidT_get e ?_
    by_cases z : H b = none
    · exact z
    · have := (T.one b z).1
      subst this
      rw [ha] at e
      cases e
      cases d
  have names : ∀ {b : Addr} {m : Str → Option Value}, s1.heap.Ns b m → (hidT s1.heap H).Ns b m := fun {b m} ⟨o, es, ep, e, d, r⟩ => ⟨o, es, ep, dicts e d, d, r⟩
  refine ⟨fun b o e => hidT_get (KX b o e) ?_, names hns, ⟨mb, names hb, hbb⟩, let ⟨mc, h1, h2⟩ := hlim; ⟨mc, names h1, h2⟩⟩
  by_cases z : H b = none
  · exact z
  · obtain ⟨z1, z2⟩ := T.one b z
    subst z1
    rw [z2] at e
    cases e
theorem noCX {outer : List PySem.Env} {s s' : Shared} {u : Value} {H : Hp} (h : CX P w outer H s (fun _ _ _ => False) u s') : False := by
  unfold CX at h
  obtain ⟨_, _, _, _, _, _, _, _, _, _, _, _, z⟩ := h
  exact z
/-- the law's def is called: its promise is kept -/
theorem law_callG {k : Nat} {fa : Addr} {fd : FuncData} {x : Str} {sp : Sp} (KX : K.In s1.heap) (hns : s1.heap.Ns mainGlobals mg) (hb : s1.heap.Ns builtinsNs mb) (hbb : ∀ x : Str, x ≠ "__name__" → mb x = bootBuiltins x) (hlim : s1.heap.NoLimit) (hg : s1.gens = #[])
    (ha : s1.heap.get? a = some { cls := .type "list", data := .seq vs.toArray }) (hi : IntsAre vs ns) (hl : ns.length ≤ sizeLine) (hr : Room k callerA)
    (F : ∀ base : Heap, K.In base → base.Ns mainGlobals mg → FnG P w K mg base (CX P w) k fa fd [x] sp) (hbind : ∀ (s : Shared) (u : Value), BindsTo s fd ⟨[u], []⟩ [(x, u)])
    (hsp : ∀ H : Hp, Only H → SqL K H a (ns.map V.int) → sp [.ref a] H (fun v _ => v = .bl true) fun _ _ _ => False) :
    codeAny (model P w) callerA (.call (.ref fa) ⟨[.ref a], []⟩) (fun r s' => r = .ok (.ret (.bool true)) ∧ OldK s1.heap s'.heap ∧ s'.os = s1.os ∧ AllBare s'.gens) s1 := by
  obtain ⟨H, T⟩ := at_top (P := P) (w := w) KX ha hi hl
  have M := T.mod KX hns hb hbb hlim ha
  have e0 : Env0 P w K mg (hidT s1.heap H) callerA [] s1 H := ⟨rfl, M, fun b o e => of_hidT e, Nat.le_of_eq (hidT_size _ _), trivial, (fun b hb => by cases hb), T.hok, .of_eq hg⟩
  refine codeAny_mono ((F _ M.kin M.glob).run callerA [] s1 H ⟨[.ref a], []⟩ [.ref a] [.ref a] _ _ rfl hr e0 (hbind s1 (.ref a)) (.cons rfl .nil) (hsp H T.only T.scr)) fun r s' h => ?_
  cases r with
  | error e => exact (noCX h).elim
  | ok fl =>
    cases fl with
    | ret u =>
      obtain ⟨v, H', os, bare, un, hok', rv, q⟩ := h
      cases (show v = .bl true from q)
      cases (show u = Value.bool true from rv)
      refine ⟨rfl, OldK.of_keep fun b o e => ?_, os, bare⟩
      by_cases z : H b = none
      · exact un.keep b o e z (fun z => by cases z) (fun z => by cases z)
      · rcases T.only b with z2 | ⟨ob, xs, z2⟩
        · exact absurd z2 z
        · have e1 := (T.hok b _ z2).1
          have e2 := (hok' b _ (un.frzs b ob _ z2)).1
          rw [e] at e1
          cases e1
          exact e2
    | next => exact False.elim h
    | brk => exact False.elim h
    | cont => exact False.elim h
end
/-- the row's call, by the promise of the law's def -/
theorem walk_ofG {l : PySem.W.OpenLaw} {n k : Nat} {q : Program} {loose : List Str} {XP : (Str → Option Value) → Heap → Prop} {YP : World → Heap → Prop} {d : DefRec} {x : Str}
    (hn : l.most = some n) (hn2 : n ≤ sizeLine) (hdf : d.params.defaults = []) (hr : Room k callerA)
    (F : ∀ (w : World) (mg : Str → Option Value) (fa : Addr) (h : Heap), YP w h → h.Ns mainGlobals mg → mg d.name = some (.ref fa) →
      ∃ (K : PySem.W.Frag) (fd : FuncData) (sp : Sp), K.In h ∧ (∀ (s : Shared) (u : Value), BindsTo s fd ⟨[u], []⟩ [(x, u)]) ∧
        (∀ (H : Hp) (a : Addr) (ns : List Int), ns.length ≤ n → Only H → SqL K H a (ns.map V.int) → sp [.ref a] H (fun v _ => v = .bl true) fun _ _ _ => False) ∧
        ∀ base : Heap, K.In base → base.Ns mainGlobals mg → FnG l.prog w K mg base (CX l.prog w) k fa fd [x] sp) :
    PySem.W.WalkO q loose XP YP l.row.toRowW d [] (fun f vs => PySem.call f vs) :=
  Att.attach_call hn hdf fun w s₀ s₁ mg mb fa o pm cd doc a vs ns G Y ho hd hcd hmg hobj hints hlen hg =>
    let ⟨_, _, _, KX, hb, hsp, hF⟩ := F w mg fa _ Y G.T.g hmg
    law_callG KX G.T.g G.T.b G.T.builtins G.T.nolimit hg hobj hints (Nat.le_trans hlen hn2) hr hF hb fun H hO hS => hsp H a ns hlen hO hS
/-- the script as the evaluator has it -/
theorem script_scr {K : KM} {H : Hp} {a : Addr} {ns : List Int} (hO : Only H) (hS : SqL K.K H a (ns.map V.int)) : RW K [] H (.scr (ns.map W.int)) (.ref a) := by
  have hints : ∀ ns : List Int, RWs K [] H (ns.map W.int) (ns.map V.int) := by
    intro ns
    induction ns with
    | nil => exact .nil
    | cons n ns ih => exact .cons (.int n) ih
  refine .scr ?_ (hints ns)
  rcases hS with (h | ⟨o, h⟩) | h
  · rcases hO a with z | ⟨_, _, z⟩
    · rw [z] at h; cases h
    · rw [z] at h; cases h
  · exact .inl ⟨o, h⟩
  · exact .inr h
/-- what is left of a law: the evaluator's answer at every script -/
theorem law_sp {P : Program} {w : World} {K : PySem.W.Frag} {mg : Str → Option Value} {Φ : Fns} {H : Hp} {a : Addr} {ns : List Int} {E : XK} (hO : Only H) (hS : SqL K H a (ns.map V.int)) (h : ∃ S', Φ "law" [.scr (ns.map W.int)] [] = .ok (.bl true) S') :
    spW P w K mg Φ "law" 1 [.ref a] H (fun v _ => v = .bl true) E := by
  obtain ⟨S', h⟩ := h
  refine ⟨rfl, [], [], [.scr (ns.map W.int)], .cons (script_scr hO hS) .nil, ⟨rfl, fun n m a h => by simp at h, fun n o a h => by simp at h⟩, fun X e1 e2 e3 e4 => ?_⟩
  rw [h]
  intro ρ' H' L R v rv
  cases rv
  rfl
end PI

set_option Elab.async false
set_option linter.all false
set_option maxRecDepth 100000
set_option maxHeartbeats 4000000
/-! what the head must tell of exception classes -/
namespace PI
open PySem PySem.Spec PyProof.Rows L2
def mgK (K : PySem.W.Frag) (x : Str) : Option Value := match PySem.W.nsIn K mainGlobals x with
  | some o => o
  | none => none
/-- a class with own __init__ -/
def fldC (K : PySem.W.Frag) (mg : Str → Option Value) (p : Str × Str) : Bool := match mg p.1 with
  | some (.ref C) => xcB K C && oexB K C (He.fAd K (p.1, some "__init__")) p.2 && (p.1 == ("__debug__" : Str)) == false
  | _ => false
def baseC (K : PySem.W.Frag) (mg : Str → Option Value) (c0 : Str) : Bool := match mg c0 with
  | some (.ref C) => initB K C
  | _ => false
def exB (c0 : Str) (G : Sig) (K : PySem.W.Frag) : Bool := ((c0 :: (G.all ++ G.sub.map (·.1) ++ G.raw ++ G.fld.map (·.1))).all fun x => (PySem.W.nsIn K mainGlobals x).isSome) && G.sub.all (fun p => subB K (mgK K) G.all p.1 p.2) && G.raw.all (rawC K (mgK K)) && G.fld.all (fldC K (mgK K)) && (G.fld.isEmpty || baseC K (mgK K) c0)
section
variable {K : PySem.W.Frag} {h : Heap} {mg : Str → Option Value}
theorem mgK_eq (X : K.In h) (GG : h.Ns mainGlobals mg) {x : Str} (e : (PySem.W.nsIn K mainGlobals x).isSome = true) : mg x = mgK K x := by
  unfold mgK
  cases q : PySem.W.nsIn K mainGlobals x with
  | none => rw [q] at e; cases e
  | some o =>
    cases o with
    | none => exact PySem.W.mg_none_of X GG q
    | some v => exact PySem.W.mg_of X GG q
theorem exB_ok {c0 : Str} {G : Sig} (X : K.In h) (GG : h.Ns mainGlobals mg) (e : exB c0 G K = true) : (∀ p ∈ G.sub, subB K mg G.all p.1 p.2 = true) ∧ (∀ c ∈ G.raw, rawC K mg c = true) ∧ (∀ p ∈ G.fld, fldC K mg p = true) ∧ (G.fld.isEmpty = false → baseC K mg c0 = true) := by
  unfold exB at e
  simp only [Bool.and_eq_true, Bool.or_eq_true] at e
  obtain ⟨⟨⟨⟨e1, e2⟩, e3⟩, e4⟩, e5⟩ := e
  have m : ∀ x ∈ c0 :: (G.all ++ G.sub.map (·.1) ++ G.raw ++ G.fld.map (·.1)), mg x = mgK K x := fun x hx => mgK_eq X GG (List.all_eq_true.mp e1 x hx)
  refine ⟨fun p hp => ?_, fun c hc => ?_, fun p hp => ?_, fun hn => ?_⟩
  · have z := List.all_eq_true.mp e2 p hp
    have md := m p.1 (by simp only [List.mem_cons, List.mem_append, List.mem_map]; exact .inr (.inl (.inl (.inr ⟨p, hp, rfl⟩))))
    have hk : ∀ dv, (G.all.all (kitB K mg dv p.2)) = G.all.all (kitB K (mgK K) dv p.2) := fun dv => by
      rw [Bool.eq_iff_iff, List.all_eq_true, List.all_eq_true]
      refine forall_congr' fun c => forall_congr' fun hc => ?_
      unfold kitB
      rw [m c (by simp only [List.mem_cons, List.mem_append]; exact .inr (.inl (.inl (.inl hc))))]
    unfold subB clsOf at z ⊢
    simp only [md, hk]
    exact z
  · have z := List.all_eq_true.mp e3 c hc
    unfold rawC at z ⊢
    rw [m c (by simp only [List.mem_cons, List.mem_append]; exact .inr (.inl (.inr hc)))]
    exact z
  · have z := List.all_eq_true.mp e4 p hp
    unfold fldC at z ⊢
    rw [m p.1 (by simp only [List.mem_cons, List.mem_append, List.mem_map]; exact .inr (.inr ⟨p, hp, rfl⟩))]
    exact z
  · have z : baseC K (mgK K) c0 = true := by
      rcases e5 with e5 | e5
      · rw [hn] at e5
        cases e5
      · exact e5
    unfold baseC at z ⊢
    rw [m c0 List.mem_cons_self]
    exact z
/-- the look at an __init__ -/
def initC (c0 f : Str) (sc : Scope) (body : List Stmt) : Bool := C8.scC ["self", f] ["self", f] sc && initL c0 f body && decide (sc.names.lookup c0 = some .globalImplicit) && decide (sc.names.lookup ("self" : Str) = some .local) && decide (sc.names.lookup f = some .local)
  && (f == ("__debug__" : Str)) == false && (f == ("__classdict__" : Str)) == false && (c0 == ("__debug__" : Str)) == false
theorem fld_ok {P : Program} {w : World} {base : Heap} {c0 c f qual : Str} {fd : FuncData} {params : Arguments} {body : List Stmt} {scope : Scope} (F : FunD K "__init__" qual params body scope [] [] (He.fAd K (c, some "__init__")) fd) (hi : initC c0 f scope body = true)
    (hb : Binds K fd ["self", f] []) (h1 : fldC K mg (c, f) = true) (h2 : baseC K mg c0 = true) : FldOk P w K mg base c f := by
  unfold initC at hi
  simp only [Bool.and_eq_true, decide_eq_true_eq, beq_iff_eq] at hi
  obtain ⟨⟨⟨⟨⟨⟨⟨i1, i2⟩, i3⟩, i4⟩, i5⟩, i6⟩, i7⟩, i8⟩ := hi
  unfold fldC at h1
  unfold baseC at h2
  split at h2
  · rename_i C0 hC0
    split at h1
    · rename_i C hC
      simp only [Bool.and_eq_true, beq_iff_eq] at h1
      exact ⟨C, _, fd, hC, h1.1.1, h1.1.2, h1.2, hb, init_fn F i1 i2 i3 i4 i5 i6 i7 i8 hC0 h2⟩
    · cases h1
  · cases h2
end
abbrev AlE : Type := He.AlD × Bool
def obsE (n : Nat) (fa : List He.Fa) (fn : List He.DefD) (ex : PySem.W.Frag → Bool) (g : Addr → Option Obj) : AlE := (He.obsD fa fn (He.frG g (cStatics :: He.asD g n)), ex (He.frG g (cStatics :: He.asD g n)))
def hookE (n : Nat) (fa : List He.Fa) (fn : List He.DefD) (ex : PySem.W.Frag → Bool) : PySem.W.Hook where
  α := AlE
  obs := fun s => obsE n fa fn ex s.heap.get?
  val := fun _ => (He.valD fn, true)
  says := fun _ h => ∃ K : PySem.W.Frag, K.In h ∧ He.SaysD fa fn K ∧ ex K = true
  of := fun _ _ e => ⟨_, He.frG_in, congrArg (fun z : AlE => z.1) e, congrArg (fun z : AlE => z.2) e⟩
  keeps := fun _ _ _ ⟨K, hK, c⟩ k => ⟨K, PySem.W.Frag.In.keeps hK k, c⟩
theorem obsE_eq {n : Nat} {fa : List He.Fa} {fn : List He.DefD} {ex : PySem.W.Frag → Bool} {g : Addr → Option Obj} {s : Shared} (h : ∀ a, g a = s.heap.get? a) : obsE n fa fn ex g = (hookE n fa fn ex).obs s := by
  have e : g = s.heap.get? := funext h
  rw [e] <;> rfl
end PI

set_option Elab.async false
set_option linter.all false
set_option maxRecDepth 100000
set_option maxHeartbeats 4000000
/-! running the evaluator: rules -/
namespace PI
open PySem L2
theorem callN_at {Γ : List (Str × Def)} {f : Str} {d : Def} (h : Γ.lookup f = some d) (n : Nat) (ws : List W) (S : Sto) : callN Γ (n + 1) f ws S = runDef (callN Γ n) d ws S := by
  show (match Γ.lookup f with
    | some d => runDef (callN Γ n) d ws S
    | none => .bad) = _
  rw [h]
mutual
def okW (m : Nat) : W → Bool
  | .ref n => decide (n < m)
  | .scr _ => false
  | .tup ws => oksW m ws
  | .non => true
  | .bl _ => true
  | .int _ => true
  | .str x => decide (x.length ≤ sizeLine)
  | .exc _ _ _ => false
def oksW (m : Nat) : List W → Bool
  | [] => true
  | w :: r => okW m w && oksW m r
end
theorem oksW_mem {m : Nat} : ∀ {ws : List W}, oksW m ws = true → ∀ w ∈ ws, okW m w = true
  | [], _, _, h => by cases h
  | u :: ws, h, w, hw => by
    rw [oksW, Bool.and_eq_true] at h
    rcases List.mem_cons.mp hw with rfl | hw
    · exact h.1
    · exact oksW_mem h.2 w hw
theorem oksW_of {m : Nat} : ∀ {ws : List W}, (∀ w ∈ ws, okW m w = true) → oksW m ws = true
  | [], _ => by rw [oksW]
  | u :: ws, h => by
    rw [oksW, h u List.mem_cons_self, oksW_of fun w hw => h w (List.mem_cons_of_mem _ hw)]
    rfl
mutual
theorem okW_mono {m k : Nat} (hk : m ≤ k) : ∀ (w : W), okW m w = true → okW k w = true
  | .ref n, h => by
    simp only [okW, decide_eq_true_eq] at h ⊢
    omega
  | .scr _, h => by simp [okW] at h
  | .exc _ _ _, h => by simp [okW] at h
  | .tup ws, h => by
    rw [okW] at h ⊢
    exact oksW_mono hk ws h
  | .non, _ => rfl
  | .bl _, _ => rfl
  | .int _, _ => rfl
  | .str _, h => h
theorem oksW_mono {m k : Nat} (hk : m ≤ k) : ∀ (ws : List W), oksW m ws = true → oksW k ws = true
  | [], _ => by rw [oksW]
  | u :: ws, h => by
    rw [oksW, Bool.and_eq_true] at h
    rw [oksW, okW_mono hk u h.1, oksW_mono hk ws h.2]
    rfl
end
theorem isi_none {S : Sto} {us : List String} : isiW S .non us = some (us.any (isOne "NoneType")) := rfl
theorem isi_bl {S : Sto} {us : List String} {b : Bool} : isiW S (.bl b) us = some (us.any (isOne "bool")) := rfl
theorem isi_int {S : Sto} {us : List String} {b : Int} : isiW S (.int b) us = some (us.any (isOne "int")) := rfl
theorem isi_str {S : Sto} {us : List String} {b : Str} : isiW S (.str b) us = some (us.any (isOne "str")) := rfl
theorem isi_tup {S : Sto} {us : List String} {b : List W} : isiW S (.tup b) us = some (us.any (isOne "tuple")) := rfl
/-- a reference is no int, text, tuple -/
theorem isi_ref {S : Sto} {n : Nat} {u : String} (h : n < S.length) (hu : u = "int" ∨ u = "bool" ∨ u = "str" ∨ u = "tuple") : isiW S (.ref n) [u] = some false := by
  simp only [isiW, tyW, List.getElem?_eq_getElem h]
  generalize S[n] = o
  rcases hu with rfl | rfl | rfl | rfl <;> cases o <;> simp <;> decide
/-! ### loops -/
theorem for_run {src : Src} {ws : List W} {f : W → Env → Sto → SRes} (P : Nat → Env → Sto → Prop) (R : W → Sto → Prop) (hs : ∀ i η S, P i η S → src.now S = some ws)
    (step : ∀ i w η S, ws[i]? = some w → P i η S → (∃ η' S', (f w η S = .nx η' S' ∨ f w η S = .ct η' S') ∧ P (i + 1) η' S') ∨ ∃ w' S', f w η S = .rt w' S' ∧ R w' S') :
    ∀ (k i : Nat) (η : Env) (S : Sto), ws.length = i + k → P i η S → (∃ η' S', forLoop src f k i η S = .nx η' S' ∧ P ws.length η' S') ∨ ∃ w' S', forLoop src f k i η S = .rt w' S' ∧ R w' S'
  | 0, i, η, S, hl, h => by
    left
    refine ⟨η, S, ?_, by rw [hl]; exact h⟩
    simp only [forLoop, hs i η S h]
    rw [if_pos (by omega)]
  | k + 1, i, η, S, hl, h => by
    have hi : i < ws.length := by omega
    have e : forLoop src f (k + 1) i η S = match f ws[i] η S with
        | .nx η' S' => forLoop src f k (i + 1) η' S'
        | .ct η' S' => forLoop src f k (i + 1) η' S'
        | .bk η' S' => .nx η' S'
        | r => r := by
      simp only [forLoop, hs i η S h, List.getElem?_eq_getElem hi]
      (rw [if_pos (by omega)]) <;> (cases f ws[i] η S <;> rfl)
    rw [e]
    rcases step i ws[i] η S (List.getElem?_eq_getElem hi) h with ⟨η', S', e1, h'⟩ | ⟨w', S', e1, h'⟩
    · rcases e1 with e1 | e1
      · rw [e1]
        exact for_run P R hs step k (i + 1) η' S' (by omega) h'
      · rw [e1]
        exact for_run P R hs step k (i + 1) η' S' (by omega) h'
    · rw [e1]
      exact .inr ⟨w', S', rfl, h'⟩
theorem lc_run {src : Src} {ws : List W} {f : W → Sto → Res (Option W)} (P : Nat → List W → Sto → Prop) (hs : ∀ i acc S, P i acc S → src.now S = some ws) (hz : ∀ i acc S, P i acc S → acc.length ≤ i) (hw : ws.length ≤ sizeLine)
    (step : ∀ i w acc S, ws[i]? = some w → P i acc S → ∃ o S', f w S = .ok o S' ∧ P (i + 1) (match o with
      | some y => acc ++ [y]
      | none => acc) S') :
    ∀ (k i : Nat) (acc : List W) (S : Sto), ws.length = i + k → P i acc S → ∃ acc' S', lcLoop src f k i acc S = .ok acc' S' ∧ P ws.length acc' S'
  | 0, i, acc, S, hl, h => by
    refine ⟨acc, S, ?_, by rw [hl]; exact h⟩
    simp only [lcLoop, hs i acc S h]
    rw [if_pos (by omega)]
  | k + 1, i, acc, S, hl, h => by
    have hi : i < ws.length := by omega
    obtain ⟨o, S', e1, h'⟩ := step i ws[i] acc S (List.getElem?_eq_getElem hi) h
    have e : lcLoop src f (k + 1) i acc S = (f ws[i] S).bind fun o S' => match o with
        | some y => if acc.length < sizeLine then lcLoop src f k (i + 1) (acc ++ [y]) S' else .bad
        | none => lcLoop src f k (i + 1) acc S' := by
      simp only [lcLoop, hs i acc S h, List.getElem?_eq_getElem hi]
      (rw [if_pos (by omega)]) <;> rfl
    rw [e, e1]
    cases o with
    | none => exact lc_run P hs hz hw step k (i + 1) acc S' (by omega) h'
    | some y =>
      have : acc.length < sizeLine := by
        have := hz i acc S h
        omega
      show ∃ acc' S'', (if acc.length < sizeLine then lcLoop src f k (i + 1) (acc ++ [y]) S' else .bad) = .ok acc' S'' ∧ _
      rw [if_pos this]
      exact lc_run P hs hz hw step k (i + 1) (acc ++ [y]) S' (by omega) h'
/-- a comprehension that keeps all, each item by a function; the store grows -/
theorem lc_map {src : Src} {ws : List W} {f : W → Sto → Res (Option W)} {g : W → W} {S0 : Sto} (hs : ∀ l, src.now (S0 ++ l) = some ws) (hw : ws.length ≤ sizeLine)
    (step : ∀ w ∈ ws, ∀ l, ∃ l', f w (S0 ++ l) = .ok (some (g w)) (S0 ++ l')) : ∃ l, lcLoop src f ws.length 0 [] S0 = .ok (ws.map g) (S0 ++ l) := by
  obtain ⟨acc, S', e, h1, l, rfl⟩ := lc_run (src := src) (f := f) (ws := ws) (fun i acc S => acc = (ws.take i).map g ∧ ∃ l, S = S0 ++ l) (fun i acc S h => by obtain ⟨_, l, rfl⟩ := h; exact hs l)
    (fun i acc S h => by rw [h.1, List.length_map, List.length_take]; omega) hw (fun i w acc S hi h => by
      obtain ⟨h1, l, rfl⟩ := h
      obtain ⟨l', e⟩ := step w (List.mem_of_getElem? hi) l
      refine ⟨_, _, e, ?_, l', rfl⟩
      have hlt := (List.getElem?_eq_some_iff.mp hi).1
      have e2 : ws.take (i + 1) = ws.take i ++ [w] := by
        rw [List.take_add_one, hi]
        rfl
      show acc ++ [g w] = _
      rw [e2, h1, List.map_append]
      rfl) ws.length 0 [] S0 (by omega) ⟨rfl, [], by simp⟩
  rw [List.take_of_length_le (Nat.le_refl _)] at h1
  exact ⟨l, by rw [e, h1]⟩
/-- .. that keeps some -/
theorem lc_filter {src : Src} {ws : List W} {f : W → Sto → Res (Option W)} {g : W → Option W} {S0 : Sto} (hs : ∀ l, src.now (S0 ++ l) = some ws) (hw : ws.length ≤ sizeLine)
    (step : ∀ w ∈ ws, ∀ l, ∃ l', f w (S0 ++ l) = .ok (g w) (S0 ++ l')) : ∃ l, lcLoop src f ws.length 0 [] S0 = .ok (ws.filterMap g) (S0 ++ l) := by
  obtain ⟨acc, S', e, h1, l, rfl⟩ := lc_run (src := src) (f := f) (ws := ws) (fun i acc S => acc = (ws.take i).filterMap g ∧ ∃ l, S = S0 ++ l) (fun i acc S h => by obtain ⟨_, l, rfl⟩ := h; exact hs l)
    (fun i acc S h => by rw [h.1]; exact Nat.le_trans (List.length_filterMap_le _ _) (by rw [List.length_take]; omega)) hw (fun i w acc S hi h => by
      obtain ⟨h1, l, rfl⟩ := h
      obtain ⟨l', e⟩ := step w (List.mem_of_getElem? hi) l
      refine ⟨_, _, e, ?_, l', rfl⟩
      have e2 : ws.take (i + 1) = ws.take i ++ [w] := by
        rw [List.take_add_one, hi]
        rfl
      rw [e2, h1, List.filterMap_append]
      cases q : g w <;> simp [q]) ws.length 0 [] S0 (by omega) ⟨rfl, [], by simp⟩
  rw [List.take_of_length_le (Nat.le_refl _)] at h1
  exact ⟨l, by rw [e, h1]⟩
end PI

set_option Elab.async false
set_option linter.all false
set_option maxRecDepth 100000
set_option maxHeartbeats 4000000
/-! what an evaluation must answer: rules, one a form -/
namespace PI
open L2
open PySem (Str PyData sizeLine)
structure Post where
  nx : Env → Sto → Prop
  rt : W → Sto → Prop
  ct : Env → Sto → Prop
  bk : Env → Sto → Prop
def Res.sat {α : Type} (r : Res α) (Q : α → Sto → Prop) : Prop := match r with
  | .ok a S => Q a S
  | _ => False
def SRes.sat (r : SRes) (P : Post) : Prop := match r with
  | .nx η S => P.nx η S
  | .rt w S => P.rt w S
  | .ct η S => P.ct η S
  | .bk η S => P.bk η S
  | _ => False
section
variable {α β : Type} {Φ : Fns} {η : Env} {S : Sto} {Q : W → Sto → Prop} {P : Post}
theorem sat_ok {a : α} {Q : α → Sto → Prop} : (Res.ok a S).sat Q ↔ Q a S := Iff.rfl
theorem sat_nx : (SRes.nx η S).sat P ↔ P.nx η S := Iff.rfl
theorem sat_rt {w : W} : (SRes.rt w S).sat P ↔ P.rt w S := Iff.rfl
theorem sat_iff {r : Res α} {Q : α → Sto → Prop} : r.sat Q ↔ ∃ a S', r = .ok a S' ∧ Q a S' := by
  cases r with
  | ok a S => exact ⟨fun h => ⟨a, S, rfl, h⟩, fun ⟨_, _, e, h⟩ => by cases e; exact h⟩
  | exc c fs S => exact ⟨fun h => h.elim, fun ⟨_, _, e, h⟩ => by cases e⟩
  | bad => exact ⟨fun h => h.elim, fun ⟨_, _, e, h⟩ => by cases e⟩
theorem Res.sat.mono {r : Res α} {Q Q' : α → Sto → Prop} (h : r.sat Q) (m : ∀ a S', Q a S' → Q' a S') : r.sat Q' := by
  cases r with
  | ok a S => exact m a S h
  | exc c fs S => exact h
  | bad => exact h
theorem SRes.sat.mono {r : SRes} {P P' : Post} (h : r.sat P) (m1 : ∀ η S, P.nx η S → P'.nx η S) (m2 : ∀ w S, P.rt w S → P'.rt w S) (m3 : ∀ η S, P.ct η S → P'.ct η S) (m4 : ∀ η S, P.bk η S → P'.bk η S) : r.sat P' := by
  cases r with
  | nx η S => exact m1 η S h
  | rt w S => exact m2 w S h
  | ct η S => exact m3 η S h
  | bk η S => exact m4 η S h
  | exc c fs η S => exact h
  | bad => exact h
theorem bind_sat {r : Res α} {f : α → Sto → Res β} {Q : β → Sto → Prop} : (r.bind f).sat Q ↔ r.sat fun a S => (f a S).sat Q := by
  cases r <;> exact Iff.rfl
theorem go_sat {r : Res α} {f : α → Sto → SRes} : (r.go η f).sat P ↔ r.sat fun a S => (f a S).sat P := by
  cases r <;> exact Iff.rfl
theorem ite_bad {c : Prop} [Decidable c] {r : Res α} {Q : α → Sto → Prop} : (if c then r else .bad).sat Q ↔ c ∧ r.sat Q := by
  by_cases h : c
  · rw [if_pos h]; exact ⟨fun x => ⟨h, x⟩, fun x => x.2⟩
  · rw [if_neg h]; exact ⟨fun x => x.elim, fun x => (h x.1).elim⟩
theorem boolR_sat {o : Option Bool} : (boolR S o).sat Q ↔ ∃ b, o = some b ∧ Q (.bl b) S := by
  cases o with
  | none => exact ⟨fun h => h.elim, fun ⟨_, e, _⟩ => by cases e⟩
  | some b => exact ⟨fun h => ⟨b, rfl, h⟩, fun ⟨_, e, h⟩ => by cases e; exact h⟩
theorem truthR_sat {r : Res W} {Q : Bool → Sto → Prop} : (truthR r).sat Q ↔ r.sat fun w S1 => ∃ b, truthW S1 w = some b ∧ Q b S1 := by
  unfold truthR
  rw [bind_sat]
  refine ⟨fun h => h.mono fun w S1 h => ?_, fun h => h.mono fun w S1 h => ?_⟩
  · split at h
    · rename_i t e
      exact ⟨t, e, h⟩
    · exact h.elim
  · obtain ⟨b, e, h⟩ := h
    rw [e]
    exact h

/-! ### expressions -/
theorem e_v {i : Nat} : (eval Φ (.v i) η S).sat Q ↔ ∃ w, η[i]? = some (some w) ∧ Q w S := by
  rw [eval]
  split
  · rename_i w e
    exact ⟨fun h => ⟨w, e, h⟩, fun ⟨w', e', h⟩ => by rw [e] at e'; cases e'; exact h⟩
  · rename_i hn
    exact ⟨fun h => h.elim, fun ⟨w', e', h⟩ => (hn w' e').elim⟩
theorem e_kN : (eval Φ .kN η S).sat Q ↔ Q .non S := by rw [eval]; exact Iff.rfl
theorem e_kB {b : Bool} : (eval Φ (.kB b) η S).sat Q ↔ Q (.bl b) S := by rw [eval]; exact Iff.rfl
theorem e_kI {i : Int} : (eval Φ (.kI i) η S).sat Q ↔ Q (.int i) S := by rw [eval]; exact Iff.rfl
theorem e_kS {x : Str} : (eval Φ (.kS x) η S).sat Q ↔ Q (.str x) S := by rw [eval]; exact Iff.rfl
theorem e_globI {x : Str} {i : Int} : (eval Φ (.glob x (.kI i)) η S).sat Q ↔ Q (.int i) S := by rw [eval]; exact Iff.rfl
theorem e_globS {x y : Str} : (eval Φ (.glob x (.kS y)) η S).sat Q ↔ Q (.str y) S := by rw [eval]; exact Iff.rfl
theorem es_nil {Q : List W → Sto → Prop} : (evals Φ .nil η S).sat Q ↔ Q [] S := by rw [evals]; exact Iff.rfl
theorem es_cons {a r : E} {Q : List W → Sto → Prop} : (evals Φ (.cons a r) η S).sat Q ↔ (eval Φ a η S).sat fun w S1 => (evals Φ r η S1).sat fun ws S2 => Q (w :: ws) S2 := by
  rw [evals, bind_sat]
  refine iff_of_eq (congrArg _ ?_)
  funext w S1
  rw [bind_sat]
  rfl
theorem e_tup {es : E} : (eval Φ (.tup es) η S).sat Q ↔ (evals Φ es η S).sat fun ws S1 => ws.length ≤ sizeLine ∧ Q (.tup ws) S1 := by
  rw [eval, bind_sat]
  refine iff_of_eq (congrArg _ ?_)
  funext ws S1
  exact propext ite_bad
theorem e_lst {es : E} : (eval Φ (.lst es) η S).sat Q ↔ (evals Φ es η S).sat fun ws S1 => ws.length ≤ sizeLine ∧ Q (.ref S1.length) (S1 ++ [.lst ws]) := by
  rw [eval, bind_sat]
  refine iff_of_eq (congrArg _ ?_)
  funext ws S1
  exact propext ite_bad
theorem e_dct {es : E} : (eval Φ (.dct es) η S).sat Q ↔ (evals Φ es η S).sat fun ws S1 => (dispW ws S1).sat Q := by
  rw [eval, bind_sat]
theorem e_bin {o : Bop} {a b : E} : (eval Φ (.bin o a b) η S).sat Q ↔ (eval Φ a η S).sat fun x S1 => (eval Φ b η S1).sat fun y S2 => (binW o x y S2).sat Q := by
  rw [eval, bind_sat]
  refine iff_of_eq (congrArg _ ?_)
  funext w S1
  rw [bind_sat]
theorem e_neg {a : E} : (eval Φ (.neg a) η S).sat Q ↔ (eval Φ a η S).sat fun x S1 => (negW x S1).sat Q := by
  rw [eval, bind_sat]
theorem e_not {a : E} : (eval Φ (.not a) η S).sat Q ↔ (eval Φ a η S).sat fun x S1 => ∃ b, truthW S1 x = some b ∧ Q (.bl !b) S1 := by
  rw [eval, bind_sat, truthR_sat]
  rfl
theorem e_cmp {o : Cop} {a b : E} : (eval Φ (.cmp o a b) η S).sat Q ↔ (eval Φ a η S).sat fun x S1 => (eval Φ b η S1).sat fun y S2 => (cmpW o x y S2).sat Q := by
  rw [eval, bind_sat]
  refine iff_of_eq (congrArg _ ?_)
  funext w S1
  rw [bind_sat]
theorem e_chain {o p : Cop} {a b c : E} : (eval Φ (.chain o p a b c) η S).sat Q ↔ (eval Φ a η S).sat fun x S1 => (eval Φ b η S1).sat fun y S2 => (cmpW o x y S2).sat fun z S3 => ∃ t, z = .bl t ∧ (t = true → (eval Φ c η S3).sat fun u S4 => (cmpW p y u S4).sat Q) ∧ (t = false → Q (.bl false) S3) := by
  rw [eval, bind_sat]
  refine iff_of_eq (congrArg _ ?_)
  funext x S1
  rw [bind_sat]
  refine congrArg _ ?_
  funext y S2
  rw [bind_sat]
  refine congrArg _ ?_
  funext z S3
  refine propext ?_
  split
  · rw [bind_sat]
    exact ⟨fun h => ⟨true, rfl, fun _ => h, fun z => by cases z⟩, fun ⟨t, e, h1, h2⟩ => by cases e; exact h1 rfl⟩
  · exact ⟨fun h => ⟨false, rfl, (fun z => by cases z), fun _ => h⟩, fun ⟨t, e, h1, h2⟩ => by cases e; exact h2 rfl⟩
  · rename_i h1 h2
    refine ⟨fun h => h.elim, fun ⟨t, e, _⟩ => ?_⟩
    subst e
    cases t
    · exact (h2 rfl).elim
    · exact (h1 rfl).elim
theorem e_ix {a b : E} : (eval Φ (.ix a b) η S).sat Q ↔ (eval Φ a η S).sat fun x S1 => (eval Φ b η S1).sat fun y S2 => (ixW x y S2).sat Q := by
  rw [eval, bind_sat]
  refine iff_of_eq (congrArg _ ?_)
  funext w S1
  rw [bind_sat]
theorem partOf_sat {e : E} {r : Res W} {Q : Option Int → Sto → Prop} (h : e.isNo = false) : (partOf e S r).sat Q ↔ r.sat fun w S1 => ∃ i, w = .int i ∧ Q (some i) S1 := by
  unfold partOf
  rw [h, if_neg Bool.false_ne_true, bind_sat]
  refine iff_of_eq (congrArg _ ?_)
  funext w S1
  refine propext ?_
  split
  · exact ⟨fun h => ⟨_, rfl, h⟩, fun ⟨i, e, h⟩ => by cases e; exact h⟩
  · rename_i hn
    exact ⟨fun h => h.elim, fun ⟨i, e, _⟩ => (hn i e).elim⟩
theorem partOf_no {r : Res W} {Q : Option Int → Sto → Prop} : (partOf .noE S r).sat Q ↔ Q none S := by
  unfold partOf
  exact Iff.rfl
theorem e_sl {a lo hi : E} : (eval Φ (.sl a lo hi) η S).sat Q ↔ (eval Φ a η S).sat fun x S1 => (partOf lo S1 (eval Φ lo η S1)).sat fun l S2 => (partOf hi S2 (eval Φ hi η S2)).sat fun h S3 => (slW x l h S3).sat Q := by
  rw [eval, bind_sat]
  refine iff_of_eq (congrArg _ ?_)
  funext w S1
  rw [bind_sat]
  refine congrArg _ ?_
  funext w S1
  rw [bind_sat]
theorem e_rev {a : E} : (eval Φ (.rev a) η S).sat Q ↔ (eval Φ a η S).sat fun x S1 => (revW x S1).sat Q := by
  rw [eval, bind_sat]
theorem e_call {f : Str} {es : E} : (eval Φ (.call f es) η S).sat Q ↔ (evals Φ es η S).sat fun ws S1 => (Φ f ws S1).sat Q := by
  rw [eval, bind_sat]
theorem e_bif {f : Bif} {es : E} : (eval Φ (.bif f es) η S).sat Q ↔ (evals Φ es η S).sat fun ws S1 => (bifW f ws S1).sat Q := by
  rw [eval, bind_sat]
theorem e_isi {a : E} {us : List String} : (eval Φ (.isi a us) η S).sat Q ↔ (eval Φ a η S).sat fun x S1 => ∃ b, isiW S1 x us = some b ∧ Q (.bl b) S1 := by
  rw [eval, bind_sat]
  refine iff_of_eq (congrArg _ ?_)
  funext w S1
  exact propext boolR_sat
theorem e_mth {m : Mth} {o es : E} : (eval Φ (.mth m o es) η S).sat Q ↔ (eval Φ o η S).sat fun x S1 => mthOk m (tyW S1 x) = true ∧ (evals Φ es η S1).sat fun ws S2 => tyW S2 x = tyW S1 x ∧ (mthW m x ws S2).sat Q := by
  rw [eval, bind_sat]
  refine iff_of_eq (congrArg _ ?_)
  funext w S1
  rw [ite_bad, bind_sat]
  refine congrArg _ (congrArg _ ?_)
  funext ws S2
  unfold mthGo
  exact propext ite_bad
theorem e_fs {es : E} : (eval Φ (.fs es) η S).sat Q ↔ (evalF Φ es Str.empty η S).sat fun x S1 => Q (.str x) S1 := by
  rw [eval, bind_sat]
  rfl
theorem e_boo {o : Bool} {es : E} : (eval Φ (.boo o es) η S).sat Q ↔ (evalB Φ o es η S).sat Q := by rw [eval]
theorem b_one {o : Bool} {a : E} : (evalB Φ o (.cons a .nil) η S).sat Q ↔ (eval Φ a η S).sat Q := by
  rw [evalB, if_pos (show E.nil.isNil = true from rfl)]
theorem b_cons {o : Bool} {a b r : E} : (evalB Φ o (.cons a (.cons b r)) η S).sat Q ↔ (eval Φ a η S).sat fun x S1 => ∃ t, truthW S1 x = some t ∧ (t = o → (evalB Φ o (.cons b r) η S1).sat Q) ∧ (t = (!o) → Q x S1) := by
  rw [evalB, if_neg (by simp [E.isNil]), bind_sat]
  refine iff_of_eq (congrArg _ ?_)
  funext x S1
  refine propext ?_
  cases e : truthW S1 x with
  | none => exact ⟨fun h => h.elim, fun ⟨t, e', _⟩ => by cases e'⟩
  | some t =>
    show (if t = o then evalB Φ o (.cons b r) η S1 else .ok x S1).sat Q ↔ _
    by_cases h : t = o
    · rw [if_pos h]
      refine ⟨fun h2 => ⟨t, rfl, fun _ => h2, fun z => by subst h; cases t <;> cases z⟩, fun ⟨t', e', h1, h2⟩ => by cases e'; exact h1 h⟩
    · rw [if_neg h]
      refine ⟨fun h2 => ⟨t, rfl, fun z => (h z).elim, fun _ => h2⟩, fun ⟨t', e', h1, h2⟩ => by cases e'; exact h2 (by cases t <;> cases o <;> first | rfl | exact (h rfl).elim)⟩

end
/-- a test: what is behind it, by its truth -/
def cnd (Φ : Fns) (c : E) (η : Env) (S : Sto) (Q : Bool → Sto → Prop) : Prop := (eval Φ c η S).sat fun w S1 => ∃ b, truthW S1 w = some b ∧ Q b S1
section
variable {Φ : Fns} {η : Env} {S : Sto} {Q : Bool → Sto → Prop}
theorem n_not {a : E} : cnd Φ (.not a) η S Q ↔ cnd Φ a η S fun b S1 => Q (!b) S1 := by
  unfold cnd
  rw [e_not]
  refine iff_of_eq (congrArg _ ?_)
  funext w S1
  refine propext ⟨fun ⟨b, e, c, e', h⟩ => ?_, fun ⟨b, e, h⟩ => ⟨b, e, !b, rfl, h⟩⟩
  cases e'
  exact ⟨b, e, h⟩
theorem n_one {o : Bool} {a : E} : cnd Φ (.boo o (.cons a .nil)) η S Q ↔ cnd Φ a η S Q := by
  unfold cnd
  rw [e_boo, b_one]
theorem n_or {a b r : E} : cnd Φ (.boo false (.cons a (.cons b r))) η S Q ↔ cnd Φ a η S fun t S1 => (t = true → Q true S1) ∧ (t = false → cnd Φ (.boo false (.cons b r)) η S1 Q) := by
  unfold cnd
  rw [e_boo, b_cons]
  refine iff_of_eq (congrArg _ ?_)
  funext w S1
  refine propext ⟨fun ⟨t, e, h1, h2⟩ => ⟨t, e, fun ht => ?_, fun ht => ?_⟩, fun ⟨t, e, h1, h2⟩ => ⟨t, e, fun ht => ?_, fun ht => ?_⟩⟩
  · obtain ⟨u, e', q⟩ := h2 ht
    rw [e] at e'
    cases e'
    rw [ht] at q
    exact q
  · rw [e_boo]
    exact h1 ht
  · have := h2 ht
    rw [e_boo] at this
    exact this
  · exact ⟨true, by rw [e, ht]; rfl, h1 ht⟩
theorem n_and {a b r : E} : cnd Φ (.boo true (.cons a (.cons b r))) η S Q ↔ cnd Φ a η S fun t S1 => (t = true → cnd Φ (.boo true (.cons b r)) η S1 Q) ∧ (t = false → Q false S1) := by
  unfold cnd
  rw [e_boo, b_cons]
  refine iff_of_eq (congrArg _ ?_)
  funext w S1
  refine propext ⟨fun ⟨t, e, h1, h2⟩ => ⟨t, e, fun ht => ?_, fun ht => ?_⟩, fun ⟨t, e, h1, h2⟩ => ⟨t, e, fun ht => ?_, fun ht => ?_⟩⟩
  · rw [e_boo]
    exact h1 ht
  · obtain ⟨u, e', q⟩ := h2 ht
    rw [e] at e'
    cases e'
    rw [ht] at q
    exact q
  · have := h1 ht
    rw [e_boo] at this
    exact this
  · exact ⟨false, by rw [e, ht]; rfl, h2 ht⟩
theorem n_v {i : Nat} : cnd Φ (.v i) η S Q ↔ (eval Φ (.v i) η S).sat fun w S1 => ∃ b, truthW S1 w = some b ∧ Q b S1 := Iff.rfl
theorem n_cmp {o : Cop} {a b : E} : cnd Φ (.cmp o a b) η S Q ↔ (eval Φ (.cmp o a b) η S).sat fun w S1 => ∃ b, truthW S1 w = some b ∧ Q b S1 := Iff.rfl
theorem n_chain {o p : Cop} {a b c : E} : cnd Φ (.chain o p a b c) η S Q ↔ (eval Φ (.chain o p a b c) η S).sat fun w S1 => ∃ b, truthW S1 w = some b ∧ Q b S1 := Iff.rfl
theorem n_call {f : Str} {a : E} : cnd Φ (.call f a) η S Q ↔ (eval Φ (.call f a) η S).sat fun w S1 => ∃ b, truthW S1 w = some b ∧ Q b S1 := Iff.rfl
theorem n_bif {f : Bif} {a : E} : cnd Φ (.bif f a) η S Q ↔ (eval Φ (.bif f a) η S).sat fun w S1 => ∃ b, truthW S1 w = some b ∧ Q b S1 := Iff.rfl
theorem n_isi {us : List String} {a : E} : cnd Φ (.isi a us) η S Q ↔ (eval Φ (.isi a us) η S).sat fun w S1 => ∃ b, truthW S1 w = some b ∧ Q b S1 := Iff.rfl
theorem n_ix {i a : E} : cnd Φ (.ix a i) η S Q ↔ (eval Φ (.ix a i) η S).sat fun w S1 => ∃ b, truthW S1 w = some b ∧ Q b S1 := Iff.rfl
theorem n_bin {o : Bop} {i a : E} : cnd Φ (.bin o a i) η S Q ↔ (eval Φ (.bin o a i) η S).sat fun w S1 => ∃ b, truthW S1 w = some b ∧ Q b S1 := Iff.rfl
end
section
variable {α β : Type} {Φ : Fns} {η : Env} {S : Sto} {Q : W → Sto → Prop} {P : Post}
theorem e_ite {c a b : E} : (eval Φ (.ite c a b) η S).sat Q ↔ cnd Φ c η S fun t S1 => (t = true → (eval Φ a η S1).sat Q) ∧ (t = false → (eval Φ b η S1).sat Q) := by
  unfold cnd
  rw [eval, bind_sat, truthR_sat]
  refine iff_of_eq (congrArg _ ?_)
  funext w S1
  refine propext ⟨fun ⟨t, e, h⟩ => ⟨t, e, ?_⟩, fun ⟨t, e, h1, h2⟩ => ⟨t, e, ?_⟩⟩
  · cases t
    · exact ⟨(fun z => by cases z), fun _ => h⟩
    · exact ⟨fun _ => h, fun z => by cases z⟩
  · cases t
    · exact h2 rfl
    · exact h1 rfl
/-! ### statements -/
theorem x_nil : (exec Φ .nil η S).sat P ↔ P.nx η S := by rw [exec]; exact Iff.rfl
theorem x_pass : (exec Φ .pass η S).sat P ↔ P.nx η S := by rw [exec]; exact Iff.rfl
theorem x_brk : (exec Φ .brk η S).sat P ↔ P.bk η S := by rw [exec]; exact Iff.rfl
theorem x_cnt : (exec Φ .cnt η S).sat P ↔ P.ct η S := by rw [exec]; exact Iff.rfl
theorem x_seq {s t : T} : (exec Φ (.seq s t) η S).sat P ↔ (exec Φ s η S).sat ⟨fun η1 S1 => (exec Φ t η1 S1).sat P, P.rt, P.ct, P.bk⟩ := by
  rw [exec]
  cases exec Φ s η S <;> exact Iff.rfl
theorem a_v {i : Nat} {w : W} {Q : Env → Sto → Prop} : (asgE Φ (.v i) w η S).sat Q ↔ Q (η.set i (some w)) S := by rw [asgE]; exact Iff.rfl
theorem a_tup {es : E} {ws : List W} {Q : Env → Sto → Prop} : (asgE Φ (.tup es) (.tup ws) η S).sat Q ↔ (asgEs Φ es ws η S).sat Q := by rw [asgE]
theorem a_ix {o i : E} {w : W} {Q : Env → Sto → Prop} : (asgE Φ (.ix o i) w η S).sat Q ↔ (eval Φ o η S).sat fun x S1 => (eval Φ i η S1).sat fun y S2 => (setW x y w S2).sat fun _ S3 => Q η S3 := by
  rw [asgE, bind_sat]
  refine iff_of_eq (congrArg _ ?_)
  funext x S1
  rw [bind_sat]
  refine congrArg _ ?_
  funext y S2
  rw [bind_sat]
  rfl
theorem as_nil {Q : Env → Sto → Prop} : (asgEs Φ .nil [] η S).sat Q ↔ Q η S := by rw [asgEs]; exact Iff.rfl
theorem as_cons {a r : E} {w : W} {ws : List W} {Q : Env → Sto → Prop} : (asgEs Φ (.cons a r) (w :: ws) η S).sat Q ↔ (asgE Φ a w η S).sat fun η1 S1 => (asgEs Φ r ws η1 S1).sat Q := by
  rw [asgEs, bind_sat]
theorem x_asg {tg e : E} : (exec Φ (.asg tg e) η S).sat P ↔ (eval Φ e η S).sat fun w S1 => (asgE Φ tg w η S1).sat P.nx := by
  rw [exec, go_sat]
  refine iff_of_eq (congrArg _ ?_)
  funext w S1
  rw [go_sat]
  rfl
theorem x_aug {i : Nat} {o : Bop} {e : E} : (exec Φ (.aug i o e) η S).sat P ↔ ∃ x, η[i]? = some (some x) ∧ (eval Φ e η S).sat fun y S1 => (augW o x y S1).sat fun z S2 => P.nx (η.set i (some z)) S2 := by
  rw [exec]
  split
  · rename_i x e'
    rw [go_sat]
    refine ⟨fun h => ⟨x, e', h.mono fun y S1 h => by rw [go_sat] at h; exact h⟩, fun ⟨x', e'', h⟩ => ?_⟩
    rw [e'] at e''
    cases e''
    exact h.mono fun y S1 h => by rw [go_sat]; exact h
  · rename_i hn
    exact ⟨fun h => h.elim, fun ⟨w', e', h⟩ => (hn w' e').elim⟩
theorem x_ex {e : E} : (exec Φ (.ex e) η S).sat P ↔ (eval Φ e η S).sat fun _ S1 => P.nx η S1 := by
  rw [exec, go_sat]
  rfl
theorem x_ret {e : E} : (exec Φ (.ret e) η S).sat P ↔ (eval Φ e η S).sat fun w S1 => P.rt w S1 := by
  rw [exec, go_sat]
  rfl
theorem x_retN : (exec Φ .retN η S).sat P ↔ P.rt .non S := by rw [exec]; exact Iff.rfl
theorem x_ite {c : E} {s t : T} : (exec Φ (.ite c s t) η S).sat P ↔ cnd Φ c η S fun b S1 => (b = true → (exec Φ s η S1).sat P) ∧ (b = false → (exec Φ t η S1).sat P) := by
  unfold cnd
  rw [exec, go_sat, truthR_sat]
  refine iff_of_eq (congrArg _ ?_)
  funext w S1
  refine propext ⟨fun ⟨t, e, h⟩ => ⟨t, e, ?_⟩, fun ⟨t, e, h1, h2⟩ => ⟨t, e, ?_⟩⟩
  · cases t
    · exact ⟨(fun z => by cases z), fun _ => h⟩
    · exact ⟨fun _ => h, fun z => by cases z⟩
  · cases t
    · exact h2 rfl
    · exact h1 rfl
theorem unlock_none {r : SRes} : unlockR none r = r := by
  cases r <;> rfl
/-- a for over what is no dict -/
theorem x_for {tg it : E} {k : Itk} {s : T} (h : (evals Φ it η S).sat fun xs S1 => ∃ src ws0, srcOf k xs S1 = some (src, none) ∧ src.now S1 = some ws0 ∧ (forLoop src (fun w η' S' => match bindT tg w η' with
      | none => .bad
      | some η1 => exec Φ s η1 S') ws0.length 0 η S1).sat P) : (exec Φ (.for_ tg k it s) η S).sat P := by
  rw [exec, go_sat]
  refine h.mono fun xs S1 ⟨src, ws0, h1, h2, h3⟩ => ?_
  rw [h1]
  show (match src.now S1 with
    | none => SRes.bad
    | some ws0 => unlockR none _).sat P
  rw [h2]
  show (unlockR none _).sat P
  rw [unlock_none]
  exact h3
theorem run_sat {d : Def} {ws : List W} {S : Sto} : (runDef Φ d ws S).sat Q ↔ ws.length = d.params.length ∧ (exec Φ d.body (startW d ws) S).sat ⟨fun _ S' => Q .non S', Q, fun _ _ => False, fun _ _ => False⟩ := by
  unfold runDef
  by_cases h : ws.length = d.params.length
  · rw [if_pos h]
    have : ∀ r : SRes, (match r with
      | .nx _ S' => Res.ok W.non S'
      | .rt w S' => .ok w S'
      | .exc c fs _ S' => .exc c fs S'
      | _ => .bad).sat Q ↔ r.sat ⟨fun _ S' => Q .non S', Q, fun _ _ => False, fun _ _ => False⟩ := by
      intro r
      cases r <;> exact Iff.rfl
    exact ⟨fun x => ⟨h, (this _).mp x⟩, fun x => (this _).mpr x.2⟩
  · rw [if_neg h]
    exact ⟨fun x => x.elim, fun x => (h x.1).elim⟩
theorem call_sat {Γ : List (Str × Def)} {f : Str} {d : Def} {n : Nat} {ws : List W} (h : Γ.lookup f = some d) : (callN Γ (n + 1) f ws S).sat Q ↔ ws.length = d.params.length ∧ (exec (callN Γ n) d.body (startW d ws) S).sat ⟨fun _ S' => Q .non S', Q, fun _ _ => False, fun _ _ => False⟩ := by
  rw [callN_at h, run_sat]
theorem for_sat {src : Src} {ws : List W} {f : W → Env → Sto → SRes} {P : Post} (I : Nat → Env → Sto → Prop) (hs : ∀ i η S, I i η S → src.now S = some ws)
    (step : ∀ i w η S, ws[i]? = some w → I i η S → (f w η S).sat ⟨I (i + 1), P.rt, I (i + 1), P.nx⟩) (done : ∀ η S, I ws.length η S → P.nx η S) :
    ∀ (k i : Nat) (η : Env) (S : Sto), ws.length = i + k → I i η S → (forLoop src f k i η S).sat P
  | 0, i, η, S, hl, h => by
    simp only [forLoop, hs i η S h]
    rw [if_pos (by omega)]
    have : i = ws.length := by omega
    subst this
    exact done η S h
  | k + 1, i, η, S, hl, h => by
    have hi : i < ws.length := by omega
    have e : forLoop src f (k + 1) i η S = match f ws[i] η S with
        | .nx η' S' => forLoop src f k (i + 1) η' S'
        | .ct η' S' => forLoop src f k (i + 1) η' S'
        | .bk η' S' => .nx η' S'
        | r => r := by
      simp only [forLoop, hs i η S h, List.getElem?_eq_getElem hi]
      (rw [if_pos (by omega)]) <;> (cases f ws[i] η S <;> rfl)
    rw [e]
    have q := step i ws[i] η S (List.getElem?_eq_getElem hi) h
    cases r : f ws[i] η S with
    | nx η' S' => rw [r] at q; exact for_sat I hs step done k (i + 1) η' S' (by omega) q
    | ct η' S' => rw [r] at q; exact for_sat I hs step done k (i + 1) η' S' (by omega) q
    | rt w' S' => rw [r] at q; exact q
    | bk η' S' => rw [r] at q; exact q
    | exc c fs η' S' => rw [r] at q; exact q.elim
    | bad => rw [r] at q; exact q.elim
/-- a for over what is no dict, with an invariant -/
theorem x_forI {tg it : E} {k : Itk} {s : T} (h : (evals Φ it η S).sat fun xs S1 => ∃ src ws, ∃ I : Nat → Env → Sto → Prop, srcOf k xs S1 = some (src, none) ∧ (∀ i η S, I i η S → src.now S = some ws) ∧ I 0 η S1 ∧
      (∀ i w η S, ws[i]? = some w → I i η S → ∃ η1, bindT tg w η = some η1 ∧ (exec Φ s η1 S).sat ⟨I (i + 1), P.rt, I (i + 1), P.nx⟩) ∧ (∀ η S, I ws.length η S → P.nx η S)) : (exec Φ (.for_ tg k it s) η S).sat P := by
  refine x_for (h.mono fun xs S1 ⟨src, ws, I, h1, h2, h3, h4, h5⟩ => ⟨src, ws, h1, h2 0 η S1 h3, ?_⟩)
  refine for_sat I h2 (fun i w η' S' hi hI => ?_) h5 ws.length 0 η S1 (by omega) h3
  obtain ⟨η1, e, q⟩ := h4 i w η' S' hi hI
  simp only [e]
  exact q
/-- a comprehension's loop -/
theorem lc_sat {src : Src} {ws : List W} {f : W → Sto → Res (Option W)} {Q : List W → Sto → Prop} (I : Nat → List W → Sto → Prop) (hs : ∀ i acc S, I i acc S → src.now S = some ws) (hz : ∀ i acc S, I i acc S → acc.length ≤ i) (hw : ws.length ≤ sizeLine)
    (step : ∀ i w acc S, ws[i]? = some w → I i acc S → (f w S).sat fun o S' => I (i + 1) (match o with
      | some y => acc ++ [y]
      | none => acc) S') (done : ∀ acc S, I ws.length acc S → Q acc S) :
    ∀ (k i : Nat) (acc : List W) (S : Sto), ws.length = i + k → I i acc S → (lcLoop src f k i acc S).sat Q := by
  intro k i acc S hl h
  obtain ⟨acc', S', e, h'⟩ := lc_run I hs hz hw (fun i w acc S hi h => by
    obtain ⟨o, S', e, h⟩ := sat_iff.mp (step i w acc S hi h)
    exact ⟨o, S', e, h⟩) k i acc S hl h
  rw [e]
  exact done acc' S' h'
/-- a comprehension over what is no dict, with an invariant -/
theorem e_lcI {elt tg it c : E} {k : Itk} {own : List (Str × Nat)} (h : (evals Φ it η S).sat fun xs S1 => ∃ src ws, ∃ I : Nat → List W → Sto → Prop, srcOf k xs S1 = some (src, none) ∧ (∀ i acc S, I i acc S → src.now S = some ws) ∧ (∀ i acc S, I i acc S → acc.length ≤ i) ∧ ws.length ≤ sizeLine ∧ I 0 [] S1 ∧
      (∀ i w acc S, ws[i]? = some w → I i acc S → ∃ η1, bindT tg w (wipeW η (own.map (·.2))) = some η1 ∧ (condOf c S (eval Φ c η1 S)).sat fun t S3 => (t = true → (eval Φ elt η1 S3).sat fun y S4 => I (i + 1) (acc ++ [y]) S4) ∧ (t = false → I (i + 1) acc S3)) ∧
      (∀ acc S, I ws.length acc S → acc.length ≤ sizeLine → Q (.ref S.length) (S ++ [.lst acc]))) : (eval Φ (.lc elt tg k it c own) η S).sat Q := by
  rw [eval, bind_sat]
  refine h.mono fun xs S1 ⟨src, ws, I, h1, h2, hz, hw, h3, h4, h5⟩ => ?_
  rw [h1]
  show (match src.now S1 with
    | none => Res.bad
    | some ws0 => (lcLoop src _ ws0.length 0 [] S1).bind fun acc S5 => newLst acc S5).sat Q
  rw [h2 0 [] S1 h3]
  show ((lcLoop src _ ws.length 0 [] S1).bind fun acc S5 => newLst acc S5).sat Q
  rw [bind_sat]
  refine lc_sat I h2 hz hw (fun i w acc S hi hI => ?_) (fun acc S hI => ?_) ws.length 0 [] S1 (by omega) h3
  · obtain ⟨η1, e, q⟩ := h4 i w acc S hi hI
    rw [e]
    show (Res.nox _).sat _
    have nox : ∀ {r : Res (Option W)} {Q : Option W → Sto → Prop}, r.sat Q → r.nox.sat Q := by
      intro r Q h
      cases r <;> exact h
    refine nox ?_
    rw [bind_sat]
    refine q.mono fun t S3 ⟨q1, q2⟩ => ?_
    cases t with
    | true =>
      show ((eval Φ elt η1 S3).bind fun y S4 => .ok (some y) S4).sat _
      rw [bind_sat]
      exact q1 rfl
    | false => exact q2 rfl
  · unfold newLst
    rw [ite_bad]
    have : acc.length ≤ sizeLine := Nat.le_trans (hz _ _ _ hI) hw
    exact ⟨this, h5 acc S hI this⟩
theorem cond_no {r : Res W} {Q : Bool → Sto → Prop} : (condOf .noE S r).sat Q ↔ Q true S := by
  unfold condOf
  exact Iff.rfl
theorem cond_sat {e : E} {r : Res W} {Q : Bool → Sto → Prop} (h : e.isNo = false) : (condOf e S r).sat Q ↔ r.sat fun w S1 => ∃ b, truthW S1 w = some b ∧ Q b S1 := by
  unfold condOf
  rw [h, if_neg Bool.false_ne_true, truthR_sat]
theorem cond_cnd {e : E} {Q : Bool → Sto → Prop} (h : e.isNo = false) : (condOf e S (eval Φ e η S)).sat Q ↔ cnd Φ e η S Q := cond_sat h
end
/-! ### what operators answer -/
section
variable {S : Sto}
theorem t_bl {b : Bool} : truthW S (.bl b) = some b := rfl
theorem t_int {b : Int} : truthW S (.int b) = some (b != 0) := rfl
theorem data_non : dataOf S .non = some .none := rfl
theorem data_bl {b : Bool} : dataOf S (.bl b) = some (.bool b) := rfl
theorem data_int {i : Int} : dataOf S (.int i) = some (.int i) := rfl
theorem data_str {i : Str} : dataOf S (.str i) = some (.str i) := rfl
theorem ord_ii {f : PyData → PyData → Bool} {i j : Int} : ordD f (.int i) (.int j) = some (f (.int i) (.int j)) := by
  simp [ordD, PySem.W.alike, isDeep, PyData.depth, deepMax]
theorem ord_ss {f : PyData → PyData → Bool} {i j : Str} : ordD f (.str i) (.str j) = some (f (.str i) (.str j)) := by
  simp [ordD, PySem.W.alike, isDeep, PyData.depth, deepMax]
theorem c_lt {i j : Int} : cmpW .lt (.int i) (.int j) S = .ok (.bl (decide (i < j))) S := by
  simp only [cmpW, onData, data_int, ord_ii, PySem.W.dataLt_int]
theorem c_gt {i j : Int} : cmpW .gt (.int i) (.int j) S = .ok (.bl (decide (j < i))) S := by
  simp only [cmpW, onData, data_int, ord_ii, PySem.W.dataLt_int]
theorem c_le {i j : Int} : cmpW .le (.int i) (.int j) S = .ok (.bl (decide (i ≤ j))) S := by
  simp only [cmpW, onData, data_int, ord_ii, PySem.W.dataLt_int]
  rw [show (!decide (j < i)) = decide (i ≤ j) from by rw [← decide_not]; exact decide_eq_decide.mpr Int.not_lt]
theorem c_ge {i j : Int} : cmpW .ge (.int i) (.int j) S = .ok (.bl (decide (j ≤ i))) S := by
  simp only [cmpW, onData, data_int, ord_ii, PySem.W.dataLt_int]
  rw [show (!decide (i < j)) = decide (j ≤ i) from by rw [← decide_not]; exact decide_eq_decide.mpr Int.not_lt]
theorem c_eq {i j : Int} : cmpW .eq (.int i) (.int j) S = .ok (.bl (i == j)) S := by
  simp [cmpW, lenNe, onData, data_int, eqD, PyData.plain, isDeep, PyData.depth, deepMax, PyData.eqv]
theorem c_ne {i j : Int} : cmpW .ne (.int i) (.int j) S = .ok (.bl (i != j)) S := by
  simp [cmpW, lenNe, onData, data_int, eqD, PyData.plain, isDeep, PyData.depth, deepMax, PyData.eqv, bne]
theorem c_eqS {i j : Str} : cmpW .eq (.str i) (.str j) S = .ok (.bl (i == j)) S := by
  simp [cmpW, lenNe, onData, data_str, eqD, PyData.plain, isDeep, PyData.depth, deepMax, PyData.eqv]
theorem c_neS {i j : Str} : cmpW .ne (.str i) (.str j) S = .ok (.bl (i != j)) S := by
  simp [cmpW, lenNe, onData, data_str, eqD, PyData.plain, isDeep, PyData.depth, deepMax, PyData.eqv, bne]
theorem c_is {w : W} : cmpW .is w .non S = .ok (.bl (decide (w = .non))) S := rfl
theorem c_isNot {w : W} : cmpW .isNot w .non S = .ok (.bl (!decide (w = .non))) S := rfl
end
end PI

set_option Elab.async false
set_option linter.all false
set_option maxRecDepth 100000
set_option maxHeartbeats 4000000
/-! what an evaluation must answer: more rules -/
namespace PI
open L2
open PySem (Str PyData sizeLine)
/-- a store that has only grown -/
def Ap (S S' : Sto) : Prop := ∃ l, S' = S ++ l
theorem Ap.refl (S : Sto) : Ap S S := ⟨[], by simp⟩
theorem Ap.trans {S S1 S2 : Sto} (h : Ap S S1) (h' : Ap S1 S2) : Ap S S2 := by
  obtain ⟨l, rfl⟩ := h
  obtain ⟨k, rfl⟩ := h'
  exact ⟨l ++ k, by simp⟩
theorem Ap.new (S : Sto) (l : List O) : Ap S (S ++ l) := ⟨l, rfl⟩
theorem Ap.at {S S' : Sto} (h : Ap S S') {n : Nat} {o : O} (e : S[n]? = some o) : S'[n]? = some o := by
  obtain ⟨l, rfl⟩ := h
  rw [List.getElem?_append_left (List.getElem?_eq_some_iff.mp e).1]
  exact e
theorem Ap.len {S S' : Sto} (h : Ap S S') : S.length ≤ S'.length := by
  obtain ⟨l, rfl⟩ := h
  simp
theorem Ap.ok {S S' : Sto} (h : Ap S S') {w : W} (e : okW S.length w = true) : okW S'.length w = true := okW_mono h.len w e
theorem Ap.oks {S S' : Sto} (h : Ap S S') {w : List W} (e : oksW S.length w = true) : oksW S'.length w = true := oksW_mono h.len w e
theorem sat_eq {r : Res W} {w : W} {S : Sto} : r.sat (fun a S' => a = w ∧ S' = S) ↔ r = .ok w S := by
  rw [sat_iff]
  exact ⟨fun ⟨a, S', e, h1, h2⟩ => by rw [e, h1, h2], fun e => ⟨w, S, e, rfl, rfl⟩⟩
theorem lstOf_at {S : Sto} {n : Nat} {ws : List W} (h : S[n]? = some (.lst ws)) : lstOf S n = some ws := by
  unfold lstOf
  rw [h]
section
variable {Φ : Fns} {η : Env} {S : Sto} {Q : W → Sto → Prop} {P : Post}
/-- a comprehension that keeps what g says; the store grows only -/
theorem e_lcF {elt tg it c : E} {k : Itk} {own : List (Str × Nat)} (h : (evals Φ it η S).sat fun xs S1 => ∃ src ws, ∃ g : W → Option W, srcOf k xs S1 = some (src, none) ∧ (∀ S2, Ap S1 S2 → src.now S2 = some ws) ∧ ws.length ≤ sizeLine ∧
      (∀ w ∈ ws, ∀ S2, Ap S1 S2 → ∃ η1, bindT tg w (wipeW η (own.map (·.2))) = some η1 ∧ (condOf c S2 (eval Φ c η1 S2)).sat fun t S3 => (t = true → (eval Φ elt η1 S3).sat fun y S4 => g w = some y ∧ Ap S1 S4) ∧ (t = false → g w = none ∧ Ap S1 S3)) ∧
      (∀ S2, Ap S1 S2 → Q (.ref S2.length) (S2 ++ [.lst (ws.filterMap g)]))) : (eval Φ (.lc elt tg k it c own) η S).sat Q := by
  refine e_lcI (h.mono fun xs S1 ⟨src, ws, g, h1, h2, hw, h4, h5⟩ => ⟨src, ws, fun i acc S2 => acc = (ws.take i).filterMap g ∧ Ap S1 S2, h1, fun i acc S2 h => h2 S2 h.2, fun i acc S2 h => ?_, hw, ⟨by simp, Ap.refl _⟩, fun i w acc S2 hi h => ?_, fun acc S2 h hl => ?_⟩)
  · rw [h.1]
    exact Nat.le_trans (List.length_filterMap_le _ _) (by rw [List.length_take]; omega)
  · obtain ⟨η1, e, q⟩ := h4 w (List.mem_of_getElem? hi) S2 h.2
    have e2 : ws.take (i + 1) = ws.take i ++ [w] := by
      rw [List.take_add_one, hi]
      rfl
    refine ⟨η1, e, q.mono fun t S3 ⟨q1, q2⟩ => ⟨fun ht => (q1 ht).mono fun y S4 ⟨gy, a⟩ => ⟨?_, a⟩, fun ht => ⟨?_, (q2 ht).2⟩⟩⟩
    · rw [e2, List.filterMap_append, h.1]
      simp [gy]
    · rw [e2, List.filterMap_append, h.1]
      simp [(q2 ht).1]
  · have := h5 S2 h.2
    rw [h.1, List.take_of_length_le (Nat.le_refl _)]
    exact this
/-- .. that keeps all -/
theorem e_lcM {elt tg it : E} {k : Itk} {own : List (Str × Nat)} (h : (evals Φ it η S).sat fun xs S1 => ∃ src ws, ∃ g : W → W, srcOf k xs S1 = some (src, none) ∧ (∀ S2, Ap S1 S2 → src.now S2 = some ws) ∧ ws.length ≤ sizeLine ∧
      (∀ w ∈ ws, ∀ S2, Ap S1 S2 → ∃ η1, bindT tg w (wipeW η (own.map (·.2))) = some η1 ∧ (eval Φ elt η1 S2).sat fun y S4 => g w = y ∧ Ap S1 S4) ∧
      (∀ S2, Ap S1 S2 → Q (.ref S2.length) (S2 ++ [.lst (ws.map g)]))) : (eval Φ (.lc elt tg k it .noE own) η S).sat Q := by
  refine e_lcF (h.mono fun xs S1 ⟨src, ws, g, h1, h2, hw, h4, h5⟩ => ⟨src, ws, fun w => some (g w), h1, h2, hw, fun w hw S2 a => ?_, fun S2 a => ?_⟩)
  · obtain ⟨η1, e, q⟩ := h4 w hw S2 a
    refine ⟨η1, e, cond_no.mpr ⟨fun _ => q.mono fun y S4 h => ⟨congrArg some h.1, h.2⟩, fun z => by cases z⟩⟩
  · have := h5 S2 a
    rw [show (fun w => some (g w)) = some ∘ g from rfl, List.filterMap_eq_map]
    exact this
/-- a for that seeks: bad tells what the first bad item's turn returns -/
theorem x_forF {tg it : E} {k : Itk} {s : T} (h : (evals Φ it η S).sat fun xs S1 => ∃ src ws, ∃ bad : Nat → Option W, ∃ J : Env → Prop, srcOf k xs S1 = some (src, none) ∧ (∀ S2, Ap S1 S2 → src.now S2 = some ws) ∧ J η ∧
      (∀ i w η2 S2, ws[i]? = some w → J η2 → Ap S1 S2 → (∀ j, j < i → bad j = none) → ∃ η1, bindT tg w η2 = some η1 ∧ (exec Φ s η1 S2).sat ⟨fun η3 S3 => bad i = none ∧ J η3 ∧ Ap S1 S3, fun w' S3 => bad i = some w' ∧ Ap S1 S3, fun η3 S3 => bad i = none ∧ J η3 ∧ Ap S1 S3, fun _ _ => False⟩) ∧
      (∀ η2 S2, J η2 → Ap S1 S2 → (∀ j, j < ws.length → bad j = none) → P.nx η2 S2) ∧ (∀ i w' S2, i < ws.length → (∀ j, j < i → bad j = none) → bad i = some w' → Ap S1 S2 → P.rt w' S2)) : (exec Φ (.for_ tg k it s) η S).sat P := by
  refine x_forI (h.mono fun xs S1 ⟨src, ws, bad, J, h1, h2, h3, h4, h5, h6⟩ => ⟨src, ws, fun i η2 S2 => (∀ j, j < i → bad j = none) ∧ J η2 ∧ Ap S1 S2, h1, fun i η2 S2 h => h2 S2 h.2.2, ⟨(fun j hj => by omega), h3, Ap.refl _⟩, fun i w η2 S2 hi h => ?_, fun η2 S2 h => h5 η2 S2 h.2.1 h.2.2 h.1⟩)
  obtain ⟨η1, e, q⟩ := h4 i w η2 S2 hi h.2.1 h.2.2 h.1
  have up : bad i = none → ∀ j, j < i + 1 → bad j = none := fun hb j hj => by
    by_cases e : j = i
    · rw [e]; exact hb
    · exact h.1 j (by omega)
  refine ⟨η1, e, q.mono (fun η3 S3 h' => ⟨up h'.1, h'.2⟩) (fun w' S3 h' => h6 i w' S3 (List.getElem?_eq_some_iff.mp hi).1 h.1 h'.1 h'.2) (fun η3 S3 h' => ⟨up h'.1, h'.2⟩) (fun _ _ h' => h'.elim)⟩
end
/-! the first of what is found -/
theorem first_none {α : Type} {n : Nat} {bad : Nat → Option α} (h : ∀ j, j < n → bad j = none) : (List.range n).findSome? bad = none := by
  rw [List.findSome?_eq_none_iff]
  intro x hx
  exact h x (List.mem_range.mp hx)
theorem first_some {α : Type} {n i : Nat} {bad : Nat → Option α} {w : α} (hi : i < n) (h : ∀ j, j < i → bad j = none) (e : bad i = some w) : (List.range n).findSome? bad = some w := by
  have q : List.range n = List.range i ++ i :: (List.range (n - i - 1)).map (· + (i + 1)) := by
    apply List.ext_getElem?
    intro k
    by_cases hk : k < i
    · rw [List.getElem?_append_left (by simpa using hk), List.getElem?_range hk, List.getElem?_range (by omega)]
    · rw [List.getElem?_append_right (by simpa using hk)]
      simp only [List.length_range]
      by_cases hk2 : k = i
      · subst hk2
        simp [List.getElem?_range hi]
      · obtain ⟨d, rfl⟩ : ∃ d, k = i + 1 + d := ⟨k - i - 1, by omega⟩
        rw [show i + 1 + d - i = d + 1 from by omega, List.getElem?_cons_succ, List.getElem?_map]
        by_cases hd : i + 1 + d < n
        · rw [List.getElem?_range hd, List.getElem?_range (by omega)]
          simp
          omega
        · rw [List.getElem?_eq_none (by simpa using by omega), List.getElem?_eq_none (by simpa using by omega)]
          rfl
  rw [q, List.findSome?_append, first_none h]
  simp [e]
section
variable {Φ : Fns} {η : Env} {S : Sto} {P : Post}
/-- a for that seeks -/
theorem x_forG {tg it : E} {k : Itk} {s : T} (h : (evals Φ it η S).sat fun xs S1 => ∃ src ws, ∃ bad : Nat → Option W, ∃ J : Env → Prop, srcOf k xs S1 = some (src, none) ∧ (∀ S2, Ap S1 S2 → src.now S2 = some ws) ∧ J η ∧
      (∀ i w η2 S2, ws[i]? = some w → J η2 → Ap S1 S2 → (∀ j, j < i → bad j = none) → ∃ η1, bindT tg w η2 = some η1 ∧ (exec Φ s η1 S2).sat ⟨fun η3 S3 => bad i = none ∧ J η3 ∧ Ap S1 S3, fun w' S3 => bad i = some w' ∧ Ap S1 S3, fun η3 S3 => bad i = none ∧ J η3 ∧ Ap S1 S3, fun _ _ => False⟩) ∧
      (∀ η2 S2, J η2 → Ap S1 S2 → (List.range ws.length).findSome? bad = none → P.nx η2 S2) ∧ (∀ w' S2, (List.range ws.length).findSome? bad = some w' → Ap S1 S2 → P.rt w' S2)) : (exec Φ (.for_ tg k it s) η S).sat P := by
  refine x_forF (h.mono fun xs S1 ⟨src, ws, bad, J, h1, h2, h3, h4, h5, h6⟩ => ⟨src, ws, bad, J, h1, h2, h3, h4, fun η2 S2 hJ ap hb => h5 η2 S2 hJ ap (first_none hb), fun i w' S2 hi hb e ap => h6 w' S2 (first_some hi hb e) ap⟩)
end
theorem first_map {α β : Type} {f : Nat → Option α} {g : α → β} : ∀ l : List Nat, (l.findSome? fun k => (f k).map g) = (l.findSome? f).map g
  | [] => rfl
  | a :: l => by
    rw [List.findSome?_cons, List.findSome?_cons]
    cases f a with
    | none => exact first_map l
    | some b => rfl
theorem first_iff {α : Type} {n : Nat} {f : Nat → Option α} : (List.range n).findSome? f = none ↔ ∀ j, j < n → f j = none := by
  rw [List.findSome?_eq_none_iff]
  exact ⟨fun h j hj => h j (List.mem_range.mpr hj), fun h x hx => h x (List.mem_range.mp hx)⟩
/-- the first k that is not well -/
def firstBad (n : Nat) (ok : Nat → Bool) : Option Nat := (List.range n).findSome? fun k => if ok k then none else some k
def badAs {α : Type} (ok : Nat → Bool) (g : Nat → α) (k : Nat) : Option α := if ok k then none else some (g k)
theorem first_bad {α : Type} {n : Nat} {ok : Nat → Bool} {g : Nat → α} : (List.range n).findSome? (badAs ok g) = (firstBad n ok).map g := by
  unfold firstBad
  rw [← first_map]
  congr 1
  funext k
  unfold badAs
  cases ok k <;> rfl
theorem badAs_none {α : Type} {ok : Nat → Bool} {g : Nat → α} {k : Nat} : badAs ok g k = none ↔ ok k = true := by
  unfold badAs
  cases ok k <;> simp
theorem badAs_some {α : Type} {ok : Nat → Bool} {g : Nat → α} {k : Nat} (h : ok k = false) : badAs ok g k = some (g k) := by
  unfold badAs
  rw [h]
  rfl
theorem firstBad_none {n : Nat} {ok : Nat → Bool} : firstBad n ok = none ↔ ∀ k, k < n → ok k = true := by
  unfold firstBad
  rw [first_iff]
  refine forall_congr' fun k => forall_congr' fun _ => ?_
  cases ok k <;> simp
/-! ### subscripts, lengths -/
section
variable {S : Sto}
theorem atI_nat {α : Type} {xs : List α} {k : Nat} : atI xs (k : Int) = xs[k]? := by
  unfold atI ixN
  rw [if_pos (by omega)]
  by_cases h : (k : Int) < xs.length
  · rw [if_pos h]
    simp
  · rw [if_neg h, List.getElem?_eq_none (by omega)]
    rfl
theorem ix_tup {ws : List W} {k : Nat} {w : W} (h : ws[k]? = some w) : ixW (.tup ws) (.int k) S = .ok w S := by
  simp only [ixW, ixL, atI_nat, h]
theorem ix_lst {n : Nat} {ws : List W} {k : Nat} {w : W} (hn : S[n]? = some (.lst ws)) (h : ws[k]? = some w) : ixW (.ref n) (.int k) S = .ok w S := by
  simp only [ixW, hn, ixO, ixL, atI_nat, h]
theorem len_tup {ws : List W} : bifW .len [.tup ws] S = .ok (.int ws.length) S := rfl
theorem len_str {x : Str} (h : x.length ≤ sizeLine) : bifW .len [.str x] S = .ok (.int x.length) S := by
  simp only [bifW, lenF]
  rw [if_pos h]
theorem len_lst {n : Nat} {ws : List W} (hn : S[n]? = some (.lst ws)) : bifW .len [.ref n] S = .ok (.int ws.length) S := by
  simp only [bifW, lenF, lenO, hn]
theorem eq_nil {a b : Nat} {ws : List W} (ha : S[a]? = some (.lst ws)) (hb : S[b]? = some (.lst [])) : cmpW .eq (.ref a) (.ref b) S = .ok (.bl ws.isEmpty) S := by
  have h : cmpW .eq (.ref a) (.ref b) S = if lenNe S (.ref a) (.ref b) then .ok (.bl false) S else onData S eqD (.ref a) (.ref b) := rfl
  rw [h]
  have e : lenNe S (.ref a) (.ref b) = (ws.length != 0) := by
    simp [lenNe, lstOf_at ha, lstOf_at hb]
  cases ws with
  | nil =>
    rw [e, if_neg (by simp)]
    have d : ∀ {c : Nat}, S[c]? = some (.lst []) → dataOf S (.ref c) = some (.list []) := fun {c} hc => by
      show toD S 60 (.ref c) = _
      simp [toD, lstOf_at hc, optAll]
    simp [onData, d ha, d hb, eqD, PyData.plain, PyData.plainAll, isDeep, PyData.depth, PyData.depthAll, deepMax, PyData.eqv, PyData.eqvAll]
  | cons x xs =>
    rw [e, if_pos (by simp)]
    rfl
theorem ne_nil {a b : Nat} {ws : List W} (ha : S[a]? = some (.lst ws)) (hb : S[b]? = some (.lst [])) : cmpW .ne (.ref a) (.ref b) S = .ok (.bl (!ws.isEmpty)) S := by
  have h : cmpW .ne (.ref a) (.ref b) S = if lenNe S (.ref a) (.ref b) then .ok (.bl true) S else onData S (fun d e => (eqD d e).map (!·)) (.ref a) (.ref b) := rfl
  rw [h]
  have e : lenNe S (.ref a) (.ref b) = (ws.length != 0) := by
    simp [lenNe, lstOf_at ha, lstOf_at hb]
  cases ws with
  | nil =>
    rw [e, if_neg (by simp)]
    have d : ∀ {c : Nat}, S[c]? = some (.lst []) → dataOf S (.ref c) = some (.list []) := fun {c} hc => by
      show toD S 60 (.ref c) = _
      simp [toD, lstOf_at hc, optAll]
    simp [onData, d ha, d hb, eqD, PyData.plain, PyData.plainAll, isDeep, PyData.depth, PyData.depthAll, deepMax, PyData.eqv, PyData.eqvAll]
  | cons x xs =>
    rw [e, if_pos (by simp)]
    rfl
theorem bls_map {f : W → Bool} : ∀ (ws : List W), blsOf (ws.map fun w => .bl (f w)) = some (ws.map f)
  | [] => rfl
  | w :: ws => by simp [blsOf, bls_map ws]
theorem all_map {n : Nat} {ws : List W} {f : W → Bool} (h : S[n]? = some (.lst (ws.map fun w => .bl (f w)))) : bifW .all [.ref n] S = .ok (.bl (ws.all f)) S := by
  simp [bifW, allF, lstOf_at h, bls_map]
end
/-! isinstance -/
theorem is_non_int {S : Sto}  : isiW S .non ["int"] = some false := by
  simp only [isiW, tyW, Option.map_some]
  decide
theorem is_non_bool {S : Sto}  : isiW S .non ["bool"] = some false := by
  simp only [isiW, tyW, Option.map_some]
  decide
theorem is_non_str {S : Sto}  : isiW S .non ["str"] = some false := by
  simp only [isiW, tyW, Option.map_some]
  decide
theorem is_non_tuple {S : Sto}  : isiW S .non ["tuple"] = some false := by
  simp only [isiW, tyW, Option.map_some]
  decide
theorem is_non_list {S : Sto}  : isiW S .non ["list"] = some false := by
  simp only [isiW, tyW, Option.map_some]
  decide
theorem is_non_dict {S : Sto}  : isiW S .non ["dict"] = some false := by
  simp only [isiW, tyW, Option.map_some]
  decide
theorem is_non_tl {S : Sto}  : isiW S .non ["tuple", "list"] = some false := by
  simp only [isiW, tyW, Option.map_some]
  decide
theorem is_bl_int {S : Sto} {b : Bool} : isiW S (.bl b) ["int"] = some true := by
  simp only [isiW, tyW, Option.map_some]
  decide
theorem is_bl_bool {S : Sto} {b : Bool} : isiW S (.bl b) ["bool"] = some true := by
  simp only [isiW, tyW, Option.map_some]
  decide
theorem is_bl_str {S : Sto} {b : Bool} : isiW S (.bl b) ["str"] = some false := by
  simp only [isiW, tyW, Option.map_some]
  decide
theorem is_bl_tuple {S : Sto} {b : Bool} : isiW S (.bl b) ["tuple"] = some false := by
  simp only [isiW, tyW, Option.map_some]
  decide
theorem is_bl_list {S : Sto} {b : Bool} : isiW S (.bl b) ["list"] = some false := by
  simp only [isiW, tyW, Option.map_some]
  decide
theorem is_bl_dict {S : Sto} {b : Bool} : isiW S (.bl b) ["dict"] = some false := by
  simp only [isiW, tyW, Option.map_some]
  decide
theorem is_bl_tl {S : Sto} {b : Bool} : isiW S (.bl b) ["tuple", "list"] = some false := by
  simp only [isiW, tyW, Option.map_some]
  decide
theorem is_int_int {S : Sto} {b : Int} : isiW S (.int b) ["int"] = some true := by
  simp only [isiW, tyW, Option.map_some]
  decide
theorem is_int_bool {S : Sto} {b : Int} : isiW S (.int b) ["bool"] = some false := by
  simp only [isiW, tyW, Option.map_some]
  decide
theorem is_int_str {S : Sto} {b : Int} : isiW S (.int b) ["str"] = some false := by
  simp only [isiW, tyW, Option.map_some]
  decide
theorem is_int_tuple {S : Sto} {b : Int} : isiW S (.int b) ["tuple"] = some false := by
  simp only [isiW, tyW, Option.map_some]
  decide
theorem is_int_list {S : Sto} {b : Int} : isiW S (.int b) ["list"] = some false := by
  simp only [isiW, tyW, Option.map_some]
  decide
theorem is_int_dict {S : Sto} {b : Int} : isiW S (.int b) ["dict"] = some false := by
  simp only [isiW, tyW, Option.map_some]
  decide
theorem is_int_tl {S : Sto} {b : Int} : isiW S (.int b) ["tuple", "list"] = some false := by
  simp only [isiW, tyW, Option.map_some]
  decide
theorem is_str_int {S : Sto} {b : Str} : isiW S (.str b) ["int"] = some false := by
  simp only [isiW, tyW, Option.map_some]
  decide
theorem is_str_bool {S : Sto} {b : Str} : isiW S (.str b) ["bool"] = some false := by
  simp only [isiW, tyW, Option.map_some]
  decide
theorem is_str_str {S : Sto} {b : Str} : isiW S (.str b) ["str"] = some true := by
  simp only [isiW, tyW, Option.map_some]
  decide
theorem is_str_tuple {S : Sto} {b : Str} : isiW S (.str b) ["tuple"] = some false := by
  simp only [isiW, tyW, Option.map_some]
  decide
theorem is_str_list {S : Sto} {b : Str} : isiW S (.str b) ["list"] = some false := by
  simp only [isiW, tyW, Option.map_some]
  decide
theorem is_str_dict {S : Sto} {b : Str} : isiW S (.str b) ["dict"] = some false := by
  simp only [isiW, tyW, Option.map_some]
  decide
theorem is_str_tl {S : Sto} {b : Str} : isiW S (.str b) ["tuple", "list"] = some false := by
  simp only [isiW, tyW, Option.map_some]
  decide
theorem is_tup_int {S : Sto} {b : List W} : isiW S (.tup b) ["int"] = some false := by
  simp only [isiW, tyW, Option.map_some]
  decide
theorem is_tup_bool {S : Sto} {b : List W} : isiW S (.tup b) ["bool"] = some false := by
  simp only [isiW, tyW, Option.map_some]
  decide
theorem is_tup_str {S : Sto} {b : List W} : isiW S (.tup b) ["str"] = some false := by
  simp only [isiW, tyW, Option.map_some]
  decide
theorem is_tup_tuple {S : Sto} {b : List W} : isiW S (.tup b) ["tuple"] = some true := by
  simp only [isiW, tyW, Option.map_some]
  decide
theorem is_tup_list {S : Sto} {b : List W} : isiW S (.tup b) ["list"] = some false := by
  simp only [isiW, tyW, Option.map_some]
  decide
theorem is_tup_dict {S : Sto} {b : List W} : isiW S (.tup b) ["dict"] = some false := by
  simp only [isiW, tyW, Option.map_some]
  decide
theorem is_tup_tl {S : Sto} {b : List W} : isiW S (.tup b) ["tuple", "list"] = some true := by
  simp only [isiW, tyW, Option.map_some]
  decide
theorem is_lst_int {S : Sto} {n : Nat} {b : List W} (h : S[n]? = some (.lst b)) : isiW S (.ref n) ["int"] = some false := by
  simp only [isiW, tyW, h, Option.map_some]
  decide
theorem is_dct_int {S : Sto} {n : Nat} {b : List (W × W)} (h : S[n]? = some (.dct b)) : isiW S (.ref n) ["int"] = some false := by
  simp only [isiW, tyW, h, Option.map_some]
  decide
theorem is_lst_bool {S : Sto} {n : Nat} {b : List W} (h : S[n]? = some (.lst b)) : isiW S (.ref n) ["bool"] = some false := by
  simp only [isiW, tyW, h, Option.map_some]
  decide
theorem is_dct_bool {S : Sto} {n : Nat} {b : List (W × W)} (h : S[n]? = some (.dct b)) : isiW S (.ref n) ["bool"] = some false := by
  simp only [isiW, tyW, h, Option.map_some]
  decide
theorem is_lst_str {S : Sto} {n : Nat} {b : List W} (h : S[n]? = some (.lst b)) : isiW S (.ref n) ["str"] = some false := by
  simp only [isiW, tyW, h, Option.map_some]
  decide
theorem is_dct_str {S : Sto} {n : Nat} {b : List (W × W)} (h : S[n]? = some (.dct b)) : isiW S (.ref n) ["str"] = some false := by
  simp only [isiW, tyW, h, Option.map_some]
  decide
theorem is_lst_tuple {S : Sto} {n : Nat} {b : List W} (h : S[n]? = some (.lst b)) : isiW S (.ref n) ["tuple"] = some false := by
  simp only [isiW, tyW, h, Option.map_some]
  decide
theorem is_dct_tuple {S : Sto} {n : Nat} {b : List (W × W)} (h : S[n]? = some (.dct b)) : isiW S (.ref n) ["tuple"] = some false := by
  simp only [isiW, tyW, h, Option.map_some]
  decide
theorem is_lst_list {S : Sto} {n : Nat} {b : List W} (h : S[n]? = some (.lst b)) : isiW S (.ref n) ["list"] = some true := by
  simp only [isiW, tyW, h, Option.map_some]
  decide
theorem is_dct_list {S : Sto} {n : Nat} {b : List (W × W)} (h : S[n]? = some (.dct b)) : isiW S (.ref n) ["list"] = some false := by
  simp only [isiW, tyW, h, Option.map_some]
  decide
theorem is_lst_dict {S : Sto} {n : Nat} {b : List W} (h : S[n]? = some (.lst b)) : isiW S (.ref n) ["dict"] = some false := by
  simp only [isiW, tyW, h, Option.map_some]
  decide
theorem is_dct_dict {S : Sto} {n : Nat} {b : List (W × W)} (h : S[n]? = some (.dct b)) : isiW S (.ref n) ["dict"] = some true := by
  simp only [isiW, tyW, h, Option.map_some]
  decide
theorem is_lst_tl {S : Sto} {n : Nat} {b : List W} (h : S[n]? = some (.lst b)) : isiW S (.ref n) ["tuple", "list"] = some true := by
  simp only [isiW, tyW, h, Option.map_some]
  decide
theorem is_dct_tl {S : Sto} {n : Nat} {b : List (W × W)} (h : S[n]? = some (.dct b)) : isiW S (.ref n) ["tuple", "list"] = some false := by
  simp only [isiW, tyW, h, Option.map_some]
  decide
theorem ix_0 {a0 : W} {r : List W} {S : Sto} : ixW (.tup (a0 :: r)) (.int 0) S = .ok a0 S := ix_tup (k := 0) rfl
theorem ix_1 {a0 a1 : W} {r : List W} {S : Sto} : ixW (.tup (a0 :: a1 :: r)) (.int 1) S = .ok a1 S := ix_tup (k := 1) rfl
theorem ix_2 {a0 a1 a2 : W} {r : List W} {S : Sto} : ixW (.tup (a0 :: a1 :: a2 :: r)) (.int 2) S = .ok a2 S := ix_tup (k := 2) rfl
theorem ix_3 {a0 a1 a2 a3 : W} {r : List W} {S : Sto} : ixW (.tup (a0 :: a1 :: a2 :: a3 :: r)) (.int 3) S = .ok a3 S := ix_tup (k := 3) rfl
theorem ix_4 {a0 a1 a2 a3 a4 : W} {r : List W} {S : Sto} : ixW (.tup (a0 :: a1 :: a2 :: a3 :: a4 :: r)) (.int 4) S = .ok a4 S := ix_tup (k := 4) rfl
theorem ix_5 {a0 a1 a2 a3 a4 a5 : W} {r : List W} {S : Sto} : ixW (.tup (a0 :: a1 :: a2 :: a3 :: a4 :: a5 :: r)) (.int 5) S = .ok a5 S := ix_tup (k := 5) rfl
theorem ix_6 {a0 a1 a2 a3 a4 a5 a6 : W} {r : List W} {S : Sto} : ixW (.tup (a0 :: a1 :: a2 :: a3 :: a4 :: a5 :: a6 :: r)) (.int 6) S = .ok a6 S := ix_tup (k := 6) rfl
theorem ix_7 {a0 a1 a2 a3 a4 a5 a6 a7 : W} {r : List W} {S : Sto} : ixW (.tup (a0 :: a1 :: a2 :: a3 :: a4 :: a5 :: a6 :: a7 :: r)) (.int 7) S = .ok a7 S := ix_tup (k := 7) rfl
theorem part_kI {i : Int} {S : Sto} {r : Res W} {Q : Option Int → Sto → Prop} : (partOf (.kI i) S r).sat Q ↔ r.sat fun w S1 => ∃ i, w = .int i ∧ Q (some i) S1 := partOf_sat rfl
theorem part_v {i : Nat} {S : Sto} {r : Res W} {Q : Option Int → Sto → Prop} : (partOf (.v i) S r).sat Q ↔ r.sat fun w S1 => ∃ i, w = .int i ∧ Q (some i) S1 := partOf_sat rfl
theorem part_bin {o : Bop} {a b : E} {S : Sto} {r : Res W} {Q : Option Int → Sto → Prop} : (partOf (.bin o a b) S r).sat Q ↔ r.sat fun w S1 => ∃ i, w = .int i ∧ Q (some i) S1 := partOf_sat rfl
theorem part_neg {a : E} {S : Sto} {r : Res W} {Q : Option Int → Sto → Prop} : (partOf (.neg a) S r).sat Q ↔ r.sat fun w S1 => ∃ i, w = .int i ∧ Q (some i) S1 := partOf_sat rfl
end PI

set_option Elab.async false
set_option linter.all false
set_option maxRecDepth 100000
set_option maxHeartbeats 4000000
/-! what an evaluation must raise; try -/
namespace PI
open L2
open PySem (Str PyData sizeLine)
def Res.xsat {α : Type} (r : Res α) (c : Str) (P : Sto → Prop) : Prop := ∃ S', r = .exc c [] S' ∧ P S'
def SRes.xsat (r : SRes) (c : Str) (P : Sto → Prop) : Prop := ∃ η S', r = .exc c [] η S' ∧ P S'
section
variable {α β : Type} {Φ : Fns} {η : Env} {S : Sto} {c : Str} {P : Sto → Prop}
theorem Res.xsat.mono {r : Res α} {P' : Sto → Prop} (h : r.xsat c P) (m : ∀ S', P S' → P' S') : r.xsat c P' := let ⟨S', e, p⟩ := h; ⟨S', e, m S' p⟩
theorem xr_bind {r : Res α} {f : α → Sto → Res β} (h : r.sat fun a S1 => (f a S1).xsat c P) : (r.bind f).xsat c P := by
  obtain ⟨a, S1, e, h⟩ := sat_iff.mp h
  rw [e]
  exact h
theorem xr_bind1 {r : Res α} {f : α → Sto → Res β} (h : r.xsat c P) : (r.bind f).xsat c P := by
  obtain ⟨S1, e, h⟩ := h
  rw [e]
  exact ⟨S1, rfl, h⟩
theorem xr_go {r : Res α} {f : α → Sto → SRes} (h : r.sat fun a S1 => (f a S1).xsat c P) : (r.go η f).xsat c P := by
  obtain ⟨a, S1, e, h⟩ := sat_iff.mp h
  rw [e]
  exact h
theorem xr_go1 {r : Res α} {f : α → Sto → SRes} (h : r.xsat c P) : (r.go η f).xsat c P := by
  obtain ⟨S1, e, h⟩ := h
  rw [e]
  exact ⟨η, S1, rfl, h⟩
theorem xr_call {f : Str} {es : E} (h : (evals Φ es η S).sat fun ws S1 => (Φ f ws S1).xsat c P) : (eval Φ (.call f es) η S).xsat c P := by
  rw [eval]
  exact xr_bind h
theorem xr_ex {e : E} (h : (eval Φ e η S).xsat c P) : (exec Φ (.ex e) η S).xsat c P := by
  rw [exec]
  exact xr_go1 h
theorem xr_ret {e : E} (h : (eval Φ e η S).xsat c P) : (exec Φ (.ret e) η S).xsat c P := by
  rw [exec]
  exact xr_go1 h
theorem xr_asg {tg e : E} (h : (eval Φ e η S).xsat c P) : (exec Φ (.asg tg e) η S).xsat c P := by
  rw [exec]
  exact xr_go1 h
theorem xr_rse (h : P S) : (exec Φ (.rse c [] .nil) η S).xsat c P := by
  rw [exec, evals]
  exact ⟨η, S, rfl, h⟩
theorem xr_seq1 {s t : T} (h : (exec Φ s η S).xsat c P) : (exec Φ (.seq s t) η S).xsat c P := by
  obtain ⟨η1, S1, e, h⟩ := h
  rw [exec, e]
  exact ⟨η1, S1, rfl, h⟩
theorem xr_seq2 {s t : T} (h : (exec Φ s η S).sat ⟨fun η1 S1 => (exec Φ t η1 S1).xsat c P, fun _ _ => False, fun _ _ => False, fun _ _ => False⟩) : (exec Φ (.seq s t) η S).xsat c P := by
  rw [exec]
  cases e : exec Φ s η S with
  | nx η1 S1 => rw [e] at h; exact h
  | _ => rw [e] at h; exact h.elim
theorem xr_ite {a : E} {s t : T} (h : cnd Φ a η S fun b S1 => b = true ∧ (exec Φ s η S1).xsat c P) : (exec Φ (.ite a s t) η S).xsat c P := by
  obtain ⟨w, S1, e, b, h1, rfl, h2⟩ := sat_iff.mp h
  rw [exec, e]
  show (((match truthW S1 w with
    | some t => Res.ok t S1
    | none => .bad) : Res Bool).go η _).xsat c P
  rw [h1]
  exact h2
theorem xr_ite0 {a : E} {s t : T} (h : cnd Φ a η S fun b S1 => b = false ∧ (exec Φ t η S1).xsat c P) : (exec Φ (.ite a s t) η S).xsat c P := by
  obtain ⟨w, S1, e, b, h1, rfl, h2⟩ := sat_iff.mp h
  rw [exec, e]
  show (((match truthW S1 w with
    | some t => Res.ok t S1
    | none => .bad) : Res Bool).go η _).xsat c P
  rw [h1]
  exact h2
theorem xr_def {Γ : List (Str × Def)} {f : Str} {d : Def} {n : Nat} {ws : List W} (hl : Γ.lookup f = some d) (hw : ws.length = d.params.length) (h : (exec (callN Γ n) d.body (startW d ws) S).xsat c P) : (callN Γ (n + 1) f ws S).xsat c P := by
  obtain ⟨η1, S1, e, h⟩ := h
  rw [callN_at hl]
  unfold runDef
  rw [if_pos hw, e]
  exact ⟨S1, rfl, h⟩
theorem e_isx {a : E} {all : List Str} {ds : List (Str × List Str)} {Q : W → Sto → Prop} : (eval Φ (.isx a all ds) η S).sat Q ↔ (eval Φ a η S).sat fun x S1 => ∃ b, isxW all ds x = some b ∧ Q (.bl b) S1 := by
  rw [eval, bind_sat]
  simp only [boolR_sat]
theorem x_try_ok {s : T} {x : Str} {all below : List Str} {i j : Nat} {P : Post} (h : (exec Φ s η S).sat P) : (exec Φ (.tryx s x all below i j) η S).sat P := by
  rw [exec]
  cases e : exec Φ s η S with
  | exc c fs η1 S1 => rw [e] at h; exact h.elim
  | _ => rw [e] at h; exact h
theorem x_try_exc {s : T} {x : Str} {all below : List Str} {i j : Nat} {P : Post} (h : (exec Φ s η S).xsat c fun S' => P.nx ((List.replicate η.length none).set j (some (.exc c [] []))) S') (h1 : all.contains c = true) (h2 : below.contains c = true) : (exec Φ (.tryx s x all below i j) η S).sat P := by
  obtain ⟨η1, S1, e, h⟩ := h
  rw [exec, e]
  simp only [if_pos h1, if_pos h2]
  exact h
end
end PI

set_option Elab.async false
set_option linter.all false
set_option maxRecDepth 100000
set_option maxHeartbeats 4000000
/-! finite values: their weight, their depth; a store that keeps all but one place -/
namespace PI
open L2
open PySem (Str PyData sizeLine)
def asc (x : Str) : Prop := ∀ c ∈ x.cps.toList, c < 128
/-- a store that has grown, and changed at place p alone -/
def Ext (p : Nat) (S S' : Sto) : Prop := S.length ≤ S'.length ∧ ∀ i o, i ≠ p → S[i]? = some o → S'[i]? = some o
theorem Ext.refl (p : Nat) (S : Sto) : Ext p S S := ⟨Nat.le_refl _, fun _ _ _ h => h⟩
theorem Ext.trans {p : Nat} {S S1 S2 : Sto} (h : Ext p S S1) (h' : Ext p S1 S2) : Ext p S S2 := ⟨Nat.le_trans h.1 h'.1, fun i o hi e => h'.2 i o hi (h.2 i o hi e)⟩
theorem Ap.ext {S S' : Sto} (h : Ap S S') (p : Nat) : Ext p S S' := ⟨h.len, fun _ _ _ e => h.at e⟩
theorem Ext.new (p : Nat) (S : Sto) (l : List O) : Ext p S (S ++ l) := (Ap.new S l).ext p
theorem Ext.at {p : Nat} {S S' : Sto} (h : Ext p S S') {n : Nat} {o : O} (hn : n ≠ p) (e : S[n]? = some o) : S'[n]? = some o := h.2 n o hn e
theorem Ext.setp {p : Nat} {S : Sto} {o : O} : Ext p S (S.set p o) := ⟨by simp, fun i o' hi e => by rw [List.getElem?_set_ne (by omega)]; exact e⟩
/-- a place that was not there is written -/
theorem Ext.fresh {p q : Nat} {S0 S : Sto} {o : O} (h : Ext p S0 S) (hq : S0.length ≤ q) : Ext p S0 (S.set q o) := ⟨by simpa using h.1, fun i o' hi e => by
  have := (List.getElem?_eq_some_iff.mp e).1
  rw [List.getElem?_set_ne (by omega)]
  exact h.2 i o' hi e⟩
theorem Ext.ok {p : Nat} {S S' : Sto} (h : Ext p S S') {w : W} (e : okW S.length w = true) : okW S'.length w = true := okW_mono h.1 w e
/-- .. that keeps all places but X -/
def ExtX (X : Nat → Prop) (S S' : Sto) : Prop := S.length ≤ S'.length ∧ ∀ i o, ¬ X i → S[i]? = some o → S'[i]? = some o
theorem ExtX.refl (X : Nat → Prop) (S : Sto) : ExtX X S S := ⟨Nat.le_refl _, fun _ _ _ h => h⟩
theorem ExtX.trans {X : Nat → Prop} {S S1 S2 : Sto} (h : ExtX X S S1) (h' : ExtX X S1 S2) : ExtX X S S2 := ⟨Nat.le_trans h.1 h'.1, fun i o hi e => h'.2 i o hi (h.2 i o hi e)⟩
theorem ExtX.at {X : Nat → Prop} {S S' : Sto} (h : ExtX X S S') {n : Nat} {o : O} (hn : ¬ X n) (e : S[n]? = some o) : S'[n]? = some o := h.2 n o hn e
theorem Ap.extX {S S' : Sto} (h : Ap S S') (X : Nat → Prop) : ExtX X S S' := ⟨h.len, fun _ _ _ e => h.at e⟩
theorem ExtX.new (X : Nat → Prop) (S : Sto) (l : List O) : ExtX X S (S ++ l) := (Ap.new S l).extX X
theorem Ext.x {p : Nat} {S S' : Sto} (h : Ext p S S') {X : Nat → Prop} (hp : X p) : ExtX X S S' := ⟨h.1, fun i o hi e => h.2 i o (fun q => hi (by rw [q]; exact hp)) e⟩
theorem ExtX.setx {X : Nat → Prop} {S : Sto} {q : Nat} {o : O} (hq : X q) : ExtX X S (S.set q o) := ⟨by simp, fun i o' hi e => by
  rw [List.getElem?_set_ne (fun z => hi (by rw [← z]; exact hq))]
  exact e⟩
/-- the places X: the stream's, and others that stand in S -/
structure Xb (X : Nat → Prop) (p : Nat) (S : Sto) : Prop where
  hp : X p
  lt : ∀ i, X i → i < S.length
theorem Xb.mono {X : Nat → Prop} {p : Nat} {S S' : Sto} (h : Xb X p S) (hl : S.length ≤ S'.length) : Xb X p S' := ⟨h.hp, fun i hi => Nat.lt_of_lt_of_le (h.lt i hi) hl⟩
theorem Xb.new {X : Nat → Prop} {p n : Nat} {S : Sto} (h : Xb X p S) (hn : S.length ≤ n) : ¬ X n := fun z => by
  have := h.lt n z
  omega
theorem Xb.ne {X : Nat → Prop} {p n : Nat} {S : Sto} (h : Xb X p S) (hn : ¬ X n) : n ≠ p := fun z => hn (by rw [z]; exact h.hp)
/-! sequences of weights -/
def Gs (P : W → Nat → Prop) : List W → Nat → Prop
  | [], _ => True
  | w :: ws, m => ∃ a b, P w a ∧ Gs P ws b ∧ a + 2 + b ≤ m
section
variable {P Q : W → Nat → Prop}
theorem Gs.mono (h : ∀ w a, P w a → Q w a) : ∀ {ws : List W} {m m' : Nat}, Gs P ws m → m ≤ m' → Gs Q ws m'
  | [], _, _, _, _ => trivial
  | w :: ws, m, m', ⟨a, b, h1, h2, h3⟩, hm => ⟨a, b, h w a h1, Gs.mono h h2 (Nat.le_refl _), by omega⟩
theorem Gs.le {ws : List W} {m m' : Nat} (h : Gs P ws m) (hm : m ≤ m') : Gs P ws m' := Gs.mono (fun _ _ h => h) h hm
theorem Gs.nil {m : Nat} : Gs P [] m := trivial
theorem Gs.cons {w : W} {ws : List W} {a b m : Nat} (h1 : P w a) (h2 : Gs P ws b) (h : a + 2 + b ≤ m) : Gs P (w :: ws) m := ⟨a, b, h1, h2, h⟩
theorem Gs.one {w : W} {a m : Nat} (h1 : P w a) (h : a + 2 ≤ m) : Gs P [w] m := ⟨a, 0, h1, trivial, by omega⟩
theorem Gs.app : ∀ {ws vs : List W} {a b m : Nat}, Gs P ws a → Gs P vs b → a + b ≤ m → Gs P (ws ++ vs) m
  | [], _, a, b, m, _, h2, h => Gs.le h2 (by omega)
  | w :: ws, _, a, b, m, ⟨c, d, h1, h3, h4⟩, h2, h => ⟨c, d + b, h1, Gs.app h3 h2 (Nat.le_refl _), by omega⟩
theorem Gs.mem : ∀ {ws : List W} {m : Nat} {w : W}, Gs P ws m → w ∈ ws → ∃ a, P w a ∧ a + 2 ≤ m
  | u :: ws, m, w, ⟨a, b, h1, h2, h3⟩, hw => by
    rcases List.mem_cons.mp hw with rfl | hw
    · exact ⟨a, h1, by omega⟩
    · obtain ⟨c, h4, h5⟩ := Gs.mem h2 hw
      exact ⟨c, h4, by omega⟩
theorem Gs.sub : ∀ {vs ws : List W} {m : Nat}, vs.Sublist ws → Gs P ws m → Gs P vs m
  | _, _, _, .slnil, _ => trivial
  | _, _, _, .cons _ s, ⟨a, b, h1, h2, h3⟩ => Gs.le (Gs.sub s h2) (by omega)
  | _, _, _, .cons₂ _ s, ⟨a, b, h1, h2, h3⟩ => ⟨a, b, h1, Gs.sub s h2, h3⟩
theorem Gs.rev : ∀ {ws : List W} {m : Nat}, Gs P ws m → Gs P ws.reverse m
  | [], _, _ => trivial
  | w :: ws, m, ⟨a, b, h1, h2, h3⟩ => by
    rw [List.reverse_cons]
    exact Gs.app (Gs.rev h2) (Gs.one h1 (Nat.le_refl _)) (by omega)
theorem Gs.get : ∀ {ws : List W} {m i : Nat} {w : W}, Gs P ws m → ws[i]? = some w → ∃ a, P w a ∧ a + 2 ≤ m ∧ ∀ v b, P v b → Gs P (ws.set i v) (m - a + b)
  | u :: ws, m, 0, w, ⟨a, b, h1, h2, h3⟩, hw => by
    simp at hw
    subst hw
    exact ⟨a, h1, by omega, fun v c hv => ⟨c, b, hv, h2, by omega⟩⟩
  | u :: ws, m, i + 1, w, ⟨a, b, h1, h2, h3⟩, hw => by
    obtain ⟨c, h4, h5, h6⟩ := Gs.get h2 (by simpa using hw)
    exact ⟨c, h4, by omega, fun v d hv => ⟨a, b - c + d, h1, h6 v d hv, by omega⟩⟩
theorem Gs.len : ∀ {ws : List W} {m : Nat}, Gs P ws m → 2 * ws.length ≤ m
  | [], _, _ => by simp
  | w :: ws, m, ⟨a, b, h1, h2, h3⟩ => by
    have := Gs.len h2
    rw [List.length_cons]
    omega
theorem Gs.of {c : Nat} : ∀ {ws : List W}, (∀ w ∈ ws, P w c) → Gs P ws (ws.length * (c + 2))
  | [], _ => trivial
  | w :: ws, h => ⟨c, ws.length * (c + 2), h w List.mem_cons_self, Gs.of fun v hv => h v (List.mem_cons_of_mem _ hv), by rw [List.length_cons, Nat.succ_mul]; omega⟩
theorem Gs.most {c n : Nat} {ws : List W} (h : ∀ w ∈ ws, P w c) (hn : ws.length ≤ n) : Gs P ws (n * (c + 2)) := Gs.le (Gs.of h) (Nat.mul_le_mul_right _ hn)
end
/-- a finite value: of depth k at most, its text of m signs at most; g bounds its ints; places X are not in it -/
def G (X : Nat → Prop) (S : Sto) (g : Nat) : Nat → W → Nat → Prop
  | 0, _, _ => False
  | _ + 1, .non, m => 4 ≤ m
  | _ + 1, .bl _, m => 5 ≤ m
  | _ + 1, .int i, m => i.natAbs.log2 ≤ g ∧ 10 * (i.natAbs.log2 + 3) ≤ m
  | _ + 1, .str x, m => asc x ∧ 10 * x.length + 2 ≤ m
  | k + 1, .tup ws, m => ∃ a, Gs (G X S g k) ws a ∧ a + 3 ≤ m
  | k + 1, .ref n, m => ¬ X n ∧ ((∃ ws a, S[n]? = some (.lst ws) ∧ Gs (G X S g k) ws a ∧ a + 3 ≤ m) ∨ (S[n]? = some (.dct []) ∧ 2 ≤ m) ∨ (S[n]? = some (.dct [(.str "a", .int 1)]) ∧ 8 ≤ m ∧ 1 ≤ k))
  | _ + 1, .scr _, _ => False
  | _ + 1, .exc _ _ _, _ => False
theorem G.mono {X : Nat → Prop} {S S' : Sto} {g g' : Nat} (hg : g ≤ g') (hS : ExtX X S S') : ∀ {k k' : Nat} {w : W} {m m' : Nat}, G X S g k w m → k ≤ k' → m ≤ m' → G X S' g' k' w m'
  | 0, _, _, _, _, h, _, _ => h.elim
  | k + 1, k', w, m, m', h, hk, hm => by
    obtain ⟨j, rfl⟩ : ∃ j, k' = j + 1 := ⟨k' - 1, by omega⟩
    have ih : ∀ w a, G X S g k w a → G X S' g' j w a := fun w a h => G.mono hg hS h (by omega) (Nat.le_refl _)
    cases w with
    | non => exact Nat.le_trans h hm
    | bl b => exact Nat.le_trans h hm
    | int i => exact ⟨Nat.le_trans h.1 hg, Nat.le_trans h.2 hm⟩
    | str x => exact ⟨h.1, Nat.le_trans h.2 hm⟩
    | tup ws =>
      obtain ⟨a, h1, h2⟩ := h
      exact ⟨a, Gs.mono ih h1 (Nat.le_refl _), by omega⟩
    | scr _ => exact h.elim
    | exc _ _ _ => exact h.elim
    | ref n =>
      obtain ⟨h0, h⟩ := h
      refine ⟨h0, ?_⟩
      rcases h with ⟨ws, a, h1, h2, h3⟩ | ⟨h1, h2⟩ | ⟨h1, h2, h3⟩
      · exact .inl ⟨ws, a, hS.at h0 h1, Gs.mono ih h2 (Nat.le_refl _), by omega⟩
      · exact .inr (.inl ⟨hS.at h0 h1, by omega⟩)
      · exact .inr (.inr ⟨hS.at h0 h1, by omega, by omega⟩)
theorem G.ext {X : Nat → Prop} {S S' : Sto} {g k m : Nat} {w : W} (h : G X S g k w m) (hS : ExtX X S S') : G X S' g k w m := h.mono (Nat.le_refl _) hS (Nat.le_refl _) (Nat.le_refl _)
theorem G.up {X : Nat → Prop} {S : Sto} {g g' k k' m m' : Nat} {w : W} (h : G X S g k w m) (hg : g ≤ g') (hk : k ≤ k') (hm : m ≤ m') : G X S g' k' w m' := h.mono hg (ExtX.refl _ _) hk hm
theorem Gs.ext {X : Nat → Prop} {S S' : Sto} {g k m : Nat} {ws : List W} (h : Gs (G X S g k) ws m) (hS : ExtX X S S') : Gs (G X S' g k) ws m := Gs.mono (fun _ _ h => h.ext hS) h (Nat.le_refl _)
theorem Gs.up {X : Nat → Prop} {S : Sto} {g g' k k' m m' : Nat} {ws : List W} (h : Gs (G X S g k) ws m) (hg : g ≤ g') (hk : k ≤ k') (hm : m ≤ m') : Gs (G X S g' k') ws m' := Gs.mono (fun _ _ h => h.up hg hk (Nat.le_refl _)) h hm
theorem G.ok {X : Nat → Prop} {S : Sto} {g : Nat} : ∀ {k : Nat} {w : W} {m : Nat}, G X S g k w m → m ≤ sizeLine → okW S.length w = true
  | 0, _, _, h, _ => h.elim
  | k + 1, w, m, h, hm => by
    cases w with
    | non => rfl
    | bl b => rfl
    | int i => rfl
    | str x =>
      have := h.2
      simp only [okW, decide_eq_true_eq]
      omega
    | tup ws =>
      obtain ⟨a, h1, h2⟩ := h
      simp only [okW]
      refine oksW_of fun w hw => ?_
      obtain ⟨b, h3, h4⟩ := Gs.mem h1 hw
      exact G.ok h3 (by omega)
    | scr _ => exact h.elim
    | exc _ _ _ => exact h.elim
    | ref n =>
      obtain ⟨h0, h⟩ := h
      simp only [okW, decide_eq_true_eq]
      rcases h with ⟨ws, a, h1, h2, h3⟩ | ⟨h1, h2⟩ | ⟨h1, h2⟩ <;> exact (List.getElem?_eq_some_iff.mp h1).1
/-! .. their data -/
theorem tupleText_le (ts : List Str) : (PySem.tupleText ts).length ≤ PySem.piled ts + 3 := by
  unfold PySem.tupleText
  rw [PySem.strLen_append, PySem.strLen_append]
  have e1 : ((("(" : String) : Str)).length = 1 := rfl
  have e3 : (((if ts.length == 1 then ",)" else ")" : String) : Str)).length ≤ 2 := by split <;> decide
  by_cases h : ts = []
  · subst h
    have e4 : (Str.join ", " []).length = 0 := rfl
    omega
  · have := PySem.join_length_add ts h
    omega
theorem listText_le (ts : List Str) : (PySem.listText ts).length ≤ PySem.piled ts + 3 := by
  unfold PySem.listText
  rw [PySem.strLen_append]
  have e2 : ((("]" : String) : Str)).length = 1 := rfl
  have e1 : ((("[" : String) : Str)).length = 1 := rfl
  cases ts with
  | nil =>
    show (("[" : String) : Str).length + _ ≤ _
    omega
  | cons t r =>
    have h := PySem.textFrom_length_pos r 1 ((("[" : String) : Str) ++ (if 0 > 0 then ", " else "" : String) ++ t) (by omega)
    rw [PySem.strLen_append, PySem.strLen_append] at h
    have e3 : (((if 0 > 0 then ", " else "" : String) : Str)).length = 0 := rfl
    rw [PySem.piled_cons]
    show (PySem.textFrom 1 _ r).length + _ ≤ _
    omega
theorem int_len {i : Int} : (((toString i : String) : Str)).length ≤ i.natAbs.log2 + 2 := by
  have := PySem.int_text_length_le (a := i) (k := i.natAbs.log2 + 1) (by omega) (by omega)
  rw [← PySem.ofString_length] at this
  show (Str.ofString (toString i)).length ≤ _
  omega
theorem int_asc {i : Int} : asc ((toString i : String) : Str) := by
  intro c hc
  by_cases h : c < 128
  · exact h
  · exact (PyProof.Rows.int_text_free' c ⟨by omega, by omega⟩ i hc).elim
theorem G.data {X : Nat → Prop} {S : Sto} {g : Nat} (hg : g < 1920) : ∀ {k : Nat} {w : W} {m : Nat}, G X S g k w m → ∀ j, k ≤ j → ∃ d, (∀ S', ExtX X S S' → toP S' j w = some d) ∧ d.showable = true ∧ d.shown.length ≤ m ∧ d.depth ≤ k
  | 0, _, _, h, _, _ => h.elim
  | k + 1, w, m, h, j', hj => by
    obtain ⟨j, rfl⟩ : ∃ j, j' = j + 1 := ⟨j' - 1, by omega⟩
    have ih : ∀ {ws : List W} {a : Nat}, Gs (G X S g k) ws a → ∃ ds, (∀ S', ExtX X S S' → optAll (ws.map (toP S' j)) = some ds) ∧ PyData.showableAll ds = true ∧ PySem.piled (PyData.shownAll ds) ≤ a ∧ PyData.depthAll ds ≤ k := by
      intro ws
      induction ws with
      | nil =>
        intro a _
        exact ⟨[], fun _ _ => rfl, by simp [PyData.showableAll], by simp [PyData.shownAll, PySem.piled], by simp [PyData.depthAll]⟩
      | cons w ws ihw =>
        rintro a ⟨b, c, h1, h2, h3⟩
        obtain ⟨d, q1, q2, q3, q4⟩ := G.data hg h1 j (by omega)
        obtain ⟨ds, r1, r2, r3, r4⟩ := ihw h2
        refine ⟨d :: ds, ?_, ?_, ?_, ?_⟩
        · intro S' e
          rw [List.map_cons, q1 S' e, optAll, r1 S' e]
          rfl
        · simp [PyData.showableAll, q2, r2]
        · rw [PyData.shownAll, PySem.piled_cons]
          omega
        · rw [PyData.depthAll]
          omega
    cases w with
    | non => exact ⟨.none, fun _ _ => rfl, rfl, by simp only [PyData.shown]; exact h, by simp [PyData.depth]⟩
    | bl b => exact ⟨.bool b, fun _ _ => rfl, rfl, by simp only [PyData.shown]; refine Nat.le_trans ?_ h; cases b <;> decide, by simp [PyData.depth]⟩
    | int i =>
      refine ⟨.int i, fun _ _ => rfl, ?_, ?_, by simp [PyData.depth]⟩
      · have := h.1
        simp only [PyData.showable, decide_eq_true_eq]
        omega
      · have := h.2
        have := int_len (i := i)
        simp only [PyData.shown]
        omega
    | str x =>
      refine ⟨.str x, fun _ _ => rfl, rfl, ?_, by simp [PyData.depth]⟩
      have := PySem.StrLaws.reprText_len x fun c hc => by have := h.1 c hc; omega
      have := h.2
      simp only [PyData.shown]
      omega
    | tup ws =>
      obtain ⟨a, h1, h2⟩ := h
      obtain ⟨ds, r1, r2, r3, r4⟩ := ih h1
      refine ⟨.tuple ds, ?_, ?_, ?_, ?_⟩
      · intro S' e
        show (optAll (ws.map (toP S' j))).map PyData.tuple = _
        rw [r1 S' e]
        rfl
      · simpa [PyData.showable] using r2
      · have := tupleText_le (PyData.shownAll ds)
        simp only [PyData.shown]
        omega
      · simp only [PyData.depth]
        omega
    | scr _ => exact h.elim
    | exc _ _ _ => exact h.elim
    | ref n =>
      obtain ⟨h0, h⟩ := h
      rcases h with ⟨ws, a, h1, h2, h3⟩ | ⟨h1, h2⟩ | ⟨h1, h2, h3⟩
      · obtain ⟨ds, r1, r2, r3, r4⟩ := ih h2
        refine ⟨.list ds, ?_, ?_, ?_, ?_⟩
        · intro S' e
          simp only [toP, lstOf_at (e.at h0 h1), r1 S' e]
          rfl
        · simpa [PyData.showable] using r2
        · have := listText_le (PyData.shownAll ds)
          simp only [PyData.shown]
          omega
        · simp only [PyData.depth]
          omega
      · refine ⟨.dict [], ?_, by simp [PyData.showable, PyData.showableKv], ?_, by simp [PyData.depth, PyData.depthKv]⟩
        · intro S' e
          simp [toP, lstOf, dctOf, e.at h0 h1, optAll]
        · have : (PyData.dict []).shown.length = 2 := by decide +kernel
          omega
      · obtain ⟨j, rfl⟩ : ∃ i, j = i + 1 := ⟨j - 1, by omega⟩
        refine ⟨.dict [(.str "a", .int 1)], ?_, by decide +kernel, ?_, by simp [PyData.depth, PyData.depthKv]⟩
        · intro S' e
          simp [toP, lstOf, dctOf, e.at h0 h1, optAll, pairOpt]
        · have : (PyData.dict [(.str "a", .int 1)]).shown.length = 8 := by decide +kernel
          omega
/-- fewer places -/
theorem G.less {X Y : Nat → Prop} {S : Sto} {g : Nat} (h : ∀ i, i < S.length → Y i → X i) : ∀ {k : Nat} {w : W} {m : Nat}, G X S g k w m → G Y S g k w m
  | 0, _, _, q => q.elim
  | k + 1, w, m, q => by
    cases w with
    | non => exact q
    | bl b => exact q
    | int i => exact q
    | str x => exact q
    | tup ws =>
      obtain ⟨a, h1, h2⟩ := q
      exact ⟨a, Gs.mono (fun w a => G.less h) h1 (Nat.le_refl _), h2⟩
    | scr _ => exact q.elim
    | exc _ _ _ => exact q.elim
    | ref n =>
      obtain ⟨h0, q⟩ := q
      have hn : n < S.length := by
        rcases q with ⟨ws, a, h1, h2, h3⟩ | ⟨h1, h2⟩ | ⟨h1, h2⟩ <;> exact (List.getElem?_eq_some_iff.mp h1).1
      refine ⟨fun z => h0 (h n hn z), ?_⟩
      rcases q with ⟨ws, a, h1, h2, h3⟩ | q | q
      · exact .inl ⟨ws, a, h1, Gs.mono (fun w a => G.less h) h2 (Nat.le_refl _), h3⟩
      · exact .inr (.inl q)
      · exact .inr (.inr q)
/-- a finite value's text -/
theorem G.repr {X : Nat → Prop} {S : Sto} {g k m : Nat} {w : W} (h : G X S g k w m) (hg : g < 1920) (hk : k ≤ 60) (hm : m ≤ sizeLine) : ∃ x : Str, x.length ≤ sizeLine ∧ ∀ S', ExtX X S S' → reprR S' w = .ok (.str x) S' := by
  obtain ⟨d, h1, h2, h3, h4⟩ := G.data hg h 60 hk
  refine ⟨d.shown, by omega, fun S' e => ?_⟩
  unfold reprR
  rw [show deepMax = 60 from rfl, h1 S' e]
  show (if _ then _ else _) = _
  rw [if_pos ⟨h2, by omega, by omega⟩]
end PI

set_option Elab.async false
set_option linter.all false
set_option maxRecDepth 100000
set_option maxHeartbeats 0
/-! the law's text as the evaluator has it (printed by mk.py) -/
namespace Law
open PySem L2 PI
abbrev gall : List Str := ["SlotmapsError", "BadAtlas", "UnknownMap", "BadAddress", "BadPlace", "BadPoint", "BadPort", "BadRoute", "BadTrip", "BadStep", "BadCost", "BadDepth", "BadLabel", "BadModulus", "BadSlot", "BadEdit", "BadText", "BadCommand", "NoEdge", "NoRoute", "NotInside", "NotJoined", "TooLarge", "NothingToDo", "NotReady"]
def d__law_pen : PI.Def where
  params := ["script"]
  names := ["script"]
  body := (.seq (.ret (.dct (.cons (.kS "cells") (.cons (.bif .list (.cons (.sl (.v 0) .noE (.kI 63)) .nil)) (.cons (.kS "at") (.cons (.kI 0) (.cons (.kS "rest") (.cons (.kI 0) .nil))))))))
  .nil)
def d__law_draw : PI.Def where
  params := ["pen", "many"]
  names := ["pen", "many", "at", "cell", "mixed", "digit"]
  body := (.seq (.ite (.cmp .gt (.ix (.v 0) (.kS "rest")) (.kI 0)) (.seq (.asg (.v 5) (.bin .mod (.ix (.v 0) (.kS "rest")) (.v 1)))
  (.seq (.asg (.ix (.v 0) (.kS "rest")) (.bin .fdiv (.ix (.v 0) (.kS "rest")) (.v 1)))
  (.seq (.ret (.v 5))
  .nil))) .nil)
  (.seq (.asg (.v 2) (.ix (.v 0) (.kS "at")))
  (.seq (.asg (.ix (.v 0) (.kS "at")) (.bin .add (.v 2) (.kI 1)))
  (.seq (.asg (.v 3) (.kI 41))
  (.seq (.ite (.cmp .ne (.ix (.v 0) (.kS "cells")) (.lst .nil)) (.seq (.asg (.v 3) (.bif .abs (.cons (.ix (.ix (.v 0) (.kS "cells")) (.bin .mod (.v 2) (.bif .len (.cons (.ix (.v 0) (.kS "cells")) .nil)))) .nil)))
  .nil) .nil)
  (.seq (.ite (.boo true (.cons (.cmp .lt (.v 2) (.bif .len (.cons (.ix (.v 0) (.kS "cells")) .nil))) (.cons (.cmp .ge (.v 3) (.bin .pow (.kI 10) (.kI 18))) .nil))) (.seq (.asg (.ix (.v 0) (.kS "rest")) (.bin .fdiv (.bin .sub (.v 3) (.bin .pow (.kI 10) (.kI 18))) (.v 1)))
  (.seq (.ret (.bin .mod (.bin .sub (.v 3) (.bin .pow (.kI 10) (.kI 18))) (.v 1)))
  .nil)) .nil)
  (.seq (.asg (.v 4) (.bin .mod (.bin .mul (.bin .add (.bin .mod (.v 3) (.kI 2147483587)) (.kI 17)) (.bin .add (.bin .add (.bin .mul (.v 2) (.v 2)) (.bin .mul (.kI 9) (.v 2))) (.kI 23))) (.kI 2147483647)))
  (.seq (.asg (.v 4) (.bin .mod (.bin .mul (.bin .add (.bin .mod (.bin .mul (.v 4) (.v 4)) (.kI 2147483629)) (.bin .mul (.kI 50021) (.v 2))) (.kI 16807)) (.kI 2147483579)))
  (.seq (.ret (.bin .mod (.bin .fdiv (.v 4) (.kI 32)) (.v 1)))
  .nil)))))))))
def d__law_pick : PI.Def where
  params := ["pen", "items"]
  names := ["pen", "items"]
  body := (.seq (.ret (.ix (.v 1) (.call "_law_draw" (.cons (.v 0) (.cons (.bif .len (.cons (.v 1) .nil)) .nil)))))
  .nil)
def d__law_made : PI.Def where
  params := ["reason", "number"]
  names := ["reason", "number", "found"]
  body := (.seq (.asg (.v 2) (.lst (.cons (.new1 "BadAtlas" "reason" (.v 0)) (.cons (.new1 "BadRoute" "position" (.v 1)) (.cons (.new1 "BadTrip" "position" (.v 1)) (.cons (.new1 "BadText" "line" (.v 1)) (.cons (.new0 "UnknownMap") (.cons (.new0 "BadAddress") .nil))))))))
  (.seq (.asg (.v 2) (.bin .add (.v 2) (.lst (.cons (.new0 "BadPlace") (.cons (.new0 "BadPoint") (.cons (.new0 "BadPort") (.cons (.new0 "BadStep") (.cons (.new0 "BadCost") (.cons (.new0 "BadDepth") (.cons (.new0 "BadLabel") (.cons (.new0 "BadModulus") .nil)))))))))))
  (.seq (.asg (.v 2) (.bin .add (.v 2) (.lst (.cons (.new0 "BadSlot") (.cons (.new0 "BadEdit") (.cons (.new0 "BadCommand") (.cons (.new0 "NoEdge") (.cons (.new0 "NoRoute") (.cons (.new0 "NotInside") (.cons (.new0 "NotJoined") (.cons (.new0 "TooLarge") .nil)))))))))))
  (.seq (.ret (.v 2))
  .nil))))
def d__law_kinds : PI.Def where
  params := ["error"]
  names := ["error", "found"]
  body := (.seq (.asg (.v 1) (.lst (.cons (.isx (.v 0) gall [("BadAtlas", ["BadAtlas"])]) (.cons (.isx (.v 0) gall [("BadRoute", ["BadRoute"])]) (.cons (.isx (.v 0) gall [("BadTrip", ["BadTrip"])]) .nil)))))
  (.seq (.asg (.v 1) (.bin .add (.v 1) (.lst (.cons (.isx (.v 0) gall [("BadText", ["BadText"])]) (.cons (.isx (.v 0) gall [("UnknownMap", ["UnknownMap"])]) (.cons (.isx (.v 0) gall [("BadAddress", ["BadAddress"])]) .nil))))))
  (.seq (.asg (.v 1) (.bin .add (.v 1) (.lst (.cons (.isx (.v 0) gall [("BadPlace", ["BadPlace"])]) (.cons (.isx (.v 0) gall [("BadPoint", ["BadPoint"])]) (.cons (.isx (.v 0) gall [("BadPort", ["BadPort"])]) .nil))))))
  (.seq (.asg (.v 1) (.bin .add (.v 1) (.lst (.cons (.isx (.v 0) gall [("BadStep", ["BadStep"])]) (.cons (.isx (.v 0) gall [("BadCost", ["BadCost"])]) (.cons (.isx (.v 0) gall [("BadDepth", ["BadDepth"])]) .nil))))))
  (.seq (.asg (.v 1) (.bin .add (.v 1) (.lst (.cons (.isx (.v 0) gall [("BadLabel", ["BadLabel"])]) (.cons (.isx (.v 0) gall [("BadModulus", ["BadModulus"])]) (.cons (.isx (.v 0) gall [("BadSlot", ["BadSlot"])]) .nil))))))
  (.seq (.asg (.v 1) (.bin .add (.v 1) (.lst (.cons (.isx (.v 0) gall [("BadEdit", ["BadEdit"])]) (.cons (.isx (.v 0) gall [("BadCommand", ["BadCommand"])]) (.cons (.isx (.v 0) gall [("NoEdge", ["NoEdge"])]) .nil))))))
  (.seq (.asg (.v 1) (.bin .add (.v 1) (.lst (.cons (.isx (.v 0) gall [("NoRoute", ["NoRoute"])]) (.cons (.isx (.v 0) gall [("NotInside", ["NotInside"])]) (.cons (.isx (.v 0) gall [("NotJoined", ["NotJoined"])]) .nil))))))
  (.seq (.ret (.bin .add (.v 1) (.lst (.cons (.isx (.v 0) gall [("TooLarge", ["TooLarge"])]) .nil))))
  .nil))))))))
def d__law_bases : PI.Def where
  params := ["error"]
  names := ["error", "found"]
  body := (.seq (.asg (.v 1) (.lst (.cons (.isx (.v 0) gall [("SlotmapsError", ["SlotmapsError", "BadAtlas", "UnknownMap", "BadAddress", "BadPlace", "BadPoint", "BadPort", "BadRoute", "BadTrip", "BadStep", "BadCost", "BadDepth", "BadLabel", "BadModulus", "BadSlot", "BadEdit", "BadText", "BadCommand", "NoEdge", "NoRoute", "NotInside", "NotJoined", "TooLarge"])]) (.cons (.isx (.v 0) gall [("ValueError", ["SlotmapsError", "BadAtlas", "UnknownMap", "BadAddress", "BadPlace", "BadPoint", "BadPort", "BadRoute", "BadTrip", "BadStep", "BadCost", "BadDepth", "BadLabel", "BadModulus", "BadSlot", "BadEdit", "BadText", "BadCommand", "NoEdge", "NoRoute", "NotInside", "NotJoined", "TooLarge"])]) .nil))))
  (.seq (.ret (.bin .add (.v 1) (.lst (.cons (.isx (.v 0) gall [("LookupError", ["NothingToDo"])]) (.cons (.isx (.v 0) gall [("RuntimeError", ["NotReady"])]) .nil)))))
  .nil))
def d__law_reason : PI.Def where
  params := ["pen"]
  names := ["pen", "k", "e"]
  body := (.seq (.asg (.tup (.cons (.v 1) (.cons (.v 2) .nil))) (.tup (.cons (.call "_law_draw" (.cons (.v 0) (.cons (.kI 8) .nil))) (.cons (.call "_law_draw" (.cons (.v 0) (.cons (.kI 40) .nil))) .nil))))
  (.seq (.ret (.call "_law_pick" (.cons (.v 0) (.cons (.lst (.cons (.tup (.cons (.kS "atlas") .nil)) (.cons (.tup (.cons (.kS "map") (.cons (.v 1) .nil))) (.cons (.tup (.cons (.kS "slot") (.cons (.v 1) (.cons (.bin .mod (.v 2) (.kI 4)) .nil)))) (.cons (.tup (.cons (.kS "edges") (.cons (.v 1) .nil))) (.cons (.tup (.cons (.kS "edge") (.cons (.v 1) (.cons (.v 2) .nil)))) .nil)))))) .nil))))
  .nil))
def d_law : PI.Def where
  params := ["script"]
  names := ["script", "pen", "turn", "errors", "n", "reason", "number", "k"]
  body := (.seq (.asg (.v 1) (.call "_law_pen" (.cons (.v 0) .nil)))
  (.seq (.for_ (.v 2) .range1 (.cons (.kI 4) .nil) (.seq (.asg (.tup (.cons (.v 5) (.cons (.v 6) .nil))) (.tup (.cons (.call "_law_reason" (.cons (.v 1) .nil)) (.cons (.call "_law_draw" (.cons (.v 1) (.cons (.kI 500) .nil))) .nil))))
  (.seq (.asg (.v 3) (.call "_law_made" (.cons (.v 5) (.cons (.v 6) .nil))))
  (.seq (.for_ (.v 4) .range1 (.cons (.kI 22) .nil) (.seq (.ite (.cmp .ne (.call "_law_bases" (.cons (.ix (.v 3) (.v 4)) .nil)) (.lst (.cons (.kB true) (.cons (.kB true) (.cons (.kB false) (.cons (.kB false) .nil)))))) (.seq (.ret (.kB false))
  .nil) .nil)
  (.seq (.ite (.cmp .ne (.call "_law_kinds" (.cons (.ix (.v 3) (.v 4)) .nil)) (.lc (.cmp .eq (.v 7) (.v 4)) (.v 7) .range1 (.cons (.kI 22) .nil) .noE [("k", 7)])) (.seq (.ret (.kB false))
  .nil) .nil)
  .nil)))
  (.seq (.ite (.boo false (.cons (.cmp .ne (.fld (.ix (.v 3) (.kI 0)) "reason" ["BadAtlas"]) (.v 5)) (.cons (.cmp .ne (.lst (.cons (.fld (.ix (.v 3) (.kI 1)) "position" ["BadRoute", "BadTrip"]) (.cons (.fld (.ix (.v 3) (.kI 2)) "position" ["BadRoute", "BadTrip"]) (.cons (.fld (.ix (.v 3) (.kI 3)) "line" ["BadText"]) .nil)))) (.bin .mul (.lst (.cons (.v 6) .nil)) (.kI 3))) .nil))) (.seq (.ret (.kB false))
  .nil) .nil)
  (.seq (.ite (.cmp .ne (.call "_law_bases" (.cons (.new0 "NothingToDo") .nil)) (.lst (.cons (.kB false) (.cons (.kB false) (.cons (.kB true) (.cons (.kB false) .nil)))))) (.seq (.ret (.kB false))
  .nil) .nil)
  (.seq (.ite (.cmp .ne (.call "_law_bases" (.cons (.new0 "NotReady") .nil)) (.lst (.cons (.kB false) (.cons (.kB false) (.cons (.kB false) (.cons (.kB true) .nil)))))) (.seq (.ret (.kB false))
  .nil) .nil)
  .nil)))))))
  (.seq (.ret (.kB true))
  .nil)))
def Γ : List (Str × PI.Def) := ([("_law_pen", d__law_pen), ("_law_draw", d__law_draw), ("_law_pick", d__law_pick), ("_law_made", d__law_made), ("_law_kinds", d__law_kinds), ("_law_bases", d__law_bases), ("_law_reason", d__law_reason), ("law", d_law)] : List (Str × PI.Def))
def gfns : List (Str × Nat) := ([("_law_pen", 1), ("_law_draw", 2), ("_law_pick", 2), ("_law_made", 2), ("_law_kinds", 1), ("_law_bases", 1), ("_law_reason", 1), ("law", 1)] : List (Str × Nat))
theorem l__law_pen : Γ.lookup ("_law_pen" : Str) = some d__law_pen := by rfl
theorem l__law_draw : Γ.lookup ("_law_draw" : Str) = some d__law_draw := by rfl
theorem l__law_pick : Γ.lookup ("_law_pick" : Str) = some d__law_pick := by rfl
theorem l__law_made : Γ.lookup ("_law_made" : Str) = some d__law_made := by rfl
theorem l__law_kinds : Γ.lookup ("_law_kinds" : Str) = some d__law_kinds := by rfl
theorem l__law_bases : Γ.lookup ("_law_bases" : Str) = some d__law_bases := by rfl
theorem l__law_reason : Γ.lookup ("_law_reason" : Str) = some d__law_reason := by rfl
theorem l_law : Γ.lookup ("law" : Str) = some d_law := by rfl
end Law

set_option Elab.async false
set_option linter.all false
set_option maxRecDepth 100000
set_option maxHeartbeats 0
namespace Law
open PySem PySem.Spec PyProof.Rows L2 PI
def G : Sig where
  fns := gfns
  blt := ["abs", "isinstance", "len", "list", "range"]
  cs := []
  all := gall
  sub := [("BadAddress", ["BadAddress"]), ("BadAtlas", ["BadAtlas"]), ("BadCommand", ["BadCommand"]), ("BadCost", ["BadCost"]), ("BadDepth", ["BadDepth"]), ("BadEdit", ["BadEdit"]), ("BadLabel", ["BadLabel"]), ("BadModulus", ["BadModulus"]), ("BadPlace", ["BadPlace"]), ("BadPoint", ["BadPoint"]), ("BadPort", ["BadPort"]), ("BadRoute", ["BadRoute"]), ("BadSlot", ["BadSlot"]), ("BadStep", ["BadStep"]), ("BadText", ["BadText"]), ("BadTrip", ["BadTrip"]), ("LookupError", ["NothingToDo"]), ("NoEdge", ["NoEdge"]), ("NoRoute", ["NoRoute"]), ("NotInside", ["NotInside"]), ("NotJoined", ["NotJoined"]), ("RuntimeError", ["NotReady"]), ("SlotmapsError", ["SlotmapsError", "BadAtlas", "UnknownMap", "BadAddress", "BadPlace", "BadPoint", "BadPort", "BadRoute", "BadTrip", "BadStep", "BadCost", "BadDepth", "BadLabel", "BadModulus", "BadSlot", "BadEdit", "BadText", "BadCommand", "NoEdge", "NoRoute", "NotInside", "NotJoined", "TooLarge"]), ("TooLarge", ["TooLarge"]), ("UnknownMap", ["UnknownMap"]), ("ValueError", ["SlotmapsError", "BadAtlas", "UnknownMap", "BadAddress", "BadPlace", "BadPoint", "BadPort", "BadRoute", "BadTrip", "BadStep", "BadCost", "BadDepth", "BadLabel", "BadModulus", "BadSlot", "BadEdit", "BadText", "BadCommand", "NoEdge", "NoRoute", "NotInside", "NotJoined", "TooLarge"])]
  raw := ["BadAddress", "BadCommand", "BadCost", "BadDepth", "BadEdit", "BadLabel", "BadModulus", "BadPlace", "BadPoint", "BadPort", "BadSlot", "BadStep", "NoEdge", "NoRoute", "NotInside", "NotJoined", "NotReady", "NothingToDo", "TooLarge", "UnknownMap"]
  fld := [("BadAtlas", "reason"), ("BadRoute", "position"), ("BadText", "line"), ("BadTrip", "position")]
abbrev bd : List Stmt := PySem.Challenge.pw_slotmaps_k87_error_classes.main.body
def top (i : Nat) : Stmt := bd.getD i (.Pass ⟨0, 0, 0, 0⟩)
theorem c__law_pen : (C8.scC d__law_pen.names d__law_pen.params (defScope (top 27)) && ckS d__law_pen.names G d__law_pen.body (fun _ => true) (defScope (top 27)) (defBody (top 27))) = true := by decide +kernel
theorem c__law_draw : (C8.scC d__law_draw.names d__law_draw.params (defScope (top 28)) && ckS d__law_draw.names G d__law_draw.body (fun _ => true) (defScope (top 28)) (defBody (top 28))) = true := by decide +kernel
theorem c__law_pick : (C8.scC d__law_pick.names d__law_pick.params (defScope (top 29)) && ckS d__law_pick.names G d__law_pick.body (fun _ => true) (defScope (top 29)) (defBody (top 29))) = true := by decide +kernel
theorem c__law_made : (C8.scC d__law_made.names d__law_made.params (defScope (top 30)) && ckS d__law_made.names G d__law_made.body (fun _ => true) (defScope (top 30)) (defBody (top 30))) = true := by decide +kernel
theorem c__law_kinds : (C8.scC d__law_kinds.names d__law_kinds.params (defScope (top 31)) && ckS d__law_kinds.names G d__law_kinds.body (fun _ => true) (defScope (top 31)) (defBody (top 31))) = true := by decide +kernel
theorem c__law_bases : (C8.scC d__law_bases.names d__law_bases.params (defScope (top 32)) && ckS d__law_bases.names G d__law_bases.body (fun _ => true) (defScope (top 32)) (defBody (top 32))) = true := by decide +kernel
theorem c__law_reason : (C8.scC d__law_reason.names d__law_reason.params (defScope (top 33)) && ckS d__law_reason.names G d__law_reason.body (fun _ => true) (defScope (top 33)) (defBody (top 33))) = true := by decide +kernel
theorem c_law : (C8.scC d_law.names d_law.params (defScope (top 34)) && ckS d_law.names G d_law.body (fun _ => true) (defScope (top 34)) (defBody (top 34))) = true := by decide +kernel
def m_BadAtlas : Stmt := (C8.clsBody (top 2)).getD 0 (.Pass ⟨0, 0, 0, 0⟩)
theorem ci_BadAtlas : initC "SlotmapsError" "reason" (defScope m_BadAtlas) (defBody m_BadAtlas) = true := by decide +kernel
def m_BadRoute : Stmt := (C8.clsBody (top 8)).getD 0 (.Pass ⟨0, 0, 0, 0⟩)
theorem ci_BadRoute : initC "SlotmapsError" "position" (defScope m_BadRoute) (defBody m_BadRoute) = true := by decide +kernel
def m_BadText : Stmt := (C8.clsBody (top 17)).getD 0 (.Pass ⟨0, 0, 0, 0⟩)
theorem ci_BadText : initC "SlotmapsError" "line" (defScope m_BadText) (defBody m_BadText) = true := by decide +kernel
def m_BadTrip : Stmt := (C8.clsBody (top 9)).getD 0 (.Pass ⟨0, 0, 0, 0⟩)
theorem ci_BadTrip : initC "SlotmapsError" "position" (defScope m_BadTrip) (defBody m_BadTrip) = true := by decide +kernel
def h__law_pen : He.DefD := ⟨("_law_pen", none), "_law_pen", "_law_pen", defArgs (top 27), defBody (top 27), defScope (top 27), [], []⟩
def h__law_draw : He.DefD := ⟨("_law_draw", none), "_law_draw", "_law_draw", defArgs (top 28), defBody (top 28), defScope (top 28), [], []⟩
def h__law_pick : He.DefD := ⟨("_law_pick", none), "_law_pick", "_law_pick", defArgs (top 29), defBody (top 29), defScope (top 29), [], []⟩
def h__law_made : He.DefD := ⟨("_law_made", none), "_law_made", "_law_made", defArgs (top 30), defBody (top 30), defScope (top 30), [], []⟩
def h__law_kinds : He.DefD := ⟨("_law_kinds", none), "_law_kinds", "_law_kinds", defArgs (top 31), defBody (top 31), defScope (top 31), [], []⟩
def h__law_bases : He.DefD := ⟨("_law_bases", none), "_law_bases", "_law_bases", defArgs (top 32), defBody (top 32), defScope (top 32), [], []⟩
def h__law_reason : He.DefD := ⟨("_law_reason", none), "_law_reason", "_law_reason", defArgs (top 33), defBody (top 33), defScope (top 33), [], []⟩
def h_law : He.DefD := ⟨("law", none), "law", "law", defArgs (top 34), defBody (top 34), defScope (top 34), [], []⟩
def hi_BadAtlas : He.DefD := ⟨("BadAtlas", some "__init__"), "__init__", "BadAtlas.__init__", defArgs m_BadAtlas, defBody m_BadAtlas, defScope m_BadAtlas, [], []⟩
def hi_BadRoute : He.DefD := ⟨("BadRoute", some "__init__"), "__init__", "BadRoute.__init__", defArgs m_BadRoute, defBody m_BadRoute, defScope m_BadRoute, [], []⟩
def hi_BadText : He.DefD := ⟨("BadText", some "__init__"), "__init__", "BadText.__init__", defArgs m_BadText, defBody m_BadText, defScope m_BadText, [], []⟩
def hi_BadTrip : He.DefD := ⟨("BadTrip", some "__init__"), "__init__", "BadTrip.__init__", defArgs m_BadTrip, defBody m_BadTrip, defScope m_BadTrip, [], []⟩
def fn : List He.DefD := [h__law_pen, h__law_draw, h__law_pick, h__law_made, h__law_kinds, h__law_bases, h__law_reason, h_law, hi_BadAtlas, hi_BadRoute, hi_BadText, hi_BadTrip]
def fa : List He.Fa := ([.glo "_law_pen", .glo "_law_draw", .glo "_law_pick", .glo "_law_made", .glo "_law_kinds", .glo "_law_bases", .glo "_law_reason", .glo "law", .free "abs", .free "isinstance", .free "len", .free "list", .free "range"] : List He.Fa)
abbrev R : PySem.W.OpenRow := PySem.W.OpenLaw.row PySem.Challenge.rw_slotmaps_k87_error_classes
abbrev hk : PySem.W.Hook := PI.hookE 4 fa fn (exB "SlotmapsError" G)
def ob (s : PySem.W.SharedT) : PI.AlE := PI.obsE 4 fa fn (exB "SlotmapsError" G) (HandSHeadRun.getT s)
theorem ob_eq (s : PySem.W.SharedT) : ob s = hk.obs s.abs := PI.obsE_eq (HandSHeadRun.getT_eq s)
def loose : List Str := (["SlotmapsError", "BadAtlas", "UnknownMap", "BadAddress", "BadPlace", "BadPoint", "BadPort", "BadRoute", "BadTrip", "BadStep", "BadCost", "BadDepth", "BadLabel", "BadModulus", "BadSlot", "BadEdit", "BadText", "BadCommand", "NoEdge", "NoRoute", "NotInside", "NotJoined", "TooLarge", "NothingToDo", "NotReady", "_law_pen", "_law_draw", "_law_pick", "_law_made", "_law_kinds"] : List Str) ++ (["_law_bases", "_law_reason"] : List Str)
theorem run (w : World) : HandSHeadRun.RunEq R (PySem.W.view R.prog [34]) hk ob 20000 loose w := by
  intro os
  kernel_rfl
end Law

set_option Elab.async false
set_option linter.all false
set_option maxRecDepth 100000
set_option maxHeartbeats 4000000
/-! small rules, gathered -/
namespace Law
open PI
open PySem (Str PyData sizeLine)
theorem bind_v {i : Nat} {w : W} {η : Env} : bindT (.v i) w η = some (η.set i (some w)) := by rw [bindT]
theorem sub_ii {i j : Int} {S : Sto} : binW .sub (.int i) (.int j) S = .ok (.int (i - j)) S := rfl
theorem add_ii {i j : Int} {S : Sto} : binW .add (.int i) (.int j) S = .ok (.int (i + j)) S := rfl
theorem src_tup {ws : List W} {S : Sto} : srcOf .plain [.tup ws] S = some (.vals ws, none) := rfl
theorem now_vals {ws : List W} {S : Sto} : Src.now S (.vals ws) = some ws := rfl
theorem big (n : Nat) (h : n ≤ 1000) : n ≤ sizeLine := by rw [PySem.sizeLine_eq]; omega
theorem add_tt {a b : List W} {S : Sto} (h : a.length + b.length ≤ 1000) : binW .add (.tup a) (.tup b) S = .ok (.tup (a ++ b)) S := by
  simp only [binW]
  rw [if_pos (big _ h)]
theorem set_at {S : Sto} {p : Nat} {o : O} (h : p < S.length) : (S.set p o)[p]? = some o := by
  rw [List.getElem?_set_self h]
theorem set_other {S : Sto} {p q : Nat} {o : O} (h : q ≠ p) : (S.set p o)[q]? = S[q]? := by
  rw [List.getElem?_set_ne (by omega)]
theorem log_lt {i : Int} {k : Nat} (h : i.natAbs < 2 ^ k) (hk : 0 < k) : i.natAbs.log2 < k := by
  by_cases h0 : i.natAbs = 0
  · rw [h0]
    simpa using hk
  · exact (Nat.log2_lt h0).mpr h
theorem mul_ok {i j : Int} {S : Sto} (hi : i.natAbs < 2 ^ 200) (hj : j.natAbs < 2 ^ 200) : binW .mul (.int i) (.int j) S = .ok (.int (i * j)) S := by
  have h1 := log_lt hi (by omega)
  have h2 := log_lt hj (by omega)
  simp only [binW]
  rw [if_pos (by omega)]
theorem mod_ok {i j : Int} {S : Sto} (hj : 0 < j) : binW .mod (.int i) (.int j) S = .ok (.int (i % j)) S := by
  simp only [binW]
  rw [if_pos hj]
theorem fdiv_ok {i j : Int} {S : Sto} (hj : 0 < j) (hj2 : j < 2 ^ 200) : binW .fdiv (.int i) (.int j) S = .ok (.int (i / j)) S := by
  have h2 := log_lt (i := j) (k := 200) (by omega) (by omega)
  simp only [binW]
  rw [if_pos ⟨hj, by omega⟩]
theorem abs_ok {i : Int} {S : Sto} : bifW .abs [.int i] S = .ok (.int i.natAbs) S := by
  have : (if i < 0 then -i else i) = (i.natAbs : Int) := by split <;> omega
  simp only [bifW, absF, this]
theorem pow_18 {S : Sto} : binW .pow (.int 10) (.int 18) S = .ok (.int 1000000000000000000) S := by
  simp [binW]
section
variable {Φ : Fns} {η : Env} {S : Sto} {P : Post}
theorem x_assoc {s t u : T} : (exec Φ (.seq s (.seq t u)) η S).sat P ↔ (exec Φ (.seq (.seq s t) u) η S).sat P := by
  simp only [x_seq]
theorem x_cut {s t : T} (M : Env → Sto → Prop) (h1 : (exec Φ s η S).sat ⟨M, P.rt, P.ct, P.bk⟩) (h2 : ∀ η1 S1, M η1 S1 → (exec Φ t η1 S1).sat P) : (exec Φ (.seq s t) η S).sat P := by
  rw [x_seq]
  exact h1.mono h2 (fun _ _ h => h) (fun _ _ h => h) (fun _ _ h => h)
end
theorem src_range {j : Int} {S : Sto} (h0 : 0 ≤ j) (h : j < 2 ^ 62) : srcOf .range1 [.int j] S = some (.vals (rangeW 0 j.toNat), none) := by
  simp only [srcOf]
  rw [if_pos (by omega)]
theorem range_at {n i : Nat} {w : W} (h : (rangeW 0 n)[i]? = some w) : w = .int i ∧ i < n := by
  unfold rangeW at h
  rw [List.getElem?_map, Option.map_eq_some_iff] at h
  obtain ⟨k, h1, rfl⟩ := h
  have := (List.getElem?_eq_some_iff.mp h1)
  obtain ⟨h2, h3⟩ := this
  rw [List.getElem_range] at h3
  subst h3
  rw [List.length_range] at h2
  exact ⟨by simp, h2⟩
theorem range_len {n : Nat} : (rangeW 0 n).length = n := by simp [rangeW]
theorem add_ll {n m : Nat} {a b : List W} {S : Sto} (hn : S[n]? = some (.lst a)) (hm : S[m]? = some (.lst b)) (h : a.length + b.length ≤ 1000) : binW .add (.ref n) (.ref m) S = .ok (.ref S.length) (S ++ [.lst (a ++ b)]) := by
  simp only [binW, hn, hm]
  rw [if_pos (big _ h)]
def tl : T → T
  | .seq _ t => t
  | t => t
def fbody : T → T
  | .seq (.for_ _ _ _ b) _ => b
  | t => t
end Law

set_option Elab.async false
set_option linter.all false
set_option maxRecDepth 100000
set_option maxHeartbeats 4000000
/-! the law's draws -/
namespace Law
open PI
open PySem (Str PyData sizeLine)
def strmO (c t r : W) : O := .dct [(.str "cells", c), (.str "at", t), (.str "rest", r)]
/-- the pen at place p, after at most t draws -/
def Strm (p t : Nat) (S : Sto) : Prop := ∃ (c : Nat) (cs : List Int) (turn rest : Int), S[p]? = some (strmO (.ref c) (.int turn) (.int rest)) ∧ S[c]? = some (.lst (cs.map W.int)) ∧ c < p ∧ 0 ≤ turn ∧ turn ≤ t ∧ 0 ≤ rest ∧ cs.length ≤ 63
section
variable {S : Sto} {p : Nat} {c t r v : W} (h : S[p]? = some (strmO c t r))
include h
theorem ix_cells : ixW (.ref p) (.str "cells") S = .ok c S := by
  simp only [ixW, h, ixO, strmO, ixD]
  rfl
theorem ix_turn : ixW (.ref p) (.str "at") S = .ok t S := by
  simp only [ixW, h, ixO, strmO, ixD]
  rfl
theorem ix_rest : ixW (.ref p) (.str "rest") S = .ok r S := by
  simp only [ixW, h, ixO, strmO, ixD]
  rfl
theorem set_turn : setW (.ref p) (.str "at") v S = .ok () (S.set p (strmO c v r)) := by
  simp only [setW, h, setO, strmO]
  rw [if_pos (by rfl)]
  rfl
theorem set_rest : setW (.ref p) (.str "rest") v S = .ok () (S.set p (strmO c t v)) := by
  simp only [setW, h, setO, strmO]
  rw [if_pos (by rfl)]
  rfl
end
theorem Strm.mono {p t t' : Nat} {S S' : Sto} (h : Strm p t S) (a : Ap S S') (ht : t ≤ t') : Strm p t' S' := by
  obtain ⟨c, cs, turn, rest, h1, h2, h3, h4, h5, h6, h7⟩ := h
  exact ⟨c, cs, turn, rest, a.at h1, a.at h2, h3, h4, by omega, h6, h7⟩
theorem Strm.le {p t t' : Nat} {S : Sto} (h : Strm p t S) (ht : t ≤ t') : Strm p t' S := h.mono (Ap.refl _) ht
theorem Strm.lt {p t : Nat} {S : Sto} (h : Strm p t S) : p < S.length := by
  obtain ⟨c, cs, turn, rest, h1, _⟩ := h
  exact (List.getElem?_eq_some_iff.mp h1).1
theorem r_law_pen {m : Nat} (hm : 1 ≤ m) (ns : List Int) (hn : ns.length ≤ 63) (S : Sto) : (callN Γ m "_law_pen" [.scr (ns.map W.int)] S).sat fun w S' => ∃ p, w = .ref p ∧ Strm p 0 S' := by
  obtain ⟨n, rfl⟩ : ∃ n, m = n + 1 := ⟨m - 1, by omega⟩
  rw [call_sat l__law_pen]
  simp only [d__law_pen, e_v, e_kN, e_kB, e_kI, e_kS, e_globI, e_globS, es_nil, es_cons, e_tup, e_lst, e_dct, e_bin, e_neg, e_not, e_cmp, e_chain, e_ite, e_ix, e_sl, e_rev, e_call, e_bif, e_isi, e_mth, e_boo, b_one, b_cons, n_not, n_one, n_or, n_and, n_v, n_cmp, n_chain, n_call, n_bif, n_isi, n_ix, n_bin, x_nil, x_pass, x_seq, a_v, a_tup, a_ix, as_nil, as_cons, x_asg, x_aug, x_ex, x_ret, x_retN, x_ite, sat_ok, bind_sat, partOf_no, part_kI, part_v, part_bin, part_neg, t_bl, t_int, c_lt, c_gt, c_le, c_ge, c_eq, c_ne, c_eqS, c_neS, c_is, c_isNot, len_tup, ix_0, ix_1, ix_2, ix_3, ix_4, ix_5, ix_6, ix_7, List.getElem?_cons_zero, List.getElem?_cons_succ, List.set_cons_zero, List.set_cons_succ, Option.some.injEq, exists_eq_left', exists_eq_left, startW, List.length_cons, List.length_nil, List.map_cons, List.map_nil, List.replicate_succ, List.replicate_zero, List.cons_append, List.nil_append, W.bl.injEq, W.int.injEq, Bool.true_eq_false, Bool.false_eq_true, false_implies, true_implies, and_true, true_and, Bool.not_true, Bool.not_false, implies_true, forall_const, decide_eq_true_eq, decide_eq_false_iff_not, Bool.not_eq_true', Bool.not_eq_false']
  have hc : cutW (ns.map W.int) none (some 63) = ns.map W.int := by
    unfold cutW
    have e0 : HT.sIx (ns.map W.int).length 0 none = 0 := rfl
    have e1 : HT.sIx (ns.map W.int).length (ns.map W.int).length (some 63) = ns.length := by
      simp only [HT.sIx]
      rw [if_neg (by omega), List.length_map]
      omega
    rw [e0, e1, List.drop_zero, List.take_of_length_le (by simp)]
  simp only [slW, sat_ok, hc, bifW, listF, itemsOf]
  rw [lstOf_at (ws := ns.map W.int) (by simp)]
  simp only [sat_ok]
  have hd : ∀ {a b c : W} {S : Sto}, dispW [.str "cells", a, .str "at", b, .str "rest", c] S = .ok (.ref S.length) (S ++ [strmO a b c]) := by
    intro a b c S
    rfl
  rw [hd]
  simp only [sat_ok]
  refine ⟨_, rfl, S.length + 1, ns, 0, 0, by simp, ?_, ?_, by omega, by omega, by omega, hn⟩
  · simp
  · simp
/-- a number below a size, one draw further -/
def DrawQ (p t : Nat) (size : Int) (S : Sto) (w : W) (S' : Sto) : Prop := ∃ d : Nat, w = .int d ∧ (d : Int) < size ∧ Strm p (t + 1) S' ∧ Ext p S S'
theorem r_law_draw {m : Nat} (hm : 1 ≤ m) {p t : Nat} (size : Int) (S : Sto) (h : Strm p t S) (ht : t < 2 ^ 60) (h1 : 1 ≤ size) (h2 : size < 2 ^ 60) : (callN Γ m "_law_draw" [.ref p, .int size] S).sat (DrawQ p t size S) := by
  obtain ⟨n, rfl⟩ : ∃ n, m = n + 1 := ⟨m - 1, by omega⟩
  rw [call_sat l__law_draw]
  have hp := h.lt
  obtain ⟨c, cs, turn, rest, hs, hcs, hc, ht0, ht1, hr0, hl⟩ := h
  have fin : ∀ {x : Int} {S' : Sto}, Strm p (t + 1) S' → Ext p S S' → DrawQ p t size S (.int (x % size)) S' := by
    intro x S' hS hE
    have q1 : 0 ≤ x % size := Int.emod_nonneg _ (by omega)
    have q2 : x % size < size := Int.emod_lt_of_pos _ (by omega)
    exact ⟨(x % size).toNat, by rw [Int.toNat_of_nonneg q1], by omega, hS, hE⟩
  refine ⟨rfl, ?_⟩
  rw [show startW d__law_draw [.ref p, .int size] = [some (.ref p), some (.int size), none, none, none, none] from rfl]
  simp only [d__law_draw]
  rw [x_assoc, x_assoc, x_assoc, x_assoc]
  refine x_cut (fun η1 S1 => ∃ cell : Int, η1 = [some (.ref p), some (.int size), some (.int turn), some (.int cell), none, none] ∧ 0 ≤ cell ∧ S1[p]? = some (strmO (.ref c) (.int (turn + 1)) (.int rest)) ∧ S1[c]? = some (.lst (cs.map W.int)) ∧ Ext p S S1) ?_ ?_
  · simp only [e_v, e_kN, e_kB, e_kI, e_kS, e_globI, e_globS, es_nil, es_cons, e_tup, e_lst, e_dct, e_bin, e_neg, e_not, e_cmp, e_chain, e_ite, e_ix, e_sl, e_rev, e_call, e_bif, e_isi, e_mth, e_boo, b_one, b_cons, n_not, n_one, n_or, n_and, n_v, n_cmp, n_chain, n_call, n_bif, n_isi, n_ix, n_bin, x_nil, x_pass, x_seq, a_v, a_tup, a_ix, as_nil, as_cons, x_asg, x_aug, x_ex, x_ret, x_retN, x_ite, sat_ok, bind_sat, partOf_no, part_kI, part_v, part_bin, part_neg, t_bl, t_int, c_lt, c_gt, c_le, c_ge, c_eq, c_ne, c_eqS, c_neS, c_is, c_isNot, len_tup, ix_0, ix_1, ix_2, ix_3, ix_4, ix_5, ix_6, ix_7, List.getElem?_cons_zero, List.getElem?_cons_succ, List.set_cons_zero, List.set_cons_succ, Option.some.injEq, exists_eq_left', exists_eq_left, startW, List.length_cons, List.length_nil, List.map_cons, List.map_nil, List.replicate_succ, List.replicate_zero, List.cons_append, List.nil_append, W.bl.injEq, W.int.injEq, Bool.true_eq_false, Bool.false_eq_true, false_implies, true_implies, and_true, true_and, Bool.not_true, Bool.not_false, implies_true, forall_const, decide_eq_true_eq, decide_eq_false_iff_not, Bool.not_eq_true', Bool.not_eq_false', ix_rest hs]
    refine ⟨fun hr => ?_, fun hr => ?_⟩
    · simp only [e_v, e_kN, e_kB, e_kI, e_kS, e_globI, e_globS, es_nil, es_cons, e_tup, e_lst, e_dct, e_bin, e_neg, e_not, e_cmp, e_chain, e_ite, e_ix, e_sl, e_rev, e_call, e_bif, e_isi, e_mth, e_boo, b_one, b_cons, n_not, n_one, n_or, n_and, n_v, n_cmp, n_chain, n_call, n_bif, n_isi, n_ix, n_bin, x_nil, x_pass, x_seq, a_v, a_tup, a_ix, as_nil, as_cons, x_asg, x_aug, x_ex, x_ret, x_retN, x_ite, sat_ok, bind_sat, partOf_no, part_kI, part_v, part_bin, part_neg, t_bl, t_int, c_lt, c_gt, c_le, c_ge, c_eq, c_ne, c_eqS, c_neS, c_is, c_isNot, len_tup, ix_0, ix_1, ix_2, ix_3, ix_4, ix_5, ix_6, ix_7, List.getElem?_cons_zero, List.getElem?_cons_succ, List.set_cons_zero, List.set_cons_succ, Option.some.injEq, exists_eq_left', exists_eq_left, startW, List.length_cons, List.length_nil, List.map_cons, List.map_nil, List.replicate_succ, List.replicate_zero, List.cons_append, List.nil_append, W.bl.injEq, W.int.injEq, Bool.true_eq_false, Bool.false_eq_true, false_implies, true_implies, and_true, true_and, Bool.not_true, Bool.not_false, implies_true, forall_const, decide_eq_true_eq, decide_eq_false_iff_not, Bool.not_eq_true', Bool.not_eq_false', ix_rest hs, mod_ok (show 0 < size by omega), fdiv_ok (i := rest) (show 0 < size by omega) (by omega), set_rest hs]
      exact fin ⟨c, cs, turn, rest / size, set_at hp, by rw [set_other (by omega)]; exact hcs, hc, ht0, by omega, Int.ediv_nonneg (by omega) (by omega), hl⟩ Ext.setp
    · simp only [e_v, e_kN, e_kB, e_kI, e_kS, e_globI, e_globS, es_nil, es_cons, e_tup, e_lst, e_dct, e_bin, e_neg, e_not, e_cmp, e_chain, e_ite, e_ix, e_sl, e_rev, e_call, e_bif, e_isi, e_mth, e_boo, b_one, b_cons, n_not, n_one, n_or, n_and, n_v, n_cmp, n_chain, n_call, n_bif, n_isi, n_ix, n_bin, x_nil, x_pass, x_seq, a_v, a_tup, a_ix, as_nil, as_cons, x_asg, x_aug, x_ex, x_ret, x_retN, x_ite, sat_ok, bind_sat, partOf_no, part_kI, part_v, part_bin, part_neg, t_bl, t_int, c_lt, c_gt, c_le, c_ge, c_eq, c_ne, c_eqS, c_neS, c_is, c_isNot, len_tup, ix_0, ix_1, ix_2, ix_3, ix_4, ix_5, ix_6, ix_7, List.getElem?_cons_zero, List.getElem?_cons_succ, List.set_cons_zero, List.set_cons_succ, Option.some.injEq, exists_eq_left', exists_eq_left, startW, List.length_cons, List.length_nil, List.map_cons, List.map_nil, List.replicate_succ, List.replicate_zero, List.cons_append, List.nil_append, W.bl.injEq, W.int.injEq, Bool.true_eq_false, Bool.false_eq_true, false_implies, true_implies, and_true, true_and, Bool.not_true, Bool.not_false, implies_true, forall_const, decide_eq_true_eq, decide_eq_false_iff_not, Bool.not_eq_true', Bool.not_eq_false', ix_turn hs, add_ii, set_turn hs]
      have hs1 : (S.set p (strmO (.ref c) (.int (turn + 1)) (.int rest)))[p]? = some (strmO (.ref c) (.int (turn + 1)) (.int rest)) := set_at hp
      have hcs1 : (S.set p (strmO (.ref c) (.int (turn + 1)) (.int rest)))[c]? = some (.lst (cs.map W.int)) := by rw [set_other (by omega)]; exact hcs
      have E1 : Ext p S (S.set p (strmO (.ref c) (.int (turn + 1)) (.int rest))) := Ext.setp
      revert hs1 hcs1 E1
      generalize S.set p (strmO (.ref c) (.int (turn + 1)) (.int rest)) = S1
      intro hs1 hcs1 E1
      have a2 : Ap S1 (S1 ++ [O.lst []]) := Ap.new _ _
      simp only [ix_cells hs1, e_v, e_kN, e_kB, e_kI, e_kS, e_globI, e_globS, es_nil, es_cons, e_tup, e_lst, e_dct, e_bin, e_neg, e_not, e_cmp, e_chain, e_ite, e_ix, e_sl, e_rev, e_call, e_bif, e_isi, e_mth, e_boo, b_one, b_cons, n_not, n_one, n_or, n_and, n_v, n_cmp, n_chain, n_call, n_bif, n_isi, n_ix, n_bin, x_nil, x_pass, x_seq, a_v, a_tup, a_ix, as_nil, as_cons, x_asg, x_aug, x_ex, x_ret, x_retN, x_ite, sat_ok, bind_sat, partOf_no, part_kI, part_v, part_bin, part_neg, t_bl, t_int, c_lt, c_gt, c_le, c_ge, c_eq, c_ne, c_eqS, c_neS, c_is, c_isNot, len_tup, ix_0, ix_1, ix_2, ix_3, ix_4, ix_5, ix_6, ix_7, List.getElem?_cons_zero, List.getElem?_cons_succ, List.set_cons_zero, List.set_cons_succ, Option.some.injEq, exists_eq_left', exists_eq_left, startW, List.length_cons, List.length_nil, List.map_cons, List.map_nil, List.replicate_succ, List.replicate_zero, List.cons_append, List.nil_append, W.bl.injEq, W.int.injEq, Bool.true_eq_false, Bool.false_eq_true, false_implies, true_implies, and_true, true_and, Bool.not_true, Bool.not_false, implies_true, forall_const, decide_eq_true_eq, decide_eq_false_iff_not, Bool.not_eq_true', Bool.not_eq_false']
      rw [ne_nil (a2.at hcs1) (by simp)]
      simp only [e_v, e_kN, e_kB, e_kI, e_kS, e_globI, e_globS, es_nil, es_cons, e_tup, e_lst, e_dct, e_bin, e_neg, e_not, e_cmp, e_chain, e_ite, e_ix, e_sl, e_rev, e_call, e_bif, e_isi, e_mth, e_boo, b_one, b_cons, n_not, n_one, n_or, n_and, n_v, n_cmp, n_chain, n_call, n_bif, n_isi, n_ix, n_bin, x_nil, x_pass, x_seq, a_v, a_tup, a_ix, as_nil, as_cons, x_asg, x_aug, x_ex, x_ret, x_retN, x_ite, sat_ok, bind_sat, partOf_no, part_kI, part_v, part_bin, part_neg, t_bl, t_int, c_lt, c_gt, c_le, c_ge, c_eq, c_ne, c_eqS, c_neS, c_is, c_isNot, len_tup, ix_0, ix_1, ix_2, ix_3, ix_4, ix_5, ix_6, ix_7, List.getElem?_cons_zero, List.getElem?_cons_succ, List.set_cons_zero, List.set_cons_succ, Option.some.injEq, exists_eq_left', exists_eq_left, startW, List.length_cons, List.length_nil, List.map_cons, List.map_nil, List.replicate_succ, List.replicate_zero, List.cons_append, List.nil_append, W.bl.injEq, W.int.injEq, Bool.true_eq_false, Bool.false_eq_true, false_implies, true_implies, and_true, true_and, Bool.not_true, Bool.not_false, implies_true, forall_const, decide_eq_true_eq, decide_eq_false_iff_not, Bool.not_eq_true', Bool.not_eq_false']
      refine ⟨by decide, fun he => ?_, fun he => ⟨_, rfl, by omega, a2.at hs1, a2.at hcs1, E1.trans (a2.ext p)⟩⟩
      simp only [e_v, e_kN, e_kB, e_kI, e_kS, e_globI, e_globS, es_nil, es_cons, e_tup, e_lst, e_dct, e_bin, e_neg, e_not, e_cmp, e_chain, e_ite, e_ix, e_sl, e_rev, e_call, e_bif, e_isi, e_mth, e_boo, b_one, b_cons, n_not, n_one, n_or, n_and, n_v, n_cmp, n_chain, n_call, n_bif, n_isi, n_ix, n_bin, x_nil, x_pass, x_seq, a_v, a_tup, a_ix, as_nil, as_cons, x_asg, x_aug, x_ex, x_ret, x_retN, x_ite, sat_ok, bind_sat, partOf_no, part_kI, part_v, part_bin, part_neg, t_bl, t_int, c_lt, c_gt, c_le, c_ge, c_eq, c_ne, c_eqS, c_neS, c_is, c_isNot, len_tup, ix_0, ix_1, ix_2, ix_3, ix_4, ix_5, ix_6, ix_7, List.getElem?_cons_zero, List.getElem?_cons_succ, List.set_cons_zero, List.set_cons_succ, Option.some.injEq, exists_eq_left', exists_eq_left, startW, List.length_cons, List.length_nil, List.map_cons, List.map_nil, List.replicate_succ, List.replicate_zero, List.cons_append, List.nil_append, W.bl.injEq, W.int.injEq, Bool.true_eq_false, Bool.false_eq_true, false_implies, true_implies, and_true, true_and, Bool.not_true, Bool.not_false, implies_true, forall_const, decide_eq_true_eq, decide_eq_false_iff_not, Bool.not_eq_true', Bool.not_eq_false', ix_cells (a2.at hs1), len_lst (a2.at hcs1)]
      have hz : 0 < cs.length := by
        cases cs with
        | nil => simp at he
        | cons _ _ => simp
      rw [mod_ok (by simpa using hz)]
      simp only [e_v, e_kN, e_kB, e_kI, e_kS, e_globI, e_globS, es_nil, es_cons, e_tup, e_lst, e_dct, e_bin, e_neg, e_not, e_cmp, e_chain, e_ite, e_ix, e_sl, e_rev, e_call, e_bif, e_isi, e_mth, e_boo, b_one, b_cons, n_not, n_one, n_or, n_and, n_v, n_cmp, n_chain, n_call, n_bif, n_isi, n_ix, n_bin, x_nil, x_pass, x_seq, a_v, a_tup, a_ix, as_nil, as_cons, x_asg, x_aug, x_ex, x_ret, x_retN, x_ite, sat_ok, bind_sat, partOf_no, part_kI, part_v, part_bin, part_neg, t_bl, t_int, c_lt, c_gt, c_le, c_ge, c_eq, c_ne, c_eqS, c_neS, c_is, c_isNot, len_tup, ix_0, ix_1, ix_2, ix_3, ix_4, ix_5, ix_6, ix_7, List.getElem?_cons_zero, List.getElem?_cons_succ, List.set_cons_zero, List.set_cons_succ, Option.some.injEq, exists_eq_left', exists_eq_left, startW, List.length_cons, List.length_nil, List.map_cons, List.map_nil, List.replicate_succ, List.replicate_zero, List.cons_append, List.nil_append, W.bl.injEq, W.int.injEq, Bool.true_eq_false, Bool.false_eq_true, false_implies, true_implies, and_true, true_and, Bool.not_true, Bool.not_false, implies_true, forall_const, decide_eq_true_eq, decide_eq_false_iff_not, Bool.not_eq_true', Bool.not_eq_false']
      have q1 : 0 ≤ turn % ((cs.map W.int).length : Int) := Int.emod_nonneg _ (by rw [List.length_map]; omega)
      have q2 : turn % ((cs.map W.int).length : Int) < ((cs.map W.int).length : Int) := Int.emod_lt_of_pos _ (by rw [List.length_map]; omega)
      generalize turn % ((cs.map W.int).length : Int) = k at q1 q2 ⊢
      obtain ⟨j, rfl⟩ : ∃ j : Nat, k = j := ⟨k.toNat, by omega⟩
      rw [List.length_map] at q2
      rw [ix_lst (a2.at hcs1) (k := j) (w := .int (cs[j]'(by omega))) (by simp [List.getElem?_eq_getElem (show j < cs.length by omega)])]
      simp only [e_v, e_kN, e_kB, e_kI, e_kS, e_globI, e_globS, es_nil, es_cons, e_tup, e_lst, e_dct, e_bin, e_neg, e_not, e_cmp, e_chain, e_ite, e_ix, e_sl, e_rev, e_call, e_bif, e_isi, e_mth, e_boo, b_one, b_cons, n_not, n_one, n_or, n_and, n_v, n_cmp, n_chain, n_call, n_bif, n_isi, n_ix, n_bin, x_nil, x_pass, x_seq, a_v, a_tup, a_ix, as_nil, as_cons, x_asg, x_aug, x_ex, x_ret, x_retN, x_ite, sat_ok, bind_sat, partOf_no, part_kI, part_v, part_bin, part_neg, t_bl, t_int, c_lt, c_gt, c_le, c_ge, c_eq, c_ne, c_eqS, c_neS, c_is, c_isNot, len_tup, ix_0, ix_1, ix_2, ix_3, ix_4, ix_5, ix_6, ix_7, List.getElem?_cons_zero, List.getElem?_cons_succ, List.set_cons_zero, List.set_cons_succ, Option.some.injEq, exists_eq_left', exists_eq_left, startW, List.length_cons, List.length_nil, List.map_cons, List.map_nil, List.replicate_succ, List.replicate_zero, List.cons_append, List.nil_append, W.bl.injEq, W.int.injEq, Bool.true_eq_false, Bool.false_eq_true, false_implies, true_implies, and_true, true_and, Bool.not_true, Bool.not_false, implies_true, forall_const, decide_eq_true_eq, decide_eq_false_iff_not, Bool.not_eq_true', Bool.not_eq_false', abs_ok]
      exact ⟨_, rfl, by omega, a2.at hs1, a2.at hcs1, E1.trans (a2.ext p)⟩
  · rintro η1 S2 ⟨cell, rfl, hcell, hs2, hcs2, E2⟩
    have hp2 : p < S2.length := (List.getElem?_eq_some_iff.mp hs2).1
    refine x_cut (fun η1 S1 => η1 = [some (.ref p), some (.int size), some (.int turn), some (.int cell), none, none] ∧ S1 = S2) ?_ ?_
    · simp only [e_v, e_kN, e_kB, e_kI, e_kS, e_globI, e_globS, es_nil, es_cons, e_tup, e_lst, e_dct, e_bin, e_neg, e_not, e_cmp, e_chain, e_ite, e_ix, e_sl, e_rev, e_call, e_bif, e_isi, e_mth, e_boo, b_one, b_cons, n_not, n_one, n_or, n_and, n_v, n_cmp, n_chain, n_call, n_bif, n_isi, n_ix, n_bin, x_nil, x_pass, x_seq, a_v, a_tup, a_ix, as_nil, as_cons, x_asg, x_aug, x_ex, x_ret, x_retN, x_ite, sat_ok, bind_sat, partOf_no, part_kI, part_v, part_bin, part_neg, t_bl, t_int, c_lt, c_gt, c_le, c_ge, c_eq, c_ne, c_eqS, c_neS, c_is, c_isNot, len_tup, ix_0, ix_1, ix_2, ix_3, ix_4, ix_5, ix_6, ix_7, List.getElem?_cons_zero, List.getElem?_cons_succ, List.set_cons_zero, List.set_cons_succ, Option.some.injEq, exists_eq_left', exists_eq_left, startW, List.length_cons, List.length_nil, List.map_cons, List.map_nil, List.replicate_succ, List.replicate_zero, List.cons_append, List.nil_append, W.bl.injEq, W.int.injEq, Bool.true_eq_false, Bool.false_eq_true, false_implies, true_implies, and_true, true_and, Bool.not_true, Bool.not_false, implies_true, forall_const, decide_eq_true_eq, decide_eq_false_iff_not, Bool.not_eq_true', Bool.not_eq_false', ix_cells hs2, len_lst hcs2, pow_18, sub_ii]
      intro _ hb
      rw [fdiv_ok (by omega) (by omega)]
      simp only [e_v, e_kN, e_kB, e_kI, e_kS, e_globI, e_globS, es_nil, es_cons, e_tup, e_lst, e_dct, e_bin, e_neg, e_not, e_cmp, e_chain, e_ite, e_ix, e_sl, e_rev, e_call, e_bif, e_isi, e_mth, e_boo, b_one, b_cons, n_not, n_one, n_or, n_and, n_v, n_cmp, n_chain, n_call, n_bif, n_isi, n_ix, n_bin, x_nil, x_pass, x_seq, a_v, a_tup, a_ix, as_nil, as_cons, x_asg, x_aug, x_ex, x_ret, x_retN, x_ite, sat_ok, bind_sat, partOf_no, part_kI, part_v, part_bin, part_neg, t_bl, t_int, c_lt, c_gt, c_le, c_ge, c_eq, c_ne, c_eqS, c_neS, c_is, c_isNot, len_tup, ix_0, ix_1, ix_2, ix_3, ix_4, ix_5, ix_6, ix_7, List.getElem?_cons_zero, List.getElem?_cons_succ, List.set_cons_zero, List.set_cons_succ, Option.some.injEq, exists_eq_left', exists_eq_left, startW, List.length_cons, List.length_nil, List.map_cons, List.map_nil, List.replicate_succ, List.replicate_zero, List.cons_append, List.nil_append, W.bl.injEq, W.int.injEq, Bool.true_eq_false, Bool.false_eq_true, false_implies, true_implies, and_true, true_and, Bool.not_true, Bool.not_false, implies_true, forall_const, decide_eq_true_eq, decide_eq_false_iff_not, Bool.not_eq_true', Bool.not_eq_false', set_rest hs2]
      rw [mod_ok (by omega)]
      simp only [e_v, e_kN, e_kB, e_kI, e_kS, e_globI, e_globS, es_nil, es_cons, e_tup, e_lst, e_dct, e_bin, e_neg, e_not, e_cmp, e_chain, e_ite, e_ix, e_sl, e_rev, e_call, e_bif, e_isi, e_mth, e_boo, b_one, b_cons, n_not, n_one, n_or, n_and, n_v, n_cmp, n_chain, n_call, n_bif, n_isi, n_ix, n_bin, x_nil, x_pass, x_seq, a_v, a_tup, a_ix, as_nil, as_cons, x_asg, x_aug, x_ex, x_ret, x_retN, x_ite, sat_ok, bind_sat, partOf_no, part_kI, part_v, part_bin, part_neg, t_bl, t_int, c_lt, c_gt, c_le, c_ge, c_eq, c_ne, c_eqS, c_neS, c_is, c_isNot, len_tup, ix_0, ix_1, ix_2, ix_3, ix_4, ix_5, ix_6, ix_7, List.getElem?_cons_zero, List.getElem?_cons_succ, List.set_cons_zero, List.set_cons_succ, Option.some.injEq, exists_eq_left', exists_eq_left, startW, List.length_cons, List.length_nil, List.map_cons, List.map_nil, List.replicate_succ, List.replicate_zero, List.cons_append, List.nil_append, W.bl.injEq, W.int.injEq, Bool.true_eq_false, Bool.false_eq_true, false_implies, true_implies, and_true, true_and, Bool.not_true, Bool.not_false, implies_true, forall_const, decide_eq_true_eq, decide_eq_false_iff_not, Bool.not_eq_true', Bool.not_eq_false']
      exact fin ⟨c, cs, turn + 1, _, set_at hp2, by rw [set_other (by omega)]; exact hcs2, hc, by omega, by omega, Int.ediv_nonneg (by omega) (by omega), hl⟩ (E2.trans Ext.setp)
    · rintro _ S3 ⟨rfl, hS3⟩
      rw [hS3]
      clear hS3 S3
      simp only [e_v, e_kN, e_kB, e_kI, e_kS, e_globI, e_globS, es_nil, es_cons, e_tup, e_lst, e_dct, e_bin, e_neg, e_not, e_cmp, e_chain, e_ite, e_ix, e_sl, e_rev, e_call, e_bif, e_isi, e_mth, e_boo, b_one, b_cons, n_not, n_one, n_or, n_and, n_v, n_cmp, n_chain, n_call, n_bif, n_isi, n_ix, n_bin, x_nil, x_pass, x_seq, a_v, a_tup, a_ix, as_nil, as_cons, x_asg, x_aug, x_ex, x_ret, x_retN, x_ite, sat_ok, bind_sat, partOf_no, part_kI, part_v, part_bin, part_neg, t_bl, t_int, c_lt, c_gt, c_le, c_ge, c_eq, c_ne, c_eqS, c_neS, c_is, c_isNot, len_tup, ix_0, ix_1, ix_2, ix_3, ix_4, ix_5, ix_6, ix_7, List.getElem?_cons_zero, List.getElem?_cons_succ, List.set_cons_zero, List.set_cons_succ, Option.some.injEq, exists_eq_left', exists_eq_left, startW, List.length_cons, List.length_nil, List.map_cons, List.map_nil, List.replicate_succ, List.replicate_zero, List.cons_append, List.nil_append, W.bl.injEq, W.int.injEq, Bool.true_eq_false, Bool.false_eq_true, false_implies, true_implies, and_true, true_and, Bool.not_true, Bool.not_false, implies_true, forall_const, decide_eq_true_eq, decide_eq_false_iff_not, Bool.not_eq_true', Bool.not_eq_false', mod_ok (show (0 : Int) < 2147483587 by omega), add_ii]
      have m1 := Int.emod_nonneg cell (show (2147483587 : Int) ≠ 0 by omega)
      have m2 := Int.emod_lt_of_pos cell (show (0 : Int) < 2147483587 by omega)
      generalize cell % 2147483587 = C at m1 m2 ⊢
      rw [mul_ok (i := turn) (j := turn) (by omega) (by omega)]
      simp only [e_v, e_kN, e_kB, e_kI, e_kS, e_globI, e_globS, es_nil, es_cons, e_tup, e_lst, e_dct, e_bin, e_neg, e_not, e_cmp, e_chain, e_ite, e_ix, e_sl, e_rev, e_call, e_bif, e_isi, e_mth, e_boo, b_one, b_cons, n_not, n_one, n_or, n_and, n_v, n_cmp, n_chain, n_call, n_bif, n_isi, n_ix, n_bin, x_nil, x_pass, x_seq, a_v, a_tup, a_ix, as_nil, as_cons, x_asg, x_aug, x_ex, x_ret, x_retN, x_ite, sat_ok, bind_sat, partOf_no, part_kI, part_v, part_bin, part_neg, t_bl, t_int, c_lt, c_gt, c_le, c_ge, c_eq, c_ne, c_eqS, c_neS, c_is, c_isNot, len_tup, ix_0, ix_1, ix_2, ix_3, ix_4, ix_5, ix_6, ix_7, List.getElem?_cons_zero, List.getElem?_cons_succ, List.set_cons_zero, List.set_cons_succ, Option.some.injEq, exists_eq_left', exists_eq_left, startW, List.length_cons, List.length_nil, List.map_cons, List.map_nil, List.replicate_succ, List.replicate_zero, List.cons_append, List.nil_append, W.bl.injEq, W.int.injEq, Bool.true_eq_false, Bool.false_eq_true, false_implies, true_implies, and_true, true_and, Bool.not_true, Bool.not_false, implies_true, forall_const, decide_eq_true_eq, decide_eq_false_iff_not, Bool.not_eq_true', Bool.not_eq_false']
      rw [mul_ok (i := 9) (j := turn) (by decide) (by omega)]
      simp only [e_v, e_kN, e_kB, e_kI, e_kS, e_globI, e_globS, es_nil, es_cons, e_tup, e_lst, e_dct, e_bin, e_neg, e_not, e_cmp, e_chain, e_ite, e_ix, e_sl, e_rev, e_call, e_bif, e_isi, e_mth, e_boo, b_one, b_cons, n_not, n_one, n_or, n_and, n_v, n_cmp, n_chain, n_call, n_bif, n_isi, n_ix, n_bin, x_nil, x_pass, x_seq, a_v, a_tup, a_ix, as_nil, as_cons, x_asg, x_aug, x_ex, x_ret, x_retN, x_ite, sat_ok, bind_sat, partOf_no, part_kI, part_v, part_bin, part_neg, t_bl, t_int, c_lt, c_gt, c_le, c_ge, c_eq, c_ne, c_eqS, c_neS, c_is, c_isNot, len_tup, ix_0, ix_1, ix_2, ix_3, ix_4, ix_5, ix_6, ix_7, List.getElem?_cons_zero, List.getElem?_cons_succ, List.set_cons_zero, List.set_cons_succ, Option.some.injEq, exists_eq_left', exists_eq_left, startW, List.length_cons, List.length_nil, List.map_cons, List.map_nil, List.replicate_succ, List.replicate_zero, List.cons_append, List.nil_append, W.bl.injEq, W.int.injEq, Bool.true_eq_false, Bool.false_eq_true, false_implies, true_implies, and_true, true_and, Bool.not_true, Bool.not_false, implies_true, forall_const, decide_eq_true_eq, decide_eq_false_iff_not, Bool.not_eq_true', Bool.not_eq_false', add_ii]
      have hA : (turn * turn + 9 * turn + 23).natAbs < 2 ^ 200 := by
        have h1 : turn.natAbs ≤ 2 ^ 60 := by omega
        have h2 : (turn * turn).natAbs ≤ 2 ^ 60 * 2 ^ 60 := by rw [Int.natAbs_mul]; exact Nat.mul_le_mul h1 h1
        have h3 : (turn * turn + 9 * turn + 23).natAbs ≤ (turn * turn).natAbs + (9 * turn + 23).natAbs := by
          have := Int.natAbs_add_le (turn * turn) (9 * turn + 23)
          rwa [← Int.add_assoc] at this
        omega
      generalize turn * turn + 9 * turn + 23 = A at hA ⊢
      rw [mul_ok (by omega) hA]
      simp only [e_v, e_kN, e_kB, e_kI, e_kS, e_globI, e_globS, es_nil, es_cons, e_tup, e_lst, e_dct, e_bin, e_neg, e_not, e_cmp, e_chain, e_ite, e_ix, e_sl, e_rev, e_call, e_bif, e_isi, e_mth, e_boo, b_one, b_cons, n_not, n_one, n_or, n_and, n_v, n_cmp, n_chain, n_call, n_bif, n_isi, n_ix, n_bin, x_nil, x_pass, x_seq, a_v, a_tup, a_ix, as_nil, as_cons, x_asg, x_aug, x_ex, x_ret, x_retN, x_ite, sat_ok, bind_sat, partOf_no, part_kI, part_v, part_bin, part_neg, t_bl, t_int, c_lt, c_gt, c_le, c_ge, c_eq, c_ne, c_eqS, c_neS, c_is, c_isNot, len_tup, ix_0, ix_1, ix_2, ix_3, ix_4, ix_5, ix_6, ix_7, List.getElem?_cons_zero, List.getElem?_cons_succ, List.set_cons_zero, List.set_cons_succ, Option.some.injEq, exists_eq_left', exists_eq_left, startW, List.length_cons, List.length_nil, List.map_cons, List.map_nil, List.replicate_succ, List.replicate_zero, List.cons_append, List.nil_append, W.bl.injEq, W.int.injEq, Bool.true_eq_false, Bool.false_eq_true, false_implies, true_implies, and_true, true_and, Bool.not_true, Bool.not_false, implies_true, forall_const, decide_eq_true_eq, decide_eq_false_iff_not, Bool.not_eq_true', Bool.not_eq_false', mod_ok (show (0 : Int) < 2147483647 by omega)]
      generalize (C + 17) * A = B
      have b1 := Int.emod_nonneg B (show (2147483647 : Int) ≠ 0 by omega)
      have b2 := Int.emod_lt_of_pos B (show (0 : Int) < 2147483647 by omega)
      generalize B % 2147483647 = D at b1 b2 ⊢
      rw [mul_ok (by omega) (by omega)]
      simp only [e_v, e_kN, e_kB, e_kI, e_kS, e_globI, e_globS, es_nil, es_cons, e_tup, e_lst, e_dct, e_bin, e_neg, e_not, e_cmp, e_chain, e_ite, e_ix, e_sl, e_rev, e_call, e_bif, e_isi, e_mth, e_boo, b_one, b_cons, n_not, n_one, n_or, n_and, n_v, n_cmp, n_chain, n_call, n_bif, n_isi, n_ix, n_bin, x_nil, x_pass, x_seq, a_v, a_tup, a_ix, as_nil, as_cons, x_asg, x_aug, x_ex, x_ret, x_retN, x_ite, sat_ok, bind_sat, partOf_no, part_kI, part_v, part_bin, part_neg, t_bl, t_int, c_lt, c_gt, c_le, c_ge, c_eq, c_ne, c_eqS, c_neS, c_is, c_isNot, len_tup, ix_0, ix_1, ix_2, ix_3, ix_4, ix_5, ix_6, ix_7, List.getElem?_cons_zero, List.getElem?_cons_succ, List.set_cons_zero, List.set_cons_succ, Option.some.injEq, exists_eq_left', exists_eq_left, startW, List.length_cons, List.length_nil, List.map_cons, List.map_nil, List.replicate_succ, List.replicate_zero, List.cons_append, List.nil_append, W.bl.injEq, W.int.injEq, Bool.true_eq_false, Bool.false_eq_true, false_implies, true_implies, and_true, true_and, Bool.not_true, Bool.not_false, implies_true, forall_const, decide_eq_true_eq, decide_eq_false_iff_not, Bool.not_eq_true', Bool.not_eq_false', mod_ok (show (0 : Int) < 2147483629 by omega)]
      have d1 := Int.emod_nonneg (D * D) (show (2147483629 : Int) ≠ 0 by omega)
      have d2 := Int.emod_lt_of_pos (D * D) (show (0 : Int) < 2147483629 by omega)
      generalize D * D % 2147483629 = F at d1 d2 ⊢
      rw [mul_ok (i := 50021) (j := turn) (by decide) (by omega)]
      simp only [e_v, e_kN, e_kB, e_kI, e_kS, e_globI, e_globS, es_nil, es_cons, e_tup, e_lst, e_dct, e_bin, e_neg, e_not, e_cmp, e_chain, e_ite, e_ix, e_sl, e_rev, e_call, e_bif, e_isi, e_mth, e_boo, b_one, b_cons, n_not, n_one, n_or, n_and, n_v, n_cmp, n_chain, n_call, n_bif, n_isi, n_ix, n_bin, x_nil, x_pass, x_seq, a_v, a_tup, a_ix, as_nil, as_cons, x_asg, x_aug, x_ex, x_ret, x_retN, x_ite, sat_ok, bind_sat, partOf_no, part_kI, part_v, part_bin, part_neg, t_bl, t_int, c_lt, c_gt, c_le, c_ge, c_eq, c_ne, c_eqS, c_neS, c_is, c_isNot, len_tup, ix_0, ix_1, ix_2, ix_3, ix_4, ix_5, ix_6, ix_7, List.getElem?_cons_zero, List.getElem?_cons_succ, List.set_cons_zero, List.set_cons_succ, Option.some.injEq, exists_eq_left', exists_eq_left, startW, List.length_cons, List.length_nil, List.map_cons, List.map_nil, List.replicate_succ, List.replicate_zero, List.cons_append, List.nil_append, W.bl.injEq, W.int.injEq, Bool.true_eq_false, Bool.false_eq_true, false_implies, true_implies, and_true, true_and, Bool.not_true, Bool.not_false, implies_true, forall_const, decide_eq_true_eq, decide_eq_false_iff_not, Bool.not_eq_true', Bool.not_eq_false', add_ii]
      rw [mul_ok (by omega) (by decide)]
      simp only [e_v, e_kN, e_kB, e_kI, e_kS, e_globI, e_globS, es_nil, es_cons, e_tup, e_lst, e_dct, e_bin, e_neg, e_not, e_cmp, e_chain, e_ite, e_ix, e_sl, e_rev, e_call, e_bif, e_isi, e_mth, e_boo, b_one, b_cons, n_not, n_one, n_or, n_and, n_v, n_cmp, n_chain, n_call, n_bif, n_isi, n_ix, n_bin, x_nil, x_pass, x_seq, a_v, a_tup, a_ix, as_nil, as_cons, x_asg, x_aug, x_ex, x_ret, x_retN, x_ite, sat_ok, bind_sat, partOf_no, part_kI, part_v, part_bin, part_neg, t_bl, t_int, c_lt, c_gt, c_le, c_ge, c_eq, c_ne, c_eqS, c_neS, c_is, c_isNot, len_tup, ix_0, ix_1, ix_2, ix_3, ix_4, ix_5, ix_6, ix_7, List.getElem?_cons_zero, List.getElem?_cons_succ, List.set_cons_zero, List.set_cons_succ, Option.some.injEq, exists_eq_left', exists_eq_left, startW, List.length_cons, List.length_nil, List.map_cons, List.map_nil, List.replicate_succ, List.replicate_zero, List.cons_append, List.nil_append, W.bl.injEq, W.int.injEq, Bool.true_eq_false, Bool.false_eq_true, false_implies, true_implies, and_true, true_and, Bool.not_true, Bool.not_false, implies_true, forall_const, decide_eq_true_eq, decide_eq_false_iff_not, Bool.not_eq_true', Bool.not_eq_false', mod_ok (show (0 : Int) < 2147483579 by omega), fdiv_ok (show (0 : Int) < 32 by omega) (show (32 : Int) < 2 ^ 200 by decide), mod_ok (show 0 < size by omega)]
      exact fin ⟨c, cs, turn + 1, rest, hs2, hcs2, hc, by omega, by omega, hr0, hl⟩ E2
/-- one of some -/
theorem r_law_pick {m : Nat} (hm : 2 ≤ m) {p t q : Nat} {ws : List W} (S : Sto) (h : Strm p t S) (ht : t < 2 ^ 60) (hq : S[q]? = some (.lst ws)) (hn : q ≠ p) (h1 : 1 ≤ ws.length) (h2 : ws.length < 1000) : (callN Γ m "_law_pick" [.ref p, .ref q] S).sat fun w S' => w ∈ ws ∧ Strm p (t + 1) S' ∧ Ext p S S' := by
  obtain ⟨n, rfl⟩ : ∃ n, m = n + 2 := ⟨m - 2, by omega⟩
  rw [call_sat l__law_pick]
  simp only [d__law_pick, e_v, e_kN, e_kB, e_kI, e_kS, e_globI, e_globS, es_nil, es_cons, e_tup, e_lst, e_dct, e_bin, e_neg, e_not, e_cmp, e_chain, e_ite, e_ix, e_sl, e_rev, e_call, e_bif, e_isi, e_mth, e_boo, b_one, b_cons, n_not, n_one, n_or, n_and, n_v, n_cmp, n_chain, n_call, n_bif, n_isi, n_ix, n_bin, x_nil, x_pass, x_seq, a_v, a_tup, a_ix, as_nil, as_cons, x_asg, x_aug, x_ex, x_ret, x_retN, x_ite, sat_ok, bind_sat, partOf_no, part_kI, part_v, part_bin, part_neg, t_bl, t_int, c_lt, c_gt, c_le, c_ge, c_eq, c_ne, c_eqS, c_neS, c_is, c_isNot, len_tup, ix_0, ix_1, ix_2, ix_3, ix_4, ix_5, ix_6, ix_7, List.getElem?_cons_zero, List.getElem?_cons_succ, List.set_cons_zero, List.set_cons_succ, Option.some.injEq, exists_eq_left', exists_eq_left, startW, List.length_cons, List.length_nil, List.map_cons, List.map_nil, List.replicate_succ, List.replicate_zero, List.cons_append, List.nil_append, W.bl.injEq, W.int.injEq, Bool.true_eq_false, Bool.false_eq_true, false_implies, true_implies, and_true, true_and, Bool.not_true, Bool.not_false, implies_true, forall_const, decide_eq_true_eq, decide_eq_false_iff_not, Bool.not_eq_true', Bool.not_eq_false', len_lst hq]
  refine (r_law_draw (m := n + 1) (by omega) ws.length S h ht (by omega) (by omega)).mono ?_
  rintro w S1 ⟨d, rfl, hd, hs1, he1⟩
  have hdl : d < ws.length := by omega
  rw [ix_lst (he1.at hn hq) (List.getElem?_eq_getElem hdl)]
  exact ⟨List.getElem_mem _, hs1, he1⟩
/-- a reason: a tuple of a word and numbers -/
def reaV (w : W) : Prop := (∃ x : Str, w = .tup [.str x]) ∨ (∃ x : Str, ∃ k : Int, w = .tup [.str x, .int k]) ∨ ∃ x : Str, ∃ k e : Int, w = .tup [.str x, .int k, .int e]
theorem r_law_reason {m : Nat} (hm : 3 ≤ m) {p t : Nat} (S : Sto) (h : Strm p t S) (ht : t < 2 ^ 50) : (callN Γ m "_law_reason" [.ref p] S).sat fun w S' => reaV w ∧ Strm p (t + 3) S' ∧ Ext p S S' := by
  obtain ⟨n, rfl⟩ : ∃ n, m = n + 3 := ⟨m - 3, by omega⟩
  have hp := h.lt
  rw [call_sat l__law_reason]
  simp only [d__law_reason, e_v, e_kN, e_kB, e_kI, e_kS, e_globI, e_globS, es_nil, es_cons, e_tup, e_lst, e_dct, e_bin, e_neg, e_not, e_cmp, e_chain, e_ite, e_ix, e_sl, e_rev, e_call, e_bif, e_isi, e_mth, e_boo, b_one, b_cons, n_not, n_one, n_or, n_and, n_v, n_cmp, n_chain, n_call, n_bif, n_isi, n_ix, n_bin, x_nil, x_pass, x_seq, a_v, a_tup, a_ix, as_nil, as_cons, x_asg, x_aug, x_ex, x_ret, x_retN, x_ite, sat_ok, bind_sat, partOf_no, part_kI, part_v, part_bin, part_neg, t_bl, t_int, c_lt, c_gt, c_le, c_ge, c_eq, c_ne, c_eqS, c_neS, c_is, c_isNot, len_tup, ix_0, ix_1, ix_2, ix_3, ix_4, ix_5, ix_6, ix_7, List.getElem?_cons_zero, List.getElem?_cons_succ, List.set_cons_zero, List.set_cons_succ, Option.some.injEq, exists_eq_left', exists_eq_left, startW, List.length_cons, List.length_nil, List.map_cons, List.map_nil, List.replicate_succ, List.replicate_zero, List.cons_append, List.nil_append, W.bl.injEq, W.int.injEq, Bool.true_eq_false, Bool.false_eq_true, false_implies, true_implies, and_true, true_and, Bool.not_true, Bool.not_false, implies_true, forall_const, decide_eq_true_eq, decide_eq_false_iff_not, Bool.not_eq_true', Bool.not_eq_false']
  refine (r_law_draw (m := n + 2) (by omega) 8 S h (by omega) (by omega) (by omega)).mono ?_
  rintro w S1 ⟨k, rfl, hk, hs1, he1⟩
  refine (r_law_draw (m := n + 2) (by omega) 40 S1 hs1 (by omega) (by omega) (by omega)).mono ?_
  rintro w S2 ⟨e, rfl, hee, hs2, he2⟩
  simp only [e_v, e_kN, e_kB, e_kI, e_kS, e_globI, e_globS, es_nil, es_cons, e_tup, e_lst, e_dct, e_bin, e_neg, e_not, e_cmp, e_chain, e_ite, e_ix, e_sl, e_rev, e_call, e_bif, e_isi, e_mth, e_boo, b_one, b_cons, n_not, n_one, n_or, n_and, n_v, n_cmp, n_chain, n_call, n_bif, n_isi, n_ix, n_bin, x_nil, x_pass, x_seq, a_v, a_tup, a_ix, as_nil, as_cons, x_asg, x_aug, x_ex, x_ret, x_retN, x_ite, sat_ok, bind_sat, partOf_no, part_kI, part_v, part_bin, part_neg, t_bl, t_int, c_lt, c_gt, c_le, c_ge, c_eq, c_ne, c_eqS, c_neS, c_is, c_isNot, len_tup, ix_0, ix_1, ix_2, ix_3, ix_4, ix_5, ix_6, ix_7, List.getElem?_cons_zero, List.getElem?_cons_succ, List.set_cons_zero, List.set_cons_succ, Option.some.injEq, exists_eq_left', exists_eq_left, startW, List.length_cons, List.length_nil, List.map_cons, List.map_nil, List.replicate_succ, List.replicate_zero, List.cons_append, List.nil_append, W.bl.injEq, W.int.injEq, Bool.true_eq_false, Bool.false_eq_true, false_implies, true_implies, and_true, true_and, Bool.not_true, Bool.not_false, implies_true, forall_const, decide_eq_true_eq, decide_eq_false_iff_not, Bool.not_eq_true', Bool.not_eq_false', mod_ok (show (0 : Int) < 4 by omega)]
  refine ⟨by decide, by decide, by decide, by decide, by decide, by decide, by decide, ?_⟩
  have hp2 := hs2.lt
  refine (r_law_pick (m := n + 2) (by omega) _ (hs2.mono (Ap.new _ _) (Nat.le_refl _)) (by omega) List.getElem?_concat_length (by omega) (by simp) (by simp)).mono ?_
  rintro w S3 ⟨hw, hs3, he3⟩
  refine ⟨?_, hs3, ((he1.trans he2).trans (Ext.new _ _ _)).trans he3⟩
  simp only [List.mem_cons, List.not_mem_nil, or_false] at hw
  rcases hw with rfl | rfl | rfl | rfl | rfl
  · exact .inl ⟨_, rfl⟩
  · exact .inr (.inl ⟨_, _, rfl⟩)
  · exact .inr (.inr ⟨_, _, _, rfl⟩)
  · exact .inr (.inl ⟨_, _, rfl⟩)
  · exact .inr (.inr ⟨_, _, _, rfl⟩)
theorem ne_rea {w : W} {S : Sto} (h : reaV w) : cmpW .ne w w S = .ok (.bl false) S := by
  rcases h with ⟨x, rfl⟩ | ⟨x, k, rfl⟩ | ⟨x, k, e, rfl⟩
  · have d : dataOf S (.tup [.str x]) = some (.tuple [.str x]) := rfl
    have e : lenNe S (.tup [.str x]) (.tup [.str x]) = false := rfl
    simp [cmpW, e, onData, d, eqD, PyData.plain, PyData.plainAll, isDeep, PyData.depth, PyData.depthAll, deepMax, PyData.eqv, PyData.eqvAll]
  · have d : dataOf S (.tup [.str x, .int k]) = some (.tuple [.str x, .int k]) := rfl
    have e : lenNe S (.tup [.str x, .int k]) (.tup [.str x, .int k]) = false := rfl
    simp [cmpW, e, onData, d, eqD, PyData.plain, PyData.plainAll, isDeep, PyData.depth, PyData.depthAll, deepMax, PyData.eqv, PyData.eqvAll]
  · have d : dataOf S (.tup [.str x, .int k, .int e]) = some (.tuple [.str x, .int k, .int e]) := rfl
    have e' : lenNe S (.tup [.str x, .int k, .int e]) (.tup [.str x, .int k, .int e]) = false := rfl
    simp [cmpW, e', onData, d, eqD, PyData.plain, PyData.plainAll, isDeep, PyData.depth, PyData.depthAll, deepMax, PyData.eqv, PyData.eqvAll]
end Law

set_option Elab.async false
set_option linter.all false
set_option maxRecDepth 100000
set_option maxHeartbeats 4000000
/-! the law's errors -/
namespace PI
open L2
open PySem (Str PyData sizeLine)
section
variable {Φ : Fns} {η : Env} {S : Sto} {Q : W → Sto → Prop}
theorem e_new0 {c : Str} : (eval Φ (.new0 c) η S).sat Q ↔ Q (.exc c [] []) S := by
  rw [eval]
  exact Iff.rfl
theorem e_new1 {c f : Str} {a : E} : (eval Φ (.new1 c f a) η S).sat Q ↔ (eval Φ a η S).sat fun w S1 => Q (.exc c [f] [w]) S1 := by
  rw [eval, bind_sat]
  exact Iff.rfl
theorem e_fld {a : E} {f : Str} {cs : List Str} : (eval Φ (.fld a f cs) η S).sat Q ↔ (eval Φ a η S).sat fun x S1 => (fldV f cs x S1).sat Q := by
  rw [eval, bind_sat]
theorem isx_at {all : List Str} {ds : List (Str × List Str)} {c : Str} {fn : List Str} {ws : List W} (hc : all.contains c = true) : isxW all ds (.exc c fn ws) = some (ds.any fun d => d.2.contains c) := by
  simp only [isxW, hc, if_pos]
end
end PI
namespace Law
open PI
open PySem (Str PyData sizeLine)
def errsL (r m : W) : List W := [.exc "BadAtlas" ["reason"] [r], .exc "BadRoute" ["position"] [m], .exc "BadTrip" ["position"] [m], .exc "BadText" ["line"] [m], .exc "UnknownMap" [] [], .exc "BadAddress" [] [], .exc "BadPlace" [] [], .exc "BadPoint" [] [], .exc "BadPort" [] [], .exc "BadStep" [] [], .exc "BadCost" [] [],
  .exc "BadDepth" [] [], .exc "BadLabel" [] [], .exc "BadModulus" [] [], .exc "BadSlot" [] [], .exc "BadEdit" [] [], .exc "BadCommand" [] [], .exc "NoEdge" [] [], .exc "NoRoute" [] [], .exc "NotInside" [] [], .exc "NotJoined" [] [], .exc "TooLarge" [] []]
def order : List Str := ["BadAtlas", "BadRoute", "BadTrip", "BadText", "UnknownMap", "BadAddress", "BadPlace", "BadPoint", "BadPort", "BadStep", "BadCost", "BadDepth", "BadLabel", "BadModulus", "BadSlot", "BadEdit", "BadCommand", "NoEdge", "NoRoute", "NotInside", "NotJoined", "TooLarge"]
theorem r_law_made {n : Nat} (r m : W) (S : Sto) : (callN Γ (n + 1) "_law_made" [r, m] S).sat fun w S' => ∃ q, w = .ref q ∧ S.length ≤ q ∧ S'[q]? = some (.lst (errsL r m)) ∧ Ap S S' := by
  rw [call_sat l__law_made]
  simp only [d__law_made, e_v, e_kN, e_kB, e_kI, e_kS, e_globI, e_globS, es_nil, es_cons, e_tup, e_lst, e_dct, e_bin, e_neg, e_not, e_cmp, e_chain, e_ite, e_ix, e_sl, e_rev, e_call, e_bif, e_isi, e_mth, e_boo, b_one, b_cons, n_not, n_one, n_or, n_and, n_v, n_cmp, n_chain, n_call, n_bif, n_isi, n_ix, n_bin, x_nil, x_pass, x_seq, a_v, a_tup, a_ix, as_nil, as_cons, x_asg, x_aug, x_ex, x_ret, x_retN, x_ite, sat_ok, bind_sat, partOf_no, part_kI, part_v, part_bin, part_neg, t_bl, t_int, c_lt, c_gt, c_le, c_ge, c_eq, c_ne, c_eqS, c_neS, c_is, c_isNot, len_tup, ix_0, ix_1, ix_2, ix_3, ix_4, ix_5, ix_6, ix_7, List.getElem?_cons_zero, List.getElem?_cons_succ, List.set_cons_zero, List.set_cons_succ, Option.some.injEq, exists_eq_left', exists_eq_left, startW, List.length_cons, List.length_nil, List.map_cons, List.map_nil, List.replicate_succ, List.replicate_zero, List.cons_append, List.nil_append, W.bl.injEq, W.int.injEq, Bool.true_eq_false, Bool.false_eq_true, false_implies, true_implies, and_true, true_and, Bool.not_true, Bool.not_false, implies_true, forall_const, decide_eq_true_eq, decide_eq_false_iff_not, Bool.not_eq_true', Bool.not_eq_false', e_new0, e_new1]
  refine ⟨by decide, by decide, ?_⟩
  have a1 := Ap.new S [O.lst [.exc "BadAtlas" ["reason"] [r], .exc "BadRoute" ["position"] [m], .exc "BadTrip" ["position"] [m], .exc "BadText" ["line"] [m], .exc "UnknownMap" [] [], .exc "BadAddress" [] []]]
  rw [add_ll ((Ap.new _ _).at List.getElem?_concat_length) List.getElem?_concat_length (by simp)]
  simp only [e_v, e_kN, e_kB, e_kI, e_kS, e_globI, e_globS, es_nil, es_cons, e_tup, e_lst, e_dct, e_bin, e_neg, e_not, e_cmp, e_chain, e_ite, e_ix, e_sl, e_rev, e_call, e_bif, e_isi, e_mth, e_boo, b_one, b_cons, n_not, n_one, n_or, n_and, n_v, n_cmp, n_chain, n_call, n_bif, n_isi, n_ix, n_bin, x_nil, x_pass, x_seq, a_v, a_tup, a_ix, as_nil, as_cons, x_asg, x_aug, x_ex, x_ret, x_retN, x_ite, sat_ok, bind_sat, partOf_no, part_kI, part_v, part_bin, part_neg, t_bl, t_int, c_lt, c_gt, c_le, c_ge, c_eq, c_ne, c_eqS, c_neS, c_is, c_isNot, len_tup, ix_0, ix_1, ix_2, ix_3, ix_4, ix_5, ix_6, ix_7, List.getElem?_cons_zero, List.getElem?_cons_succ, List.set_cons_zero, List.set_cons_succ, Option.some.injEq, exists_eq_left', exists_eq_left, startW, List.length_cons, List.length_nil, List.map_cons, List.map_nil, List.replicate_succ, List.replicate_zero, List.cons_append, List.nil_append, W.bl.injEq, W.int.injEq, Bool.true_eq_false, Bool.false_eq_true, false_implies, true_implies, and_true, true_and, Bool.not_true, Bool.not_false, implies_true, forall_const, decide_eq_true_eq, decide_eq_false_iff_not, Bool.not_eq_true', Bool.not_eq_false']
  refine ⟨by decide, ?_⟩
  rw [add_ll ((Ap.new _ _).at List.getElem?_concat_length) List.getElem?_concat_length (by simp)]
  simp only [e_v, e_kN, e_kB, e_kI, e_kS, e_globI, e_globS, es_nil, es_cons, e_tup, e_lst, e_dct, e_bin, e_neg, e_not, e_cmp, e_chain, e_ite, e_ix, e_sl, e_rev, e_call, e_bif, e_isi, e_mth, e_boo, b_one, b_cons, n_not, n_one, n_or, n_and, n_v, n_cmp, n_chain, n_call, n_bif, n_isi, n_ix, n_bin, x_nil, x_pass, x_seq, a_v, a_tup, a_ix, as_nil, as_cons, x_asg, x_aug, x_ex, x_ret, x_retN, x_ite, sat_ok, bind_sat, partOf_no, part_kI, part_v, part_bin, part_neg, t_bl, t_int, c_lt, c_gt, c_le, c_ge, c_eq, c_ne, c_eqS, c_neS, c_is, c_isNot, len_tup, ix_0, ix_1, ix_2, ix_3, ix_4, ix_5, ix_6, ix_7, List.getElem?_cons_zero, List.getElem?_cons_succ, List.set_cons_zero, List.set_cons_succ, Option.some.injEq, exists_eq_left', exists_eq_left, startW, List.length_cons, List.length_nil, List.map_cons, List.map_nil, List.replicate_succ, List.replicate_zero, List.cons_append, List.nil_append, W.bl.injEq, W.int.injEq, Bool.true_eq_false, Bool.false_eq_true, false_implies, true_implies, and_true, true_and, Bool.not_true, Bool.not_false, implies_true, forall_const, decide_eq_true_eq, decide_eq_false_iff_not, Bool.not_eq_true', Bool.not_eq_false']
  exact ⟨_, rfl, by simp, List.getElem?_concat_length, (a1.trans (Ap.new _ _)).trans ((Ap.new _ _).trans ((Ap.new _ _).trans (Ap.new _ _)))⟩
def bls (bs : List Bool) : List W := bs.map W.bl
theorem eqv_bls : ∀ bs : List Bool, PyData.plainAll (bs.map .bool) = true ∧ PyData.depthAll (bs.map .bool) ≤ 1 ∧ PyData.eqvAll (bs.map .bool) (bs.map .bool) = true
  | [] => by simp [PyData.plainAll, PyData.depthAll, PyData.eqvAll]
  | b :: bs => by
    obtain ⟨h1, h2, h3⟩ := eqv_bls bs
    refine ⟨by simp [PyData.plainAll, PyData.plain, h1], ?_, by simp [PyData.eqvAll, PyData.eqv, h3]⟩
    simp [PyData.depthAll, PyData.depth]
    omega
theorem dat_bls {S : Sto} {a : Nat} {bs : List Bool} (h : S[a]? = some (.lst (bls bs))) : dataOf S (.ref a) = some (.list (bs.map .bool)) := by
  show toD S (59 + 1) (.ref a) = _
  have e : optAll ((bls bs).map (toD S 59)) = some (bs.map .bool) := by
    clear h
    induction bs with
    | nil => rfl
    | cons b bs ih =>
      show (optAll ((bls bs).map (toD S 59))).map (PyData.bool b :: ·) = _
      rw [ih]
      rfl
  simp only [toD, lstOf_at h, Option.bind_some, e]
  rfl
/-- two lists of truths, alike -/
theorem ne_bls {S : Sto} {a b : Nat} {bs : List Bool} (ha : S[a]? = some (.lst (bls bs))) (hb : S[b]? = some (.lst (bls bs))) : cmpW .ne (.ref a) (.ref b) S = .ok (.bl false) S := by
  have e : lenNe S (.ref a) (.ref b) = false := by simp [lenNe, lstOf_at ha, lstOf_at hb]
  obtain ⟨h1, h2, h3⟩ := eqv_bls bs
  have dp : isDeep (.list (bs.map .bool)) = true := decide_eq_true (show PyData.depthAll (bs.map .bool) + 1 ≤ 60 by omega)
  have pl : (PyData.list (bs.map .bool)).plain = true := by simpa [PyData.plain] using h1
  have eq : PyData.eqv (.list (bs.map .bool)) (.list (bs.map .bool)) = true := by simpa [PyData.eqv] using h3
  simp only [cmpW, e, onData, dat_bls ha, dat_bls hb, eqD, dp, pl, eq]
  rfl
section
variable {Φ : Fns} {c : Str} {fn : List Str} {ws : List W} (hc : gall.contains c = true)
include hc
theorem k_add {A B C : Str × List Str} {S : Sto} {q : Nat} {bs : List Bool} (hq : S[q]? = some (.lst (bls bs))) (hl : bs.length ≤ 100) {P : Post} (h : ∀ q1 S1, S1[q1]? = some (.lst (bls (bs ++ [A.2.contains c, B.2.contains c, C.2.contains c]))) → Ap S S1 → P.nx [some (.exc c fn ws), some (.ref q1)] S1) :
    (exec Φ (.asg (.v 1) (.bin .add (.v 1) (.lst (.cons (.isx (.v 0) gall [A]) (.cons (.isx (.v 0) gall [B]) (.cons (.isx (.v 0) gall [C]) .nil)))))) [some (.exc c fn ws), some (.ref q)] S).sat P := by
  simp only [e_v, e_kN, e_kB, e_kI, e_kS, e_globI, e_globS, es_nil, es_cons, e_tup, e_lst, e_dct, e_bin, e_neg, e_not, e_cmp, e_chain, e_ite, e_ix, e_sl, e_rev, e_call, e_bif, e_isi, e_mth, e_boo, b_one, b_cons, n_not, n_one, n_or, n_and, n_v, n_cmp, n_chain, n_call, n_bif, n_isi, n_ix, n_bin, x_nil, x_pass, x_seq, a_v, a_tup, a_ix, as_nil, as_cons, x_asg, x_aug, x_ex, x_ret, x_retN, x_ite, sat_ok, bind_sat, partOf_no, part_kI, part_v, part_bin, part_neg, t_bl, t_int, c_lt, c_gt, c_le, c_ge, c_eq, c_ne, c_eqS, c_neS, c_is, c_isNot, len_tup, ix_0, ix_1, ix_2, ix_3, ix_4, ix_5, ix_6, ix_7, List.getElem?_cons_zero, List.getElem?_cons_succ, List.set_cons_zero, List.set_cons_succ, Option.some.injEq, exists_eq_left', exists_eq_left, startW, List.length_cons, List.length_nil, List.map_cons, List.map_nil, List.replicate_succ, List.replicate_zero, List.cons_append, List.nil_append, W.bl.injEq, W.int.injEq, Bool.true_eq_false, Bool.false_eq_true, false_implies, true_implies, and_true, true_and, Bool.not_true, Bool.not_false, implies_true, forall_const, decide_eq_true_eq, decide_eq_false_iff_not, Bool.not_eq_true', Bool.not_eq_false', e_isx, isx_at hc, List.any_cons, List.any_nil, Bool.or_false]
  refine ⟨by decide, ?_⟩
  rw [add_ll (a := bls bs) ((Ap.new _ _).at hq) List.getElem?_concat_length (by simp [bls]; omega)]
  simp only [e_v, e_kN, e_kB, e_kI, e_kS, e_globI, e_globS, es_nil, es_cons, e_tup, e_lst, e_dct, e_bin, e_neg, e_not, e_cmp, e_chain, e_ite, e_ix, e_sl, e_rev, e_call, e_bif, e_isi, e_mth, e_boo, b_one, b_cons, n_not, n_one, n_or, n_and, n_v, n_cmp, n_chain, n_call, n_bif, n_isi, n_ix, n_bin, x_nil, x_pass, x_seq, a_v, a_tup, a_ix, as_nil, as_cons, x_asg, x_aug, x_ex, x_ret, x_retN, x_ite, sat_ok, bind_sat, partOf_no, part_kI, part_v, part_bin, part_neg, t_bl, t_int, c_lt, c_gt, c_le, c_ge, c_eq, c_ne, c_eqS, c_neS, c_is, c_isNot, len_tup, ix_0, ix_1, ix_2, ix_3, ix_4, ix_5, ix_6, ix_7, List.getElem?_cons_zero, List.getElem?_cons_succ, List.set_cons_zero, List.set_cons_succ, Option.some.injEq, exists_eq_left', exists_eq_left, startW, List.length_cons, List.length_nil, List.map_cons, List.map_nil, List.replicate_succ, List.replicate_zero, List.cons_append, List.nil_append, W.bl.injEq, W.int.injEq, Bool.true_eq_false, Bool.false_eq_true, false_implies, true_implies, and_true, true_and, Bool.not_true, Bool.not_false, implies_true, forall_const, decide_eq_true_eq, decide_eq_false_iff_not, Bool.not_eq_true', Bool.not_eq_false']
  refine h _ _ ?_ ((Ap.new _ _).trans (Ap.new _ _))
  rw [List.getElem?_concat_length]
  simp [bls]
def kindsB (c : Str) : List Bool := order.map fun x => [x].contains c
theorem r_law_kinds {n : Nat} (S : Sto) : (callN Γ (n + 1) "_law_kinds" [.exc c fn ws] S).sat fun w S' => ∃ q, w = .ref q ∧ S'[q]? = some (.lst (bls (kindsB c))) ∧ Ap S S' := by
  rw [call_sat l__law_kinds]
  refine ⟨rfl, ?_⟩
  rw [show startW d__law_kinds [.exc c fn ws] = [some (.exc c fn ws), none] from rfl]
  refine x_cut (t := tl d__law_kinds.body) (fun η1 S1 => ∃ q, η1 = [some (.exc c fn ws), some (.ref q)] ∧ S1[q]? = some (.lst (bls [(["BadAtlas"] : List Str).contains c, (["BadRoute"] : List Str).contains c, (["BadTrip"] : List Str).contains c])) ∧ Ap S S1) ?_ ?_
  · simp only [e_v, e_kN, e_kB, e_kI, e_kS, e_globI, e_globS, es_nil, es_cons, e_tup, e_lst, e_dct, e_bin, e_neg, e_not, e_cmp, e_chain, e_ite, e_ix, e_sl, e_rev, e_call, e_bif, e_isi, e_mth, e_boo, b_one, b_cons, n_not, n_one, n_or, n_and, n_v, n_cmp, n_chain, n_call, n_bif, n_isi, n_ix, n_bin, x_nil, x_pass, x_seq, a_v, a_tup, a_ix, as_nil, as_cons, x_asg, x_aug, x_ex, x_ret, x_retN, x_ite, sat_ok, bind_sat, partOf_no, part_kI, part_v, part_bin, part_neg, t_bl, t_int, c_lt, c_gt, c_le, c_ge, c_eq, c_ne, c_eqS, c_neS, c_is, c_isNot, len_tup, ix_0, ix_1, ix_2, ix_3, ix_4, ix_5, ix_6, ix_7, List.getElem?_cons_zero, List.getElem?_cons_succ, List.set_cons_zero, List.set_cons_succ, Option.some.injEq, exists_eq_left', exists_eq_left, startW, List.length_cons, List.length_nil, List.map_cons, List.map_nil, List.replicate_succ, List.replicate_zero, List.cons_append, List.nil_append, W.bl.injEq, W.int.injEq, Bool.true_eq_false, Bool.false_eq_true, false_implies, true_implies, and_true, true_and, Bool.not_true, Bool.not_false, implies_true, forall_const, decide_eq_true_eq, decide_eq_false_iff_not, Bool.not_eq_true', Bool.not_eq_false', e_isx, isx_at hc, List.any_cons, List.any_nil, Bool.or_false]
    exact ⟨by decide, _, rfl, List.getElem?_concat_length, Ap.new _ _⟩
  rintro η1 S1 ⟨q1, rfl, h1, a1⟩
  show (exec (callN Γ n) (.seq _ _) _ S1).sat _
  refine x_seq.mpr ?_
  refine k_add hc h1 (by simp) fun q2 S2 h2 a2 => ?_
  refine x_seq.mpr ?_
  refine k_add hc h2 (by simp) fun q3 S3 h3 a3 => ?_
  refine x_seq.mpr ?_
  refine k_add hc h3 (by simp) fun q4 S4 h4 a4 => ?_
  refine x_seq.mpr ?_
  refine k_add hc h4 (by simp) fun q5 S5 h5 a5 => ?_
  refine x_seq.mpr ?_
  refine k_add hc h5 (by simp) fun q6 S6 h6 a6 => ?_
  refine x_seq.mpr ?_
  refine k_add hc h6 (by simp) fun q7 S7 h7 a7 => ?_
  show (exec (callN Γ n) (.seq (.ret _) _) _ S7).sat _
  simp only [e_v, e_kN, e_kB, e_kI, e_kS, e_globI, e_globS, es_nil, es_cons, e_tup, e_lst, e_dct, e_bin, e_neg, e_not, e_cmp, e_chain, e_ite, e_ix, e_sl, e_rev, e_call, e_bif, e_isi, e_mth, e_boo, b_one, b_cons, n_not, n_one, n_or, n_and, n_v, n_cmp, n_chain, n_call, n_bif, n_isi, n_ix, n_bin, x_nil, x_pass, x_seq, a_v, a_tup, a_ix, as_nil, as_cons, x_asg, x_aug, x_ex, x_ret, x_retN, x_ite, sat_ok, bind_sat, partOf_no, part_kI, part_v, part_bin, part_neg, t_bl, t_int, c_lt, c_gt, c_le, c_ge, c_eq, c_ne, c_eqS, c_neS, c_is, c_isNot, len_tup, ix_0, ix_1, ix_2, ix_3, ix_4, ix_5, ix_6, ix_7, List.getElem?_cons_zero, List.getElem?_cons_succ, List.set_cons_zero, List.set_cons_succ, Option.some.injEq, exists_eq_left', exists_eq_left, startW, List.length_cons, List.length_nil, List.map_cons, List.map_nil, List.replicate_succ, List.replicate_zero, List.cons_append, List.nil_append, W.bl.injEq, W.int.injEq, Bool.true_eq_false, Bool.false_eq_true, false_implies, true_implies, and_true, true_and, Bool.not_true, Bool.not_false, implies_true, forall_const, decide_eq_true_eq, decide_eq_false_iff_not, Bool.not_eq_true', Bool.not_eq_false', e_isx, isx_at hc, List.any_cons, List.any_nil, Bool.or_false]
  refine ⟨by decide, ?_⟩
  rw [add_ll ((Ap.new _ _).at h7) List.getElem?_concat_length (by simp [bls])]
  simp only [e_v, e_kN, e_kB, e_kI, e_kS, e_globI, e_globS, es_nil, es_cons, e_tup, e_lst, e_dct, e_bin, e_neg, e_not, e_cmp, e_chain, e_ite, e_ix, e_sl, e_rev, e_call, e_bif, e_isi, e_mth, e_boo, b_one, b_cons, n_not, n_one, n_or, n_and, n_v, n_cmp, n_chain, n_call, n_bif, n_isi, n_ix, n_bin, x_nil, x_pass, x_seq, a_v, a_tup, a_ix, as_nil, as_cons, x_asg, x_aug, x_ex, x_ret, x_retN, x_ite, sat_ok, bind_sat, partOf_no, part_kI, part_v, part_bin, part_neg, t_bl, t_int, c_lt, c_gt, c_le, c_ge, c_eq, c_ne, c_eqS, c_neS, c_is, c_isNot, len_tup, ix_0, ix_1, ix_2, ix_3, ix_4, ix_5, ix_6, ix_7, List.getElem?_cons_zero, List.getElem?_cons_succ, List.set_cons_zero, List.set_cons_succ, Option.some.injEq, exists_eq_left', exists_eq_left, startW, List.length_cons, List.length_nil, List.map_cons, List.map_nil, List.replicate_succ, List.replicate_zero, List.cons_append, List.nil_append, W.bl.injEq, W.int.injEq, Bool.true_eq_false, Bool.false_eq_true, false_implies, true_implies, and_true, true_and, Bool.not_true, Bool.not_false, implies_true, forall_const, decide_eq_true_eq, decide_eq_false_iff_not, Bool.not_eq_true', Bool.not_eq_false']
  refine ⟨_, rfl, ?_, ((((((a1.trans a2).trans a3).trans a4).trans a5).trans a6).trans a7).trans ((Ap.new _ _).trans (Ap.new _ _))⟩
  rw [List.getElem?_concat_length]
  simp [bls, kindsB, order]
end
end Law

set_option Elab.async false
set_option linter.all false
set_option maxRecDepth 100000
set_option maxHeartbeats 4000000
/-! the law's loop -/
namespace Law
open PI
open PySem (Str PyData sizeLine)
def belowS : List Str := ["SlotmapsError", "BadAtlas", "UnknownMap", "BadAddress", "BadPlace", "BadPoint", "BadPort", "BadRoute", "BadTrip", "BadStep", "BadCost", "BadDepth", "BadLabel", "BadModulus", "BadSlot", "BadEdit", "BadText", "BadCommand", "NoEdge", "NoRoute", "NotInside", "NotJoined", "TooLarge"]
def basesB (c : Str) : List Bool := [belowS.contains c, belowS.contains c, (["NothingToDo"] : List Str).contains c, (["NotReady"] : List Str).contains c]
theorem r_law_bases {n : Nat} {c : Str} {fn : List Str} {ws : List W} (hc : gall.contains c = true) (S : Sto) : (callN Γ (n + 1) "_law_bases" [.exc c fn ws] S).sat fun w S' => ∃ q, w = .ref q ∧ S'[q]? = some (.lst (bls (basesB c))) ∧ Ap S S' := by
  rw [call_sat l__law_bases]
  refine ⟨rfl, ?_⟩
  rw [show startW d__law_bases [.exc c fn ws] = [some (.exc c fn ws), none] from rfl]
  simp only [d__law_bases, e_v, e_kN, e_kB, e_kI, e_kS, e_globI, e_globS, es_nil, es_cons, e_tup, e_lst, e_dct, e_bin, e_neg, e_not, e_cmp, e_chain, e_ite, e_ix, e_sl, e_rev, e_call, e_bif, e_isi, e_mth, e_boo, b_one, b_cons, n_not, n_one, n_or, n_and, n_v, n_cmp, n_chain, n_call, n_bif, n_isi, n_ix, n_bin, x_nil, x_pass, x_seq, a_v, a_tup, a_ix, as_nil, as_cons, x_asg, x_aug, x_ex, x_ret, x_retN, x_ite, sat_ok, bind_sat, partOf_no, part_kI, part_v, part_bin, part_neg, t_bl, t_int, c_lt, c_gt, c_le, c_ge, c_eq, c_ne, c_eqS, c_neS, c_is, c_isNot, len_tup, ix_0, ix_1, ix_2, ix_3, ix_4, ix_5, ix_6, ix_7, List.getElem?_cons_zero, List.getElem?_cons_succ, List.set_cons_zero, List.set_cons_succ, Option.some.injEq, exists_eq_left', exists_eq_left, startW, List.length_cons, List.length_nil, List.map_cons, List.map_nil, List.replicate_succ, List.replicate_zero, List.cons_append, List.nil_append, W.bl.injEq, W.int.injEq, Bool.true_eq_false, Bool.false_eq_true, false_implies, true_implies, and_true, true_and, Bool.not_true, Bool.not_false, implies_true, forall_const, decide_eq_true_eq, decide_eq_false_iff_not, Bool.not_eq_true', Bool.not_eq_false', e_isx, isx_at hc, List.any_cons, List.any_nil, Bool.or_false]
  refine ⟨by decide, by decide, ?_⟩
  rw [add_ll ((Ap.new _ _).at List.getElem?_concat_length) List.getElem?_concat_length (by simp)]
  simp only [e_v, e_kN, e_kB, e_kI, e_kS, e_globI, e_globS, es_nil, es_cons, e_tup, e_lst, e_dct, e_bin, e_neg, e_not, e_cmp, e_chain, e_ite, e_ix, e_sl, e_rev, e_call, e_bif, e_isi, e_mth, e_boo, b_one, b_cons, n_not, n_one, n_or, n_and, n_v, n_cmp, n_chain, n_call, n_bif, n_isi, n_ix, n_bin, x_nil, x_pass, x_seq, a_v, a_tup, a_ix, as_nil, as_cons, x_asg, x_aug, x_ex, x_ret, x_retN, x_ite, sat_ok, bind_sat, partOf_no, part_kI, part_v, part_bin, part_neg, t_bl, t_int, c_lt, c_gt, c_le, c_ge, c_eq, c_ne, c_eqS, c_neS, c_is, c_isNot, len_tup, ix_0, ix_1, ix_2, ix_3, ix_4, ix_5, ix_6, ix_7, List.getElem?_cons_zero, List.getElem?_cons_succ, List.set_cons_zero, List.set_cons_succ, Option.some.injEq, exists_eq_left', exists_eq_left, startW, List.length_cons, List.length_nil, List.map_cons, List.map_nil, List.replicate_succ, List.replicate_zero, List.cons_append, List.nil_append, W.bl.injEq, W.int.injEq, Bool.true_eq_false, Bool.false_eq_true, false_implies, true_implies, and_true, true_and, Bool.not_true, Bool.not_false, implies_true, forall_const, decide_eq_true_eq, decide_eq_false_iff_not, Bool.not_eq_true', Bool.not_eq_false']
  refine ⟨_, rfl, ?_, (Ap.new _ _).trans ((Ap.new _ _).trans (Ap.new _ _))⟩
  rw [List.getElem?_concat_length]
  rfl
theorem err_at (r m : W) (n : Nat) (hn : n < 22) : ∃ c fn ws, (errsL r m)[n]? = some (.exc c fn ws) ∧ order[n]? = some c := by
  have : n = 0 ∨ n = 1 ∨ n = 2 ∨ n = 3 ∨ n = 4 ∨ n = 5 ∨ n = 6 ∨ n = 7 ∨ n = 8 ∨ n = 9 ∨ n = 10 ∨ n = 11 ∨ n = 12 ∨ n = 13 ∨ n = 14 ∨ n = 15 ∨ n = 16 ∨ n = 17 ∨ n = 18 ∨ n = 19 ∨ n = 20 ∨ n = 21 := by omega
  rcases this with rfl | rfl | rfl | rfl | rfl | rfl | rfl | rfl | rfl | rfl | rfl | rfl | rfl | rfl | rfl | rfl | rfl | rfl | rfl | rfl | rfl | rfl <;> exact ⟨_, _, _, rfl, rfl⟩
theorem order_all : ∀ n : Nat, n < 22 → gall.contains (order.getD n "") = true ∧ basesB (order.getD n "") = [true, true, false, false] ∧ kindsB (order.getD n "") = (List.range 22).map fun (k : Nat) => ((k : Int) == (n : Int)) := by
  decide +kernel
theorem order_ok (n : Nat) (hn : n < 22) (c : Str) (h : order[n]? = some c) : gall.contains c = true ∧ basesB c = [true, true, false, false] ∧ kindsB c = (List.range 22).map fun (k : Nat) => ((k : Int) == (n : Int)) := by
  have e : order.getD n "" = c := by rw [List.getD_eq_getElem?_getD, h]; rfl
  have := order_all n hn
  rw [e] at this
  exact this
theorem ix_lstI {n : Nat} {ws : List W} {i : Int} {w : W} {S : Sto} (k : Nat) (e : i = (k : Int)) (hn : S[n]? = some (.lst ws)) (h : ws[k]? = some w) : ixW (.ref n) (.int i) S = .ok w S := by
  rw [e]
  exact ix_lst hn h
theorem rangeW_map {n : Nat} {f : W → W} {g : Nat → W} (h : ∀ k, k < n → f (.int k) = g k) : (rangeW 0 n).map f = (List.range n).map g := by
  unfold rangeW
  rw [List.map_map]
  refine List.map_congr_left fun k hk => ?_
  have := h k (List.mem_range.mp hk)
  simpa using this
/-- [k == n for k in range(22)] -/
theorem r_row {Φ : Fns} {S : Sto} {o0 o1 o2 o3 o5 o6 o7 : Option W} {n : Nat} {η : Env} (hη : η = [o0, o1, o2, o3, some (.int n), o5, o6, o7]) {Q : W → Sto → Prop} (h : ∀ q S', Ap S S' → S'[q]? = some (.lst (bls ((List.range 22).map fun (k : Nat) => ((k : Int) == (n : Int))))) → Q (.ref q) S') :
    (eval Φ (.lc (.cmp .eq (.v 7) (.v 4)) (.v 7) .range1 (.cons (.kI 22) .nil) .noE [("k", 7)]) η S).sat Q := by
  refine e_lcM ?_
  simp only [hη, e_v, e_kN, e_kB, e_kI, e_kS, e_globI, e_globS, es_nil, es_cons, e_tup, e_lst, e_dct, e_bin, e_neg, e_not, e_cmp, e_chain, e_ite, e_ix, e_sl, e_rev, e_call, e_bif, e_isi, e_mth, e_boo, b_one, b_cons, n_not, n_one, n_or, n_and, n_v, n_cmp, n_chain, n_call, n_bif, n_isi, n_ix, n_bin, a_v, a_tup, a_ix, as_nil, as_cons, sat_ok, bind_sat, partOf_no, part_kI, part_v, part_bin, part_neg, t_bl, t_int, c_lt, c_gt, c_le, c_ge, c_eq, c_ne, c_eqS, c_neS, c_is, c_isNot, len_tup, ix_0, ix_1, ix_2, ix_3, ix_4, ix_5, ix_6, ix_7, List.getElem?_cons_zero, List.getElem?_cons_succ, List.set_cons_zero, List.set_cons_succ, Option.some.injEq, exists_eq_left', exists_eq_left, startW, List.length_cons, List.length_nil, List.map_cons, List.map_nil, List.replicate_succ, List.replicate_zero, List.cons_append, List.nil_append, W.bl.injEq, W.int.injEq, Bool.true_eq_false, Bool.false_eq_true, false_implies, true_implies, and_true, true_and, Bool.not_true, Bool.not_false, implies_true, forall_const, decide_eq_true_eq, decide_eq_false_iff_not, Bool.not_eq_true', Bool.not_eq_false']
  refine ⟨_, rangeW 0 (22 : Int).toNat, fun w => match w with
    | .int i => .bl (i == (n : Int))
    | _ => .non, src_range (by omega) (by omega), fun _ _ => now_vals, by rw [PySem.sizeLine_eq]; decide, ?_, ?_⟩
  · intro w hw S2 a2
    obtain ⟨i, hi⟩ := List.mem_iff_getElem?.mp hw
    obtain ⟨rfl, hlt⟩ := range_at hi
    refine ⟨_, bind_v, ?_⟩
    simp only [wipeW, e_v, e_kN, e_kB, e_kI, e_kS, e_globI, e_globS, es_nil, es_cons, e_tup, e_lst, e_dct, e_bin, e_neg, e_not, e_cmp, e_chain, e_ite, e_ix, e_sl, e_rev, e_call, e_bif, e_isi, e_mth, e_boo, b_one, b_cons, n_not, n_one, n_or, n_and, n_v, n_cmp, n_chain, n_call, n_bif, n_isi, n_ix, n_bin, a_v, a_tup, a_ix, as_nil, as_cons, sat_ok, bind_sat, partOf_no, part_kI, part_v, part_bin, part_neg, t_bl, t_int, c_lt, c_gt, c_le, c_ge, c_eq, c_ne, c_eqS, c_neS, c_is, c_isNot, len_tup, ix_0, ix_1, ix_2, ix_3, ix_4, ix_5, ix_6, ix_7, List.getElem?_cons_zero, List.getElem?_cons_succ, List.set_cons_zero, List.set_cons_succ, Option.some.injEq, exists_eq_left', exists_eq_left, startW, List.length_cons, List.length_nil, List.map_cons, List.map_nil, List.replicate_succ, List.replicate_zero, List.cons_append, List.nil_append, W.bl.injEq, W.int.injEq, Bool.true_eq_false, Bool.false_eq_true, false_implies, true_implies, and_true, true_and, Bool.not_true, Bool.not_false, implies_true, forall_const, decide_eq_true_eq, decide_eq_false_iff_not, Bool.not_eq_true', Bool.not_eq_false']
    exact a2
  · intro S2 a2
    refine h _ _ (a2.trans (Ap.new _ _)) ?_
    rw [List.getElem?_concat_length]
    have e : (rangeW 0 (22 : Int).toNat).map (fun w => match w with
      | .int i => W.bl (i == (n : Int))
      | _ => .non) = bls ((List.range 22).map fun (k : Nat) => ((k : Int) == (n : Int))) := by
      unfold bls
      rw [List.map_map]
      exact rangeW_map fun k hk => rfl
    rw [e]
theorem e_fld_at {Φ : Fns} {η : Env} {a : E} {f : Str} {cs : List Str} {S : Sto} {c : Str} {w : W} {Q : W → Sto → Prop} (h : (eval Φ a η S).sat fun x S1 => x = .exc c [f] [w] ∧ cs.contains c = true ∧ Q w S1) : (eval Φ (.fld a f cs) η S).sat Q := by
  refine e_fld.mpr (h.mono ?_)
  rintro x S1 ⟨rfl, h1, h2⟩
  simp only [fldV, h1, if_pos, sat_ok]
  exact h2
theorem numL_eqv : ∀ {S : Sto} {a b : Nat} {i : Int}, S[a]? = some (.lst [.int i, .int i, .int i]) → S[b]? = some (.lst [.int i, .int i, .int i]) → cmpW .ne (.ref a) (.ref b) S = .ok (.bl false) S := by
  intro S a b i ha hb
  have e : lenNe S (.ref a) (.ref b) = false := by simp [lenNe, lstOf_at ha, lstOf_at hb]
  have d : ∀ {c : Nat}, S[c]? = some (.lst [.int i, .int i, .int i]) → dataOf S (.ref c) = some (.list [.int i, .int i, .int i]) := fun {c} hc => by
    show toD S 60 (.ref c) = _
    simp [toD, lstOf_at hc, optAll]
  simp [cmpW, e, onData, d ha, d hb, eqD, PyData.plain, PyData.plainAll, isDeep, PyData.depth, PyData.depthAll, deepMax, PyData.eqv, PyData.eqvAll]
theorem mul_l {n : Nat} {a : List W} {S : Sto} (hn : S[n]? = some (.lst a)) (hl : a.length = 1) : binW .mul (.ref n) (.int 3) S = .ok (.ref S.length) (S ++ [.lst (List.replicate 3 a).flatten]) := by
  simp only [binW, hn, hl]
  rw [if_pos (by rw [PySem.sizeLine_eq]; decide)]
  rfl
def sbody : T := match fbody (tl d_law.body) with
  | .seq _ (.seq _ (.seq (.for_ _ _ _ b) _)) => b
  | t => t
theorem law_step {n q i : Nat} {r : W} {k : Int} {S3 : Sto} {o0 o1 o2 o7 : Option W} {η : Env} (hη : η = [o0, o1, o2, some (.ref q), some (.int i), some r, some (.int k), o7]) (hq : S3[q]? = some (.lst (errsL r (.int k)))) (hlt : i < 22) :
    (exec (callN Γ (n + 1)) sbody η S3).sat ⟨fun η1 S1 => η1 = η ∧ Ap S3 S1, fun _ _ => False, fun _ _ => False, fun _ _ => False⟩ := by
  obtain ⟨c, fn, ws, he, ho⟩ := err_at r (.int k) i hlt
  obtain ⟨hc, hb, hk⟩ := order_ok i hlt c ho
  have h3 : η[3]? = some (some (.ref q)) := by rw [hη]; rfl
  have h4 : η[4]? = some (some (.int i)) := by rw [hη]; rfl
  simp only [sbody, fbody, tl, d_law]
  refine x_cut (fun η1 S1 => η1 = η ∧ Ap S3 S1) ?_ ?_
  · simp only [e_v, e_kN, e_kB, e_kI, e_kS, e_globI, e_globS, es_nil, es_cons, e_tup, e_lst, e_dct, e_bin, e_neg, e_not, e_cmp, e_chain, e_ite, e_ix, e_sl, e_rev, e_call, e_bif, e_isi, e_mth, e_boo, b_one, b_cons, n_not, n_one, n_or, n_and, n_v, n_cmp, n_chain, n_call, n_bif, n_isi, n_ix, n_bin, x_nil, x_pass, x_seq, a_v, a_tup, a_ix, as_nil, as_cons, x_asg, x_aug, x_ex, x_ret, x_retN, x_ite, sat_ok, bind_sat, partOf_no, part_kI, part_v, part_bin, part_neg, t_bl, t_int, c_lt, c_gt, c_le, c_ge, c_eq, c_ne, c_eqS, c_neS, c_is, c_isNot, len_tup, ix_0, ix_1, ix_2, ix_3, ix_4, ix_5, ix_6, ix_7, List.getElem?_cons_zero, List.getElem?_cons_succ, List.set_cons_zero, List.set_cons_succ, Option.some.injEq, exists_eq_left', exists_eq_left, startW, List.length_cons, List.length_nil, List.map_cons, List.map_nil, List.replicate_succ, List.replicate_zero, List.cons_append, List.nil_append, W.bl.injEq, W.int.injEq, Bool.true_eq_false, Bool.false_eq_true, false_implies, true_implies, and_true, true_and, Bool.not_true, Bool.not_false, implies_true, forall_const, decide_eq_true_eq, decide_eq_false_iff_not, Bool.not_eq_true', Bool.not_eq_false', h3, h4]
    rw [ix_lst hq (k := i) he]
    simp only [sat_ok]
    refine (r_law_bases (n := n) hc S3).mono ?_
    rintro w4 S4 ⟨q4, rfl, h4, a4⟩
    rw [hb] at h4
    refine ⟨by decide, ?_⟩
    rw [ne_bls (bs := [true, true, false, false]) ((Ap.new _ _).at h4) (by rw [List.getElem?_concat_length]; rfl)]
    simp only [e_v, e_kN, e_kB, e_kI, e_kS, e_globI, e_globS, es_nil, es_cons, e_tup, e_lst, e_dct, e_bin, e_neg, e_not, e_cmp, e_chain, e_ite, e_ix, e_sl, e_rev, e_call, e_bif, e_isi, e_mth, e_boo, b_one, b_cons, n_not, n_one, n_or, n_and, n_v, n_cmp, n_chain, n_call, n_bif, n_isi, n_ix, n_bin, x_nil, x_pass, x_seq, a_v, a_tup, a_ix, as_nil, as_cons, x_asg, x_aug, x_ex, x_ret, x_retN, x_ite, sat_ok, bind_sat, partOf_no, part_kI, part_v, part_bin, part_neg, t_bl, t_int, c_lt, c_gt, c_le, c_ge, c_eq, c_ne, c_eqS, c_neS, c_is, c_isNot, len_tup, ix_0, ix_1, ix_2, ix_3, ix_4, ix_5, ix_6, ix_7, List.getElem?_cons_zero, List.getElem?_cons_succ, List.set_cons_zero, List.set_cons_succ, Option.some.injEq, exists_eq_left', exists_eq_left, startW, List.length_cons, List.length_nil, List.map_cons, List.map_nil, List.replicate_succ, List.replicate_zero, List.cons_append, List.nil_append, W.bl.injEq, W.int.injEq, Bool.true_eq_false, Bool.false_eq_true, false_implies, true_implies, and_true, true_and, Bool.not_true, Bool.not_false, implies_true, forall_const, decide_eq_true_eq, decide_eq_false_iff_not, Bool.not_eq_true', Bool.not_eq_false']
    exact a4.trans (Ap.new _ _)
  rintro η1 S5 ⟨rfl, a5⟩
  refine x_seq.mpr ?_
  simp only [e_v, e_kN, e_kB, e_kI, e_kS, e_globI, e_globS, es_nil, es_cons, e_tup, e_lst, e_dct, e_bin, e_neg, e_not, e_cmp, e_chain, e_ite, e_ix, e_sl, e_rev, e_call, e_bif, e_isi, e_mth, e_boo, b_one, b_cons, n_not, n_one, n_or, n_and, n_v, n_cmp, n_chain, n_call, n_bif, n_isi, n_ix, n_bin, x_nil, x_pass, x_seq, a_v, a_tup, a_ix, as_nil, as_cons, x_asg, x_aug, x_ex, x_ret, x_retN, x_ite, sat_ok, bind_sat, partOf_no, part_kI, part_v, part_bin, part_neg, t_bl, t_int, c_lt, c_gt, c_le, c_ge, c_eq, c_ne, c_eqS, c_neS, c_is, c_isNot, len_tup, ix_0, ix_1, ix_2, ix_3, ix_4, ix_5, ix_6, ix_7, List.getElem?_cons_zero, List.getElem?_cons_succ, List.set_cons_zero, List.set_cons_succ, Option.some.injEq, exists_eq_left', exists_eq_left, startW, List.length_cons, List.length_nil, List.map_cons, List.map_nil, List.replicate_succ, List.replicate_zero, List.cons_append, List.nil_append, W.bl.injEq, W.int.injEq, Bool.true_eq_false, Bool.false_eq_true, false_implies, true_implies, and_true, true_and, Bool.not_true, Bool.not_false, implies_true, forall_const, decide_eq_true_eq, decide_eq_false_iff_not, Bool.not_eq_true', Bool.not_eq_false', h3, h4]
  rw [ix_lst (a5.at hq) (k := i) he]
  simp only [sat_ok]
  refine (r_law_kinds (n := n) hc S5).mono ?_
  rintro w6 S6 ⟨q6, rfl, h6, a6⟩
  refine r_row hη fun q7 S7 a7 h7 => ?_
  rw [hk] at h6
  rw [ne_bls (a7.at h6) h7]
  simp only [e_v, e_kN, e_kB, e_kI, e_kS, e_globI, e_globS, es_nil, es_cons, e_tup, e_lst, e_dct, e_bin, e_neg, e_not, e_cmp, e_chain, e_ite, e_ix, e_sl, e_rev, e_call, e_bif, e_isi, e_mth, e_boo, b_one, b_cons, n_not, n_one, n_or, n_and, n_v, n_cmp, n_chain, n_call, n_bif, n_isi, n_ix, n_bin, x_nil, x_pass, x_seq, a_v, a_tup, a_ix, as_nil, as_cons, x_asg, x_aug, x_ex, x_ret, x_retN, x_ite, sat_ok, bind_sat, partOf_no, part_kI, part_v, part_bin, part_neg, t_bl, t_int, c_lt, c_gt, c_le, c_ge, c_eq, c_ne, c_eqS, c_neS, c_is, c_isNot, len_tup, ix_0, ix_1, ix_2, ix_3, ix_4, ix_5, ix_6, ix_7, List.getElem?_cons_zero, List.getElem?_cons_succ, List.set_cons_zero, List.set_cons_succ, Option.some.injEq, exists_eq_left', exists_eq_left, startW, List.length_cons, List.length_nil, List.map_cons, List.map_nil, List.replicate_succ, List.replicate_zero, List.cons_append, List.nil_append, W.bl.injEq, W.int.injEq, Bool.true_eq_false, Bool.false_eq_true, false_implies, true_implies, and_true, true_and, Bool.not_true, Bool.not_false, implies_true, forall_const, decide_eq_true_eq, decide_eq_false_iff_not, Bool.not_eq_true', Bool.not_eq_false']
  exact (a5.trans a6).trans a7
theorem law_turn {m p t : Nat} (hm : 6 ≤ m) {S : Sto} {o0 o2 o3 o4 o5 o6 o7 : Option W} (h : Strm p t S) (ht : t < 2 ^ 40) :
    (exec (callN Γ m) (fbody (tl d_law.body)) [o0, some (.ref p), o2, o3, o4, o5, o6, o7] S).sat ⟨fun η1 S1 => (∃ o3 o4 o5 o6 o7, η1 = [o0, some (.ref p), o2, o3, o4, o5, o6, o7]) ∧ Strm p (t + 4) S1, fun _ _ => False, fun _ _ => False, fun _ _ => False⟩ := by
  obtain ⟨n, rfl⟩ : ∃ n, m = n + 1 := ⟨m - 1, by omega⟩
  simp only [fbody, tl, d_law]
  refine x_cut (fun η1 S1 => ∃ r k, η1 = [o0, some (.ref p), o2, o3, o4, some r, some (.int k), o7] ∧ reaV r ∧ Strm p (t + 4) S1) ?_ ?_
  · simp only [e_v, e_kN, e_kB, e_kI, e_kS, e_globI, e_globS, es_nil, es_cons, e_tup, e_lst, e_dct, e_bin, e_neg, e_not, e_cmp, e_chain, e_ite, e_ix, e_sl, e_rev, e_call, e_bif, e_isi, e_mth, e_boo, b_one, b_cons, n_not, n_one, n_or, n_and, n_v, n_cmp, n_chain, n_call, n_bif, n_isi, n_ix, n_bin, x_nil, x_pass, x_seq, a_v, a_tup, a_ix, as_nil, as_cons, x_asg, x_aug, x_ex, x_ret, x_retN, x_ite, sat_ok, bind_sat, partOf_no, part_kI, part_v, part_bin, part_neg, t_bl, t_int, c_lt, c_gt, c_le, c_ge, c_eq, c_ne, c_eqS, c_neS, c_is, c_isNot, len_tup, ix_0, ix_1, ix_2, ix_3, ix_4, ix_5, ix_6, ix_7, List.getElem?_cons_zero, List.getElem?_cons_succ, List.set_cons_zero, List.set_cons_succ, Option.some.injEq, exists_eq_left', exists_eq_left, startW, List.length_cons, List.length_nil, List.map_cons, List.map_nil, List.replicate_succ, List.replicate_zero, List.cons_append, List.nil_append, W.bl.injEq, W.int.injEq, Bool.true_eq_false, Bool.false_eq_true, false_implies, true_implies, and_true, true_and, Bool.not_true, Bool.not_false, implies_true, forall_const, decide_eq_true_eq, decide_eq_false_iff_not, Bool.not_eq_true', Bool.not_eq_false']
    refine (r_law_reason (m := n + 1) (by omega) S h (by omega)).mono ?_
    rintro r S1 ⟨hr, hs1, he1⟩
    refine (r_law_draw (m := n + 1) (by omega) 500 S1 hs1 (by omega) (by omega) (by omega)).mono ?_
    rintro w S2 ⟨k, rfl, hk, hs2, he2⟩
    exact ⟨by decide, _, _, rfl, hr, hs2⟩
  rintro η1 S1 ⟨r, k, rfl, hr, hs1⟩
  refine x_cut (fun η2 S2 => ∃ q, η2 = [o0, some (.ref p), o2, some (.ref q), o4, some r, some (.int k), o7] ∧ S2[q]? = some (.lst (errsL r (.int k))) ∧ Ap S1 S2) ?_ ?_
  · simp only [e_v, e_kN, e_kB, e_kI, e_kS, e_globI, e_globS, es_nil, es_cons, e_tup, e_lst, e_dct, e_bin, e_neg, e_not, e_cmp, e_chain, e_ite, e_ix, e_sl, e_rev, e_call, e_bif, e_isi, e_mth, e_boo, b_one, b_cons, n_not, n_one, n_or, n_and, n_v, n_cmp, n_chain, n_call, n_bif, n_isi, n_ix, n_bin, x_nil, x_pass, x_seq, a_v, a_tup, a_ix, as_nil, as_cons, x_asg, x_aug, x_ex, x_ret, x_retN, x_ite, sat_ok, bind_sat, partOf_no, part_kI, part_v, part_bin, part_neg, t_bl, t_int, c_lt, c_gt, c_le, c_ge, c_eq, c_ne, c_eqS, c_neS, c_is, c_isNot, len_tup, ix_0, ix_1, ix_2, ix_3, ix_4, ix_5, ix_6, ix_7, List.getElem?_cons_zero, List.getElem?_cons_succ, List.set_cons_zero, List.set_cons_succ, Option.some.injEq, exists_eq_left', exists_eq_left, startW, List.length_cons, List.length_nil, List.map_cons, List.map_nil, List.replicate_succ, List.replicate_zero, List.cons_append, List.nil_append, W.bl.injEq, W.int.injEq, Bool.true_eq_false, Bool.false_eq_true, false_implies, true_implies, and_true, true_and, Bool.not_true, Bool.not_false, implies_true, forall_const, decide_eq_true_eq, decide_eq_false_iff_not, Bool.not_eq_true', Bool.not_eq_false']
    refine (r_law_made r (.int k) S1).mono ?_
    rintro w S2 ⟨q, rfl, hq, he, a2⟩
    exact ⟨q, rfl, he, a2⟩
  rintro η2 S2 ⟨q, hη2, hq, a2⟩
  refine x_cut (fun η3 S3 => (∃ o4 o7, η3 = [o0, some (.ref p), o2, some (.ref q), o4, some r, some (.int k), o7]) ∧ Ap S1 S3 ∧ Ap S2 S3) ?_ ?_
  · refine x_forI ?_
    simp only [hη2, e_v, e_kN, e_kB, e_kI, e_kS, e_globI, e_globS, es_nil, es_cons, e_tup, e_lst, e_dct, e_bin, e_neg, e_not, e_cmp, e_chain, e_ite, e_ix, e_sl, e_rev, e_call, e_bif, e_isi, e_mth, e_boo, b_one, b_cons, n_not, n_one, n_or, n_and, n_v, n_cmp, n_chain, n_call, n_bif, n_isi, n_ix, n_bin, a_v, a_tup, a_ix, as_nil, as_cons, sat_ok, bind_sat, partOf_no, part_kI, part_v, part_bin, part_neg, t_bl, t_int, c_lt, c_gt, c_le, c_ge, c_eq, c_ne, c_eqS, c_neS, c_is, c_isNot, len_tup, ix_0, ix_1, ix_2, ix_3, ix_4, ix_5, ix_6, ix_7, List.getElem?_cons_zero, List.getElem?_cons_succ, List.set_cons_zero, List.set_cons_succ, Option.some.injEq, exists_eq_left', exists_eq_left, startW, List.length_cons, List.length_nil, List.map_cons, List.map_nil, List.replicate_succ, List.replicate_zero, List.cons_append, List.nil_append, W.bl.injEq, W.int.injEq, Bool.true_eq_false, Bool.false_eq_true, false_implies, true_implies, and_true, true_and, Bool.not_true, Bool.not_false, implies_true, forall_const, decide_eq_true_eq, decide_eq_false_iff_not, Bool.not_eq_true', Bool.not_eq_false']
    refine ⟨_, rangeW 0 (22 : Int).toNat, fun i η3 S3 => (∃ o4 o7, η3 = [o0, some (.ref p), o2, some (.ref q), o4, some r, some (.int k), o7]) ∧ Ap S1 S3 ∧ Ap S2 S3, src_range (by omega) (by omega), fun _ _ _ _ => now_vals, ⟨⟨_, _, rfl⟩, a2, Ap.refl _⟩, ?_, fun η3 S3 h => h⟩
    rintro i w η3 S3 hi ⟨⟨o4, o7, rfl⟩, a3, a23⟩
    obtain ⟨rfl, hlt⟩ := range_at hi
    have hlt : i < 22 := hlt
    refine ⟨_, bind_v, ?_⟩
    refine (law_step (n := n) (η := List.set [o0, some (.ref p), o2, some (.ref q), o4, some r, some (.int k), o7] 4 (some (.int i))) rfl (a23.at hq) hlt).mono ?_ (fun _ _ h => h) (fun _ _ h => h.elim) (fun _ _ h => h.elim)
    rintro η4 S4 ⟨rfl, a4⟩
    exact ⟨⟨_, _, rfl⟩, a3.trans a4, a23.trans a4⟩
  rintro η3 S3 ⟨⟨o4, o7, rfl⟩, a3, a23⟩
  have hq3 := a23.at hq
  refine x_cut (fun η4 S4 => (η4 = [o0, some (.ref p), o2, some (.ref q), o4, some r, some (.int k), o7]) ∧ Ap S1 S4) ?_ ?_
  · simp only [e_v, e_kN, e_kB, e_kI, e_kS, e_globI, e_globS, es_nil, es_cons, e_tup, e_lst, e_dct, e_bin, e_neg, e_not, e_cmp, e_chain, e_ite, e_ix, e_sl, e_rev, e_call, e_bif, e_isi, e_mth, e_boo, b_one, b_cons, n_not, n_one, n_or, n_and, n_v, n_cmp, n_chain, n_call, n_bif, n_isi, n_ix, n_bin, x_nil, x_pass, x_seq, a_v, a_tup, a_ix, as_nil, as_cons, x_asg, x_aug, x_ex, x_ret, x_retN, x_ite, sat_ok, bind_sat, partOf_no, part_kI, part_v, part_bin, part_neg, t_bl, t_int, c_lt, c_gt, c_le, c_ge, c_eq, c_ne, c_eqS, c_neS, c_is, c_isNot, len_tup, ix_0, ix_1, ix_2, ix_3, ix_4, ix_5, ix_6, ix_7, List.getElem?_cons_zero, List.getElem?_cons_succ, List.set_cons_zero, List.set_cons_succ, Option.some.injEq, exists_eq_left', exists_eq_left, startW, List.length_cons, List.length_nil, List.map_cons, List.map_nil, List.replicate_succ, List.replicate_zero, List.cons_append, List.nil_append, W.bl.injEq, W.int.injEq, Bool.true_eq_false, Bool.false_eq_true, false_implies, true_implies, and_true, true_and, Bool.not_true, Bool.not_false, implies_true, forall_const, decide_eq_true_eq, decide_eq_false_iff_not, Bool.not_eq_true', Bool.not_eq_false']
    refine e_fld_at (c := "BadAtlas") (w := r) ?_
    simp only [e_v, e_kN, e_kB, e_kI, e_kS, e_globI, e_globS, es_nil, es_cons, e_tup, e_lst, e_dct, e_bin, e_neg, e_not, e_cmp, e_chain, e_ite, e_ix, e_sl, e_rev, e_call, e_bif, e_isi, e_mth, e_boo, b_one, b_cons, n_not, n_one, n_or, n_and, n_v, n_cmp, n_chain, n_call, n_bif, n_isi, n_ix, n_bin, x_nil, x_pass, x_seq, a_v, a_tup, a_ix, as_nil, as_cons, x_asg, x_aug, x_ex, x_ret, x_retN, x_ite, sat_ok, bind_sat, partOf_no, part_kI, part_v, part_bin, part_neg, t_bl, t_int, c_lt, c_gt, c_le, c_ge, c_eq, c_ne, c_eqS, c_neS, c_is, c_isNot, len_tup, ix_0, ix_1, ix_2, ix_3, ix_4, ix_5, ix_6, ix_7, List.getElem?_cons_zero, List.getElem?_cons_succ, List.set_cons_zero, List.set_cons_succ, Option.some.injEq, exists_eq_left', exists_eq_left, startW, List.length_cons, List.length_nil, List.map_cons, List.map_nil, List.replicate_succ, List.replicate_zero, List.cons_append, List.nil_append, W.bl.injEq, W.int.injEq, Bool.true_eq_false, Bool.false_eq_true, false_implies, true_implies, and_true, true_and, Bool.not_true, Bool.not_false, implies_true, forall_const, decide_eq_true_eq, decide_eq_false_iff_not, Bool.not_eq_true', Bool.not_eq_false']
    rw [ix_lstI (i := 0) 0 rfl hq3 rfl]
    simp only [sat_ok]
    refine ⟨trivial, by decide, ?_⟩
    rw [ne_rea hr]
    simp only [e_v, e_kN, e_kB, e_kI, e_kS, e_globI, e_globS, es_nil, es_cons, e_tup, e_lst, e_dct, e_bin, e_neg, e_not, e_cmp, e_chain, e_ite, e_ix, e_sl, e_rev, e_call, e_bif, e_isi, e_mth, e_boo, b_one, b_cons, n_not, n_one, n_or, n_and, n_v, n_cmp, n_chain, n_call, n_bif, n_isi, n_ix, n_bin, x_nil, x_pass, x_seq, a_v, a_tup, a_ix, as_nil, as_cons, x_asg, x_aug, x_ex, x_ret, x_retN, x_ite, sat_ok, bind_sat, partOf_no, part_kI, part_v, part_bin, part_neg, t_bl, t_int, c_lt, c_gt, c_le, c_ge, c_eq, c_ne, c_eqS, c_neS, c_is, c_isNot, len_tup, ix_0, ix_1, ix_2, ix_3, ix_4, ix_5, ix_6, ix_7, List.getElem?_cons_zero, List.getElem?_cons_succ, List.set_cons_zero, List.set_cons_succ, Option.some.injEq, exists_eq_left', exists_eq_left, startW, List.length_cons, List.length_nil, List.map_cons, List.map_nil, List.replicate_succ, List.replicate_zero, List.cons_append, List.nil_append, W.bl.injEq, W.int.injEq, Bool.true_eq_false, Bool.false_eq_true, false_implies, true_implies, and_true, true_and, Bool.not_true, Bool.not_false, implies_true, forall_const, decide_eq_true_eq, decide_eq_false_iff_not, Bool.not_eq_true', Bool.not_eq_false']
    refine e_fld_at (c := "BadRoute") (w := .int k) ?_
    simp only [e_v, e_kN, e_kB, e_kI, e_kS, e_globI, e_globS, es_nil, es_cons, e_tup, e_lst, e_dct, e_bin, e_neg, e_not, e_cmp, e_chain, e_ite, e_ix, e_sl, e_rev, e_call, e_bif, e_isi, e_mth, e_boo, b_one, b_cons, n_not, n_one, n_or, n_and, n_v, n_cmp, n_chain, n_call, n_bif, n_isi, n_ix, n_bin, x_nil, x_pass, x_seq, a_v, a_tup, a_ix, as_nil, as_cons, x_asg, x_aug, x_ex, x_ret, x_retN, x_ite, sat_ok, bind_sat, partOf_no, part_kI, part_v, part_bin, part_neg, t_bl, t_int, c_lt, c_gt, c_le, c_ge, c_eq, c_ne, c_eqS, c_neS, c_is, c_isNot, len_tup, ix_0, ix_1, ix_2, ix_3, ix_4, ix_5, ix_6, ix_7, List.getElem?_cons_zero, List.getElem?_cons_succ, List.set_cons_zero, List.set_cons_succ, Option.some.injEq, exists_eq_left', exists_eq_left, startW, List.length_cons, List.length_nil, List.map_cons, List.map_nil, List.replicate_succ, List.replicate_zero, List.cons_append, List.nil_append, W.bl.injEq, W.int.injEq, Bool.true_eq_false, Bool.false_eq_true, false_implies, true_implies, and_true, true_and, Bool.not_true, Bool.not_false, implies_true, forall_const, decide_eq_true_eq, decide_eq_false_iff_not, Bool.not_eq_true', Bool.not_eq_false']
    rw [ix_lstI (i := 1) 1 rfl hq3 rfl]
    simp only [sat_ok]
    refine ⟨trivial, by decide, ?_⟩
    refine e_fld_at (c := "BadTrip") (w := .int k) ?_
    simp only [e_v, e_kN, e_kB, e_kI, e_kS, e_globI, e_globS, es_nil, es_cons, e_tup, e_lst, e_dct, e_bin, e_neg, e_not, e_cmp, e_chain, e_ite, e_ix, e_sl, e_rev, e_call, e_bif, e_isi, e_mth, e_boo, b_one, b_cons, n_not, n_one, n_or, n_and, n_v, n_cmp, n_chain, n_call, n_bif, n_isi, n_ix, n_bin, x_nil, x_pass, x_seq, a_v, a_tup, a_ix, as_nil, as_cons, x_asg, x_aug, x_ex, x_ret, x_retN, x_ite, sat_ok, bind_sat, partOf_no, part_kI, part_v, part_bin, part_neg, t_bl, t_int, c_lt, c_gt, c_le, c_ge, c_eq, c_ne, c_eqS, c_neS, c_is, c_isNot, len_tup, ix_0, ix_1, ix_2, ix_3, ix_4, ix_5, ix_6, ix_7, List.getElem?_cons_zero, List.getElem?_cons_succ, List.set_cons_zero, List.set_cons_succ, Option.some.injEq, exists_eq_left', exists_eq_left, startW, List.length_cons, List.length_nil, List.map_cons, List.map_nil, List.replicate_succ, List.replicate_zero, List.cons_append, List.nil_append, W.bl.injEq, W.int.injEq, Bool.true_eq_false, Bool.false_eq_true, false_implies, true_implies, and_true, true_and, Bool.not_true, Bool.not_false, implies_true, forall_const, decide_eq_true_eq, decide_eq_false_iff_not, Bool.not_eq_true', Bool.not_eq_false']
    rw [ix_lstI (i := 2) 2 rfl hq3 rfl]
    simp only [sat_ok]
    refine ⟨trivial, by decide, ?_⟩
    refine e_fld_at (c := "BadText") (w := .int k) ?_
    simp only [e_v, e_kN, e_kB, e_kI, e_kS, e_globI, e_globS, es_nil, es_cons, e_tup, e_lst, e_dct, e_bin, e_neg, e_not, e_cmp, e_chain, e_ite, e_ix, e_sl, e_rev, e_call, e_bif, e_isi, e_mth, e_boo, b_one, b_cons, n_not, n_one, n_or, n_and, n_v, n_cmp, n_chain, n_call, n_bif, n_isi, n_ix, n_bin, x_nil, x_pass, x_seq, a_v, a_tup, a_ix, as_nil, as_cons, x_asg, x_aug, x_ex, x_ret, x_retN, x_ite, sat_ok, bind_sat, partOf_no, part_kI, part_v, part_bin, part_neg, t_bl, t_int, c_lt, c_gt, c_le, c_ge, c_eq, c_ne, c_eqS, c_neS, c_is, c_isNot, len_tup, ix_0, ix_1, ix_2, ix_3, ix_4, ix_5, ix_6, ix_7, List.getElem?_cons_zero, List.getElem?_cons_succ, List.set_cons_zero, List.set_cons_succ, Option.some.injEq, exists_eq_left', exists_eq_left, startW, List.length_cons, List.length_nil, List.map_cons, List.map_nil, List.replicate_succ, List.replicate_zero, List.cons_append, List.nil_append, W.bl.injEq, W.int.injEq, Bool.true_eq_false, Bool.false_eq_true, false_implies, true_implies, and_true, true_and, Bool.not_true, Bool.not_false, implies_true, forall_const, decide_eq_true_eq, decide_eq_false_iff_not, Bool.not_eq_true', Bool.not_eq_false']
    rw [ix_lstI (i := 3) 3 rfl hq3 rfl]
    simp only [sat_ok]
    refine ⟨trivial, by decide, by decide, by decide, ?_⟩
    rw [mul_l List.getElem?_concat_length rfl]
    simp only [e_v, e_kN, e_kB, e_kI, e_kS, e_globI, e_globS, es_nil, es_cons, e_tup, e_lst, e_dct, e_bin, e_neg, e_not, e_cmp, e_chain, e_ite, e_ix, e_sl, e_rev, e_call, e_bif, e_isi, e_mth, e_boo, b_one, b_cons, n_not, n_one, n_or, n_and, n_v, n_cmp, n_chain, n_call, n_bif, n_isi, n_ix, n_bin, x_nil, x_pass, x_seq, a_v, a_tup, a_ix, as_nil, as_cons, x_asg, x_aug, x_ex, x_ret, x_retN, x_ite, sat_ok, bind_sat, partOf_no, part_kI, part_v, part_bin, part_neg, t_bl, t_int, c_lt, c_gt, c_le, c_ge, c_eq, c_ne, c_eqS, c_neS, c_is, c_isNot, len_tup, ix_0, ix_1, ix_2, ix_3, ix_4, ix_5, ix_6, ix_7, List.getElem?_cons_zero, List.getElem?_cons_succ, List.set_cons_zero, List.set_cons_succ, Option.some.injEq, exists_eq_left', exists_eq_left, startW, List.length_cons, List.length_nil, List.map_cons, List.map_nil, List.replicate_succ, List.replicate_zero, List.cons_append, List.nil_append, W.bl.injEq, W.int.injEq, Bool.true_eq_false, Bool.false_eq_true, false_implies, true_implies, and_true, true_and, Bool.not_true, Bool.not_false, implies_true, forall_const, decide_eq_true_eq, decide_eq_false_iff_not, Bool.not_eq_true', Bool.not_eq_false']
    rw [numL_eqv (i := k) ((Ap.new _ _).at ((Ap.new _ _).at List.getElem?_concat_length)) (by rw [List.getElem?_concat_length]; rfl)]
    simp only [e_v, e_kN, e_kB, e_kI, e_kS, e_globI, e_globS, es_nil, es_cons, e_tup, e_lst, e_dct, e_bin, e_neg, e_not, e_cmp, e_chain, e_ite, e_ix, e_sl, e_rev, e_call, e_bif, e_isi, e_mth, e_boo, b_one, b_cons, n_not, n_one, n_or, n_and, n_v, n_cmp, n_chain, n_call, n_bif, n_isi, n_ix, n_bin, x_nil, x_pass, x_seq, a_v, a_tup, a_ix, as_nil, as_cons, x_asg, x_aug, x_ex, x_ret, x_retN, x_ite, sat_ok, bind_sat, partOf_no, part_kI, part_v, part_bin, part_neg, t_bl, t_int, c_lt, c_gt, c_le, c_ge, c_eq, c_ne, c_eqS, c_neS, c_is, c_isNot, len_tup, ix_0, ix_1, ix_2, ix_3, ix_4, ix_5, ix_6, ix_7, List.getElem?_cons_zero, List.getElem?_cons_succ, List.set_cons_zero, List.set_cons_succ, Option.some.injEq, exists_eq_left', exists_eq_left, startW, List.length_cons, List.length_nil, List.map_cons, List.map_nil, List.replicate_succ, List.replicate_zero, List.cons_append, List.nil_append, W.bl.injEq, W.int.injEq, Bool.true_eq_false, Bool.false_eq_true, false_implies, true_implies, and_true, true_and, Bool.not_true, Bool.not_false, implies_true, forall_const, decide_eq_true_eq, decide_eq_false_iff_not, Bool.not_eq_true', Bool.not_eq_false']
    exact ((a3.trans (Ap.new _ _)).trans (Ap.new _ _)).trans (Ap.new _ _)
  rintro η4 S4 ⟨rfl, a4⟩
  refine x_cut (fun η5 S5 => (η5 = [o0, some (.ref p), o2, some (.ref q), o4, some r, some (.int k), o7]) ∧ Ap S1 S5) ?_ ?_
  · simp only [e_v, e_kN, e_kB, e_kI, e_kS, e_globI, e_globS, es_nil, es_cons, e_tup, e_lst, e_dct, e_bin, e_neg, e_not, e_cmp, e_chain, e_ite, e_ix, e_sl, e_rev, e_call, e_bif, e_isi, e_mth, e_boo, b_one, b_cons, n_not, n_one, n_or, n_and, n_v, n_cmp, n_chain, n_call, n_bif, n_isi, n_ix, n_bin, x_nil, x_pass, x_seq, a_v, a_tup, a_ix, as_nil, as_cons, x_asg, x_aug, x_ex, x_ret, x_retN, x_ite, sat_ok, bind_sat, partOf_no, part_kI, part_v, part_bin, part_neg, t_bl, t_int, c_lt, c_gt, c_le, c_ge, c_eq, c_ne, c_eqS, c_neS, c_is, c_isNot, len_tup, ix_0, ix_1, ix_2, ix_3, ix_4, ix_5, ix_6, ix_7, List.getElem?_cons_zero, List.getElem?_cons_succ, List.set_cons_zero, List.set_cons_succ, Option.some.injEq, exists_eq_left', exists_eq_left, startW, List.length_cons, List.length_nil, List.map_cons, List.map_nil, List.replicate_succ, List.replicate_zero, List.cons_append, List.nil_append, W.bl.injEq, W.int.injEq, Bool.true_eq_false, Bool.false_eq_true, false_implies, true_implies, and_true, true_and, Bool.not_true, Bool.not_false, implies_true, forall_const, decide_eq_true_eq, decide_eq_false_iff_not, Bool.not_eq_true', Bool.not_eq_false', e_new0]
    refine (r_law_bases (n := n) (c := "NothingToDo") (fn := []) (ws := []) (by decide) S4).mono ?_
    rintro w5 S5 ⟨q5, rfl, h5, a5⟩
    refine ⟨by decide, ?_⟩
    rw [ne_bls (bs := [false, false, true, false]) ((Ap.new _ _).at h5) (by rw [List.getElem?_concat_length]; rfl)]
    simp only [e_v, e_kN, e_kB, e_kI, e_kS, e_globI, e_globS, es_nil, es_cons, e_tup, e_lst, e_dct, e_bin, e_neg, e_not, e_cmp, e_chain, e_ite, e_ix, e_sl, e_rev, e_call, e_bif, e_isi, e_mth, e_boo, b_one, b_cons, n_not, n_one, n_or, n_and, n_v, n_cmp, n_chain, n_call, n_bif, n_isi, n_ix, n_bin, x_nil, x_pass, x_seq, a_v, a_tup, a_ix, as_nil, as_cons, x_asg, x_aug, x_ex, x_ret, x_retN, x_ite, sat_ok, bind_sat, partOf_no, part_kI, part_v, part_bin, part_neg, t_bl, t_int, c_lt, c_gt, c_le, c_ge, c_eq, c_ne, c_eqS, c_neS, c_is, c_isNot, len_tup, ix_0, ix_1, ix_2, ix_3, ix_4, ix_5, ix_6, ix_7, List.getElem?_cons_zero, List.getElem?_cons_succ, List.set_cons_zero, List.set_cons_succ, Option.some.injEq, exists_eq_left', exists_eq_left, startW, List.length_cons, List.length_nil, List.map_cons, List.map_nil, List.replicate_succ, List.replicate_zero, List.cons_append, List.nil_append, W.bl.injEq, W.int.injEq, Bool.true_eq_false, Bool.false_eq_true, false_implies, true_implies, and_true, true_and, Bool.not_true, Bool.not_false, implies_true, forall_const, decide_eq_true_eq, decide_eq_false_iff_not, Bool.not_eq_true', Bool.not_eq_false']
    exact (a4.trans a5).trans (Ap.new _ _)
  rintro η5 S5 ⟨rfl, a5⟩
  refine x_seq.mpr ?_
  simp only [e_v, e_kN, e_kB, e_kI, e_kS, e_globI, e_globS, es_nil, es_cons, e_tup, e_lst, e_dct, e_bin, e_neg, e_not, e_cmp, e_chain, e_ite, e_ix, e_sl, e_rev, e_call, e_bif, e_isi, e_mth, e_boo, b_one, b_cons, n_not, n_one, n_or, n_and, n_v, n_cmp, n_chain, n_call, n_bif, n_isi, n_ix, n_bin, x_nil, x_pass, x_seq, a_v, a_tup, a_ix, as_nil, as_cons, x_asg, x_aug, x_ex, x_ret, x_retN, x_ite, sat_ok, bind_sat, partOf_no, part_kI, part_v, part_bin, part_neg, t_bl, t_int, c_lt, c_gt, c_le, c_ge, c_eq, c_ne, c_eqS, c_neS, c_is, c_isNot, len_tup, ix_0, ix_1, ix_2, ix_3, ix_4, ix_5, ix_6, ix_7, List.getElem?_cons_zero, List.getElem?_cons_succ, List.set_cons_zero, List.set_cons_succ, Option.some.injEq, exists_eq_left', exists_eq_left, startW, List.length_cons, List.length_nil, List.map_cons, List.map_nil, List.replicate_succ, List.replicate_zero, List.cons_append, List.nil_append, W.bl.injEq, W.int.injEq, Bool.true_eq_false, Bool.false_eq_true, false_implies, true_implies, and_true, true_and, Bool.not_true, Bool.not_false, implies_true, forall_const, decide_eq_true_eq, decide_eq_false_iff_not, Bool.not_eq_true', Bool.not_eq_false', e_new0]
  refine (r_law_bases (n := n) (c := "NotReady") (fn := []) (ws := []) (by decide) S5).mono ?_
  rintro w6 S6 ⟨q6, rfl, h6, a6⟩
  refine ⟨by decide, ?_⟩
  rw [ne_bls (bs := [false, false, false, true]) ((Ap.new _ _).at h6) (by rw [List.getElem?_concat_length]; rfl)]
  simp only [e_v, e_kN, e_kB, e_kI, e_kS, e_globI, e_globS, es_nil, es_cons, e_tup, e_lst, e_dct, e_bin, e_neg, e_not, e_cmp, e_chain, e_ite, e_ix, e_sl, e_rev, e_call, e_bif, e_isi, e_mth, e_boo, b_one, b_cons, n_not, n_one, n_or, n_and, n_v, n_cmp, n_chain, n_call, n_bif, n_isi, n_ix, n_bin, x_nil, x_pass, x_seq, a_v, a_tup, a_ix, as_nil, as_cons, x_asg, x_aug, x_ex, x_ret, x_retN, x_ite, sat_ok, bind_sat, partOf_no, part_kI, part_v, part_bin, part_neg, t_bl, t_int, c_lt, c_gt, c_le, c_ge, c_eq, c_ne, c_eqS, c_neS, c_is, c_isNot, len_tup, ix_0, ix_1, ix_2, ix_3, ix_4, ix_5, ix_6, ix_7, List.getElem?_cons_zero, List.getElem?_cons_succ, List.set_cons_zero, List.set_cons_succ, Option.some.injEq, exists_eq_left', exists_eq_left, startW, List.length_cons, List.length_nil, List.map_cons, List.map_nil, List.replicate_succ, List.replicate_zero, List.cons_append, List.nil_append, W.bl.injEq, W.int.injEq, Bool.true_eq_false, Bool.false_eq_true, false_implies, true_implies, and_true, true_and, Bool.not_true, Bool.not_false, implies_true, forall_const, decide_eq_true_eq, decide_eq_false_iff_not, Bool.not_eq_true', Bool.not_eq_false']
  exact ⟨⟨_, _, _, _, _, rfl⟩, hs1.mono ((a5.trans a6).trans (Ap.new _ _)) (Nat.le_refl _)⟩
theorem law_sat (ns : List Int) (hn : ns.length ≤ 63) : (callN Γ 60 "law" [.scr (ns.map W.int)] []).sat fun w _ => w = .bl true := by
  rw [show (60 : Nat) = 59 + 1 from rfl, call_sat l_law]
  refine ⟨rfl, ?_⟩
  rw [show startW d_law [.scr (ns.map W.int)] = [some (.scr (ns.map W.int)), none, none, none, none, none, none, none] from rfl]
  refine x_cut (t := tl d_law.body) (fun η1 S1 => ∃ p, η1 = [some (.scr (ns.map W.int)), some (.ref p), none, none, none, none, none, none] ∧ Strm p 0 S1) ?_ ?_
  · simp only [e_v, e_kN, e_kB, e_kI, e_kS, e_globI, e_globS, es_nil, es_cons, e_tup, e_lst, e_dct, e_bin, e_neg, e_not, e_cmp, e_chain, e_ite, e_ix, e_sl, e_rev, e_call, e_bif, e_isi, e_mth, e_boo, b_one, b_cons, n_not, n_one, n_or, n_and, n_v, n_cmp, n_chain, n_call, n_bif, n_isi, n_ix, n_bin, x_nil, x_pass, x_seq, a_v, a_tup, a_ix, as_nil, as_cons, x_asg, x_aug, x_ex, x_ret, x_retN, x_ite, sat_ok, bind_sat, partOf_no, part_kI, part_v, part_bin, part_neg, t_bl, t_int, c_lt, c_gt, c_le, c_ge, c_eq, c_ne, c_eqS, c_neS, c_is, c_isNot, len_tup, ix_0, ix_1, ix_2, ix_3, ix_4, ix_5, ix_6, ix_7, List.getElem?_cons_zero, List.getElem?_cons_succ, List.set_cons_zero, List.set_cons_succ, Option.some.injEq, exists_eq_left', exists_eq_left, startW, List.length_cons, List.length_nil, List.map_cons, List.map_nil, List.replicate_succ, List.replicate_zero, List.cons_append, List.nil_append, W.bl.injEq, W.int.injEq, Bool.true_eq_false, Bool.false_eq_true, false_implies, true_implies, and_true, true_and, Bool.not_true, Bool.not_false, implies_true, forall_const, decide_eq_true_eq, decide_eq_false_iff_not, Bool.not_eq_true', Bool.not_eq_false']
    refine (r_law_pen (m := 59) (by omega) ns hn []).mono ?_
    rintro w S1 ⟨p, rfl, hs⟩
    exact ⟨p, rfl, hs⟩
  rintro η1 S1 ⟨p, hη1, hs⟩
  refine x_cut (t := tl (tl d_law.body)) (fun η1 S1 => True) ?_ ?_
  · refine x_forI ?_
    simp only [hη1, e_v, e_kN, e_kB, e_kI, e_kS, e_globI, e_globS, es_nil, es_cons, e_tup, e_lst, e_dct, e_bin, e_neg, e_not, e_cmp, e_chain, e_ite, e_ix, e_sl, e_rev, e_call, e_bif, e_isi, e_mth, e_boo, b_one, b_cons, n_not, n_one, n_or, n_and, n_v, n_cmp, n_chain, n_call, n_bif, n_isi, n_ix, n_bin, a_v, a_tup, a_ix, as_nil, as_cons, sat_ok, bind_sat, partOf_no, part_kI, part_v, part_bin, part_neg, t_bl, t_int, c_lt, c_gt, c_le, c_ge, c_eq, c_ne, c_eqS, c_neS, c_is, c_isNot, len_tup, ix_0, ix_1, ix_2, ix_3, ix_4, ix_5, ix_6, ix_7, List.getElem?_cons_zero, List.getElem?_cons_succ, List.set_cons_zero, List.set_cons_succ, Option.some.injEq, exists_eq_left', exists_eq_left, startW, List.length_cons, List.length_nil, List.map_cons, List.map_nil, List.replicate_succ, List.replicate_zero, List.cons_append, List.nil_append, W.bl.injEq, W.int.injEq, Bool.true_eq_false, Bool.false_eq_true, false_implies, true_implies, and_true, true_and, Bool.not_true, Bool.not_false, implies_true, forall_const, decide_eq_true_eq, decide_eq_false_iff_not, Bool.not_eq_true', Bool.not_eq_false']
    refine ⟨_, rangeW 0 (4 : Int).toNat, fun i η1 S1 => (∃ o2 o3 o4 o5 o6 o7, η1 = [some (.scr (ns.map W.int)), some (.ref p), o2, o3, o4, o5, o6, o7]) ∧ Strm p (4 * i) S1, src_range (by omega) (by omega), fun _ _ _ _ => now_vals, ⟨⟨_, _, _, _, _, _, rfl⟩, hs⟩, ?_⟩
    rintro i w η2 S2 hi ⟨⟨o2, o3, o4, o5, o6, o7, rfl⟩, hs⟩
    obtain ⟨rfl, hlt⟩ := range_at hi
    have hlt4 : i < 4 := hlt
    refine ⟨_, bind_v, ?_⟩
    have := law_turn (m := 59) (o0 := some (.scr (ns.map W.int))) (o2 := some (.int i)) (o3 := o3) (o4 := o4) (o5 := o5) (o6 := o6) (o7 := o7) (by omega) hs (by omega)
    refine this.mono ?_ (fun _ _ h => h.elim) (fun _ _ h => h.elim) (fun _ _ h => h.elim)
    rintro η3 S3 ⟨⟨o3, o4, o5, o6, o7, rfl⟩, h2⟩
    exact ⟨⟨_, _, _, _, _, _, rfl⟩, h2.le (by omega)⟩
  · intro η3 S3 _
    refine x_seq.mpr (x_ret.mpr (e_kB.mpr rfl))
theorem law_runs : ∀ ns : List Int, ns.length ≤ 63 → ∃ S', callN Γ 60 "law" [.scr (ns.map W.int)] [] = .ok (.bl true) S' := by
  intro ns hn
  obtain ⟨w, S', h1, rfl⟩ := sat_iff.mp (law_sat ns hn)
  exact ⟨S', h1⟩
end Law

set_option Elab.async false
set_option linter.all false
set_option maxRecDepth 100000
set_option maxHeartbeats 0
namespace Law
open PySem PySem.Spec PyProof.Rows L2 PI
theorem lookup_mem {α : Type} {f : Str} {d : α} : ∀ {l : List (Str × α)}, l.lookup f = some d → (f, d) ∈ l
  | [], h => by cases h
  | (g, e) :: l, h => by
    rw [List.lookup_cons] at h
    split at h
    · rename_i q
      have := eq_of_beq q
      subst this
      cases h
      exact List.mem_cons_self
    · exact List.mem_cons_of_mem _ (lookup_mem h)
section
variable {K : PySem.W.Frag} {h : Heap} {mg : Str → Option Value}
theorem f__law_pen (X : K.In h) (GG : h.Ns mainGlobals mg) (c : He.SaysD fa fn K) : ∃ a fd, DefOk K mg G "_law_pen" d__law_pen a fd := by
  obtain ⟨fd, F⟩ := c.def_ 0 (d := h__law_pen) rfl
  have cc := c__law_pen
  rw [Bool.and_eq_true] at cc
  exact ⟨_, fd, ⟨⟨_, _, _, F, cc.1, cc.2⟩, He.glo_ok X GG (c.fact 0 (f := .glo "_law_pen") rfl), F.bindsN fun _ _ _ _ _ _ us hl => match us, hl with | [_], _ => rfl⟩⟩
theorem f__law_draw (X : K.In h) (GG : h.Ns mainGlobals mg) (c : He.SaysD fa fn K) : ∃ a fd, DefOk K mg G "_law_draw" d__law_draw a fd := by
  obtain ⟨fd, F⟩ := c.def_ 1 (d := h__law_draw) rfl
  have cc := c__law_draw
  rw [Bool.and_eq_true] at cc
  exact ⟨_, fd, ⟨⟨_, _, _, F, cc.1, cc.2⟩, He.glo_ok X GG (c.fact 1 (f := .glo "_law_draw") rfl), F.bindsN fun _ _ _ _ _ _ us hl => match us, hl with | [_, _], _ => rfl⟩⟩
theorem f__law_pick (X : K.In h) (GG : h.Ns mainGlobals mg) (c : He.SaysD fa fn K) : ∃ a fd, DefOk K mg G "_law_pick" d__law_pick a fd := by
  obtain ⟨fd, F⟩ := c.def_ 2 (d := h__law_pick) rfl
  have cc := c__law_pick
  rw [Bool.and_eq_true] at cc
  exact ⟨_, fd, ⟨⟨_, _, _, F, cc.1, cc.2⟩, He.glo_ok X GG (c.fact 2 (f := .glo "_law_pick") rfl), F.bindsN fun _ _ _ _ _ _ us hl => match us, hl with | [_, _], _ => rfl⟩⟩
theorem f__law_made (X : K.In h) (GG : h.Ns mainGlobals mg) (c : He.SaysD fa fn K) : ∃ a fd, DefOk K mg G "_law_made" d__law_made a fd := by
  obtain ⟨fd, F⟩ := c.def_ 3 (d := h__law_made) rfl
  have cc := c__law_made
  rw [Bool.and_eq_true] at cc
  exact ⟨_, fd, ⟨⟨_, _, _, F, cc.1, cc.2⟩, He.glo_ok X GG (c.fact 3 (f := .glo "_law_made") rfl), F.bindsN fun _ _ _ _ _ _ us hl => match us, hl with | [_, _], _ => rfl⟩⟩
theorem f__law_kinds (X : K.In h) (GG : h.Ns mainGlobals mg) (c : He.SaysD fa fn K) : ∃ a fd, DefOk K mg G "_law_kinds" d__law_kinds a fd := by
  obtain ⟨fd, F⟩ := c.def_ 4 (d := h__law_kinds) rfl
  have cc := c__law_kinds
  rw [Bool.and_eq_true] at cc
  exact ⟨_, fd, ⟨⟨_, _, _, F, cc.1, cc.2⟩, He.glo_ok X GG (c.fact 4 (f := .glo "_law_kinds") rfl), F.bindsN fun _ _ _ _ _ _ us hl => match us, hl with | [_], _ => rfl⟩⟩
theorem f__law_bases (X : K.In h) (GG : h.Ns mainGlobals mg) (c : He.SaysD fa fn K) : ∃ a fd, DefOk K mg G "_law_bases" d__law_bases a fd := by
  obtain ⟨fd, F⟩ := c.def_ 5 (d := h__law_bases) rfl
  have cc := c__law_bases
  rw [Bool.and_eq_true] at cc
  exact ⟨_, fd, ⟨⟨_, _, _, F, cc.1, cc.2⟩, He.glo_ok X GG (c.fact 5 (f := .glo "_law_bases") rfl), F.bindsN fun _ _ _ _ _ _ us hl => match us, hl with | [_], _ => rfl⟩⟩
theorem f__law_reason (X : K.In h) (GG : h.Ns mainGlobals mg) (c : He.SaysD fa fn K) : ∃ a fd, DefOk K mg G "_law_reason" d__law_reason a fd := by
  obtain ⟨fd, F⟩ := c.def_ 6 (d := h__law_reason) rfl
  have cc := c__law_reason
  rw [Bool.and_eq_true] at cc
  exact ⟨_, fd, ⟨⟨_, _, _, F, cc.1, cc.2⟩, He.glo_ok X GG (c.fact 6 (f := .glo "_law_reason") rfl), F.bindsN fun _ _ _ _ _ _ us hl => match us, hl with | [_], _ => rfl⟩⟩
theorem f_law (X : K.In h) (GG : h.Ns mainGlobals mg) (c : He.SaysD fa fn K) : ∃ a fd, DefOk K mg G "law" d_law a fd := by
  obtain ⟨fd, F⟩ := c.def_ 7 (d := h_law) rfl
  have cc := c_law
  rw [Bool.and_eq_true] at cc
  exact ⟨_, fd, ⟨⟨_, _, _, F, cc.1, cc.2⟩, He.glo_ok X GG (c.fact 7 (f := .glo "law") rfl), F.bindsN fun _ _ _ _ _ _ us hl => match us, hl with | [_], _ => rfl⟩⟩
theorem f_all (X : K.In h) (GG : h.Ns mainGlobals mg) (c : He.SaysD fa fn K) : ∀ q ∈ Γ, ∃ a fd, DefOk K mg G q.1 q.2 a fd := by
  unfold Γ
  intro q hq
  simp only [List.cons_append, List.nil_append, List.mem_cons, List.not_mem_nil, or_false] at hq
  rcases hq with rfl | rfl | rfl | rfl | rfl | rfl | rfl | rfl
  · exact f__law_pen X GG c
  · exact f__law_draw X GG c
  · exact f__law_pick X GG c
  · exact f__law_made X GG c
  · exact f__law_kinds X GG c
  · exact f__law_bases X GG c
  · exact f__law_reason X GG c
  · exact f_law X GG c
theorem g_all : ∀ q ∈ gfns, (match Γ.lookup q.1 with
  | some d => decide (d.params.length = q.2)
  | none => false) = true := by decide +kernel
theorem b_all (X : K.In h) (GG : h.Ns mainGlobals mg) (c : He.SaysD fa fn K) : ∀ x ∈ G.blt, mg x = none := by
  intro x hx
  have hx : x ∈ (["abs", "isinstance", "len", "list", "range"] : List Str) := hx
  simp only [List.mem_cons, List.not_mem_nil, or_false] at hx
  rcases hx with rfl | rfl | rfl | rfl | rfl
  · exact He.free_ok X GG (c.fact 8 (f := .free "abs") rfl)
  · exact He.free_ok X GG (c.fact 9 (f := .free "isinstance") rfl)
  · exact He.free_ok X GG (c.fact 10 (f := .free "len") rfl)
  · exact He.free_ok X GG (c.fact 11 (f := .free "list") rfl)
  · exact He.free_ok X GG (c.fact 12 (f := .free "range") rfl)
theorem k_all (X : K.In h) (GG : h.Ns mainGlobals mg) (c : He.SaysD fa fn K) : ∀ x e, (x, e) ∈ G.cs → ∃ v u, CV e = some v ∧ mg x = some u ∧ RelV v u := by
  intro x e hx
  cases hx
theorem f_fld {P : Program} {w : World} {base : Heap} (X : K.In h) (GG : h.Ns mainGlobals mg) (c : He.SaysD fa fn K) (ce : exB "SlotmapsError" G K = true) : ∀ p ∈ G.fld, FldOk P w K mg base p.1 p.2 := by
  obtain ⟨_, _, e3, e4⟩ := exB_ok X GG ce
  intro p hp
  have hq := e3 p hp
  have hp2 : p ∈ ([("BadAtlas", "reason"), ("BadRoute", "position"), ("BadText", "line"), ("BadTrip", "position")] : List (Str × Str)) := hp
  simp only [List.mem_cons, List.not_mem_nil, or_false] at hp2
  rcases hp2 with rfl | rfl | rfl | rfl
  · obtain ⟨fd, F⟩ := c.def_ 8 (d := hi_BadAtlas) rfl
    exact fld_ok F ci_BadAtlas (F.bindsN fun _ _ _ _ _ _ us hl => match us, hl with | [_, _], _ => rfl) hq (e4 rfl)
  · obtain ⟨fd, F⟩ := c.def_ 9 (d := hi_BadRoute) rfl
    exact fld_ok F ci_BadRoute (F.bindsN fun _ _ _ _ _ _ us hl => match us, hl with | [_, _], _ => rfl) hq (e4 rfl)
  · obtain ⟨fd, F⟩ := c.def_ 10 (d := hi_BadText) rfl
    exact fld_ok F ci_BadText (F.bindsN fun _ _ _ _ _ _ us hl => match us, hl with | [_, _], _ => rfl) hq (e4 rfl)
  · obtain ⟨fd, F⟩ := c.def_ 11 (d := hi_BadTrip) rfl
    exact fld_ok F ci_BadTrip (F.bindsN fun _ _ _ _ _ _ us hl => match us, hl with | [_, _], _ => rfl) hq (e4 rfl)
end
theorem facts {P : Program} {w : World} {K : PySem.W.Frag} {h : Heap} {mg : Str → Option Value} {f : Addr} (X : K.In h) (GG : h.Ns mainGlobals mg) (hfa : mg ("law" : Str) = some (.ref f)) (c : He.SaysD fa fn K) (ce : exB "SlotmapsError" G K = true) :
    ∃ fd : FuncData, (∀ (s : Shared) (v : Value), BindsTo s fd ⟨[v], []⟩ [("script", v)]) ∧ ∀ base : Heap, K.In base → base.Ns mainGlobals mg → FnG P w K mg base (CX P w) (60 + 3) f fd ["script"] (spW P w K mg (callN Γ 60) "law" 1) := by
  obtain ⟨fd, F⟩ := c.def_ 7 (d := h_law) rfl
  have e := hfa.symm.trans (He.glo_ok X GG (c.fact 7 (f := .glo "law") rfl))
  cases e
  have b := FunD.bindsA (ps := ["script"]) F fun _ _ _ _ _ _ us hl => match us, hl with | [_], _ => rfl
  have cc := c_law
  rw [Bool.and_eq_true] at cc
  refine ⟨fd, fun s v => b s [v] rfl, fun base hin hns => callN_ok (G := G) (Γ := Γ) ?_ ?_ (b_all X GG c) (k_all X GG c) (exB_ok X GG ce).1 (exB_ok X GG ce).2.1 (f_fld X GG c ce) 60 "law" d_law _ fd l_law ⟨⟨_, _, _, F, cc.1, cc.2⟩, hfa, F.bindsN fun _ _ _ _ _ _ us hl => match us, hl with | [_], _ => rfl⟩⟩
  · exact fun g d e => f_all X GG c (g, d) (lookup_mem e)
  · intro g n hg
    have q := g_all (g, n) hg
    simp only at q
    split at q
    · rename_i d e
      exact ⟨d, e, of_decide_eq_true q⟩
    · cases q
end Law
open PySem PySem.W PySem.Calls PyProof.Rows
theorem PySem.Challenge.cw_slotmaps_k87_error_classes_holds : PySem.Challenge.rw_slotmaps_k87_error_classes.Holds := by
  w_on; o_law
  refine HandSHeadRun.head_any (r := OpenLaw.row PySem.Challenge.rw_slotmaps_k87_error_classes) (q := view (OpenLaw.row PySem.Challenge.rw_slotmaps_k87_error_classes).prog [34]) (H := Law.hk) (ob := Law.ob) (M := 20000) (loose := Law.loose) (d := HandSHeadRun.topDef (OpenLaw.row PySem.Challenge.rw_slotmaps_k87_error_classes).prog 34) (kwd := []) Law.ob_eq
    (by kernel_rfl) (fun s => by kernel_rfl) Law.run (by kernel_rfl) (by kernel_rfl) (by kernel_rfl) (by rfl) (by first | assumption | decide +kernel) (by decide +kernel) ⟨rfl, rfl, rfl, rfl, rfl, by decide +kernel⟩ ?hw ?hc
  case hw => w_witness2
  case hc =>
    refine PI.walk_ofG (l := PySem.Challenge.rw_slotmaps_k87_error_classes) (n := 63) (k := 60 + 3) (x := "script") rfl (by decide) (by kernel_rfl) (by constructor <;> decide) ?F
    intro w mg fa h Y GG hmg0
    obtain ⟨K, KX, c, ce⟩ := Y
    have hmg : mg ("law" : PySem.Str) = some (.ref fa) := by
      have e : (HandSHeadRun.topDef (OpenLaw.row PySem.Challenge.rw_slotmaps_k87_error_classes).prog 34).name = ("law" : PySem.Str) := by kernel_rfl
      rw [← e]
      exact hmg0
    obtain ⟨fd, hb, hF⟩ := Law.facts (P := (PySem.Challenge.rw_slotmaps_k87_error_classes).prog) (w := w) KX GG hmg c ce
    exact ⟨K, fd, _, KX, hb, fun H a ns hl hO hS => PI.law_sp hO hS (Law.law_runs ns hl), hF⟩

