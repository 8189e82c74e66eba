import PyProof.Rows.All
import HandS.ForMost
import HandS.TupLe
import HandS.More
import KE.LtData
import KE.SortData
import PyProof.ReprReads
import HandS.WordsExc
import HandS.TupAny
import HandS.IsInst
import HandS.RaiseMore
import HandS.Defaults
import HandS.Ends
import HandS.Deep
import HandS.Zip
import HandS.ExcSuper
import HandS.ExcField
import HandS.ExcIs
import KE.KExcSuper
import KE.KSuper
import HandS.TryMany
import PyProof.ReprRoads
import KE.RegKSuper
import PySem.Challenge.RW_evernear_k12_the_first_wrong_word
set_option Elab.async false
set_option linter.all false
set_option maxRecDepth 100000
set_option maxHeartbeats 4000000
/-! MirP: the pure side. A def of the program, read as a plain Lean function over PyData: environments of cells, expressions as functions of the environment, statements with their ways out. -/
namespace Mir
open PySem PySem.Spec PyProof.Rows L2 -- here

abbrev D := PyData
/-- a raised exception: its class by name, its fields -/
structure Exn where
  cls : String
  fs : List (Str × D)
inductive Res (α : Type) where
  | ok (a : α) | ex (e : Exn) | no
@[reducible] def Res.bind {α β : Type} : Res α → (α → Res β) → Res β
  | .ok a, f => f a
  | .ex e, _ => .ex e
  | .no, _ => .no
/-- a name's value: data that never changes any more, or a list or dict that this name alone holds -/
inductive Cell where
  | dat (d : D) | own (d : D) | exc | fn (x : String)
abbrev Env := List (Option Cell)
inductive Out where
  | nx (e : Env) | rt (d : D) | bk (e : Env) | ct (e : Env) | ex (x : Exn) (e : Env) | no
/-- a guard -/
def chk {α : Type} (c : Prop) [Decidable c] (r : Res α) : Res α := if c then r else .no
theorem chk_pos {α : Type} {c : Prop} [Decidable c] {r : Res α} (h : c) : chk c r = r := if_pos h

/-! ### names, constants -/
def eVar (i : Nat) : Env → Res D := fun e => match e[i]? with
  | some (some (.dat d)) => .ok d
  | _ => .no
def eVarB (i : Nat) : Env → Res D := fun e => match e[i]? with
  | some (some (.dat d)) => .ok d
  | some (some (.own d)) => .ok d
  | _ => .no
def eC (d : D) : Env → Res D := fun _ => .ok d
def eB1 {α β : Type} (op : α → Res β) (f : Env → Res α) : Env → Res β := fun e => (f e).bind op
def eB2 {α β γ : Type} (op : α → β → Res γ) (f : Env → Res α) (g : Env → Res β) : Env → Res γ := fun e => (f e).bind fun x => (g e).bind fun y => op x y
def eB3 {α β γ δ : Type} (op : α → β → γ → Res δ) (f : Env → Res α) (g : Env → Res β) (h : Env → Res γ) : Env → Res δ := fun e => (f e).bind fun x => (g e).bind fun y => (h e).bind fun z => op x y z
def eNil {α : Type} : Env → Res (List α) := fun _ => .ok []
def eCons {α : Type} (f : Env → Res α) (g : Env → Res (List α)) : Env → Res (List α) := fun e => (f e).bind fun x => (g e).bind fun xs => .ok (x :: xs)
/-- a if t else b -/
def eIf {α : Type} (t : Env → Res Bool) (f g : Env → Res α) : Env → Res α := fun e => (t e).bind fun b => if b = true then f e else g e
def bAnd (t u : Env → Res Bool) : Env → Res Bool := fun e => (t e).bind fun b => if b = true then u e else .ok false
def bOr (t u : Env → Res Bool) : Env → Res Bool := fun e => (t e).bind fun b => if b = true then .ok true else u e
def bNot (t : Env → Res Bool) : Env → Res Bool := fun e => (t e).bind fun b => .ok (!b)
/-- a test's value, a bool as a test -/
def vB (t : Env → Res Bool) : Env → Res D := fun e => (t e).bind fun b => .ok (.bool b)
def truB : D → Res Bool
  | .bool b => .ok b
  | _ => .no
/-- truth of any data -/
def truD : D → Res Bool
  | .bool b => .ok b
  | .none => .ok false
  | .int i => .ok (i != 0)
  | .str s => chk (s.length ≤ sizeLine) (.ok ((s.length : Int) != 0))
  | .list xs => .ok (!xs.isEmpty)
  | .tuple xs => .ok (!xs.isEmpty)
  | .dict _ => .no

/-- and, or, not of truth values, as values -/
def eAnd (f g : Env → Res D) : Env → Res D := fun e => (f e).bind fun x => match x with
  | .bool b => if b = true then g e else .ok (.bool false)
  | _ => .no
def eOr (f g : Env → Res D) : Env → Res D := fun e => (f e).bind fun x => match x with
  | .bool b => if b = true then .ok (.bool true) else g e
  | _ => .no
def notD : D → Res D
  | .bool b => .ok (.bool (!b))
  | _ => .no
/-! ### operators -/
def addD : D → D → Res D
  | .int i, .int j => .ok (.int (i + j))
  | .str s, .str t => chk (s.length + t.length ≤ sizeLine) (.ok (.str (s ++ t)))
  | .list xs, .list ys => chk (xs.length + ys.length ≤ sizeLine) (.ok (.list (xs ++ ys)))
  | .tuple xs, .tuple ys => chk (xs.length + ys.length ≤ sizeLine) (.ok (.tuple (xs ++ ys)))
  | _, _ => .no
/-- int + int -/
def addI : D → D → Res D
  | .int i, .int j => .ok (.int (i + j))
  | _, _ => .no
/-- list + list -/
def catD : D → D → Res D
  | .list xs, .list ys => chk (xs.length + ys.length ≤ sizeLine) (.ok (.list (xs ++ ys)))
  | _, _ => .no
/-- list * int -/
def repD : D → D → Res D
  | .list xs, .int k => chk (-(2 ^ 63) ≤ k ∧ k < 2 ^ 63 ∧ xs.length * k.toNat ≤ sizeLine) (.ok (.list (List.replicate k.toNat xs).flatten))
  | _, _ => .no
def subD : D → D → Res D
  | .int i, .int j => .ok (.int (i - j))
  | _, _ => .no
def small64D (i : Int) : Bool := decide (-(2 ^ 64) < i) && decide (i < 2 ^ 64)
def mulD : D → D → Res D
  | .int i, .int j => chk ((-(2 ^ 64) < i ∧ i < 2 ^ 64) ∨ (-(2 ^ 64) < j ∧ j < 2 ^ 64)) (.ok (.int (i * j)))
  | _, _ => .no
/-- tuple * int -/
def repTD : D → D → Res D
  | .tuple xs, .int k => chk (-(2 ^ 63) ≤ k ∧ k < 2 ^ 63 ∧ xs.length * k.toNat ≤ sizeLine) (.ok (.tuple (List.replicate k.toNat xs).flatten))
  | _, _ => .no
def fdivD : D → D → Res D
  | .int i, .int j => chk (0 < j ∧ j < 1073741824) (.ok (.int (i / j)))
  | _, _ => .no
def modD : D → D → Res D
  | .int i, .int j => chk (0 < j) (.ok (.int (i % j)))
  | _, _ => .no
def powD : D → D → Res D
  | .int i, .int j => chk (0 ≤ j ∧ j ≤ 1000000 ∧ i.natAbs < 2 ^ 64) (.ok (.int (i ^ j.toNat)))
  | _, _ => .no
def negD : D → Res D
  | .int i => .ok (.int (-i))
  | _ => .no

/-! ### comparisons -/
def ltD : D → D → Res Bool
  | .int i, .int j => .ok (decide (i < j))
  | x, y => chk (PySem.W.alike x y = true) (.ok (PySem.W.dataLt x y))
def intCmp (f : Int → Int → Bool) : D → D → Res Bool
  | .int i, .int j => .ok (f i j)
  | _, _ => .no
def iltD : D → D → Res Bool := intCmp fun i j => decide (i < j)
def ileD : D → D → Res Bool := intCmp fun i j => decide (i ≤ j)
def igtD : D → D → Res Bool := intCmp fun i j => decide (j < i)
def igeD : D → D → Res Bool := intCmp fun i j => decide (j ≤ i)
/-- a op b op' c of ints -/
def eChain (h h' : Int → Int → Bool) (f g k : Env → Res D) : Env → Res Bool := fun e => (f e).bind fun x => (g e).bind fun y => (intCmp h x y).bind fun b => if b = true then (k e).bind fun z => intCmp h' y z else .ok false

/-- == of any data that hold no dict -/
def eqD (x y : D) : Res Bool := chk (SeqAt.shaped x = true ∧ SeqAt.shaped y = true) (.ok (PyData.eqv x y))
def neD (x y : D) : Res Bool := chk (SeqAt.shaped x = true ∧ SeqAt.shaped y = true) (.ok (!PyData.eqv x y))
def isN : D → Bool
  | .none => true
  | _ => false
def isND (x : D) : Res Bool := .ok (isN x)
def notND (x : D) : Res Bool := .ok (!isN x)
def flatD : D → Bool
  | .none | .bool _ | .int _ | .str _ => true -- here
  | _ => false
def inList (x : D) (xs : List D) : Bool := xs.any fun y => PyData.eqv y x
def shapedAll (xs : List D) : Bool := xs.all SeqAt.shaped

/-! ### subscripts, slices -/
def ixD : D → D → Res D
  | .list xs, .int i => match atI xs i with | some d => .ok d | none => .no
  | .tuple xs, .int i => match atI xs i with | some d => .ok d | none => .no
  | .str z, .int i => chk (z.length ≤ sizeLine) (match atI z.cps.toList i with | some c => .ok (.str ⟨#[c]⟩) | none => .no)
  | _, _ => .no
def cutD {α : Type} (xs : List α) (lo hi : Option Int) : List α := (xs.drop (HT.sIx xs.length 0 lo)).take (HT.sIx xs.length xs.length hi - HT.sIx xs.length 0 lo)
def optI : D → Res (Option Int)
  | .int i => .ok (some i)
  | _ => .no
def eSome (f : Env → Res D) : Env → Res (Option Int) := fun e => (f e).bind optI
def eNone : Env → Res (Option Int) := fun _ => .ok none
def sliceD : D → Option Int → Option Int → Res D
  | .list xs, lo, hi => .ok (.list (cutD xs lo hi))
  | .tuple xs, lo, hi => .ok (.tuple (cutD xs lo hi))
  | .str z, lo, hi => chk (z.length ≤ sizeLine) (.ok (.str (cutS z lo hi)))
  | _, _, _ => .no

/-! ### displays, built-ins -/
def lstD (xs : List D) : Res D := chk (xs.length ≤ sizeLine) (.ok (.list xs))
def tupD (xs : List D) : Res D := chk (xs.length ≤ sizeLine) (.ok (.tuple xs))
def lenD : D → Res D
  | .list xs => .ok (.int xs.length)
  | .tuple xs => .ok (.int xs.length)
  | .str z => chk (z.length ≤ sizeLine) (.ok (.int z.length))
  | _ => .no
def intD : D → Res D
  | .int i => .ok (.int i)
  | .bool b => .ok (.int (if b then 1 else 0))
  | .str a => match PySem.intText? a with
    | some n => chk (a.length ≤ 640) (.ok (.int n))
    | none => .no
  | _ => .no
def strD : D → Res D
  | .str z => .ok (.str z)
  | .int n => chk (n.natAbs.log2 < 1920) (.ok (.str (toString n)))
  | _ => .no
def listD : D → Res D
  | .list xs => .ok (.list xs)
  | .tuple xs => .ok (.list xs)
  | _ => .no
def tupleD : D → Res D
  | .list xs => .ok (.tuple xs)
  | .tuple xs => .ok (.tuple xs)
  | _ => .no
def unInt : List D → Option (List Int)
  | [] => some []
  | .int i :: r => (unInt r).map (i :: ·)
  | _ :: _ => none
def unBool : List D → Option (List Bool)
  | [] => some []
  | .bool b :: r => (unBool r).map (b :: ·)
  | _ :: _ => none
def unStr : List D → Option (List Str)
  | [] => some []
  | .str b :: r => (unStr r).map (b :: ·)
  | _ :: _ => none
def items : D → Option (List D)
  | .list xs => some xs
  | .tuple xs => some xs
  | _ => none
def listItems : D → Option (List D)
  | .list xs => some xs
  | _ => none
def sumD (d : D) : Res D := match (listItems d).bind unInt with | some ns => .ok (.int ns.sum) | none => .no
def allD (d : D) : Res D := match (listItems d).bind unBool with | some bs => .ok (.bool (bs.all id)) | none => .no
def anyD (d : D) : Res D := match (listItems d).bind unBool with | some bs => .ok (.bool (bs.any id)) | none => .no
def leastI : List Int → Int
  | [] => 0
  | [x] => x
  | x :: r => min x (leastI r)
def mostI : List Int → Int
  | [] => 0
  | [x] => x
  | x :: r => max x (mostI r)
def minD (d : D) : Res D := match (listItems d).bind unInt with | some (n :: ns) => .ok (.int (leastI (n :: ns))) | _ => .no
def maxD (d : D) : Res D := match (listItems d).bind unInt with | some (n :: ns) => .ok (.int (mostI (n :: ns))) | _ => .no
def absD : D → Res D
  | .int i => .ok (.int (if i < 0 then -i else i))
  | _ => .no
/-- a method of a text -/
def isStrD : D → Bool
  | .str _ => true
  | _ => false
def eM1 {α : Type} (op : D → D → Res α) (f g : Env → Res D) : Env → Res α := fun e => (f e).bind fun x => chk (isStrD x = true) ((g e).bind fun y => op x y)
def splitD : D → D → Res D
  | .str a, .str b => chk ((b.length == 0) = false ∧ a.length + 2 ≤ sizeLine) (.ok (.list ((Txt.split a b).map .str)))
  | _, _ => .no
def joinD : D → D → Res D
  | .str a, d => match (items d).bind unStr with
    | some ys => chk ((ys.map (·.length)).sum + ys.length * a.length ≤ 16777216) (.ok (.str (Txt.join a ys)))
    | none => .no
  | _, _ => .no
def inD (x : D) : D → Res Bool
  | .list xs => chk (SeqAt.shaped x = true ∧ SeqAt.shaped (.list xs) = true) (.ok (inList x xs))
  | .tuple xs => chk (flatD x = true ∧ xs.all flatD = true) (.ok (inList x xs))
  | .str z => match x with
    | .str ⟨⟨[c]⟩⟩ => .ok (decide (c ∈ z.cps.toList))
    | _ => .no
  | _ => .no
def notInD (x y : D) : Res Bool := (inD x y).bind fun b => .ok (!b)
/-- xs.index(x) -/
def indexD (xs x : D) : Res D := match xs with
  | .list ys => chk (SeqAt.shaped x = true ∧ SeqAt.shaped (.list ys) = true) (match ys.findIdx? fun y => PyData.eqv y x with | some j => .ok (.int j) | none => .no)
  | _ => .no
def countD (xs x : D) : Res D := match xs with
  | .list ys => chk (SeqAt.shaped x = true ∧ SeqAt.shaped (.list ys) = true) (.ok (.int (ys.countP fun y => PyData.eqv y x)))
  | _ => .no
def tyN : D → String
  | .none => "NoneType"
  | .bool _ => "bool"
  | .int _ => "int"
  | .str _ => "str"
  | .list _ => "list"
  | .tuple _ => "tuple"
  | .dict _ => "dict"
def isInt : D → Bool
  | .int _ => true
  | .bool _ => true
  | _ => false
def isBool : D → Bool
  | .bool _ => true
  | _ => false
def isTup : D → Bool
  | .tuple _ => true
  | _ => false
def isLst : D → Bool
  | .list _ => true
  | _ => false
def isStr : D → Bool
  | .str _ => true
  | _ => false
def isiD (p : D → Bool) (x : D) : Res D := match x with
  | .dict _ => .no
  | _ => .ok (.bool (p x))
def reprD (d : D) : Res D := chk (PyData.showable d = true ∧ PyData.hasDict d = false ∧ PyData.depth d ≤ 60 ∧ d.shown.length + 64 ≤ sizeLine) (.ok (.str d.shown))
def sortLe : D → D → Bool := PySem.W.dataLe false id
def alikeEach (ds : List D) : Bool := ds.all fun d => ds.all fun e => PySem.W.alike d e
def sortable (ds : List D) : Bool := ds.all (fun d => match d with | .tuple (_ :: _) => true | _ => false) || ds.all (fun d => match d with | .none => false | .tuple _ => false | _ => true)
def depthsOk (ds : List D) : Bool := ds.all fun d => decide (d.depth ≤ 60)
def sortedD (d : D) : Res D := match listItems d with
  | some ds => chk (alikeEach ds = true ∧ sortable ds = true ∧ depthsOk ds = true ∧ ds.length ≤ sizeLine) (.ok (.list (ds.mergeSort sortLe)))
  | none => .no
/-! ### comprehensions: the slot i takes the item -/
/-- nothing is raised within a comprehension -/
def nox {α : Type} : Res α → Res α
  | .ok a => .ok a
  | _ => .no
def lcGo (set : D → Env → Res Env) (t : Env → Res Bool) (f : Env → Res D) (env : Env) : List D → List D → Res (List D)
  | [], acc => .ok acc
  | x :: r, acc => (nox (set x env)).bind fun e => (nox (t e)).bind fun b => if b = true then (nox (f e)).bind fun y => chk (acc.length < sizeLine) (lcGo set t f env r (acc ++ [y])) else lcGo set t f env r acc
def setV (i : Nat) : D → Env → Res Env := fun x e => .ok (e.set i (some (.dat x)))
/-- a, b, .. = a tuple: the slots in order -/
def setVs : List Nat → List D → Env → Res Env
  | [], [], e => .ok e
  | i :: is, x :: xs, e => setVs is xs (e.set i (some (.dat x)))
  | _, _, _ => .no
def setT (is : List Nat) : D → Env → Res Env := fun x e => match x with
  | .tuple xs => setVs is xs e
  | _ => .no
def setTL (is : List Nat) : D → Env → Res Env := fun x e => match x with
  | .tuple xs => setVs is xs e
  | .list xs => setVs is xs e
  | _ => .no
def wipeE : List Nat → Env → Env
  | [], e => e
  | v :: vs, e => (wipeE vs e).set v none
def eLc (it : Env → Res (List D)) (vs : List Nat) (set : D → Env → Res Env) (t : Env → Res Bool) (f : Env → Res D) : Env → Res D := fun env =>
  (it env).bind fun xs => (lcGo set t f (wipeE vs env) xs []).bind fun ys => .ok (.list ys)
def tYesB : Env → Res Bool := fun _ => .ok true
/-! ### what is walked -/
def iSeq : D → Res (List D)
  | .list xs => .ok xs
  | .tuple xs => .ok xs
  | _ => .no
def signs (z : Str) : List D := z.cps.toList.map fun c => .str ⟨#[c]⟩
def iStrD : D → Res (List D)
  | .str z => .ok (signs z)
  | _ => .no
/-- >= of two tuples of ints -/
def lexGe (ns ms : List Int) : Bool := Ob.lexAt (fun j => decide (ns.getD j 0 = ms.getD j 0)) (fun j => decide (ms.getD j 0 ≤ ns.getD j 0)) (decide (ns.length ≥ ms.length)) 0 (min ns.length ms.length)
def tgeD (x y : D) : Res Bool := match x, y with
  | .tuple xs, .tuple ys => match unInt xs, unInt ys with
    | some ns, some ms => .ok (lexGe ns ms)
    | _, _ => .no
  | _, _ => .no
/-- a dict that the top has written -/
def tabD (tab : List (Str × D)) : D → Res D
  | .str z => match tab.lookup z with
    | some d => .ok d
    | none => .no
  | _ => .no
/-- a call of a def that a name holds; tbl the defs' mirrors -/
def eCallV (tbl : String → Option (List D → Res D)) (i : Nat) (fs : Env → Res (List D)) : Env → Res D := fun env => match env[i]? with
  | some (some (.fn x)) => match tbl x with
    | some G => (fs env).bind G
    | none => .no
  | _ => .no
/-- argument lists in which a def may stand -/
def eDat (f : Env → Res D) (fs : Env → Res (List Cell)) : Env → Res (List Cell) := fun e => (f e).bind fun x => (fs e).bind fun xs => .ok (.dat x :: xs)
def eFun (x : String) (fs : Env → Res (List Cell)) : Env → Res (List Cell) := fun e => (fs e).bind fun xs => .ok (.fn x :: xs)
def startC (n : Nat) (cs : List Cell) : Env := cs.map some ++ List.replicate (n - cs.length) none
def isLstD : D → Bool
  | .list _ => true
  | _ => false
/-- a method of a list -/
def eML {α : Type} (op : D → D → Res α) (f g : Env → Res D) : Env → Res α := fun e => (f e).bind fun x => chk (isLstD x = true) ((g e).bind fun y => op x y)
/-- a, b = x, y -/
def sPar (i j : Nat) (f : Env → Res (List D)) : Env → Out := fun e => match f e with
  | .ok [x, y] => .nx ((e.set i (some (.dat x))).set j (some (.dat y)))
  | .ok _ => .no
  | .ex x => .ex x e
  | .no => .no
def iLst : D → Res (List D)
  | .list xs => .ok xs
  | _ => .no
def iTpl : D → Res (List D)
  | .tuple xs => .ok xs
  | _ => .no
def rngL (lo : Int) (n : Nat) : List D := (List.range n).map fun (i : Nat) => PyData.int (lo + (i : Int))
def iRange1 : D → Res (List D)
  | .int j => chk (-(2 ^ 62) ≤ j ∧ j < 2 ^ 62) (.ok (rngL 0 j.toNat))
  | _ => .no
def iRange2 : D → D → Res (List D)
  | .int i, .int j => chk (-(2 ^ 62) ≤ i ∧ i < 2 ^ 62 ∧ -(2 ^ 62) ≤ j ∧ j < 2 ^ 62) (.ok (rngL i (j - i).toNat))
  | _, _ => .no
def enumL : Nat → List D → List D
  | _, [] => []
  | k, x :: r => .tuple [.int k, x] :: enumL (k + 1) r
def iEnum : D → Res (List D)
  | .list xs => .ok (enumL 0 xs)
  | _ => .no
def iZip : D → D → Res (List D)
  | .list xs, .list ys => .ok (List.zipWith (fun x y => .tuple [x, y]) xs ys)
  | .tuple xs, .tuple ys => .ok (List.zipWith (fun x y => .tuple [x, y]) xs ys)
  | _, _ => .no

/-! ### statements -/
abbrev SF := Env → Out
def sSeq (g h : SF) : SF := fun e => match g e with
  | .nx e' => h e'
  | o => o
def sNil : SF := .nx
def sBreak : SF := .bk
def sCont : SF := .ct
def resOut (e : Env) : Res Env → Out
  | .ok e' => .nx e'
  | .ex x => .ex x e
  | .no => .no
/-- target = value -/
def sSet (set : D → Env → Res Env) (f : Env → Res D) : SF := fun e => resOut e ((f e).bind fun x => set x e)
/-- name = a new list or dict -/
def sOwn (i : Nat) (f : Env → Res D) : SF := fun e => resOut e ((f e).bind fun x => .ok (e.set i (some (.own x))))
def sAug (i : Nat) (op : D → D → Res D) (f : Env → Res D) : SF := fun e => resOut e ((eVar i e).bind fun x => (f e).bind fun y => (op x y).bind fun z => .ok (e.set i (some (.dat z))))
def sExpr (f : Env → Res D) : SF := fun e => resOut e ((f e).bind fun _ => .ok e)
def sRet (f : Env → Res D) : SF := fun e => match f e with
  | .ok d => .rt d
  | .ex x => .ex x e
  | .no => .no
def sRetN : SF := fun _ => .rt .none
def sIf (t : Env → Res Bool) (g h : SF) : SF := fun e => match t e with
  | .ok b => if b = true then g e else h e
  | .ex x => .ex x e
  | .no => .no
def ownL (e : Env) (i : Nat) : Res (List D) := match e[i]? with
  | some (some (.own (.list xs))) => .ok xs
  | _ => .no
def sAppend (i : Nat) (f : Env → Res D) : SF := fun e => match ownL e i with
  | .ok xs => resOut e ((f e).bind fun y => chk (xs.length < sizeLine) (.ok (e.set i (some (.own (.list (xs ++ [y])))))))
  | _ => .no
/-- x.extend(new list) -/
def sExtend (i : Nat) (f : Env → Res D) : SF := fun e => match ownL e i with
  | .ok xs => resOut e ((f e).bind fun y => match y with
    | .list ys => chk (xs.length + ys.length ≤ sizeLine) (.ok (e.set i (some (.own (.list (xs ++ ys))))))
    | _ => .no)
  | _ => .no
/-- x[k] = v, x an own list -/
def sPutL (i : Nat) (k f : Env → Res D) : SF := fun e => resOut e ((f e).bind fun y => (ownL e i).bind fun xs => (k e).bind fun j => match j with
  | .int j => match ixN xs.length j with
    | some n => .ok (e.set i (some (.own (.list (xs.set n y)))))
    | none => .no
  | _ => .no)
/-- the name's list may be known to others from now on -/
def frzE (i : Nat) (e : Env) : Env := match e[i]? with
  | some (some (.own d)) => e.set i (some (.dat d))
  | _ => e
def sFrz (i : Nat) (g : SF) : SF := fun e => g (frzE i e)
/-- for: one turn an item -/
def forGo (set : D → Env → Res Env) (body : SF) : List D → Env → Out
  | [], e => .nx e
  | x :: r, e => match set x e with
    | .ok e1 => match body e1 with
      | .nx e2 => forGo set body r e2
      | .ct e2 => forGo set body r e2
      | .bk e2 => .nx e2
      | o => o
    | .ex x => .ex x e
    | .no => .no
def sFor (it : Env → Res (List D)) (set : D → Env → Res Env) (body : SF) : SF := fun e => match it e with
  | .ok xs => forGo set body xs e
  | .ex x => .ex x e
  | .no => .no
/-- while, so many turns at most -/
def whileGo (t : Env → Res Bool) (body : SF) : Nat → Env → Out
  | 0, _ => .no
  | n + 1, e => match t e with
    | .ok b => if b = true then
        match body e with
        | .nx e2 => whileGo t body n e2
        | .ct e2 => whileGo t body n e2
        | .bk e2 => .nx e2
        | o => o
      else .nx e
    | .ex x => .ex x e
    | .no => .no
def sWhile (n : Env → Nat) (t : Env → Res Bool) (body : SF) : SF := fun e => whileGo t body (n e) e
/-- raise C(args): the fields -/
def sRaise (c : String) (names : List Str) (f : Env → Res (List D)) : SF := fun e => match f e with
  | .ok ds => if ds.length = names.length then .ex ⟨c, (names.zip ds).reverse⟩ e else .no
  | .ex x => .ex x e
  | .no => .no
/-! ### try: the clauses; isa c T: is the class c caught by T -/
def noExc (e : Env) : Bool := e.all fun c => match c with
  | some .exc => false
  | _ => true
/-- behind a suite: its name goes -/
def offE : Option Nat → Env → Env
  | none, e => e
  | some i, e => e.set i none
def onE : Option Nat → Env → Env
  | none, e => e
  | some i, e => e.set i (some .exc)
def suiteOut (o : Option Nat) : Out → Out
  | .nx e => if noExc (offE o e) = true then .nx (offE o e) else .no
  | .bk e => if noExc (offE o e) = true then .bk (offE o e) else .no
  | .ct e => if noExc (offE o e) = true then .ct (offE o e) else .no
  | .rt d => .rt d
  | _ => .no
structure Clause where
  cls : String
  slot : Option Nat
  run : Exn → SF
def handle (isa : String → String → Option Bool) : List Clause → Exn → Env → Out
  | [], x, e => .ex x e
  | c :: r, x, e => match isa x.cls c.cls with
    | some true => suiteOut c.slot (c.run x (onE c.slot e))
    | some false => handle isa r x e
    | none => .no
def sTry (isa : String → String → Option Bool) (body : SF) (cs : List Clause) : SF := fun e => match body e with
  | .ex x e' => handle isa cs x e'
  | o => o
/-- e.n, e the caught error -/
def eFld (i : Nat) (x : Exn) (n : Str) : Env → Res D := fun env => match env[i]? with
  | some (some .exc) => match x.fs.lookup n with
    | some d => .ok d
    | none => .no
  | _ => .no
/-- isinstance(e, C), e the caught error -/
def eIsE (isa : String → String → Option Bool) (i : Nat) (x : Exn) (c : String) : Env → Res D := fun env => match env[i]? with
  | some (some .exc) => match isa x.cls c with
    | some b => .ok (.bool b)
    | none => .no
  | _ => .no
/-- how a def ends -/
def outRes : Out → Res D
  | .rt d => .ok d
  | .nx _ => .ok .none
  | .ex x _ => .ex x
  | _ => .no
def startE (n : Nat) (ds : List D) : Env := ds.map (fun d => some (.dat d)) ++ List.replicate (n - ds.length) none
/-- a def of n names with this body -/
def mkF (n ps : Nat) (g : SF) : List D → Res D := fun ds => chk (ds.length = ps) (outRes (g (startE n ds)))
def mkFC (n ps : Nat) (g : SF) : List Cell → Res D := fun cs => chk (cs.length = ps) (outRes (g (startC n cs)))
end Mir

/-! MirW: the walk side. What a value stands for in a frozen part F of the heap; the environment against the frame's slots; each construct's rule from HandS, its reading a pure function of the environment. -/
namespace Mir
open PySem PySem.Spec L2

/-! ### a part of the heap is held by another (L: what a walk may have locked) -/
def nf : HO → Bool
  | .frz _ _ => false
  | .xd _ => false
  | _ => true
def Le (L : List Addr) (F H : Hp) : Prop := ∀ a o, F a = some o → H a = some o ∨ (a ∈ L ∧ nf o = true ∧ ∃ ob, H a = some (.frz ob o))
theorem Le.refl {L : List Addr} {H : Hp} : Le L H H := fun _ _ h => .inl h
theorem Le.of_same {L : List Addr} {F H : Hp} (h : Same F H) : Le L F H := fun a o e => .inl (h a o e)
theorem Le.same {L : List Addr} {F H H' : Hp} (h : Le L F H) (s : Same H H') : Le L F H' := fun a o e => by
  rcases h a o e with h | ⟨hl, hn, ob, h⟩
  · exact .inl (s _ _ h)
  · exact .inr ⟨hl, hn, ob, s _ _ h⟩
theorem Le.mono {L L' : List Addr} {F H : Hp} (h : Le L F H) (s : ∀ a ∈ L, a ∈ L') : Le L' F H := fun a o e => by
  rcases h a o e with h | ⟨hl, hn, ob, h⟩
  · exact .inl h
  · exact .inr ⟨s a hl, hn, ob, h⟩
theorem Le.to_same {F H : Hp} (h : Le [] F H) : Same F H := fun a o e => by
  rcases h a o e with h | ⟨hl, _⟩
  · exact h
  · cases hl
theorem Le.sub {L : List Addr} {F F' H : Hp} (s : Same F F') (h : Le L F' H) : Le L F H := fun a o e => h a o (s a o e)
theorem Le.rd {L : List Addr} {F H : Hp} {a : Addr} {u : HO} (h : Le L F H) (r : Rd F a u) : Rd H a u := by
  rcases r with r | ⟨ob, r⟩
  · rcases h a _ r with h | ⟨_, _, ob, h⟩
    · exact .inl h
    · exact .inr ⟨ob, h⟩
  · rcases h a _ r with h | ⟨_, hn, _⟩
    · exact .inr ⟨ob, h⟩
    · cases hn
theorem Le.none {L : List Addr} {F H : Hp} {a : Addr} (h : Le L F H) (hn : H a = Option.none) : F a = Option.none := by
  cases e : F a with
  | none => rfl
  | some o =>
    rcases h a o e with h | ⟨_, _, _, h⟩ <;> rw [hn] at h <;> cases h
theorem Same.rd {F H : Hp} {a : Addr} {u : HO} (h : Same F H) (r : Rd F a u) : Rd H a u := by
  rcases r with r | ⟨ob, r⟩
  · exact .inl (h _ _ r)
  · exact .inr ⟨ob, h _ _ r⟩
theorem Same.sqL {K : PySem.W.Frag} {F H : Hp} {a : Addr} {xs : List V} (h : Same F H) (r : SqL K F a xs) : SqL K H a xs := r.imp (Same.rd h) id
theorem Same.sqT {K : PySem.W.Frag} {F H : Hp} {a : Addr} {xs : List V} (h : Same F H) (r : SqT K F a xs) : SqT K H a xs := r.imp (Same.rd h) id
theorem Le.sqL {K : PySem.W.Frag} {L : List Addr} {F H : Hp} {a : Addr} {xs : List V} (h : Le L F H) (r : SqL K F a xs) : SqL K H a xs := r.imp (Le.rd h) id
theorem Le.sqT {K : PySem.W.Frag} {L : List Addr} {F H : Hp} {a : Addr} {xs : List V} (h : Le L F H) (r : SqT K F a xs) : SqT K H a xs := r.imp (Le.rd h) id
theorem Same.put {H : Hp} {p : Addr} {o : HO} (h : H p = Option.none) : Same H (upd H p o) := fun b x e => by
  rw [upd_ne (ne_of_none e h)]
  exact e

/-! ### what a value stands for -/
def keyD : Key → D
  | .inl i => .int i
  | .inr s => .str s
def tkD (l : List Key) : D := .tuple (l.map keyD)
mutual
inductive Rp (K : PySem.W.Frag) (F : Hp) : V → D → Prop
  | non : Rp K F .non .none
  | bl (b : Bool) : Rp K F (.bl b) (.bool b)
  | int (i : Int) : Rp K F (.int i) (.int i)
  | str (x : Str) : Rp K F (.str x) (.str x)
  | lst {a : Addr} {xs : List V} {ds : List D} : SqL K F a xs → RpAll K F xs ds → Rp K F (.ref a) (.list ds)
  | tup {a : Addr} {xs : List V} {ds : List D} : SqT K F a xs → RpAll K F xs ds → Rp K F (.ref a) (.tuple ds)
  | dK {a : Addr} {kvs : List (Key × V)} {es : List (D × D)} : Rd F a (.dK kvs) → kvs.map (fun p => keyD p.1) = es.map (·.1) → RpAll K F (kvs.map (·.2)) (es.map (·.2)) → Rp K F (.ref a) (.dict es)
  | dT {a : Addr} {kvs : List (List Key × V)} {es : List (D × D)} : Rd F a (.dT kvs) → kvs.map (fun p => tkD p.1) = es.map (·.1) → RpAll K F (kvs.map (·.2)) (es.map (·.2)) → Rp K F (.ref a) (.dict es)
inductive RpAll (K : PySem.W.Frag) (F : Hp) : List V → List D → Prop
  | nil : RpAll K F [] []
  | cons {v : V} {vs : List V} {d : D} {ds : List D} : Rp K F v d → RpAll K F vs ds → RpAll K F (v :: vs) (d :: ds)
end
section
variable {K : PySem.W.Frag} {F F' H : Hp}
mutual
theorem Rp.mono (s : Same F F') : ∀ {v : V} {d : D}, Rp K F v d → Rp K F' v d
  | _, _, .non => .non
  | _, _, .bl b => .bl b
  | _, _, .int i => .int i
  | _, _, .str x => .str x
  | _, _, .lst h t => .lst (Same.sqL s h) (RpAll.mono s t)
  | _, _, .tup h t => .tup (Same.sqT s h) (RpAll.mono s t)
  | _, _, .dK h e t => .dK (Same.rd s h) e (RpAll.mono s t)
  | _, _, .dT h e t => .dT (Same.rd s h) e (RpAll.mono s t)
theorem RpAll.mono (s : Same F F') : ∀ {vs : List V} {ds : List D}, RpAll K F vs ds → RpAll K F' vs ds
  | _, _, .nil => .nil
  | _, _, .cons h t => .cons (Rp.mono s h) (RpAll.mono s t)
end
theorem RpAll.length : ∀ {vs : List V} {ds : List D}, RpAll K F vs ds → vs.length = ds.length
  | _, _, .nil => rfl
  | _, _, .cons _ t => by rw [List.length_cons, List.length_cons, RpAll.length t]
theorem RpAll.get : ∀ {vs : List V} {ds : List D} {i : Nat} {d : D}, RpAll K F vs ds → ds[i]? = some d → ∃ v, vs[i]? = some v ∧ Rp K F v d
  | _, _, _, _, .nil, e => by simp at e -- here
  | _, _, 0, _, .cons h _, e => by simp at e; subst e; exact ⟨_, rfl, h⟩
  | _, _, i + 1, d, .cons _ t, e => by
    obtain ⟨v, h1, h2⟩ := RpAll.get (i := i) (d := d) t (by simpa using e)
    exact ⟨v, by simpa using h1, h2⟩
theorem RpAll.getV : ∀ {vs : List V} {ds : List D} {i : Nat} {v : V}, RpAll K F vs ds → vs[i]? = some v → ∃ d, ds[i]? = some d ∧ Rp K F v d
  | _, _, _, _, .nil, e => by simp at e -- here
  | _, _, 0, _, .cons h _, e => by simp at e; subst e; exact ⟨_, rfl, h⟩
  | _, _, i + 1, v, .cons _ t, e => by
    obtain ⟨d, h1, h2⟩ := RpAll.getV (i := i) (v := v) t (by simpa using e)
    exact ⟨d, by simpa using h1, h2⟩
theorem RpAll.append : ∀ {vs ws : List V} {ds es : List D}, RpAll K F vs ds → RpAll K F ws es → RpAll K F (vs ++ ws) (ds ++ es)
  | _, _, _, _, .nil, s => s
  | _, _, _, _, .cons h t, s => .cons h (RpAll.append t s)
theorem RpAll.one {v : V} {d : D} (h : Rp K F v d) : RpAll K F [v] [d] := .cons h .nil
theorem RpAll.take : ∀ {vs : List V} {ds : List D} (n : Nat), RpAll K F vs ds → RpAll K F (vs.take n) (ds.take n)
  | _, _, 0, _ => by simp only [List.take_zero]; exact .nil
  | _, _, _ + 1, .nil => .nil
  | _, _, n + 1, .cons h t => .cons h (RpAll.take n t)
theorem RpAll.drop : ∀ {vs : List V} {ds : List D} (n : Nat), RpAll K F vs ds → RpAll K F (vs.drop n) (ds.drop n)
  | _, _, 0, h => h
  | _, _, _ + 1, .nil => .nil
  | _, _, n + 1, .cons _ t => RpAll.drop n t
theorem RpAll.set {v : V} {d : D} (h : Rp K F v d) : ∀ {vs : List V} {ds : List D} (n : Nat), RpAll K F vs ds → RpAll K F (vs.set n v) (ds.set n d)
  | _, _, _, .nil => .nil
  | _, _, 0, .cons _ t => .cons h t
  | _, _, n + 1, .cons q t => .cons q (RpAll.set h n t)
theorem RpAll.ints : ∀ {vs : List V} {ns : List Int}, RpAll K F vs (ns.map .int) → vs = ns.map .int
  | _, [], h => by cases h; rfl
  | _, n :: ns, h => by
    cases h with
    | cons h t => cases h; rw [RpAll.ints t]; rfl
theorem RpAll.of_ints : ∀ {ns : List Int}, RpAll K F (ns.map .int) (ns.map .int)
  | [] => .nil
  | n :: ns => .cons (.int n) RpAll.of_ints
theorem RpAll.of_strs : ∀ {ns : List Str}, RpAll K F (ns.map .str) (ns.map .str)
  | [] => .nil
  | n :: ns => .cons (.str n) RpAll.of_strs
theorem unInt_map : ∀ {ds : List D} {ns : List Int}, unInt ds = some ns → ds = ns.map .int
  | [], ns, h => by cases h; rfl
  | .int i :: r, ns, h => by
    simp only [unInt] at h
    obtain ⟨m, e, rfl⟩ := Option.map_eq_some_iff.mp h
    rw [unInt_map e]; rfl
  | .none :: _, _, h => by cases h
  | .bool _ :: _, _, h => by cases h
  | .str _ :: _, _, h => by cases h
  | .list _ :: _, _, h => by cases h
  | .tuple _ :: _, _, h => by cases h
  | .dict _ :: _, _, h => by cases h
theorem unBool_map : ∀ {ds : List D} {ns : List Bool}, unBool ds = some ns → ds = ns.map .bool
  | [], ns, h => by cases h; rfl
  | .bool i :: r, ns, h => by
    simp only [unBool] at h
    obtain ⟨m, e, rfl⟩ := Option.map_eq_some_iff.mp h
    rw [unBool_map e]; rfl
  | .none :: _, _, h => by cases h
  | .int _ :: _, _, h => by cases h
  | .str _ :: _, _, h => by cases h
  | .list _ :: _, _, h => by cases h
  | .tuple _ :: _, _, h => by cases h
  | .dict _ :: _, _, h => by cases h
theorem unStr_map : ∀ {ds : List D} {ns : List Str}, unStr ds = some ns → ds = ns.map .str
  | [], ns, h => by cases h; rfl
  | .str i :: r, ns, h => by
    simp only [unStr] at h
    obtain ⟨m, e, rfl⟩ := Option.map_eq_some_iff.mp h
    rw [unStr_map e]; rfl
  | .none :: _, _, h => by cases h
  | .int _ :: _, _, h => by cases h
  | .bool _ :: _, _, h => by cases h
  | .list _ :: _, _, h => by cases h
  | .tuple _ :: _, _, h => by cases h
  | .dict _ :: _, _, h => by cases h
theorem RpAll.bools : ∀ {vs : List V} {ns : List Bool}, RpAll K F vs (ns.map .bool) → vs = ns.map .bl
  | _, [], h => by cases h; rfl
  | _, n :: ns, h => by
    cases h with
    | cons h t => cases h; rw [RpAll.bools t]; rfl
theorem RpAll.strs : ∀ {vs : List V} {ns : List Str}, RpAll K F vs (ns.map .str) → vs = ns.map .str
  | _, [], h => by cases h; rfl
  | _, n :: ns, h => by
    cases h with
    | cons h t => cases h; rw [RpAll.strs t]; rfl
end

/-! ### the context of a def: what the caller has locked, the heap and its frozen part at the entry, the classes of errors -/
/-- the top's own error classes and defs, by name -/
structure Nm where
  ex : String → Option Addr
  fn : String → Option Addr
structure Ctx where
  K : PySem.W.Frag
  cl : Nm
  L0 : List Addr
  B : Hp
  F0 : Hp
  hand : Option Addr
/-- .. and what is wished of an exception -/
structure M extends Ctx where
  W : WX
instance : Coe M Ctx := ⟨M.toCtx⟩
def OwnAt (K : PySem.W.Frag) (H F : Hp) (a : Addr) : D → Prop
  | .list ds => ∃ vs, H a = some (.lst vs) ∧ RpAll K F vs ds
  | .dict es => (∃ kvs : List (Key × V), H a = some (.dK kvs) ∧ kvs.map (fun p => keyD p.1) = es.map (·.1) ∧ RpAll K F (kvs.map (·.2)) (es.map (·.2))) ∨
      (∃ kvs : List (List Key × V), H a = some (.dT kvs) ∧ kvs.map (fun p => tkD p.1) = es.map (·.1) ∧ RpAll K F (kvs.map (·.2)) (es.map (·.2)))
  | _ => False
def CellOk (K : PySem.W.Frag) (B H F : Hp) (hd : Option Addr) (nm : Nm) (v : V) : Cell → Prop
  | .fn x => ∃ f, nm.fn x = some f ∧ v = .ref f
  | .exc => ∃ a, hd = some a ∧ v = .ref a
  | .dat d => Rp K F v d
  | .own d => ∃ a, v = .ref a ∧ B a = none ∧ F a = none ∧ OwnAt K H F a d
structure EnvOk (m : Ctx) (L : List Addr) (σ : St) (H F : Hp) (env : Env) : Prop where
  fh : Le (m.L0 ++ L) F H
  bh : Le L m.B H
  f0 : Same m.F0 F
  fn : ∀ a, F a ≠ none → m.F0 a ≠ none ∨ m.B a = none
  len : env.length = σ.length
  cells : ∀ (i : Nat) (c : Cell), env[i]? = some (some c) → ∃ v, σ[i]? = some (some v) ∧ CellOk m.K m.B H F m.hand m.cl v c
  sep : ∀ (i j : Nat) (d e : D) (v : V), i ≠ j → env[i]? = some (some (.own d)) → env[j]? = some (some (.own e)) → σ[i]? = some (some v) → σ[j]? ≠ some (some v)
/-- an expression's way: nothing that stood has changed, what is new may be frozen -/
structure Ext (m : Ctx) (L : List Addr) (H F H' F' : Hp) : Prop where
  hh : Same H H'
  ff : Same F F'
  fh : Le (m.L0 ++ L) F' H'
  fn : ∀ a, F' a ≠ none → F a ≠ none ∨ H a = none
section
variable {m : Ctx} {L : List Addr} {σ : St} {H F H' F' H2 F2 : Hp} {env : Env}
theorem OwnAt.there {K : PySem.W.Frag} {a : Addr} {d : D} (h : OwnAt K H F a d) : H a ≠ none := by
  cases d with
  | list ds => obtain ⟨_, e, _⟩ := h; rw [e]; exact fun z => by cases z
  | dict es => rcases h with ⟨_, e, _⟩ | ⟨_, e, _⟩ <;> (rw [e]; exact fun z => by cases z)
  | none => exact h.elim
  | bool _ => exact h.elim
  | int _ => exact h.elim
  | str _ => exact h.elim
  | tuple _ => exact h.elim
theorem OwnAt.mono {K : PySem.W.Frag} {a : Addr} {d : D} (h : OwnAt K H F a d) (hh : ∀ o, H a = some o → H' a = some o) (ff : Same F F') : OwnAt K H' F' a d := by
  cases d with
  | list ds => obtain ⟨vs, e, r⟩ := h; exact ⟨vs, hh _ e, RpAll.mono ff r⟩
  | dict es =>
    rcases h with ⟨kvs, e, k, r⟩ | ⟨kvs, e, k, r⟩
    · exact .inl ⟨kvs, hh _ e, k, RpAll.mono ff r⟩
    · exact .inr ⟨kvs, hh _ e, k, RpAll.mono ff r⟩
  | none => exact h.elim
  | bool _ => exact h.elim
  | int _ => exact h.elim
  | str _ => exact h.elim
  | tuple _ => exact h.elim
theorem OwnAt.rp {K : PySem.W.Frag} {a : Addr} {d : D} (h : OwnAt K H F a d) (hh : ∀ o, H a = some o → F' a = some o) (ff : Same F F') : Rp K F' (.ref a) d := by
  cases d with
  | list ds => obtain ⟨vs, e, r⟩ := h; exact .lst (.inl (.inl (hh _ e))) (RpAll.mono ff r)
  | dict es =>
    rcases h with ⟨kvs, e, k, r⟩ | ⟨kvs, e, k, r⟩
    · exact .dK (.inl (hh _ e)) k (RpAll.mono ff r)
    · exact .dT (.inl (hh _ e)) k (RpAll.mono ff r)
  | none => exact h.elim
  | bool _ => exact h.elim
  | int _ => exact h.elim
  | str _ => exact h.elim
  | tuple _ => exact h.elim
theorem Ext.refl (h : Le (m.L0 ++ L) F H) : Ext m L H F H F := ⟨Same.refl _, Same.refl _, h, fun _ h => .inl h⟩
theorem Ext.trans (a : Ext m L H F H' F') (b : Ext m L H' F' H2 F2) : Ext m L H F H2 F2 :=
  ⟨a.hh.trans b.hh, a.ff.trans b.ff, b.fh, fun x h => by
    rcases b.fn x h with h | h
    · exact a.fn x h
    · exact .inr (a.hh.free h)⟩
theorem EnvOk.ext (e : EnvOk m L σ H F env) (x : Ext m L H F H' F') : EnvOk m L σ H' F' env where
  fh := x.fh
  bh := e.bh.same x.hh
  f0 := e.f0.trans x.ff
  fn := fun a h => by
    rcases x.fn a h with h | h
    · exact e.fn a h
    · exact .inr (e.bh.none h)
  len := e.len
  cells := fun i c hc => by
    obtain ⟨v, hv, ok⟩ := e.cells i c hc
    refine ⟨v, hv, ?_⟩
    cases c with
    | exc => exact ok
    | fn _ => exact ok
    | dat d => exact Rp.mono x.ff ok
    | own d =>
      obtain ⟨a, rfl, b, f, o⟩ := ok
      refine ⟨a, rfl, b, ?_, o.mono (fun _ h => x.hh _ _ h) x.ff⟩
      cases q : F' a with
      | none => rfl
      | some u =>
        rcases x.fn a (by rw [q]; exact fun z => by cases z) with h | h
        · exact absurd f h
        · exact absurd h o.there
  sep := e.sep
theorem EnvOk.dat (e : EnvOk m L σ H F env) {i : Nat} {d : D} (h : env[i]? = some (some (.dat d))) : ∃ v, σ[i]? = some (some v) ∧ Rp m.K F v d := e.cells i _ h
/-- a new object, frozen at once -/
theorem Ext.new (e : Le (m.L0 ++ L) F H) {p : Addr} {o : HO} (hp : H p = none) : Ext m L H F (upd H p o) (upd F p o) where
  hh := Same.put hp
  ff := Same.put (e.none hp)
  fh := fun a u h => by
    by_cases q : a = p
    · subst q; rw [upd_same] at h ⊢; exact .inl h
    · rw [upd_ne q] at h ⊢; exact e a u h
  fn := fun a h => by
    by_cases q : a = p
    · subst q; exact .inr hp
    · rw [upd_ne q] at h; exact .inl h
/-- a new object, not frozen -/
theorem Ext.newO (e : Le (m.L0 ++ L) F H) {p : Addr} {o : HO} (hp : H p = none) : Ext m L H F (upd H p o) F where
  hh := Same.put hp
  ff := Same.refl _
  fh := e.same (Same.put hp)
  fn := fun a h => .inl h
/-- the own object at a is frozen -/
theorem Ext.frz (x : Ext m L H F H' F') {a : Addr} {o : HO} (hp : H a = none) (ha : H' a = some o) (fa : F' a = none) : Ext m L H F H' (upd F' a o) where
  hh := x.hh
  ff := x.ff.trans (Same.put fa)
  fh := fun b u h => by
    by_cases q : b = a
    · subst q; rw [upd_same] at h; cases h; exact .inl ha
    · rw [upd_ne q] at h; exact x.fh b u h
  fn := fun b h => by
    by_cases q : b = a
    · subst q; exact .inr hp
    · rw [upd_ne q] at h; exact x.fn b h
end

/-! ### readings -/
/-- an exception in the air -/
def ExAt (m : Ctx) (F : Hp) (x : Exn) (cls : Value) (dd : Option Addr) : Prop := ∃ C, m.cl.ex x.cls = some C ∧ cls = .ref C ∧
  match x.fs with
  | [] => dd = none
  | fs => ∃ d vs, dd = some d ∧ F d = some (.xd ((fs.map (·.1)).zip vs)) ∧ RpAll m.K F vs (fs.map (·.2))
/-- what is asked where a function's result is r -/
def Post {α : Type} (m : M) (L : List Addr) (σ : St) (H F : Hp) (r : Res α) (k : α → Hp → Hp → Prop) : Prop := match r with
  | .ok d => ∀ H' F', Ext m L H F H' F' → k d H' F'
  | .ex x => ∀ cls dd H' F', Ext m L H F H' F' → ExAt m F' x cls dd → m.W cls dd σ H'
  | .no => False
def tE (m : M) (L : List Addr) (f : Env → Res D) : TE := fun σ H Q => ∃ F env, EnvOk m L σ H F env ∧ Post m L σ H F (f env) fun d H' F' => ∀ v, Rp m.K F' v d → Q v H'
/-- the value may be a list or dict that a name alone holds -/
def Db (m : Ctx) (H F : Hp) (v : V) (d : D) : Prop := Rp m.K F v d ∨ ∃ a, v = .ref a ∧ OwnAt m.K H F a d
def tB (m : M) (L : List Addr) (f : Env → Res D) : TE := fun σ H Q => ∃ F env, EnvOk m L σ H F env ∧ Post m L σ H F (f env) fun d H' F' => ∀ v, Db m H' F' v d → Q v H'
/-- a new list or dict -/
def tO (m : M) (L : List Addr) (f : Env → Res D) : TE := fun σ H Q => ∃ F env, EnvOk m L σ H F env ∧ Post m L σ H F (f env) fun d H' F' => ∀ a, H a = none → F' a = none → OwnAt m.K H' F' a d → Q (.ref a) H'
def tT (m : M) (L : List Addr) (f : Env → Res Bool) : TT := fun σ H Q => ∃ F env, EnvOk m L σ H F env ∧ Post m L σ H F (f env) fun b H' _ => Q b H'
def tA (m : M) (L : List Addr) (f : Env → Res (List D)) : TA := fun σ H Q => ∃ F env, EnvOk m L σ H F env ∧ Post m L σ H F (f env) fun ds H' F' => ∀ vs, RpAll m.K F' vs ds → Q vs H'
/-- what is asked behind a statement -/
def SPost (m : M) (L : List Addr) (F : Hp) (D : Ends) : Out → Prop
  | .nx env' => ∀ σ' H' F', EnvOk m L σ' H' F' env' → Same F F' → D.nx σ' H'
  | .bk env' => ∀ σ' H' F', EnvOk m L σ' H' F' env' → Same F F' → D.bk σ' H'
  | .ct env' => ∀ σ' H' F', EnvOk m L σ' H' F' env' → Same F F' → D.ct σ' H'
  | .rt d => ∀ v H' F', Le (m.L0 ++ L) F' H' → Le L m.B H' → Same F F' → (∀ a, F' a ≠ none → m.F0 a ≠ none ∨ m.B a = none) → Rp m.K F' v d → D.rt v H'
  | .ex x env' => ∀ cls dd σ' H' F', EnvOk m L σ' H' F' env' → Same F F' → ExAt m F' x cls dd → m.W cls dd σ' H'
  | .no => False
def tS (m : M) (L : List Addr) (g : SF) : TS := fun D σ H => ∃ F env, EnvOk m L σ H F env ∧ SPost m L F D (g env)

section
variable {X : Cx} {m : M} {L : List Addr} {f g : Env → Res D} {a b : Expr} {pos : Pos}
theorem PE.imp {t t' : TE} (h : PE X a t) (i : ∀ σ H Q, t' σ H Q → t σ H Q) : PE X a t' := ⟨fun pins s σ H Q I w => h.run pins s σ H Q I (i σ H Q w)⟩
theorem PT.imp {t t' : TT} (h : PT X a t) (i : ∀ σ H Q, t' σ H Q → t σ H Q) : PT X a t' := ⟨fun pins s σ H Q I w => h.run pins s σ H Q I (i σ H Q w)⟩
theorem PW.imp {t t' : TT} (h : PW X a t) (i : ∀ σ H Q, t' σ H Q → t σ H Q) : PW X a t' := ⟨fun wh pins s σ H Q I w => h.run wh pins s σ H Q I (i σ H Q w)⟩
theorem PA.imp {es : List Expr} {t t' : TA} (h : PA X es t) (i : ∀ σ H Q, t' σ H Q → t σ H Q) : PA X es t' := ⟨fun pos pins s σ H Q I w => h.run pos pins s σ H Q I (i σ H Q w)⟩
theorem PS.imp {st : Stmt} {t t' : TS} (h : PS X st t) (i : ∀ D σ H, t' D σ H → t D σ H) : PS X st t' := ⟨fun pins s σ H D I w => h.run pins s σ H D I (i D σ H w)⟩
theorem PSs.imp {st : List Stmt} {t t' : TS} (h : PSs X st t) (i : ∀ D σ H, t' D σ H → t D σ H) : PSs X st t' := ⟨fun pins s σ H D I w => h.run pins s σ H D I (i D σ H w)⟩

theorem Post.bind {α β : Type} {σ : St} {H F : Hp} {r : Res α} {h : α → Res β} {k : β → Hp → Hp → Prop} (p : Post m L σ H F (r.bind h) k) :
    Post m L σ H F r fun x H' F' => Post m L σ H' F' (h x) k := by
  cases r with
  | ok x =>
    intro H' F' e
    cases q : h x with
    | ok y =>
      have p : Post m L σ H F (h x) k := p
      rw [q] at p
      exact fun H2 F2 e2 => p H2 F2 (e.trans e2)
    | ex y =>
      have p : Post m L σ H F (h x) k := p
      rw [q] at p
      exact fun cls dd H2 F2 e2 a2 => p cls dd H2 F2 (e.trans e2) a2
    | no =>
      have p : Post m L σ H F (h x) k := p
      rw [q] at p
      exact p
  | ex x => exact p
  | no => exact p
theorem Post.imp {α : Type} {σ : St} {H F : Hp} {r : Res α} {k k' : α → Hp → Hp → Prop} (p : Post m L σ H F r k) (i : ∀ x H' F', Ext m L H F H' F' → k x H' F' → k' x H' F') : Post m L σ H F r k' := by
  cases r with
  | ok x => exact fun H' F' e => i x H' F' e (p H' F' e)
  | ex x => exact p
  | no => exact p
theorem Post.here {α : Type} {σ : St} {H F : Hp} {x : α} {k : α → Hp → Hp → Prop} (h : Le (m.L0 ++ L) F H) (p : Post m L σ H F (.ok x) k) : k x H F := p H F (Ext.refl h)
theorem Post.chk {α : Type} {σ : St} {H F : Hp} {c : Prop} [Decidable c] {r : Res α} {k : α → Hp → Hp → Prop} (p : Post m L σ H F (chk c r) k) : c ∧ Post m L σ H F r k := by
  unfold Mir.chk at p
  by_cases h : c
  · rw [if_pos h] at p; exact ⟨h, p⟩
  · rw [if_neg h] at p; exact p.elim
/-- frozen data may be borrowed -/
theorem pb_of (h : PE X a (tE m L f)) : PE X a (tB m L f) := PE.imp h fun σ H Q ⟨F, env, e, p⟩ => ⟨F, env, e, p.imp fun _ _ _ _ k v r => k v (.inl r)⟩
/-- what is new may be frozen -/
theorem pe_of (h : PE X a (tO m L f)) : PE X a (tE m L f) := PE.imp h fun σ H Q ⟨F, env, e, p⟩ => by
  refine ⟨F, env, e, ?_⟩
  cases q : f env with
  | no => rw [q] at p; exact p
  | ex x => rw [q] at p; exact p
  | ok d =>
    rw [q] at p
    intro H' F' x a ha fa o
    obtain ⟨u, hu⟩ : ∃ u, H' a = some u := by
      cases z : H' a with
      | none => exact absurd z o.there
      | some u => exact ⟨u, rfl⟩
    refine p H' (upd F' a u) (x.frz ha hu fa) (.ref a) (o.rp (F' := upd F' a u) (fun w hw => ?_) (Same.put fa))
    rw [hu] at hw; cases hw
    exact upd_same
end
end Mir

/-! MirR1: expressions: names, constants, operators, comparisons, tests, subscripts, slices, displays, built-ins. -/
namespace Mir
open PySem PySem.Spec L2

/-! ### what a borrowed value is -/
section
variable {m : M} {L : List Addr} {H F : Hp} {v : V}
theorem Db.mono {H' F' : Hp} {d : D} (h : Db m H F v d) (hh : Same H H') (ff : Same F F') : Db m H' F' v d := by
  rcases h with h | ⟨a, rfl, o⟩
  · exact .inl (Rp.mono ff h)
  · exact .inr ⟨a, rfl, o.mono (fun _ e => hh _ _ e) ff⟩
theorem Db.int {i : Int} (h : Db m H F v (.int i)) : v = .int i := by
  rcases h with h | ⟨a, rfl, o⟩
  · cases h; rfl
  · exact o.elim
theorem Db.bool {b : Bool} (h : Db m H F v (.bool b)) : v = .bl b := by
  rcases h with h | ⟨a, rfl, o⟩
  · cases h; rfl
  · exact o.elim
theorem Db.str {s : Str} (h : Db m H F v (.str s)) : v = .str s := by
  rcases h with h | ⟨a, rfl, o⟩
  · cases h; rfl
  · exact o.elim
theorem Db.non (h : Db m H F v .none) : v = .non := by
  rcases h with h | ⟨a, rfl, o⟩
  · cases h; rfl
  · exact o.elim
theorem Db.list {ds : List D} (fh : Le (m.L0 ++ L) F H) (h : Db m H F v (.list ds)) : ∃ a vs, v = .ref a ∧ SqL m.K H a vs ∧ RpAll m.K F vs ds := by
  rcases h with h | ⟨a, rfl, vs, e, r⟩
  · cases h with
    | lst h t => exact ⟨_, _, rfl, Le.sqL fh h, t⟩
  · exact ⟨a, vs, rfl, .inl (.inl e), r⟩
theorem Db.tup {ds : List D} (fh : Le (m.L0 ++ L) F H) (h : Db m H F v (.tuple ds)) : ∃ a vs, v = .ref a ∧ SqT m.K H a vs ∧ RpAll m.K F vs ds := by
  rcases h with h | ⟨a, rfl, o⟩
  · cases h with
    | tup h t => exact ⟨_, _, rfl, Le.sqT fh h, t⟩
  · exact o.elim
theorem Db.seq {d : D} {ds : List D} (fh : Le (m.L0 ++ L) F H) (e : items d = some ds) (h : Db m H F v d) : ∃ a vs, v = .ref a ∧ (SqL m.K H a vs ∨ SqT m.K H a vs) ∧ RpAll m.K F vs ds := by
  cases d with
  | list xs => cases e; obtain ⟨a, vs, rfl, h, t⟩ := h.list fh; exact ⟨a, vs, rfl, .inl h, t⟩
  | tuple xs => cases e; obtain ⟨a, vs, rfl, h, t⟩ := h.tup fh; exact ⟨a, vs, rfl, .inr h, t⟩
  | none => cases e
  | bool _ => cases e
  | int _ => cases e
  | str _ => cases e
  | dict _ => cases e
/-- data without dicts, for the library's rules on data -/
theorem Rp.dp_aux (fh : Le (m.L0 ++ L) F H) : (∀ (d : D) (v : V), PyData.hasDict d = false → Rp m.K F v d → Dp m.K H v d) ∧ (∀ (ds : List D) (vs : List V), PyData.hasDictAll ds = false → RpAll m.K F vs ds → DpAll m.K H vs ds) := by
  have key : ∀ n : Nat, (∀ (d : D), sizeOf d ≤ n → ∀ (v : V), PyData.hasDict d = false → Rp m.K F v d → Dp m.K H v d) ∧ (∀ (ds : List D), sizeOf ds ≤ n → ∀ (vs : List V), PyData.hasDictAll ds = false → RpAll m.K F vs ds → DpAll m.K H vs ds) := by
    intro n
    induction n with
    | zero =>
      refine ⟨fun d hd => ?_, fun ds hd => ?_⟩
      · cases d <;> simp at hd
      · cases ds <;> simp at hd
    | succ n ih =>
      refine ⟨fun d hd v hn h => ?_, fun ds hd vs hn h => ?_⟩
      · cases h with
        | non => exact .non
        | bl b => exact .bl b
        | int i => exact .int i
        | str x => exact .str x
        | @lst a xs ds h t =>
          refine .lst (Le.sqL fh h) (ih.2 _ ?_ _ ?_ t)
          · simp at hd; omega
          · simpa [PyData.hasDict] using hn
        | @tup a xs ds h t =>
          refine .tup (Le.sqT fh h) (ih.2 _ ?_ _ ?_ t)
          · simp at hd; omega
          · simpa [PyData.hasDict] using hn
        | dK _ _ _ => simp [PyData.hasDict] at hn
        | dT _ _ _ => simp [PyData.hasDict] at hn
      · cases h with
        | nil => exact .nil
        | @cons v vs d ds h t =>
          simp [PyData.hasDictAll] at hn
          refine .cons (ih.1 _ ?_ _ hn.1 h) (ih.2 _ ?_ _ hn.2 t)
          · simp at hd; omega
          · simp at hd; omega
  exact ⟨fun d v => (key (sizeOf d)).1 d (Nat.le_refl _) v, fun ds vs => (key (sizeOf ds)).2 ds (Nat.le_refl _) vs⟩
theorem Rp.dp (fh : Le (m.L0 ++ L) F H) {d : D} {v : V} (hn : PyData.hasDict d = false) (h : Rp m.K F v d) : Dp m.K H v d := (Rp.dp_aux fh).1 d v hn h
theorem RpAll.dp (fh : Le (m.L0 ++ L) F H) {ds : List D} {vs : List V} (hn : PyData.hasDictAll ds = false) (h : RpAll m.K F vs ds) : DpAll m.K H vs ds := (Rp.dp_aux fh).2 ds vs hn h
theorem Db.dp (fh : Le (m.L0 ++ L) F H) {d : D} (hn : PyData.hasDict d = false) (h : Db m H F v d) : Dp m.K H v d := by
  rcases h with h | ⟨a, rfl, o⟩
  · exact Rp.dp fh hn h
  · cases d with
    | list ds => obtain ⟨vs, e, r⟩ := o; exact .lst (.inl (.inl e)) (RpAll.dp fh (by simpa [PyData.hasDict] using hn) r)
    | dict _ => simp [PyData.hasDict] at hn
    | none => exact o.elim
    | bool _ => exact o.elim
    | int _ => exact o.elim
    | str _ => exact o.elim
    | tuple _ => exact o.elim
mutual
theorem noDict_of_lay : ∀ d : D, PyData.canLay0 d = true → PyData.hasDict d = false
  | .none, _ => rfl
  | .bool _, _ => rfl
  | .int _, _ => rfl
  | .str _, _ => rfl
  | .list xs, h => by
    simp only [PyData.canLay0] at h
    simp only [PyData.hasDict]
    exact noDict_of_layAll xs h
  | .tuple xs, h => by
    simp only [PyData.canLay0] at h
    simp only [PyData.hasDict]
    exact noDict_of_layAll xs h
  | .dict _, h => by simp [PyData.canLay0] at h
theorem noDict_of_layAll : ∀ ds : List D, PyData.canLayAll0 ds = true → PyData.hasDictAll ds = false
  | [], _ => rfl
  | d :: ds, h => by
    simp only [PyData.canLayAll0, Bool.and_eq_true] at h
    simp only [PyData.hasDictAll, Bool.or_eq_false_iff]
    exact ⟨noDict_of_lay d h.1, noDict_of_layAll ds h.2⟩
end
theorem noDict_of_shaped {d : D} (h : SeqAt.shaped d = true) : PyData.hasDict d = false := noDict_of_lay d (SeqAt.canLay_of_shaped h)
end

section
variable {X : Cx} {m : M} {L : List Addr} {σ : St} {H F : Hp} {env : Env}
theorem tB_mono {f : Env → Res D} {Q Q' : VK} (h : tB m L f σ H Q) (i : ∀ v H', Q v H' → Q' v H') : tB m L f σ H Q' := by
  obtain ⟨F, env, e, p⟩ := h
  exact ⟨F, env, e, p.imp fun d H' F' _ k v r => i v H' (k v r)⟩
/-- one operand -/
theorem one {β : Type} {op : D → Res β} {f : Env → Res D} {k : β → Hp → Hp → Prop} (e : EnvOk m L σ H F env) (p : Post m L σ H F (eB1 op f env) k) :
    tB m L f σ H fun x H1 => ∃ F1 d, EnvOk m L σ H1 F1 env ∧ Ext m L H F H1 F1 ∧ Db m H1 F1 x d ∧ Post m L σ H1 F1 (op d) k := by
  have p : Post m L σ H F ((f env).bind op) k := p
  exact ⟨F, env, e, p.bind.imp fun d H1 F1 x q v r => ⟨F1, d, e.ext x, x, r, q⟩⟩
/-- two operands -/
theorem two {β : Type} {op : D → D → Res β} {f g : Env → Res D} {k : β → Hp → Hp → Prop} (e : EnvOk m L σ H F env) (p : Post m L σ H F (eB2 op f g env) k) :
    tB m L f σ H fun x H1 => tB m L g σ H1 fun y H2 => ∃ F2 d1 d2, EnvOk m L σ H2 F2 env ∧ Ext m L H F H2 F2 ∧ Db m H2 F2 x d1 ∧ Db m H2 F2 y d2 ∧ Post m L σ H2 F2 (op d1 d2) k := by
  have p : Post m L σ H F ((f env).bind fun x => (g env).bind fun y => op x y) k := p
  refine ⟨F, env, e, p.bind.imp fun d1 H1 F1 x1 q v1 r1 => ?_⟩
  exact ⟨F1, env, e.ext x1, q.bind.imp fun d2 H2 F2 x2 q v2 r2 => ⟨F2, d1, d2, (e.ext x1).ext x2, x1.trans x2, r1.mono x2.hh x2.ff, r2, q⟩⟩
/-- the value of a test is handed on -/
theorem Post.ret {α : Type} {x : α} {k : α → Hp → Hp → Prop} (e : EnvOk m L σ H F env) (p : Post m L σ H F (.ok x) k) : k x H F := p H F (Ext.refl e.fh)

/-! ### names and constants -/ -- here
theorem pe_name {i : Nat} {x : Str} {pos : Pos} (h : PE X (.Name x pos) (tVar i)) : PE X (.Name x pos) (tE m L (eVar i)) := PE.imp h fun σ H Q ⟨F, env, e, p⟩ => by
  unfold eVar at p
  split at p
  · rename_i d hd
    obtain ⟨v, hv, r⟩ := e.dat hd
    exact ⟨v, hv, p.ret e v r⟩
  · exact p.elim
theorem pb_name {i : Nat} {x : Str} {pos : Pos} (h : PE X (.Name x pos) (tVar i)) : PE X (.Name x pos) (tB m L (eVarB i)) := PE.imp h fun σ H Q ⟨F, env, e, p⟩ => by
  unfold eVarB at p
  split at p
  · rename_i d hd
    obtain ⟨v, hv, r⟩ := e.dat hd
    exact ⟨v, hv, p.ret e v (.inl r)⟩
  · rename_i d hd
    obtain ⟨v, hv, a, rfl, b, f, o⟩ := e.cells i _ hd
    exact ⟨_, hv, p.ret e _ (.inr ⟨a, rfl, o⟩)⟩
  · exact p.elim
theorem pe_cst {e : Expr} {v : V} {d : D} (h : PE X e fun _ H Q => Q v H) (r : ∀ F, Rp m.K F v d) : PE X e (tE m L (eC d)) := PE.imp h fun σ H Q ⟨F, env, e, p⟩ => p.ret e v (r _)
theorem pe_kint {i : Int} {k : Nat} {pos : Pos} : PE X (.Constant (.int i) k pos) (tE m L (eC (.int i))) := pe_cst pe_int fun _ => .int i
theorem pe_kstr {i : Str} {k : Nat} {pos : Pos} : PE X (.Constant (.str i) k pos) (tE m L (eC (.str i))) := pe_cst pe_str fun _ => .str i
theorem pe_kbool {i : Bool} {k : Nat} {pos : Pos} : PE X (.Constant (.bool i) k pos) (tE m L (eC (.bool i))) := pe_cst pe_bl fun _ => .bl i
theorem pe_knone {k : Nat} {pos : Pos} : PE X (.Constant .none k pos) (tE m L (eC .none)) := pe_cst pe_non fun _ => .non
end

/-! ### operators -/
section
variable {X : Cx} {m : M} {L : List Addr}
/-- an operation by values answers as the function on data does -/
def Sp2 (m : M) (L : List Addr) (r : R2) (op : D → D → Res D) : Prop := ∀ (σ : St) (H F : Hp) (Q : VK) (x y : V) (d1 d2 : D), Le (m.L0 ++ L) F H → Db m H F x d1 → Db m H F y d2 →
  Post m L σ H F (op d1 d2) (fun d H' F' => ∀ v, Rp m.K F' v d → Q v H') → r x y H Q
/-- .. by a new object -/
def Sp2O (m : M) (L : List Addr) (r : R2) (op : D → D → Res D) : Prop := ∀ (σ : St) (H0 H F : Hp) (Q : VK) (x y : V) (d1 d2 : D), Same H0 H → Le (m.L0 ++ L) F H → Db m H F x d1 → Db m H F y d2 →
  Post m L σ H F (op d1 d2) (fun d H' F' => ∀ a, H0 a = none → F' a = none → OwnAt m.K H' F' a d → Q (.ref a) H') → r x y H Q
def Sp2B (m : M) (L : List Addr) (r : R2) (op : D → D → Res Bool) : Prop := ∀ (σ : St) (H F : Hp) (Q : VK) (x y : V) (d1 d2 : D), Le (m.L0 ++ L) F H → Db m H F x d1 → Db m H F y d2 →
  Post m L σ H F (op d1 d2) (fun b H' _ => Q (.bl b) H') → r x y H Q
variable {f g : Env → Res D} {a b : Expr} {pos : Pos} {r : R2} {op : D → D → Res D} {opB : D → D → Res Bool}
theorem bin_of {e : Expr} (sp : Sp2 m L r op) (h : PE X e (tOp r (tB m L f) (tB m L g))) : PE X e (tE m L (eB2 op f g)) := PE.imp h fun σ H Q ⟨F, env, e, p⟩ =>
  tB_mono (two e p) fun x H1 h => tB_mono h fun y H2 ⟨F2, d1, d2, e2, x2, r1, r2, q⟩ => sp σ H2 F2 Q x y d1 d2 e2.fh r1 r2 q
theorem bin_ofO {e : Expr} (sp : Sp2O m L r op) (h : PE X e (tOp r (tB m L f) (tB m L g))) : PE X e (tO m L (eB2 op f g)) := PE.imp h fun σ H Q ⟨F, env, e, p⟩ =>
  tB_mono (two e p) fun x H1 h => tB_mono h fun y H2 ⟨F2, d1, d2, e2, x2, r1, r2, q⟩ => sp σ H H2 F2 Q x y d1 d2 x2.hh e2.fh r1 r2 q
theorem bin_ofT {e : Expr} (sp : Sp2B m L r opB) (h : PT X e (tTest (tOp r (tB m L f) (tB m L g)))) : PT X e (tT m L (eB2 opB f g)) := PT.imp h fun σ H Q ⟨F, env, e, p⟩ =>
  tB_mono (two e p) fun x H1 h => tB_mono h fun y H2 ⟨F2, d1, d2, e2, x2, r1, r2, q⟩ => sp σ H2 F2 _ x y d1 d2 e2.fh r1 r2 (q.imp fun b H' _ _ k => ⟨b, rfl, k⟩)
theorem bin_ofV {e : Expr} (sp : Sp2B m L r opB) (h : PE X e (tOp r (tB m L f) (tB m L g))) : PE X e (tE m L (vB (eB2 opB f g))) := PE.imp h fun σ H Q ⟨F, env, e, p⟩ => by
  have p : Post m L σ H F ((eB2 opB f g env).bind fun b => Res.ok (PyData.bool b)) (fun d H' F' => ∀ v, Rp m.K F' v d → Q v H') := p
  refine tB_mono (two e p.bind) fun x H1 h => tB_mono h fun y H2 ⟨F2, d1, d2, e2, x2, r1, r2, q⟩ => sp σ H2 F2 _ x y d1 d2 e2.fh r1 r2 (q.imp fun b H' F' x' k => ?_)
  exact k H' F' (Ext.refl x'.fh) (.bl b) (.bl b)

/-- list + list, whatever list may be read -/
def rCatL (K : PySem.W.Frag) : R2 := fun x y H Q => ∃ l b xs zs, x = .ref l ∧ y = .ref b ∧ SqL K H l xs ∧ SqL K H b zs ∧ xs.length + zs.length ≤ sizeLine ∧ ∀ p, H p = none → Q (.ref p) (upd H p (.lst (xs ++ zs)))
theorem op_catL : OpR X (binaryOp .Add) (rCatL X.K) := by
  intro pins s σ H x y v u Q I rx ry h -- here
  obtain ⟨l, b, xs, zs, rfl, rfl, hH, hB, hz, q⟩ := h -- here
  cases rx
  cases ry
  obtain ⟨its, r, ⟨o, n, ho, hc, hdd, hd⟩, _⟩ := I.list hH
  obtain ⟨its2, r2, ⟨o2, n2, ho2, hc2, hdd2, hd2⟩, _⟩ := I.list hB
  obtain ⟨cls, dd, data, sl⟩ := o
  obtain ⟨cls2, dd2, data2, sl2⟩ := o2
  simp only at hc hd hc2 hd2
  subst hc hd hc2 hd2
  have e : its.toArray ++ its2.toArray = (its ++ its2).toArray := by simp
  refine concat_meets ⟨_, ho, rfl⟩ ⟨_, ho2, rfl⟩ noFill_list_add seq_list_add PySem.F.slot_list_add PySem.F.entry_list_add (PySem.F.args_list_add_2 _ _)
    (PyProof.Rows.list_addW l b its.toArray its2.toArray n n2 dd dd2 sl sl2 (by have := r.length; have := r2.length; simp; omega)) ⟨ho, ho2, ?_⟩
  rw [e]
  exact ⟨.ref _, _, I.lnew (t' := s.toks) (r.append r2) (by rw [List.length_append]; omega), rfl, q _ I.fresh⟩ -- here

theorem own_new {K : PySem.W.Frag} {H F : Hp} {p : Addr} {vs : List V} {ds : List D} (r : RpAll K F vs ds) : OwnAt K (upd H p (.lst vs)) F p (.list ds) := ⟨vs, upd_same, r⟩
/-- what is asked of a new list's value -/
theorem post_newL {σ : St} {H0 H F : Hp} {Q : VK} {vs : List V} {ds : List D} (s0 : Same H0 H) (fh : Le (m.L0 ++ L) F H) (r : RpAll m.K F vs ds)
    (p : Post m L σ H F (.ok (.list ds)) (fun d H' F' => ∀ a, H0 a = none → F' a = none → OwnAt m.K H' F' a d → Q (.ref a) H')) : ∀ p, H p = none → Q (.ref p) (upd H p (.lst vs)) :=
  fun q hq => p _ F (Ext.newO fh hq) q (s0.free hq) (fh.none hq) (own_new r)
theorem post_newT {σ : St} {H F : Hp} {Q : VK} {vs : List V} {ds : List D} (fh : Le (m.L0 ++ L) F H) (r : RpAll m.K F vs ds)
    (p : Post m L σ H F (.ok (.tuple ds)) (fun d H' F' => ∀ v, Rp m.K F' v d → Q v H')) : ∀ p, H p = none → Q (.ref p) (upd H p (.tup vs)) :=
  fun q hq => p _ _ (Ext.new fh hq) _ (.tup (.inl (.inl upd_same)) (RpAll.mono (Same.put (fh.none hq)) r))
theorem post_newLf {σ : St} {H F : Hp} {Q : VK} {vs : List V} {ds : List D} (fh : Le (m.L0 ++ L) F H) (r : RpAll m.K F vs ds)
    (p : Post m L σ H F (.ok (.list ds)) (fun d H' F' => ∀ v, Rp m.K F' v d → Q v H')) : ∀ p, H p = none → Q (.ref p) (upd H p (.lst vs)) :=
  fun q hq => p _ _ (Ext.new fh hq) _ (.lst (.inl (.inl upd_same)) (RpAll.mono (Same.put (fh.none hq)) r))
/-- a value that is had is handed on -/
theorem Post.val {α : Type} {σ : St} {H F : Hp} {x : α} {k : α → Hp → Hp → Prop} (fh : Le (m.L0 ++ L) F H) (p : Post m L σ H F (.ok x) k) : k x H F := p H F (Ext.refl fh)

def rStrCat : R2 := fun x y H Q => ∃ i j, x = .str i ∧ y = .str j ∧ i.length + j.length ≤ sizeLine ∧ Q (.str (i ++ j)) H
def rAddAny (K : PySem.W.Frag) : R2 := fun x y H Q => rI0 (fun i j => .int (i + j)) x y H Q ∨ rStrCat x y H Q ∨ rCatL K x y H Q ∨ rCatA K x y H Q
theorem op_addAny : OpR X (binaryOp .Add) (rAddAny X.K) := op_add.or (op_add_str.or (op_catL.or op_catA))
theorem sp_add : Sp2 m L (rAddAny m.K) addD := by
  intro σ H F Q x y d1 d2 fh r1 r2 p
  unfold addD at p
  split at p
  · obtain rfl := r1.int
    obtain rfl := r2.int
    exact .inl ⟨_, _, rfl, rfl, p.val fh _ (.int _)⟩
  · obtain rfl := r1.str
    obtain rfl := r2.str
    obtain ⟨hc, p⟩ := p.chk
    exact .inr (.inl ⟨_, _, rfl, rfl, hc, p.val fh _ (.str _)⟩)
  · obtain ⟨a, vs, rfl, h1, t1⟩ := r1.list fh
    obtain ⟨b, ws, rfl, h2, t2⟩ := r2.list fh
    obtain ⟨hc, p⟩ := p.chk
    exact .inr (.inr (.inl ⟨a, b, vs, ws, rfl, rfl, h1, h2, by rw [t1.length, t2.length]; exact hc, post_newLf fh (t1.append t2) p⟩))
  · rename_i xs ys
    obtain ⟨a, vs, rfl, h1, t1⟩ := r1.tup fh
    obtain ⟨b, ws, rfl, h2, t2⟩ := r2.tup fh
    obtain ⟨hc, p⟩ := p.chk
    refine .inr (.inr (.inr ⟨a, b, vs, ws, rfl, rfl, h1, h2, by rw [t1.length, t2.length]; exact hc, fun e => ?_, fun _ e => ?_, fun _ _ => post_newT fh (t1.append t2) p⟩))
    · subst e
      cases t1
      refine p.val fh _ ?_
      rcases r2 with r2 | ⟨_, _, o⟩
      · exact r2
      · exact o.elim
    · subst e
      cases t2
      rw [List.append_nil] at p
      refine p.val fh _ ?_
      rcases r1 with r1 | ⟨_, _, o⟩
      · exact r1
      · exact o.elim
  · exact p.elim
theorem sp_cat : Sp2O m L (rCatL m.K) catD := by
  intro σ H0 H F Q x y d1 d2 s0 fh r1 r2 p
  unfold catD at p
  split at p
  · obtain ⟨a, vs, rfl, h1, t1⟩ := r1.list fh
    obtain ⟨b, ws, rfl, h2, t2⟩ := r2.list fh
    obtain ⟨hc, p⟩ := p.chk
    exact ⟨a, b, vs, ws, rfl, rfl, h1, h2, by rw [t1.length, t2.length]; exact hc, post_newL s0 fh (t1.append t2) p⟩
  · exact p.elim
theorem sp_sub : Sp2 m L (rI0 fun i j => .int (i - j)) subD := by
  intro σ H F Q x y d1 d2 fh r1 r2 p
  unfold subD at p
  split at p
  · obtain rfl := r1.int
    obtain rfl := r2.int
    exact ⟨_, _, rfl, rfl, p.val fh _ (.int _)⟩
  · exact p.elim
theorem sp_mul : Sp2 m L (rI CMul fun i j => .int (i * j)) mulD := by
  intro σ H F Q x y d1 d2 fh r1 r2 p
  unfold mulD at p
  split at p
  · obtain rfl := r1.int
    obtain rfl := r2.int
    obtain ⟨hc, p⟩ := p.chk
    exact ⟨_, _, rfl, rfl, hc, p.val fh _ (.int _)⟩
  · exact p.elim
theorem sp_fdiv : Sp2 m L (rI CDiv fun i j => .int (i / j)) fdivD := by
  intro σ H F Q x y d1 d2 fh r1 r2 p
  unfold fdivD at p
  split at p
  · obtain rfl := r1.int
    obtain rfl := r2.int
    obtain ⟨hc, p⟩ := p.chk
    exact ⟨_, _, rfl, rfl, hc, p.val fh _ (.int _)⟩
  · exact p.elim
theorem sp_mod : Sp2 m L (rI (fun _ j => 0 < j) fun i j => .int (i % j)) modD := by
  intro σ H F Q x y d1 d2 fh r1 r2 p
  unfold modD at p
  split at p
  · obtain rfl := r1.int
    obtain rfl := r2.int
    obtain ⟨hc, p⟩ := p.chk
    exact ⟨_, _, rfl, rfl, hc, p.val fh _ (.int _)⟩
  · exact p.elim
theorem sp_pow : Sp2 m L (rI CPow fun i j => .int (i ^ j.toNat)) powD := by
  intro σ H F Q x y d1 d2 fh r1 r2 p
  unfold powD at p
  split at p
  · obtain rfl := r1.int
    obtain rfl := r2.int
    obtain ⟨hc, p⟩ := p.chk
    exact ⟨_, _, rfl, rfl, hc, p.val fh _ (.int _)⟩
  · exact p.elim
theorem qe_add (ha : PE X a (tB m L f)) (hb : PE X b (tB m L g)) (hK : X.K = m.K := by rfl) : PE X (.BinOp a .Add b pos) (tE m L (eB2 addD f g)) := bin_of (r := rAddAny X.K) (by rw [hK]; exact sp_add) (pe_op op_addAny ha hb)
theorem qo_cat (ha : PE X a (tB m L f)) (hb : PE X b (tB m L g)) (hK : X.K = m.K := by rfl) : PE X (.BinOp a .Add b pos) (tO m L (eB2 catD f g)) := bin_ofO (r := rCatL X.K) (by rw [hK]; exact sp_cat) (pe_op op_catL ha hb)
theorem qe_sub (ha : PE X a (tB m L f)) (hb : PE X b (tB m L g)) : PE X (.BinOp a .Sub b pos) (tE m L (eB2 subD f g)) := bin_of sp_sub (pe_op op_sub ha hb)
theorem qe_mul (ha : PE X a (tB m L f)) (hb : PE X b (tB m L g)) : PE X (.BinOp a .Mult b pos) (tE m L (eB2 mulD f g)) := bin_of sp_mul (pe_op op_mul ha hb)
theorem qe_fdiv (ha : PE X a (tB m L f)) (hb : PE X b (tB m L g)) : PE X (.BinOp a .FloorDiv b pos) (tE m L (eB2 fdivD f g)) := bin_of sp_fdiv (pe_op op_fdiv ha hb)
theorem qe_mod (ha : PE X a (tB m L f)) (hb : PE X b (tB m L g)) : PE X (.BinOp a .Mod b pos) (tE m L (eB2 modD f g)) := bin_of sp_mod (pe_op op_mod ha hb)
theorem qe_pow (ha : PE X a (tB m L f)) (hb : PE X b (tB m L g)) : PE X (.BinOp a .Pow b pos) (tE m L (eB2 powD f g)) := bin_of sp_pow (pe_op op_pow ha hb)
theorem qe_neg (ha : PE X a (tB m L f)) : PE X (.UnaryOp .USub a pos) (tE m L (eB1 negD f)) := PE.imp (pe_un un_neg ha) fun σ H Q ⟨F, env, e, p⟩ =>
  tB_mono (one e p) fun x H1 ⟨F1, d, e1, x1, r, q⟩ => by
    unfold negD at q
    split at q
    · obtain rfl := r.int
      exact ⟨_, rfl, q.val e1.fh _ (.int _)⟩
    · exact q.elim

/-! ### comparisons -/
theorem sp_icmp {h : Int → Int → Bool} : Sp2B m L (rI0 fun i j => .bl (h i j)) (intCmp h) := by
  intro σ H F Q x y d1 d2 fh r1 r2 p
  unfold intCmp at p
  split at p
  · obtain rfl := r1.int
    obtain rfl := r2.int
    exact ⟨_, _, rfl, rfl, p.val fh⟩
  · exact p.elim
theorem sp_eq : Sp2B m L (rEqD m.K) eqD := by
  intro σ H F Q x y d1 d2 fh r1 r2 p
  obtain ⟨⟨h1, h2⟩, p⟩ := p.chk
  exact ⟨d1, d2, r1.dp fh (noDict_of_shaped h1), r2.dp fh (noDict_of_shaped h2), h1, h2, p.val fh⟩
theorem sp_ne : Sp2B m L (rNeD m.K) neD := by
  intro σ H F Q x y d1 d2 fh r1 r2 p
  obtain ⟨⟨h1, h2⟩, p⟩ := p.chk
  exact ⟨d1, d2, r1.dp fh (noDict_of_shaped h1), r2.dp fh (noDict_of_shaped h2), h1, h2, p.val fh⟩
theorem Db.isN {H F : Hp} {x : V} {d : D} (r : Db m H F x d) : decide (x = .non) = isN d := by
  rcases r with r | ⟨a, rfl, o⟩
  · cases r <;> rfl
  · cases d with
    | none => exact o.elim
    | bool _ => exact o.elim
    | int _ => exact o.elim
    | str _ => exact o.elim
    | tuple _ => exact o.elim
    | list _ => rfl
    | dict _ => rfl
theorem qt_lt (ha : PE X a (tB m L f)) (hb : PE X b (tB m L g)) : PT X (.Compare a [.Lt] [b] pos) (tT m L (eB2 iltD f g)) := bin_ofT sp_icmp (pt_cmpR op_lt ha hb (nomark _))
theorem qt_le (ha : PE X a (tB m L f)) (hb : PE X b (tB m L g)) : PT X (.Compare a [.LtE] [b] pos) (tT m L (eB2 ileD f g)) := bin_ofT sp_icmp (pt_cmpR op_le ha hb (nomark _))
theorem qt_gt (ha : PE X a (tB m L f)) (hb : PE X b (tB m L g)) : PT X (.Compare a [.Gt] [b] pos) (tT m L (eB2 igtD f g)) := bin_ofT sp_icmp (pt_cmpR op_gt ha hb (nomark _))
theorem qt_ge (ha : PE X a (tB m L f)) (hb : PE X b (tB m L g)) : PT X (.Compare a [.GtE] [b] pos) (tT m L (eB2 igeD f g)) := bin_ofT sp_icmp (pt_cmpR op_ge ha hb (nomark _))
theorem qv_lt (ha : PE X a (tB m L f)) (hb : PE X b (tB m L g)) : PE X (.Compare a [.Lt] [b] pos) (tE m L (vB (eB2 iltD f g))) := bin_ofV sp_icmp (pe_cmpR op_lt ha hb (nomark _))
theorem qv_le (ha : PE X a (tB m L f)) (hb : PE X b (tB m L g)) : PE X (.Compare a [.LtE] [b] pos) (tE m L (vB (eB2 ileD f g))) := bin_ofV sp_icmp (pe_cmpR op_le ha hb (nomark _))
theorem qv_gt (ha : PE X a (tB m L f)) (hb : PE X b (tB m L g)) : PE X (.Compare a [.Gt] [b] pos) (tE m L (vB (eB2 igtD f g))) := bin_ofV sp_icmp (pe_cmpR op_gt ha hb (nomark _))
theorem qv_ge (ha : PE X a (tB m L f)) (hb : PE X b (tB m L g)) : PE X (.Compare a [.GtE] [b] pos) (tE m L (vB (eB2 igeD f g))) := bin_ofV sp_icmp (pe_cmpR op_ge ha hb (nomark _))
section
variable {k : Nat} (hr : Room k X.A) (hK : X.K = m.K)
theorem u64 {n : Nat} (h : n + 200 < cLine) : n + 64 < cLine := by omega
theorem u65 {n : Nat} (h : n + 200 < cLine) : n + 65 < cLine := by omega
theorem u0 {n : Nat} (h : n + 200 < cLine) : n < cLine := by omega
theorem units200 {k : Nat} {A : Around} (hr : Room k A) : A.units + 200 < cLine := by have := hr.un; omega
theorem qt_eq (hu : X.A.units + 200 < cLine) (ha : PE X a (tB m L f)) (hb : PE X b (tB m L g)) (hK : X.K = m.K := by rfl) : PT X (.Compare a [.Eq] [b] pos) (tT m L (eB2 eqD f g)) := bin_ofT (r := rEqD X.K) (by rw [hK]; exact sp_eq) (pt_cmpR (op_eqD (u64 hu)) ha hb (nomark _))
theorem qt_ne (hu : X.A.units + 200 < cLine) (ha : PE X a (tB m L f)) (hb : PE X b (tB m L g)) (hK : X.K = m.K := by rfl) : PT X (.Compare a [.NotEq] [b] pos) (tT m L (eB2 neD f g)) := bin_ofT (r := rNeD X.K) (by rw [hK]; exact sp_ne) (pt_cmpR (op_neD (u64 hu)) ha hb (nomark _))
theorem qv_eq (hu : X.A.units + 200 < cLine) (ha : PE X a (tB m L f)) (hb : PE X b (tB m L g)) (hK : X.K = m.K := by rfl) : PE X (.Compare a [.Eq] [b] pos) (tE m L (vB (eB2 eqD f g))) := bin_ofV (r := rEqD X.K) (by rw [hK]; exact sp_eq) (pe_cmpR (op_eqD (u64 hu)) ha hb (nomark _))
theorem qv_ne (hu : X.A.units + 200 < cLine) (ha : PE X a (tB m L f)) (hb : PE X b (tB m L g)) (hK : X.K = m.K := by rfl) : PE X (.Compare a [.NotEq] [b] pos) (tE m L (vB (eB2 neD f g))) := bin_ofV (r := rNeD X.K) (by rw [hK]; exact sp_ne) (pe_cmpR (op_neD (u64 hu)) ha hb (nomark _))
end
theorem qv_isN {j : Nat} {pos' : Pos} (ha : PE X a (tB m L f)) : PE X (.Compare a [.Is] [.Constant .none j pos'] pos) (tE m L (vB (eB1 isND f))) := PE.imp (pe_cmp (pc_isN ha) rfl) fun σ H Q ⟨F, env, e, p⟩ => by
  have p : Post m L σ H F ((eB1 isND f env).bind fun b => Res.ok (PyData.bool b)) (fun d H' F' => ∀ v, Rp m.K F' v d → Q v H') := p
  refine tB_mono (one e p.bind) fun x H1 ⟨F1, d, e1, x1, r, q⟩ => ?_
  rw [r.isN]
  exact Post.val e1.fh (Post.val e1.fh q) _ (.bl _)
theorem qv_notN {j : Nat} {pos' : Pos} (ha : PE X a (tB m L f)) : PE X (.Compare a [.IsNot] [.Constant .none j pos'] pos) (tE m L (vB (eB1 notND f))) := PE.imp (pe_cmp (pc_notN ha) rfl) fun σ H Q ⟨F, env, e, p⟩ => by
  have p : Post m L σ H F ((eB1 notND f env).bind fun b => Res.ok (PyData.bool b)) (fun d H' F' => ∀ v, Rp m.K F' v d → Q v H') := p
  refine tB_mono (one e p.bind) fun x H1 ⟨F1, d, e1, x1, r, q⟩ => ?_
  rw [r.isN]
  exact Post.val e1.fh (Post.val e1.fh q) _ (.bl _)
theorem qt_isN {j : Nat} {pos' : Pos} (ha : PE X a (tB m L f)) : PT X (.Compare a [.Is] [.Constant .none j pos'] pos) (tT m L (eB1 isND f)) := PT.imp (pt_cmp (pc_isN ha) rfl) fun σ H Q ⟨F, env, e, p⟩ => by
  refine tB_mono (one e p) fun x H1 ⟨F1, d, e1, x1, r, q⟩ => ?_
  rw [r.isN]
  exact ⟨_, rfl, q.val e1.fh⟩
theorem qt_notN {j : Nat} {pos' : Pos} (ha : PE X a (tB m L f)) : PT X (.Compare a [.IsNot] [.Constant .none j pos'] pos) (tT m L (eB1 notND f)) := PT.imp (pt_cmp (pc_notN ha) rfl) fun σ H Q ⟨F, env, e, p⟩ => by
  refine tB_mono (one e p) fun x H1 ⟨F1, d, e1, x1, r, q⟩ => ?_
  rw [r.isN]
  exact ⟨_, rfl, q.val e1.fh⟩
end
end Mir

/-! MirR2: tests, truth, and, or, not, chains, conditional expressions; subscripts, slices, displays; built-ins by name. -/
namespace Mir
open PySem PySem.Spec L2
section
variable {X : Cx} {m : M} {L : List Addr} {f g h : Env → Res D} {a b c : Expr} {pos : Pos}
theorem tE_mono {σ : St} {H : Hp} {f : Env → Res D} {Q Q' : VK} (h : tE m L f σ H Q) (i : ∀ v H', Q v H' → Q' v H') : tE m L f σ H Q' := by
  obtain ⟨F, env, e, p⟩ := h
  exact ⟨F, env, e, p.imp fun d H' F' _ k v r => i v H' (k v r)⟩
theorem tT_mono {σ : St} {H : Hp} {f : Env → Res Bool} {Q Q' : Bool → Hp → Prop} (h : tT m L f σ H Q) (i : ∀ v H', Q v H' → Q' v H') : tT m L f σ H Q' := by
  obtain ⟨F, env, e, p⟩ := h
  exact ⟨F, env, e, p.imp fun d H' F' _ k => i d H' k⟩
/-- one operand, frozen -/
theorem oneE {σ : St} {H F : Hp} {env : Env} {β : Type} {op : D → Res β} {f : Env → Res D} {k : β → Hp → Hp → Prop} (e : EnvOk m L σ H F env) (p : Post m L σ H F (eB1 op f env) k) :
    tE m L f σ H fun x H1 => ∃ F1 d, EnvOk m L σ H1 F1 env ∧ Ext m L H F H1 F1 ∧ Rp m.K F1 x d ∧ Post m L σ H1 F1 (op d) k := by
  have p : Post m L σ H F ((f env).bind op) k := p
  exact ⟨F, env, e, p.bind.imp fun d H1 F1 x q v r => ⟨F1, d, e.ext x, x, r, q⟩⟩
/-! ### truth -/
theorem RpAll.isEmpty {K : PySem.W.Frag} {F : Hp} {vs : List V} {ds : List D} (h : RpAll K F vs ds) : vs.isEmpty = ds.isEmpty := by cases h <;> rfl
theorem Db.truth {H F : Hp} {x : V} {d : D} {k : Bool} {σ : St} {Q : Bool → Hp → Prop} (fh : Le (m.L0 ++ L) F H) (r : Db m H F x d) (p : Post m L σ H F (truD d) fun b H' _ => Q b H') : ∃ k, TruV m.K x H k ∧ Q k H := by
  unfold truD at p
  split at p
  · obtain rfl := r.bool; exact ⟨_, rfl, p.val fh⟩
  · obtain rfl := r.non; exact ⟨_, rfl, p.val fh⟩
  · obtain rfl := r.int; exact ⟨_, rfl, p.val fh⟩
  · obtain rfl := r.str; obtain ⟨hc, p⟩ := p.chk; exact ⟨_, ⟨hc, rfl⟩, p.val fh⟩
  · obtain ⟨a, vs, rfl, h, t⟩ := r.list fh
    refine ⟨!vs.isEmpty, .inl ⟨vs, h, rfl⟩, ?_⟩
    rw [t.isEmpty]; exact p.val fh
  · obtain ⟨a, vs, rfl, h, t⟩ := r.tup fh
    refine ⟨!vs.isEmpty, .inr (.inl ⟨vs, h, rfl⟩), ?_⟩
    rw [t.isEmpty]; exact p.val fh
  · exact p.elim
theorem qt_truth (ha : PE X a (tB m L f)) (he : ∀ whole, isTrue a X.env whole = (do let v ← whole; standAt a.pos; holding [v] (truthy v)) := by intro _; rfl) (hK : X.K = m.K := by rfl) : PT X a (tT m L (eB1 truD f)) :=
  PT.imp (pt_truth ha he) fun σ H Q ⟨F, env, e, p⟩ => tB_mono (one e p) fun x H1 ⟨F1, d, e1, x1, r, q⟩ => by
    rw [hK]
    exact r.truth (k := true) e1.fh q
/-! ### and, or, not as tests -/
theorem qt_not {t : Env → Res Bool} (ha : PT X a (tT m L t)) : PT X (.UnaryOp .Not a pos) (tT m L (bNot t)) := PT.imp (pt_not ha) fun σ H Q ⟨F, env, e, p⟩ => by
  have p : Post m L σ H F ((t env).bind fun b => Res.ok (!b)) (fun b H' _ => Q b H') := p
  exact ⟨F, env, e, p.bind.imp fun b H1 F1 x q => q.val x.fh⟩
theorem qw_1 {t : Env → Res Bool} {op : BoolOp} (ha : PT X a (tT m L t)) (h : PT X a (tT m L t) → PW X (.BoolOp op [a] pos) (tT m L t)) : PW X (.BoolOp op [a] pos) (tT m L t) := h ha
theorem qw_and {t u : Env → Res Bool} {rest : List Expr} (ha : PT X a (tT m L t)) (hb : PW X (.BoolOp .And (b :: rest) pos) (tT m L u)) : PW X (.BoolOp .And (a :: b :: rest) pos) (tT m L (bAnd t u)) :=
  PW.imp (pw_and ha hb) fun σ H Q ⟨F, env, e, p⟩ => by
    have p : Post m L σ H F ((t env).bind fun b => if b = true then u env else .ok false) (fun b H' _ => Q b H') := p
    refine ⟨F, env, e, p.bind.imp fun c H1 F1 x q => ?_⟩
    cases c with
    | true => rw [if_pos rfl] at q ⊢; exact ⟨F1, env, e.ext x, q⟩
    | false => rw [if_neg Bool.false_ne_true] at q ⊢; exact q.val x.fh
theorem qw_or {t u : Env → Res Bool} {rest : List Expr} (ha : PT X a (tT m L t)) (hb : PW X (.BoolOp .Or (b :: rest) pos) (tT m L u)) : PW X (.BoolOp .Or (a :: b :: rest) pos) (tT m L (bOr t u)) :=
  PW.imp (pw_or ha hb) fun σ H Q ⟨F, env, e, p⟩ => by
    have p : Post m L σ H F ((t env).bind fun b => if b = true then .ok true else u env) (fun b H' _ => Q b H') := p
    refine ⟨F, env, e, p.bind.imp fun c H1 F1 x q => ?_⟩
    cases c with
    | true => rw [if_pos rfl] at q ⊢; exact q.val x.fh
    | false => rw [if_neg Bool.false_ne_true] at q ⊢; exact ⟨F1, env, e.ext x, q⟩
theorem qt_w (h : PW X a (tT m L (t : Env → Res Bool))) : PT X a (tT m L t) := h.pt
/-! ### .. as values -/
theorem qe_1 {op : BoolOp} (ha : PE X a (tE m L f)) : PE X (.BoolOp op [a] pos) (tE m L f) := pe_one ha
theorem qe_and {rest : List Expr} (ha : PE X a (tE m L f)) (hb : PE X (.BoolOp .And (b :: rest) pos) (tE m L g)) : PE X (.BoolOp .And (a :: b :: rest) pos) (tE m L (eAnd f g)) :=
  PE.imp (pe_and ha hb) fun σ H Q ⟨F, env, e, p⟩ => by
    refine ⟨F, env, e, (Post.bind p).imp fun d H1 F1 x q v r => ?_⟩
    split at q
    · rename_i c
      cases r
      refine ⟨c, rfl, ?_⟩
      cases c with
      | true => rw [if_pos rfl] at q ⊢; exact ⟨F1, env, e.ext x, q⟩
      | false => rw [if_neg Bool.false_ne_true] at q ⊢; exact q.val x.fh _ (.bl _)
    · exact q.elim
theorem qe_or {rest : List Expr} (ha : PE X a (tE m L f)) (hb : PE X (.BoolOp .Or (b :: rest) pos) (tE m L g)) : PE X (.BoolOp .Or (a :: b :: rest) pos) (tE m L (eOr f g)) :=
  PE.imp (pe_or ha hb) fun σ H Q ⟨F, env, e, p⟩ => by
    refine ⟨F, env, e, (Post.bind p).imp fun d H1 F1 x q v r => ?_⟩
    split at q
    · rename_i c
      cases r
      refine ⟨c, rfl, ?_⟩
      cases c with
      | true => rw [if_pos rfl] at q ⊢; exact q.val x.fh _ (.bl _)
      | false => rw [if_neg Bool.false_ne_true] at q ⊢; exact ⟨F1, env, e.ext x, q⟩
    · exact q.elim
theorem qe_not (ha : PE X a (tE m L f)) : PE X (.UnaryOp .Not a pos) (tE m L (eB1 notD f)) := PE.imp (pe_not ha) fun σ H Q ⟨F, env, e, p⟩ =>
  tE_mono (oneE e p) fun x H1 ⟨F1, d, e1, x1, r, q⟩ => by
    unfold notD at q
    split at q
    · cases r; exact ⟨_, rfl, q.val e1.fh _ (.bl _)⟩
    · exact q.elim
theorem qe_if {t : Env → Res Bool} (hc : PT X c (tT m L t)) (ha : PE X a (tE m L f)) (hb : PE X b (tE m L g)) : PE X (.IfExp c a b pos) (tE m L (eIf t f g)) := PE.imp (pe_ifExp hc ha hb) fun σ H Q ⟨F, env, e, p⟩ => by
  refine ⟨F, env, e, (Post.bind p).imp fun d H1 F1 x q => ?_⟩
  cases d with
  | true => rw [if_pos rfl] at q ⊢; exact ⟨F1, env, e.ext x, q⟩
  | false => rw [if_neg Bool.false_ne_true] at q ⊢; exact ⟨F1, env, e.ext x, q⟩
theorem qo_if {t : Env → Res Bool} (hc : PT X c (tT m L t)) (ha : PE X a (tO m L f)) (hb : PE X b (tO m L g)) : PE X (.IfExp c a b pos) (tO m L (eIf t f g)) := PE.imp (pe_ifExp hc ha hb) fun σ H Q ⟨F, env, e, p⟩ => by
  refine ⟨F, env, e, (Post.bind p).imp fun d H1 F1 x q => ?_⟩
  cases d with
  | true => rw [if_pos rfl] at q ⊢; exact ⟨F1, env, e.ext x, q.imp fun _ _ _ _ k a ha => k a (x.hh.free ha)⟩
  | false => rw [if_neg Bool.false_ne_true] at q ⊢; exact ⟨F1, env, e.ext x, q.imp fun _ _ _ _ k a ha => k a (x.hh.free ha)⟩
/-- a comparison chain of ints -/
theorem chain_of {hh hh' : Int → Int → Bool} {σ : St} {H F : Hp} {env : Env} {k : Bool → Hp → Hp → Prop} (e : EnvOk m L σ H F env) (p : Post m L σ H F (eChain hh hh' f g h env) k) :
    tChain (rI0 fun i j => .bl (hh i j)) (rI0 fun i j => .bl (hh' i j)) (tB m L f) (tB m L g) (tB m L h) σ H fun x H' => ∃ b F', x = .bl b ∧ Ext m L H F H' F' ∧ k b H' F' := by
  refine ⟨F, env, e, (Post.bind p).imp fun d1 H1 F1 x1 p1 v1 r1 => ?_⟩
  refine ⟨F1, env, e.ext x1, (Post.bind p1).imp fun d2 H2 F2 x2 p2 v2 r2 => ?_⟩
  replace r1 := r1.mono x2.hh x2.ff
  have e2 := (e.ext x1).ext x2
  clear p p1
  cases d1 <;> try exact p2.elim
  cases d2 <;> try exact p2.elim
  rename_i i j
  obtain rfl := r1.int
  obtain rfl := r2.int
  refine ⟨i, j, rfl, rfl, _, rfl, ?_⟩
  have q : Post m L σ H2 F2 (if hh i j = true then (h env).bind fun z => intCmp hh' (.int j) z else .ok false) k := p2
  by_cases c : hh i j = true
  · rw [if_pos c] at q ⊢
    refine ⟨F2, env, e2, (Post.bind q).imp fun d3 H3 F3 x3 p3 v3 r3 => ?_⟩
    cases d3 <;> try exact p3.elim
    obtain rfl := r3.int
    exact ⟨_, _, rfl, rfl, _, F3, rfl, (x1.trans x2).trans x3, Post.val x3.fh p3⟩
  · rw [if_neg c] at q ⊢
    exact ⟨_, F2, rfl, x1.trans x2, q.val x2.fh⟩
theorem qt_chain {op op' : CmpOp} {b c' : Expr} {hh hh' : Int → Int → Bool} (h1 : OpR X (compareOp op) (rI0 fun i j => .bl (hh i j))) (h2 : OpR X (compareOp op') (rI0 fun i j => .bl (hh' i j)))
    (ha : PE X a (tB m L f)) (hb : PE X b (tB m L g)) (hc : PE X c' (tB m L h)) (hm : lastMarks [op, op'] [b, c'] = false := by with_unfolding_all rfl) : PT X (.Compare a [op, op'] [b, c'] pos) (tT m L (eChain hh hh' f g h)) :=
  PT.imp (pt_chain h1 h2 ha hb hc hm) fun σ H Q ⟨F, env, e, p⟩ => by
    refine tB_mono (chain_of e p) fun x H1 q => ?_
    exact tB_mono q fun y H2 ⟨i, j, e1, e2, b, e3, q⟩ => ⟨i, j, e1, e2, b, e3, by
      by_cases c : b = true
      · rw [if_pos c] at q ⊢
        exact tB_mono q fun z H3 ⟨i, j, e1, e2, b, F', e3, x, q⟩ => ⟨i, j, e1, e2, b, e3, q⟩
      · rw [if_neg c] at q ⊢
        obtain ⟨b, F', e3, x, q⟩ := q
        exact ⟨b, e3, q⟩⟩
theorem qv_chain {op op' : CmpOp} {b c' : Expr} {hh hh' : Int → Int → Bool} (h1 : OpR X (compareOp op) (rI0 fun i j => .bl (hh i j))) (h2 : OpR X (compareOp op') (rI0 fun i j => .bl (hh' i j)))
    (ha : PE X a (tB m L f)) (hb : PE X b (tB m L g)) (hc : PE X c' (tB m L h)) (hm : lastMarks [op, op'] [b, c'] = false := by with_unfolding_all rfl) : PE X (.Compare a [op, op'] [b, c'] pos) (tE m L (vB (eChain hh hh' f g h))) :=
  PE.imp (pe_chain h1 h2 ha hb hc hm) fun σ H Q ⟨F, env, e, p⟩ => by
    have p : Post m L σ H F ((eChain hh hh' f g h env).bind fun b => Res.ok (PyData.bool b)) (fun d H' F' => ∀ v, Rp m.K F' v d → Q v H') := p
    refine tB_mono (chain_of e p.bind) fun x H1 q => ?_
    exact tB_mono q fun y H2 ⟨i, j, e1, e2, b, e3, q⟩ => ⟨i, j, e1, e2, b, e3, by
      by_cases c : b = true
      · rw [if_pos c] at q ⊢
        exact tB_mono q fun z H3 ⟨i, j, e1, e2, b, F', e3, x, q⟩ => ⟨i, j, e1, e2, by cases e3; exact Post.val x.fh q _ (.bl _)⟩
      · rw [if_neg c] at q ⊢
        obtain ⟨b, F', e3, x, q⟩ := q
        cases e3
        exact Post.val x.fh q _ (.bl _)⟩
end

/-! ### subscripts, slices -/
section
variable {X : Cx} {m : M} {L : List Addr} {f g h : Env → Res D} {a b c : Expr} {pos : Pos}
theorem atI_get' {α β : Type} {xs : List α} {ys : List β} {i : Int} {y : β} (hl : xs.length = ys.length) (h : atI ys i = some y) : ∃ n : Nat, ys[n]? = some y ∧ ∀ x, xs[n]? = some x → atI xs i = some x := by
  unfold atI at h ⊢
  rw [hl]
  cases e : ixN ys.length i with
  | none => rw [e] at h; cases h -- here
  | some n => rw [e] at h; exact ⟨n, h, fun x hx => hx⟩
theorem sp_ix : Sp2 m L (rIx m.K) ixD := by
  intro σ H F Q x y d1 d2 fh r1 r2 p
  unfold ixD at p
  split at p
  · obtain rfl := r2.int
    obtain ⟨a, vs, rfl, h1, t1⟩ := r1.list fh
    split at p
    · rename_i d hd
      obtain ⟨n, hn, k⟩ := atI_get' t1.length hd
      obtain ⟨v, hv, rv⟩ := t1.get hn
      exact .inl ⟨a, vs, _, v, rfl, rfl, h1, k v hv, p.val fh v rv⟩
    · exact p.elim
  · obtain rfl := r2.int
    obtain ⟨a, vs, rfl, h1, t1⟩ := r1.tup fh
    split at p
    · rename_i d hd
      obtain ⟨n, hn, k⟩ := atI_get' t1.length hd
      obtain ⟨v, hv, rv⟩ := t1.get hn
      exact .inr (.inl ⟨a, vs, _, v, rfl, rfl, h1, k v hv, p.val fh v rv⟩)
    · exact p.elim
  · obtain rfl := r2.int
    obtain rfl := r1.str
    obtain ⟨hc, p⟩ := p.chk
    split at p
    · rename_i c hd
      exact .inr (.inr ⟨_, _, c, rfl, rfl, hc, hd, p.val fh _ (.str _)⟩)
    · exact p.elim
  · exact p.elim
theorem qe_ix (ha : PE X a (tB m L f)) (hb : PE X b (tB m L g)) (hs : PlainIx b := by exact fun _ _ => rfl) (hK : X.K = m.K := by rfl) : PE X (.Subscript a b pos) (tE m L (eB2 ixD f g)) := bin_of (r := rIx X.K) (by rw [hK]; exact sp_ix) (pe_ix ix_seq ha hb hs)
/-- an optional part of a slice -/
def tP (m : M) (L : List Addr) (f : Env → Res (Option Int)) : TO := fun σ H Q => ∃ F env, EnvOk m L σ H F env ∧ Post m L σ H F (f env) fun o H' _ => Q o H'
theorem PO.imp {e : Option Expr} {t t' : TO} (h : PO X e t) (i : ∀ σ H Q, t' σ H Q → t σ H Q) : PO X e t' := ⟨fun pins s σ H Q I w => h.run pins s σ H Q I (i σ H Q w)⟩
theorem qp_none : PO X none (tP m L eNone) := PO.imp po_none fun σ H Q ⟨F, env, e, p⟩ => p.ret e
theorem qp_some (ha : PE X a (tB m L f)) : PO X (some a) (tP m L (eSome f)) := PO.imp (po_some ha) fun σ H Q ⟨F, env, e, p⟩ => tB_mono (one e p) fun x H1 ⟨F1, d, e1, x1, r, q⟩ => by
  unfold optI at q
  split at q
  · obtain rfl := r.int; exact ⟨_, rfl, q.val e1.fh⟩
  · exact q.elim
theorem tP_mono {σ : St} {H : Hp} {f : Env → Res (Option Int)} {Q Q' : Option Int → Hp → Prop} (h : tP m L f σ H Q) (i : ∀ v H', Q v H' → Q' v H') : tP m L f σ H Q' := by
  obtain ⟨F, env, e, p⟩ := h
  exact ⟨F, env, e, p.imp fun d H' F' _ k => i d H' k⟩
theorem cutD_rp {K : PySem.W.Frag} {F : Hp} {vs : List V} {ds : List D} (t : RpAll K F vs ds) (lo hi : Option Int) : RpAll K F (cutV vs lo hi) (cutD ds lo hi) := by
  unfold cutV cutD
  rw [t.length]
  exact (t.drop _).take _
theorem cutD_whole {α : Type} {ds : List α} {lo hi : Option Int} (h : HT.sIx ds.length 0 lo = 0 ∧ HT.sIx ds.length ds.length hi = ds.length) : cutD ds lo hi = ds := by
  unfold cutD
  rw [h.1, h.2, List.drop_zero, Nat.sub_zero, List.take_length]
def rSlAny (K : PySem.W.Frag) : V → Option Int → Option Int → Hp → VK → Prop := fun x lo hi H Q => rSlL K x lo hi H Q ∨ rSlA K x lo hi H Q ∨ rSlS x lo hi H Q
theorem sl_any : SlR X (rSlAny X.K) := sl_list.or (sl_tupA.or sl_str)
theorem three_sl {β : Type} {op : D → Option Int → Option Int → Res β} {lo hi : Env → Res (Option Int)} {σ : St} {H F : Hp} {env : Env} {k : β → Hp → Hp → Prop} (e : EnvOk m L σ H F env) (p : Post m L σ H F (eB3 op f lo hi env) k) :
    tB m L f σ H fun x H1 => tP m L lo σ H1 fun l H2 => tP m L hi σ H2 fun u H3 => ∃ F3 d, EnvOk m L σ H3 F3 env ∧ Ext m L H F H3 F3 ∧ Db m H3 F3 x d ∧ Post m L σ H3 F3 (op d l u) k := by
  refine ⟨F, env, e, (Post.bind p).imp fun d1 H1 F1 x1 p1 v1 r1 => ?_⟩
  refine ⟨F1, env, e.ext x1, (Post.bind p1).imp fun l H2 F2 x2 p2 => ?_⟩
  refine ⟨F2, env, (e.ext x1).ext x2, (Post.bind p2).imp fun u H3 F3 x3 p3 => ?_⟩
  exact ⟨F3, d1, ((e.ext x1).ext x2).ext x3, (x1.trans x2).trans x3, (r1.mono x2.hh x2.ff).mono x3.hh x3.ff, p3⟩
theorem qe_slice {lo hi : Option Expr} {p2 : Pos} {fl fh : Env → Res (Option Int)} (ha : PE X a (tB m L f)) (hl : PO X lo (tP m L fl)) (hu : PO X hi (tP m L fh)) (hK : X.K = m.K := by rfl) :
    PE X (.Subscript a (.Slice lo hi none p2) pos) (tE m L (eB3 sliceD f fl fh)) := PE.imp (pe_slice sl_any ha hl hu) fun σ H Q ⟨F, env, e, p⟩ =>
  tB_mono (three_sl e p) fun x H1 q1 => tP_mono q1 fun l H2 q2 => tP_mono q2 fun u H3 ⟨F3, d, e3, x3, r, q⟩ => by
    rw [hK]
    unfold sliceD at q
    split at q
    · obtain ⟨a, vs, rfl, h1, t1⟩ := r.list e3.fh
      exact .inl ⟨a, vs, rfl, h1, post_newLf e3.fh (cutD_rp t1 _ _) q⟩
    · obtain ⟨a, vs, rfl, h1, t1⟩ := r.tup e3.fh
      refine .inr (.inl ⟨a, vs, rfl, h1, fun w => ?_, fun _ => post_newT e3.fh (cutD_rp t1 _ _) q⟩)
      rw [t1.length] at w
      rw [cutD_whole w] at q
      refine q.val e3.fh _ ?_
      rcases r with r | ⟨_, _, o⟩
      · exact r
      · exact o.elim
    · obtain rfl := r.str
      obtain ⟨hc, q⟩ := q.chk
      exact .inr (.inr ⟨_, rfl, hc, q.val e3.fh _ (.str _)⟩)
    · exact q.elim
def sliceLD : D → Option Int → Option Int → Res D
  | .list xs, lo, hi => .ok (.list (cutD xs lo hi))
  | _, _, _ => .no
theorem qo_slice {lo hi : Option Expr} {p2 : Pos} {fl fh : Env → Res (Option Int)} (ha : PE X a (tB m L f)) (hl : PO X lo (tP m L fl)) (hu : PO X hi (tP m L fh)) (hK : X.K = m.K := by rfl) :
    PE X (.Subscript a (.Slice lo hi none p2) pos) (tO m L (eB3 sliceLD f fl fh)) := PE.imp (pe_slice sl_list ha hl hu) fun σ H Q ⟨F, env, e, p⟩ =>
  tB_mono (three_sl e p) fun x H1 q1 => tP_mono q1 fun l H2 q2 => tP_mono q2 fun u H3 ⟨F3, d, e3, x3, r, q⟩ => by
    rw [hK]
    unfold sliceLD at q
    split at q
    · obtain ⟨a, vs, rfl, h1, t1⟩ := r.list e3.fh
      exact ⟨a, vs, rfl, h1, post_newL x3.hh e3.fh (cutD_rp t1 _ _) q⟩
    · exact q.elim

/-! ### displays -/
theorem qa_nil : PA X [] (tA m L eNil) := PA.imp pa_nil fun σ H Q ⟨F, env, e, p⟩ => p.ret e [] .nil
theorem qa_cons {es : List Expr} {fs : Env → Res (List D)} (ha : PE X a (tE m L f)) (hr : PA X es (tA m L fs)) (hs : starEach (a :: es) X.env = (false, eval a X.env) :: starEach es X.env := by rfl) : PA X (a :: es) (tA m L (eCons f fs)) :=
  PA.imp (pa_cons ha hr hs) fun σ H Q ⟨F, env, e, p⟩ => by
    refine ⟨F, env, e, (Post.bind p).imp fun d1 H1 F1 x1 p1 v1 r1 => ?_⟩
    refine ⟨F1, env, e.ext x1, (Post.bind p1).imp fun ds H2 F2 x2 p2 vs rs => ?_⟩
    exact Post.val x2.fh p2 _ (.cons (Rp.mono x2.ff r1) rs)
theorem tA_mono {σ : St} {H : Hp} {f : Env → Res (List D)} {Q Q' : List V → Hp → Prop} (h : tA m L f σ H Q) (i : ∀ v H', Q v H' → Q' v H') : tA m L f σ H Q' := by
  obtain ⟨F, env, e, p⟩ := h
  exact ⟨F, env, e, p.imp fun d H' F' _ k v r => i v H' (k v r)⟩
theorem oneA {σ : St} {H F : Hp} {env : Env} {β : Type} {op : List D → Res β} {f : Env → Res (List D)} {k : β → Hp → Hp → Prop} (e : EnvOk m L σ H F env) (p : Post m L σ H F (eB1 op f env) k) :
    tA m L f σ H fun x H1 => ∃ F1 d, EnvOk m L σ H1 F1 env ∧ Ext m L H F H1 F1 ∧ RpAll m.K F1 x d ∧ Post m L σ H1 F1 (op d) k := by
  have p : Post m L σ H F ((f env).bind op) k := p
  exact ⟨F, env, e, p.bind.imp fun d H1 F1 x q v r => ⟨F1, d, e.ext x, x, r, q⟩⟩
theorem qe_tup {es : List Expr} {fs : Env → Res (List D)} {k : Nat} (h : PA X es (tA m L fs)) : PE X (.Tuple es k pos) (tE m L (eB1 tupD fs)) := PE.imp (pe_tup h) fun σ H Q ⟨F, env, e, p⟩ =>
  tA_mono (oneA e p) fun vs H1 ⟨F1, ds, e1, x1, r, q⟩ => by
    obtain ⟨hc, q⟩ := q.chk
    exact ⟨by rw [r.length]; exact hc, post_newT e1.fh r q⟩
theorem qo_lst {es : List Expr} {fs : Env → Res (List D)} (h : PA X es (tA m L fs)) : PE X (.List es pos) (tO m L (eB1 lstD fs)) := PE.imp (pe_lst h) fun σ H Q ⟨F, env, e, p⟩ =>
  tA_mono (oneA e p) fun vs H1 ⟨F1, ds, e1, x1, r, q⟩ => by
    obtain ⟨hc, q⟩ := q.chk
    exact ⟨by rw [r.length]; exact hc, post_newL x1.hh e1.fh r q⟩
theorem qe_lst {es : List Expr} {fs : Env → Res (List D)} (h : PA X es (tA m L fs)) : PE X (.List es pos) (tE m L (eB1 lstD fs)) := pe_of (qo_lst h)
theorem qe_cat (ha : PE X a (tB m L f)) (hb : PE X b (tB m L g)) (hK : X.K = m.K := by rfl) : PE X (.BinOp a .Add b pos) (tE m L (eB2 catD f g)) := pe_of (qo_cat ha hb hK)
/-- a new list times an int -/
theorem qo_rep (ha : PE X a (tO m L f)) (hb : PE X b (tB m L g)) : PE X (.BinOp a .Mult b pos) (tO m L (eB2 repD f g)) := PE.imp (pe_op op_rep ha hb) fun σ H Q ⟨F, env, e, p⟩ => by
  refine ⟨F, env, e, (Post.bind p).imp fun d1 H1 F1 x1 p1 v1 n1 f1 r1 => ?_⟩
  refine ⟨F1, env, e.ext x1, (Post.bind p1).imp fun d2 H2 F2 x2 p2 v2 r2 => ?_⟩
  unfold repD at p2
  split at p2
  · obtain ⟨vs, hv, t1⟩ := r1
    obtain rfl := r2.int
    obtain ⟨⟨h1, h2, h3⟩, p2⟩ := p2.chk
    refine ⟨v1, _, vs, rfl, rfl, x2.hh _ _ hv, h1, h2, by rw [t1.length]; exact h3, post_newL (x1.hh.trans x2.hh) x2.fh ?_ p2⟩
    have tk : ∀ n : Nat, RpAll m.K F2 (List.replicate n vs).flatten (List.replicate n _).flatten := fun n => by
      induction n with
      | zero => exact .nil
      | succ n ih => rw [List.replicate_succ, List.replicate_succ, List.flatten_cons, List.flatten_cons]; exact (RpAll.mono x2.ff t1).append ih
    exact tk _
  · exact p2.elim
end
end Mir

/-! MirR3: built-ins by name, isinstance, in, methods of texts and lists. -/
namespace Mir
open PySem PySem.Spec L2
section
variable {X : Cx} {m : M} {L : List Addr} {f g h : Env → Res D} {a b c e : Expr} {pos p : Pos} {x : Str} {id T : String} {r : List V → Hp → VK → Prop} {op : D → Res D}
def Sp1 (m : M) (L : List Addr) (r : List V → Hp → VK → Prop) (op : D → Res D) : Prop := ∀ (σ : St) (H F : Hp) (Q : VK) (x : V) (d : D), Le (m.L0 ++ L) F H → Db m H F x d →
  Post m L σ H F (op d) (fun d H' F' => ∀ v, Rp m.K F' v d → Q v H') → r [x] H Q
def Sp1O (m : M) (L : List Addr) (r : List V → Hp → VK → Prop) (op : D → Res D) : Prop := ∀ (σ : St) (H0 H F : Hp) (Q : VK) (x : V) (d : D), Same H0 H → Le (m.L0 ++ L) F H → Db m H F x d →
  Post m L σ H F (op d) (fun d H' F' => ∀ a, H0 a = none → F' a = none → OwnAt m.K H' F' a d → Q (.ref a) H') → r [x] H Q
theorem call1 (sp : Sp1 m L r op) (hh : PE X e (tCB r (tCons (tB m L f) tNil))) : PE X e (tE m L (eB1 op f)) := PE.imp hh fun σ H Q ⟨F, env, e, p⟩ =>
  tB_mono (one e p) fun x H1 ⟨F1, d, e1, x1, r, q⟩ => sp σ H1 F1 Q x d e1.fh r q
theorem call1O (sp : Sp1O m L r op) (hh : PE X e (tCB r (tCons (tB m L f) tNil))) : PE X e (tO m L (eB1 op f)) := PE.imp hh fun σ H Q ⟨F, env, e, p⟩ =>
  tB_mono (one e p) fun x H1 ⟨F1, d, e1, x1, r, q⟩ => sp σ H H1 F1 Q x d x1.hh e1.fh r q
/-! ### the specifications -/
theorem sp_len : Sp1 m L (fun xs H Q => ∃ x n, xs = [x] ∧ LenV m.K x H n ∧ Q (.int n) H) lenD := by
  intro σ H F Q x d fh r p
  unfold lenD at p
  split at p
  · obtain ⟨a, vs, rfl, h1, t1⟩ := r.list fh
    exact ⟨_, vs.length, rfl, .inl ⟨vs, h1, rfl⟩, by rw [t1.length]; exact p.val fh _ (.int _)⟩
  · obtain ⟨a, vs, rfl, h1, t1⟩ := r.tup fh
    exact ⟨_, vs.length, rfl, .inr ⟨vs, h1, rfl⟩, by rw [t1.length]; exact p.val fh _ (.int _)⟩
  · obtain rfl := r.str
    obtain ⟨hc, p⟩ := p.chk
    exact ⟨_, _, rfl, ⟨hc, rfl⟩, p.val fh _ (.int _)⟩
  · exact p.elim
def rInt : List V → Hp → VK → Prop := fun xs H Q => ((∃ i, xs = [.int i] ∧ Q (.int i) H) ∨ ∃ k, xs = [.bl k] ∧ Q (.int (if k then 1 else 0)) H) ∨ ∃ a n, xs = [.str a] ∧ PySem.intText? a = some n ∧ a.length ≤ 640 ∧ Q (.int n) H
theorem call_intAny : CallR X (.type "int") rInt := call_int1.or call_int_str
theorem sp_int : Sp1 m L rInt intD := by
  intro σ H F Q x d fh r p
  unfold intD at p
  split at p
  · obtain rfl := r.int; exact .inl (.inl ⟨_, rfl, p.val fh _ (.int _)⟩)
  · obtain rfl := r.bool; exact .inl (.inr ⟨_, rfl, p.val fh _ (.int _)⟩)
  · obtain rfl := r.str
    split at p
    · rename_i n hn
      obtain ⟨hc, p⟩ := p.chk
      exact .inr ⟨_, n, rfl, hn, hc, p.val fh _ (.int _)⟩
    · exact p.elim
  · exact p.elim
def rStr : List V → Hp → VK → Prop := fun xs H Q => (∃ i, xs = [.int i] ∧ i.natAbs.log2 < 1920 ∧ Q (.str (toString i)) H) ∨ ∃ a, xs = [.str a] ∧ Q (.str a) H
theorem call_strAny : CallR X (.type "str") rStr := call_str_int.or SkE.call_str_str
theorem sp_str : Sp1 m L rStr strD := by
  intro σ H F Q x d fh r p
  unfold strD at p
  split at p
  · obtain rfl := r.str; exact .inr ⟨_, rfl, p.val fh _ (.str _)⟩
  · obtain rfl := r.int
    obtain ⟨hc, p⟩ := p.chk
    exact .inl ⟨_, rfl, hc, p.val fh _ (.str _)⟩
  · exact p.elim
theorem sp_list : Sp1O m L (fun xs H Q => ∃ p ys, xs = [.ref p] ∧ (SqL m.K H p ys ∨ SqT m.K H p ys) ∧ ∀ l, H l = none → Q (.ref l) (upd H l (.lst ys))) listD := by
  intro σ H0 H F Q x d s0 fh r p
  unfold listD at p
  split at p
  · obtain ⟨a, vs, rfl, h1, t1⟩ := r.list fh
    exact ⟨a, vs, rfl, .inl h1, post_newL s0 fh t1 p⟩
  · obtain ⟨a, vs, rfl, h1, t1⟩ := r.tup fh
    exact ⟨a, vs, rfl, .inr h1, post_newL s0 fh t1 p⟩
  · exact p.elim
theorem sp_tuple : Sp1 m L (fun xs H Q => ∃ p ys, xs = [.ref p] ∧ ((SqL m.K H p ys ∧ ∀ l, H l = none → Q (.ref l) (upd H l (.tup ys))) ∨ (SqT m.K H p ys ∧ Q (.ref p) H))) tupleD := by
  intro σ H F Q x d fh r p
  unfold tupleD at p
  split at p
  · obtain ⟨a, vs, rfl, h1, t1⟩ := r.list fh
    exact ⟨a, vs, rfl, .inl ⟨h1, post_newT fh t1 p⟩⟩
  · obtain ⟨a, vs, rfl, h1, t1⟩ := id (r.tup fh)
    refine ⟨a, vs, rfl, .inr ⟨h1, p.val fh _ ?_⟩⟩
    rcases r with r | ⟨_, _, o⟩
    · exact r
    · exact o.elim
  · exact p.elim
theorem list_of {d : D} {ds : List D} (h : listItems d = some ds) : d = .list ds := by
  cases d <;> first | cases h | skip
  rfl
theorem sp_sum : Sp1 m L (rSum m.K) sumD := by
  intro σ H F Q x d fh r p
  unfold sumD at p
  split at p
  · rename_i ns hn
    obtain ⟨ds, h1, h2⟩ := Option.bind_eq_some_iff.mp hn
    obtain rfl := list_of h1
    obtain rfl := unInt_map h2
    obtain ⟨a, vs, rfl, h1, t1⟩ := r.list fh
    obtain rfl := t1.ints
    exact ⟨a, ns, rfl, h1, p.val fh _ (.int _)⟩
  · exact p.elim
theorem sp_all : Sp1 m L (rAll m.K) allD := by
  intro σ H F Q x d fh r p
  unfold allD at p
  split at p
  · rename_i ns hn
    obtain ⟨ds, h1, h2⟩ := Option.bind_eq_some_iff.mp hn
    obtain rfl := list_of h1
    obtain rfl := unBool_map h2
    obtain ⟨a, vs, rfl, h1, t1⟩ := r.list fh
    obtain rfl := t1.bools
    exact ⟨a, ns, rfl, h1, p.val fh _ (.bl _)⟩
  · exact p.elim
theorem sp_any : Sp1 m L (rAny m.K) anyD := by
  intro σ H F Q x d fh r p
  unfold anyD at p
  split at p
  · rename_i ns hn
    obtain ⟨ds, h1, h2⟩ := Option.bind_eq_some_iff.mp hn
    obtain rfl := list_of h1
    obtain rfl := unBool_map h2
    obtain ⟨a, vs, rfl, h1, t1⟩ := r.list fh
    obtain rfl := t1.bools
    exact ⟨a, ns, rfl, h1, p.val fh _ (.bl _)⟩
  · exact p.elim
theorem leastI_mem : ∀ {x : Int} {r : List Int}, leastI (x :: r) ∈ x :: r
  | x, [] => by simp [leastI]
  | x, y :: r => by
    have ih := leastI_mem (x := y) (r := r)
    simp only [leastI]
    rcases Int.le_total x (leastI (y :: r)) with h | h
    · rw [Int.min_eq_left h]; exact List.mem_cons_self
    · rw [Int.min_eq_right h]; exact List.mem_cons_of_mem _ ih
theorem leastI_le : ∀ {l : List Int} {y : Int}, y ∈ l → leastI l ≤ y
  | [], _, h => by cases h
  | [x], y, h => by rw [List.mem_singleton] at h; subst h; exact Int.le_refl _
  | x :: z :: r, y, h => by
    simp only [leastI]
    rcases List.mem_cons.mp h with h | h
    · subst h; exact Int.min_le_left _ _
    · exact Int.le_trans (Int.min_le_right _ _) (leastI_le h)
theorem mostI_mem : ∀ {x : Int} {r : List Int}, mostI (x :: r) ∈ x :: r
  | x, [] => by simp [mostI]
  | x, y :: r => by
    have ih := mostI_mem (x := y) (r := r)
    simp only [mostI]
    rcases Int.le_total x (mostI (y :: r)) with h | h
    · rw [Int.max_eq_right h]; exact List.mem_cons_of_mem _ ih
    · rw [Int.max_eq_left h]; exact List.mem_cons_self
theorem le_mostI : ∀ {l : List Int} {y : Int}, y ∈ l → y ≤ mostI l
  | [], _, h => by cases h
  | [x], y, h => by rw [List.mem_singleton] at h; subst h; exact Int.le_refl _
  | x :: z :: r, y, h => by
    simp only [mostI]
    rcases List.mem_cons.mp h with h | h
    · subst h; exact Int.le_max_left _ _
    · exact Int.le_trans (le_mostI h) (Int.le_max_right _ _)
theorem sp_min : Sp1 m L (rMin m.K) minD := by
  intro σ H F Q x d fh r p
  unfold minD at p
  split at p
  · rename_i n ns hn
    obtain ⟨ds, h1, h2⟩ := Option.bind_eq_some_iff.mp hn
    obtain rfl := list_of h1
    obtain rfl := unInt_map h2
    obtain ⟨a, vs, rfl, h1, t1⟩ := r.list fh
    obtain rfl := t1.ints
    refine ⟨a, n :: ns, rfl, h1, Nat.succ_pos _, fun k hk hl => ?_⟩
    have e : k = leastI (n :: ns) := Int.le_antisymm (hl _ leastI_mem) (leastI_le hk)
    rw [e]
    exact p.val fh _ (.int _)
  · exact p.elim
theorem sp_max : Sp1 m L (rMax m.K) maxD := by
  intro σ H F Q x d fh r p
  unfold maxD at p
  split at p
  · rename_i n ns hn
    obtain ⟨ds, h1, h2⟩ := Option.bind_eq_some_iff.mp hn
    obtain rfl := list_of h1
    obtain rfl := unInt_map h2
    obtain ⟨a, vs, rfl, h1, t1⟩ := r.list fh
    obtain rfl := t1.ints
    refine ⟨a, n :: ns, rfl, h1, Nat.succ_pos _, fun k hk hl => ?_⟩
    have e : k = mostI (n :: ns) := Int.le_antisymm (le_mostI hk) (hl _ mostI_mem)
    rw [e]
    exact p.val fh _ (.int _)
  · exact p.elim
theorem sp_abs : Sp1 m L (fun xs H Q => ∃ i, xs = [.int i] ∧ Q (.int (if i < 0 then -i else i)) H) absD := by
  intro σ H F Q x d fh r p
  unfold absD at p
  split at p
  · obtain rfl := r.int; exact ⟨_, rfl, p.val fh _ (.int _)⟩
  · exact p.elim

/-! ### the calls -/
section
variable {ar : List (Bool × Sem Value)}
theorem qe_len (ha : PE X a (tB m L f)) (hg : Gl X "len") (hm : X.mg "len" = none) (he : starEach (a :: []) X.env = (false, eval a X.env) :: starEach [] X.env := by rfl) (hK : X.K = m.K := by rfl) : PE X (.Call (.Name "len" p) [a] [] pos) (tE m L (eB1 lenD f)) :=
  call1 (r := fun xs H Q => ∃ x n, xs = [x] ∧ LenV X.K x H n ∧ Q (.int n) H) (by rw [hK]; exact sp_len) (pe_callB call_len hg hm boot_len (pa_cons ha pa_nil he) (he := he) (hpl := rfl))
theorem qe_int (ha : PE X a (tB m L f)) (hg : Gl X "int") (hm : X.mg "int" = none) (he : starEach (a :: []) X.env = (false, eval a X.env) :: starEach [] X.env := by rfl) : PE X (.Call (.Name "int" p) [a] [] pos) (tE m L (eB1 intD f)) :=
  call1 sp_int (pe_callTy call_intAny hg hm (by decide +kernel) (pa_cons ha pa_nil he) (he := he) (hpl := rfl))
theorem qe_str (ha : PE X a (tB m L f)) (hg : Gl X "str") (hm : X.mg "str" = none) (he : starEach (a :: []) X.env = (false, eval a X.env) :: starEach [] X.env := by rfl) : PE X (.Call (.Name "str" p) [a] [] pos) (tE m L (eB1 strD f)) :=
  call1 sp_str (pe_callTy call_strAny hg hm (by decide +kernel) (pa_cons ha pa_nil he) (he := he) (hpl := rfl))
theorem qo_list (ha : PE X a (tB m L f)) (hg : Gl X "list") (hm : X.mg "list" = none) (he : starEach (a :: []) X.env = (false, eval a X.env) :: starEach [] X.env := by rfl) (hK : X.K = m.K := by rfl) : PE X (.Call (.Name "list" p) [a] [] pos) (tO m L (eB1 listD f)) :=
  call1O (r := fun xs H Q => ∃ p ys, xs = [.ref p] ∧ (SqL X.K H p ys ∨ SqT X.K H p ys) ∧ ∀ l, H l = none → Q (.ref l) (upd H l (.lst ys))) (by rw [hK]; exact sp_list) (pe_callTy call_list_of hg hm (by decide +kernel) (pa_cons ha pa_nil he) (he := he) (hpl := rfl))
theorem qe_tuple (ha : PE X a (tB m L f)) (hg : Gl X "tuple") (hm : X.mg "tuple" = none) (he : starEach (a :: []) X.env = (false, eval a X.env) :: starEach [] X.env := by rfl) (hK : X.K = m.K := by rfl) : PE X (.Call (.Name "tuple" p) [a] [] pos) (tE m L (eB1 tupleD f)) :=
  call1 (r := fun xs H Q => ∃ p ys, xs = [.ref p] ∧ ((SqL X.K H p ys ∧ ∀ l, H l = none → Q (.ref l) (upd H l (.tup ys))) ∨ (SqT X.K H p ys ∧ Q (.ref p) H))) (by rw [hK]; exact sp_tuple) (pe_callTy call_tuple_of hg hm (by decide +kernel) (pa_cons ha pa_nil he) (he := he) (hpl := rfl))
theorem qe_sum (hc : X.calm = true) (ha : PE X a (tB m L f)) (hg : Gl X "sum") (hm : X.mg "sum" = none) (he : starEach (a :: []) X.env = (false, eval a X.env) :: starEach [] X.env := by rfl) (hK : X.K = m.K := by rfl) : PE X (.Call (.Name "sum" p) [a] [] pos) (tE m L (eB1 sumD f)) :=
  call1 (r := rSum X.K) (by rw [hK]; exact sp_sum) (pe_callB (cr_sum hc) hg hm (by decide +kernel) (pa_cons ha pa_nil he) (he := he) (hpl := rfl))
theorem qe_all (hc : X.calm = true) (ha : PE X a (tB m L f)) (hg : Gl X "all") (hm : X.mg "all" = none) (he : starEach (a :: []) X.env = (false, eval a X.env) :: starEach [] X.env := by rfl) (hK : X.K = m.K := by rfl) : PE X (.Call (.Name "all" p) [a] [] pos) (tE m L (eB1 allD f)) :=
  call1 (r := rAll X.K) (by rw [hK]; exact sp_all) (pe_callB (cr_all hc) hg hm (by decide +kernel) (pa_cons ha pa_nil he) (he := he) (hpl := rfl))
theorem qe_any (hc : X.calm = true) (ha : PE X a (tB m L f)) (hg : Gl X "any") (hm : X.mg "any" = none) (he : starEach (a :: []) X.env = (false, eval a X.env) :: starEach [] X.env := by rfl) (hK : X.K = m.K := by rfl) : PE X (.Call (.Name "any" p) [a] [] pos) (tE m L (eB1 anyD f)) :=
  call1 (r := rAny X.K) (by rw [hK]; exact sp_any) (pe_callB (cr_any hc) hg hm (by decide +kernel) (pa_cons ha pa_nil he) (he := he) (hpl := rfl))
theorem qe_min (hc : X.calm = true) (ha : PE X a (tB m L f)) (hg : Gl X "min") (hm : X.mg "min" = none) (he : starEach (a :: []) X.env = (false, eval a X.env) :: starEach [] X.env := by rfl) (hK : X.K = m.K := by rfl) : PE X (.Call (.Name "min" p) [a] [] pos) (tE m L (eB1 minD f)) :=
  call1 (r := rMin X.K) (by rw [hK]; exact sp_min) (pe_callB (cr_min hc) hg hm (by decide +kernel) (pa_cons ha pa_nil he) (he := he) (hpl := rfl))
theorem qe_max (hc : X.calm = true) (ha : PE X a (tB m L f)) (hg : Gl X "max") (hm : X.mg "max" = none) (he : starEach (a :: []) X.env = (false, eval a X.env) :: starEach [] X.env := by rfl) (hK : X.K = m.K := by rfl) : PE X (.Call (.Name "max" p) [a] [] pos) (tE m L (eB1 maxD f)) :=
  call1 (r := rMax X.K) (by rw [hK]; exact sp_max) (pe_callB (cr_max hc) hg hm (by decide +kernel) (pa_cons ha pa_nil he) (he := he) (hpl := rfl))
theorem qe_abs (ha : PE X a (tB m L f)) (hg : Gl X "abs") (hm : X.mg "abs" = none) (he : starEach (a :: []) X.env = (false, eval a X.env) :: starEach [] X.env := by rfl) : PE X (.Call (.Name "abs" p) [a] [] pos) (tE m L (eB1 absD f)) :=
  call1 sp_abs (pe_callB call_abs hg hm (by decide +kernel) (pa_cons ha pa_nil he) (he := he) (hpl := rfl))
end

/-! ### isinstance(x, T), T a built-in class -/
theorem Db.ty {H F : Hp} {x : V} {d : D} (fh : Le (m.L0 ++ L) F H) (hn : ∀ es, d ≠ .dict es) (r : Db m H F x d) : TyX m.K H x (.type (tyN d)) := by
  cases d with
  | none => obtain rfl := r.non; exact .base .non
  | bool b => obtain rfl := r.bool; exact .base (.bl _)
  | int b => obtain rfl := r.int; exact .base (.int _)
  | str b => obtain rfl := r.str; exact .base (.str _)
  | list ds =>
    obtain ⟨a, vs, rfl, (h | ⟨o, h⟩) | ⟨o, _, _, hk, hc, _⟩, t1⟩ := r.list fh
    · exact .base (.lst h)
    · exact .base (.frz h)
    · exact .kList hk hc
  | tuple ds =>
    obtain ⟨a, vs, rfl, (h | ⟨o, h⟩) | ⟨o, _, _, hk, hc, _⟩, t1⟩ := r.tup fh
    · exact .base (.tup h)
    · exact .fTuple h
    · exact .kTuple hk hc
  | dict es => exact absurd rfl (hn es)
theorem isi_of {T : String} {q : D → Bool} (hq : ∀ d, (∀ es, d ≠ .dict es) → kitB (tyN d) T = some (q d)) (h : PE X e (tCB (rIsi X.K) (tCons (tB m L f) (tCons (fun _ H Q => Q (.ty T) H) tNil)))) (hK : X.K = m.K) : PE X e (tE m L (eB1 (isiD q) f)) := PE.imp h fun σ H Q ⟨F, env, e, p⟩ =>
  tB_mono (one e p) fun x H1 ⟨F1, d, e1, x1, r, k⟩ => by
    have hn : ∀ es, d ≠ .dict es := fun es z => by subst z; exact k.elim
    have k' : Post m L σ H1 F1 (.ok (.bool (q d))) (fun d H' F' => ∀ v, Rp m.K F' v d → Q v H') := by
      cases d <;> first | exact k | exact k.elim
    rw [hK]
    exact ⟨x, .ty T, _, _, q d, rfl, .ty T, r.ty e1.fh hn, kit_ty (hq d hn), k'.val e1.fh _ (.bl _)⟩
theorem kit_int : ∀ d : D, (∀ es, d ≠ .dict es) → kitB (tyN d) "int" = some (isInt d) := fun d hn => match d with
  | .none => (by decide +kernel : kitB "NoneType" "int" = some false)
  | .bool _ => (by decide +kernel : kitB "bool" "int" = some true)
  | .int _ => (by decide +kernel : kitB "int" "int" = some true)
  | .str _ => (by decide +kernel : kitB "str" "int" = some false)
  | .list _ => (by decide +kernel : kitB "list" "int" = some false)
  | .tuple _ => (by decide +kernel : kitB "tuple" "int" = some false)
  | .dict es => absurd rfl (hn es)
theorem kit_bool : ∀ d : D, (∀ es, d ≠ .dict es) → kitB (tyN d) "bool" = some (isBool d) := fun d hn => match d with
  | .none => (by decide +kernel : kitB "NoneType" "bool" = some false)
  | .bool _ => (by decide +kernel : kitB "bool" "bool" = some true)
  | .int _ => (by decide +kernel : kitB "int" "bool" = some false)
  | .str _ => (by decide +kernel : kitB "str" "bool" = some false)
  | .list _ => (by decide +kernel : kitB "list" "bool" = some false)
  | .tuple _ => (by decide +kernel : kitB "tuple" "bool" = some false)
  | .dict es => absurd rfl (hn es)
theorem kit_tuple : ∀ d : D, (∀ es, d ≠ .dict es) → kitB (tyN d) "tuple" = some (isTup d) := fun d hn => match d with
  | .none => (by decide +kernel : kitB "NoneType" "tuple" = some false)
  | .bool _ => (by decide +kernel : kitB "bool" "tuple" = some false)
  | .int _ => (by decide +kernel : kitB "int" "tuple" = some false)
  | .str _ => (by decide +kernel : kitB "str" "tuple" = some false)
  | .list _ => (by decide +kernel : kitB "list" "tuple" = some false)
  | .tuple _ => (by decide +kernel : kitB "tuple" "tuple" = some true)
  | .dict es => absurd rfl (hn es)
theorem kit_list : ∀ d : D, (∀ es, d ≠ .dict es) → kitB (tyN d) "list" = some (isLst d) := fun d hn => match d with
  | .none => (by decide +kernel : kitB "NoneType" "list" = some false)
  | .bool _ => (by decide +kernel : kitB "bool" "list" = some false)
  | .int _ => (by decide +kernel : kitB "int" "list" = some false)
  | .str _ => (by decide +kernel : kitB "str" "list" = some false)
  | .list _ => (by decide +kernel : kitB "list" "list" = some true)
  | .tuple _ => (by decide +kernel : kitB "tuple" "list" = some false)
  | .dict es => absurd rfl (hn es)
theorem qe_isi {T : String} {x : Str} {q : D → Bool} {pt : Pos} (hq : ∀ d : D, (∀ es, d ≠ .dict es) → kitB (tyN d) T = some (q d)) (ha : PE X a (tB m L f)) (hg : Gl X "isinstance") (hm : X.mg "isinstance" = none)
    (ht : PE X (.Name x pt) (fun _ H Q => Q (.ty T) H)) (he : starEach (a :: [.Name x pt]) X.env = (false, eval a X.env) :: starEach [.Name x pt] X.env := by rfl) (he2 : starEach (.Name x pt :: []) X.env = (false, eval (.Name x pt) X.env) :: starEach [] X.env := by rfl)
    (hpl : (backTo pos (starEach [.Name x pt] X.env)).any (·.1) = false := by rfl) (hK : X.K = m.K := by rfl) : PE X (.Call (.Name "isinstance" p) [a, .Name x pt] [] pos) (tE m L (eB1 (isiD q) f)) :=
  isi_of hq (pe_callB call_isi hg hm (by decide +kernel) (pa_cons ha (pa_cons ht pa_nil he2) he) (he := he) (hpl := hpl)) hK
theorem pe_tyint {x : Str} {pt : Pos} (e : x = "int") (hg : Gl X x) (hm : X.mg x = none) : PE X (.Name x pt) (fun _ H Q => Q (.ty "int") H) := by subst e; exact pe_bltn hg hm (by decide +kernel) rfl
theorem pe_tybool {x : Str} {pt : Pos} (e : x = "bool") (hg : Gl X x) (hm : X.mg x = none) : PE X (.Name x pt) (fun _ H Q => Q (.ty "bool") H) := by subst e; exact pe_bltn hg hm (by decide +kernel) rfl
theorem pe_tytuple {x : Str} {pt : Pos} (e : x = "tuple") (hg : Gl X x) (hm : X.mg x = none) : PE X (.Name x pt) (fun _ H Q => Q (.ty "tuple") H) := by subst e; exact pe_bltn hg hm (by decide +kernel) rfl
theorem pe_tylist {x : Str} {pt : Pos} (e : x = "list") (hg : Gl X x) (hm : X.mg x = none) : PE X (.Name x pt) (fun _ H Q => Q (.ty "list") H) := by subst e; exact pe_bltn hg hm (by decide +kernel) rfl
end
end Mir

/-! MirS: statements: assignments, if, return, append, stores, for, while; comprehensions. -/
namespace Mir
open PySem PySem.Spec L2
section
variable {X : Cx} {m : M} {L : List Addr} {f g h : Env → Res D} {a b c e : Expr} {pos p : Pos} {st : Stmt} {rest : List Stmt} {G G2 : SF}
/-- a statement whose expression is frozen -/
theorem post_s {α : Type} {σ : St} {H F : Hp} {env : Env} {D : Ends} {r : Res α} {k : α → Env} (e : EnvOk m L σ H F env) (p : SPost m L F D (resOut env (r.bind fun x => .ok (k x)))) :
    Post m L σ H F r fun x H' F' => ∀ σ', EnvOk m L σ' H' F' (k x) → D.nx σ' H' := by
  cases r with
  | ok x => exact fun H' F' x' σ' e' => p σ' H' F' e' x'.ff
  | ex x => exact fun cls dd H' F' x' a => p cls dd σ H' F' (e.ext x') x'.ff a
  | no => exact p
theorem EnvOk.dcell {σ : St} {H F : Hp} {env : Env} (e : EnvOk m L σ H F env) {i : Nat} {v : V} {d : D} (r : Rp m.K F v d) : EnvOk m L (σ.set i (some v)) H F (env.set i (some (.dat d))) where
  fh := e.fh
  bh := e.bh
  f0 := e.f0
  fn := e.fn
  len := by rw [List.length_set, List.length_set, e.len]
  cells := fun j c hj => by
    by_cases q : j = i
    · subst q
      have hl : j < env.length := by
        have := (List.getElem?_eq_some_iff.mp hj).1
        rwa [List.length_set] at this
      rw [List.getElem?_set_self hl] at hj
      cases hj
      exact ⟨v, List.getElem?_set_self (by rw [← e.len]; exact hl), r⟩
    · rw [List.getElem?_set_ne (Ne.symm q)] at hj
      obtain ⟨w, hw, ok⟩ := e.cells j c hj
      exact ⟨w, by rw [List.getElem?_set_ne (Ne.symm q)]; exact hw, ok⟩
  sep := fun j k d1 d2 w hjk h1 h2 hw => by
    have nj : j ≠ i := fun q => by
      subst q
      have hl : j < env.length := by
        have := (List.getElem?_eq_some_iff.mp h1).1
        rwa [List.length_set] at this
      rw [List.getElem?_set_self hl] at h1
      cases h1
    have nk : k ≠ i := fun q => by
      subst q
      have hl : k < env.length := by
        have := (List.getElem?_eq_some_iff.mp h2).1
        rwa [List.length_set] at this
      rw [List.getElem?_set_self hl] at h2
      cases h2
    rw [List.getElem?_set_ne (Ne.symm nj)] at h1 hw
    rw [List.getElem?_set_ne (Ne.symm nk)] at h2 ⊢
    exact e.sep j k d1 d2 w hjk h1 h2 hw
/-- an own cell's address stands apart from what is new -/
theorem EnvOk.ocell {σ : St} {H F : Hp} {env : Env} (e : EnvOk m L σ H F env) {i : Nat} {x : Addr} {d : D} (hb : m.B x = none) (hf : F x = none) (o : OwnAt m.K H F x d) (hn : ∀ j d', env[j]? = some (some (.own d')) → j ≠ i → σ[j]? ≠ some (some (.ref x))) :
    EnvOk m L (σ.set i (some (.ref x))) H F (env.set i (some (.own d))) where
  fh := e.fh
  bh := e.bh
  f0 := e.f0
  fn := e.fn
  len := by rw [List.length_set, List.length_set, e.len]
  cells := fun j c hj => by
    by_cases q : j = i
    · subst q
      have hl : j < env.length := by
        have := (List.getElem?_eq_some_iff.mp hj).1
        rwa [List.length_set] at this
      rw [List.getElem?_set_self hl] at hj
      cases hj
      exact ⟨_, List.getElem?_set_self (by rw [← e.len]; exact hl), x, rfl, hb, hf, o⟩
    · rw [List.getElem?_set_ne (Ne.symm q)] at hj
      obtain ⟨w, hw, ok⟩ := e.cells j c hj
      exact ⟨w, by rw [List.getElem?_set_ne (Ne.symm q)]; exact hw, ok⟩
  sep := fun j k d1 d2 w hjk h1 h2 hw => by
    have hli : ∀ j c, (env.set i (some (Cell.own d)))[j]? = some (some c) → j = i → j < σ.length := fun j c h q => by
      have := (List.getElem?_eq_some_iff.mp h).1
      rw [List.length_set, e.len] at this
      exact this
    by_cases qj : j = i
    · have hl := hli j _ h1 qj
      subst qj
      rw [List.getElem?_set_self hl] at hw
      rw [List.getElem?_set_ne hjk] at h2 ⊢
      cases hw
      exact hn k d2 h2 (Ne.symm hjk)
    · rw [List.getElem?_set_ne (Ne.symm qj)] at h1 hw
      by_cases qk : k = i
      · have hl := hli k _ h2 qk
        subst qk
        rw [List.getElem?_set_self hl]
        intro z
        cases z
        exact hn j d1 h1 qj hw
      · rw [List.getElem?_set_ne (Ne.symm qk)] at h2 ⊢
        exact e.sep j k d1 d2 w hjk h1 h2 hw
theorem own_there {σ : St} {H F : Hp} {env : Env} (e : EnvOk m L σ H F env) {j : Nat} {d : D} {x : Addr} (h : env[j]? = some (some (.own d))) (hv : σ[j]? = some (some (.ref x))) : H x ≠ none ∧ m.B x = none ∧ F x = none ∧ OwnAt m.K H F x d := by
  obtain ⟨v, h1, a, rfl, b, f, o⟩ := e.cells j _ h
  rw [hv] at h1
  cases h1
  exact ⟨o.there, b, f, o⟩

/-! ### blocks -/
theorem qs_nil : PSs X [] (tS m L sNil) := PSs.imp pss_nil fun D σ H ⟨F, env, e, p⟩ => p σ H F e (Same.refl _)
theorem SPost.sub {F F' : Hp} {D : Ends} {o : Out} (s : Same F F') (p : SPost m L F D o) : SPost m L F' D o := by
  cases o with
  | nx env' => exact fun σ' H' F2 e' s' => p σ' H' F2 e' (s.trans s')
  | bk env' => exact fun σ' H' F2 e' s' => p σ' H' F2 e' (s.trans s')
  | ct env' => exact fun σ' H' F2 e' s' => p σ' H' F2 e' (s.trans s')
  | rt d => exact fun v H' F2 h1 h2 s' => p v H' F2 h1 h2 (s.trans s')
  | ex x env' => exact fun cls dd σ' H' F2 e' s' => p cls dd σ' H' F2 e' (s.trans s')
  | no => exact p
theorem qs_cons (h1 : PS X st (tS m L G)) (h2 : PSs X rest (tS m L G2)) : PSs X (st :: rest) (tS m L (sSeq G G2)) := PSs.imp (pss_cons h1 h2) fun D σ H ⟨F, env, e, p⟩ => by
  refine ⟨F, env, e, ?_⟩
  unfold sSeq at p
  cases q : G env with
  | nx env' => rw [q] at p; exact fun σ' H' F' e' s => ⟨F', env', e', p.sub s⟩
  | rt d => rw [q] at p; exact p
  | bk _ => rw [q] at p; exact p
  | ct _ => rw [q] at p; exact p
  | ex _ _ => rw [q] at p; exact p
  | no => rw [q] at p; exact p
theorem qs_one (h1 : PS X st (tS m L G)) : PSs X [st] (tS m L G) := PSs.imp (pss_one h1) fun D σ H q => q
theorem q_pass : PS X (.Pass pos) (tS m L sNil) := PS.imp ps_pass fun D σ H ⟨F, env, e, p⟩ => p σ H F e (Same.refl _)
theorem q_break : PS X (.Break pos) (tS m L sBreak) := PS.imp ps_break fun D σ H ⟨F, env, e, p⟩ => p σ H F e (Same.refl _)
theorem q_cont : PS X (.Continue pos) (tS m L sCont) := PS.imp ps_continue fun D σ H ⟨F, env, e, p⟩ => p σ H F e (Same.refl _)

/-! ### targets -/
/-- a target's store is the function on environments -/
def But (is : List Nat) (σ σ' : St) : Prop := σ'.length = σ.length ∧ ∀ j : Nat, j ∉ is → σ'[j]? = σ[j]?
theorem But.refl {is : List Nat} {σ : St} : But is σ σ := ⟨rfl, fun _ _ => rfl⟩
theorem But.set {is : List Nat} {σ : St} {i : Nat} {v : Option V} (h : i ∈ is) : But is σ (σ.set i v) := ⟨List.length_set, fun j hj => List.getElem?_set_ne (fun z => hj (by rw [← z]; exact h))⟩
theorem But.trans {is : List Nat} {σ σ' σ2 : St} (a : But is σ σ') (b : But is σ' σ2) : But is σ σ2 := ⟨b.1.trans a.1, fun j hj => (b.2 j hj).trans (a.2 j hj)⟩
def tG (m : M) (L : List Addr) (is : List Nat) (set : D → Env → Res Env) : TG := fun v σ H Q => ∃ F env d env', EnvOk m L σ H F env ∧ Rp m.K F v d ∧ set d env = .ok env' ∧ ∀ σ', EnvOk m L σ' H F env' → But is σ σ' → Q σ' H
theorem PG.imp {t t' : TG} (h : PG X a t) (i : ∀ v σ H Q, t' v σ H Q → t v σ H Q) : PG X a t' := ⟨fun pins s σ H v u Q I r w => h.run pins s σ H v u Q I r (i v σ H Q w)⟩
theorem qg_name {i : Nat} {x : Str} (hg : PG X (.Name x pos) (gName i)) : PG X (.Name x pos) (tG m L [i] (setV i)) := PG.imp hg fun v σ H Q ⟨F, env, d, env', e, r, hs, k⟩ => by
  cases hs
  exact k _ (e.dcell r) (.set (List.mem_singleton.mpr rfl))
/-- several names -/
def tGs (m : M) (L : List Addr) (is : List Nat) : TGs := fun vs σ H Q => ∃ F env ds env', EnvOk m L σ H F env ∧ RpAll m.K F vs ds ∧ setVs is ds env = .ok env' ∧ ∀ σ', EnvOk m L σ' H F env' → But is σ σ' → Q σ' H
theorem PGs.imp {es : List Expr} {t t' : TGs} (h : PGs X es t) (i : ∀ v σ H Q, t' v σ H Q → t v σ H Q) : PGs X es t' := ⟨fun pins s σ H v u Q I r w => h.run pins s σ H v u Q I r (i v σ H Q w)⟩
theorem qgs_nil : PGs X [] (tGs m L []) := PGs.imp pgs_nil fun vs σ H Q ⟨F, env, ds, env', e, r, hs, k⟩ => by
  cases r with
  | nil => cases hs; exact ⟨rfl, k _ e .refl⟩
  | cons _ _ => cases hs
theorem qgs_cons {i : Nat} {is : List Nat} {x : Str} {es : List Expr} (h1 : PG X (.Name x pos) (gName i)) (h2 : PGs X es (tGs m L is))
    (hs : (assignEach (.Name x pos :: es) X.env).map (·.2) = assign (.Name x pos) X.env :: (assignEach es X.env).map (·.2) := by rfl) : PGs X (.Name x pos :: es) (tGs m L (i :: is)) :=
  PGs.imp (pgs_cons h1 h2 hs) fun vs σ H Q ⟨F, env, ds, env', e, r, hs, k⟩ => by
    cases r with
    | nil => cases hs
    | @cons v vs d ds r rr => exact ⟨v, vs, rfl, F, _, ds, env', e.dcell r, rr, hs, fun σ' e' b => k σ' e' ((But.set List.mem_cons_self).trans ⟨b.1, fun j hj => b.2 j fun z => hj (List.mem_cons_of_mem _ z)⟩)⟩
theorem setVs_len : ∀ {is : List Nat} {ds : List D} {env env' : Env}, setVs is ds env = .ok env' → ds.length = is.length
  | [], [], _, _, _ => rfl
  | i :: is, d :: ds, _, _, h => by rw [List.length_cons, List.length_cons, setVs_len (is := is) (ds := ds) h]
  | [], _ :: _, _, _, h => by cases h
  | _ :: _, [], _, _, h => by cases h
theorem Rp.tup_of {K : PySem.W.Frag} {F : Hp} {v : V} {ds : List D} (h : Rp K F v (.tuple ds)) : ∃ a vs, v = .ref a ∧ SqT K F a vs ∧ RpAll K F vs ds := by
  cases h with
  | tup h t => exact ⟨_, _, rfl, h, t⟩
theorem Rp.lst_of {K : PySem.W.Frag} {F : Hp} {v : V} {ds : List D} (h : Rp K F v (.list ds)) : ∃ a vs, v = .ref a ∧ SqL K F a vs ∧ RpAll K F vs ds := by
  cases h with
  | lst h t => exact ⟨_, _, rfl, h, t⟩
theorem qg_tup {es : List Expr} {is : List Nat} {k n : Nat} (hc : X.calm = true) (hh : PGs X es (tGs m L is)) (hl : is.length = n := by rfl) (hn : (assignEach es X.env).length = n := by rfl) (hst : (assignEach es X.env).findIdx? (·.1) = none := by rfl) (hK : X.K = m.K := by rfl) :
    PG X (.Tuple es k pos) (tG m L is (setT is)) := PG.imp (pg_tup (n := n) hc hh hn hst) fun v σ H Q ⟨F, env, d, env', e, r, hs, k⟩ => by
  cases d with
  | tuple ds =>
    obtain ⟨a, vs, rfl, h1, t1⟩ := r.tup_of
    rw [hK]
    exact ⟨a, vs, rfl, Le.sqT e.fh h1, by rw [t1.length, setVs_len hs, hl], F, env, ds, env', e, t1, hs, k⟩
  | _ => cases hs
/-- target = value -/
theorem q_set {tg : Expr} {is : List Nat} {set : D → Env → Res Env} (he : PE X e (tE m L f)) (hg : PG X tg (tG m L is set)) (hx : ∀ d env x, set d env ≠ .ex x) (hs : swapsWithSole [tg] e pos.line X.env = pure false := by rfl) (hw : swappedStores [tg] e X.env = pure none := by rfl)
    (h1 : (assignEach [tg] X.env).map (·.2) = [assign tg X.env] := by rfl) : PS X (.Assign [tg] e pos) (tS m L (sSet set f)) := PS.imp (ps_asg he hg hs hw h1) fun D σ H ⟨F, env, e, p⟩ => by
  refine ⟨F, env, e, ?_⟩
  unfold sSet at p
  cases q : f env with
  | no => rw [q] at p; exact p
  | ex x => rw [q] at p; exact fun cls dd H' F' x' a => p cls dd σ H' F' (e.ext x') x'.ff a
  | ok d =>
    rw [q] at p
    intro H' F' x v r
    have p : SPost m L F D (resOut env (set d env)) := p
    cases q2 : set d env with
    | no => rw [q2] at p; exact p.elim
    | ex x => exact absurd q2 (hx d env x)
    | ok env' =>
      rw [q2] at p
      exact ⟨F', env, d, env', e.ext x, r, q2, fun σ' e' _ => p σ' H' F' e' x.ff⟩
theorem setV_nx {i : Nat} : ∀ d env x, setV i d env ≠ .ex x := fun _ _ _ h => by cases h
theorem setVs_nx : ∀ {is : List Nat} (ds : List D) (env : Env) (x : Exn), setVs is ds env ≠ .ex x
  | [], [], _, _, h => by cases h
  | i :: is, d :: ds, _, x, h => setVs_nx (is := is) ds _ x h
  | [], _ :: _, _, _, h => by cases h
  | _ :: _, [], _, _, h => by cases h
theorem setT_nx {is : List Nat} : ∀ d env x, setT is d env ≠ .ex x := fun d env x h => by
  cases d with
  | tuple ds => exact setVs_nx ds env x h
  | _ => cases h
/-- name = value, as one line writes it -/
theorem q_name {i : Nat} {x : Str} {pos' : Pos} (hh : PS X (.Assign [.Name x pos'] e pos) (tAsg (tE m L f) (gName i))) : PS X (.Assign [.Name x pos'] e pos) (tS m L (sSet (setV i) f)) := PS.imp hh fun D σ H ⟨F, env, e, p⟩ => by
  refine ⟨F, env, e, ?_⟩
  refine Post.imp (post_s (k := fun d => env.set i (some (.dat d))) e p) fun d H' F' x k v r => ?_
  exact k _ ((e.ext x).dcell r)
/-- name = a new list or dict, which the name alone holds -/
theorem q_own {i : Nat} {x : Str} {pos' : Pos} (hh : PS X (.Assign [.Name x pos'] e pos) (tAsg (tO m L f) (gName i))) : PS X (.Assign [.Name x pos'] e pos) (tS m L (sOwn i f)) := PS.imp hh fun D σ H ⟨F, env, e, p⟩ => by
  refine ⟨F, env, e, ?_⟩
  refine Post.imp (post_s (k := fun d => env.set i (some (.own d))) e p) fun d H' F' x k a ha hf o => ?_
  have e' := e.ext x
  refine k _ (e'.ocell ?_ hf o fun j d' hj _ hv => ?_)
  · exact e.bh.none ha
  · exact (own_there e hj hv).1 ha
/-- name op= value -/
theorem q_aug {i : Nat} {x : Str} {pos' : Pos} {o : Operator} {op : D → D → Res D} {ti : TIp} (hh : PS X (.AugAssign (.Name x pos') o e pos) (tAug i (tE m L f) ti))
    (sp : ∀ (σ : St) (H F : Hp) (Q : VK) (x y : V) (d1 d2 : D), Le (m.L0 ++ L) F H → Rp m.K F x d1 → Rp m.K F y d2 → Post m L σ H F (op d1 d2) (fun d H' F' => ∀ v, Rp m.K F' v d → Q v H') → ti x y H Q) :
    PS X (.AugAssign (.Name x pos') o e pos) (tS m L (sAug i op f)) := PS.imp hh fun D σ H ⟨F, env, e, p⟩ => by
  unfold sAug eVar at p
  split at p
  · rename_i d hd
    obtain ⟨v, hv, r⟩ := e.dat hd
    refine ⟨v, hv, F, env, e, ?_⟩
    have p : SPost m L F D (resOut env ((f env).bind fun y => (op d y).bind fun z => Res.ok (env.set i (some (.dat z))))) := p
    cases q : f env with
    | no => rw [q] at p; exact p
    | ex x => rw [q] at p; exact fun cls dd H' F' x' a => p cls dd σ H' F' (e.ext x') x'.ff a
    | ok y =>
      rw [q] at p
      intro H' F' x w rw'
      have p : SPost m L F D (resOut env ((op d y).bind fun z => Res.ok (env.set i (some (.dat z))))) := p
      refine sp σ H' F' _ v w d y x.fh (Rp.mono x.ff r) rw' ?_
      exact Post.imp (post_s (k := fun z => env.set i (some (.dat z))) (e.ext x) (p.sub x.ff)) fun z H2 F2 x2 k u ru => k _ (((e.ext x).ext x2).dcell ru)
  · exact p.elim
theorem sp_iadd : ∀ (σ : St) (H F : Hp) (Q : VK) (x y : V) (d1 d2 : D), Le (m.L0 ++ L) F H → Rp m.K F x d1 → Rp m.K F y d2 → Post m L σ H F (addI d1 d2) (fun d H' F' => ∀ v, Rp m.K F' v d → Q v H') → ipI (fun i j => i + j) x y H Q := by
  intro σ H F Q x y d1 d2 fh r1 r2 p
  unfold addI at p
  split at p
  · cases r1; cases r2
    exact ⟨_, _, rfl, rfl, p.val fh _ (.int _)⟩
  · exact p.elim
/-- e for its effect (a call that may raise) -/
theorem q_expr (he : PE X e (tE m L f)) (hs : swapsWith e none pos.line X.env = pure false := by rfl) : PS X (.Expr e pos) (tS m L (sExpr f)) := PS.imp (ps_expr he hs) fun D σ H ⟨F, env, e, p⟩ => by
  refine ⟨F, env, e, ?_⟩
  exact Post.imp (post_s (k := fun _ => env) e p) fun d H' F' x k v r => k _ (e.ext x)
theorem q_ret (he : PE X e (tE m L f)) : PS X (.Return (some e) pos) (tS m L (sRet f)) := PS.imp (ps_ret he) fun D σ H ⟨F, env, e, p⟩ => by
  refine ⟨F, env, e, ?_⟩
  unfold sRet at p
  cases q : f env with
  | no => rw [q] at p; exact p
  | ex x => rw [q] at p; exact fun cls dd H' F' x' a => p cls dd σ H' F' (e.ext x') x'.ff a
  | ok d =>
    rw [q] at p
    intro H' F' x v r
    have e' := e.ext x
    exact p v H' F' e'.fh e'.bh x.ff e'.fn r
theorem q_retN : PS X (.Return none pos) (tS m L sRetN) := PS.imp ps_retN fun D σ H ⟨F, env, e, p⟩ => p .non H F e.fh e.bh (Same.refl _) e.fn .non
theorem q_if {t : Env → Res Bool} {sa sb : List Stmt} (hc : PT X c (tT m L t)) (ha : PSs X sa (tS m L G)) (hb : PSs X sb (tS m L G2)) : PS X (.If c sa sb pos) (tS m L (sIf t G G2)) := PS.imp (ps_if hc ha hb) fun D σ H ⟨F, env, e, p⟩ => by
  refine ⟨F, env, e, ?_⟩
  unfold sIf at p
  cases q : t env with
  | no => rw [q] at p; exact p
  | ex x => rw [q] at p; exact fun cls dd H' F' x' a => p cls dd σ H' F' (e.ext x') x'.ff a
  | ok b =>
    rw [q] at p
    intro H' F' x
    have p : SPost m L F D (if b = true then G env else G2 env) := p
    cases b with
    | true => rw [if_pos rfl] at p; exact (iteT ⟨F', env, e.ext x, p.sub x.ff⟩ : if true = true then tS m L G D σ H' else tS m L G2 D σ H')
    | false => rw [if_neg Bool.false_ne_true] at p; exact (iteF ⟨F', env, e.ext x, p.sub x.ff⟩ : if false = true then tS m L G D σ H' else tS m L G2 D σ H')
/-- from here on the name's list may be known to others -/
theorem EnvOk.frz {σ : St} {H F : Hp} {env : Env} (i : Nat) (e : EnvOk m L σ H F env) : ∃ F', Same F F' ∧ EnvOk m L σ H F' (frzE i env) := by
  unfold frzE
  split
  · rename_i d hd
    obtain ⟨v, hv, a, rfl, hb, hf, o⟩ := e.cells i _ hd
    obtain ⟨u, hu⟩ : ∃ u, H a = some u := by
      cases z : H a with
      | none => exact absurd z o.there
      | some u => exact ⟨u, rfl⟩
    have ff : Same F (upd F a u) := Same.put hf
    refine ⟨upd F a u, ff, ?_, e.bh, e.f0.trans ff, fun b h => ?_, by rw [List.length_set, e.len], fun j c hj => ?_, fun j k d1 d2 w hjk h1 h2 hw => ?_⟩
    · intro b w h
      by_cases q : b = a
      · subst q; rw [upd_same] at h; cases h; exact .inl hu
      · rw [upd_ne q] at h; exact e.fh b w h
    · by_cases q : b = a
      · subst q; exact .inr hb
      · rw [upd_ne q] at h; exact e.fn b h
    · by_cases q : j = i
      · subst q
        have hl : j < env.length := (List.getElem?_eq_some_iff.mp hd).1
        rw [List.getElem?_set_self hl] at hj
        cases hj
        refine ⟨_, hv, o.rp (F' := upd F a u) (fun w hw => ?_) ff⟩
        rw [hu] at hw; cases hw; exact upd_same
      · rw [List.getElem?_set_ne (Ne.symm q)] at hj
        obtain ⟨w, hw, ok⟩ := e.cells j c hj
        refine ⟨w, hw, ?_⟩
        cases c with
        | exc => exact ok
        | fn _ => exact ok
        | dat d' => exact Rp.mono ff ok
        | own d' =>
          obtain ⟨x, rfl, b1, f1, o1⟩ := ok
          have nx : x ≠ a := fun z => by
            subst z
            exact e.sep j i d' d _ q hj hd hw hv
          exact ⟨x, rfl, b1, by rw [upd_ne nx]; exact f1, o1.mono (fun _ z => z) ff⟩
    · have nj : j ≠ i := fun q => by
        subst q
        rw [List.getElem?_set_self (List.getElem?_eq_some_iff.mp hd).1] at h1
        cases h1
      have nk : k ≠ i := fun q => by
        subst q
        rw [List.getElem?_set_self (List.getElem?_eq_some_iff.mp hd).1] at h2
        cases h2
      rw [List.getElem?_set_ne (Ne.symm nj)] at h1
      rw [List.getElem?_set_ne (Ne.symm nk)] at h2
      exact e.sep j k d1 d2 w hjk h1 h2 hw
  · exact ⟨F, Same.refl _, e⟩
theorem q_frz (i : Nat) (h1 : PS X st (tS m L G)) : PS X st (tS m L (sFrz i G)) := PS.imp h1 fun D σ H ⟨F, env, e, p⟩ => by
  obtain ⟨F', s, e'⟩ := e.frz i
  exact ⟨F', _, e', p.sub s⟩
/-- an own list is written -/
theorem EnvOk.put {σ : St} {H F : Hp} {env : Env} (e : EnvOk m L σ H F env) {i : Nat} {x : Addr} {d d' : D} {o : HO} (hd : env[i]? = some (some (.own d))) (hv : σ[i]? = some (some (.ref x))) (ho : OwnAt m.K (upd H x o) F x d') :
    EnvOk m L σ (upd H x o) F (env.set i (some (.own d'))) := by
  obtain ⟨tx, bx, fx, ox⟩ := own_there e hd hv
  have hl : i < env.length := (List.getElem?_eq_some_iff.mp hd).1
  refine ⟨fun b w h => ?_, fun b w h => ?_, e.f0, e.fn, by rw [List.length_set, e.len], fun j c hj => ?_, fun j k d1 d2 w hjk h1 h2 hw => ?_⟩
  · have nb : b ≠ x := fun q => by rw [q, fx] at h; cases h
    rw [upd_ne nb]
    exact e.fh b w h
  · have nb : b ≠ x := fun q => by rw [q, bx] at h; cases h
    rw [upd_ne nb]
    exact e.bh b w h
  · by_cases q : j = i
    · subst q
      rw [List.getElem?_set_self hl] at hj
      cases hj
      exact ⟨_, hv, x, rfl, bx, fx, ho⟩
    · rw [List.getElem?_set_ne (Ne.symm q)] at hj
      obtain ⟨w, hw, ok⟩ := e.cells j c hj
      refine ⟨w, hw, ?_⟩
      cases c with
      | exc => exact ok
      | fn _ => exact ok
      | dat d' => exact ok
      | own d2 =>
        obtain ⟨y, rfl, b1, f1, o1⟩ := ok
        have ny : y ≠ x := fun z => by
          subst z
          exact e.sep j i d2 d _ q hj hd hw hv
        exact ⟨y, rfl, b1, f1, o1.mono (fun o' z => by rw [upd_ne ny]; exact z) (Same.refl _)⟩
  · have back : ∀ {j : Nat} {d1 : D}, (env.set i (some (Cell.own d')))[j]? = some (some (Cell.own d1)) → ∃ d2 : D, env[j]? = some (some (Cell.own d2)) := fun {j d1} h => by
      by_cases q : j = i
      · subst q; exact ⟨d, hd⟩
      · rw [List.getElem?_set_ne (Ne.symm q)] at h; exact ⟨_, h⟩
    obtain ⟨_, h1⟩ := back h1
    obtain ⟨_, h2⟩ := back h2
    exact e.sep j k _ _ w hjk h1 h2 hw
theorem ownL_ok {env : Env} {i : Nat} {xs : List D} (h : ownL env i = .ok xs) : env[i]? = some (some (.own (.list xs))) := by
  unfold ownL at h
  split at h
  · cases h; assumption
  · cases h
theorem own_of {σ : St} {H F : Hp} {env : Env} (e : EnvOk m L σ H F env) {i : Nat} {xs : List D} (h : ownL env i = .ok xs) : ∃ a vs, σ[i]? = some (some (.ref a)) ∧ H a = some (.lst vs) ∧ RpAll m.K F vs xs := by
  obtain ⟨v, hv, a, rfl, _, _, vs, o, r⟩ := e.cells i _ (ownL_ok h)
  exact ⟨a, vs, hv, o, r⟩
/-- x.append(e) -/
theorem q_append {i : Nat} {o : Expr} {ap cp : Pos} (hh : PS X (.Expr (.Call (.Attribute o "append" ap) [e] [] cp) pos) (tDrop (tBM X.K "list" rAppend (tVar i) (tCons (tE m L f) tNil)))) :
    PS X (.Expr (.Call (.Attribute o "append" ap) [e] [] cp) pos) (tS m L (sAppend i f)) := PS.imp hh fun D σ H ⟨F, env, e, p⟩ => by
  unfold sAppend at p
  split at p
  · rename_i xs hx
    obtain ⟨a, vs, hv, ha, r⟩ := own_of e hx
    refine ⟨_, hv, .inl ⟨rfl, vs, .inl (.inl ha)⟩, F, env, e, ?_⟩
    cases q : f env with
    | no => rw [q] at p; exact p.elim
    | ex x => rw [q] at p; exact fun cls dd H' F' x' a => p cls dd σ H' F' (e.ext x') x'.ff a
    | ok y =>
      rw [q] at p
      intro H' F' x v ry
      have p : SPost m L F D (resOut env (chk (xs.length < sizeLine) (Res.ok (env.set i (some (.own (.list (xs ++ [y])))))))) := p
      by_cases hc : xs.length < sizeLine
      · rw [chk_pos hc] at p
        refine ⟨a, vs, v, rfl, rfl, x.hh _ _ ha, by rw [r.length]; exact hc, ?_⟩
        exact p _ _ F' ((e.ext x).put (ownL_ok hx) hv ⟨_, upd_same, (RpAll.mono x.ff r).append (.one ry)⟩) x.ff
      · unfold chk at p
        rw [if_neg hc] at p
        exact p.elim
  · exact p.elim
/-- x.extend(a new list) -/
theorem q_extend {i : Nat} {o : Expr} {ap cp : Pos} (hh : PS X (.Expr (.Call (.Attribute o "extend" ap) [e] [] cp) pos) (tDrop (tBM X.K "list" rExtend (tVar i) (tCons (tO m L f) tNil)))) :
    PS X (.Expr (.Call (.Attribute o "extend" ap) [e] [] cp) pos) (tS m L (sExtend i f)) := PS.imp hh fun D σ H ⟨F, env, e, p⟩ => by
  unfold sExtend at p
  split at p
  · rename_i xs hx
    obtain ⟨a, vs, hv, ha, r⟩ := own_of e hx
    refine ⟨_, hv, .inl ⟨rfl, vs, .inl (.inl ha)⟩, F, env, e, ?_⟩
    cases q : f env with
    | no => rw [q] at p; exact p.elim
    | ex x => rw [q] at p; exact fun cls dd H' F' x' a => p cls dd σ H' F' (e.ext x') x'.ff a
    | ok y =>
      rw [q] at p
      intro H' F' x b hb fb ob
      cases y with
      | list ys =>
        have p : SPost m L F D (resOut env (chk (xs.length + ys.length ≤ sizeLine) (Res.ok (env.set i (some (.own (.list (xs ++ ys)))))))) := p
        by_cases hc : xs.length + ys.length ≤ sizeLine
        · rw [chk_pos hc] at p
          obtain ⟨ws, ow, rw'⟩ := ob
          refine ⟨a, b, vs, ws, rfl, rfl, x.hh _ _ ha, ow, by rw [r.length, rw'.length]; exact hc, ?_⟩
          exact p _ _ F' ((e.ext x).put (ownL_ok hx) hv ⟨_, upd_same, (RpAll.mono x.ff r).append rw'⟩) x.ff
        · unfold chk at p
          rw [if_neg hc] at p
          exact p.elim
      | _ => exact p.elim
  · exact p.elim
/-- x[k] = v, x an own list -/
theorem q_putL {i : Nat} {o k : Expr} {tp : Pos} (hh : PS X (.Assign [.Subscript o k tp] e pos) (tAsg (tE m L f) (gSub (tVar i) (tE m L g) rSetL))) :
    PS X (.Assign [.Subscript o k tp] e pos) (tS m L (sPutL i g f)) := PS.imp hh fun D σ H ⟨F, env, e, p⟩ => by
  unfold sPutL at p
  refine ⟨F, env, e, ?_⟩
  cases q : f env with
  | no => rw [q] at p; exact p.elim
  | ex x => rw [q] at p; exact fun cls dd H' F' x' a => p cls dd σ H' F' (e.ext x') x'.ff a
  | ok y =>
    rw [q] at p
    intro H1 F1 x1 v rv
    have e1 := e.ext x1
    cases hx : ownL env i with
    | no => simp only [Res.bind, hx] at p; exact p.elim
    | ex x => exact absurd hx (by unfold ownL; split <;> exact fun h => by cases h)
    | ok xs =>
      simp only [Res.bind, hx] at p
      obtain ⟨a, vs, hv, ha, r⟩ := own_of e1 hx
      refine ⟨_, hv, F1, env, e1, ?_⟩
      cases q2 : g env with
      | no => rw [q2] at p; exact p.elim
      | ex x => rw [q2] at p; exact fun cls dd H' F' x' a => p cls dd σ H' F' (e1.ext x') (x1.ff.trans x'.ff) a
      | ok j =>
        rw [q2] at p
        intro H2 F2 x2 w rw'
        cases j with
        | int j =>
          cases rw'
          have p : SPost m L F D (resOut env (match ixN xs.length j with | some n => Res.ok (env.set i (some (.own (.list (xs.set n y))))) | none => Res.no)) := p
          cases q3 : ixN xs.length j with
          | none => rw [q3] at p; exact p.elim
          | some n =>
            rw [q3] at p
            refine ⟨a, vs, j, n, rfl, rfl, x2.hh _ _ ha, by rw [r.length]; exact q3, ?_⟩
            exact p _ _ F2 ((e1.ext x2).put (ownL_ok hx) hv ⟨_, upd_same, (RpAll.mono x2.ff r).set (Rp.mono x2.ff rv) n⟩) (x1.ff.trans x2.ff)
        | _ => exact p.elim
end
end Mir

/-! MirL: what is walked; for, while; comprehensions. -/
namespace Mir
open PySem PySem.Spec L2
def Walks (m : Ctx) (L : List Addr) (J : It) (ds : List D) (F0 : Hp) : Prop := ∀ (i : Nat) (H F : Hp), Same F0 F → Le (m.L0 ++ L) F H →
  (∀ d, ds[i]? = some d → J.go i H ∧ ∀ x H', J.yld i H x H' → ∃ F', Ext m L H F H' F' ∧ Rp m.K F' x d) ∧ (ds.length ≤ i → J.stop i H)
def tI (m : M) (L : List Addr) (it : Env → Res (List D)) : TI := fun σ H R => ∃ F env, EnvOk m L σ H F env ∧ Post m L σ H F (it env) fun ds H' F' => ∀ J, Walks m L J ds F' → R J H'
section
variable {X : Cx} {m : M} {L : List Addr} {f g h : Env → Res D} {a b c e : Expr} {pos p : Pos} {st : Stmt} {rest : List Stmt} {G G2 : SF} {tg : Expr}
theorem PI.imp {w w' : TI} (h : PI X tg a w) (i : ∀ σ H R, w' σ H R → w σ H R) : PI X tg a w' := ⟨fun pins s σ H R I q => h.run pins s σ H R I (i σ H R q)⟩
theorem piOr {w w' : TI} (h : PI X tg a w) (h' : PI X tg a w') : PI X tg a (fun σ H R => w σ H R ∨ w' σ H R) := ⟨fun pins s σ H R I q => by
  rcases q with q | q
  · exact h.run pins s σ H R I q
  · exact h'.run pins s σ H R I q⟩
theorem walks_list {ds : List D} {F0 : Hp} {l : Addr} {vs : List V} (h : SqL m.K F0 l vs) (r : RpAll m.K F0 vs ds) : Walks m L (Itl m.K l) ds F0 := fun i H F s fh => by
  have hH := Le.sqL fh (Same.sqL s h)
  refine ⟨fun d hd => ?_, fun hl => ⟨vs, hH, by rw [r.length]; exact hl⟩⟩
  obtain ⟨v, hv, rv⟩ := r.get hd
  refine ⟨⟨vs, v, hH, hv⟩, fun x H' hy => ?_⟩
  obtain ⟨rfl, y⟩ := hy
  have e := y vs hH
  rw [hv] at e
  cases e
  exact ⟨F, Ext.refl fh, Rp.mono s rv⟩
theorem walks_tup {ds : List D} {F0 : Hp} {l : Addr} {vs : List V} (h : SqT m.K F0 l vs) (r : RpAll m.K F0 vs ds) : Walks m L (Itt m.K l) ds F0 := fun i H F s fh => by
  have hH := Le.sqT fh (Same.sqT s h)
  refine ⟨fun d hd => ?_, fun hl => ⟨vs, hH, by rw [r.length]; exact hl⟩⟩
  obtain ⟨v, hv, rv⟩ := r.get hd
  refine ⟨⟨vs, v, hH, hv⟩, fun x H' hy => ?_⟩
  obtain ⟨rfl, y⟩ := hy
  have e := y vs hH
  rw [hv] at e
  cases e
  exact ⟨F, Ext.refl fh, Rp.mono s rv⟩
theorem rngL_get {lo : Int} {n i : Nat} {d : D} (h : (rngL lo n)[i]? = some d) : i < n ∧ d = .int (lo + i) := by
  unfold rngL at h
  rw [List.getElem?_map] at h
  by_cases hi : i < n
  · rw [List.getElem?_range hi] at h
    exact ⟨hi, (Option.some.inj h).symm⟩
  · rw [List.getElem?_eq_none (by simp; omega)] at h
    cases h
theorem rngL_length {lo : Int} {n : Nat} : (rngL lo n).length = n := by simp [rngL]
theorem walks_rng {lo : Int} {n : Nat} {F0 : Hp} : Walks m L (Itr lo n) (rngL lo n) F0 := fun i H F s fh => by
  refine ⟨fun d hd => ?_, fun hl => by rw [rngL_length] at hl; exact hl⟩
  obtain ⟨hi, rfl⟩ := rngL_get hd
  refine ⟨hi, fun x H' hy => ?_⟩
  obtain ⟨rfl, rfl⟩ := hy
  exact ⟨F, Ext.refl fh, .int _⟩
/-- a list or a tuple -/
theorem q_iseq (ha : PE X a (tE m L f)) (hK : X.K = m.K := by rfl) : PI X tg a (tI m L (eB1 iSeq f)) := PI.imp (piOr (pi_list ha) (pi_tup ha)) fun σ H R ⟨F, env, e, p⟩ => by
  have p : Post m L σ H F ((f env).bind iSeq) (fun ds H' F' => ∀ J, Walks m L J ds F' → R J H') := p
  have p := p.bind
  cases q : f env with
  | no => rw [q] at p; exact p.elim
  | ex x =>
    rw [q] at p
    exact .inl ⟨F, env, e, by rw [q]; exact p⟩
  | ok d =>
    rw [q] at p
    cases d with
    | list ds =>
      refine .inl ⟨F, env, e, ?_⟩
      rw [q]
      intro H' F' x v r
      obtain ⟨l, vs, rfl, h1, t1⟩ := r.lst_of
      rw [hK]
      exact ⟨l, rfl, ⟨vs, Le.sqL x.fh h1⟩, Post.val x.fh (p H' F' x) _ (walks_list h1 t1)⟩
    | tuple ds =>
      refine .inr ⟨F, env, e, ?_⟩
      rw [q]
      intro H' F' x v r
      obtain ⟨l, vs, rfl, h1, t1⟩ := r.tup_of
      rw [hK]
      exact ⟨l, rfl, ⟨vs, Le.sqT x.fh h1⟩, Post.val x.fh (p H' F' x) _ (walks_tup h1 t1)⟩
    | none => exact (p H F (Ext.refl e.fh)).elim
    | bool _ => exact (p H F (Ext.refl e.fh)).elim
    | int _ => exact (p H F (Ext.refl e.fh)).elim
    | str _ => exact (p H F (Ext.refl e.fh)).elim
    | dict _ => exact (p H F (Ext.refl e.fh)).elim
theorem q_range1 (ha : PE X a (tB m L f)) (hg : Gl X "range") (hm : X.mg "range" = none) (hs : starEach [a] X.env = [(false, eval a X.env)] := by rfl) : PI X tg (.Call (.Name "range" p) [a] [] pos) (tI m L (eB1 iRange1 f)) :=
  PI.imp (pi_range1 hg hm (pa_cons ha pa_nil (by rw [hs]; rfl)) hs) fun σ H R ⟨F, env, e, p⟩ => tB_mono (one e p) fun x H1 ⟨F1, d, e1, x1, r, q⟩ => by
    unfold iRange1 at q
    split at q
    · obtain rfl := r.int
      obtain ⟨hc, q⟩ := q.chk
      exact ⟨_, rfl, hc.1, hc.2, q.val e1.fh _ walks_rng⟩
    · exact q.elim
theorem q_range2 (ha : PE X a (tB m L f)) (hb : PE X b (tB m L g)) (hg : Gl X "range") (hm : X.mg "range" = none) (hs : starEach [a, b] X.env = [(false, eval a X.env), (false, eval b X.env)] := by rfl) (hs2 : starEach [b] X.env = [(false, eval b X.env)] := by rfl) :
    PI X tg (.Call (.Name "range" p) [a, b] [] pos) (tI m L (eB2 iRange2 f g)) :=
  PI.imp (pi_range2 hg hm (pa_cons ha (pa_cons hb pa_nil (by rw [hs2]; rfl)) (by rw [hs, hs2])) hs hs2) fun σ H R ⟨F, env, e, p⟩ => tB_mono (two e p) fun x H1 q1 => tB_mono q1 fun y H2 ⟨F2, d1, d2, e2, x2, r1, r2, q⟩ => by
    unfold iRange2 at q
    split at q
    · obtain rfl := r1.int
      obtain rfl := r2.int
      obtain ⟨hc, q⟩ := q.chk
      exact ⟨_, _, rfl, hc, q.val e2.fh _ walks_rng⟩
    · exact q.elim

/-! ### for -/
theorem q_for {iter : Expr} {body : List Stmt} {it : Env → Res (List D)} {is : List Nat} {set : D → Env → Res Env} (hp : PassesOwn (model X.prog X.w) X.A X.env X.xe) (hc : X.calm = true) (hi : PI X tg iter (tI m L it)) (hg : PG X tg (tG m L is set))
    (hx : ∀ d env x, set d env ≠ .ex x) (hb : PSs X body (tS m L G)) (hs : ∀ x, foldedSetIterable iter X.env x = pure x := by intro _; rfl) : PS X (.For tg iter body [] pos) (tS m L (sFor it set G)) :=
  PS.imp (ps_for hp hc hi hg hb hs) fun D σ H ⟨F, env, e, p⟩ => by
    refine ⟨F, env, e, ?_⟩
    unfold sFor at p
    cases q : it env with
    | no => rw [q] at p; exact p
    | ex x => rw [q] at p; exact fun cls dd H' F' x' a => p cls dd σ H' F' (e.ext x') x'.ff a
    | ok ds =>
      rw [q] at p
      intro H1 F1 x1 J w
      have p1 : SPost m L F1 D (forGo set G ds env) := SPost.sub x1.ff p
      refine ⟨fun i n σ H => ∃ F env, n = ds.length - i ∧ EnvOk m L σ H F env ∧ Same F1 F ∧ SPost m L F D (forGo set G (ds.drop i) env), ⟨_, F1, env, rfl, e.ext x1, Same.refl _, by rw [List.drop_zero]; exact p1⟩, ?_⟩
      rintro i n σ2 H2 ⟨F2, env2, rfl, e2, s2, p2⟩
      obtain ⟨go, stop⟩ := w i H2 F2 s2 e2.fh
      by_cases hi : i < ds.length
      · have hd : ds[i]? = some ds[i] := List.getElem?_eq_getElem hi
        obtain ⟨g1, g2⟩ := go _ hd
        rw [List.drop_eq_getElem_cons hi] at p2
        refine .inr ⟨g1, fun σ' H' => ∃ F env, EnvOk m L σ' H' F env ∧ Same F1 F ∧ SPost m L F D (forGo set G (ds.drop (i + 1)) env), fun σ' H' ⟨F', env', e', s', p'⟩ => ⟨ds.length - (i + 1), by omega, F', env', rfl, e', s', p'⟩, fun x H3 hy => ?_⟩
        obtain ⟨F3, x3, r3⟩ := g2 x H3 hy
        have p3 := SPost.sub x3.ff p2
        unfold forGo at p3
        cases q3 : set ds[i] env2 with
        | no => rw [q3] at p3; exact p3.elim
        | ex x => exact absurd q3 (hx _ _ _)
        | ok env3 =>
          rw [q3] at p3
          refine ⟨F3, env2, ds[i], env3, e2.ext x3, r3, q3, fun σ4 e4 _ => ⟨F3, env3, e4, ?_⟩⟩
          dsimp only at p3
          cases q4 : G env3 with
          | nx env4 => rw [q4] at p3; exact fun σ' H' F' e' s' => ⟨F', env4, e', (s2.trans x3.ff).trans s', SPost.sub s' p3⟩
          | ct env4 => rw [q4] at p3; exact fun σ' H' F' e' s' => ⟨F', env4, e', (s2.trans x3.ff).trans s', SPost.sub s' p3⟩
          | bk env4 => rw [q4] at p3; exact p3
          | rt d => rw [q4] at p3; exact p3
          | ex x env4 => rw [q4] at p3; exact p3
          | no => rw [q4] at p3; exact p3
      · have hl : ds.length ≤ i := Nat.le_of_not_lt hi
        refine .inl ⟨stop hl, ?_⟩
        rw [List.drop_eq_nil_of_le hl] at p2
        exact p2 σ2 H2 F2 e2 (Same.refl _)
/-- while, with the number of its turns at most -/
theorem q_while {body : List Stmt} {t : Env → Res Bool} (fuel : Env → Nat) (hp : PassesOwn (model X.prog X.w) X.A X.env X.xe) (hc : PT X c (tT m L t)) (hb : PSs X body (tS m L G)) : PS X (.While c body [] pos) (tS m L (sWhile fuel t G)) :=
  PS.imp (ps_while hp hc hb) fun D σ H ⟨F, env, e, p⟩ => by
    refine ⟨fun k σ H => ∃ F env, EnvOk m L σ H F env ∧ SPost m L F D (whileGo t G k env), ⟨fuel env, F, env, e, p⟩, ?_⟩
    rintro k σ2 H2 ⟨F2, env2, e2, p2⟩
    refine ⟨F2, env2, e2, ?_⟩
    cases k with
    | zero => exact p2.elim
    | succ k =>
      unfold whileGo at p2
      cases q : t env2 with
      | no => rw [q] at p2; exact p2
      | ex x => rw [q] at p2; exact fun cls dd H' F' x' a => p2 cls dd σ2 H' F' (e2.ext x') x'.ff a
      | ok b =>
        rw [q] at p2
        intro H3 F3 x3
        dsimp only at p2 ⊢
        have p3 := SPost.sub x3.ff p2
        cases b with
        | true =>
          rw [if_pos rfl] at p3 ⊢
          refine ⟨fun σ' H' => ∃ F env, EnvOk m L σ' H' F env ∧ SPost m L F D (whileGo t G k env), fun σ' H' h => ⟨k, Nat.lt_succ_self k, h⟩, F3, env2, e2.ext x3, ?_⟩
          cases q4 : G env2 with
          | nx env4 => rw [q4] at p3; exact fun σ' H' F' e' s' => ⟨F', env4, e', SPost.sub s' p3⟩
          | ct env4 => rw [q4] at p3; exact fun σ' H' F' e' s' => ⟨F', env4, e', SPost.sub s' p3⟩
          | bk env4 => rw [q4] at p3; exact p3
          | rt d => rw [q4] at p3; exact p3
          | ex x env4 => rw [q4] at p3; exact p3
          | no => rw [q4] at p3; exact p3
        | false =>
          rw [if_neg Bool.false_ne_true] at p3 ⊢
          exact p3 σ2 H3 F3 (e2.ext x3) (Same.refl _)

/-! ### comprehensions -/
abbrev M.quiet (m : M) : M := ⟨m.toCtx, fun _ _ _ _ => False⟩
theorem EnvOk.unset {σ : St} {H F : Hp} {env : Env} (e : EnvOk m L σ H F env) (i : Nat) : EnvOk m L (σ.set i none) H F (env.set i none) where
  fh := e.fh
  bh := e.bh
  f0 := e.f0
  fn := e.fn
  len := by rw [List.length_set, List.length_set, e.len]
  cells := fun j c hj => by
    have q : j ≠ i := fun q => by
      subst q
      by_cases hl : j < env.length
      · rw [List.getElem?_set_self hl] at hj; cases hj
      · rw [List.getElem?_eq_none (by rw [List.length_set]; omega)] at hj; cases hj
    rw [List.getElem?_set_ne (Ne.symm q)] at hj ⊢
    exact e.cells j c hj
  sep := fun j k d1 d2 w hjk h1 h2 hw => by
    have no : ∀ {j : Nat} {d : D}, (env.set i none)[j]? = some (some (Cell.own d)) → j ≠ i := fun {j d} hj q => by
      subst q
      by_cases hl : j < env.length
      · rw [List.getElem?_set_self hl] at hj; cases hj
      · rw [List.getElem?_eq_none (by rw [List.length_set]; omega)] at hj; cases hj
    have nj := no h1
    have nk := no h2
    rw [List.getElem?_set_ne (Ne.symm nj)] at h1 hw
    rw [List.getElem?_set_ne (Ne.symm nk)] at h2 ⊢
    exact e.sep j k d1 d2 w hjk h1 h2 hw
theorem EnvOk.wipe {σ : St} {H F : Hp} {env : Env} (e : EnvOk m L σ H F env) : ∀ vs : List Nat, EnvOk m L (L2.wipe σ vs) H F (wipeE vs env)
  | [] => e
  | v :: vs => (EnvOk.wipe e vs).unset v
theorem wipe_get {σ : St} {j : Nat} : ∀ {vs : List Nat}, j ∉ vs → (L2.wipe σ vs)[j]? = σ[j]?
  | [], _ => rfl
  | v :: vs, h => by
    show ((L2.wipe σ vs).set v none)[j]? = _
    rw [List.getElem?_set_ne (fun z => h (by rw [← z]; exact List.mem_cons_self)), wipe_get fun z => h (List.mem_cons_of_mem _ z)]
theorem wipe_in {σ : St} {j : Nat} (hl : j < σ.length) : ∀ {vs : List Nat}, j ∈ vs → (L2.wipe σ vs)[j]? = some none
  | v :: vs, h => by
    show ((L2.wipe σ vs).set v none)[j]? = _
    by_cases q : v = j
    · subst q
      exact List.getElem?_set_self (by rw [wipe_length]; exact hl)
    · rw [List.getElem?_set_ne q]
      exact wipe_in hl ((List.mem_cons.mp h).resolve_left (Ne.symm q))
theorem wipe_but {vs is : List Nat} {σ σ' : St} (hi : ∀ j ∈ is, j ∈ vs) (b : But is (L2.wipe σ vs) σ') : L2.wipe σ' vs = L2.wipe σ vs := by
  apply List.ext_getElem?
  intro j
  have hl : σ'.length = σ.length := b.1.trans (wipe_length _ _)
  by_cases h : j ∈ vs
  · by_cases hj : j < σ.length
    · rw [wipe_in (by rw [hl]; exact hj) h, wipe_in hj h]
    · rw [List.getElem?_eq_none (by rw [wipe_length]; omega), List.getElem?_eq_none (by rw [wipe_length]; omega)]
  · rw [wipe_get h, b.2 j fun z => h (hi j z)]
def tTs (m : M) (L : List Addr) (t : Env → Res Bool) : TT := tT m L t
theorem Post.nox {α : Type} {σ : St} {H F : Hp} {r : Res α} {k : α → Hp → Hp → Prop} (p : Post m L σ H F (Mir.nox r) k) : Post m.quiet L σ H F r k := by
  cases r with
  | ok x => exact p
  | ex x => exact p.elim
  | no => exact p
theorem Res.bind_assoc {α β γ : Type} (r : Res α) (g : α → Res β) (h : β → Res γ) : (r.bind g).bind h = r.bind fun x => (g x).bind h := by
  cases r <;> rfl
theorem Ext.put {H F H' F' : Hp} (x : Ext m L H F H' F') {a : Addr} {o : HO} (ha : H a = none) (fa : F' a = none) : Ext m L H F (upd H' a o) F' where
  hh := fun b u h => by
    have nb : b ≠ a := fun q => by rw [q, ha] at h; cases h
    rw [upd_ne nb]
    exact x.hh b u h
  ff := x.ff
  fh := fun b u h => by
    have nb : b ≠ a := fun q => by rw [q, fa] at h; cases h
    rw [upd_ne nb]
    exact x.fh b u h
  fn := x.fn
theorem Ext.free {H F H' F' : Hp} (x : Ext m L H F H' F') {a : Addr} (ha : H a ≠ none) (fa : F a = none) : F' a = none := by
  cases q : F' a with
  | none => rfl
  | some u =>
    rcases x.fn a (by rw [q]; exact fun z => by cases z) with h | h
    · exact absurd fa h
    · exact absurd h ha
/-- the list that a comprehension makes: A holds what is made so far -/
theorem lc_of {is vs : List Nat} {set : D → Env → Res Env} {t : Env → Res Bool} {it : Env → Res (List D)} {σ : St} {H F : Hp} {env : Env} {Q : VK} (hi : ∀ j ∈ is, j ∈ vs) (e : EnvOk m L σ H F env)
    (p : Post m L σ H F (eLc it vs set t f env) (fun d H' F' => ∀ a, H a = none → F' a = none → OwnAt m.K H' F' a d → Q (.ref a) H')) :
    tLc (tI m L it) (tG m.quiet L is set) (tT m.quiet L t) (tE m.quiet L f) vs σ H Q := by
  have p : Post m L σ H F ((it env).bind fun xs => (lcGo set t f (wipeE vs env) xs []).bind fun ys => .ok (.list ys)) (fun d H' F' => ∀ a, H a = none → F' a = none → OwnAt m.K H' F' a d → Q (.ref a) H') := p
  refine ⟨F, env, e, p.bind.imp fun ds H1 F1 x1 p1 J w => ?_⟩
  intro A hA
  have e1 := e.ext x1
  generalize hK : (fun (d : D) (H' F' : Hp) => ∀ a, H a = none → F' a = none → OwnAt m.K H' F' a d → Q (.ref a) H') = Kk at p1
  refine ⟨fun i n H2 => ∃ F2 acc vacc, n = ds.length - i ∧ Ext m L H1 F1 H2 F2 ∧ H2 A = some (.lst vacc) ∧ F2 A = none ∧ RpAll m.K F2 vacc acc ∧
      Post m L σ H1 F1 ((lcGo set t f (wipeE vs env) (ds.drop i) acc).bind fun ys => Res.ok (PyData.list ys)) Kk,
    ⟨ds.length, F1, [], [], rfl, Ext.newO x1.fh hA, upd_same, x1.fh.none hA, .nil, by rw [List.drop_zero]; exact p1⟩, ?_⟩
  rintro i n H2 ⟨F2, acc, vacc, rfl, x2, ha, fa, ra, p2⟩
  obtain ⟨go, stop⟩ := w i H2 F2 x2.ff x2.fh
  by_cases hlt : i < ds.length
  · have hd : ds[i]? = some ds[i] := List.getElem?_eq_getElem hlt
    obtain ⟨g1, g2⟩ := go _ hd
    rw [List.drop_eq_getElem_cons hlt] at p2
    unfold lcGo at p2
    rw [Res.bind_assoc] at p2
    refine .inr ⟨g1, fun H' => ∃ F2 acc vacc, Ext m L H1 F1 H' F2 ∧ H' A = some (.lst vacc) ∧ F2 A = none ∧ RpAll m.K F2 vacc acc ∧
      Post m L σ H1 F1 ((lcGo set t f (wipeE vs env) (ds.drop (i + 1)) acc).bind fun ys => Res.ok (PyData.list ys)) Kk, fun H' ⟨F', acc', vacc', h1, h2, h3, h4, h5⟩ => ⟨ds.length - (i + 1), by omega, F', acc', vacc', rfl, h1, h2, h3, h4, h5⟩, fun x H3 hy => ?_⟩
    obtain ⟨F3, x3, r3⟩ := g2 x H3 hy
    have ew : EnvOk m L (L2.wipe σ vs) H3 F3 (wipeE vs env) := ((e1.ext x2).ext x3).wipe vs
    have hA2 : H2 A ≠ none := by rw [ha]; exact fun z => by cases z
    have hA3 : H3 A = some (.lst vacc) := x3.hh _ _ ha
    have fa3 : F3 A = none := x3.free hA2 fa
    cases q1 : set ds[i] (wipeE vs env) with
    | no => rw [q1] at p2; exact p2.elim
    | ex x => rw [q1] at p2; exact p2.elim
    | ok env3 =>
      rw [q1] at p2
      have p2 : Post m L σ H1 F1 (((nox (t env3)).bind fun b => if b = true then (nox (f env3)).bind fun y => chk (acc.length < sizeLine) (lcGo set t f (wipeE vs env) (ds.drop (i + 1)) (acc ++ [y])) else lcGo set t f (wipeE vs env) (ds.drop (i + 1)) acc).bind fun ys => Res.ok (PyData.list ys)) Kk := p2
      refine ⟨F3, wipeE vs env, ds[i], env3, ew, r3, q1, fun σ4 e4 b4 => ⟨wipe_but hi b4, F3, env3, e4, ?_⟩⟩
      cases q2 : t env3 with
      | no => rw [q2] at p2; exact p2.elim
      | ex x => rw [q2] at p2; exact p2.elim
      | ok b =>
        rw [q2] at p2
        intro H5 F5 x5
        have hA5 : H5 A = some (.lst vacc) := x5.hh _ _ hA3
        have fa5 : F5 A = none := x5.free (by rw [hA3]; exact fun z => by cases z) fa3
        have x15 : Ext m L H1 F1 H5 F5 := (x2.trans x3).trans x5
        cases b with
        | false =>
          refine iteF ⟨F5, acc, vacc, x15, hA5, fa5, RpAll.mono (x3.ff.trans x5.ff) ra, ?_⟩
          exact p2
        | true =>
          refine iteT ⟨F5, env3, e4.ext x5, ?_⟩
          have p2 : Post m L σ H1 F1 (((nox (f env3)).bind fun y => chk (acc.length < sizeLine) (lcGo set t f (wipeE vs env) (ds.drop (i + 1)) (acc ++ [y]))).bind fun ys => Res.ok (PyData.list ys)) Kk := p2
          cases q3 : f env3 with
          | no => rw [q3] at p2; exact p2.elim
          | ex x => rw [q3] at p2; exact p2.elim
          | ok y =>
            rw [q3] at p2
            have p2 : Post m L σ H1 F1 ((chk (acc.length < sizeLine) (lcGo set t f (wipeE vs env) (ds.drop (i + 1)) (acc ++ [y]))).bind fun ys => Res.ok (PyData.list ys)) Kk := p2
            have hc : acc.length < sizeLine := Classical.byContradiction fun hc => by
              unfold chk at p2
              rw [if_neg hc] at p2
              exact p2
            rw [chk_pos hc] at p2
            intro H6 F6 x6 v rv
            have hA6 : H6 A = some (.lst vacc) := x6.hh _ _ hA5
            have fa6 : F6 A = none := x6.free (by rw [hA5]; exact fun z => by cases z) fa5
            refine ⟨vacc, hA6, by rw [ra.length]; exact hc, F6, acc ++ [y], vacc ++ [v], (x15.trans x6).put hA fa6, upd_same, fa6, (RpAll.mono ((x3.ff.trans x5.ff).trans x6.ff) ra).append (.one rv), p2⟩
  · have hl : ds.length ≤ i := Nat.le_of_not_lt hlt
    rw [List.drop_eq_nil_of_le hl] at p2
    refine .inl ⟨stop hl, ?_⟩
    have p2 : Post m L σ H1 F1 (Res.ok (PyData.list acc)) Kk := p2
    subst hK
    exact p2 H2 F2 x2 A (x1.hh.free hA) fa ⟨vacc, ha, ra⟩
theorem qo_lc {is vs : List Nat} {set : D → Env → Res Env} {t : Env → Res Bool} {it : Env → Res (List D)} (hh : PE X e (tLc (tI m L it) (tG m.quiet L is set) (tT m.quiet L t) (tE m.quiet L f) vs)) (hi : ∀ j ∈ is, j ∈ vs) :
    PE X e (tO m L (eLc it vs set t f)) := PE.imp hh fun σ H Q ⟨F, env, e, p⟩ => lc_of hi e p
/-- name = [..] on one line -/
theorem q_ownLc {i : Nat} {x : Str} {pos' : Pos} {is vs : List Nat} {set : D → Env → Res Env} {t : Env → Res Bool} {it : Env → Res (List D)} (hh : PS X (.Assign [.Name x pos'] e pos) (tAsg (tLc (tI m L it) (tG m.quiet L is set) (tT m.quiet L t) (tE m.quiet L f) vs) (gName i))) (hi : ∀ j ∈ is, j ∈ vs) :
    PS X (.Assign [.Name x pos'] e pos) (tS m L (sOwn i (eLc it vs set t f))) := q_own (PS.imp hh fun D σ H ⟨F, env, e, p⟩ => lc_of hi e p)
theorem qtt_yes : tT m.quiet L tYesB = tT m.quiet L tYesB := rfl
theorem pts_yes : PTs X [] (tT m.quiet L tYesB) := ⟨fun pins s σ H Q I ⟨F, env, e, p⟩ => pts_nil.run pins s σ H Q I (p H F (Ext.refl e.fh))⟩
end
end Mir

/-! MirC: the promise of a def whose mirror is G; a def keeps it by its body; calls. -/
namespace Mir
open PySem PySem.Spec L2
/-- called with what stands for ds, the def answers what stands for G ds; what stood is as it was -/
def spD (K : PySem.W.Frag) (cl : Nm) (G : List D → Res D) : Sp := fun vs H Q E => ∃ L F ds, Le L F H ∧ RpAll K F vs ds ∧
  Post ⟨⟨K, cl, L, H, F, none⟩, fun cls d _ H' => E cls d H'⟩ [] [] H F (G ds) fun d H' F' => ∀ v, Rp K F' v d → Q v H'
section
variable {P : Program} {w : World} {K : PySem.W.Frag} {mg : Str → Option Value} {base : Heap} {cl : Nm}
theorem Ext.conv {m m' : Ctx} {L L' : List Addr} {H F H' F' : Hp} (x : Ext m L H F H' F') (h : ∀ a ∈ m.L0 ++ L, a ∈ m'.L0 ++ L') : Ext m' L' H F H' F' := ⟨x.hh, x.ff, x.fh.mono h, x.fn⟩
theorem spD_len {n ps : Nat} {g : SF} {vs : List V} {H : Hp} {Q : VK} {E : XK} (h : spD K cl (mkF n ps g) vs H Q E) : vs.length = ps := by
  obtain ⟨L, F, ds, _, r, p⟩ := h
  unfold mkF at p
  rw [r.length]
  exact p.chk.1
theorem startE_ok {m : Ctx} {N : List Str} {vs : List V} {ds : List D} (h : Le m.L0 m.F0 m.B) (r : RpAll m.K m.F0 vs ds) : EnvOk m [] (L2.start N vs) m.B m.F0 (startE N.length ds) := by
  have hlen := r.length
  have get : ∀ (i : Nat) (c : Cell), (startE N.length ds)[i]? = some (some c) → ∃ d, ds[i]? = some d ∧ c = .dat d := fun i c hc => by
    unfold startE at hc
    by_cases hi : i < ds.length
    · rw [List.getElem?_append_left (by rw [List.length_map]; exact hi), List.getElem?_map, List.getElem?_eq_getElem hi] at hc
      exact ⟨ds[i], List.getElem?_eq_getElem hi, by cases hc; rfl⟩
    · rw [List.getElem?_append_right (by rw [List.length_map]; omega), List.getElem?_replicate] at hc
      split at hc <;> cases hc
  refine ⟨by rw [List.append_nil]; exact h, Le.refl, Same.refl _, fun a h => .inl h, ?_, fun i c hc => ?_, fun i j d e v _ h1 => ?_⟩
  · unfold startE L2.start
    simp only [List.length_append, List.length_map, List.length_replicate]
    omega
  · obtain ⟨d, hd, rfl⟩ := get i c hc
    obtain ⟨v, hv, rv⟩ := r.get hd
    refine ⟨v, ?_, rv⟩
    unfold L2.start
    have hi := (List.getElem?_eq_some_iff.mp hv).1
    rw [List.getElem?_append_left (by rw [List.length_map]; exact hi), List.getElem?_map, hv]
    rfl
  · obtain ⟨d', _, z⟩ := get i _ h1
    cases z
/-- a def's promise, as HandS has it, where besides no repr is under way (guards) -/
structure FnG (P : Program) (w : World) (K : PySem.W.Frag) (mg : Str → Option Value) (base : Heap) (k : Nat) (f : Addr) (fd : FuncData) (ps : List Str) (sp : Sp) : Prop where
  count : ∀ vs H Q E, sp vs H Q E → vs.length = ps.length
  runs : ∀ (A : Around) (outer : List PySem.Env) (s : Shared) (H : Hp) (args : Args) (us : List Value) (vs : List V) (Q : VK) (E : XK), Room k A → A.guards = some [] → Env0 P w K mg base A outer s H →
    BindsTo s fd args (ps.zip us) → Vals vs us → sp vs H Q E → codeAny (model P w) A (.call (.ref f) args) (CR (L2.CX P w) outer P w H s Q E) s
theorem FnG.up {j k : Nat} {f : Addr} {fd : FuncData} {ps : List Str} {sp : Sp} (F : FnG P w K mg base j f fd ps sp) (h : j ≤ k) : FnG P w K mg base k f fd ps sp :=
  ⟨F.count, fun A outer s H args us vs Q E r g => F.runs A outer s H args us vs Q E (r.mono h) g⟩
theorem FnG.imp {k : Nat} {f : Addr} {fd : FuncData} {ps : List Str} {sp sp' : Sp} (F : FnG P w K mg base k f fd ps sp) (h : ∀ vs H Q E, sp' vs H Q E → sp vs H Q E) : FnG P w K mg base k f fd ps sp' :=
  ⟨fun vs H Q E z => F.count vs H Q E (h vs H Q E z), fun A outer s H args us vs Q E r g e b v z => F.runs A outer s H args us vs Q E r g e b v (h vs H Q E z)⟩
/-- from the body's walk to the promise -/
theorem fng_of {x qual : Str} {params : Arguments} {body : List Stmt} {scope : Scope} {kws : List (Str × V)} {f : Addr} {fd : FuncData} {N ps : List Str} {k : Nat} {sp : Sp} (F : FunD K x qual params body scope [] kws f fd) (S : FnScope N ps scope)
    (count : ∀ vs H Q E, sp vs H Q E → vs.length = ps.length)
    (walk : ∀ (cdv : Value) (A : Around) (outer : List PySem.Env) (s : Shared) (H : Hp) (vs : List V) (Q : VK) (E : XK), Room k (A.deeper (PyProof.Rows.envOfC qual scope s.heap.objs.size f cdv)) → A.guards = some [] → sp vs H Q E →
      ∃ t, PSs (cxOf (L2.CX P w) P w K mg base N qual scope f cdv A outer s H E) body t ∧ t { nx := fun _ H' => Q .non H', rt := Q } (L2.start N vs) H) : FnG P w K mg base (k + 1) f fd ps sp := by
  obtain ⟨oc, od, dV, kV, doc, pm, an, cdv, ct, osl, rfl, lk, hcd, _, _⟩ := F.ex -- here
  refine ⟨count, fun A outer s H args us vs Q E room hgd e0 binds rel want => ?_⟩
  have many := count _ _ _ _ want
  have kin : K.In s.heap := e0.mod.kin.keeps fun b o z => And.left (e0.bs b o z)
  have lim : s.heap.NoLimit := e0.mod.nolimit.keeps fun b o z => And.left (e0.bs b o z)
  have kinds : ∀ y ∈ ps.zip us, scope.names.lookup y.1 = some .local ∨ (scope.names.lookup y.1 = some .cell ∧ ((cellsFrom (s.heap.objs.size + 1) scope.names []).lookup y.1).isSome = true) := by
    rintro ⟨n, v⟩ hy
    exact (S.par n (List.of_mem_zip hy).1).imp id fun q => ⟨q, PySem.W.cellsFrom_some _ _ _ (.inl q)⟩
  refine codeAny_call_function room.depth (kin _ _ lk) rfl S.co S.gen rfl (PySem.W.codeRec_of kin hcd) (binds _ _ _ _ (wpAny_newFunctionEnv_cells S.kind kinds fun env he s1 made => ?_))
  subst he
  refine ⟨lim.keeps made.toInCall.keep, codeAny_func ?_⟩
  obtain ⟨t, tree, reading⟩ := walk cdv A outer s H vs Q E (room.deeper _) hgd want
  have I0 : Inv (cxOf (L2.CX P w) P w K mg base N qual scope f cdv A outer s H E) [] (L2.start N vs) H s1 := inv_start S room.hd e0 many rel made
  refine wpAny_mono (tree.run [] s1 (L2.start N vs) H _ I0 reading) (fun fl s' ends => ?_) fun e s' z => z
  have ended : ∀ {σ' : St} {H' : Hp} {v : V} {u : Value}, Inv (cxOf (L2.CX P w) P w K mg base N qual scope f cdv A outer s H E) [] σ' H' s' → RelV v u → Q v H' → CE outer P w H s Q u s' := by
    intro σ' H' v u J rv q
    exact ⟨v, H', J.os, J.bare, J.base, J.hok, rv, q⟩
  cases fl with
  | ret u => exact match ends with | ⟨v, σ', H', J, rv, q⟩ => ended J rv q
  | next => exact match ends with | ⟨σ', H', J, q⟩ => ended (v := V.non) (u := Value.none) J rfl q
  | brk => exact match ends with | ⟨_, _, _, q⟩ => q.elim
  | cont => exact match ends with | ⟨_, _, _, q⟩ => q.elim
/-- THE RULE for a def -/
theorem fn_ok {x qual : Str} {params : Arguments} {body : List Stmt} {scope : Scope} {kws : List (Str × V)} {f : Addr} {fd : FuncData} {N ps : List Str} {k : Nat} {g : SF} (F : FunD K x qual params body scope [] kws f fd) (S : FnScope N ps scope)
    (hb : ∀ (cdv : Value) (A : Around) (outer : List PySem.Env) (s : Shared) (H : Hp) (E : XK) (L0 : List Addr) (B F0 : Hp), Room k (A.deeper (PyProof.Rows.envOfC qual scope s.heap.objs.size f cdv)) → A.guards = some [] →
      PSs (cxOf (L2.CX P w) P w K mg base N qual scope f cdv A outer s H E) body (tS ⟨⟨K, cl, L0, B, F0, none⟩, fun cls d _ H' => E cls d H'⟩ [] g)) :
    FnG P w K mg base (k + 1) f fd ps (spD K cl (mkF N.length ps.length g)) := by
  refine fng_of F S (fun vs H Q E h => spD_len h) fun cdv A outer s H vs Q E hr hgd h => ?_
  obtain ⟨L, F0, ds, fh, r, p⟩ := h
  unfold mkF at p
  obtain ⟨hl, p⟩ := p.chk
  refine ⟨_, hb cdv A outer s H E L H F0 hr hgd, F0, startE N.length ds, startE_ok (m := ⟨K, cl, L, H, F0, none⟩) fh r, ?_⟩
  have fin : ∀ {H' F' : Hp}, Le (L ++ []) F' H' → Le [] H H' → Same F0 F' → (∀ a, F' a ≠ none → F0 a ≠ none ∨ H a = none) → Ext ⟨K, cl, L, H, F0, none⟩ [] H F0 H' F' := fun h1 h2 h3 h4 => ⟨h2.to_same, h3, h1, h4⟩
  cases q : g (startE N.length ds) with
  | nx env' => rw [q] at p; exact fun σ' H' F' e' s' => p H' F' (fin e'.fh e'.bh s' e'.fn) .non .non
  | rt d => rw [q] at p; exact fun v H' F' h1 h2 h3 h4 r => p H' F' (fin h1 h2 h3 h4) v r
  | bk _ => rw [q] at p; exact p.elim
  | ct _ => rw [q] at p; exact p.elim
  | ex x' _ => rw [q] at p; exact fun cls dd σ' H' F' e' s' a => p cls dd H' F' (fin e'.fh e'.bh s' e'.fn) a
  | no => rw [q] at p; exact p.elim
end

/-! ### calls -/
section
variable {X : Cx} {m : M} {L : List Addr} {k : Nat} {f : Addr} {fd : FuncData} {ps ks : List Str} {x : Str} {p pos : Pos} {e : Expr} {es : List Expr} {kws : List Keyword} {fs gs : Env → Res (List D)} {G : List D → Res D}
theorem post_call {σ : St} {H F : Hp} {env : Env} {vs : List V} {ds : List D} {Q : VK} (e : EnvOk m L σ H F env) (r : RpAll m.K F vs ds) (q : Post m L σ H F (G ds) fun d H' F' => ∀ v, Rp m.K F' v d → Q v H') :
    spD m.K m.cl G vs H Q (fun cls d H' => m.W cls d σ H') := by
  refine ⟨m.L0 ++ L, F, ds, e.fh, r, ?_⟩
  cases h : G ds with
  | ok d => rw [h] at q; exact fun H' F' x => q H' F' (x.conv fun a ha => by simpa using ha)
  | ex y => rw [h] at q; exact fun cls dd H' F' x a => q cls dd H' F' (x.conv fun a ha => by simpa using ha) a
  | no => rw [h] at q; exact q
/-- f(e, ..) -/
def tCallG (sp : Sp) (W : WX) (t : TA) : TE := fun σ H Q => t σ H fun vs H1 => sp vs H1 Q (WE W σ)
theorem pe_callG {sp : Sp} {t : TA} (F : FnG X.prog X.w X.K X.mg X.base k f fd ps sp) (hr : Room k X.A) (hgd : X.A.guards = some []) (hg : Gl X x) (hm : X.mg x = some (.ref f)) (hk : PySem.W.keepIn X.K (.ref f) = true) (hb : Binds X.K fd ps []) (tk : Takes X m.W) (ha : PA X (e :: es) t)
    (hdb : (x == ("__debug__" : Str)) = false := by decide) (he : starEach (e :: es) X.env = (false, eval e X.env) :: starEach es X.env := by rfl) (hpl : (backTo pos (starEach es X.env)).any (·.1) = false := by rfl) : PE X (.Call (.Name x p) (e :: es) [] pos) (tCallG sp m.W t) := by
  constructor
  intro pins s σ H Q I want
  refine wpAny_Call_Name_kw (ld_glob I hg hm (PySem.W.callWith_K (h₀ := X.base) I.ok.mod.kin hk (thn (ha.run pos pins s σ H _ I want) fun us s1 got => ?_) he hpl) hdb)
  obtain ⟨vs, H1, I1, rel, q⟩ := got
  refine ⟨I1.kIn, ?_⟩
  have many : us.length = ps.length := rel.length.symm.trans (F.count _ _ _ _ q)
  have b := hb s1 us I1.kIn (by rw [List.append_nil]; exact many)
  rw [List.append_nil] at b
  refine wpAny_call (codeAny_mono (F.runs X.A X.stack s1 H1 ⟨us, []⟩ us vs Q (WE m.W σ) hr hgd I1.env0 b rel q) fun r s' z => ?_)
  rcases r with e | (v | _ | _ | _)
  · exact passAt tk σ pins H1 s1 e s' I1 z
  all_goals first | exact I1.after z | exact z.elim
/-- what a caller knows of a def of the text -/
structure Has (P : Program) (w : World) (K : PySem.W.Frag) (mg : Str → Option Value) (base : Heap) (cl : Nm) (k : Nat) (x : Str) (ps : List Str) (G : List D → Res D) : Prop where
  ex : ∃ f fd, mg x = some (.ref f) ∧ PySem.W.keepIn K (.ref f) = true ∧ Binds K fd ps [] ∧ FnG P w K mg base k f fd ps (spD K cl G)
theorem qe_call (h : Has X.prog X.w X.K X.mg X.base m.cl k x ps G) (hr : Room k X.A) (hgd : X.A.guards = some []) (hg : Gl X x) (tk : Takes X m.W) (ha : PA X (e :: es) (tA m L fs)) (hdb : (x == ("__debug__" : Str)) = false := by decide)
    (he : starEach (e :: es) X.env = (false, eval e X.env) :: starEach es X.env := by rfl) (hpl : (backTo pos (starEach es X.env)).any (·.1) = false := by rfl) (hK : X.K = m.K := by rfl) : PE X (.Call (.Name x p) (e :: es) [] pos) (tE m L (eB1 G fs)) := by
  obtain ⟨f, fd, hm, hk, hb, F⟩ := h.ex
  exact PE.imp (pe_callG F hr hgd hg hm hk hb tk ha hdb he hpl) fun σ H Q ⟨F, env, e, p⟩ => tA_mono (oneA e p) fun vs H1 ⟨F1, ds, e1, x1, r, q⟩ => by
    rw [hK]
    exact post_call e1 r q
/-- the keywords' values -/
theorem PK.imp {t t' : TA} (h : PK X kws t) (i : ∀ σ H Q, t' σ H Q → t σ H Q) : PK X kws t' := ⟨fun pos pins s σ H Q I w => h.run pos pins s σ H Q I (i σ H Q w)⟩
theorem qk_nil : PK X [] (tA m L eNil) := PK.imp pk_nil fun σ H Q ⟨F, env, e, p⟩ => p.ret e [] .nil
theorem qk_cons {nm : Option Str} {kpos : Pos} {g : Env → Res D} (ha : PE X e (tE m L g)) (hr : PK X kws (tA m L gs)) : PK X (⟨nm, e, kpos⟩ :: kws) (tA m L (eCons g gs)) :=
  PK.imp (pk_cons ha hr) fun σ H Q ⟨F, env, e, p⟩ => by
    refine ⟨F, env, e, (Post.bind p).imp fun d1 H1 F1 x1 p1 v1 r1 => ?_⟩
    refine ⟨F1, env, e.ext x1, (Post.bind p1).imp fun ds H2 F2 x2 p2 vs rs => ?_⟩
    exact Post.val x2.fh p2 _ (.cons (Rp.mono x2.ff r1) rs)
def tCallNS (n j : Nat) (sp : Sp) (gV : List V → List V → List V) (E : St → XK) (t tk : TA) : TE := fun σ H Q => t σ H fun vs H1 => tk σ H1 fun zs H2 => vs.length = n ∧ zs.length = j ∧ sp (gV vs zs) H2 Q (E σ)
theorem pe_callNS {n : Nat} {sp : Sp} {t tk' : TA} {g : List Value → List Value → List Value} {gV : List V → List V → List V} (F : FnG X.prog X.w X.K X.mg X.base k f fd ps sp) (hr : Room k X.A) (hgd : X.A.guards = some []) (hg : Gl X x) (hm : X.mg x = some (.ref f)) (hk : PySem.W.keepIn X.K (.ref f) = true) (hb : KBn X.K fd ps n ks g gV) (tk : Takes X m.W)
    (ha : PA X (e :: es) t) (hkw : PK X kws tk') (hall : (backToKw pos (keywordEach kws X.env)).all (·.1.isSome) = true := by rfl) (hks : (backToKw pos (keywordEach kws X.env)).filterMap (·.1) = ks := by rfl) (hdb : (x == ("__debug__" : Str)) = false := by decide) (he : starEach (e :: es) X.env = (false, eval e X.env) :: starEach es X.env := by rfl)
    (hpl : ((backTo pos (starEach (e :: es) X.env)).any (·.1) || (backToKw pos (keywordEach kws X.env)).any (·.1.isNone)) = false := by rfl) : PE X (.Call (.Name x p) (e :: es) kws pos) (tCallNS n ks.length sp gV (WE m.W) t tk') := by
  constructor
  intro pins s σ H Q I want
  refine wpAny_Call_Name_kw (ld_glob I hg hm (PySem.W.callWith_KW (h₀ := X.base) I.ok.mod.kin hk hall (thn (ha.run pos pins s σ H _ I want) fun us s1 got => ?_) hpl he) hdb)
  obtain ⟨vs, H1, I1, rel, q⟩ := got
  refine thn (hkw.run pos pins s1 σ H1 _ I1 q) fun ws s2 got2 => ?_
  obtain ⟨zs, H2, I2, relz, l1, l2, q2⟩ := got2
  refine ⟨I2.kIn, ?_⟩
  rw [hks]
  refine wpAny_call (codeAny_mono (F.runs X.A X.stack s2 H2 ⟨us, ks.zip ws⟩ (g us ws) (gV vs zs) Q (WE m.W σ) hr hgd I2.env0 (hb.to s2 us ws I2.kIn (rel.length.symm.trans l1) (relz.length.symm.trans l2)) (hb.rel rel relz) q2) fun r s' z => ?_)
  rcases r with e | (v | _ | _ | _)
  · exact passAt tk σ pins H2 s2 e s' I2 z
  all_goals first | exact I2.after z | exact z.elim
/-- the values of the parameters: the positional ones, then the keywords' in the order of the parameters -/
def kwArgs (n j : Nat) (gD : List D → List D → List D) (fs gs : Env → Res (List D)) : Env → Res (List D) := fun e => (fs e).bind fun xs => (gs e).bind fun ys => chk (xs.length = n ∧ ys.length = j) (.ok (gD xs ys))
/-- .. of a def that is called with keywords ks behind n values -/
structure HasK (P : Program) (w : World) (K : PySem.W.Frag) (mg : Str → Option Value) (base : Heap) (cl : Nm) (k : Nat) (x : Str) (ps : List Str) (n : Nat) (ks : List Str) (g : List Value → List Value → List Value) (gV : List V → List V → List V) (G : List D → Res D) : Prop where
  ex : ∃ f fd, mg x = some (.ref f) ∧ PySem.W.keepIn K (.ref f) = true ∧ KBn K fd ps n ks g gV ∧ FnG P w K mg base k f fd ps (spD K cl G)
/-- f(e, .., k = v, ..) -/
theorem qe_callK {n : Nat} {g : List Value → List Value → List Value} {gV : List V → List V → List V} {gD : List D → List D → List D} (h : HasK X.prog X.w X.K X.mg X.base m.cl k x ps n ks g gV G) (hr : Room k X.A) (hgd : X.A.guards = some []) (hg : Gl X x) (tk : Takes X m.W)
    (hD : ∀ {K : PySem.W.Frag} {F : Hp} {vs zs : List V} {ds es : List D}, RpAll K F vs ds → RpAll K F zs es → RpAll K F (gV vs zs) (gD ds es))
    (ha : PA X (e :: es) (tA m L fs)) (hkw : PK X kws (tA m L gs)) (hall : (backToKw pos (keywordEach kws X.env)).all (·.1.isSome) = true := by rfl) (hks : (backToKw pos (keywordEach kws X.env)).filterMap (·.1) = ks := by rfl)
    (hdb : (x == ("__debug__" : Str)) = false := by decide) (he : starEach (e :: es) X.env = (false, eval e X.env) :: starEach es X.env := by rfl) -- here
    (hpl : ((backTo pos (starEach (e :: es) X.env)).any (·.1) || (backToKw pos (keywordEach kws X.env)).any (·.1.isNone)) = false := by rfl) (hK : X.K = m.K := by rfl) :
    PE X (.Call (.Name x p) (e :: es) kws pos) (tE m L (eB1 G (kwArgs n ks.length gD fs gs))) := by
  obtain ⟨f, fd, hm, hk, hb, F⟩ := h.ex
  refine PE.imp (pe_callNS F hr hgd hg hm hk hb tk ha hkw hall hks hdb he hpl) fun σ H Q ⟨F, env, e, p⟩ => ?_
  have p : Post m L σ H F (((fs env).bind fun xs => (gs env).bind fun ys => chk (xs.length = n ∧ ys.length = ks.length) (Res.ok (gD xs ys))).bind G) (fun d H' F' => ∀ v, Rp m.K F' v d → Q v H') := p
  rw [Res.bind_assoc] at p
  refine ⟨F, env, e, (Post.bind p).imp fun ds H1 F1 x1 p1 vs rs => ?_⟩
  rw [Res.bind_assoc] at p1
  refine ⟨F1, env, e.ext x1, (Post.bind p1).imp fun es H2 F2 x2 p2 zs rz => ?_⟩
  have hc : ds.length = n ∧ es.length = ks.length := Classical.byContradiction fun hc => by
    unfold chk at p2
    rw [if_neg hc] at p2
    exact p2
  rw [chk_pos hc] at p2
  have p2 : Post m L σ H2 F2 (G (gD ds es)) (fun d H' F' => ∀ v, Rp m.K F' v d → Q v H') := p2
  have rs := RpAll.mono x2.ff rs
  refine ⟨by rw [rs.length]; exact hc.1, by rw [rz.length]; exact hc.2, ?_⟩
  rw [hK]
  exact post_call ((e.ext x1).ext x2) (hD rs rz) p2
/-- what a comprehension lets out: nothing -/
theorem takesQ {X : Cx} {m : M} : Takes X m.quiet.W := takes0
end
end Mir

/-! MirE: the end: from the law's mirror, which answers True, to the row. -/
namespace Mir
open PySem PySem.Spec L2
section
variable {P : Program} {w : World} {K : PySem.W.Frag} {mg mb : Str → Option Value} {k : Nat} {fa a : Addr} {fd : FuncData} {x : Str} {cl : Nm} {G : List D → Res D} {s₁ : Shared} {vs : List Value} {ns : List Int}
/-- the law's promise: the script comes, True goes -/
def spTrue (K : PySem.W.Frag) (G : List D → Res D) : Sp := fun vs H Q _ => ∃ (a : Addr) (ns : List Int), vs = [.ref a] ∧ SqL K H a (ns.map V.int) ∧ G [.list (ns.map .int)] = .ok (.bool true) ∧ ∀ H', Q (.bl true) H'
theorem spTrue_of : ∀ vs H Q E, spTrue K G vs H Q E → spD K cl G vs H Q E := by
  rintro vs H Q E ⟨a, ns, rfl, h, e, q⟩
  refine ⟨[], H, [.list (ns.map .int)], Le.refl, .cons (.lst h RpAll.of_ints) .nil, ?_⟩
  rw [e]
  intro H' F' x' v r
  cases r
  exact q H'
/-- at the heap behind the top, the part H of it told -/
theorem run_at {H : Hp} (only : Only H) (script : SqL K H a (ns.map V.int)) (told : HOk P w H s₁.heap) (there : ∀ b, H b ≠ none → b = a) (apart : H a ≠ none → K.lookup a = none) (KX : K.In s₁.heap) (hns : s₁.heap.Ns mainGlobals mg) (hb : s₁.heap.Ns builtinsNs mb)
    (hbb : ∀ x : Str, x ≠ "__name__" → mb x = bootBuiltins x) (hlim : s₁.heap.NoLimit) (hg : s₁.gens = #[]) (ha : s₁.heap.get? a = some { cls := .type "list", data := .seq vs.toArray }) (hr : Room k callerA)
    (F : ∀ base : Heap, K.In base → base.Ns mainGlobals mg → FnG P w K mg base k fa fd [x] (spTrue K G)) (bind : ∀ (s : Shared) (u : Value), BindsTo s fd ⟨[u], []⟩ [(x, u)]) (true_ : G [.list (ns.map .int)] = .ok (.bool true)) :
    codeAny (model P w) callerA (.call (.ref fa) ⟨[.ref a], []⟩) (fun r s' => r = .ok (.ret (.bool true)) ∧ OldK s₁.heap s'.heap ∧ s'.os = s₁.os ∧ PyProof.Rows.AllBare s'.gens) s₁ := by
  have stays : ∀ {b : Addr} {o : Obj}, s₁.heap.get? b = some o → H b = none → (hidT s₁.heap H).get? b = some o := hidT_get
  have dictsOut : ∀ {b : Addr} {o : Obj} {es : Array DictEntry} {ep : Nat}, s₁.heap.get? b = some o → o.data = .dict es ep → H b = none := by
    intro b o es ep e d
    cases q : H b with
    | none => rfl
    | some u =>
      obtain rfl : b = a := there b (by rw [q]; exact fun z => by cases z)
      rw [ha] at e
      cases e
      cases (show Data.seq vs.toArray _ = Data.dict es ep from d)
  have names : ∀ {b : Addr} {m : Str → Option Value}, s₁.heap.Ns b m → (hidT s₁.heap H).Ns b m := fun {b m} n => match n with | ⟨o, es, ep, e, d, r⟩ => ⟨o, es, ep, stays e (dictsOut e d), d, r⟩
  have written : K.In (hidT s₁.heap H) := by
    intro b o e
    refine stays (KX b o e) ?_
    cases q : H b with
    | none => rfl
    | some u =>
      obtain rfl : b = a := there b (by rw [q]; exact fun z => by cases z)
      rw [apart (by rw [q]; exact fun z => by cases z)] at e
      cases e
  have facts : Mod K mg (hidT s₁.heap H) := ⟨written, names hns, ⟨mb, names hb, hbb⟩, match hlim with | ⟨mc, h1, h2⟩ => ⟨mc, names h1, h2⟩⟩
  have e0 : Env0 P w K mg (hidT s₁.heap H) callerA [] s₁ H := ⟨rfl, facts, fun b o e => of_hidT e, Nat.le_of_eq (hidT_size _ _), trivial, fun b z => (by cases z), told, .of_eq hg⟩
  refine codeAny_mono ((F _ written (names hns)).runs callerA [] s₁ H ⟨[.ref a], []⟩ [.ref a] [.ref a] (fun v _ => v = .bl true) (fun _ _ _ => False) hr rfl e0 (bind s₁ (.ref a)) (.cons rfl .nil) ⟨a, ns, rfl, script, true_, fun _ => rfl⟩) fun r s' z => ?_
  rcases r with e | (_ | _ | _ | u)
  · obtain ⟨_, _, _, _, _, _, _, _, _, _, _, _, z⟩ := z
    exact z.elim
  iterate 3 exact z.elim
  · obtain ⟨v, H', os, bare, un, ok', rel, q⟩ := z
    cases (show v = .bl true from q)
    obtain rfl : u = Value.bool true := rel
    refine ⟨rfl, OldK.of_keep fun b o e => ?_, os, bare⟩ -- here
    cases q : H b with
    | none => exact un.keep b o e q (fun z => by cases z) (fun z => by cases z)
    | some u =>
      rcases only b with z | ⟨ob, xs, z⟩
      · rw [q] at z
        cases z
      · have e1 := (told b _ z).1
        rw [e] at e1
        cases e1
        exact (ok' b _ (un.frzs b _ _ z)).1
theorem vals_of_script : ∀ {vs : List Value} {ns : List Int}, PyProof.Rows.IntsAre vs ns → Vals (ns.map V.int) vs
  | _, _, .nil => .nil
  | _, _, .cons n t h => .cons ⟨t, rfl⟩ (vals_of_script h)
theorem run_law (KX : K.In s₁.heap) (hns : s₁.heap.Ns mainGlobals mg) (hb : s₁.heap.Ns builtinsNs mb) (hbb : ∀ x : Str, x ≠ "__name__" → mb x = bootBuiltins x) (hlim : s₁.heap.NoLimit) (hg : s₁.gens = #[])
    (ha : s₁.heap.get? a = some { cls := .type "list", data := .seq vs.toArray }) (hi : PyProof.Rows.IntsAre vs ns) (hl : ns.length ≤ sizeLine) (hr : Room k callerA) (F : ∀ base : Heap, K.In base → base.Ns mainGlobals mg → FnG P w K mg base k fa fd [x] (spTrue K G))
    (bind : ∀ (s : Shared) (u : Value), BindsTo s fd ⟨[u], []⟩ [(x, u)]) (true_ : G [.list (ns.map .int)] = .ok (.bool true)) :
    codeAny (model P w) callerA (.call (.ref fa) ⟨[.ref a], []⟩) (fun r s' => r = .ok (.ret (.bool true)) ∧ OldK s₁.heap s'.heap ∧ s'.os = s₁.os ∧ PyProof.Rows.AllBare s'.gens) s₁ := by
  have rel := vals_of_script hi
  have many := hi.length
  cases hk : K.lookup a with
  | some o =>
    have e := KX a o hk
    rw [ha] at e
    cases e
    have none_ : HOk P w (fun _ => none) s₁.heap := fun b u z => by cases (show (none : Option HO) = some u from z)
    exact run_at (H := fun _ => none) (fun _ => .inl rfl) (.inr ⟨_, vs.toArray, _, hk, rfl, rfl, rfl, by rw [List.size_toArray, many]; exact hl, by simpa using rel⟩) none_ (fun b z => absurd rfl z) (fun z => absurd rfl z) KX hns hb hbb hlim hg ha hr F bind true_
  | none =>
    let H : Hp := fun b => if b = a then some (.frz { cls := .type "list", data := .seq vs.toArray } (.lst (ns.map V.int))) else none
    have at_ : H a = some (.frz { cls := .type "list", data := .seq vs.toArray } (.lst (ns.map V.int))) := if_pos rfl
    have off : ∀ {b}, b ≠ a → H b = none := fun h => if_neg h
    refine run_at (H := H) (fun b => ?_) (.inl (.inr ⟨_, at_⟩)) (fun b u z => ?_) (fun b z => Classical.byContradiction fun h => z (off h)) (fun _ => hk) KX hns hb hbb hlim hg ha hr F bind true_
    · by_cases h : b = a
      · exact .inr ⟨_, _, by rw [h]; exact at_⟩
      · exact .inl (off h)
    · by_cases h : b = a
      · subst h
        rw [at_] at z
        cases z
        exact ⟨ha, by rw [List.length_map]; exact hl, vs, _, rel, ha⟩
      · rw [off h] at z
        cases z
end
/-- the goal that k_head leaves -/
theorem end_of {l : PySem.W.OpenLaw} {n k : Nat} {q : Program} {loose : List Str} {XP : (Str → Option Value) → Heap → Prop} {YP : World → Heap → Prop} {d : DefRec} {K : Params → PySem.W.Frag} {G : List D → Res D} {x : Str}
    (hn : l.most = some n) (hn2 : n ≤ sizeLine) (hdf : d.params.defaults = []) (hr : Room k callerA) (hY : ∀ (w : World) (h : Heap), YP w h → (K w.params).In h) -- here
    (F : ∀ (w : World) (mg : Str → Option Value) (fa : Addr) (h : Heap), (K w.params).In h → h.Ns mainGlobals mg → mg d.name = some (.ref fa) → -- here
      ∃ fd : FuncData, (∀ (s : Shared) (u : Value), BindsTo s fd ⟨[u], []⟩ [(x, u)]) ∧ ∀ base : Heap, (K w.params).In base → base.Ns mainGlobals mg → FnG l.prog w (K w.params) mg base k fa fd [x] (spTrue (K w.params) G))
    (true_ : ∀ ns : List Int, ns.length ≤ n → G [.list (ns.map .int)] = .ok (.bool true)) : PySem.W.WalkO q loose XP YP l.row.toRowW d [] (fun f vs => PySem.call f vs) := by
  refine Att.attach_call hn hdf fun w s₀ s₁ mg mb fa o pm cd doc a vs ns Gd Y ho hd hcd hmg hobj hints hlen hg => ?_
  have KX := hY w _ Y
  obtain ⟨fd, hb, hF⟩ := F w mg fa _ KX Gd.T.g hmg
  exact run_law KX Gd.T.g Gd.T.b Gd.T.builtins Gd.T.nolimit hg hobj hints (Nat.le_trans hlen hn2) hr hF hb (true_ ns hlen)
end Mir

/-! MirD: in, index; enumerate, zip; split, join; repr; sorted. -/
namespace Mir
open PySem PySem.Spec L2 RZ
section
variable {X : Cx} {m : M} {L : List Addr} {f g h : Env → Res D} {a b c e : Expr} {pos p : Pos} {k : Nat}
/-! ### in -/
theorem Db.flat {H F : Hp} {x : V} {d : D} (r : Db m H F x d) (h : flatD d = true) : flatV x = true := by
  cases d with
  | none => obtain rfl := r.non; rfl
  | bool _ => obtain rfl := r.bool; rfl
  | int _ => obtain rfl := r.int; rfl
  | str _ => obtain rfl := r.str; rfl
  | list _ => cases h
  | tuple _ => cases h
  | dict _ => cases h
theorem Rp.flatV {K : PySem.W.Frag} {F : Hp} {x : V} {d : D} (r : Rp K F x d) (h : flatD d = true) : L2.flatV x = true := by
  cases r <;> first | rfl | exact absurd h (by simp [flatD])
theorem eqv_V {K : PySem.W.Frag} {F F' : Hp} {x y : V} {d e : D} (hx : flatD d = true) (hy : flatD e = true) (r : Rp K F x d) (q : Rp K F' y e) : eqV y x = PyData.eqv e d := by
  cases r <;> cases q <;> first | rfl | exact absurd hx (by simp [flatD]) | exact absurd hy (by simp [flatD])
theorem inV_eq {K : PySem.W.Frag} {F F' : Hp} {x : V} {d : D} (hd : flatD d = true) (r : Rp K F' x d) : ∀ {vs : List V} {ds : List D}, ds.all flatD = true → RpAll K F vs ds → inV x vs = inList d ds ∧ vs.all flatV = true
  | _, _, _, .nil => ⟨rfl, rfl⟩
  | _, _, ha, .cons q t => by
    rw [List.all_cons, Bool.and_eq_true] at ha -- here
    obtain ⟨h1, h2⟩ := inV_eq hd r ha.2 t
    have e1 := eqv_V hd ha.1 r q
    refine ⟨?_, ?_⟩
    · unfold inV inList at h1 ⊢
      rw [List.any_cons, List.any_cons, h1, e1]
    · rw [List.all_cons, h2, Bool.and_true]
      exact Rp.flatV q ha.1
theorem Db.frozen {H F : Hp} {x : V} {d : D} (h : flatD d = true) (r : Db m H F x d) : Rp m.K F x d := by
  rcases r with r | ⟨_, _, o⟩
  · exact r
  · cases d with
    | list _ => cases h
    | dict _ => cases h
    | none => exact o.elim
    | bool _ => exact o.elim
    | int _ => exact o.elim
    | str _ => exact o.elim
    | tuple _ => exact o.elim
def rInSign : R2 := fun x y H Q => ∃ (c : Nat) (z : Str), x = .str ⟨#[c]⟩ ∧ y = .str z ∧ Q (.bl (decide (c ∈ z.cps.toList))) H
def rNotInSign : R2 := fun x y H Q => ∃ (c : Nat) (z : Str), x = .str ⟨#[c]⟩ ∧ y = .str z ∧ Q (.bl (!decide (c ∈ z.cps.toList))) H
def rInAny (K : PySem.W.Frag) : R2 := fun x y H Q => rInD K x y H Q ∨ rIn K false x y H Q ∨ rInSign x y H Q
def rNotInAny (K : PySem.W.Frag) : R2 := fun x y H Q => rNotInD K x y H Q ∨ rIn K true x y H Q ∨ rNotInSign x y H Q
theorem units65 (hr : Room k X.A) : X.A.units + 65 < cLine := by have := hr.un; omega
theorem op_inAny (hu : X.A.units + 200 < cLine) : OpR X (compareOp .In) (rInAny X.K) := (op_inD (u65 hu)).or (op_in_seq.or op_in_sign)
theorem op_notInAny (hu : X.A.units + 200 < cLine) : OpR X (compareOp .NotIn) (rNotInAny X.K) := (op_notInD (u65 hu)).or (op_notIn_seq.or op_notIn_sign)
theorem Db.dpL {H F : Hp} {y : V} {ds : List D} (fh : Le (m.L0 ++ L) F H) (h : SeqAt.shaped (.list ds) = true) (r : Db m H F y (.list ds)) : Dp m.K H y (.list ds) := r.dp fh (noDict_of_shaped h)
theorem sp_in : Sp2B m L (rInAny m.K) inD := by
  intro σ H F Q x y d1 d2 fh r1 r2 p
  unfold inD at p
  split at p
  · obtain ⟨⟨h1, h2⟩, p⟩ := p.chk
    exact .inl ⟨d1, _, r1.dp fh (noDict_of_shaped h1), r2.dpL fh h2, h1, h2, p.val fh⟩
  · obtain ⟨⟨h1, h2⟩, p⟩ := p.chk
    obtain ⟨a, vs, rfl, h, t⟩ := r2.tup fh
    obtain ⟨e1, e2⟩ := inV_eq h1 (r1.frozen h1) h2 t
    refine .inr (.inl ⟨a, vs, rfl, .inr h, r1.flat h1, e2, ?_⟩)
    show Q (.bl (inV x vs)) H
    rw [e1]
    exact p.val fh
  · split at p
    · obtain rfl := r1.str
      obtain rfl := r2.str
      exact .inr (.inr ⟨_, _, rfl, rfl, p.val fh⟩)
    · exact p.elim
  · exact p.elim
theorem sp_notIn : Sp2B m L (rNotInAny m.K) notInD := by
  intro σ H F Q x y d1 d2 fh r1 r2 p
  unfold notInD inD at p
  split at p
  · have p := p.bind
    obtain ⟨⟨h1, h2⟩, p⟩ := p.chk
    exact .inl ⟨d1, _, r1.dp fh (noDict_of_shaped h1), r2.dpL fh h2, h1, h2, (p.val fh).val fh⟩
  · have p := p.bind
    obtain ⟨⟨h1, h2⟩, p⟩ := p.chk
    obtain ⟨a, vs, rfl, h, t⟩ := r2.tup fh
    obtain ⟨e1, e2⟩ := inV_eq h1 (r1.frozen h1) h2 t
    refine .inr (.inl ⟨a, vs, rfl, .inr h, r1.flat h1, e2, ?_⟩)
    show Q (.bl (!inV x vs)) H
    rw [e1]
    exact (p.val fh).val fh
  · split at p
    · obtain rfl := r1.str
      obtain rfl := r2.str
      exact .inr (.inr ⟨_, _, rfl, rfl, p.val fh⟩)
    · exact p.elim
  · exact p.elim
theorem qt_in (hu : X.A.units + 200 < cLine) (ha : PE X a (tB m L f)) (hb : PE X b (tB m L g)) (hm : behindInMarks .In b = false := by rfl) (hK : X.K = m.K := by rfl) : PT X (.Compare a [.In] [b] pos) (tT m L (eB2 inD f g)) := bin_ofT (r := rInAny X.K) (by rw [hK]; exact sp_in) (pt_cmpR (op_inAny hu) ha hb hm)
theorem qt_notIn (hu : X.A.units + 200 < cLine) (ha : PE X a (tB m L f)) (hb : PE X b (tB m L g)) (hm : behindInMarks .NotIn b = false := by rfl) (hK : X.K = m.K := by rfl) : PT X (.Compare a [.NotIn] [b] pos) (tT m L (eB2 notInD f g)) := bin_ofT (r := rNotInAny X.K) (by rw [hK]; exact sp_notIn) (pt_cmpR (op_notInAny hu) ha hb hm)
theorem qv_in (hu : X.A.units + 200 < cLine) (ha : PE X a (tB m L f)) (hb : PE X b (tB m L g)) (hm : behindInMarks .In b = false := by rfl) (hK : X.K = m.K := by rfl) : PE X (.Compare a [.In] [b] pos) (tE m L (vB (eB2 inD f g))) := bin_ofV (r := rInAny X.K) (by rw [hK]; exact sp_in) (pe_cmpR (op_inAny hu) ha hb hm)
theorem qv_notIn (hu : X.A.units + 200 < cLine) (ha : PE X a (tB m L f)) (hb : PE X b (tB m L g)) (hm : behindInMarks .NotIn b = false := by rfl) (hK : X.K = m.K := by rfl) : PE X (.Compare a [.NotIn] [b] pos) (tE m L (vB (eB2 notInD f g))) := bin_ofV (r := rNotInAny X.K) (by rw [hK]; exact sp_notIn) (pe_cmpR (op_notInAny hu) ha hb hm)

/-! ### enumerate, zip -/
theorem enumL_get : ∀ {ds : List D} {j i : Nat} {d : D}, (enumL j ds)[i]? = some d → ∃ x, ds[i]? = some x ∧ d = .tuple [.int ((j + i : Nat) : Int), x]
  | [], _, _, _, h => by simp [enumL] at h
  | x :: r, j, 0, d, h => by
    simp only [enumL, List.getElem?_cons_zero, Option.some.injEq] at h
    exact ⟨x, rfl, h.symm⟩
  | x :: r, j, i + 1, d, h => by
    simp only [enumL, List.getElem?_cons_succ] at h
    obtain ⟨y, h1, h2⟩ := enumL_get h
    exact ⟨y, by simpa using h1, by rw [h2]; congr 3; push_cast; omega⟩
theorem enumL_length : ∀ {ds : List D} {j : Nat}, (enumL j ds).length = ds.length
  | [], _ => rfl
  | _ :: r, j => by simp only [enumL, List.length_cons, enumL_length (ds := r)]
theorem rp_pair {H F : Hp} {T : Addr} {x y : V} {d e : D} (fh : Le (m.L0 ++ L) F H) (hT : H T = none) (r : Rp m.K F x d) (q : Rp m.K F y e) : ∃ F', Ext m L H F (upd H T (.tup [x, y])) F' ∧ Rp m.K F' (.ref T) (.tuple [d, e]) :=
  ⟨_, Ext.new fh hT, .tup (.inl (.inl upd_same)) (RpAll.mono (Same.put (fh.none hT)) (.cons r (.cons q .nil)))⟩
theorem walks_enum {ds : List D} {F0 : Hp} {l : Addr} {vs : List V} (h : SqL m.K F0 l vs) (r : RpAll m.K F0 vs ds) : Walks m L (Ite m.K l) (enumL 0 ds) F0 := fun i H F s fh => by
  have hH := Le.sqL fh (Same.sqL s h)
  refine ⟨fun d hd => ?_, fun hl => ⟨vs, hH, by rw [enumL_length] at hl; rw [r.length]; exact hl⟩⟩
  obtain ⟨x, hx, rfl⟩ := enumL_get hd
  obtain ⟨v, hv, rv⟩ := r.get hx
  refine ⟨⟨vs, v, hH, hv⟩, fun y H' hy => ?_⟩
  obtain ⟨T, y', rfl, hT, rfl, k⟩ := hy
  have e := k vs hH
  rw [hv] at e
  cases e
  obtain ⟨F', x', r'⟩ := rp_pair (L := L) fh hT (.int (i : Nat)) (Rp.mono s rv)
  rw [Nat.zero_add]
  exact ⟨F', x', r'⟩
theorem q_enum {elts : List Expr} {kk : Nat} {tpos : Pos} (ha : PE X a (tE m L f)) (hg : Gl X "enumerate") (hm : X.mg "enumerate" = none) (hs : starEach [a] X.env = [(false, eval a X.env)] := by rfl) (hK : X.K = m.K := by rfl) :
    PI X (.Tuple elts kk tpos) (.Call (.Name "enumerate" p) [a] [] pos) (tI m L (eB1 Mir.iEnum f)) :=
  PI.imp (pi_enum hg hm (pa_cons ha pa_nil (by rw [hs]; rfl)) hs) fun σ H R ⟨F, env, e, q⟩ => tE_mono (oneE e q) fun x H1 ⟨F1, d, e1, x1, r, q⟩ => by
    unfold Mir.iEnum at q
    split at q
    · obtain ⟨l, vs, rfl, h1, t1⟩ := r.lst_of
      rw [hK]
      exact ⟨l, vs, rfl, Le.sqL e1.fh h1, q.val e1.fh _ (walks_enum h1 t1)⟩
    · exact q.elim
theorem walks_zipL {ds es : List D} {F0 : Hp} {l l' : Addr} {vs ws : List V} (h : SqL m.K F0 l vs) (r : RpAll m.K F0 vs ds) (h' : SqL m.K F0 l' ws) (r' : RpAll m.K F0 ws es) : Walks m L (Itz m.K l l') (List.zipWith (fun x y => PyData.tuple [x, y]) ds es) F0 := fun i H F s fh => by
  have hH := Le.sqL fh (Same.sqL s h)
  have hH' := Le.sqL fh (Same.sqL s h')
  refine ⟨fun d hd => ?_, fun hl => ⟨vs, ws, hH, hH', by rw [List.length_zipWith] at hl; rw [r.length, r'.length]; omega⟩⟩
  rw [List.getElem?_zipWith] at hd
  cases q1 : ds[i]? with
  | none => rw [q1] at hd; cases hd
  | some d1 =>
    cases q2 : es[i]? with
    | none => rw [q1, q2] at hd; cases hd
    | some d2 =>
      rw [q1, q2] at hd
      cases hd
      obtain ⟨v, hv, rv⟩ := r.get q1
      obtain ⟨w, hw, rw'⟩ := r'.get q2
      refine ⟨⟨vs, ws, v, w, hH, hH', hv, hw⟩, fun y H' hy => ?_⟩
      obtain ⟨T, x1, y1, rfl, hT, rfl, k1, k2⟩ := hy
      have e1 := k1 vs hH
      have e2 := k2 ws hH'
      rw [hv] at e1
      rw [hw] at e2
      cases e1
      cases e2
      exact rp_pair fh hT (Rp.mono s rv) (Rp.mono s rw')
theorem walks_zipT {ds es : List D} {F0 : Hp} {l l' : Addr} {vs ws : List V} (h : SqT m.K F0 l vs) (r : RpAll m.K F0 vs ds) (h' : SqT m.K F0 l' ws) (r' : RpAll m.K F0 ws es) : Walks m L (ItzT m.K l l') (List.zipWith (fun x y => PyData.tuple [x, y]) ds es) F0 := fun i H F s fh => by
  have hH := Le.sqT fh (Same.sqT s h)
  have hH' := Le.sqT fh (Same.sqT s h')
  refine ⟨fun d hd => ?_, fun hl => ⟨vs, ws, hH, hH', by rw [List.length_zipWith] at hl; rw [r.length, r'.length]; omega⟩⟩
  rw [List.getElem?_zipWith] at hd
  cases q1 : ds[i]? with
  | none => rw [q1] at hd; cases hd
  | some d1 =>
    cases q2 : es[i]? with
    | none => rw [q1, q2] at hd; cases hd
    | some d2 =>
      rw [q1, q2] at hd
      cases hd
      obtain ⟨v, hv, rv⟩ := r.get q1
      obtain ⟨w, hw, rw'⟩ := r'.get q2
      refine ⟨⟨vs, ws, v, w, hH, hH', hv, hw⟩, fun y H' hy => ?_⟩
      obtain ⟨T, x1, y1, rfl, hT, rfl, k1, k2⟩ := hy
      have e1 := k1 vs hH
      have e2 := k2 ws hH'
      rw [hv] at e1
      rw [hw] at e2
      cases e1
      cases e2
      exact rp_pair fh hT (Rp.mono s rv) (Rp.mono s rw')
theorem q_zip {elts : List Expr} {kk : Nat} {tpos : Pos} (ha : PE X a (tE m L f)) (hb : PE X b (tE m L g)) (hg : Gl X "zip") (hm : X.mg "zip" = none) (hs : starEach [a, b] X.env = (false, eval a X.env) :: starEach [b] X.env := by rfl) (hs2 : starEach [b] X.env = (false, eval b X.env) :: starEach [] X.env := by rfl) (hpl : (backTo pos (starEach [b] X.env)).any (·.1) = false := by rfl)
    (hK : X.K = m.K := by rfl) : PI X (.Tuple elts kk tpos) (.Call (.Name "zip" p) [a, b] [] pos) (tI m L (eB2 Mir.iZip f g)) :=
  PI.imp (pi_zipA hg hm (pa_cons ha (pa_cons hb pa_nil hs2) hs) hs hpl) fun σ H R ⟨F, env, e, q⟩ => by
    refine ⟨F, env, e, (Post.bind q).imp fun d1 H1 F1 x1 q1 v1 r1 => ?_⟩
    refine ⟨F1, env, e.ext x1, (Post.bind q1).imp fun d2 H2 F2 x2 q2 v2 r2 => ?_⟩
    have r1 := Rp.mono x2.ff r1
    unfold Mir.iZip at q2
    split at q2
    · obtain ⟨l, vs, rfl, h1, t1⟩ := r1.lst_of
      obtain ⟨l', ws, rfl, h2, t2⟩ := r2.lst_of
      rw [hK]
      exact ⟨l, l', vs, ws, rfl, .inl ⟨Le.sqL x2.fh h1, Le.sqL x2.fh h2, q2.val x2.fh _ (walks_zipL h1 t1 h2 t2)⟩⟩
    · obtain ⟨l, vs, rfl, h1, t1⟩ := r1.tup_of
      obtain ⟨l', ws, rfl, h2, t2⟩ := r2.tup_of
      rw [hK]
      exact ⟨l, l', vs, ws, rfl, .inr ⟨Le.sqT x2.fh h1, Le.sqT x2.fh h2, q2.val x2.fh _ (walks_zipT h1 t1 h2 t2)⟩⟩
    · exact q2.elim

/-! ### methods of texts and lists -/
theorem m1 {β : Type} {op : D → D → Res β} {σ : St} {H F : Hp} {env : Env} {k : β → Hp → Hp → Prop} (e : EnvOk m L σ H F env) (p : Post m L σ H F (eM1 op f g env) k) :
    tE m L f σ H fun x H1 => (∃ a, x = .str a) ∧ tE m L g σ H1 fun y H2 => ∃ F2 d1 d2, EnvOk m L σ H2 F2 env ∧ Ext m L H F H2 F2 ∧ Rp m.K F2 x d1 ∧ Rp m.K F2 y d2 ∧ Post m L σ H2 F2 (op d1 d2) k := by
  have p : Post m L σ H F ((f env).bind fun x => chk (isStrD x = true) ((g env).bind fun y => op x y)) k := p
  refine ⟨F, env, e, p.bind.imp fun d1 H1 F1 x1 q v1 r1 => ?_⟩
  obtain ⟨hs, q⟩ := q.chk
  refine ⟨?_, F1, env, e.ext x1, q.bind.imp fun d2 H2 F2 x2 q v2 r2 => ⟨F2, d1, d2, (e.ext x1).ext x2, x1.trans x2, Rp.mono x2.ff r1, r2, q⟩⟩
  cases d1 <;> first | cases hs | skip
  cases r1
  exact ⟨_, rfl⟩
theorem rp_strs {K : PySem.W.Frag} {F : Hp} : ∀ ys : List Str, RpAll K F (ys.map V.str) (ys.map PyData.str)
  | [] => .nil
  | _ :: r => .cons (.str _) (rp_strs r)
theorem qo_split {apos : Pos} (ha : PE X a (tE m L f)) (hb : PE X b (tE m L g)) (hs : starEach [b] X.env = [(false, eval b X.env)] := by rfl) (hbase : attributeBase a "split" X.env (eval a X.env) = eval a X.env := by rfl) (hline : (apos.endLine == pos.line) = true := by rfl) :
    PE X (.Call (.Attribute a "split" apos) [b] [] pos) (tO m L (eM1 splitD f g)) := PE.imp (pe_split ha hb hs hbase hline) fun σ H Q ⟨F, env, e, q0⟩ => by
  refine tE_mono (m1 e q0) fun x H1 ⟨hx, q1⟩ => ⟨hx, tE_mono q1 fun y H2 ⟨F2, d1, d2, e2, x2, r1, r2, q⟩ => ?_⟩
  unfold splitD at q
  split at q
  · obtain ⟨⟨h1, h2⟩, q⟩ := q.chk
    cases r1
    cases r2
    refine ⟨_, _, rfl, rfl, h1, h2, post_newL x2.hh e2.fh ?_ q⟩
    exact rp_strs _
  · exact q.elim
theorem rp_items {K : PySem.W.Frag} {F : Hp} {x : V} {d : D} {ds : List D} (r : Rp K F x d) (h : items d = some ds) : ∃ p vs, x = .ref p ∧ (SqL K F p vs ∨ SqT K F p vs) ∧ RpAll K F vs ds := by
  cases d with
  | list es => cases h; obtain ⟨l, vs, rfl, h1, t1⟩ := r.lst_of; exact ⟨l, vs, rfl, .inl h1, t1⟩
  | tuple es => cases h; obtain ⟨l, vs, rfl, h1, t1⟩ := r.tup_of; exact ⟨l, vs, rfl, .inr h1, t1⟩
  | none => cases h
  | bool _ => cases h
  | int _ => cases h
  | str _ => cases h
  | dict _ => cases h
theorem rp_unStr {K : PySem.W.Frag} {F : Hp} : ∀ {vs : List V} {ds : List D} {ys : List Str}, RpAll K F vs ds → unStr ds = some ys → vs = ys.map V.str
  | _, _, _, .nil, h => by cases h; rfl
  | _, d :: ds, ys, .cons r t, h => by
    cases d <;> first | cases h | skip
    simp only [unStr, Option.map_eq_some_iff] at h
    obtain ⟨zs, hz, rfl⟩ := h
    cases r
    rw [rp_unStr t hz]
    rfl
theorem qe_join {apos : Pos} (ha : PE X a (tE m L f)) (hb : PE X b (tE m L g)) (hs : starEach [b] X.env = [(false, eval b X.env)] := by rfl) (hbase : attributeBase a "join" X.env (eval a X.env) = eval a X.env := by rfl) (hline : (apos.endLine == pos.line) = true := by rfl) (hK : X.K = m.K := by rfl) :
    PE X (.Call (.Attribute a "join" apos) [b] [] pos) (tE m L (eM1 joinD f g)) := PE.imp (pe_join ha hb hs hbase hline) fun σ H Q ⟨F, env, e, q0⟩ => by
  refine tE_mono (m1 e q0) fun x H1 ⟨hx, q1⟩ => ⟨hx, tE_mono q1 fun y H2 ⟨F2, d1, d2, e2, x2, r1, r2, q⟩ => ?_⟩
  unfold joinD at q
  split at q
  · split at q
    · rename_i ys hy
      obtain ⟨hc, q⟩ := q.chk
      obtain ⟨es, h1, h2⟩ := Option.bind_eq_some_iff.mp hy
      obtain ⟨p, vs, rfl, hv, t⟩ := rp_items r2 h1
      cases r1
      have := rp_unStr t h2
      subst this
      rw [hK]
      refine ⟨_, p, ys, rfl, rfl, ?_, hc, q.val e2.fh _ (.str _)⟩
      exact hv.imp (Le.sqL e2.fh) (Le.sqT e2.fh)
    · exact q.elim
  · exact q.elim
end
end Mir

/-! MirX: an own error class over ValueError whose __init__ says super().__init__(a text) and then stores its arguments, each under its own name: the making of such an error. -/
namespace Mir
namespace XMk
open PySem PySem.W PySem.Calls PyProof.Rows PySem.HandSPX
/-- self.x = x -/
def asg (x : Str) (p : Pos × Pos × Pos × Pos) : Stmt := .Assign [.Attribute (.Name "self" p.1) x p.2.1] (.Name x p.2.2.1) p.2.2.2
/-- super().__init__(t) -/
def sup (t : Str) (p0 p1 p2 p3 p4 p5 : Pos) (n : Nat) : Stmt := .Expr (.Call (.Attribute (.Call (.Name "super" p0) [] [] p1) "__init__" p2) [.Constant (.str t) n p3] [] p4) p5
/-- the call's text is read as a method's call -/
def SupEv (t : Str) (p0 p1 p2 p3 p4 : Pos) (n : Nat) : Prop := ∃ pl : PySem.Env → Sem Bool, ∀ env : PySem.Env, eval (.Call (.Attribute (.Call (.Name "super" p0) [] [] p1) "__init__" p2) [.Constant (.str t) n p3] [] p4) env = (do
  let ov ← attributeBase (.Call (.Name "super" p0) [] [] p1) "__init__" env (eval (.Call (.Name "super" p0) [] [] p1) env)
  standAt p2.atName
  let (f, first) ← holding [ov] (getMethod ov "__init__" (pl env))
  callWith p4 f first (backTo p4 (starEach [.Constant (.str t) n p3] env)) [])
section
variable {prog : Program} {w : World} {M : Model} {A : Around} {E : Value → Shared → Prop} {h : Heap} {g : Array GenState} {d : Drawn} {t : Nat} {os : OsState} {K : Frag} {mg m : Str → Option Value}
/-- what the text says for super() in a method of the class at C -/
structure SupTxt (prog : Program) (K : Frag) (C fI cc cda : Addr) (qual : Str) (params : Arguments) (body : List Stmt) (scope : Scope) : Prop where
  fn : ∃ (oc : Value) (od : Option Addr) (kV doc pm : Value) (an : Option Addr) (ct : Value) (osl : Array (Option Value)),
    K.lookup fI = some ⟨oc, od, .func (ksFn "__init__" qual params body scope .none kV doc pm an (.ref cda) ct cc), osl⟩
  cd : codeIn K (.ref cda) qual = true
  me : ∃ ar : Arg, (params.posonlyargs ++ params.args).head? = some ar ∧ ar.arg = "self"
  file : ∃ (ccl : Value) (cdd : Option Addr) (vs : Array Value) (ccs : Array (Option Value)) (file : Str) (tf : Tok), K.lookup cda = some ⟨ccl, cdd, .fields vs, ccs⟩ ∧ vs[2]? = some (.str file tf) ∧ ((prog.main.file : Str) == file) = true
  cell : ∃ (cl : Value) (cld : Option Addr) (csl : Array (Option Value)), K.lookup cc = some ⟨cl, cld, .cell (some (.ref C)), csl⟩
  cls : ∃ cdD, clsIn K C = some cdD
  mro : mroIn K C (.ref C) = some true
  sk : scope.names.lookup ("super" : Str) = some .globalImplicit
  ck : scope.names.lookup ("__class__" : Str) = some .free
  fk : scope.kind = .function
  lk : scope.names.lookup ("self" : Str) = some .local
  top : (prog.main.scope.names.lookup ("super" : Str)).isSome = false
/-- super() -/
theorem sup_node {C fI cc cda x L : Addr} {qual : Str} {params : Arguments} {body body' : List Stmt} {scope : Scope} {p0 p1 : Pos} {attr : Str} {whole : Sem Value} {ox : Obj} {odx : Option Obj} {Q : Value → Shared → Prop} (T : SupTxt prog K C fI cc cda qual params body scope)
    (X : K.In h) (hg : h.Ns mainGlobals mg) (hm : mg "super" = none) (hb : ∃ mb, h.Ns builtinsNs mb ∧ ∀ x : Str, x ≠ "__name__" → mb x = bootBuiltins x) (hn : h.Ns L m) (hv : m "self" = some (.ref x)) (I : InstAt h x ox C odx) (hat : (attr == ("__class__" : Str)) = false)
    (hq : ∀ h', h'.get? h.objs.size = some (ks_superObj C x C) → (∀ y o, h.get? y = some o → h'.get? y = some o) → Q (.ref h.objs.size) ⟨h', g, d, t, os⟩) :
    _root_.PySem.wpAt (model prog w) A (.func body' (ksEnv qual scope L fI (.ref cda) cc)) (attributeBase (.Call (.Name "super" p0) [] [] p1) attr (ksEnv qual scope L fI (.ref cda) cc) whole) Q E ⟨h, g, d, t, os⟩ := by
  obtain ⟨oc, od, kV, doc, pm, an, ct, osl, hf⟩ := T.fn
  obtain ⟨ar, har, hself⟩ := T.me
  obtain ⟨ccl, cdd, vs, ccs, file, tf, hco, hvs, hfile⟩ := T.file
  obtain ⟨cl, cld, csl, hcell⟩ := T.cell
  obtain ⟨cdD, hcls⟩ := T.cls
  obtain ⟨mb, hb1, hb2⟩ := hb
  have hCo : ∃ oD, h.get? C = some oD ∧ oD.data = .cls cdD := by
    unfold clsIn at hcls
    split at hcls
    · rename_i ho; cases hcls; exact ⟨_, X _ _ ho, rfl⟩
    · cases hcls
  obtain ⟨oD, e1, e2⟩ := hCo
  refine ks_wpAt_super_base (env := ksEnv qual scope L fI (.ref cda) cc) T.sk T.ck hat rfl (X _ _ hf) rfl har rfl (X _ _ hco) rfl hvs hfile T.top ?_
  refine ks_loadName_global T.fk T.sk (loadGlobal_builtin (env := ksEnv qual scope L fI (.ref cda) cc) hg hm hb1 ((hb2 _ (by decide)).trans (by first | rfl | boot_by_name | kernel_rfl)) ⟨rfl, ?_⟩)
  refine wpAny_loadName_free T.fk T.ck rfl ⟨_, X _ _ hcell, rfl⟩ ?_
  rw [hself]
  refine wpAny_loadName_local T.fk T.lk hn hv (ks_wpAny_isType_cls e1 e2 ⟨rfl, ?_⟩)
  refine ks_wpAny_call_super e1 e2 I.at_ I.cls (fun c z => ?_) (looks_mroIn X T.mro) fun h' z k => hq h' z k
  have y := I.no
  unfold notCls at y
  rw [z] at y
  cases y
/-- the bound ValueError.__init__ of x, called with one text -/
theorem mw_call {C N : Addr} {nm q : Str} {bs bm : List Value} {hdct : Bool} {sn : List Str} {sub : List Value} {ab : Bool} {col : Option Bool} {dd : Option Addr} {k0 k1 k2 k3 k5 : Option Value} {u x t0 : Addr} {rest : List Value} {Q : Value → Shared → Prop}
    (hC : h.get? C = some (excClassObj nm q C N bs bm hdct sn sub ab col dd k0 k1 k2 k3 k5 "ValueError.__new__")) (hx : h.get? x = some (excO C t0)) (hu : h.get? u = some (kxs_mw "ValueError.__init__" x)) (hz : rest.length ≤ sizeLine)
    (hq : ∀ h' t1, (∀ b o, b ≠ x → h.get? b = some o → h'.get? b = some o) → h'.get? x = some (excO C t1) → Q .none ⟨h', g, d, t, os⟩) :
    wpAny (model prog w) A (call (.ref u) rest) Q E ⟨h, g, d, t, os⟩ := by -- here
  apply wpAny_call
  apply codeAny_of_tree
  show wpAny (model prog w) A.in1 (callAny (.ref u) ⟨rest, []⟩) _ _ _
  have b1 : (Value.type "method-wrapper" == Value.type "method" || Value.type "method-wrapper" == Value.type "builtin_function_or_method" || Value.type "method-wrapper" == Value.type "method-wrapper") = true := by decide
  simp only [callAny]
  refine wpAny_bind (wpAny_load hu ?_) -- here
  simp only [kxs_mw, b1, if_true]
  refine KFB.if_so (by decide) (wpAny_bind (check_bound_init F.excBase_ValueError.toExcCallFacts hC hx rfl (wpAny_bind (wpAny_pure (wpAny_pure ?_)))))
  refine ⟨plainId_quiet F.excBase_ValueError.init.plain _, codeAny_builtin F.excBase_ValueError.initEntry ?_⟩
  exact exc_init_tree (cls := .ref C) (t0 := t0) (dv := none) (c2 := .none) (c3 := .none) (b4 := .bool false) hx hz fun h' k e _ => hq h' h.objs.size k e
/-- self.x = v, behind the first field -/
theorem osa_next {name : Str} {tk : Tok} {v : Value} {x C dx : Addr} {fv : Array Value} {cd : ClassData} {m0 : Str → Option Value} {nl : List Str} {R : Result → Shared → Prop}
    (X : K.In h) (hx : h.get? x = some { cls := .ref C, dict := some dx, data := .fields fv }) (hns : h.Ns1 dx m0) (hw : Within m0 nl) (hz : nl.length ≤ 1000) (hcd : clsIn K C = some cd) (hm : refsVE cd.mro = true) (hh : cd.hasDict = true) (ha : findIn K (.ref C) name = some none)
    (hq : ∀ h' tk', (∀ b o, b ≠ dx → h.get? b = some o → h'.get? b = some o) → h'.Ns1 dx (fun y => if y = name then some v else m0 y) → R (.ok (.ret .none)) ⟨h', g, d, tk', os⟩) :
    codeAny (model prog w) A (.call (.builtin "object.__setattr__") ⟨[.ref x, .str name tk, v], []⟩) R ⟨h, g, d, t, os⟩ := by
  obtain ⟨oD, esD, epD, hoD, hdD, _⟩ := hns.count hw -- here
  have I : InstAt h x { cls := .ref C, dict := some dx, data := .fields fv } C (some oD) := ⟨hx, rfl, rfl, hoD⟩
  have LC : Looks (model prog w) h (classData C) cd := looks_clsIn X hcd
  have LM : Looks (model prog w) h (mroOf (.ref C)) cd.mro := (looks_clsIn X hcd).andThen .now
  have LT : Looks (model prog w) h (Builtin.ObjectAttr.storeTaker? none) none := .now
  have LO : Looks (model prog w) h (isInstance (.ref x) (.type "object")) true := by
    refine I.type.andThen (looks_mroIn X ?_)
    unfold mroIn
    rw [hcd, Option.bind_some, if_neg (by rw [refsVE_ne hm]; decide), (refsVE_contains "object" _ hm).trans (show veTail.contains (Value.type "object") = true by decide +kernel)]
  refine codeAny_call_builtin F.store_object.slot.plain F.store_object.entry ?_
  refine @check_slot (model prog w) _ _ ⟨h, g, d, t, os⟩ "object.__setattr__" "object" "__setattr__" (.ref x) [.str name tk, v] [] _ F.store_object.kind F.store_object.split LO (F.store_object.args (.ref x) (.str name tk) v) ?_
  rw [osa_eq, refuse_eq]
  refine wpAny_bind (wpAny_bind (I.type.at (wpAny_bind (LM.at ?_))))
  rw [refsVE_pass _ _ hm]
  refine wpAny_pure (wpAny_bind (I.type.at (wpAny_bind ((looks_findIn X ha).at (wpAny_bind (LT.at ?_))))))
  show wpAny (model prog w) A.in1 (Builtin.ObjectAttr.storeInOwnDict (.ref x) (.ref C) (.str name tk) name v false) _ _ _
  obtain ⟨f1, f2, f3, f4, f5, f6, f7, f8, f9, f10, f11⟩ := cd
  dsimp only at hh
  subst hh
  unfold Builtin.ObjectAttr.storeInOwnDict Builtin.ObjectAttr.ownDictForStores
  repeat (first | with_reducible refine ESX.store_in_old hns hw hz ?_ | with_reducible refine wpAny_loadPart_at hx ?_ | with_reducible refine LC.at ?_ | wp_step)
  intro h' tk' n' same
  exact hq h' tk' (fun b o nb e => (same.2 b nb).trans e) n'
end
/-- what the text says of the class at C: its name, its __init__ at fI, its fields -/
structure ExcTxt (prog : Program) (K : Frag) (mg : Str → Option Value) (cn : Str) (fs : List Str) (C : Addr) : Prop where
  gC : mg cn = some (.ref C)
  noSuper : mg "super" = none
  cls : ∃ nm q N bs bm sn sub ab col dd k0 k1 k2 k3 k5, K.lookup C = some (excClassObj nm q C N bs bm true sn sub ab col dd k0 k1 k2 k3 k5 "ValueError.__new__") ∧ refsVE bm = true -- here
  sa : findIn K (.ref C) "__setattr__" = some (some (.builtin "object.__setattr__")) -- here
  no : ∀ f ∈ fs, findIn K (.ref C) f = some none
  kC : keepIn K (.ref C) = true
  exC : subIn K (.ref C) (.type "BaseException") = some true -- here
  veC : subIn K (.ref C) (.type "ValueError") = some true
  tyC : typeIn K (.ref C) = some (.type "type") -- here
  opq : nsIn K cStatics "thirdparty.any" = some none
  ini : ks_superIn K C C "__init__" = some (some (.builtin "ValueError.__init__"))
  fn : ∃ (fI cc cda : Addr) (qual : Str) (params : Arguments) (body : List Stmt) (scope : Scope), findIn K (.ref C) "__init__" = some (some (.ref fI)) ∧ typeIn K (.ref fI) = some (.type "function") ∧ SupTxt prog K C fI cc cda qual params body scope ∧
    (∃ txt p0 p1 p2 p3 p4 p5 n, ∃ ps : List (Pos × Pos × Pos × Pos), ps.length = fs.length ∧ SupEv txt p0 p1 p2 p3 p4 n ∧ body = sup txt p0 p1 p2 p3 p4 p5 n :: List.zipWith asg fs ps) ∧
    (∀ (s : Shared) (kV doc pm : Value) (an : Option Addr) (ct : Value) (vs : List Value) (x : Value), vs.length = fs.length → BindsTo s (ksFn "__init__" qual params body scope .none kV doc pm an (.ref cda) ct cc) ⟨x :: vs, []⟩ ((("self" : Str), x) :: fs.zip vs)) ∧
    (∀ x ∈ scope.names, x.2 ≠ .cell) ∧ scope.isCoroutine = false ∧ scope.isGenerator = false ∧ (∀ f ∈ fs, scope.names.lookup f = some .local ∧ f ≠ "self" ∧ (f == ("__debug__" : Str)) = false) ∧ fs.Nodup ∧ fs.length ≤ 3
/-! ### the run of __init__ -/
def asM : List (Str × Value) → Str → Option Value
  | [] => fun _ => none
  | p :: r => fun y => if y = p.1 then some p.2 else asM r y
theorem asM_within : ∀ l : List (Str × Value), Within (asM l) (l.map (·.1))
  | [] => Within.nil
  | (n, v) :: r => Within.cons n v (asM_within r)
/-- x behind some stores; h0 the heap ahead of them -/
structure Part (h0 h : Heap) (x C t1 : Addr) (acc : List (Str × Value)) : Prop where
  keep : ∀ b o, b ≠ x → h0.get? b = some o → h.get? b = some o
  obj : (acc = [] ∧ h0.objs.size ≤ h.objs.size ∧ h.get? x = some (excO C t1)) ∨
    ∃ dx, acc ≠ [] ∧ h0.objs.size ≤ dx ∧ dx ≠ x ∧ h.get? x = some { cls := .ref C, dict := some dx, data := .fields #[.ref t1, .none, .none, .none, .bool false, .none] } ∧ h.Ns1 dx (asM acc)
section
variable {prog : Program} {w : World} {A : Around} {E : Value → Shared → Prop} {K : Frag} {mg : Str → Option Value} {C fI cc cda x L t1 : Addr} {qual cn : Str} {params : Arguments} {body : List Stmt} {scope : Scope} {h0 : Heap} {m : Str → Option Value}
theorem keepK {h h' : Heap} (X : K.In h) (hx : K.lookup x = none) (k : ∀ b o, b ≠ x → h.get? b = some o → h'.get? b = some o) : K.In h' := fun b o e => by
  refine k b o (fun z => ?_) (X b o e)
  rw [z] at e
  cases hx.symm.trans e
theorem nodup_rev {α : Type} {l : List α} (h : l.Nodup) : l.reverse.Nodup := by
  unfold List.Nodup at h ⊢
  rw [List.pairwise_reverse]
  exact h.imp fun q => Ne.symm q
theorem lookup_mem {β : Type} : ∀ {l : List (Str × β)} {p : Str × β}, (l.map (·.1)).Nodup → p ∈ l → l.lookup p.1 = some p.2
  | [], _, _, h => by cases h
  | q :: l, p, hn, h => by
    rw [List.map_cons, List.nodup_cons] at hn -- here
    rcases List.mem_cons.mp h with e | h -- here
    · subst e; simp [List.lookup]
    · have ne : (p.1 == q.1) = false := by
        refine beq_eq_false_iff_ne.mpr fun e => hn.1 ?_
        rw [← e]
        exact List.mem_map_of_mem h
      rw [List.lookup_cons, ne]
      exact lookup_mem hn.2 h
theorem atNs {h h' : Heap} (n : h.Ns L m) (k : ∀ o, h.get? L = some o → h'.get? L = some o) : h'.Ns L m := by
  obtain ⟨o, es, ep, e, r⟩ := n
  exact ⟨o, es, ep, k o e, r⟩
theorem stores {cd : ClassData} (hcd : clsIn K C = some cd) (hm : refsVE cd.mro = true) (hh : cd.hasDict = true) (sa : findIn K (.ref C) "__setattr__" = some (some (.builtin "object.__setattr__")))
    (X0 : K.In h0) (hxK : K.lookup x = none) (hLx : L ≠ x) (hL : h0.Ns L m) (hself : m "self" = some (.ref x)) (sk : scope.kind = .function) (lself : scope.names.lookup ("self" : Str) = some .local) {Q : Flow → Shared → Prop} :
    ∀ (fs : List Str) (vs : List Value) (ps : List (Pos × Pos × Pos × Pos)) (acc : List (Str × Value)) (s : Shared), vs.length = fs.length → ps.length = fs.length → acc.length + fs.length ≤ 1000 →
      (∀ p ∈ fs.zip vs, m p.1 = some p.2) → (∀ f ∈ fs, findIn K (.ref C) f = some none ∧ scope.names.lookup f = some .local ∧ (f == ("__debug__" : Str)) = false) → Part h0 s.heap x C t1 acc →
      (∀ h' tk, Part h0 h' x C t1 ((fs.zip vs).reverse ++ acc) → Q .next { s with heap := h', toks := tk }) →
      wpAny (model prog w) A (execs (List.zipWith asg fs ps) (ksEnv qual scope L fI (.ref cda) cc)) Q E s := by
  intro fs
  induction fs with
  | nil =>
    intro vs ps acc s e1 e2 z _ _ P hq
    cases ps with
    | cons _ _ => cases e2
    | nil =>
      cases vs with
      | cons _ _ => cases e1
      | nil => exact wpAny_execs_nil (hq s.heap s.toks P)
  | cons f fs ih =>
    intro vs ps acc s e1 e2 z mv hf P hq
    cases ps with
    | nil => cases e2
    | cons p ps =>
    cases vs with
    | nil => cases e1
    | cons v vs =>
    obtain ⟨hno, hloc, hdb⟩ := hf f List.mem_cons_self
    have hv : m f = some v := mv (f, v) List.mem_cons_self
    have hn := atNs hL fun o e => P.keep L o hLx e
    have XK : K.In s.heap := keepK X0 hxK P.keep
    have rest : ∀ (h' : Heap) (tk : Nat), Part h0 h' x C t1 ((f, v) :: acc) → wpAny (model prog w) A (execs (List.zipWith asg fs ps) (ksEnv qual scope L fI (.ref cda) cc)) Q E { s with heap := h', toks := tk } := fun h' tk P' => by
      refine ih vs ps ((f, v) :: acc) { s with heap := h', toks := tk } (by simpa using e1) (by simpa using e2) (by simp only [List.length_cons] at z ⊢; omega) (fun q hq' => mv q (List.mem_cons_of_mem _ hq')) (fun y hy => hf y (List.mem_cons_of_mem _ hy)) P' fun h'' tk' P'' => ?_
      refine hq h'' tk' ?_
      simpa [List.zip_cons_cons, List.reverse_cons, List.append_assoc] using P''
    refine wpAny_execs_cons (plainObj_wpAny_Assign_Attribute ?_) -- here
    refine wpAny_Name (wpAny_loadName_local sk hloc hn hv ?_) hdb
    refine wpAny_Name (wpAny_loadName_local sk lself hn hself ?_) (by decide)
    rcases P.obj with ⟨ea, hsz, hx⟩ | ⟨dx, na, big, ne, hx, hns⟩
    · refine set_plain XK (ox := excO C t1) (od := none) ⟨hx, rfl, rfl, trivial⟩ sa ?_
      refine exc_osa XK hx hcd hm hh hno fun h' tk' dx k' dn dne hx' hn' => rest h' tk' ⟨fun b o hb e => k' b o hb (P.keep b o hb e), .inr ⟨dx, List.cons_ne_nil _ _, Nat.le_trans hsz dn, dne, hx', ?_⟩⟩
      subst ea
      exact hn'
    · have I : InstAt s.heap x { cls := .ref C, dict := some dx, data := .fields #[.ref t1, .none, .none, .none, .bool false, .none] } C (some (Classical.choose hns)) := ⟨hx, rfl, rfl, (Classical.choose_spec (Classical.choose_spec (Classical.choose_spec hns))).1⟩
      refine set_plain XK I sa ?_
      refine osa_next XK hx hns (asM_within acc) (by rw [List.length_map]; omega) hcd hm hh hno fun h' tk' k' hn' => rest h' tk' ⟨fun b o hb e => ?_, .inr ⟨dx, List.cons_ne_nil _ _, big, ne, ?_, hn'⟩⟩
      · refine k' b o (fun q => ?_) (P.keep b o hb e)
        subst q
        exact absurd (Heap.lt_size e) (Nat.not_lt.mpr big)
      · exact k' x _ (Ne.symm ne) hx
/-- what __init__ leaves -/
theorem init_run {fs : List Str} {s : Shared} {t0 : Addr} {vs : List Value} {R : Result → Shared → Prop} (T : ExcTxt prog K mg cn fs C) (X : K.In s.heap) (hlim : s.heap.NoLimit) (hg : s.heap.Ns mainGlobals mg)
    (hb : ∃ mb, s.heap.Ns builtinsNs mb ∧ ∀ x : Str, x ≠ "__name__" → mb x = bootBuiltins x) (hx : s.heap.get? x = some (excO C t0)) (hxK : K.lookup x = none) (hroom : A.depth < recursionLimit) (hlen : vs.length = fs.length)
    (hi : findIn K (.ref C) "__init__" = some (some (.ref fI)))
    (hq : ∀ h' tk t1, Part s.heap h' x C t1 (fs.zip vs).reverse → R (.ok (.ret .none)) { s with heap := h', toks := tk }) :
    codeAny (model prog w) A (.call (.ref fI) ⟨.ref x :: vs, []⟩) R s := by
  obtain ⟨fI', cc, cda, qual, params, body, scope, hi', hfi, S, ⟨txt, p0, p1, p2, p3, p4, p5, nn, ps, hps, ⟨pl, hev⟩, rfl⟩, bnd, hcell, hco, hgen, hfs, hnd, hf3⟩ := T.fn
  rw [hi] at hi'
  cases hi'
  obtain ⟨nm, q, N, bs, bm, sn, sub, ab, col, dd, k0, k1, k2, k3, k5, hC, hbm⟩ := T.cls -- here
  obtain ⟨oc, od, kV, doc, pm, an, ct, osl, hf⟩ := id S.fn
  have hcl : clsIn K C = some { name := nm, bases := bs, mro := .ref C :: bm, ns := N, qualname := q, hasDict := true, slotNames := sn, subclasses := sub, abstract := ab, collection := col, hasDel := false } := by unfold clsIn; rw [hC] <;> rfl -- here
  have hne : ∀ {h : Heap}, K.In h → x ≠ C := fun {h} Xh => by
    rintro rfl
    rw [hxK] at hC
    cases hC
  refine ks_codeAny_call_defAt (fd := ksFn "__init__" qual params _ scope .none kV doc pm an (.ref cda) ct cc) hroom (X _ _ hf) rfl hlim (codeRec_of X S.cd) rfl (bnd s kV doc pm an ct vs (.ref x) hlen) hcell ?_ (fun h₁ hn k => ?_) hco hgen S.fk
  · rintro ⟨y, v⟩ hy
    rcases List.mem_cons.mp hy with q | q
    · cases q; exact S.lk
    · exact (hfs _ (List.of_mem_zip q).1).1
  obtain ⟨hh, g, dr, tk, os⟩ := s
  have hxL : hh.objs.size ≠ x := Nat.ne_of_gt (Heap.lt_size hx)
  have hx1 := k _ _ hx
  have X1 : K.In h₁ := X.keeps k
  -- the names of the frame
  have mself : ((("self" : Str), Value.ref x) :: fs.zip vs).reverse.lookup ("self" : Str) = some (.ref x) := by
    rw [List.reverse_cons, List.lookup_append, List.lookup_eq_none_iff.mpr]
    · simp [List.lookup]
    · intro p hp
      have := (hfs p.1 (List.of_mem_zip (List.mem_reverse.mp hp)).1).2.1
      simpa using Ne.symm this
  have mf : ∀ p ∈ fs.zip vs, ((("self" : Str), Value.ref x) :: fs.zip vs).reverse.lookup p.1 = some p.2 := by
    intro p hp
    rw [List.reverse_cons, List.lookup_append]
    have : (fs.zip vs).reverse.lookup p.1 = some p.2 := lookup_mem (by rw [List.map_reverse, List.map_fst_zip (by omega)]; exact nodup_rev hnd) (List.mem_reverse.mpr hp)
    rw [this]
    rfl
  refine ks_wpAt_execs_cons (ks_wpAt_Expr_any (ks_wpAt_MethodCall (pl := pl _) ?_ (hev _)) (by unfold interactive; show (scope.kind == _ && _) = false; rw [S.fk]; rfl))
  refine sup_node S X1 (hg.keeps k) T.noSuper (by obtain ⟨mb, b1, b2⟩ := hb; exact ⟨mb, b1.keeps k, b2⟩) hn mself (ox := excO C t0) (odx := none) ⟨hx1, rfl, rfl, trivial⟩ (by decide) fun h₂ hso k2 => ?_
  have X2 : K.In h₂ := X1.keeps k2
  have I2 : InstAt h₂ x (excO C t0) C none := ⟨k2 _ _ hx1, rfl, rfl, trivial⟩
  have hcon : ks_superIn K C C "__init__" = some (some (.builtin "ValueError.__init__")) := T.ini
  unfold ks_superIn at hcon
  rw [hcl] at hcon
  refine kxs_getMethod kxs_ValueError hso (looks_opaque X2 T.opq) (l₀ := .ref C :: bm) (fun A Q E s k q => wpAny_bind ((looks_clsIn X2 hcl) A _ E s k (wpAny_pure q))) rfl X2 hcon (I2.type.andThen (looks_subIn X2 T.veC)) (hne X2) (by decide) ?_
  refine kxs_callWith (i := "ValueError.__init__") (x := x) (by rfl) ?_
  refine evalArgs_plain (spliced_cons (Constant_str (k := nn) (pos := p3) (spliced_nil ⟨?_, ?_⟩)))
  · exact Heap.get?_push_at rfl rfl
  have k3 : ∀ b o, h₂.get? b = some o → (h₂.push (kxs_mw "ValueError.__init__" x)).get? b = some o := fun b o e => Heap.get?_push_of_some _ e
  refine mw_call (C := C) (t0 := t0) (x := x) (k3 _ _ (X2 _ _ hC)) (k3 _ _ I2.at_) (Heap.get?_push_at rfl rfl) (by rw [sizeLine_eq]; exact (by decide : 1 ≤ 16777216)) fun h₄ t1 k4 hx4 => ?_
  refine wpAt_of_wpAny ?_
  have kk : ∀ b o, b ≠ x → h₁.get? b = some o → h₄.get? b = some o := fun b o nb e => k4 b o nb (k3 _ _ (k2 _ _ e))
  have hn4 : h₄.Ns hh.objs.size _ := atNs hn fun o e => kk _ o hxL e
  have hbig : hh.objs.size < h₄.objs.size := hn4.lt
  refine stores (h0 := h₄) (t1 := t1) (x := x) (L := hh.objs.size) (fI := fI) (cc := cc) (cda := cda) (qual := qual) hcl (show refsVE (.ref C :: bm) = true from hbm) rfl T.sa (keepK X1 hxK kk) hxK hxL hn4 mself S.fk S.lk fs vs ps [] _ hlen hps (by simp; omega) mf
    (fun f hf => ⟨T.no f hf, (hfs f hf).1, (hfs f hf).2.2⟩) ⟨fun _ _ _ e => e, .inl ⟨rfl, Nat.le_refl _, hx4⟩⟩ fun h' tk' P => ?_
  rw [List.append_nil] at P
  refine hq h' tk' t1 ⟨fun b o nb e => P.keep b o nb (kk b o nb (k b o e)), ?_⟩
  rcases P.obj with ⟨ea, sz, e⟩ | ⟨dx, na, big, r⟩
  · exact .inl ⟨ea, Nat.le_trans (Nat.le_of_lt hbig) sz, e⟩
  · exact .inr ⟨dx, na, Nat.le_trans (Nat.le_of_lt hbig) big, r⟩
/-- a made error: all that stood stands; its object at e; its dict at the next free place or behind -/
theorem made {fs : List Str} {s : Shared} {vs : List Value} {R : Result → Shared → Prop} (T : ExcTxt prog K mg cn fs C) (X : K.In s.heap) (hlim : s.heap.NoLimit) (hg : s.heap.Ns mainGlobals mg)
    (hb : ∃ mb, s.heap.Ns builtinsNs mb ∧ ∀ x : Str, x ≠ "__name__" → mb x = bootBuiltins x) (hroom : A.depth + 1 < recursionLimit) (hlen : vs.length = fs.length)
    (hq : ∀ h' tk e t1, (∀ b o, s.heap.get? b = some o → h'.get? b = some o) → s.heap.objs.size ≤ e → Part s.heap h' e C t1 (fs.zip vs).reverse → R (.ok (.ret (.ref e))) { s with heap := h', toks := tk }) :
    codeAny (model prog w) A (.call (.ref C) ⟨vs, []⟩) R s := by
  obtain ⟨nm, q, N, bs, bm, sn, sub, ab, col, dd, k0, k1, k2, k3, k5, hC, hbm⟩ := T.cls -- here
  obtain ⟨fI, cc, cda, qual, params, body, scope, hi, hfi, _, _, _, _, _, _, _, _, hf3⟩ := T.fn
  obtain ⟨hp, g, dr, tk, os⟩ := s -- here
  have hsmall : vs.length ≤ sizeLine := by rw [sizeLine_eq]; omega
  have k : ∀ b o, hp.get? b = some o → ((hp.push (kdv_tup vs)).push (excO C hp.objs.size)).get? b = some o := fun b o e => Heap.get?_push_of_some _ (Heap.get?_push_of_some _ e)
  have there : ((hp.push (kdv_tup vs)).push (excO C hp.objs.size)).get? (hp.objs.size + 1) = some (excO C hp.objs.size) := by heap_get
  have new : K.lookup (hp.objs.size + 1) = none := by
    cases z : K.lookup (hp.objs.size + 1) with
    | none => rfl
    | some o =>
      have y : hp.objs.size + 1 < hp.objs.size := Heap.lt_size (X _ _ z)
      exact absurd (Nat.lt_of_succ_lt y) (Nat.lt_irrefl _)
  refine call_own F.excBase_ValueError (fun Y => refsVE_contains Y bm hbm) (X _ _ hC) (looks_findIn X hi) (fun self => bind_fn X self hfi) hsmall ?_
  refine init_run (s := ⟨(hp.push (kdv_tup vs)).push (excO C hp.objs.size), g, dr, tk, os⟩) T (X.keeps k) (hlim.keeps k) (hg.keeps k) (by obtain ⟨mb, b1, b2⟩ := hb; exact ⟨mb, b1.keeps k, b2⟩) there new hroom hlen hi fun h' tk' t1 P => ?_
  have old : ∀ b o, hp.get? b = some o → h'.get? b = some o := fun b o e => P.keep b o (Nat.ne_of_lt (Nat.lt_succ_of_lt (Heap.lt_size e))) (k b o e)
  have up : hp.objs.size ≤ ((hp.push (kdv_tup vs)).push (excO C hp.objs.size)).objs.size := by rw [Heap.size_push, Heap.size_push]; omega
  refine ⟨rfl, hq h' tk' (hp.objs.size + 1) t1 old (Nat.le_succ _) ⟨fun b o _ e => old b o e, ?_⟩⟩
  rcases P.obj with ⟨ea, sz, e⟩ | ⟨dx, na, big, r⟩
  · exact .inl ⟨ea, Nat.le_trans up sz, e⟩
  · exact .inr ⟨dx, na, Nat.le_trans up big, r⟩
end
end XMk
open PySem PySem.Spec L2
section
variable {X : Cx} {C : Addr} {cn : Str} {fs : List Str}
/-- C(e, ..) -/
def tMkX (C : Addr) (fs : List Str) (ta : TA) : St → Hp → XK → Prop := fun σ H Q => ta σ H fun vs H1 => vs.length = fs.length ∧
  (fs = [] → Q (.ref C) none H1) ∧ (fs ≠ [] → ∀ d, H1 d = none → Q (.ref C) (some d) (upd H1 d (.xd (fs.zip vs).reverse)))
theorem relO_zip : ∀ {l : List (Str × V)} {l' : List (Str × Value)}, KV l l' → ∀ f, RelO (List.lookup f l) (XMk.asM l' f)
  | _, _, .nil, f => trivial
  | (n, v) :: l, (n', u) :: l', .cons ⟨e, r⟩ t, f => by
    have e : n = n' := e
    subst e
    unfold XMk.asM
    by_cases h : f = n
    · subst h
      rw [if_pos rfl]
      have z : List.lookup f ((f, v) :: l) = some v := by simp [List.lookup]
      rw [z]
      exact r
    · rw [if_neg h, List.lookup_cons, beq_eq_false_iff_ne.mpr h]
      exact relO_zip t f
theorem kv_zip : ∀ {fs : List Str} {vs : List V} {us : List Value} {l : List (Str × V)} {l' : List (Str × Value)}, Vals vs us → KV l l' → KV ((fs.zip vs).reverse ++ l) ((fs.zip us).reverse ++ l')
  | [], _, _, _, _, _, k => by simpa using k
  | _ :: _, _, _, _, _, .nil, k => by simpa using k
  | f :: fs, v :: vs, u :: us, l, l', .cons r t, k => by
    have z := kv_zip (fs := fs) t (KV_cons f r k)
    simpa [List.zip_cons_cons, List.reverse_cons, List.append_assoc] using z
where KV_cons (f : Str) {v : V} {u : Value} {l : List (Str × V)} {l' : List (Str × Value)} (r : RelV v u) (k : KV l l') : KV ((f, v) :: l) ((f, u) :: l') := .cons ⟨rfl, r⟩ k
theorem mk_call {pins : List (Addr × Obj)} {σ : St} {H : Hp} {Q : XK} {s : Shared} {vs : List V} {us : List Value} {k : Nat} (T : XMk.ExcTxt X.prog X.K X.mg cn fs C) (hr : Room k X.A) (I : Inv X pins σ H s) (r : Vals vs us)
    (q : vs.length = fs.length ∧ (fs = [] → Q (.ref C) none H) ∧ (fs ≠ [] → ∀ d, H d = none → Q (.ref C) (some d) (upd H d (.xd (fs.zip vs).reverse)))) :
    wpAny (model X.prog X.w) X.A (call (.ref C) us) (MkP X pins σ Q) X.xe s := by
  obtain ⟨hl, q0, q1⟩ := q
  have hlen : us.length = fs.length := r.length.symm.trans hl
  refine wpAny_call (XMk.made T I.kIn I.nolimit (I.mod.glob.keeps I.bk) (by obtain ⟨mb, b1, b2⟩ := I.mod.blt; exact ⟨mb, b1.keeps I.bk, b2⟩) (by have := hr.dp; omega) hlen fun h' tk' e t1 keep big P => ?_)
  show MkP X pins σ Q (.ref e) { s with heap := h', toks := tk' }
  obtain ⟨G', g1, g2⟩ := restrict h' fun b => decide (b ≠ e) -- here
  have gk : ∀ b, b ≠ e → G'.get? b = h'.get? b := fun b hb => g1 b (decide_eq_true hb) -- here
  have ge : G'.get? e = none := g2 e (by simp) -- here
  have old : ∀ b o, s.heap.get? b = some o → G'.get? b = some o := fun b o z => (gk b (Nat.ne_of_lt (Nat.lt_of_lt_of_le (Heap.lt_size z) big))).trans (keep b o z)
  have up : ∀ b o, G'.get? b = some o → h'.get? b = some o := fun b o z => by
    by_cases hb : b = e
    · rw [hb, ge] at z; cases z
    · exact (gk b hb).symm.trans z
  have hHe : H e = none := I.hok.fresh big
  rcases P.obj with ⟨ea, sz, he⟩ | ⟨dx, na, dbig, dne, he, hns⟩
  · have hf : fs = [] := by
      cases fs with
      | nil => rfl
      | cons f fs =>
        cases us with
        | nil => cases hlen
        | cons u us => simp at ea
    have J : Inv X pins σ H ⟨G', s.gens, s.drawn, tk', s.os⟩ := I.kept (t' := tk') old
    exact ⟨e, _, _, ⟨G', s.gens, s.drawn, tk', s.os⟩, H, .ref C, none, rfl, J, up, ge, he, ⟨rfl, rfl⟩, rfl, rfl, hHe, rfl, I.bare, raises_own T.exC T.tyC, q0 hf⟩
  · have hf : fs ≠ [] := fun z => na (by subst z; rfl)
    have ob : ObjOk X.prog X.w (upd H dx (.xd (fs.zip vs).reverse)) G' dx (.xd (fs.zip vs).reverse) := by
      refine ⟨_, hns.at fun o z => (gk dx dne).trans z, fun f => ?_⟩
      have kv := kv_zip (fs := fs) (l := []) (l' := []) r .nil
      rw [List.append_nil, List.append_nil] at kv
      exact relO_zip kv f
    have J : Inv X pins σ (upd H dx (.xd (fs.zip vs).reverse)) ⟨G', s.gens, s.drawn, tk', s.os⟩ := I.laid (t' := tk') old dbig ob
    refine ⟨e, _, _, ⟨G', s.gens, s.drawn, tk', s.os⟩, _, .ref C, some dx, rfl, J, up, ge, he, ⟨rfl, rfl⟩, rfl, rfl, ?_, rfl, I.bare, raises_own T.exC T.tyC, q1 hf dx (I.hok.fresh dbig)⟩
    rw [upd_ne (Ne.symm dne)]
    exact hHe
theorem pmk_own {a : Expr} {es : List Expr} {ta : TA} {p pos : Pos} {k : Nat} (T : XMk.ExcTxt X.prog X.K X.mg cn fs C) (hr : Room k X.A) (ha : PA X (a :: es) ta) (hg : Gl X cn := by rfl) (hdb : (cn == ("__debug__" : Str)) = false := by decide)
    (he : starEach (a :: es) X.env = (false, eval a X.env) :: starEach es X.env := by rfl) (hpl : (backTo pos (starEach es X.env)).any (·.1) = false := by rfl) :
    PMk X (.Call (.Name cn p) (a :: es) [] pos) (tMkX C fs ta) := fun pins s σ H Q I h => by
  refine wpAny_Call_Name_kw (ld_glob I hg T.gC ?_ hdb)
  refine PySem.W.callWith_K (h₀ := X.base) I.ok.mod.kin T.kC (thn (ha.run pos pins s σ H _ I h) fun us s1 ⟨vs, H1, I1, r1, q1⟩ => ⟨I1.kIn, mk_call T hr I1 r1 q1⟩) he hpl
theorem pmk_own0 {p pos : Pos} {k : Nat} (T : XMk.ExcTxt X.prog X.K X.mg cn fs C) (hr : Room k X.A) (hg : Gl X cn := by rfl) (hdb : (cn == ("__debug__" : Str)) = false := by decide) :
    PMk X (.Call (.Name cn p) [] [] pos) (tMkX C fs tNil) := fun pins s σ H Q I h =>
  wpAny_Call_Name_kw (ld_glob I hg T.gC (PySem.W.callWith_K0 I.kIn T.kC (mk_call T hr I .nil h)) hdb)
end
end Mir

/-! MirT: try with clauses of both kinds, with a name or without; raise. -/
namespace Mir
open PySem PySem.Spec L2
/-! ### the rule over HandS -/
abbrev TSuite := Addr → Value → Option Addr → TS
def endsC : Option Nat → Ends → Ends
  | none, D => D
  | some i, D => { nx := fun σ H => D.nx (σ.set i none) H, rt := D.rt, bk := fun σ H => D.bk (σ.set i none) H, ct := fun σ H => D.ct (σ.set i none) H }
def slotC : Option Nat → Addr → St → St
  | none, _, σ => σ
  | some i, a, σ => σ.set i (some (.ref a))
def wC (K : PySem.W.Frag) (Wout : WX) (D : Ends) : List (Value × Option Nat × TSuite) → WX
  | [] => Wout
  | c :: r => fun cls d σ H => ∃ b, PySem.W.exmOne K cls c.1 = some b ∧ (b = true → ∀ a, H a = none → c.2.2 a cls d (endsC c.2.1 D) (slotC c.2.1 a σ) H) ∧ (b = false → wC K Wout D r cls d σ H)
/-- a suite, for whatever error it holds -/
abbrev SuiteOk (X : Cx) (st : List Stmt) (ts : TSuite) : Prop := ∀ (a : Addr) (oe : Obj) (cls : Value) (d : Option Addr) (pn : List (Addr × Obj)), Zc cls d oe → (∃ vs, oe.data = .fields vs) → PSs (X.suite a ((a, oe) :: pn)) st (ts a cls d)
inductive HdsC (X : Cx) : List ExceptHandler → List (Value × Option Nat × TSuite) → Prop
  | nil : HdsC X [] []
  | only {x : Str} {c : Value} {ts : TSuite} {st : Stmt} {sts : List Stmt} {p q : Pos} {hds : List ExceptHandler} {l : List (Value × Option Nat × TSuite)} (hc : Names X x c) (ok : SuiteOk X (st :: sts) ts) (r : HdsC X hds l) :
      HdsC X (.ExceptHandler (some (.Name x p)) none (st :: sts) q :: hds) ((c, none, ts) :: l)
  | named {x n : Str} {i : Nat} {c : Value} {ts : TSuite} {st : Stmt} {sts : List Stmt} {p q : Pos} {hds : List ExceptHandler} {l : List (Value × Option Nat × TSuite)} (hc : Names X x c) (hN : X.N.Nodup) (hi : X.N[i]? = some n) (hn : X.env.kindOf n = some .local)
      (ok : SuiteOk X (st :: sts) ts) (r : HdsC X hds l) : HdsC X (.ExceptHandler (some (.Name x p)) (some n) (st :: sts) q :: hds) ((c, some i, ts) :: l)
section
variable {X : Cx} {body : List Stmt} {h₀ : ExceptHandler} {hds : List ExceptHandler} {l : List (Value × Option Nat × TSuite)} {pos : Pos} {tb : WX → TS} {Wout : WX}
/-- the clauses, one by one, for an error that has landed -/
theorem clauses_ok {pins : List (Addr × Obj)} {σ : St} {H : Hp} {D : Ends} {a : Addr} {B h : Heap} {sI s' : Shared} {cls : Value} {d : Option Addr} (ok : X.Ok) (hs : X.stack = X.env :: X.outer) (hf : X.env.frame = some X.env.locals) (tk : Takes X Wout) (J : Inv X pins σ H sI)
    (nb : ∀ b o, sI.heap.get? b = some o → b ∉ frs X.stack → B.get? b = some o) (up : sI.heap.UpToSlots h) (fl : HandSPX.FlyingZ B (X.env :: X.outer) a (Zc cls d) h) (na : H a = none) (os : s'.os = sI.os) (ag : PyProof.Rows.AllBare s'.gens) :
    ∀ {hds : List ExceptHandler} {l : List (Value × Option Nat × TSuite)}, HdsC X hds l → wC X.K Wout D l cls d σ H → wpAny (model X.prog X.w) X.A (handleBy (.ref a) X.env hds) (SP X pins D) X.xe { s' with heap := h } := by
  have hst : B.StaysIn h ∧ h.FunFrames B (X.env :: X.outer) := ⟨fl.1, fl.2.2.1⟩
  obtain ⟨oe, vs, he, hz, hd⟩ := fl.there -- here
  have apart : ∀ {h' : Heap} {o : Obj} {us : Array Value}, h'.FunFrames B (X.env :: X.outer) → h'.get? a = some o → o.data = .fields us → a ∉ frs (X.env :: X.outer) := fun ff z y hm => by
    obtain ⟨_, o', z', nf⟩ := ff.mem hm
    cases z.symm.trans z'
    exact nf _ y
  have far := apart hst.2 he hd
  have nL : a ≠ X.env.locals := fun z => far (List.mem_filterMap.mpr ⟨X.env, List.mem_cons_self, hf.trans (by rw [z])⟩)
  have nF : a ∉ X.fs := fun hm => by -- here
    obtain ⟨v, hv, z⟩ := List.mem_filterMap.mp hm
    exact far (List.mem_filterMap.mpr ⟨v, .tail _ hv, z⟩)
  have J1 : Inv X pins σ H { s' with heap := h } := J.landed nb hst.1 up os ag
  have S1 := J1.suite he hd na nL nF
  have typ : PySem.W.Looks (model X.prog X.w) h (typeOf (.ref a)) cls := fun A Q E s k q => wpAny_typeOf_ref (k _ _ he) (by rw [hz.1]; exact q)
  have name : ∀ {x : Str} {c : Value} {p : Pos} {Q : Value → Shared → Prop} {E : Value → Shared → Prop}, Names X x c → Q c { s' with heap := h } → wpAny (model X.prog X.w) (X.A.mark (some (.ref a))) (eval (.Name x p) X.env) Q E { s' with heap := h } := by
    rintro x c p Q E ⟨hg, hdb, hm | ⟨hm, hv, hn⟩⟩ want
    · exact ld_glob (X := X.suite a ((a, oe) :: (X.pn ++ pins))) S1 hg hm want hdb
    · exact ld_blt (X := X.suite a ((a, oe) :: (X.pn ++ pins))) S1 hg hm hv want hn hdb
  intro hds l hk
  induction hk with
  | nil =>
    intro w
    apply wpAny_handleBy_nil
    obtain ⟨_, _, _, o2, v2, T, oT, ts', z1, _, z2, z3, _⟩ := id fl
    have out : wpAny (model X.prog X.w) X.A (setFlight (.ref a) X.env.frame) (fun _ s4 => wpAny (model X.prog X.w) X.A (throw (.ref a) : Sem Flow) (SP X pins D) X.xe s4) X.xe { s' with heap := h } := by
      rw [hf]
      exact HandSPX.setFlight_upZ fl fun h4 held up4 => wpAny_throw (tk _ _ ⟨a, B, sI, pins, σ, H, cls, d, rfl, J, nb, up.trans up4, .inr (.inr (hs ▸ held)), na, os, ag, w⟩)
    unfold PySem.passOn
    refine wpAny_bind (wpAny_field z1 z2 z3 ?_)
    rw [if_neg (by simp)]
    first
      | exact wpAny_bind out
      | exact wpAny_bind (wpAny_pure (wpAny_bind out))
  | @only x c ts st sts p q hds2 l2 hc suite r ih =>
    rintro ⟨b, hb, yes, no⟩
    refine wpAny_handleBy_cons (codeAny_handlers_test ?_) (fun z => by cases z)
    refine name hc ((PySem.W.exm_one (M := model X.prog X.w) J1.kIn typ hb).here ?_)
    cases b with
    | false => exact ih (no rfl)
    | true =>
      refine codeAny_handlers_suite (HandSPX.lands_againZ fl fun h4 fl4 up4 => ?_)
      obtain ⟨o4, v4, z1, z2, z3⟩ := fl4.there
      have J4 : Inv X pins σ H { s' with heap := h4 } := J.landed nb fl4.1 (up.trans up4) os ag
      have S4 := J4.suite z1 z3 na nL nF
      refine wpAny_mono ((suite a o4 cls d (X.pn ++ pins) z2 ⟨_, z3⟩).run [] _ _ H _ S4 (yes rfl a na)) (fun f s6 e => ?_) (fun _ _ z => False.elim z)
      cases f with
      | ret u => exact match e with | ⟨v, σ6, H6, S6, r6, q6⟩ => ⟨v, σ6, H6, S6.unsuite ok, r6, q6⟩
      | next => exact match e with | ⟨σ6, H6, S6, q6⟩ => ⟨σ6, H6, S6.unsuite ok, q6⟩
      | brk => exact match e with | ⟨σ6, H6, S6, q6⟩ => ⟨σ6, H6, S6.unsuite ok, q6⟩
      | cont => exact match e with | ⟨σ6, H6, S6, q6⟩ => ⟨σ6, H6, S6.unsuite ok, q6⟩
  | @named x n i c ts st sts p q hds2 l2 hc hN hi hn suite r ih =>
    rintro ⟨b, hb, yes, no⟩
    refine wpAny_handleBy_cons (codeAny_handlers_test ?_) (fun z => by cases z)
    refine name hc ((PySem.W.exm_one (M := model X.prog X.w) J1.kIn typ hb).here ?_)
    cases b with
    | false => exact ih (no rfl)
    | true =>
      refine codeAny_handlers_suite_as (HandSPX.lands_againZ fl fun h4 fl4 up4 => ?_)
      obtain ⟨o4, v4, z1, z2, z3⟩ := fl4.there
      have J4 : Inv X pins σ H { s' with heap := h4 } := J.landed nb fl4.1 (up.trans up4) os ag
      have S4 := J4.suite z1 z3 na nL nF
      refine store_ok (X := X.suite a ((a, o4) :: (X.pn ++ pins))) (v := .ref a) S4 hN hi (.inl hn) rfl (fun s5 S5 => ?_) (.inr hn)
      refine wpAny_mono ((suite a o4 cls d (X.pn ++ pins) z2 ⟨_, z3⟩).run [] s5 _ H _ S5 (yes rfl a na)) (fun f s6 e => ?_) (fun _ _ z => False.elim z)
      have gone : ∀ {σ6 : St} {H6 : Hp} {Q : Shared → Prop}, Inv (X.suite a ((a, o4) :: (X.pn ++ pins))) [] σ6 H6 s6 → (∀ s7, Inv X pins (σ6.set i none) H6 s7 → Q s7) →
          wpAny (model X.prog X.w) X.A (do bindName X.env n .none; unbindBehindTheSuite X.env n q) (fun _ s7 => Q s7) X.xe s6 := fun S6 want => gone_ok (S6.unsuite ok) hN hi hn want
      cases f with
      | ret u => exact match e with | ⟨v, σ6, H6, S6, r6, q6⟩ => gone S6 fun s7 J7 => ⟨v, _, H6, J7, r6, q6⟩
      | next => exact match e with | ⟨σ6, H6, S6, q6⟩ => gone S6 fun s7 J7 => ⟨_, H6, J7, q6⟩
      | brk => exact match e with | ⟨σ6, H6, S6, q6⟩ => gone S6 fun s7 J7 => ⟨_, H6, J7, q6⟩
      | cont => exact match e with | ⟨σ6, H6, S6, q6⟩ => gone S6 fun s7 J7 => ⟨_, H6, J7, q6⟩
theorem ps_tryC (hs : X.stack = X.env :: X.outer) (hf : X.env.frame = some X.env.locals) (tk : Takes X Wout)
    (hb : ∀ (W : WX) (pn : List (Addr × Obj)) (xe : Value → Shared → Prop), Takes (X.tr pn xe) W → PassesOwn (model X.prog X.w) X.A X.env xe → PSs (X.tr pn xe) body (tb W)) (hh : HdsC X (h₀ :: hds) l) :
    PS X (.Try body (h₀ :: hds) [] [] pos) (fun D σ H => tb (wC X.K Wout D l) D σ H) := by
  constructor
  intro pins s σ H D I want
  have ok := I.ok
  apply wpAny_Try_except
  have run := (hb (wC X.K Wout D l) (X.pn ++ pins) (fun e s₁ => wpAny (model X.prog X.w) X.A (noteFrame e X.env) (fun _ s₂ => wpAny (model X.prog X.w) X.A (setFlight e none) (fun _ s₃ =>
    wpAny (model X.prog X.w) X.A (handleBy e X.env (h₀ :: hds)) (SP X pins D) X.xe s₃) X.xe s₂) X.xe s₁) (fun u s' air => ?_) PassesOwn.looking).run [] s σ H D (I.toTry _) want
  · refine wpAny_mono run (fun f s1 e => ?_) fun _ _ z => z
    cases f with
    | ret u => exact match e with | ⟨v, σ', H', J', r, q⟩ => ⟨v, σ', H', J'.ofTry ok, r, q⟩
    | next => exact match e with | ⟨σ', H', J', q⟩ => wpAny_execs_nil ⟨σ', H', J'.ofTry ok, q⟩
    | brk => exact match e with | ⟨σ', H', J', q⟩ => ⟨σ', H', J'.ofTry ok, q⟩
    | cont => exact match e with | ⟨σ', H', J', q⟩ => ⟨σ', H', J'.ofTry ok, q⟩
  · obtain ⟨a, B, sI, pins', σ', H', cls, d, rfl, J', nb, up, sky, na, os, ag, w⟩ := air
    have sky1 : Sky B (X.env :: X.outer) a (Zc cls d) X.env.locals s'.heap := hs ▸ sky
    show wpAny (model X.prog X.w) X.A (noteFrame (.ref a) X.env) _ _ _ -- here
    exact Sky.land Zc.steady (ok.frames.trans (by rw [hs])) hf sky1 fun h3 fl3 up3 => clauses_ok ok hs hf tk (J'.ofTry ok) nb (up.trans up3) fl3 na os ag hh w
end
end Mir

/-! MirU: raise, try, the caught error's fields and class, on mirrors. -/
namespace Mir
open PySem PySem.Spec L2
section
variable {X : Cx} {m : M} {L : List Addr} {f g h : Env → Res D} {a b c e : Expr} {es : List Expr} {pos p q : Pos} {k : Nat} {C : Addr} {cn : Str} {cs : String} {fs : List Str} {fa : Env → Res (List D)}
theorem RpAll.rev {K : PySem.W.Frag} {F : Hp} : ∀ {vs : List V} {ds : List D}, RpAll K F vs ds → RpAll K F vs.reverse ds.reverse
  | _, _, .nil => .nil
  | _, _, .cons r t => by
    rw [List.reverse_cons, List.reverse_cons] -- here
    exact (RpAll.rev t).append (.cons r .nil)
theorem zip_rev {α β : Type} : ∀ {xs : List α} {ys : List β}, ys.length = xs.length → (xs.zip ys).reverse = xs.reverse.zip ys.reverse
  | [], [], _ => rfl
  | x :: xs, y :: ys, h => by
    have h' : ys.length = xs.length := by simpa using h
    rw [List.zip_cons_cons, List.reverse_cons, List.reverse_cons, List.reverse_cons, zip_rev h', List.zip_append (by simp [h'])]
    rfl
theorem exAt_new {F : Hp} {d : Addr} {vs : List V} {ds : List D} (hF : F d = none) (hcl : m.cl.ex cs = some C) (hne : fs ≠ []) (hl : ds.length = fs.length) (r : RpAll m.K F vs ds) :
    ExAt m (upd F d (.xd (fs.zip vs).reverse)) ⟨cs, (fs.zip ds).reverse⟩ (.ref C) (some d) := by
  refine ⟨C, hcl, rfl, ?_⟩
  have hv : vs.length = fs.length := r.length.trans hl
  have e1 : ((fs.zip ds).reverse).map (·.1) = fs.reverse := by rw [List.map_reverse, List.map_fst_zip (by omega)]
  have e2 : ((fs.zip ds).reverse).map (·.2) = ds.reverse := by rw [List.map_reverse, List.map_snd_zip (by omega)]
  have go : ∃ d' vs', some d = some d' ∧ upd F d (.xd (fs.zip vs).reverse) d' = some (.xd ((((fs.zip ds).reverse).map (·.1)).zip vs')) ∧ RpAll m.K (upd F d (.xd (fs.zip vs).reverse)) vs' (((fs.zip ds).reverse).map (·.2)) := by
    refine ⟨d, vs.reverse, rfl, ?_, ?_⟩
    · rw [upd_same, e1, zip_rev hv]
    · rw [e2]; exact (RpAll.mono (Same.put hF) r).rev
  show (match (fs.zip ds).reverse with | [] => _ | fs' => _)
  split
  · rename_i z
    have := congrArg List.length z
    simp only [List.length_reverse, List.length_zip, List.length_nil] at this
    exact absurd (List.eq_nil_of_length_eq_zero (by omega)) hne
  · exact go
theorem q_raiseG {ta : TA} {t : St → Hp → XK → Prop} {ex : Expr} (hc : X.calm = true) (hcl : m.cl.ex cs = some C) (tk : Takes X m.W) (mk : PMk X ex (tMkX C fs ta)) (ht : ∀ σ H Q, tA m L fa σ H Q → ta σ H Q) :
    PS X (.Raise (some ex) none q) (tS m L (sRaise cs fs fa)) := PS.imp (ps_raise hc tk mk) fun D σ H ⟨F, env, e, p⟩ => by
  refine ht σ H _ ⟨F, env, e, ?_⟩
  unfold sRaise at p
  cases hf : fa env with
  | no => rw [hf] at p; exact p.elim
  | ex x => rw [hf] at p; exact fun cls dd H' F' x a => p cls dd σ H' F' (e.ext x) x.ff a
  | ok ds =>
    have p : SPost m L F D (if ds.length = fs.length then .ex ⟨cs, (fs.zip ds).reverse⟩ env else .no) := by rw [hf] at p; exact p
    intro H1 F1 x1 vs r
    by_cases hl : ds.length = fs.length
    · rw [if_pos hl] at p
      refine ⟨r.length.trans hl, fun z => ?_, fun z d hd => ?_⟩
      · subst z
        refine p _ none σ H1 F1 (e.ext x1) x1.ff ⟨C, hcl, rfl, ?_⟩
        rfl
      · have fd := x1.fh.none hd
        have x2 : Ext m L H1 F1 (upd H1 d (.xd (fs.zip vs).reverse)) (upd F1 d (.xd (fs.zip vs).reverse)) := Ext.new x1.fh hd
        exact p _ (some d) σ _ _ ((e.ext x1).ext x2) (x1.ff.trans x2.ff) (exAt_new fd hcl z hl r)
    · rw [if_neg hl] at p; exact p.elim
theorem q_raise (hc : X.calm = true) (hcl : m.cl.ex cs = some C) (tk : Takes X m.W) (T : XMk.ExcTxt X.prog X.K X.mg cn fs C) (hr : Room k X.A) (ha : PA X (a :: es) (tA m L fa)) (hg : Gl X cn := by rfl) (hdb : (cn == ("__debug__" : Str)) = false := by decide)
    (he : starEach (a :: es) X.env = (false, eval a X.env) :: starEach es X.env := by rfl) (hpl : (backTo pos (starEach es X.env)).any (·.1) = false := by rfl) :
    PS X (.Raise (some (.Call (.Name cn p) (a :: es) [] pos)) none q) (tS m L (sRaise cs fs fa)) := q_raiseG (t := fun _ _ _ => True) hc hcl tk (pmk_own T hr ha hg hdb he hpl) fun _ _ _ h => h
theorem q_raise0 (hc : X.calm = true) (hcl : m.cl.ex cs = some C) (tk : Takes X m.W) (T : XMk.ExcTxt X.prog X.K X.mg cn [] C) (hr : Room k X.A) (hg : Gl X cn := by rfl) (hdb : (cn == ("__debug__" : Str)) = false := by decide) :
    PS X (.Raise (some (.Call (.Name cn p) [] [] pos)) none q) (tS m L (sRaise cs [] eNil)) := q_raiseG (t := fun _ _ _ => True) hc hcl tk (pmk_own0 T hr hg hdb) fun σ H Q ⟨F, env, e, p⟩ => by
  exact p H F (Ext.refl e.fh) [] .nil
/-! ### try -/
def suiteM (m : M) (Fc : Hp) (a : Addr) : M := ⟨{ m.toCtx with F0 := Fc, hand := some a }, fun _ _ _ _ => False⟩
def bodyM (m : M) (W : WX) : M := ⟨m.toCtx, W⟩
theorem noExc_get {env : Env} (h : noExc env = true) {i : Nat} : env[i]? ≠ some (some .exc) := fun z => by
  unfold noExc at h
  have := List.all_eq_true.mp h _ (List.mem_of_getElem? z)
  cases this
theorem EnvOk.enter {σ : St} {H F : Hp} {env : Env} {a : Addr} (e : EnvOk m L σ H F env) (hm : m.hand = none) (o : Option Nat) : EnvOk (suiteM m F a) L (slotC o a σ) H F (onE o env) := by
  have cell : ∀ (c : Cell) (v : V), CellOk m.K m.B H F m.hand m.cl v c → CellOk m.K m.B H F (some a) m.cl v c := fun c v z => by
    cases c with
    | dat _ => exact z
    | own _ => exact z
    | fn _ => exact z
    | exc => obtain ⟨_, y, _⟩ := z; rw [hm] at y; cases y
  cases o with
  | none => exact ⟨e.fh, e.bh, Same.refl _, fun _ h => .inl h, e.len, fun i c hc => by obtain ⟨v, hv, z⟩ := e.cells i c hc; exact ⟨v, hv, cell c v z⟩, e.sep⟩
  | some j =>
    refine ⟨e.fh, e.bh, Same.refl _, fun _ h => .inl h, by simp only [onE, slotC, List.length_set, e.len], fun i c hc => ?_, fun i k d1 d2 v hik h1 h2 hv => ?_⟩
    · by_cases z : i = j
      · subst z
        have hl : i < env.length := by
          have := (List.getElem?_eq_some_iff.mp hc).1
          simpa [onE] using this
        simp only [onE, List.getElem?_set_self hl] at hc
        cases hc
        exact ⟨.ref a, by simp only [slotC]; exact List.getElem?_set_self (by rw [← e.len]; exact hl), a, rfl, rfl⟩
      · simp only [onE, List.getElem?_set_ne (Ne.symm z)] at hc
        obtain ⟨v, hv, y⟩ := e.cells i c hc
        exact ⟨v, by simp only [slotC]; rw [List.getElem?_set_ne (Ne.symm z)]; exact hv, cell c v y⟩
    · have ne : ∀ {i : Nat} {d : D}, (onE (some j) env)[i]? = some (some (.own d)) → i ≠ j ∧ env[i]? = some (some (.own d)) := fun {i d} h => by
        by_cases z : i = j
        · subst z
          have hl : i < env.length := by
            have := (List.getElem?_eq_some_iff.mp h).1
            simpa [onE] using this
          simp only [onE, List.getElem?_set_self hl] at h
          cases h
        · exact ⟨z, by simpa only [onE, List.getElem?_set_ne (Ne.symm z)] using h⟩
      obtain ⟨n1, g1⟩ := ne h1
      obtain ⟨n2, g2⟩ := ne h2
      simp only [slotC] at hv ⊢
      rw [List.getElem?_set_ne (Ne.symm n1)] at hv
      rw [List.getElem?_set_ne (Ne.symm n2)]
      exact e.sep i k d1 d2 v hik g1 g2 hv
def offS : Option Nat → St → St
  | none, σ => σ
  | some i, σ => σ.set i none
theorem EnvOk.leave {σ0 σ : St} {H0 F0 H F : Hp} {env0 env : Env} {a : Addr} (e0 : EnvOk m L σ0 H0 F0 env0) (e : EnvOk (suiteM m F0 a) L σ H F env) (o : Option Nat) (hn : noExc (offE o env) = true) : EnvOk m L (offS o σ) H F (offE o env) := by
  have fn : ∀ b, F b ≠ none → m.F0 b ≠ none ∨ m.B b = none := fun b h => (e.fn b h).elim (fun z => e0.fn b z) .inr
  have cell : ∀ (c : Cell) (v : V), c ≠ .exc → CellOk m.K m.B H F (some a) m.cl v c → CellOk m.K m.B H F m.hand m.cl v c := fun c v nc z => by
    cases c with
    | dat _ => exact z
    | own _ => exact z
    | fn _ => exact z
    | exc => exact absurd rfl nc
  cases o with
  | none => exact ⟨e.fh, e.bh, e0.f0.trans e.f0, fn, e.len, fun i c hc => by obtain ⟨v, hv, z⟩ := e.cells i c hc; exact ⟨v, hv, cell c v (fun q => noExc_get hn (q ▸ hc)) z⟩, e.sep⟩
  | some j =>
    have old : ∀ {i : Nat} {c : Cell}, (offE (some j) env)[i]? = some (some c) → i ≠ j ∧ env[i]? = some (some c) := fun {i c} h => by
      by_cases z : i = j
      · subst z
        have hl : i < env.length := by
          have := (List.getElem?_eq_some_iff.mp h).1
          simpa [offE] using this
        simp only [offE, List.getElem?_set_self hl] at h
        cases h
      · exact ⟨z, by simpa only [offE, List.getElem?_set_ne (Ne.symm z)] using h⟩
    refine ⟨e.fh, e.bh, e0.f0.trans e.f0, fn, by simp only [offE, offS, List.length_set]; exact e.len, fun i c hc => ?_, fun i k d1 d2 v hik h1 h2 hv => ?_⟩
    · obtain ⟨ni, hc'⟩ := old hc
      obtain ⟨v, hv, z⟩ := e.cells i c hc'
      exact ⟨v, by simp only [offS]; rw [List.getElem?_set_ne (Ne.symm ni)]; exact hv, cell c v (fun q => noExc_get hn (q ▸ hc)) z⟩
    · obtain ⟨n1, g1⟩ := old h1
      obtain ⟨n2, g2⟩ := old h2
      simp only [offS] at hv ⊢
      rw [List.getElem?_set_ne (Ne.symm n1)] at hv
      rw [List.getElem?_set_ne (Ne.symm n2)]
      exact e.sep i k d1 d2 v hik g1 g2 hv
/-- the clauses of a try against those of the mirror -/
inductive HdsM (X : Cx) (m : M) (L : List Addr) (isa : String → String → Option Bool) : List ExceptHandler → List Clause → Prop
  | nil : HdsM X m L isa [] []
  | only {x : Str} {v : Value} {T : String} {g : Exn → SF} {st : Stmt} {sts : List Stmt} {p q : Pos} {hds : List ExceptHandler} {cs : List Clause} (hc : Names X x v) (hx : ∀ (cn : String) (C : Addr) (b : Bool), m.cl.ex cn = some C → isa cn T = some b → PySem.W.exmOne X.K (.ref C) v = some b)
      (ok : ∀ (a : Addr) (oe : Obj) (cls : Value) (d : Option Addr) (pn : List (Addr × Obj)) (y : Exn) (Fc : Hp), Zc cls d oe → (∃ vs, oe.data = .fields vs) → ExAt m Fc y cls d → isa y.cls T = some true → PSs (X.suite a ((a, oe) :: pn)) (st :: sts) (tS (suiteM m Fc a) L (g y)))
      (r : HdsM X m L isa hds cs) : HdsM X m L isa (.ExceptHandler (some (.Name x p)) none (st :: sts) q :: hds) (⟨T, none, g⟩ :: cs)
  | named {x n : Str} {i : Nat} {v : Value} {T : String} {g : Exn → SF} {st : Stmt} {sts : List Stmt} {p q : Pos} {hds : List ExceptHandler} {cs : List Clause} (hc : Names X x v) (hx : ∀ (cn : String) (C : Addr) (b : Bool), m.cl.ex cn = some C → isa cn T = some b → PySem.W.exmOne X.K (.ref C) v = some b)
      (hN : X.N.Nodup) (hi : X.N[i]? = some n) (hn : X.env.kindOf n = some .local)
      (ok : ∀ (a : Addr) (oe : Obj) (cls : Value) (d : Option Addr) (pn : List (Addr × Obj)) (y : Exn) (Fc : Hp), Zc cls d oe → (∃ vs, oe.data = .fields vs) → ExAt m Fc y cls d → isa y.cls T = some true → PSs (X.suite a ((a, oe) :: pn)) (st :: sts) (tS (suiteM m Fc a) L (g y)))
      (r : HdsM X m L isa hds cs) : HdsM X m L isa (.ExceptHandler (some (.Name x p)) (some n) (st :: sts) q :: hds) (⟨T, some i, g⟩ :: cs)
variable {isa : String → String → Option Bool}
/-- the suite's wish, whatever the error -/
def tSu (m : M) (L : List Addr) (isa : String → String → Option Bool) (T : String) (g : Exn → SF) : TSuite := fun a cls d D σ H => ∃ y Fc, ExAt m Fc y cls d ∧ isa y.cls T = some true ∧ tS (suiteM m Fc a) L (g y) D σ H
theorem tSu_ok {st : List Stmt} {T : String} {g : Exn → SF} (ok : ∀ (a : Addr) (oe : Obj) (cls : Value) (d : Option Addr) (pn : List (Addr × Obj)) (y : Exn) (Fc : Hp), Zc cls d oe → (∃ vs, oe.data = .fields vs) → ExAt m Fc y cls d → isa y.cls T = some true →
    PSs (X.suite a ((a, oe) :: pn)) st (tS (suiteM m Fc a) L (g y))) : SuiteOk X st (tSu m L isa T g) := fun a oe cls d pn hz hf =>
  ⟨fun pins s σ H D I ⟨y, Fc, ea, hi, w⟩ => (ok a oe cls d pn y Fc hz hf ea hi).run pins s σ H D I w⟩
theorem tSu_run {σ : St} {H F F00 : Hp} {env : Env} {D : Ends} {T : String} {g : Exn → SF} {x : Exn} {o : Option Nat} {a : Addr} {cls : Value} {d : Option Addr} (e : EnvOk m L σ H F env) (hm : m.hand = none) (s : Same F00 F) (ea : ExAt m F x cls d) (hi : isa x.cls T = some true)
    (p : SPost m L F00 D (suiteOut o (g x (onE o env)))) : tSu m L isa T g a cls d (endsC o D) (slotC o a σ) H := by
  refine ⟨x, F, ea, hi, F, onE o env, e.enter hm o, ?_⟩
  cases q : g x (onE o env) with
  | nx e2 =>
    rw [q] at p
    have p : SPost m L F00 D (if noExc (offE o e2) = true then .nx (offE o e2) else .no) := p
    intro σ2 H2 F2 e' s'
    by_cases hn : noExc (offE o e2) = true
    · rw [if_pos hn] at p
      have z := p (offS o σ2) H2 F2 (e.leave e' o hn) (s.trans s')
      cases o <;> exact z
    · rw [if_neg hn] at p; exact p.elim
  | bk e2 =>
    rw [q] at p
    have p : SPost m L F00 D (if noExc (offE o e2) = true then .bk (offE o e2) else .no) := p
    intro σ2 H2 F2 e' s'
    by_cases hn : noExc (offE o e2) = true
    · rw [if_pos hn] at p
      have z := p (offS o σ2) H2 F2 (e.leave e' o hn) (s.trans s')
      cases o <;> exact z
    · rw [if_neg hn] at p; exact p.elim
  | ct e2 =>
    rw [q] at p
    have p : SPost m L F00 D (if noExc (offE o e2) = true then .ct (offE o e2) else .no) := p
    intro σ2 H2 F2 e' s'
    by_cases hn : noExc (offE o e2) = true
    · rw [if_pos hn] at p
      have z := p (offS o σ2) H2 F2 (e.leave e' o hn) (s.trans s')
      cases o <;> exact z
    · rw [if_neg hn] at p; exact p.elim
  | rt dv =>
    rw [q] at p
    intro v H2 F2 h1 h2 h3 h4 r
    have z := p v H2 F2 h1 h2 (s.trans h3) (fun b hb => (h4 b hb).elim (fun y => e.fn b y) .inr) r
    cases o <;> exact z
  | ex _ _ => rw [q] at p; exact p.elim
  | no => rw [q] at p; exact p.elim
theorem hds_run {hds : List ExceptHandler} {cs : List Clause} (h : HdsM X m L isa hds cs) (hm : m.hand = none) : ∃ l, HdsC X hds l ∧ ∀ (D : Ends) (cls : Value) (d : Option Addr) (σ : St) (H F F00 : Hp) (env : Env) (x : Exn), EnvOk m L σ H F env → Same F00 F → ExAt m F x cls d →
    SPost m L F00 D (handle isa cs x env) → wC X.K m.W D l cls d σ H := by
  induction h with
  | nil => exact ⟨[], .nil, fun D cls d σ H F F00 env x e s ea p => p cls d σ H F e s ea⟩
  | @only x v T g st sts p q hds cs hc hx ok r ih =>
    obtain ⟨l, hl, run⟩ := ih
    refine ⟨(v, none, tSu m L isa T g) :: l, .only hc (tSu_ok ok) hl, fun D cls d σ H F F00 env y e s ea pp => ?_⟩
    unfold handle at pp
    obtain ⟨C, hC, rfl, _⟩ := id ea
    cases hi : isa y.cls T with
    | none => simp only [hi] at pp; exact pp.elim
    | some b =>
      refine ⟨b, hx _ _ _ hC hi, fun hb a _ => ?_, fun hb => ?_⟩
      · subst hb; simp only [hi] at pp; exact tSu_run e hm s ea hi pp
      · subst hb; simp only [hi] at pp; exact run D _ d σ H F F00 env y e s ea pp
  | @named x n i v T g st sts p q hds cs hc hx hN hi' hn ok r ih =>
    obtain ⟨l, hl, run⟩ := ih
    refine ⟨(v, some i, tSu m L isa T g) :: l, .named hc hN hi' hn (tSu_ok ok) hl, fun D cls d σ H F F00 env y e s ea pp => ?_⟩
    unfold handle at pp
    obtain ⟨C, hC, rfl, _⟩ := id ea
    cases hi : isa y.cls T with
    | none => simp only [hi] at pp; exact pp.elim
    | some b =>
      refine ⟨b, hx _ _ _ hC hi, fun hb a _ => ?_, fun hb => ?_⟩
      · subst hb; simp only [hi] at pp; exact tSu_run e hm s ea hi pp
      · subst hb; simp only [hi] at pp; exact run D _ d σ H F F00 env y e s ea pp
theorem q_try {body : List Stmt} {h₀ : ExceptHandler} {hds : List ExceptHandler} {cs : List Clause} {g : SF} (hm : m.hand = none) (hs : X.stack = X.env :: X.outer) (hf : X.env.frame = some X.env.locals) (tk : Takes X m.W)
    (hb : ∀ (W : WX) (pn : List (Addr × Obj)) (xe : Value → Shared → Prop), Takes (X.tr pn xe) W → PassesOwn (model X.prog X.w) X.A X.env xe → PSs (X.tr pn xe) body (tS (bodyM m W) L g)) (hh : HdsM X m L isa (h₀ :: hds) cs) :
    PS X (.Try body (h₀ :: hds) [] [] pos) (tS m L (sTry isa g cs)) := by
  obtain ⟨l, hl, run⟩ := hds_run hh hm
  refine PS.imp (ps_tryC hs hf tk (tb := fun W => tS (bodyM m W) L g) hb hl) fun D σ H ⟨F, env, e, p⟩ => ⟨F, env, e, ?_⟩
  unfold sTry at p
  cases q : g env with
  | ex x env' =>
    simp only [q] at p
    exact fun cls dd σ' H' F' e' s' ea => run D cls dd σ' H' F' F env' x e' s' ea p
  | nx _ => simp only [q] at p; exact p
  | bk _ => simp only [q] at p; exact p
  | ct _ => simp only [q] at p; exact p
  | rt _ => simp only [q] at p; exact p
  | no => simp only [q] at p; exact p.elim
/-! ### the caught error: a field, its class -/
theorem Le.xd {H F : Hp} {d : Addr} {fs : List (Str × V)} (h : Le L F H) (z : F d = some (.xd fs)) : H d = some (.xd fs) := by
  rcases h d _ z with y | ⟨_, y, _⟩
  · exact y
  · cases y
theorem lookup_zip {K : PySem.W.Frag} {F : Hp} {n : Str} : ∀ {fs : List (Str × D)} {vs : List V} {d : D}, RpAll K F vs (fs.map (·.2)) → fs.lookup n = some d → ∃ v, ((fs.map (·.1)).zip vs).lookup n = some v ∧ Rp K F v d
  | [], _, _, _, h => by cases h -- here
  | (k, y) :: fs, _, d, .cons (v := v) r t, h => by
    rw [List.lookup_cons] at h
    simp only [List.map_cons, List.zip_cons_cons, List.lookup_cons]
    cases q : n == k with
    | true => rw [q] at h; cases h; exact ⟨v, rfl, r⟩
    | false => rw [q] at h; exact lookup_zip t h
theorem qe_fld {m0 : M} {Fc : Hp} {a : Addr} {oe : Obj} {cls : Value} {d : Option Addr} {pn : List (Addr × Obj)} {x : Exn} {i : Nat} {n ev : Str} (hz : Zc cls d oe) (hf : ∃ vs, oe.data = .fields vs) (hx : ExAt m0 Fc x cls d)
    (T : ∀ (cn : String) (C : Addr), m0.cl.ex cn = some C → XfC X.K C ∧ PySem.W.findIn X.K (.ref C) n = some none) (hN : PE (X.suite a ((a, oe) :: pn)) (.Name ev p) (tVar i))
    (hb : attributeBase (.Name ev p) n X.env (eval (.Name ev p) X.env) = eval (.Name ev p) X.env := by rfl) : PE (X.suite a ((a, oe) :: pn)) (.Attribute (.Name ev p) n pos) (tE (suiteM m0 Fc a) L (eFld i x n)) := by
  obtain ⟨C, hC, rfl, fld⟩ := hx
  obtain ⟨xf, no⟩ := T _ _ hC
  refine PE.imp (pe_xf xf no hz hf hN hb) fun σ H Q ⟨F, env, e, q⟩ => ?_
  unfold eFld at q
  split at q
  · rename_i hc
    split at q
    · rename_i dv hl
      obtain ⟨v, hv, a', ha, rfl⟩ := e.cells i _ hc
      cases ha
      refine ⟨_, hv, rfl, rfl, ?_⟩
      cases hfs : x.fs with
      | nil => rw [hfs] at hl; cases hl
      | cons y ys =>
        rw [hfs] at fld hl
        obtain ⟨dd, vs, rfl, hF, r⟩ := fld
        obtain ⟨v, hv, rv⟩ := lookup_zip r hl
        exact ⟨dd, _, v, rfl, e.fh.xd (e.f0 _ _ hF), hv, q.val e.fh v (Rp.mono e.f0 rv)⟩
    · exact q.elim
  · exact q.elim
end
end Mir

/-! MirI: isinstance of a caught error, which may have a dict of its own. -/
namespace Mir
namespace XIs
open PySem PySem.W PySem.Calls PyProof.Rows -- here
section
variable {prog : Program} {w : World} {A : Around} {E : Value → Shared → Prop} {s : Shared} {K : Frag} {x D : Addr} {ox : Obj} {od : Option Obj}
/-- x.__class__, x an error -/
theorem cls_of (T : L2.ExcC K D) (X : K.In s.heap) (I : PySem.W.InstAt s.heap x ox D od) {Q : Option Value → Shared → Prop} (q : Q (some (.ref D)) { s with toks := s.toks + 1 }) : wpAny (model prog w) A (getAttr? (.ref x) "__class__") Q E s := by
  have found : findObj K D od "__class__" = some (.bind (.builtin "getset_descriptor.__get__") (.builtin "object.__class__")) := by
    obtain ⟨cd, hc, _⟩ := any_some T.hd
    unfold findObj
    rw [hc, Option.bind_some, T.ha, Option.bind_some]
    simp [T.hn, T.ht]
  have d1 : (Value.builtin "BaseException.__getattribute__" == Value.builtin "object.__getattribute__") = false := by decide +kernel
  have d2 : (onTheHeap (Value.ref D) && Value.builtin "BaseException.__getattribute__" == Value.builtin "object.__getattribute__") = false := by rw [d1, Bool.and_false]
  have LT := I.type (M := model prog w)
  have LG := looks_findIn (M := model prog w) X T.hg
  have LK := looks_findIn (M := model prog w) X T.hk
  have LF := looks_find (M := model prog w) X I found
  have LS : Looks (model prog w) s.heap (isInstance (.ref x) (.type "BaseException")) true := LT.andThen (looks_subIn X T.hs)
  obtain ⟨hp, g, d, t, os⟩ := s
  unfold getAttr? getAttrBy? getAttrBy -- here
  refine wpAny_bind (wpAny_mkText (wpAny_bind (wpAny_attempt (wpAny_holding (wpAny_bind (LT.at (wpAny_bind (LG.at ?_))))))))
  show wpAny _ _ (if (onTheHeap (Value.ref D) && Value.builtin "BaseException.__getattribute__" == Value.builtin "object.__getattribute__") = true then _ else _) _ _ _ -- here
  rw [d2, if_neg (by decide)]
  unfold getAttrByItsOwn hookBefore -- here
  apply wpAny_bind
  rw [if_pos (show onTheHeap (Value.ref D) = true from rfl)] -- here
  refine LK.at (wpAny_bind (wpAny_attempt (wpAny_holding ?_)))
  unfold callGetattribute
  rw [show (false && onTheHeap (Value.builtin "BaseException.__getattribute__")) = false from rfl, if_neg (by decide)]
  unfold boundAndCalled
  rw [PySem.F.excAttr_ValueError.ga.bind (.ref x)] -- here
  refine wpAny_bind (wpAny_pure ?_) -- here
  show wpAny _ _ (call (.builtin "BaseException.__getattribute__") [.ref x, .str "__class__" t]) _ _ _ -- here
  refine wpAny_call (codeAny_call_builtin PySem.F.excAttr_ValueError.ga.plain PySem.F.entry_bexc_ga ?_) -- here
  refine @check_slot (model prog w) _ _ ⟨hp, g, d, t + 1, os⟩ "BaseException.__getattribute__" "BaseException" "__getattribute__" (.ref x) [.str "__class__" t] [] _ (by decide +kernel) (by decide +kernel) LS (PySem.F.args_bexc_ga (.ref x) (.str "__class__" t)) ?_
  unfold Builtin.«object.__getattribute__» -- here
  refine wpAny_bind (wpAny_of_eq (a := ((Value.ref x : Value), [Value.str "__class__" t])) (by first | rfl | (simp only [slotArgs]; rfl)) ?_) -- here
  refine wpAny_bind (wpAny_pure (wpAny_bind (LT.at (wpAny_bind (LF.at ?_)))))
  show wpAny _ _ (holding [Value.builtin "object.__class__"] (call (.builtin "getset_descriptor.__get__") [.builtin "object.__class__", .ref x, .ref D]) >>= ret) _ _ _ -- here
  refine wpAny_bind (wpAny_holding (wpAny_call (class_get (s := ⟨hp, g, d, t + 1, os⟩) (ox := ox) (od := od) X I T.hm (wpAny_pure ?_))))
  show wpAny _ _ (handedOut (.ref D)) _ _ _ -- here
  rw [handedOut_of (v := .ref D) rfl] -- here
  first
    | exact wpAny_pure q
    | exact wpAny_pure (wpAny_pure q)
    | exact wpAny_pure (wpAny_bind (wpAny_pure (wpAny_pure q)))
theorem kit (T : L2.ExcC K D) : KitX K (.ref x) (.ref D) (fun h => PySem.W.InstAt h x ox D od) where
  ty := fun _ _ _ I => I.type
  it := fun _ _ X _ => by
    obtain ⟨cd, hc, _⟩ := any_some T.hd
    unfold clsIn at hc
    split at hc
    · rename_i ho
      exact fun A' Q' E' s' k q => by
        unfold isType loadHead
        exact wpAny_bind (wpAny_loadPart (k _ _ (X _ _ ho)) (wpAny_pure q)) -- here
    · cases hc
  ne := fun h tp dd its n sl X htp => by -- here
    obtain ⟨cd, hc, _⟩ := any_some T.hd
    refine Bool.eq_false_iff.mpr fun q => ?_ -- here
    obtain rfl : D = tp := Value.ref.inj (beq_iff_eq.mp q)
    unfold clsIn at hc
    split at hc
    · rename_i ho
      cases (X _ _ ho).symm.trans htp
    · cases hc
  ca := fun X I k => cls_of T X I k
end
end XIs
open PySem PySem.Spec L2
section
variable {X : Cx} {m m0 : M} {L : List Addr} {isa : String → String → Option Bool} {pos p q r : Pos}
def rIsX (K : PySem.W.Frag) (D a : Addr) : List V → Hp → VK → Prop := fun xs H Q => ∃ (c : V) (cv : Value) (b : Bool), xs = [.ref a, c] ∧ (∀ u, RelV c u → u = cv) ∧ PySem.W.kitOne K (.ref D) cv = some b ∧ Q (.bl b) H
/-- the dict of the error stands -/
def HasXd (Y : Cx) (d : Option Addr) (H : Hp) : Prop := match d with
  | none => True
  | some dd => ∃ fs, H dd = some (.xd fs)
theorem call_isX {a D : Addr} {oe : Obj} {d : Option Addr} {pn : List (Addr × Obj)} (C : ExcC X.K D) (hz : Zc (.ref D) d oe) (hf : ∃ vs, oe.data = .fields vs) : CallR (X.suite a ((a, oe) :: pn)) (.builtin "isinstance") (fun xs H Q => HasXd X d H ∧ rIsX X.K D a xs H Q) := by
  intro pins s σ H xs us Q I r h -- here
  obtain ⟨hd, c, cv, b, rfl, hcv, e, want⟩ := h
  cases r with
  | cons rx rr =>
    cases rr with
    | cons rt rr =>
      cases rr
      cases rx
      obtain rfl := hcv _ rt
      obtain ⟨hget, _⟩ := I.pin (a, oe) (List.mem_append_left _ List.mem_cons_self)
      obtain ⟨vs, hv⟩ := hf
      have nc : PySem.W.notCls oe = true := by unfold PySem.W.notCls; rw [hv]
      have J : ∃ od, PySem.W.InstAt s.heap a oe D od := by
        cases d with
        | none => exact ⟨none, hget, hz.1, nc, by rw [hz.2]; trivial⟩
        | some dd =>
          obtain ⟨fs, hx⟩ := hd
          have ob : ObjOk X.prog X.w H s.heap dd (.xd fs) := I.hok dd _ hx
          obtain ⟨mA, hns, _⟩ := ob
          obtain ⟨od, ho, _⟩ := lookIn_ns hns
          exact ⟨some od, hget, hz.1, nc, by rw [hz.2]; exact ho⟩
      obtain ⟨od, J⟩ := J
      exact PySem.W.kia_one (XIs.kit C) I.kIn J e (fun z => nomatch z) fun tk => ⟨.bl b, H, I.kept (t' := tk) fun _ _ z => z, rfl, want⟩
theorem qe_isX {Fc : Hp} {a : Addr} {oe : Obj} {cls : Value} {d : Option Addr} {pn : List (Addr × Obj)} {x : Exn} {i : Nat} {cn ev : Str} {T : String} {c : V} {cv : Value} (hz : Zc cls d oe) (hf : ∃ vs, oe.data = .fields vs) (hx : ExAt m0 Fc x cls d)
    (hE : ∀ (n : String) (C : Addr), m0.cl.ex n = some C → ExcC X.K C) (hi : ∀ (n : String) (C : Addr) (b : Bool), m0.cl.ex n = some C → isa n T = some b → PySem.W.kitOne X.K (.ref C) cv = some b) (hcv : ∀ u, RelV c u → u = cv) (hg : Gl X "isinstance") (hm : X.mg "isinstance" = none)
    (hN : PE (X.suite a ((a, oe) :: pn)) (.Name ev q) (tVar i)) (hc : PE (X.suite a ((a, oe) :: pn)) (.Name cn r) (fun _ H Q => Q c H))
    (he : starEach [.Name ev q, .Name cn r] X.env = (false, eval (.Name ev q) X.env) :: starEach [.Name cn r] X.env := by rfl) (he2 : starEach [.Name cn r] X.env = (false, eval (.Name cn r) X.env) :: starEach [] X.env := by rfl)
    (hpl : (backTo pos (starEach [.Name cn r] X.env)).any (·.1) = false := by rfl) :
    PE (X.suite a ((a, oe) :: pn)) (.Call (.Name "isinstance" p) [.Name ev q, .Name cn r] [] pos) (tE (suiteM m0 Fc a) L (eIsE isa i x T)) := by
  obtain ⟨C, hC, rfl, fld⟩ := hx
  refine PE.imp (pe_callB (X := X.suite a ((a, oe) :: pn)) (call_isX (hE _ _ hC) hz hf) hg hm (by decide +kernel) (pa_cons hN (pa_cons hc pa_nil he2) he) (he := he) (hpl := hpl)) fun σ H Q ⟨F, env, e, w⟩ => ?_
  unfold eIsE at w
  split at w
  · rename_i hs
    split at w
    · rename_i b hb
      obtain ⟨v, hv, a', ha, rfl⟩ := e.cells i _ hs
      cases ha
      refine ⟨_, hv, ?_, c, cv, b, rfl, hcv, hi _ _ b hC hb, w.val e.fh _ (.bl b)⟩
      cases hfs : x.fs with
      | nil =>
        rw [hfs] at fld
        have fld : d = none := fld
        subst fld
        trivial
      | cons y ys =>
        rw [hfs] at fld
        obtain ⟨dd, vs, rfl, hF, _⟩ := fld
        exact ⟨_, e.fh.xd (e.f0 _ _ hF)⟩
    · exact w.elim
  · exact w.elim
theorem pe_cls {Y : Cx} {x : Str} {C : Addr} (hg : Gl Y x) (hm : Y.mg x = some (.ref C)) (hd : (x == ("__debug__" : Str)) = false := by decide) : PE Y (.Name x p) (fun _ H Q => Q (.ref C) H) := pe_glob hg hm rfl hd
theorem relv_ref {C : Addr} : ∀ u, RelV (V.ref C) u → u = .ref C := fun _ h => h
end
end Mir

/-! MirG: texts walked, pairs assigned, constants of the top, >= of tuples. -/
namespace Mir
open PySem PySem.Spec L2
section
variable {X : Cx} {m : M} {L : List Addr} {f g h : Env → Res D} {a b c e tg : Expr} {es : List Expr} {pos p q : Pos} {k : Nat} {fa : Env → Res (List D)}
theorem walks_str {z : Str} {F0 : Hp} : Walks m L (Its z) (signs z) F0 := fun i H F s fh => by
  refine ⟨fun d hd => ?_, fun hl => ?_⟩
  · unfold signs at hd
    rw [List.getElem?_map, Array.getElem?_toList] at hd
    obtain ⟨c, hc, rfl⟩ := Option.map_eq_some_iff.mp hd
    refine ⟨(Array.getElem?_eq_some_iff.mp hc).1, fun x H' hy => ?_⟩
    obtain ⟨rfl, c', hc', rfl⟩ := hy
    rw [hc] at hc'
    cases hc'
    exact ⟨F, Ext.refl fh, .str _⟩
  · unfold signs at hl
    rw [List.length_map, Array.length_toList] at hl
    exact hl
theorem q_istr (ha : PE X a (tE m L f)) : PI X tg a (tI m L (eB1 iStrD f)) := PI.imp (pi_str ha) fun σ H R ⟨F, env, e, w⟩ => tE_mono (oneE e w) fun x H1 ⟨F1, d, e1, x1, r, w⟩ => by
  unfold iStrD at w
  split at w
  · cases r
    exact ⟨_, rfl, w.val e1.fh _ walks_str⟩
  · exact w.elim
/-- a, b = x, y -/
theorem q_par {i j : Nat} {x y : Str} {a b : Expr} {px py pt : Pos} {kt k2 : Nat} {pt2 : Pos} (hh : PS X (.Assign [.Tuple [.Name x px, .Name y py] kt pt] (.Tuple [a, b] k2 pt2) pos) (tPar i j (tA m L fa))) :
    PS X (.Assign [.Tuple [.Name x px, .Name y py] kt pt] (.Tuple [a, b] k2 pt2) pos) (tS m L (sPar i j fa)) := PS.imp hh fun D σ H ⟨F, env, e, w⟩ => by
  refine ⟨F, env, e, ?_⟩
  unfold sPar at w
  cases q : fa env with
  | no => simp only [q] at w; exact w.elim
  | ex x => simp only [q] at w; exact fun cls dd H' F' y a => w cls dd σ H' F' (e.ext y) y.ff a
  | ok ds =>
    rw [q] at w
    intro H1 F1 x1 vs r
    split at w
    · rename_i d1 d2 z
      cases z
      cases r with
      | cons r1 r =>
        cases r with
        | cons r2 r =>
          cases r
          exact ⟨_, _, rfl, w _ H1 F1 (((e.ext x1).dcell r1).dcell r2) x1.ff⟩
    · exact w.elim
    · rename_i z; cases z
    · rename_i z; cases z
/-! ### constants of the top -/
theorem pe_top {x : Str} {u : Value} {v : V} {d : D} (hg : Gl X x) (hm : X.mg x = some u) (rv : RelV v u) (r : ∀ F, Rp m.K F v d) (hd : (x == ("__debug__" : Str)) = false := by decide) : PE X (.Name x p) (tE m L (eC d)) := pe_cst (pe_glob hg hm rv hd) r
/-- a text of the top -/
def TopStr (mg : Str → Option Value) (x z : Str) : Prop := ∃ t, mg x = some (.str z t)
theorem pe_topStr {x z : Str} (h : TopStr X.mg x z) (hg : Gl X x) (hd : (x == ("__debug__" : Str)) = false := by decide) : PE X (.Name x p) (tE m L (eC (.str z))) := by
  obtain ⟨t, h⟩ := h
  exact pe_top (v := .str z) hg h ⟨t, rfl⟩ (fun _ => .str z) hd
/-- what the top has written under x stands for d -/
def TopDat (K : PySem.W.Frag) (mg : Str → Option Value) (x : Str) (d : D) : Prop := ∃ u v, mg x = some u ∧ RelV v u ∧ ∀ F, Rp K F v d
theorem pe_topDat {x : Str} {d : D} (h : TopDat X.K X.mg x d) (hg : Gl X x) (hd : (x == ("__debug__" : Str)) = false := by decide) (hK : X.K = m.K := by rfl) : PE X (.Name x p) (tE m L (eC d)) := by
  obtain ⟨u, v, h1, h2, h3⟩ := h
  exact pe_top hg h1 h2 (fun F => hK ▸ h3 F) hd
/-- a dict of the top with texts for keys, read by d[k] -/
def TopTab (K : PySem.W.Frag) (w : World) (mg : Str → Option Value) (x : Str) (tab : List (Str × D)) : Prop := ∃ a, mg x = some (.ref a) ∧ ∀ (z : Str) (d : D), tab.lookup z = some d → ∃ v, KDct K w a z v ∧ ∀ F, Rp K F v d
theorem qe_tab {x : Str} {tab : List (Str × D)} (h : TopTab X.K X.w X.mg x tab) (hg : Gl X x) (hb : PE X b (tE m L g)) (hd : (x == ("__debug__" : Str)) = false := by decide) (hs : PlainIx b := by exact fun _ _ => rfl) (hK : X.K = m.K := by rfl) :
    PE X (.Subscript (.Name x p) b pos) (tE m L (eB1 (tabD tab) g)) := by
  obtain ⟨a, hm, ht⟩ := h
  refine PE.imp (pe_ix ix_kdict (pe_glob (v := .ref a) hg hm rfl hd) hb hs) fun σ H Q ⟨F, env, e, w⟩ => tE_mono (oneE e w) fun y H1 ⟨F1, d, e1, x1, r, w⟩ => ?_
  unfold tabD at w
  split at w
  · split at w
    · rename_i z d' hl
      cases r
      obtain ⟨v, hk, hr⟩ := ht _ _ hl
      exact ⟨a, _, v, rfl, rfl, hk, w.val e1.fh v (hK ▸ hr F1)⟩
    · exact w.elim
  · exact w.elim
/-! ### >= of tuples of ints -/
def rGeT (K : PySem.W.Frag) : R2 := fun x y H Q => ∃ (a b : Addr) (ns ms : List Int), x = .ref a ∧ y = .ref b ∧ SqT K H a (ns.map V.int) ∧ SqT K H b (ms.map V.int) ∧ Q (.bl (lexGe ns ms)) H
theorem int_place {its : List Value} {ns : List Int} (h : PyProof.Rows.IntsAre its ns) (j : Nat) (hj : j < its.toArray.size) : ∃ t, its.toArray[j] = .int (ns.getD j 0) t :=
  PyProof.Rows.IntsAre.int_at h _ _ (by simp at hj; simp [hj])
theorem op_geT (hu : X.A.units < cLine) : OpR X (compareOp .GtE) (rGeT X.K) := by
  rintro pins s σ H x y v u Q I rx ry ⟨a, b, ns, ms, rfl, rfl, ha, hb, want⟩
  obtain rfl : v = .ref a := rx
  obtain rfl : u = .ref b := ry
  obtain ⟨us, r1, p1, _⟩ := I.tuple ha
  obtain ⟨vs, r2, p2, _⟩ := I.tuple hb
  have n1 := Vals.ints r1
  have n2 := Vals.ints r2
  have run := Ob.RcOp.tuples_ge (A := X.A) (s := s) (e := fun j => decide (ns.getD j 0 = ms.getD j 0)) (r := fun j => decide (ms.getD j 0 ≤ ns.getD j 0)) p1 p2 hu
    (fun j l1 l2 => by
      obtain ⟨_, w1⟩ := int_place n1 j l1
      obtain ⟨_, w2⟩ := int_place n2 j l2
      have same : decide (ns.getD j 0 = ms.getD j 0) = (ns.getD j 0 == ms.getD j 0) := by
        by_cases y : ns.getD j 0 = ms.getD j 0
        · rw [y]; simp
        · rw [decide_eq_false y, beq_eq_false_iff_ne.mpr y]
      rw [w1, w2, same]
      exact SeqAt.EqAt.int_int _ _ _ _)
    (fun j l1 l2 _ => by
      obtain ⟨_, w1⟩ := int_place n1 j l1
      obtain ⟨_, w2⟩ := int_place n2 j l2
      rw [w1, w2]
      exact Ob.RcOp.ge_int _ _ _ _)
  rw [show us.toArray.size = ns.length by rw [List.size_toArray]; exact n1.length, show vs.toArray.size = ms.length by rw [List.size_toArray]; exact n2.length] at run
  exact run X.prog X.w X.xe (EP X pins σ Q) ⟨.bl _, H, I, rfl, want⟩
theorem RpAll.unInt {K : PySem.W.Frag} {F : Hp} : ∀ {vs : List V} {ds : List D} {ns : List Int}, RpAll K F vs ds → Mir.unInt ds = some ns → vs = ns.map V.int
  | _, _, _, .nil, h => by cases h; rfl
  | _, d :: ds, ns, .cons r t, h => by
    cases d <;> first | cases h | skip
    simp only [Mir.unInt, Option.map_eq_some_iff] at h
    obtain ⟨zs, hz, rfl⟩ := h
    cases r
    rw [RpAll.unInt t hz]
    rfl
theorem sp_geT : Sp2B m L (rGeT m.K) tgeD := by
  intro σ H F Q x y d1 d2 fh r1 r2 w
  unfold tgeD at w
  split at w
  · split at w
    · rename_i ns ms h1 h2
      obtain ⟨l, us, rfl, s1, t1⟩ := r1.tup fh
      obtain ⟨l', vs, rfl, s2, t2⟩ := r2.tup fh
      have z1 := t1.unInt h1
      have z2 := t2.unInt h2
      subst z1 z2
      exact ⟨l, l', ns, ms, rfl, rfl, s1, s2, w.val fh⟩
    · exact w.elim
  · exact w.elim
theorem qt_tge (hu : X.A.units + 200 < cLine) (ha : PE X a (tB m L f)) (hb : PE X b (tB m L g)) (hK : X.K = m.K := by rfl) : PT X (.Compare a [.GtE] [b] pos) (tT m L (eB2 tgeD f g)) := bin_ofT (r := rGeT X.K) (by rw [hK]; exact sp_geT) (pt_cmpR (op_geT (u0 hu)) ha hb (nomark _))
end
end Mir

/-! MirH: list.index, repr. -/
namespace Mir
open PySem PySem.Spec L2
section
variable {X : Cx} {m : M} {L : List Addr} {f g h : Env → Res D} {a b c e tg : Expr} {es : List Expr} {pos p q : Pos} {k : Nat} {fa : Env → Res (List D)}
theorem findIdx_spec : ∀ {ds : List D} {x : D} {j : Nat}, ds.findIdx? (fun y => PyData.eqv y x) = some j → ∃ z, ds[j]? = some z ∧ PyData.eqv z x = true ∧ ∀ (m : Nat) (z' : D), m < j → ds[m]? = some z' → PyData.eqv z' x = false := by
  intro ds x j h
  rw [List.findIdx?_eq_some_iff_getElem] at h
  obtain ⟨hj, h1, h2⟩ := h
  refine ⟨ds[j], List.getElem?_eq_getElem hj, h1, fun n z' hn hz => ?_⟩
  have hl : n < ds.length := Nat.lt_trans hn hj
  have := h2 n hn
  rw [List.getElem?_eq_getElem hl] at hz
  cases hz
  simpa using this
theorem mL {β : Type} {op : D → D → Res β} {σ : St} {H F : Hp} {env : Env} {kk : β → Hp → Hp → Prop} (e : EnvOk m L σ H F env) (w : Post m L σ H F (eML op f g env) kk) :
    tE m L f σ H fun x H1 => tyV m.K "list" x H1 ∧ tE m L g σ H1 fun y H2 => ∃ F2 ds d2, EnvOk m L σ H2 F2 env ∧ Ext m L H F H2 F2 ∧ Rp m.K F2 x (.list ds) ∧ Rp m.K F2 y d2 ∧ Post m L σ H2 F2 (op (.list ds) d2) kk := by
  have w : Post m L σ H F ((f env).bind fun x => chk (isLstD x = true) ((g env).bind fun y => op x y)) kk := w
  refine ⟨F, env, e, w.bind.imp fun d1 H1 F1 x1 w1 v1 r1 => ?_⟩
  obtain ⟨hs, w1⟩ := w1.chk
  obtain ⟨ds, rfl⟩ : ∃ ds, d1 = .list ds := by cases d1 <;> first | exact ⟨_, rfl⟩ | cases hs
  obtain ⟨l, vs, rfl, h1, t1⟩ := r1.lst_of
  refine ⟨.inl ⟨rfl, vs, x1.fh.sqL h1⟩, F1, env, e.ext x1, w1.bind.imp fun d2 H2 F2 x2 w2 v2 r2 => ⟨F2, ds, d2, (e.ext x1).ext x2, x1.trans x2, Rp.mono x2.ff r1, r2, w2⟩⟩
theorem qe_index (hu : X.A.units + 200 < cLine) (ha : PE X a (tE m L f)) (hb : PE X b (tE m L g)) {apos : Pos} (hbase : attributeBase a "index" X.env (eval a X.env) = eval a X.env := by rfl)
    (hfew : ((backTo pos (starEach (b :: []) X.env)).all (fun x => !x.1) && (backToKw pos (keywordEach [] X.env)).all (fun x => x.1.isSome) && decide ((b :: []).length + ([] : List Keyword).length + (if ([] : List Keyword).isEmpty then 0 else 1) < 30)) = true := by rfl)
    (hline : (apos.endLine == pos.line) = true := by rfl) (hs : starEach (b :: []) X.env = (false, eval b X.env) :: starEach [] X.env := by rfl) (hpl : (backTo pos (starEach [] X.env)).any (·.1) = false := by rfl) (hK : X.K = m.K := by rfl) :
    PE X (.Call (.Attribute a "index" apos) [b] [] pos) (tE m L (eML indexD f g)) :=
  PE.imp (pe_bm PySem.F.plainAttrs_list PySem.F.slot_list_index PySem.F.type_list_index (mt_indexD (u65 hu)) ha (pa_cons hb pa_nil hs) hbase hfew hline hs hpl) fun σ H Q ⟨F, env, e, w⟩ => by
    rw [hK]
    refine tE_mono (mL e w) fun x H1 ⟨ty, w1⟩ => ⟨ty, tE_mono w1 fun y H2 ⟨F2, ds, d2, e2, x2, r1, r2, w2⟩ => ?_⟩
    unfold indexD at w2
    obtain ⟨⟨h1, h2⟩, w2⟩ := w2.chk
    split at w2
    · rename_i j hj
      obtain ⟨z, z1, z2, z3⟩ := findIdx_spec hj
      obtain ⟨l, vs, rfl, _, _⟩ := id r1.lst_of
      exact ⟨l, y, d2, ds, j, z, rfl, rfl, Rp.dp e2.fh (noDict_of_shaped h2) r1, Rp.dp e2.fh (noDict_of_shaped h1) r2, h2, h1, z1, z2, z3, w2.val e2.fh _ (.int _)⟩
    · exact w2.elim
/-! ### repr -/
theorem PyData.shown_int (i : Int) : PyData.shown (.int i) = toString i := by rfl
def rRepr (K : PySem.W.Frag) : List V → Hp → VK → Prop := fun xs H Q => ∃ (x : V) (d : D), xs = [x] ∧ Dp K H x d ∧ d.showable = true ∧ d.hasDict = false ∧ d.depth ≤ 60 ∧ d.shown.length + 64 ≤ sizeLine ∧ (∃ y, x = .ref y) ∧ Q (.str d.shown) H
theorem call_reprD (hu : X.A.units + 200 < cLine) (hg : X.A.guards = some []) : CallR X (.builtin "repr") (rRepr X.K) := by
  rintro pins s σ H xs us Q I r ⟨x, d, rfl, hd, h1, h2, h3, h4, ⟨y, rfl⟩, w⟩
  cases r with
  | cons rx rr =>
    cases rr
    obtain ⟨bs, rd⟩ := Dp.reads I d _ _ hd rx
    cases rx
    refine repr_of_reads' rd h1 (fun z => by rw [h2] at z; cases z) hg (by omega) (fun _ _ z => z) (fun h' u tk hk => ?_) (by omega)
    exact ⟨.str d.shown, H, I.kept (t' := tk) hk, ⟨u, rfl⟩, w⟩
theorem ref_of {K : PySem.W.Frag} {F : Hp} {v : V} {ds : List D} {d : D} (hd : d = .list ds ∨ d = .tuple ds) (r : Rp K F v d) : ∃ y, v = .ref y := by
  rcases hd with rfl | rfl
  · obtain ⟨l, _, e, _⟩ := r.lst_of; exact ⟨l, e⟩
  · obtain ⟨l, _, e, _⟩ := r.tup_of; exact ⟨l, e⟩
/-- repr of a list or a tuple -/
def seqD : D → Bool
  | .list _ => true
  | .tuple _ => true
  | _ => false
def reprS (d : D) : Res D := chk (seqD d = true) (reprD d)
theorem sp_repr : Sp1 m L (rRepr m.K) reprS := by
  intro σ H F Q x d fh r w
  obtain ⟨hs, w⟩ := w.chk
  unfold reprD at w
  obtain ⟨⟨h1, h2, h3, h4⟩, w⟩ := w.chk
  refine ⟨x, d, rfl, r.dp fh h2, h1, h2, h3, h4, ?_, w.val fh _ (.str _)⟩
  cases d <;> first | cases hs | skip
  · obtain ⟨l, _, e, _⟩ := r.list fh; exact ⟨l, e⟩
  · obtain ⟨l, _, e, _⟩ := r.tup fh; exact ⟨l, e⟩
theorem qe_repr (hu : X.A.units + 200 < cLine) (hgd : X.A.guards = some []) (ha : PE X a (tB m L f)) (hg : Gl X "repr") (hm : X.mg "repr" = none) (he : starEach (a :: []) X.env = (false, eval a X.env) :: starEach [] X.env := by rfl) (hK : X.K = m.K := by rfl) :
    PE X (.Call (.Name "repr" p) [a] [] pos) (tE m L (eB1 reprS f)) :=
  call1 (r := rRepr X.K) (by rw [hK]; exact sp_repr) (pe_callB (call_reprD hu hgd) hg hm (by decide +kernel) (pa_cons ha pa_nil he) (he := he))
end
end Mir

/-! MirF: defs as values: handed on as arguments, called by a name that holds one. -/
namespace Mir
open PySem PySem.Spec L2
/-- what stands for an argument -/
def ArgOk (cl : Nm) (K : PySem.W.Frag) (F : Hp) (v : V) : Cell → Prop
  | .dat d => Rp K F v d
  | .fn x => ∃ f, cl.fn x = some f ∧ v = .ref f
  | _ => False
inductive ArgsOk (cl : Nm) (K : PySem.W.Frag) (F : Hp) : List V → List Cell → Prop
  | nil : ArgsOk cl K F [] []
  | cons {v : V} {vs : List V} {c : Cell} {cs : List Cell} (h : ArgOk cl K F v c) (t : ArgsOk cl K F vs cs) : ArgsOk cl K F (v :: vs) (c :: cs)
theorem ArgOk.mono {cl : Nm} {K : PySem.W.Frag} {F F' : Hp} {v : V} {c : Cell} (s : Same F F') (h : ArgOk cl K F v c) : ArgOk cl K F' v c := by
  cases c with
  | dat d => exact Rp.mono s h
  | fn x => exact h
  | own _ => exact h
  | exc => exact h
theorem ArgsOk.mono {cl : Nm} {K : PySem.W.Frag} {F F' : Hp} (s : Same F F') : ∀ {vs : List V} {cs : List Cell}, ArgsOk cl K F vs cs → ArgsOk cl K F' vs cs
  | _, _, .nil => .nil
  | _, _, .cons h t => .cons (h.mono s) (t.mono s)
theorem ArgsOk.length {cl : Nm} {K : PySem.W.Frag} {F : Hp} : ∀ {vs : List V} {cs : List Cell}, ArgsOk cl K F vs cs → vs.length = cs.length
  | _, _, .nil => rfl
  | _, _, .cons _ t => by rw [List.length_cons, List.length_cons, t.length]
theorem ArgsOk.get {cl : Nm} {K : PySem.W.Frag} {F : Hp} : ∀ {vs : List V} {cs : List Cell} {i : Nat} {c : Cell}, ArgsOk cl K F vs cs → cs[i]? = some c → ∃ v, vs[i]? = some v ∧ ArgOk cl K F v c
  | _, _, i, c, .nil, h => by simp at h
  | _, _, 0, c, .cons (v := v) h t, e => by simp at e; subst e; exact ⟨v, rfl, h⟩
  | _, _, i + 1, c, .cons h t, e => by
    obtain ⟨v, hv, r⟩ := t.get (i := i) (c := c) (by simpa using e)
    exact ⟨v, by simpa using hv, r⟩
def spC (K : PySem.W.Frag) (cl : Nm) (G : List Cell → Res D) : Sp := fun vs H Q E => ∃ L F cs, Le L F H ∧ ArgsOk cl K F vs cs ∧
  Post ⟨⟨K, cl, L, H, F, none⟩, fun cls d _ H' => E cls d H'⟩ [] [] H F (G cs) fun d H' F' => ∀ v, Rp K F' v d → Q v H'
def tAC (m : M) (L : List Addr) (f : Env → Res (List Cell)) : TA := fun σ H Q => ∃ F env, EnvOk m L σ H F env ∧ Post m L σ H F (f env) fun cs H' F' => ∀ vs, ArgsOk m.cl m.K F' vs cs → Q vs H'
section
variable {P : Program} {w : World} {K : PySem.W.Frag} {mg : Str → Option Value} {base : Heap} {cl : Nm}
theorem startC_ok {m : Ctx} {N : List Str} {vs : List V} {cs : List Cell} (h : Le m.L0 m.F0 m.B) (r : ArgsOk m.cl m.K m.F0 vs cs) : EnvOk m [] (L2.start N vs) m.B m.F0 (startC N.length cs) := by
  have hlen := r.length
  have at_ : ∀ (i : Nat) (c : Cell), (startC N.length cs)[i]? = some (some c) → cs[i]? = some c := fun i c hc => by
    unfold startC at hc
    by_cases hi : i < cs.length
    · rw [List.getElem?_append_left (by rw [List.length_map]; exact hi), List.getElem?_map, List.getElem?_eq_getElem hi] at hc
      rw [List.getElem?_eq_getElem hi]
      simpa using hc
    · rw [List.getElem?_append_right (by rw [List.length_map]; omega), List.getElem?_replicate] at hc
      split at hc <;> cases hc
  refine ⟨by rw [List.append_nil]; exact h, Le.refl, Same.refl _, fun a h => .inl h, ?_, fun i c hc => ?_, fun i j d e v _ h1 => ?_⟩
  · unfold startC L2.start
    simp only [List.length_append, List.length_map, List.length_replicate]
    omega
  · obtain ⟨v, hv, rv⟩ := r.get (at_ i c hc)
    refine ⟨v, ?_, ?_⟩
    · unfold L2.start
      have hi := (List.getElem?_eq_some_iff.mp hv).1
      rw [List.getElem?_append_left (by rw [List.length_map]; exact hi), List.getElem?_map, hv]
      rfl
    · cases c with
      | dat d => exact rv
      | fn x => exact rv
      | own _ => exact rv.elim
      | exc => exact rv.elim
  · obtain ⟨v, _, z⟩ := r.get (at_ i _ h1)
    exact z.elim
theorem fn_okC {x qual : Str} {params : Arguments} {body : List Stmt} {scope : Scope} {kws : List (Str × V)} {f : Addr} {fd : FuncData} {N ps : List Str} {k : Nat} {g : SF} (F : FunD K x qual params body scope [] kws f fd) (S : FnScope N ps scope)
    (hb : ∀ (cdv : Value) (A : Around) (outer : List PySem.Env) (s : Shared) (H : Hp) (E : XK) (L0 : List Addr) (B F0 : Hp), Room k (A.deeper (PyProof.Rows.envOfC qual scope s.heap.objs.size f cdv)) → A.guards = some [] →
      PSs (cxOf (L2.CX P w) P w K mg base N qual scope f cdv A outer s H E) body (tS ⟨⟨K, cl, L0, B, F0, none⟩, fun cls d _ H' => E cls d H'⟩ [] g)) :
    FnG P w K mg base (k + 1) f fd ps (spC K cl (mkFC N.length ps.length g)) := by
  refine fng_of F S (fun vs H Q E ⟨L, F, cs, _, r, p⟩ => by
    unfold mkFC at p
    rw [r.length]
    exact p.chk.1) fun cdv A outer s H vs Q E hr hgd ⟨L, F0, cs, fh, r, p⟩ => ?_
  unfold mkFC at p
  obtain ⟨hl, p⟩ := p.chk
  refine ⟨_, hb cdv A outer s H E L H F0 hr hgd, F0, startC N.length cs, startC_ok (m := ⟨K, cl, L, H, F0, none⟩) fh r, ?_⟩
  have fin : ∀ {H' F' : Hp}, Le (L ++ []) F' H' → Le [] H H' → Same F0 F' → (∀ a, F' a ≠ none → F0 a ≠ none ∨ H a = none) → Ext ⟨K, cl, L, H, F0, none⟩ [] H F0 H' F' := fun h1 h2 h3 h4 => ⟨h2.to_same, h3, h1, h4⟩
  cases q : g (startC N.length cs) with
  | nx env' => rw [q] at p; exact fun σ' H' F' e' s' => p H' F' (fin e'.fh e'.bh s' e'.fn) .non .non
  | rt d => rw [q] at p; exact fun v H' F' h1 h2 h3 h4 r => p H' F' (fin h1 h2 h3 h4) v r
  | ex x' _ => rw [q] at p; exact fun cls dd σ' H' F' e' s' a => p cls dd H' F' (fin e'.fh e'.bh s' e'.fn) a
  | bk _ => rw [q] at p; exact p.elim
  | ct _ => rw [q] at p; exact p.elim
  | no => rw [q] at p; exact p.elim
end
section
variable {X : Cx} {m : M} {L : List Addr} {k i : Nat} {f : Addr} {fd : FuncData} {ps : List Str} {x : Str} {p pos : Pos} {e : Expr} {es : List Expr} {fc : Env → Res (List Cell)} {fs : Env → Res (List D)} {g : Env → Res D} {G : List Cell → Res D}
theorem qc_nil : PA X [] (tAC m L fun _ => .ok []) := PA.imp pa_nil fun σ H Q ⟨F, env, e, w⟩ => w.ret e [] .nil
theorem qc_dat (ha : PE X e (tE m L g)) (hr : PA X es (tAC m L fc)) (hs : starEach (e :: es) X.env = (false, eval e X.env) :: starEach es X.env := by rfl) : PA X (e :: es) (tAC m L (eDat g fc)) :=
  PA.imp (pa_cons ha hr hs) fun σ H Q ⟨F, env, e, w⟩ => by
    refine ⟨F, env, e, (Post.bind w).imp fun d1 H1 F1 x1 w1 v1 r1 => ⟨F1, env, e.ext x1, (Post.bind w1).imp fun cs H2 F2 x2 w2 vs rs => ?_⟩⟩
    exact Post.val x2.fh w2 _ (.cons (Rp.mono x2.ff r1) rs)
theorem qc_fun {s : String} {y : Str} (hg : Gl X y) (hm : X.mg y = some (.ref f)) (hf : m.cl.fn s = some f) (hr : PA X es (tAC m L fc)) (hd : (y == ("__debug__" : Str)) = false := by decide) (hs : starEach (.Name y p :: es) X.env = (false, eval (.Name y p) X.env) :: starEach es X.env := by rfl) :
    PA X (.Name y p :: es) (tAC m L (eFun s fc)) :=
  PA.imp (pa_cons (pe_glob (v := .ref f) hg hm rfl hd) hr hs) fun σ H Q ⟨F, env, e, w⟩ => ⟨F, env, e, (Post.bind w).imp fun cs H2 F2 x2 w2 vs rs => Post.val x2.fh w2 _ (.cons ⟨f, hf, rfl⟩ rs)⟩
theorem qc_fn {s : String} {y : Str} (h : ∃ f, X.mg y = some (.ref f) ∧ m.cl.fn s = some f) (hg : Gl X y) (hr : PA X es (tAC m L fc)) (hd : (y == ("__debug__" : Str)) = false := by decide) (hs : starEach (.Name y p :: es) X.env = (false, eval (.Name y p) X.env) :: starEach es X.env := by rfl) :
    PA X (.Name y p :: es) (tAC m L (eFun s fc)) := by
  obtain ⟨f, hm, hf⟩ := h
  exact qc_fun hg hm hf hr hd hs
structure HasC (P : Program) (w : World) (K : PySem.W.Frag) (mg : Str → Option Value) (base : Heap) (cl : Nm) (k : Nat) (x : Str) (ps : List Str) (G : List Cell → Res D) : Prop where
  ex : ∃ f fd, mg x = some (.ref f) ∧ PySem.W.keepIn K (.ref f) = true ∧ Binds K fd ps [] ∧ FnG P w K mg base k f fd ps (spC K cl G)
theorem qe_callC (h : HasC X.prog X.w X.K X.mg X.base m.cl k x ps G) (hr : Room k X.A) (hgd : X.A.guards = some []) (hg : Gl X x) (tk : Takes X m.W) (ha : PA X (e :: es) (tAC m L fc)) (hdb : (x == ("__debug__" : Str)) = false := by decide)
    (he : starEach (e :: es) X.env = (false, eval e X.env) :: starEach es X.env := by rfl) (hpl : (backTo pos (starEach es X.env)).any (·.1) = false := by rfl) (hK : X.K = m.K := by rfl) : PE X (.Call (.Name x p) (e :: es) [] pos) (tE m L (eB1 G fc)) := by
  obtain ⟨f, fd, hm, hk, hb, F⟩ := h.ex
  refine PE.imp (pe_callG F hr hgd hg hm hk hb tk ha hdb he hpl) fun σ H Q ⟨F, env, e, w⟩ => ?_
  have w : Post m L σ H F ((fc env).bind G) (fun d H' F' => ∀ v, Rp m.K F' v d → Q v H') := w
  refine ⟨F, env, e, w.bind.imp fun cs H1 F1 x1 q vs r => ?_⟩
  rw [hK]
  have e1 := e.ext x1
  refine ⟨m.L0 ++ L, F1, cs, e1.fh, r, ?_⟩
  cases h : G cs with
  | ok d => rw [h] at q; exact fun H' F' x => q H' F' (x.conv fun a ha => by simpa using ha)
  | ex y => rw [h] at q; exact fun cls dd H' F' x a => q cls dd H' F' (x.conv fun a ha => by simpa using ha) a
  | no => rw [h] at q; exact q
/-- what is known of every def that a name may hold -/
def TblOk (X : Cx) (m : M) (k : Nat) (ps : List Str) (tbl : String → Option (List D → Res D)) : Prop := ∀ (s : String) (f : Addr) (G : List D → Res D), m.cl.fn s = some f → tbl s = some G →
  ∃ fd, PySem.W.keepIn X.K (.ref f) = true ∧ Binds X.K fd ps [] ∧ FnG X.prog X.w X.K X.mg X.base k f fd ps (spD m.K m.cl G)
/-- f(e, ..), f a name that holds a def -/
theorem qe_callV {tbl : String → Option (List D → Res D)} (T : TblOk X m k ps tbl) (hr : Room k X.A) (hgd : X.A.guards = some []) (hn : PE X (.Name x p) (tVar i)) (tk : Takes X m.W) (ha : PA X (e :: es) (tA m L fs))
    (he : starEach (e :: es) X.env = (false, eval e X.env) :: starEach es X.env := by rfl) (hpl : (backTo pos (starEach es X.env)).any (·.1) = false := by rfl) (hK : X.K = m.K := by rfl) : PE X (.Call (.Name x p) (e :: es) [] pos) (tE m L (eCallV tbl i fs)) := by
  constructor
  rintro pins s σ H Q I ⟨F, env, e, w⟩
  unfold eCallV at w
  split at w
  · rename_i y hc
    split at w
    · rename_i G hG
      obtain ⟨v, hv, f, hf, rfl⟩ := e.cells i _ hc
      obtain ⟨fd, hk, hb, FG⟩ := T y f G hf hG
      have want : tA m L fs σ H fun vs H1 => spD m.K m.cl G vs H1 Q (WE m.W σ) := by
        have w : Post m L σ H F ((fs env).bind G) (fun d H' F' => ∀ v, Rp m.K F' v d → Q v H') := w
        exact ⟨F, env, e, w.bind.imp fun ds H1 F1 x1 q vs r => post_call (e.ext x1) r q⟩
      refine wpAny_Call_Name_kw (thn (hn.run pins s σ H (fun v H1 => v = .ref f ∧ H1 = H) I ⟨.ref f, hv, rfl, rfl⟩) fun u s1 ⟨v, H1, I1, r1, ev, eH⟩ => ?_)
      subst ev
      subst eH
      cases r1
      refine PySem.W.callWith_K (h₀ := X.base) I.ok.mod.kin hk (thn (ha.run pos pins s1 σ H1 _ I1 want) fun us s2 got => ?_) he hpl
      obtain ⟨vs, H2, I2, rel, q⟩ := got
      refine ⟨I2.kIn, ?_⟩
      have many : us.length = ps.length := rel.length.symm.trans (FG.count _ _ _ _ q)
      have b := hb s2 us I2.kIn (by rw [List.append_nil]; exact many)
      rw [List.append_nil] at b
      refine wpAny_call (codeAny_mono (FG.runs X.A X.stack s2 H2 ⟨us, []⟩ us vs Q (WE m.W σ) hr hgd I2.env0 b rel q) fun r s' z => ?_)
      rcases r with e | (v | _ | _ | _)
      · exact passAt tk σ pins H2 s2 e s' I2 z
      all_goals first | exact I2.after z | exact z.elim
    · exact w.elim
  · exact w.elim
end
theorem relv_ty {T : String} : ∀ u, RelV (V.ty T) u → u = .type T := fun _ h => h
end Mir

/-! MirZ: what the head's facts give: defs, classes, constants of the top. -/
namespace Mir
open PySem PySem.Spec L2
/-- the first def of a class's text -/
def initOf : Stmt → Stmt
  | .ClassDef _ _ _ body _ _ _ _ _ _ _ => body.getD 0 (.Pass ⟨0, 0, 0, 0⟩)
  | s => s
section
variable {P : Program} {w : World} {K : PySem.W.Frag} {h : Heap} {mg : Str → Option Value} {base : Heap} {cl : Nm}
theorem funD_mk {x qual : Str} {st : Stmt} {f : Addr} {oc : Value} {od an : Option Addr} {osl : Array (Option Value)} {kV doc pm cdv ct : Value} (l : K.lookup f = some ⟨oc, od, .func (PySem.W.fnOf x qual (defArgs st) (defBody st) (defScope st) .none kV doc pm an cdv ct), osl⟩)
    (c : PySem.W.codeIn K cdv qual = true) (k : PySem.W.keepIn K (.ref f) = true) : FunD K x qual (defArgs st) (defBody st) (defScope st) [] [] f (PySem.W.fnOf x qual (defArgs st) (defBody st) (defScope st) .none kV doc pm an cdv ct) :=
  ⟨⟨oc, od, .none, kV, doc, pm, an, cdv, ct, osl, rfl, l, c, .inl ⟨rfl, rfl⟩, .inl rfl⟩, k⟩
theorem has_mk {x : Str} {f : Addr} {fd : FuncData} {params : Arguments} {body : List Stmt} {scope : Scope} {k : Nat} {ps : List Str} {G : List D → Res D} (F : FunD K x x params body scope [] [] f fd) (hm : mg x = some (.ref f)) (ok : FnG P w K mg base k f fd ps (spD K cl G))
    (hb : ∀ (kV doc pm : Value) (an : Option Addr) (cdv ct : Value) (us : List Value), us.length = ps.length → bindArgs (PySem.W.fnOf x x params body scope .none kV doc pm an cdv ct) ⟨us, []⟩ = pure (ps.zip us)) : Has P w K mg base cl k x ps G :=
  ⟨f, fd, hm, F.kp, F.bindsN hb, ok⟩
theorem has_mkC {x : Str} {f : Addr} {fd : FuncData} {params : Arguments} {body : List Stmt} {scope : Scope} {k : Nat} {ps : List Str} {G : List Cell → Res D} (F : FunD K x x params body scope [] [] f fd) (hm : mg x = some (.ref f)) (ok : FnG P w K mg base k f fd ps (spC K cl G))
    (hb : ∀ (kV doc pm : Value) (an : Option Addr) (cdv ct : Value) (us : List Value), us.length = ps.length → bindArgs (PySem.W.fnOf x x params body scope .none kV doc pm an cdv ct) ⟨us, []⟩ = pure (ps.zip us)) : HasC P w K mg base cl k x ps G :=
  ⟨f, fd, hm, F.kp, F.bindsN hb, ok⟩
theorem val_mk {x : Str} {f : Addr} {fd : FuncData} {params : Arguments} {body : List Stmt} {scope : Scope} {k j : Nat} {ps : List Str} {G : List D → Res D} (F : FunD K x x params body scope [] [] f fd) (ok : FnG P w K mg base k f fd ps (spD K cl G)) (hj : k ≤ j)
    (hb : ∀ (kV doc pm : Value) (an : Option Addr) (cdv ct : Value) (us : List Value), us.length = ps.length → bindArgs (PySem.W.fnOf x x params body scope .none kV doc pm an cdv ct) ⟨us, []⟩ = pure (ps.zip us)) : ∃ fd, PySem.W.keepIn K (.ref f) = true ∧ Binds K fd ps [] ∧ FnG P w K mg base j f fd ps (spD K cl G) :=
  ⟨fd, F.kp, F.bindsN hb, ok.up hj⟩
/-- what the text of __init__ at fI says, without the heap -/
structure InitTxt (P : Program) (st : Stmt) (qual : Str) (fs : List Str) : Prop where
  me : ∃ ar : Arg, ((defArgs st).posonlyargs ++ (defArgs st).args).head? = some ar ∧ ar.arg = "self"
  sk : (defScope st).names.lookup ("super" : Str) = some .globalImplicit
  ck : (defScope st).names.lookup ("__class__" : Str) = some .free
  fk : (defScope st).kind = .function
  lk : (defScope st).names.lookup ("self" : Str) = some .local
  top : (P.main.scope.names.lookup ("super" : Str)).isSome = false
  body : ∃ txt p0 p1 p2 p3 p4 p5 n, ∃ ps : List (Pos × Pos × Pos × Pos), ps.length = fs.length ∧ XMk.SupEv txt p0 p1 p2 p3 p4 n ∧ defBody st = XMk.sup txt p0 p1 p2 p3 p4 p5 n :: List.zipWith XMk.asg fs ps
  bnd : ∀ (s : Shared) (kV doc pm : Value) (an : Option Addr) (cdv ct : Value) (cc : Addr) (vs : List Value) (x : Value), vs.length = fs.length → BindsTo s (PySem.W.ksFn "__init__" qual (defArgs st) (defBody st) (defScope st) .none kV doc pm an cdv ct cc) ⟨x :: vs, []⟩ ((("self" : Str), x) :: fs.zip vs)
  cell : ∀ x ∈ (defScope st).names, x.2 ≠ .cell
  co : (defScope st).isCoroutine = false
  gen : (defScope st).isGenerator = false
  loc : ∀ f ∈ fs, (defScope st).names.lookup f = some .local ∧ f ≠ "self" ∧ (f == ("__debug__" : Str)) = false
  nd : fs.Nodup
  few : fs.length ≤ 3
theorem excTxt_mk {cn qual : Str} {fs : List Str} {C fI cc cda N : Addr} {st : Stmt} {nm q : Str} {bs bm : List Value} {sn : List Str} {sub : List Value} {ab : Bool} {col : Option Bool} {dd : Option Addr} {k0 k1 k2 k3 k5 : Option Value} {oc kV doc pm ct ccl ccl2 : Value} {od an cdd cld : Option Addr}
    {osl ccs csl : Array (Option Value)} {vs : Array Value} {file : Str} {tf : Tok} (T : InitTxt P st qual fs) (X : K.In h) (G : h.Ns mainGlobals mg)
    (a0 : PySem.W.nsIn K mainGlobals cn = some (some (.ref C))) (a1 : PySem.W.nsIn K mainGlobals "super" = some none)
    (a2 : K.lookup C = some (excClassObj nm q C N bs bm true sn sub ab col dd k0 k1 k2 k3 k5 "ValueError.__new__")) (a3 : PySem.HandSPX.refsVE bm = true) (a4 : PySem.W.findIn K (.ref C) "__setattr__" = some (some (.builtin "object.__setattr__")))
    (a5 : ∀ f ∈ fs, PySem.W.findIn K (.ref C) f = some none) (a6 : PySem.W.keepIn K (.ref C) = true) (a7 : PySem.W.subIn K (.ref C) (.type "BaseException") = some true) (a8 : PySem.W.subIn K (.ref C) (.type "ValueError") = some true) (a9 : PySem.W.typeIn K (.ref C) = some (.type "type"))
    (a10 : PySem.W.nsIn K cStatics "thirdparty.any" = some none) (a11 : PySem.W.ks_superIn K C C "__init__" = some (some (.builtin "ValueError.__init__"))) (a12 : PySem.W.findIn K (.ref C) "__init__" = some (some (.ref fI))) (a13 : PySem.W.typeIn K (.ref fI) = some (.type "function"))
    (a14 : K.lookup fI = some ⟨oc, od, .func (PySem.W.ksFn "__init__" qual (defArgs st) (defBody st) (defScope st) .none kV doc pm an (.ref cda) ct cc), osl⟩) (a15 : PySem.W.codeIn K (.ref cda) qual = true) (a16 : K.lookup cda = some ⟨ccl, cdd, .fields vs, ccs⟩) (a17 : vs[2]? = some (.str file tf))
    (a18 : ((P.main.file : Str) == file) = true) (a19 : K.lookup cc = some ⟨ccl2, cld, .cell (some (.ref C)), csl⟩) (a21 : PySem.W.mroIn K C (.ref C) = some true) : XMk.ExcTxt P K mg cn fs C where
  gC := PySem.W.mg_of X G a0
  noSuper := PySem.W.mg_none_of X G a1
  cls := ⟨nm, q, N, bs, bm, sn, sub, ab, col, dd, k0, k1, k2, k3, k5, a2, a3⟩
  sa := a4
  no := a5
  kC := a6
  exC := a7
  veC := a8
  tyC := a9
  opq := a10
  ini := a11
  fn := ⟨fI, cc, cda, qual, defArgs st, defBody st, defScope st, a12, a13,
    { fn := ⟨oc, od, kV, doc, pm, an, ct, osl, a14⟩, cd := a15, me := T.me, file := ⟨ccl, cdd, vs, ccs, file, tf, a16, a17, a18⟩, cell := ⟨ccl2, cld, csl, a19⟩,
      cls := by unfold PySem.W.clsIn; rw [a2]; exact ⟨_, rfl⟩, mro := a21, sk := T.sk, ck := T.ck, fk := T.fk, lk := T.lk, top := T.top }, T.body, fun s kV doc pm an ct vs x => T.bnd s kV doc pm an _ ct cc vs x, T.cell, T.co, T.gen, T.loc, T.nd, T.few⟩
/-- of every class of the table -/
theorem tab_all {l : List (String × Addr)} {R : String → Addr → Prop} (hl : ∀ p ∈ l, R p.1 p.2) : ∀ (cn : String) (C : Addr), l.lookup cn = some C → R cn C := by
  intro cn C e
  induction l with
  | nil => cases e
  | cons p l ih =>
    rw [List.lookup_cons] at e
    cases q : cn == p.1 with
    | true =>
      rw [q] at e
      cases e
      have : cn = p.1 := by simpa using q
      rw [this]
      exact hl p List.mem_cons_self
    | false =>
      rw [q] at e
      exact ih (fun y hy => hl y (List.mem_cons_of_mem _ hy)) e
theorem pin {o x : Option Bool} (e : x = o) : ∀ b, o = some b → x = some b := fun b z => e.trans z
theorem exm_mk {C T : Addr} {b : Bool} {o : Option Bool} (h1 : PySem.W.subIn K (.ref T) (.type "BaseException") = some true) (h2 : PySem.W.hasDictIn K T = true) (h3 : PySem.W.typeIn K (.ref T) = some (.type "type")) (h4 : PySem.W.subIn K (.ref C) (.ref T) = some b) (e : some b = o) :
    ∀ b, o = some b → PySem.W.exmOne K (.ref C) (.ref T) = some b := pin ((PySem.W.exm_ref h1 h2 h3 h4).trans e)
end
end Mir
namespace Mir
open PySem PySem.Spec L2
/-- of every entry of a written table -/
theorem tabL (l : List (Str × D)) {R : Str → D → Prop} (hl : ∀ p ∈ l, R p.1 p.2) : ∀ (z : Str) (d : D), l.lookup z = some d → R z d := by
  intro z d e
  induction l with
  | nil => cases e
  | cons p l ih =>
    rw [List.lookup_cons] at e
    cases q : z == p.1 with
    | true =>
      rw [q] at e
      cases e
      have : z = p.1 := by simpa using q
      rw [this]
      exact hl p List.mem_cons_self
    | false =>
      rw [q] at e
      exact ih (fun y hy => hl y (List.mem_cons_of_mem _ hy)) e
end Mir

/-! NearA: the draws of every law. -/
namespace Near
open PySem PySem.Spec L2 Mir
@[simp] theorem bind_ok {α β : Type} (a : α) (f : α → Res β) : (Res.ok a).bind f = f a := rfl
@[simp] theorem chk_t {α : Type} {c : Prop} [Decidable c] (h : c) (r : Res α) : chk c r = r := chk_pos h
def drawBody : SF := (sSeq (sSet (setV 5) (eC (.int 0)))
    (sSeq (sIf (eB2 igtD (eB1 lenD (eVarB 2)) (eC (.int 0))) (sSeq (sSet (setV 6) (eB2 modD (eB1 intD (eVarB 4)) (eB1 lenD (eVarB 2))))
    (sIf (eB2 igeD (eB2 ixD (eVarB 2) (eVarB 6)) (eB2 powD (eC (.int 10)) (eC (.int 18)))) (sSeq (sSet (setV 5) (eB2 modD (eB1 intD (eB2 ixD (eVarB 2) (eVarB 6))) (eC (.int 1000))))
    (sPutL 2 (eVar 6) (eB2 fdivD (eB2 ixD (eVarB 2) (eVarB 6)) (eC (.int 1000))))) (sSeq (sSet (setV 7) (eB2 modD (eB1 intD (eB2 addD (eB2 addD (eB2 mulD (eB2 ixD (eVarB 2) (eVarB 6)) (eC (.int 48271))) (eB2 mulD (eVarB 4) (eC (.int 69621)))) (eC (.int 11)))) (eC (.int 2147483647))))
    (sSeq (sSet (setV 7) (eB2 modD (eB1 intD (eB2 addD (eB2 mulD (eVarB 7) (eC (.int 16807))) (eVarB 6))) (eC (.int 2147483629))))
    (sSet (setV 5) (eB2 modD (eB1 intD (eB2 fdivD (eVarB 7) (eC (.int 7)))) (eC (.int 1000)))))))) sNil)
    (sAppend 3 (eVar 5))))
def m_draws : List Mir.D → Res Mir.D := mkF 9 2
    (sSeq (sOwn 2 (eLc (eB1 iSeq (eVar 0)) [8] (setV 8) tYesB (eVar 8)))
    (sSeq (sOwn 3 (eB1 lstD eNil))
    (sSeq (sFor (eB1 iRange1 (eVarB 1)) (setV 4) drawBody)
    (sFrz 3 (sRet (eVar 3))))))
/-! ### running a mirror -/
theorem seq_nx {g h : SF} {e e' : Mir.Env} (p : g e = .nx e') : sSeq g h e = h e' := by unfold sSeq; rw [p]
theorem seq_rt {g h : SF} {e : Mir.Env} {d : Mir.D} (p : g e = .rt d) : sSeq g h e = .rt d := by unfold sSeq; rw [p]
theorem seq_ex {g h : SF} {e e' : Mir.Env} {x : Exn} (p : g e = .ex x e') : sSeq g h e = .ex x e' := by unfold sSeq; rw [p]
theorem set_ok {i : Nat} {f : Mir.Env → Res Mir.D} {e : Mir.Env} {d : Mir.D} (p : f e = .ok d) : sSet (setV i) f e = .nx (e.set i (some (.dat d))) := by unfold sSet; rw [p]; rfl
theorem setT_ok {is : List Nat} {f : Mir.Env → Res Mir.D} {e e' : Mir.Env} {d : Mir.D} (p : f e = .ok d) (q : setT is d e = .ok e') : sSet (setT is) f e = .nx e' := by unfold sSet; rw [p]; show resOut e (setT is d e) = _; rw [q]; rfl
theorem own_ok {i : Nat} {f : Mir.Env → Res Mir.D} {e : Mir.Env} {d : Mir.D} (p : f e = .ok d) : sOwn i f e = .nx (e.set i (some (.own d))) := by unfold sOwn; rw [p]; rfl
theorem if_t {t : Mir.Env → Res Bool} {g h : SF} {e : Mir.Env} (p : t e = .ok true) : sIf t g h e = g e := by unfold sIf; rw [p]; rfl
theorem if_f {t : Mir.Env → Res Bool} {g h : SF} {e : Mir.Env} (p : t e = .ok false) : sIf t g h e = h e := by unfold sIf; rw [p]; rfl
theorem ret_ok {f : Mir.Env → Res Mir.D} {e : Mir.Env} {d : Mir.D} (p : f e = .ok d) : sRet f e = .rt d := by unfold sRet; rw [p]
theorem app_ok {i : Nat} {f : Mir.Env → Res Mir.D} {e : Mir.Env} {d : Mir.D} {xs : List Mir.D} (o : ownL e i = .ok xs) (p : f e = .ok d) (h : xs.length < sizeLine) : sAppend i f e = .nx (e.set i (some (.own (.list (xs ++ [d]))))) := by
  unfold sAppend; rw [o]; show resOut e ((f e).bind _) = _; rw [p]; show resOut e (chk _ _) = _; rw [chk_pos h]; rfl
theorem put_ok {i : Nat} {kk f : Mir.Env → Res Mir.D} {e : Mir.Env} {d : Mir.D} {xs : List Mir.D} {j : Int} {n : Nat} (p : f e = .ok d) (o : ownL e i = .ok xs) (q : kk e = .ok (.int j)) (h : ixN xs.length j = some n) : sPutL i kk f e = .nx (e.set i (some (.own (.list (xs.set n d))))) := by
  unfold sPutL; rw [p]; show resOut e ((ownL e i).bind _) = _; rw [o]; show resOut e ((kk e).bind _) = _; rw [q]; show resOut e (match ixN xs.length j with | some n => _ | none => _) = _; rw [h]; rfl
theorem b1_ok {α β : Type} {op : α → Res β} {f : Mir.Env → Res α} {e : Mir.Env} {x : α} {r : Res β} (p : f e = .ok x) (q : op x = r) : eB1 op f e = r := by unfold eB1; rw [p]; exact q
theorem b2_ok {α β γ : Type} {op : α → β → Res γ} {f : Mir.Env → Res α} {g : Mir.Env → Res β} {e : Mir.Env} {x : α} {y : β} {r : Res γ} (p : f e = .ok x) (q : g e = .ok y) (h : op x y = r) : eB2 op f g e = r := by
  unfold eB2; rw [p]; show (g e).bind _ = _; rw [q]; exact h
theorem mod_ok {i j : Int} (h : 0 < j) : modD (.int i) (.int j) = .ok (.int (i % j)) := chk_pos h
theorem fdiv_ok {i j : Int} (h : 0 < j ∧ j < 1073741824) : fdivD (.int i) (.int j) = .ok (.int (i / j)) := chk_pos h
theorem mul_okR {i j : Int} (h : -(2 ^ 64) < j ∧ j < 2 ^ 64) : mulD (.int i) (.int j) = .ok (.int (i * j)) := chk_pos (.inr h)
theorem mul_okL {i j : Int} (h : -(2 ^ 64) < i ∧ i < 2 ^ 64) : mulD (.int i) (.int j) = .ok (.int (i * j)) := chk_pos (.inl h)
theorem pow_ok {i j : Int} (h : 0 ≤ j ∧ j ≤ 1000000 ∧ i.natAbs < 2 ^ 64) : powD (.int i) (.int j) = .ok (.int (i ^ j.toNat)) := chk_pos h
theorem mkF_ok {n ps : Nat} {g : SF} {ds : List Mir.D} (h : ds.length = ps) : mkF n ps g ds = outRes (g (startE n ds)) := chk_pos h
theorem for_nx {set : Mir.D → Mir.Env → Res Mir.Env} {body : SF} {x : Mir.D} {r : List Mir.D} {e e1 e2 : Mir.Env} (h1 : set x e = .ok e1) (h2 : body e1 = .nx e2) : forGo set body (x :: r) e = forGo set body r e2 := by
  rw [forGo, h1]
  show (match body e1 with | .nx e2 => forGo set body r e2 | .ct e2 => forGo set body r e2 | .bk e2 => .nx e2 | o => o) = _
  rw [h2]
theorem for_ct {set : Mir.D → Mir.Env → Res Mir.Env} {body : SF} {x : Mir.D} {r : List Mir.D} {e e1 e2 : Mir.Env} (h1 : set x e = .ok e1) (h2 : body e1 = .ct e2) : forGo set body (x :: r) e = forGo set body r e2 := by
  rw [forGo, h1]
  show (match body e1 with | .nx e2 => forGo set body r e2 | .ct e2 => forGo set body r e2 | .bk e2 => .nx e2 | o => o) = _
  rw [h2]
theorem for_bk {set : Mir.D → Mir.Env → Res Mir.Env} {body : SF} {x : Mir.D} {r : List Mir.D} {e e1 e2 : Mir.Env} (h1 : set x e = .ok e1) (h2 : body e1 = .bk e2) : forGo set body (x :: r) e = .nx e2 := by
  rw [forGo, h1]
  show (match body e1 with | .nx e2 => forGo set body r e2 | .ct e2 => forGo set body r e2 | .bk e2 => .nx e2 | o => o) = _
  rw [h2]
theorem for_rt {set : Mir.D → Mir.Env → Res Mir.Env} {body : SF} {x : Mir.D} {r : List Mir.D} {e e1 : Mir.Env} {d : Mir.D} (h1 : set x e = .ok e1) (h2 : body e1 = .rt d) : forGo set body (x :: r) e = .rt d := by
  rw [forGo, h1]
  show (match body e1 with | .nx e2 => forGo set body r e2 | .ct e2 => forGo set body r e2 | .bk e2 => .nx e2 | o => o) = _
  rw [h2]
theorem for_ex {set : Mir.D → Mir.Env → Res Mir.Env} {body : SF} {x : Mir.D} {r : List Mir.D} {e e1 e2 : Mir.Env} {y : Exn} (h1 : set x e = .ok e1) (h2 : body e1 = .ex y e2) : forGo set body (x :: r) e = .ex y e2 := by
  rw [forGo, h1]
  show (match body e1 with | .nx e2 => forGo set body r e2 | .ct e2 => forGo set body r e2 | .bk e2 => .nx e2 | o => o) = _
  rw [h2]
theorem sFor_ok {it : Mir.Env → Res (List Mir.D)} {set : Mir.D → Mir.Env → Res Mir.Env} {body : SF} {e : Mir.Env} {xs : List Mir.D} (h : it e = .ok xs) : sFor it set body e = forGo set body xs e := by unfold sFor; rw [h]
theorem ix_ok {xs : List Mir.D} {i : Int} {d : Mir.D} (h : atI xs i = some d) : ixD (.list xs) (.int i) = .ok d := by show (match atI xs i with | some d => Res.ok d | none => Res.no) = _; rw [h]
theorem ixN_nat {n j : Nat} (h : j < n) : ixN n (j : Int) = some j := by
  unfold ixN
  rw [if_pos (by omega), if_pos (by omega), Int.toNat_natCast]
abbrev intsD (l : List Int) : Mir.D := .list (l.map .int)
/-- the frame of the draws -/
abbrev dE (s c : Mir.D) (rs ds : List Int) (x4 x5 x6 x7 x8 : Option Cell) : Mir.Env := [some (.dat s), some (.dat c), some (.own (intsD rs)), some (.own (intsD ds)), x4, x5, x6, x7, x8]
theorem at_intsD {rs : List Int} {j : Nat} (h : j < rs.length) : atI (rs.map PyData.int) (j : Int) = some (.int rs[j]) := atI_nat (by rw [List.getElem?_map, List.getElem?_eq_getElem h]; rfl)
theorem ten18 : ((10 : Int) ^ (18 : Int).toNat) = 1000000000000000000 := by decide
theorem draw_step {s c : Mir.D} {rs ds : List Int} {x5 x6 x7 x8 : Option Cell} (k : Nat) (hd : ds.length < sizeLine) :
    ∃ rs' v y5 y6 y7, rs'.length = rs.length ∧ 0 ≤ v ∧ v < 1000 ∧ drawBody (dE s c rs ds (some (.dat (.int k))) x5 x6 x7 x8) = .nx (dE s c rs' (ds ++ [v]) (some (.dat (.int k))) y5 y6 y7 x8) := by
  have fin : ∀ (rs' : List Int) (v : Int) (y6 y7 : Option Cell), sAppend 3 (eVar 5) (dE s c rs' ds (some (.dat (.int k))) (some (.dat (.int v))) y6 y7 x8) = .nx (dE s c rs' (ds ++ [v]) (some (.dat (.int k))) (some (.dat (.int v))) y6 y7 x8) := by
    intro rs' v y6 y7
    refine (app_ok (xs := ds.map PyData.int) (d := PyData.int v) rfl rfl (by simpa using hd)).trans ?_
    show Out.nx (dE s c rs' ds (some (.dat (.int k))) (some (.dat (.int v))) y6 y7 x8 |>.set 3 _) = _
    simp [dE]
  have st1 : ∀ {g : SF}, sSeq (sSet (setV 5) (eC (.int 0))) g (dE s c rs ds (some (.dat (.int k))) x5 x6 x7 x8) = g (dE s c rs ds (some (.dat (.int k))) (some (.dat (.int 0))) x6 x7 x8) := fun {g} => seq_nx rfl
  unfold drawBody
  rw [st1]
  cases rs with
  | nil =>
    refine ⟨[], 0, _, _, _, rfl, by omega, by omega, (seq_nx (e' := dE s c [] ds (some (.dat (.int k))) (some (.dat (.int 0))) x6 x7 x8) (if_f rfl)).trans (fin [] 0 _ _)⟩
  | cons r0 rs0 =>
    generalize hrs : r0 :: rs0 = rs
    have hp : 0 < rs.length := by rw [← hrs]; simp
    have hj : k % rs.length < rs.length := Nat.mod_lt _ hp
    generalize hjj : k % rs.length = j at hj
    have hat := at_intsD (rs := rs) hj
    generalize hz : rs[j] = z at hat
    have hlen : ((rs.map PyData.int).length : Int) = (rs.length : Int) := by simp
    have hpos : (0 : Int) < ((rs.map PyData.int).length : Int) := by rw [hlen]; omega
    have hm : (k : Int) % ((rs.map PyData.int).length : Int) = (j : Int) := by rw [hlen, ← hjj]; rfl
    have t1 : eB2 igtD (eB1 lenD (eVarB 2)) (eC (.int 0)) (dE s c rs ds (some (.dat (.int k))) (some (.dat (.int 0))) x6 x7 x8) = .ok true := by
      show Res.ok (decide ((0 : Int) < ((rs.map PyData.int).length : Int))) = _
      rw [decide_eq_true hpos]
    have s6 : sSet (setV 6) (eB2 modD (eB1 intD (eVarB 4)) (eB1 lenD (eVarB 2))) (dE s c rs ds (some (.dat (.int k))) (some (.dat (.int 0))) x6 x7 x8) = .nx (dE s c rs ds (some (.dat (.int k))) (some (.dat (.int 0))) (some (.dat (.int j))) x7 x8) := by
      refine (set_ok (d := PyData.int j) (b2_ok (x := PyData.int k) (y := PyData.int ((rs.map PyData.int).length : Int)) rfl rfl ?_)).trans rfl
      rw [mod_ok hpos, hm]
    have rd : ∀ (y5 y7 : Option Cell), eB2 ixD (eVarB 2) (eVarB 6) (dE s c rs ds (some (.dat (.int k))) y5 (some (.dat (.int j))) y7 x8) = .ok (.int z) := fun y5 y7 => b2_ok (x := intsD rs) (y := PyData.int j) rfl rfl (ix_ok hat)
    have ten : eB2 powD (eC (PyData.int 10)) (eC (PyData.int 18)) (dE s c rs ds (some (.dat (.int k))) (some (.dat (.int 0))) (some (.dat (.int j))) x7 x8) = .ok (.int 1000000000000000000) := b2_ok rfl rfl (pow_ok (by decide))
    have t2 : eB2 igeD (eB2 ixD (eVarB 2) (eVarB 6)) (eB2 powD (eC (.int 10)) (eC (.int 18))) (dE s c rs ds (some (.dat (.int k))) (some (.dat (.int 0))) (some (.dat (.int j))) x7 x8) = .ok (decide ((1000000000000000000 : Int) ≤ z)) :=
      b2_ok (rd _ _) ten rfl
    by_cases hbig : (1000000000000000000 : Int) ≤ z
    · rw [decide_eq_true hbig] at t2
      refine ⟨rs.set j (z / 1000), z % 1000, _, _, _, by simp, by omega, by omega, (seq_nx (e' := dE s c (rs.set j (z / 1000)) ds (some (.dat (.int k))) (some (.dat (.int (z % 1000)))) (some (.dat (.int j))) x7 x8) ?_).trans (fin _ _ _ _)⟩
      refine (if_t t1).trans ((seq_nx s6).trans ((if_t t2).trans ?_))
      refine (seq_nx (e' := dE s c rs ds (some (.dat (.int k))) (some (.dat (.int (z % 1000)))) (some (.dat (.int j))) x7 x8) ?_).trans ?_
      · exact set_ok (d := PyData.int (z % 1000)) (b2_ok (b1_ok (rd _ _) rfl) rfl (mod_ok (by decide)))
      · refine (put_ok (xs := rs.map PyData.int) (d := PyData.int (z / 1000)) (j := (j : Int)) (n := j) (b2_ok (rd _ _) rfl (fdiv_ok (by decide))) rfl rfl (ixN_nat (by simpa using hj))).trans ?_
        show Out.nx ((dE s c rs ds (some (.dat (.int k))) (some (.dat (.int (z % 1000)))) (some (.dat (.int j))) x7 x8).set 2 _) = _
        rw [← List.map_set]
        rfl
    · rw [decide_eq_false hbig] at t2
      refine ⟨rs, _, _, _, _, rfl, ?_, ?_, (seq_nx (e' := dE s c rs ds (some (.dat (.int k))) (some (.dat (.int (((((z * 48271 + k * 69621 + 11) % 2147483647) * 16807 + j) % 2147483629) / 7 % 1000)))) (some (.dat (.int j))) (some (.dat (.int (((z * 48271 + k * 69621 + 11) % 2147483647 * 16807 + j) % 2147483629)))) x8) ?_).trans (fin _ _ _ _)⟩
      · exact Int.emod_nonneg _ (by decide)
      · exact Int.emod_lt_of_pos _ (by decide)
      refine (if_t t1).trans ((seq_nx s6).trans ((if_f t2).trans ?_))
      refine (seq_nx (e' := dE s c rs ds (some (.dat (.int k))) (some (.dat (.int 0))) (some (.dat (.int j))) (some (.dat (.int ((z * 48271 + k * 69621 + 11) % 2147483647)))) x8) ?_).trans ?_
      · exact set_ok (d := PyData.int ((z * 48271 + k * 69621 + 11) % 2147483647)) (b2_ok (x := PyData.int (z * 48271 + k * 69621 + 11)) (y := PyData.int 2147483647) (b1_ok (x := PyData.int (z * 48271 + k * 69621 + 11)) (b2_ok (x := PyData.int (z * 48271 + k * 69621)) (y := PyData.int 11) (b2_ok (x := PyData.int (z * 48271)) (y := PyData.int (k * 69621)) (b2_ok (rd _ _) rfl (mul_okR (j := 48271) (by decide))) (b2_ok (x := PyData.int k) rfl rfl (mul_okR (j := 69621) (by decide))) rfl) rfl rfl) rfl) rfl (mod_ok (j := 2147483647) (by decide)))
      refine (seq_nx (e' := dE s c rs ds (some (.dat (.int k))) (some (.dat (.int 0))) (some (.dat (.int j))) (some (.dat (.int (((z * 48271 + k * 69621 + 11) % 2147483647 * 16807 + j) % 2147483629)))) x8) ?_).trans ?_
      · exact set_ok (d := PyData.int (((z * 48271 + k * 69621 + 11) % 2147483647 * 16807 + j) % 2147483629)) (b2_ok (x := PyData.int ((z * 48271 + k * 69621 + 11) % 2147483647 * 16807 + j)) (y := PyData.int 2147483629) (b1_ok (x := PyData.int ((z * 48271 + k * 69621 + 11) % 2147483647 * 16807 + j)) (b2_ok (x := PyData.int ((z * 48271 + k * 69621 + 11) % 2147483647 * 16807)) (y := PyData.int j) (b2_ok (x := PyData.int ((z * 48271 + k * 69621 + 11) % 2147483647)) rfl rfl (mul_okR (by decide))) rfl rfl) rfl) rfl (mod_ok (by decide)))
      exact set_ok (d := PyData.int (((z * 48271 + k * 69621 + 11) % 2147483647 * 16807 + j) % 2147483629 / 7 % 1000)) (b2_ok (b1_ok (b2_ok (x := PyData.int (((z * 48271 + k * 69621 + 11) % 2147483647 * 16807 + j) % 2147483629)) rfl rfl (fdiv_ok (by decide))) rfl) rfl (mod_ok (by decide)))
theorem draw_loop {s c : Mir.D} {x8 : Option Cell} : ∀ (n k : Nat) (rs ds : List Int) (x4 x5 x6 x7 : Option Cell), ds.length + n ≤ 1000 → (∀ v ∈ ds, 0 ≤ v ∧ v < 1000) →
    ∃ rs' ds' y4 y5 y6 y7, ds'.length = ds.length + n ∧ (∀ v ∈ ds', 0 ≤ v ∧ v < 1000) ∧ forGo (setV 4) drawBody ((List.range' k n).map fun i => PyData.int (0 + ((i : Nat) : Int))) (dE s c rs ds x4 x5 x6 x7 x8) = .nx (dE s c rs' ds' y4 y5 y6 y7 x8)
  | 0, k, rs, ds, x4, x5, x6, x7, _, hv => ⟨rs, ds, x4, x5, x6, x7, rfl, hv, rfl⟩
  | n + 1, k, rs, ds, x4, x5, x6, x7, hl, hv => by
    obtain ⟨rs1, v, y5, y6, y7, _, h0, h1, e1⟩ := draw_step (s := s) (c := c) (rs := rs) (ds := ds) (x5 := x5) (x6 := x6) (x7 := x7) (x8 := x8) k (Nat.lt_of_le_of_lt (by omega : ds.length ≤ 1000) (by decide))
    obtain ⟨rs2, ds2, z4, z5, z6, z7, l2, v2, e2⟩ := draw_loop n (k + 1) rs1 (ds ++ [v]) (some (.dat (.int k))) y5 y6 y7 (by simp; omega) (by
      intro u hu
      rcases List.mem_append.mp hu with hu | hu -- here
      · exact hv u hu
      · rw [List.mem_singleton] at hu; subst hu; exact ⟨h0, h1⟩)
    refine ⟨rs2, ds2, z4, z5, z6, z7, by rw [l2]; simp; omega, v2, ?_⟩
    rw [List.range'_succ, List.map_cons]
    refine (for_nx (e1 := dE s c rs ds (some (.dat (.int k))) x5 x6 x7 x8) ?_ e1).trans e2
    rw [show (0 + (k : Int)) = (k : Int) from Int.zero_add _]
    rfl
theorem lc_id {e : Mir.Env} (he : 8 < e.length) : ∀ {l acc : List Mir.D}, acc.length + l.length ≤ sizeLine → lcGo (setV 8) tYesB (eVar 8) e l acc = .ok (acc ++ l)
  | [], acc, _ => by rw [List.append_nil]; rfl
  | x :: l, acc, h => by
    have hl : acc.length < sizeLine := by simp only [List.length_cons] at h; omega
    have get : eVar 8 (e.set 8 (some (.dat x))) = .ok x := by unfold eVar; rw [List.getElem?_set_self he]
    show (nox (eVar 8 (e.set 8 (some (.dat x))))).bind (fun y => chk (acc.length < sizeLine) (lcGo (setV 8) tYesB (eVar 8) e l (acc ++ [y]))) = _
    rw [get]
    show chk (acc.length < sizeLine) (lcGo (setV 8) tYesB (eVar 8) e l (acc ++ [x])) = _
    rw [chk_pos hl, lc_id he (by simp only [List.length_append, List.length_cons, List.length_nil] at h ⊢; omega), List.append_assoc]
    rfl
/-- the draws of a law -/
theorem draws (ns : List Int) (c : Nat) (hc : c ≤ 1000) (hn : ns.length ≤ 63) : ∃ ds : List Int, ds.length = c ∧ (∀ v ∈ ds, 0 ≤ v ∧ v < 1000) ∧ m_draws [intsD ns, .int c] = .ok (intsD ds) := by
  obtain ⟨rs, ds, y4, y5, y6, y7, hl, hv, run⟩ := draw_loop (s := intsD ns) (c := .int c) (x8 := none) c 0 ns [] none none none none (by simpa using hc) (fun _ h => by cases h)
  refine ⟨ds, by simpa using hl, hv, ?_⟩
  have e0 : eLc (eB1 iSeq (eVar 0)) [8] (setV 8) tYesB (eVar 8) [some (.dat (intsD ns)), some (.dat (.int c)), none, none, none, none, none, none, none] = .ok (intsD ns) := by
    show (lcGo (setV 8) tYesB (eVar 8) (wipeE [8] [some (.dat (intsD ns)), some (.dat (.int c)), none, none, none, none, none, none, none]) (ns.map PyData.int) []).bind _ = _
    rw [lc_id (by show 8 < 9; decide) (by simp; exact Nat.le_trans hn (by decide))]
    rfl
  have hr : eB1 iRange1 (eVarB 1) (dE (intsD ns) (.int c) ns [] none none none none none) = .ok ((List.range' 0 c).map fun i => PyData.int (0 + ((i : Nat) : Int))) := by
    refine b1_ok (x := PyData.int c) rfl ?_
    show chk _ (Res.ok (rngL 0 (c : Int).toNat)) = _
    rw [chk_pos ⟨by omega, by omega⟩, Int.toNat_natCast]
    show Res.ok ((List.range c).map _) = _
    rw [List.range_eq_range']
  refine (mkF_ok rfl).trans ?_
  show outRes (sSeq _ _ [some (.dat (intsD ns)), some (.dat (.int c)), none, none, none, none, none, none, none]) = _
  rw [seq_nx (own_ok e0)]
  rw [seq_nx (e' := dE (intsD ns) (.int c) ns [] none none none none none) (own_ok (d := PyData.list []) (b1_ok (x := ([] : List Mir.D)) rfl (chk_pos (by decide))))]
  rw [seq_nx (e' := dE (intsD ns) (.int c) rs ds y4 y5 y6 y7 none)]
  · rfl
  · exact (sFor_ok hr).trans run
end Near

/-! NearT: the texts of a town, the mirrors read as plain functions. -/
namespace Near
open PySem PySem.Spec L2 Mir
def counts : List (Str × Mir.D) := [("places", (.int 1)), ("road", (.int 3))]
def m_is_within : List Mir.D → Res Mir.D := mkF 3 3
    (sRet (eAnd (eB1 (isiD isInt) (eVarB 0)) (eAnd (eB1 notD (eB1 (isiD isBool) (eVarB 0))) (vB (eChain (fun i j => decide (i ≤ j)) (fun i j => decide (i ≤ j)) (eVarB 1) (eVarB 0) (eVarB 2))))))
def m_is_road : List Mir.D → Res Mir.D := mkF 5 2
    (sSeq (sSet (setT [2, 3, 4]) (eVar 1))
    (sSeq (sIf (bOr (bNot (eB1 truD (eB1 m_is_within (eCons (eVar 2) (eCons (eC (.int 0)) (eCons (eB2 subD (eVarB 0) (eC (.int 1))) eNil)))))) (bNot (eB1 truD (eB1 m_is_within (eCons (eVar 3) (eCons (eC (.int 0)) (eCons (eB2 subD (eVarB 0) (eC (.int 1))) eNil))))))) (sRet (eC (.bool false))) sNil)
    (sRet (eAnd (vB (eB2 iltD (eVarB 2) (eVarB 3))) (eB1 m_is_within (eCons (eVar 4) (eCons (eC (.int 1)) (eCons (eC (.int 9)) eNil))))))))
def checkBody : SF := (sIf (bOr (bNot (eB1 truD (eB1 m_is_road (eCons (eVar 1) (eCons (eVar 4) eNil))))) (bAnd (eB2 igtD (eVarB 3) (eC (.int 0))) (eB2 tgeD (eB3 sliceD (eB2 ixD (eVarB 2) (eB2 subD (eVarB 3) (eC (.int 1)))) eNone (eSome (eC (.int 2)))) (eB3 sliceD (eVarB 4) eNone (eSome (eC (.int 2)))))))
  (sRaise "BadRoad" ["at"] (eCons (eVar 3) eNil)) sNil)
def m_check_town : List Mir.D → Res Mir.D := mkF 5 1
    (sSeq (sSet (setT [1, 2]) (eVar 0))
    (sSeq (sIf (bNot (eB1 truD (eB1 m_is_within (eCons (eVar 1) (eCons (eC (.int 1)) (eCons (eC (.int 7)) eNil)))))) (sRaise "BadSize" [] eNil) sNil)
    (sFor (eB1 iEnum (eVar 2)) (setT [3, 4]) checkBody)))
def m_read_number : List Mir.D → Res Mir.D := mkF 2 1
    (sSeq (sIf (bOr (bNot (eChain (fun i j => decide (i ≤ j)) (fun i j => decide (i ≤ j)) (eC (.int 1)) (eB1 lenD (eVarB 0)) (eC (.int 3)))) (bNot (eB1 truD (eB1 allD (eLc (eB1 iStrD (eVar 0)) [1] (setV 1) tYesB (vB (eB2 inD (eVarB 1) (eC (.str ("0123456789" : Str)))))))))) (sRet (eC .none)) sNil)
    (sSeq (sIf (bAnd (eB2 eqD (eB2 ixD (eVarB 0) (eC (.int 0))) (eC (.str "0"))) (eB2 igtD (eB1 lenD (eVarB 0)) (eC (.int 1)))) (sRet (eC .none)) sNil)
    (sRet (eB1 intD (eVarB 0)))))
def lineBody : SF := (sSeq (sSet (setV 8) (eB1 m_read_number (eCons (eVar 7) eNil)))
    (sSeq (sIf (bOr (eB1 isND (eVarB 8)) (bAnd (eB1 notND (eVarB 3)) (eB2 eqD (eB1 lenD (eVarB 5)) (eVarB 3)))) (sRaise "BadText" ["line", "column"] (eCons (eVar 1) (eCons (eVar 6) eNil))) sNil)
    (sSeq (sAppend 5 (eVar 8))
    (sAug 6 addI (eB2 addD (eB1 lenD (eVarB 7)) (eC (.int 1)))))))
def m_read_line : List Mir.D → Res Mir.D := mkF 9 4
    (sSeq (sSet (setV 4) (eM1 splitD (eVar 0) (eC (.str " "))))
    (sSeq (sIf (eB2 neD (eB2 ixD (eVarB 4) (eC (.int 0))) (eVarB 2)) (sRaise "BadText" ["line", "column"] (eCons (eVar 1) (eCons (eC (.int 1)) eNil))) sNil)
    (sSeq (sOwn 5 (eB1 lstD eNil))
    (sSeq (sSet (setV 6) (eB2 addD (eB1 lenD (eVarB 2)) (eC (.int 2))))
    (sSeq (sFor (eB1 iSeq (eB3 sliceD (eVarB 4) (eSome (eC (.int 1))) eNone)) (setV 7) lineBody)
    (sSeq (sIf (bAnd (eB1 notND (eVarB 3)) (eB2 iltD (eB1 lenD (eVarB 5)) (eVarB 3))) (sRaise "BadText" ["line", "column"] (eCons (eVar 1) (eCons (eB2 subD (eVarB 6) (eC (.int 1))) eNil))) sNil)
    (sFrz 5 (sRet (eVar 5)))))))))
def m_lines_of : List Mir.D → Res Mir.D := mkF 2 1
    (sSeq (sSet (setV 1) (eM1 splitD (eVar 0) (eC (.str "\n"))))
    (sSeq (sIf (eB2 eqD (eB2 ixD (eVarB 1) (eB1 negD (eC (.int 1)))) (eC (.str ""))) (sRet (eB1 tupD (eCons (eB3 sliceD (eVarB 1) eNone (eSome (eB1 negD (eC (.int 1))))) (eCons (eC (.bool true)) eNil)))) sNil)
    (sRet (eB1 tupD (eCons (eVar 1) (eCons (eC (.bool false)) eNil))))))
def townBody : SF := (sSeq (sSet (setV 6) (eIf (eB2 igtD (eVarB 4) (eC (.int 0))) (eC (.str "road")) (eC (.str "places"))))
    (sAppend 3 (eB1 m_read_line (eCons (eVar 5) (eCons (eB2 addD (eVarB 4) (eC (.int 1))) (eCons (eVar 6) (eCons (eB1 (tabD counts) (eVar 6)) eNil)))))))
def m_read_town : List Mir.D → Res Mir.D := mkF 9 1
    (sSeq (sSet (setT [1, 2]) (eB1 m_lines_of (eCons (eVar 0) eNil)))
    (sSeq (sOwn 3 (eB1 lstD eNil))
    (sSeq (sFor (eB1 iEnum (eVar 1)) (setT [4, 5]) townBody)
    (sSeq (sIf (bNot (eB1 truD (eVarB 2))) (sRaise "BadText" ["line", "column"] (eCons (eB1 lenD (eVarB 1)) (eCons (eB2 addD (eB1 lenD (eB2 ixD (eVarB 1) (eB1 negD (eC (.int 1))))) (eC (.int 1))) eNil))) sNil)
    (sSeq (sIf (bNot (eB1 truD (eVarB 3))) (sRaise "BadText" ["line", "column"] (eCons (eC (.int 1)) (eCons (eC (.int 1)) eNil))) sNil)
    (sSeq (sSet (setV 7) (eB1 tupD (eCons (eB2 ixD (eB2 ixD (eVarB 3) (eC (.int 0))) (eC (.int 0))) (eCons (eLc (eB1 iSeq (eB3 sliceD (eVarB 3) (eSome (eC (.int 1))) eNone)) [8] (setV 8) tYesB (eB1 tupleD (eVarB 8))) eNil))))
    (sSeq (sExpr (eB1 m_check_town (eCons (eVar 7) eNil)))
    (sRet (eVar 7)))))))))

/-! ### read_number -/
abbrev isDig (c : Nat) : Bool := decide (48 ≤ c ∧ c ≤ 57)
/-- a word that is a number -/
def num? (w : Str) : Option Nat := if (1 ≤ w.length ∧ w.length ≤ 3) ∧ (TL.tl w).all isDig = true ∧ ¬ ((TL.tl w).head? = some 48 ∧ 1 < w.length) then some (NumText.digitsVal (TL.tl w)) else none
def numD (w : Str) : Mir.D := match num? w with | some v => .int v | none => .none
theorem dig_mem (c : Nat) : decide (c ∈ ("0123456789" : Str).cps.toList) = isDig c := by
  have e : ("0123456789" : Str).cps.toList = [48, 49, 50, 51, 52, 53, 54, 55, 56, 57] := by decide +kernel
  rw [e]
  unfold isDig
  rw [Bool.eq_iff_iff, decide_eq_true_iff, decide_eq_true_iff]
  simp only [List.mem_cons, List.not_mem_nil, or_false]
  omega
theorem lc_signs {e : Mir.Env} (he : 1 < e.length) : ∀ {l : List Nat} {acc : List Mir.D}, acc.length + l.length ≤ sizeLine →
    lcGo (setV 1) tYesB (vB (eB2 inD (eVarB 1) (eC (.str "0123456789")))) e (l.map fun c => PyData.str ⟨#[c]⟩) acc = .ok (acc ++ l.map fun c => .bool (isDig c))
  | [], acc, _ => by rw [List.map_nil, List.map_nil, List.append_nil]; rfl
  | c :: l, acc, h => by
    have hl : acc.length < sizeLine := by simp only [List.length_cons] at h; omega
    have get : vB (eB2 inD (eVarB 1) (eC (.str "0123456789"))) (e.set 1 (some (.dat (.str ⟨#[c]⟩)))) = .ok (.bool (isDig c)) := by
      have g : eVarB 1 (e.set 1 (some (.dat (.str ⟨#[c]⟩)))) = .ok (.str ⟨#[c]⟩) := by unfold eVarB; rw [List.getElem?_set_self he]
      have g2 : eB2 inD (eVarB 1) (eC (.str "0123456789")) (e.set 1 (some (.dat (.str ⟨#[c]⟩)))) = .ok (isDig c) := (b2_ok (op := inD) (r := .ok (decide (c ∈ ("0123456789" : Str).cps.toList))) g rfl rfl).trans (by rw [dig_mem])
      unfold vB
      rw [g2]
    show (nox (vB (eB2 inD (eVarB 1) (eC (.str "0123456789"))) (e.set 1 (some (.dat (.str ⟨#[c]⟩)))))).bind (fun y => chk (acc.length < sizeLine) (lcGo (setV 1) tYesB (vB (eB2 inD (eVarB 1) (eC (.str "0123456789")))) e (l.map fun c => PyData.str ⟨#[c]⟩) (acc ++ [y]))) = _
    rw [get]
    show chk (acc.length < sizeLine) (lcGo (setV 1) tYesB _ e (l.map fun c => PyData.str ⟨#[c]⟩) (acc ++ [_])) = _
    rw [chk_pos hl, lc_signs he (by simp only [List.length_append, List.length_cons, List.length_nil] at h ⊢; omega), List.append_assoc]
    rfl
theorem unBool_map : ∀ bs : List Bool, unBool (bs.map PyData.bool) = some bs
  | [] => rfl
  | b :: bs => by rw [List.map_cons, unBool, unBool_map bs]; rfl
theorem numL_of {l : List Nat} (h : l.all isDig = true) (h1 : 1 ≤ l.length) (h3 : l.length ≤ 3) (h0 : ¬ (l.head? = some 48 ∧ 1 < l.length)) : l = TL.numL (NumText.digitsVal l) := by
  have dig : ∀ c ∈ l, 48 ≤ c ∧ c ≤ 57 := fun c hc => of_decide_eq_true (List.all_eq_true.mp h c hc)
  match l, h1, h3 with
  | [a], _, _ =>
    have da := dig a (by simp)
    have e : NumText.digitsVal [a] = a - 48 := by simp [NumText.digitsVal]
    rw [e, TL.numL_lt (by omega)]
    congr 1
    omega
  | [a, b], _, _ =>
    have da := dig a (by simp)
    have db := dig b (by simp)
    have ne : a ≠ 48 := fun q => h0 ⟨by rw [q]; rfl, by simp⟩
    have e : NumText.digitsVal [a, b] = (a - 48) * 10 + (b - 48) := by simp [NumText.digitsVal]
    rw [e, TL.numL_step (by omega), TL.numL_lt (by omega), show ((a - 48) * 10 + (b - 48)) / 10 = a - 48 by omega, show ((a - 48) * 10 + (b - 48)) % 10 = b - 48 by omega, show 48 + (a - 48) = a by omega, show 48 + (b - 48) = b by omega]
    rfl
  | [a, b, c], _, _ =>
    have da := dig a (by simp)
    have db := dig b (by simp)
    have dc := dig c (by simp)
    have ne : a ≠ 48 := fun q => h0 ⟨by rw [q]; rfl, by simp⟩
    have e : NumText.digitsVal [a, b, c] = ((a - 48) * 10 + (b - 48)) * 10 + (c - 48) := by simp [NumText.digitsVal]
    rw [e, TL.numL_step (by omega), show (((a - 48) * 10 + (b - 48)) * 10 + (c - 48)) / 10 = (a - 48) * 10 + (b - 48) by omega, show (((a - 48) * 10 + (b - 48)) * 10 + (c - 48)) % 10 = c - 48 by omega, TL.numL_step (by omega), TL.numL_lt (by omega),
      show ((a - 48) * 10 + (b - 48)) / 10 = a - 48 by omega, show ((a - 48) * 10 + (b - 48)) % 10 = b - 48 by omega, show 48 + (a - 48) = a by omega, show 48 + (b - 48) = b by omega, show 48 + (c - 48) = c by omega]
    rfl
theorem word_num {w : Str} {v : Nat} (h : num? w = some v) : w = Str.ofString (toString (v : Int)) ∧ w.length ≤ 3 := by
  unfold num? at h
  split at h
  · rename_i c
    obtain ⟨⟨h1, h3⟩, hd, h0⟩ := c
    cases h
    refine ⟨TL.ext_tl ?_, h3⟩
    rw [TL.tl_num]
    rw [TL.len_tl] at h1 h3 h0
    exact numL_of hd h1 h3 h0
  · cases h
theorem and_t {t u : Mir.Env → Res Bool} {e : Mir.Env} (p : t e = .ok true) : bAnd t u e = u e := congrArg (fun r : Res Bool => r.bind fun b => if b = true then u e else .ok false) p
theorem and_f {t u : Mir.Env → Res Bool} {e : Mir.Env} (p : t e = .ok false) : bAnd t u e = .ok false := congrArg (fun r : Res Bool => r.bind fun b => if b = true then u e else .ok false) p
theorem or_t {t u : Mir.Env → Res Bool} {e : Mir.Env} (p : t e = .ok true) : bOr t u e = .ok true := congrArg (fun r : Res Bool => r.bind fun b => if b = true then .ok true else u e) p
theorem or_f {t u : Mir.Env → Res Bool} {e : Mir.Env} (p : t e = .ok false) : bOr t u e = u e := congrArg (fun r : Res Bool => r.bind fun b => if b = true then .ok true else u e) p
theorem not_ok {t : Mir.Env → Res Bool} {e : Mir.Env} {b : Bool} (p : t e = .ok b) : bNot t e = .ok (!b) := congrArg (fun r : Res Bool => r.bind fun b => .ok (!b)) p
theorem if_n {t : Mir.Env → Res Bool} {g : SF} {e : Mir.Env} (p : t e = .ok false) : sIf t g sNil e = .nx e := if_f p
theorem chain_ok {f g k : Mir.Env → Res Mir.D} {e : Mir.Env} {h h' : Int → Int → Bool} {i j l : Int} (p : f e = .ok (.int i)) (q : g e = .ok (.int j)) (r : k e = .ok (.int l)) : eChain h h' f g k e = .ok (h i j && h' j l) := by
  unfold eChain
  rw [p]
  show (g e).bind _ = _
  rw [q]
  show (if h i j = true then (k e).bind _ else _) = _
  by_cases c : h i j = true
  · rw [if_pos c, r, c]; rfl
  · rw [if_neg c]
    have : h i j = false := by simpa using c
    rw [this]; rfl
theorem shaped_sign {c : Nat} (h : c < 1114112) : SeqAt.shaped (.str ⟨#[c]⟩) = true := by
  unfold SeqAt.shaped PyData.canLay0 PyData.strOk PyData.depth
  simp [h]
theorem rn (w : Str) (hw : w.length ≤ sizeLine) : m_read_number [.str w] = .ok (numD w) := by
  unfold m_read_number
  refine (mkF_ok rfl).trans ?_
  generalize hE : startE 2 [PyData.str w] = E
  have hE : E = [some (.dat (.str w)), none] := hE.symm
  subst hE
  have len : eB1 lenD (eVarB 0) [some (.dat (.str w)), none] = .ok (.int w.length) := b1_ok (op := lenD) (x := PyData.str w) rfl (chk_pos hw)
  have chain := chain_ok (h := fun i j => decide (i ≤ j)) (h' := fun i j => decide (i ≤ j)) (f := eC (.int 1)) (k := eC (.int 3)) (e := [some (.dat (.str w)), none]) rfl len rfl
  have none_ : ∀ {g : SF} {t : Mir.Env → Res Bool}, t [some (.dat (.str w)), none] = .ok true → num? w = none → outRes (sSeq (sIf t (sRet (eC .none)) sNil) g [some (.dat (.str w)), none]) = .ok (numD w) := by
    intro g t ht hn
    rw [seq_rt ((if_t ht).trans (ret_ok (d := .none) rfl))]
    unfold numD
    rw [hn]
    rfl
  by_cases h13 : 1 ≤ w.length ∧ w.length ≤ 3
  · have chain : eChain (fun i j => decide (i ≤ j)) (fun i j => decide (i ≤ j)) (eC (.int 1)) (eB1 lenD (eVarB 0)) (eC (.int 3)) [some (.dat (.str w)), none] = .ok true := by
      rw [chain, decide_eq_true (by omega : (1 : Int) ≤ (w.length : Int)), decide_eq_true (by omega : (w.length : Int) ≤ 3)]; rfl
    have hl : (TL.tl w).length = w.length := (TL.len_tl w).symm
    have lst : eLc (eB1 iStrD (eVar 0)) [1] (setV 1) tYesB (vB (eB2 inD (eVarB 1) (eC (.str "0123456789")))) [some (.dat (.str w)), none] = .ok (.list (((TL.tl w).map isDig).map PyData.bool)) := by
      show (lcGo (setV 1) tYesB _ (wipeE [1] [some (.dat (.str w)), none]) ((TL.tl w).map fun c => PyData.str ⟨#[c]⟩) []).bind _ = _
      rw [lc_signs (by show 1 < 2; decide) (by simp only [List.length_nil, hl]; omega)]
      show Res.ok (PyData.list ([] ++ (TL.tl w).map fun c => .bool (isDig c))) = _
      rw [List.nil_append, List.map_map]
      rfl
    have all_ : eB1 truD (eB1 allD (eLc (eB1 iStrD (eVar 0)) [1] (setV 1) tYesB (vB (eB2 inD (eVarB 1) (eC (.str "0123456789")))))) [some (.dat (.str w)), none] = .ok ((TL.tl w).all isDig) := by
      refine b1_ok (op := truD) (x := PyData.bool ((TL.tl w).all isDig)) (b1_ok (op := allD) lst ?_) rfl
      unfold allD
      show (match unBool (((TL.tl w).map isDig).map PyData.bool) with | some bs => _ | none => _) = _
      rw [unBool_map]
      show Res.ok (PyData.bool (((TL.tl w).map isDig).all id)) = _
      rw [List.all_map]
      rfl
    have t1 := (or_f (u := bNot (eB1 truD (eB1 allD (eLc (eB1 iStrD (eVar 0)) [1] (setV 1) tYesB (vB (eB2 inD (eVarB 1) (eC (.str "0123456789")))))))) (not_ok chain)).trans (not_ok all_)
    cases hd : (TL.tl w).all isDig with
    | false =>
      rw [hd] at t1
      refine none_ t1 ?_
      unfold num?
      rw [if_neg (fun q => by rw [hd] at q; exact absurd q.2.1 (by decide))]
    | true =>
      rw [hd] at t1
      rw [seq_nx (if_n t1)]
      obtain ⟨c, r, hw'⟩ : ∃ c r, TL.tl w = c :: r := by
        cases h : TL.tl w with
        | nil => rw [h] at hl; simp at hl; omega
        | cons c r => exact ⟨c, r, rfl⟩
      have dc : 48 ≤ c ∧ c ≤ 57 := of_decide_eq_true (List.all_eq_true.mp hd c (by rw [hw']; exact List.mem_cons_self))
      have first : eB2 ixD (eVarB 0) (eC (.int 0)) [some (.dat (.str w)), none] = .ok (.str ⟨#[c]⟩) := by
        refine b2_ok (op := ixD) (x := PyData.str w) (y := PyData.int 0) rfl rfl ?_
        show chk _ (match atI (TL.tl w) 0 with | some c => Res.ok (PyData.str ⟨#[c]⟩) | none => Res.no) = _
        rw [chk_pos hw, hw', show atI (c :: r) 0 = some c from atI_nat (j := 0) rfl]
      have z : eB2 eqD (eB2 ixD (eVarB 0) (eC (.int 0))) (eC (.str "0")) [some (.dat (.str w)), none] = .ok (decide (c = 48)) := by
        refine b2_ok (op := eqD) (y := PyData.str "0") first rfl ?_
        unfold eqD
        rw [chk_pos ⟨shaped_sign (by omega), by decide +kernel⟩]
        show Res.ok ((⟨#[c]⟩ : Str) == "0") = _
        have e0 : ("0" : Str) = ⟨#[48]⟩ := by decide +kernel
        rw [e0]
        congr 1
        rw [Bool.eq_iff_iff, beq_iff_eq, decide_eq_true_iff]
        constructor
        · intro q
          have := congrArg (fun x : Str => x.cps.toList) q
          simpa using this
        · intro q; rw [q]
      have g1 : eB2 igtD (eB1 lenD (eVarB 0)) (eC (.int 1)) [some (.dat (.str w)), none] = .ok (decide (1 < (w.length : Int))) := b2_ok (op := igtD) (y := PyData.int 1) len rfl rfl
      have t2 : bAnd (eB2 eqD (eB2 ixD (eVarB 0) (eC (.int 0))) (eC (.str "0"))) (eB2 igtD (eB1 lenD (eVarB 0)) (eC (.int 1))) [some (.dat (.str w)), none] = .ok (decide (c = 48) && decide (1 < (w.length : Int))) := by
        by_cases hc : c = 48
        · rw [decide_eq_true hc] at z ⊢; exact (and_t z).trans (by rw [g1]; rfl)
        · rw [decide_eq_false hc] at z ⊢; exact and_f z
      by_cases h0 : (TL.tl w).head? = some 48 ∧ 1 < w.length
      · have hc : c = 48 := by have := h0.1; rw [hw'] at this; simpa using this
        rw [decide_eq_true hc, decide_eq_true (by omega : (1 : Int) < (w.length : Int))] at t2
        refine none_ t2 ?_
        unfold num?
        rw [if_neg (fun q => q.2.2 h0)]
      · have hn : num? w = some (NumText.digitsVal (TL.tl w)) := if_pos ⟨h13, hd, h0⟩
        have f2 : (decide (c = 48) && decide (1 < (w.length : Int))) = false := by
          rw [Bool.eq_false_iff]
          intro q
          rw [Bool.and_eq_true, decide_eq_true_iff, decide_eq_true_iff] at q
          exact h0 ⟨by rw [hw', q.1]; rfl, by omega⟩
        rw [f2] at t2
        rw [seq_nx (if_n t2)]
        have hi : intD (.str w) = .ok (.int (NumText.digitsVal (TL.tl w) : Nat)) := by
          have ew := (word_num hn).1
          have hk := TL.int_num (n := NumText.digitsVal (TL.tl w)) (by rw [← TL.tl_num, ← ew, hl]; omega)
          rw [← ew] at hk
          show (match intText? w with | some n => chk (w.length ≤ 640) (Res.ok (PyData.int n)) | none => Res.no) = _
          rw [hk]
          exact chk_pos (by omega)
        rw [ret_ok (b1_ok (op := intD) (x := PyData.str w) rfl hi)]
        unfold numD
        rw [hn]
        rfl
  · have chain : eChain (fun i j => decide (i ≤ j)) (fun i j => decide (i ≤ j)) (eC (.int 1)) (eB1 lenD (eVarB 0)) (eC (.int 3)) [some (.dat (.str w)), none] = .ok false := by
      rw [chain]
      congr 1
      rw [Bool.eq_false_iff]
      intro q
      rw [Bool.and_eq_true, decide_eq_true_iff, decide_eq_true_iff] at q
      exact h13 (by omega)
    refine none_ (or_t (not_ok chain)) ?_
    unfold num?
    rw [if_neg (fun q => h13 q.1)]
/-! ### read_line -/
def badText (l c : Int) : Exn := ⟨"BadText", [("column", .int c), ("line", .int l)]⟩
def manyD : Option Int → Mir.D
  | none => .none
  | some k => .int k
/-- the numbers of a line, from the column on -/
def scanL (no : Int) (many : Option Int) : List Str → List Int → Int → Res (List Int × Int)
  | [], found, col => .ok (found, col)
  | w :: ws, found, col => match num? w with
    | none => .ex (badText no col)
    | some v => if many = some (found.length : Int) then .ex (badText no col) else scanL no many ws (found ++ [(v : Int)]) (col + (w.length + 1))
def lineW (no : Int) (head : Str) (many : Option Int) : List Str → Res (List Int)
  | [] => .no
  | w :: ws => if w = head then (scanL no many ws [] (head.length + 2)).bind fun p => match many with
      | some k => if (p.1.length : Int) < k then .ex (badText no (p.2 - 1)) else .ok p.1
      | none => .ok p.1
    else .ex (badText no 1)
/-- a word with no odd sign -/
def okW (w : Str) : Prop := (∀ c ∈ TL.tl w, c ≠ 32 ∧ c ≠ 10 ∧ c < 256) ∧ w.length ≤ 100000
theorem okW.str {w : Str} (h : okW w) : SeqAt.shaped (.str w) = true := by
  unfold SeqAt.shaped PyData.canLay0 PyData.strOk PyData.depth
  rw [Bool.and_eq_true]
  refine ⟨?_, by decide⟩
  rw [Array.all_eq_true_iff_forall_mem]
  intro c hc
  have := (h.1 c (Array.mem_toList_iff.mpr hc)).2.2
  exact decide_eq_true (by omega) -- here
theorem len_size {n : Nat} (h : n ≤ 100000) : n ≤ sizeLine := Nat.le_trans h (by decide)
abbrev lE (line : Mir.D) (no : Int) (head : Str) (many : Option Int) (ws : List Str) (found : List Int) (col : Int) (x7 x8 : Option Cell) : Mir.Env :=
  [some (.dat line), some (.dat (.int no)), some (.dat (.str head)), some (.dat (manyD many)), some (.dat (.list (ws.map .str))), some (.own (intsD found)), some (.dat (.int col)), x7, x8]
theorem eqv_int (i j : Int) : PyData.eqv (.int i) (.int j) = decide (i = j) := by
  show (i == j) = _
  rw [Bool.eq_iff_iff, beq_iff_eq, decide_eq_true_iff]
theorem line_loop {line : Mir.D} {no : Int} {head : Str} {many : Option Int} {all : List Str} : ∀ (ws : List Str) (found : List Int) (col : Int) (x7 x8 : Option Cell), (∀ w ∈ ws, w.length ≤ 100000) → found.length + ws.length ≤ 100000 →
    match scanL no many ws found col with
    | .ok p => ∃ y7 y8, forGo (setV 7) lineBody (ws.map .str) (lE line no head many all found col x7 x8) = .nx (lE line no head many all p.1 p.2 y7 y8)
    | .ex x => ∃ e, forGo (setV 7) lineBody (ws.map .str) (lE line no head many all found col x7 x8) = .ex x e
    | .no => False
  | [], found, col, x7, x8, _, _ => ⟨x7, x8, rfl⟩
  | w :: ws, found, col, x7, x8, hw, hl => by
    have lw := hw w List.mem_cons_self
    have s8 : sSet (setV 8) (eB1 m_read_number (eCons (eVar 7) eNil)) (lE line no head many all found col (some (.dat (.str w))) x8) = .nx (lE line no head many all found col (some (.dat (.str w))) (some (.dat (numD w)))) :=
      set_ok (d := numD w) (b1_ok (op := m_read_number) (x := [PyData.str w]) rfl (rn w (len_size lw)))
    have isN : eB1 isND (eVarB 8) (lE line no head many all found col (some (.dat (.str w))) (some (.dat (numD w)))) = .ok (num? w).isNone := by
      refine b1_ok (op := isND) (x := numD w) rfl ?_
      unfold numD isND
      cases num? w <;> rfl
    have hflen : ((found.map PyData.int).length : Int) = (found.length : Int) := by simp
    have full : bAnd (eB1 notND (eVarB 3)) (eB2 eqD (eB1 lenD (eVarB 5)) (eVarB 3)) (lE line no head many all found col (some (.dat (.str w))) (some (.dat (numD w)))) = .ok (decide (many = some (found.length : Int))) := by
      cases many with
      | none => exact and_f rfl
      | some k =>
        refine (and_t rfl).trans (b2_ok (op := eqD) (x := PyData.int ((found.map PyData.int).length : Int)) (y := PyData.int k) rfl rfl ?_)
        unfold eqD
        rw [chk_pos ⟨rfl, rfl⟩, eqv_int, hflen]
        congr 1
        rw [Bool.eq_iff_iff, decide_eq_true_iff, decide_eq_true_iff]
        exact ⟨fun q => by rw [q], fun q => (Option.some.inj q).symm⟩
    have raised : ∀ {E' : Mir.Env}, E' = lE line no head many all found col (some (.dat (.str w))) (some (.dat (numD w))) → sRaise "BadText" ["line", "column"] (eCons (eVar 1) (eCons (eVar 6) eNil)) E' = .ex (badText no col) E' := fun h => by subst h; rfl
    cases hn : num? w with
    | none =>
      have e0 : scanL no many (w :: ws) found col = .ex (badText no col) := by unfold scanL; rw [hn]
      rw [e0]
      rw [hn] at isN
      refine ⟨lE line no head many all found col (some (.dat (.str w))) (some (.dat (numD w))), for_ex (e1 := lE line no head many all found col (some (.dat (.str w))) x8) rfl ?_⟩
      exact (seq_nx s8).trans (seq_ex ((if_t (or_t isN)).trans (raised rfl)))
    | some v =>
      rw [hn] at isN
      by_cases hm : many = some (found.length : Int)
      · have e0 : scanL no many (w :: ws) found col = .ex (badText no col) := by unfold scanL; rw [hn]; exact if_pos hm
        rw [e0]
        rw [decide_eq_true hm] at full
        refine ⟨lE line no head many all found col (some (.dat (.str w))) (some (.dat (numD w))), for_ex (e1 := lE line no head many all found col (some (.dat (.str w))) x8) rfl ?_⟩
        exact (seq_nx s8).trans (seq_ex ((if_t ((or_f isN).trans full)).trans (raised rfl)))
      · have e0 : scanL no many (w :: ws) found col = scanL no many ws (found ++ [(v : Int)]) (col + (w.length + 1)) := by rw [scanL, hn]; exact if_neg hm
        rw [decide_eq_false hm] at full
        have nd : numD w = .int v := by unfold numD; rw [hn]
        have step : lineBody (lE line no head many all found col (some (.dat (.str w))) x8) = .nx (lE line no head many all (found ++ [(v : Int)]) (col + (w.length + 1)) (some (.dat (.str w))) (some (.dat (numD w)))) := by
          refine (seq_nx s8).trans ((seq_nx (if_n ((or_f isN).trans full))).trans ?_)
          refine (seq_nx (e' := lE line no head many all (found ++ [(v : Int)]) col (some (.dat (.str w))) (some (.dat (numD w)))) ?_).trans ?_
          · refine (app_ok (xs := found.map PyData.int) (d := .int v) rfl (by rw [nd]; rfl) (by simp only [List.length_map]; exact Nat.lt_of_le_of_lt (by omega : found.length ≤ 100000) (by decide))).trans ?_
            rw [← List.map_singleton (f := PyData.int), ← List.map_append]
            rfl
          · unfold sAug
            have ev : eB2 addD (eB1 lenD (eVarB 7)) (eC (.int 1)) (lE line no head many all (found ++ [(v : Int)]) col (some (.dat (.str w))) (some (.dat (numD w)))) = .ok (.int (w.length + 1)) :=
              b2_ok (op := addD) (x := PyData.int w.length) (y := PyData.int 1) (b1_ok (op := lenD) (x := PyData.str w) rfl (chk_pos (len_size lw))) rfl rfl
            show resOut _ (((eB2 addD (eB1 lenD (eVarB 7)) (eC (.int 1)) (lE line no head many all (found ++ [(v : Int)]) col (some (.dat (.str w))) (some (.dat (numD w)))))).bind _) = _
            rw [ev]
            rfl
        have ih := line_loop (line := line) (no := no) (head := head) (many := many) (all := all) ws (found ++ [(v : Int)]) (col + (w.length + 1)) (some (.dat (.str w))) (some (.dat (numD w))) (fun y hy => hw y (List.mem_cons_of_mem _ hy)) (by simp only [List.length_append, List.length_cons, List.length_nil] at hl ⊢; omega)
        rw [e0, List.map_cons]
        have g := for_nx (r := ws.map PyData.str) (e1 := lE line no head many all found col (some (.dat (.str w))) x8) (set := setV 7) (x := .str w) (e := lE line no head many all found col x7 x8) rfl step
        rw [g]
        exact ih
theorem nox_ok {α : Type} {a : α} : nox (Res.ok a) = .ok a := rfl
theorem res_ex {g : SF} {e e' : Mir.Env} {x : Exn} (p : g e = .ex x e') : outRes (g e) = .ex x := by rw [p]; rfl
/-- words[1:] -/
theorem cut_tail {α : Type} (x : α) (xs : List α) : cutD (x :: xs) (some 1) none = xs := by
  unfold cutD
  rw [show (some (1 : Int)) = some ((1 : Nat) : Int) from rfl, HT.sIx_nat, HT.sIx_none]
  simp only [List.length_cons]
  rw [show min 1 (xs.length + 1) = 1 by omega]
  simp
theorem rl {line : Str} {no : Int} {head : Str} {many : Option Int} {ws : List Str} (hne : ws ≠ []) (hs : Txt.split line " " = ws) (hline : line.length ≤ 100000) (hok : ∀ w ∈ ws, okW w) (hh : okW head) (hn : ws.length ≤ 100000) :
    m_read_line [.str line, .int no, .str head, manyD many] = (lineW no head many ws).bind fun l => .ok (intsD l) := by
  unfold m_read_line
  refine (mkF_ok rfl).trans ?_
  show outRes (sSeq _ _ [some (.dat (.str line)), some (.dat (.int no)), some (.dat (.str head)), some (.dat (manyD many)), none, none, none, none, none]) = _
  obtain ⟨w0, wr, rfl⟩ : ∃ w0 wr, ws = w0 :: wr := by
    cases ws with
    | nil => exact absurd rfl hne
    | cons a b => exact ⟨a, b, rfl⟩
  have s4 : sSet (setV 4) (eM1 splitD (eVar 0) (eC (.str " "))) [some (.dat (.str line)), some (.dat (.int no)), some (.dat (.str head)), some (.dat (manyD many)), none, none, none, none, none] =
      .nx [some (.dat (.str line)), some (.dat (.int no)), some (.dat (.str head)), some (.dat (manyD many)), some (.dat (.list ((w0 :: wr).map .str))), none, none, none, none] := by
    refine (set_ok (d := .list ((w0 :: wr).map .str)) ?_).trans rfl
    show chk (isStrD (.str line) = true) (splitD (.str line) (.str " ")) = _
    rw [chk_pos (show isStrD (.str line) = true from rfl)]
    show chk _ (Res.ok (PyData.list ((Txt.split line " ").map .str))) = _
    rw [chk_pos ⟨by decide +kernel, Nat.le_trans (Nat.add_le_add_right hline 2) (by decide)⟩, hs]
  rw [seq_nx s4]
  have t1 : eB2 neD (eB2 ixD (eVarB 4) (eC (.int 0))) (eVarB 2) [some (.dat (.str line)), some (.dat (.int no)), some (.dat (.str head)), some (.dat (manyD many)), some (.dat (.list ((w0 :: wr).map .str))), none, none, none, none] = .ok (!decide (w0 = head)) := by
    refine b2_ok (op := neD) (x := PyData.str w0) (y := PyData.str head) (b2_ok (op := ixD) (x := PyData.list ((w0 :: wr).map .str)) (y := PyData.int 0) rfl rfl (ix_ok (atI_nat (j := 0) rfl))) rfl ?_
    unfold neD
    rw [chk_pos ⟨(hok w0 List.mem_cons_self).str, hh.str⟩]
    show Res.ok (!(w0 == head)) = _
    congr 2
  by_cases hw : w0 = head
  · rw [decide_eq_true hw] at t1
    rw [seq_nx (if_n t1)]
    have e0 : lineW no head many (w0 :: wr) = (scanL no many wr [] (head.length + 2)).bind fun p => match many with
      | some k => if (p.1.length : Int) < k then .ex (badText no (p.2 - 1)) else .ok p.1
      | none => .ok p.1 := if_pos hw
    rw [e0]
    rw [seq_nx (e' := [some (.dat (.str line)), some (.dat (.int no)), some (.dat (.str head)), some (.dat (manyD many)), some (.dat (.list ((w0 :: wr).map .str))), some (.own (.list [])), none, none, none]) (own_ok (d := .list []) (b1_ok (op := lstD) (x := ([] : List Mir.D)) rfl (chk_pos (by decide))))]
    rw [seq_nx (e' := lE (.str line) no head many (w0 :: wr) [] (head.length + 2) none none) (set_ok (d := .int (head.length + 2)) (b2_ok (op := addD) (x := PyData.int head.length) (y := PyData.int 2) (b1_ok (op := lenD) (x := PyData.str head) rfl (chk_pos (len_size hh.2))) rfl rfl))]
    have it : eB1 iSeq (eB3 sliceD (eVarB 4) (eSome (eC (.int 1))) eNone) (lE (.str line) no head many (w0 :: wr) [] (head.length + 2) none none) = .ok (wr.map .str) := by
      refine b1_ok (op := iSeq) (x := PyData.list (wr.map .str)) ?_ rfl
      show sliceD (.list ((w0 :: wr).map .str)) (some 1) none = _
      show Res.ok (PyData.list (cutD ((w0 :: wr).map PyData.str) (some 1) none)) = _
      rw [List.map_cons, cut_tail]
    have lp := line_loop (line := .str line) (no := no) (head := head) (many := many) (all := w0 :: wr) wr [] (head.length + 2) none none (fun w hw => (hok w (List.mem_cons_of_mem _ hw)).2) (by simp only [List.length_nil, List.length_cons] at hn ⊢; omega)
    cases hsc : scanL no many wr [] (head.length + 2) with
    | no => rw [hsc] at lp; exact lp.elim
    | ex x =>
      rw [hsc] at lp
      obtain ⟨e, he⟩ := lp
      rw [seq_ex ((sFor_ok it).trans he)]
      rfl
    | ok p =>
      rw [hsc] at lp
      obtain ⟨y7, y8, he⟩ := lp
      rw [seq_nx ((sFor_ok it).trans he)]
      obtain ⟨found, col⟩ := p
      have hfl : ((found.map PyData.int).length : Int) = (found.length : Int) := by simp
      have ret : sFrz 5 (sRet (eVar 5)) (lE (.str line) no head many (w0 :: wr) found col y7 y8) = .rt (intsD found) := rfl
      cases many with
      | none =>
        rw [seq_nx (if_n (and_f rfl))]
        rw [ret]
        rfl
      | some k =>
        have t2 : bAnd (eB1 notND (eVarB 3)) (eB2 iltD (eB1 lenD (eVarB 5)) (eVarB 3)) (lE (.str line) no head (some k) (w0 :: wr) found col y7 y8) = .ok (decide ((found.length : Int) < k)) := by
          refine (and_t rfl).trans ?_
          show Res.ok (decide (((found.map PyData.int).length : Int) < k)) = _
          rw [hfl]
        show _ = (if (found.length : Int) < k then Res.ex (badText no (col - 1)) else Res.ok found).bind _
        by_cases hk : (found.length : Int) < k
        · rw [decide_eq_true hk] at t2
          have r2 : sRaise "BadText" ["line", "column"] (eCons (eVar 1) (eCons (eB2 subD (eVarB 6) (eC (.int 1))) eNil)) (lE (.str line) no head (some k) (w0 :: wr) found col y7 y8) = .ex (badText no (col - 1)) (lE (.str line) no head (some k) (w0 :: wr) found col y7 y8) := rfl
          rw [if_pos hk, seq_ex ((if_t t2).trans r2)]
          rfl
        · rw [decide_eq_false hk] at t2
          rw [if_neg hk, seq_nx (if_n t2), ret]
          rfl
  · rw [decide_eq_false hw] at t1
    have r1 : sRaise "BadText" ["line", "column"] (eCons (eVar 1) (eCons (eC (.int 1)) eNil)) [some (.dat (.str line)), some (.dat (.int no)), some (.dat (.str head)), some (.dat (manyD many)), some (.dat (.list ((w0 :: wr).map .str))), none, none, none, none] =
        .ex (badText no 1) [some (.dat (.str line)), some (.dat (.int no)), some (.dat (.str head)), some (.dat (manyD many)), some (.dat (.list ((w0 :: wr).map .str))), none, none, none, none] := rfl
    rw [seq_ex ((if_t t1).trans r1)]
    have e0 : lineW no head many (w0 :: wr) = .ex (badText no 1) := if_neg hw
    rw [e0]
    rfl
/-! ### check_town -/
def within (x lo hi : Int) : Bool := decide (lo ≤ x) && decide (x ≤ hi)
theorem cons_ok {α : Type} {f : Mir.Env → Res α} {g : Mir.Env → Res (List α)} {e : Mir.Env} {x : α} {xs : List α} (p : f e = .ok x) (q : g e = .ok xs) : eCons f g e = .ok (x :: xs) := by unfold eCons; rw [p]; show (g e).bind _ = _; rw [q]
theorem eand_t {f g : Mir.Env → Res Mir.D} {e : Mir.Env} (p : f e = .ok (.bool true)) : eAnd f g e = g e := by unfold eAnd; rw [p]; rfl
theorem eand_f {f g : Mir.Env → Res Mir.D} {e : Mir.Env} (p : f e = .ok (.bool false)) : eAnd f g e = .ok (.bool false) := by unfold eAnd; rw [p]; rfl
theorem vb_ok {t : Mir.Env → Res Bool} {e : Mir.Env} {b : Bool} (p : t e = .ok b) : vB t e = .ok (.bool b) := congrArg (fun r : Res Bool => r.bind fun b => Res.ok (PyData.bool b)) p
theorem wi (x lo hi : Int) : m_is_within [.int x, .int lo, .int hi] = .ok (.bool (within x lo hi)) := by
  unfold m_is_within
  refine (mkF_ok rfl).trans ?_
  rw [ret_ok (d := .bool (within x lo hi)) ((eand_t rfl).trans ((eand_t rfl).trans (vb_ok (chain_ok (i := lo) (j := x) (l := hi) rfl rfl rfl))))]
  rfl
def roadOk (places : Int) (r : List Int) : Bool := match r with
  | [a, b, c] => within a 0 (places - 1) && within b 0 (places - 1) && (decide (a < b) && within c 1 9)
  | _ => false
abbrev tup (r : List Int) : Mir.D := .tuple (r.map .int)
theorem ir (p a b c : Int) : m_is_road [.int p, tup [a, b, c]] = .ok (.bool (roadOk p [a, b, c])) := by
  unfold m_is_road
  refine (mkF_ok rfl).trans ?_
  show outRes (sSeq _ _ [some (.dat (.int p)), some (.dat (tup [a, b, c])), none, none, none]) = _
  rw [seq_nx (e' := [some (.dat (.int p)), some (.dat (tup [a, b, c])), some (.dat (.int a)), some (.dat (.int b)), some (.dat (.int c))]) (setT_ok (d := tup [a, b, c]) rfl rfl)]
  have w1 : eB1 truD (eB1 m_is_within (eCons (eVar 2) (eCons (eC (.int 0)) (eCons (eB2 subD (eVarB 0) (eC (.int 1))) eNil)))) [some (.dat (.int p)), some (.dat (tup [a, b, c])), some (.dat (.int a)), some (.dat (.int b)), some (.dat (.int c))] = .ok (within a 0 (p - 1)) :=
    b1_ok (op := truD) (x := PyData.bool (within a 0 (p - 1))) (b1_ok (op := m_is_within) (x := [PyData.int a, PyData.int 0, PyData.int (p - 1)]) rfl (wi a 0 (p - 1))) rfl
  have w2 : eB1 truD (eB1 m_is_within (eCons (eVar 3) (eCons (eC (.int 0)) (eCons (eB2 subD (eVarB 0) (eC (.int 1))) eNil)))) [some (.dat (.int p)), some (.dat (tup [a, b, c])), some (.dat (.int a)), some (.dat (.int b)), some (.dat (.int c))] = .ok (within b 0 (p - 1)) :=
    b1_ok (op := truD) (x := PyData.bool (within b 0 (p - 1))) (b1_ok (op := m_is_within) (x := [PyData.int b, PyData.int 0, PyData.int (p - 1)]) rfl (wi b 0 (p - 1))) rfl
  have w3 : eB1 m_is_within (eCons (eVar 4) (eCons (eC (.int 1)) (eCons (eC (.int 9)) eNil))) [some (.dat (.int p)), some (.dat (tup [a, b, c])), some (.dat (.int a)), some (.dat (.int b)), some (.dat (.int c))] = .ok (.bool (within c 1 9)) :=
    b1_ok (op := m_is_within) (x := [PyData.int c, PyData.int 1, PyData.int 9]) rfl (wi c 1 9)
  have w4 : eB2 iltD (eVarB 2) (eVarB 3) [some (.dat (.int p)), some (.dat (tup [a, b, c])), some (.dat (.int a)), some (.dat (.int b)), some (.dat (.int c))] = .ok (decide (a < b)) := rfl
  show _ = Res.ok (PyData.bool (within a 0 (p - 1) && within b 0 (p - 1) && (decide (a < b) && within c 1 9)))
  cases h1 : within a 0 (p - 1) with
  | false =>
    rw [h1] at w1
    rw [seq_rt ((if_t (or_t (not_ok w1))).trans (ret_ok (d := .bool false) rfl))]
    rfl
  | true =>
    rw [h1] at w1
    cases h2 : within b 0 (p - 1) with
    | false =>
      rw [h2] at w2
      rw [seq_rt ((if_t ((or_f (not_ok w1)).trans (not_ok w2))).trans (ret_ok (d := .bool false) rfl))]
      rfl
    | true =>
      rw [h2] at w2
      rw [seq_nx (if_n ((or_f (not_ok w1)).trans (not_ok w2)))]
      by_cases hab : a < b
      · rw [ret_ok (d := .bool (within c 1 9)) ((eand_t (vb_ok (b := true) (w4.trans (by rw [decide_eq_true hab])))).trans w3), decide_eq_true hab]
        rfl
      · rw [ret_ok (d := .bool false) (eand_f (vb_ok (b := false) (w4.trans (by rw [decide_eq_false hab])))), decide_eq_false hab]
        rfl
def badRoad (k : Nat) : Exn := ⟨"BadRoad", [("at", .int k)]⟩
def badSize : Exn := ⟨"BadSize", []⟩
/-- the first bad road from the k-th on -/
def checkFrom (places : Int) (all : List (List Int)) : Nat → List (List Int) → Res Unit
  | _, [] => .ok ()
  | k, r :: rs => if roadOk places r = true ∧ (k = 0 ∨ lexGe ((all.getD (k - 1) []).take 2) (r.take 2) = false) then checkFrom places all (k + 1) rs else .ex (badRoad k)
def checkR (places : Int) (roads : List (List Int)) : Res Unit := if within places 1 7 = true then checkFrom places roads 0 roads else .ex badSize
theorem cut_two {α : Type} (xs : List α) : cutD xs none (some 2) = xs.take 2 := by
  unfold cutD
  rw [show (some (2 : Int)) = some ((2 : Nat) : Int) from rfl, HT.sIx_nat, HT.sIx_none]
  simp only [List.drop_zero, Nat.sub_zero] -- here
  by_cases h : 2 ≤ xs.length
  · rw [Nat.min_eq_left h]
  · rw [Nat.min_eq_right (by omega), List.take_of_length_le (by omega), List.take_of_length_le (by omega)]
theorem unInt_map : ∀ l : List Int, unInt (l.map PyData.int) = some l
  | [] => rfl
  | i :: l => by rw [List.map_cons, unInt, unInt_map l]; rfl
abbrev cE (t : Mir.D) (p : Int) (roads : List (List Int)) (x3 x4 : Option Cell) : Mir.Env := [some (.dat t), some (.dat (.int p)), some (.dat (.list (roads.map tup))), x3, x4]
theorem check_step {t : Mir.D} {p : Int} {roads : List (List Int)} {k : Nat} {r : List Int} (hr : r.length = 3) (hk : k < roads.length) :
    checkBody (cE t p roads (some (.dat (.int k))) (some (.dat (tup r)))) = if roadOk p r = true ∧ (k = 0 ∨ lexGe ((roads.getD (k - 1) []).take 2) (r.take 2) = false) then .nx (cE t p roads (some (.dat (.int k))) (some (.dat (tup r)))) else .ex (badRoad k) (cE t p roads (some (.dat (.int k))) (some (.dat (tup r)))) := by
  have rd : eB1 truD (eB1 m_is_road (eCons (eVar 1) (eCons (eVar 4) eNil))) (cE t p roads (some (.dat (.int k))) (some (.dat (tup r)))) = .ok (roadOk p r) := by
    refine b1_ok (op := truD) (x := PyData.bool (roadOk p r)) (b1_ok (op := m_is_road) (x := [PyData.int p, tup r]) rfl ?_) rfl
    match r, hr with
    | [a, b, c], _ => exact ir p a b c
  have r1 : sRaise "BadRoad" ["at"] (eCons (eVar 3) eNil) (cE t p roads (some (.dat (.int k))) (some (.dat (tup r)))) = .ex (badRoad k) (cE t p roads (some (.dat (.int k))) (some (.dat (tup r)))) := rfl
  have gt : eB2 igtD (eVarB 3) (eC (.int 0)) (cE t p roads (some (.dat (.int k))) (some (.dat (tup r)))) = .ok (decide ((0 : Int) < (k : Int))) := rfl
  unfold checkBody
  cases ho : roadOk p r with
  | false =>
    rw [ho] at rd
    rw [if_neg (fun q => by cases q.1)]
    exact (if_t (or_t (not_ok rd))).trans r1
  | true =>
    rw [ho] at rd
    cases k with
    | zero =>
      rw [if_pos ⟨rfl, .inl rfl⟩]
      exact if_n ((or_f (not_ok rd)).trans (and_f gt))
    | succ j =>
      have ge : eB2 tgeD (eB3 sliceD (eB2 ixD (eVarB 2) (eB2 subD (eVarB 3) (eC (.int 1)))) eNone (eSome (eC (.int 2)))) (eB3 sliceD (eVarB 4) eNone (eSome (eC (.int 2)))) (cE t p roads (some (.dat (.int (j + 1 : Nat)))) (some (.dat (tup r)))) =
          .ok (lexGe ((roads.getD j []).take 2) (r.take 2)) := by
        have a1 : eB2 ixD (eVarB 2) (eB2 subD (eVarB 3) (eC (.int 1))) (cE t p roads (some (.dat (.int (j + 1 : Nat)))) (some (.dat (tup r)))) = .ok (tup (roads.getD j [])) := by
          refine b2_ok (op := ixD) (x := PyData.list (roads.map tup)) (y := PyData.int ((j + 1 : Nat) - 1 : Int)) rfl rfl (ix_ok ?_)
          rw [show (((j + 1 : Nat) : Int) - 1) = (j : Int) by omega]
          refine atI_nat ?_
          rw [List.getElem?_map, List.getElem?_eq_getElem (by omega : j < roads.length), List.getD_eq_getElem?_getD, List.getElem?_eq_getElem (by omega : j < roads.length)]
          rfl
        have a2 : eB3 sliceD (eB2 ixD (eVarB 2) (eB2 subD (eVarB 3) (eC (.int 1)))) eNone (eSome (eC (.int 2))) (cE t p roads (some (.dat (.int (j + 1 : Nat)))) (some (.dat (tup r)))) = .ok (tup ((roads.getD j []).take 2)) := by
          unfold eB3
          rw [a1]
          show Res.ok (PyData.tuple (cutD ((roads.getD j []).map PyData.int) none (some 2))) = _
          rw [cut_two, ← List.map_take]
        have a3 : eB3 sliceD (eVarB 4) eNone (eSome (eC (.int 2))) (cE t p roads (some (.dat (.int (j + 1 : Nat)))) (some (.dat (tup r)))) = .ok (tup (r.take 2)) := by
          show Res.ok (PyData.tuple (cutD (r.map PyData.int) none (some 2))) = _
          rw [cut_two, ← List.map_take]
        refine b2_ok (op := tgeD) a2 a3 ?_
        show (match unInt (((roads.getD j []).take 2).map PyData.int), unInt ((r.take 2).map PyData.int) with | some ns, some ms => Res.ok (lexGe ns ms) | _, _ => Res.no) = _
        rw [unInt_map, unInt_map]
      have gt' : eB2 igtD (eVarB 3) (eC (.int 0)) (cE t p roads (some (.dat (.int (j + 1 : Nat)))) (some (.dat (tup r)))) = .ok true := by rw [gt, decide_eq_true (by omega : (0 : Int) < ((j + 1 : Nat) : Int))]
      show sIf _ _ _ (cE t p roads (some (.dat (.int (j + 1 : Nat)))) (some (.dat (tup r)))) = _
      rw [show j + 1 - 1 = j from rfl]
      cases hg : lexGe ((roads.getD j []).take 2) (r.take 2) with
      | true =>
        rw [hg] at ge
        rw [if_neg (fun q => by rcases q.2 with z | z <;> cases z)]
        exact (if_t ((or_f (not_ok rd)).trans ((and_t gt').trans ge))).trans r1
      | false =>
        rw [hg] at ge
        rw [if_pos ⟨rfl, .inr rfl⟩]
        exact if_n ((or_f (not_ok rd)).trans ((and_t gt').trans ge))
theorem check_loop {t : Mir.D} {p : Int} {roads : List (List Int)} : ∀ (rest : List (List Int)) (k : Nat) (x3 x4 : Option Cell), (∀ r ∈ rest, r.length = 3) → k + rest.length ≤ roads.length →
    match checkFrom p roads k rest with
    | .ok _ => ∃ y3 y4, forGo (setT [3, 4]) checkBody (enumL k (rest.map tup)) (cE t p roads x3 x4) = .nx (cE t p roads y3 y4)
    | .ex x => ∃ e, forGo (setT [3, 4]) checkBody (enumL k (rest.map tup)) (cE t p roads x3 x4) = .ex x e
    | .no => False
  | [], k, x3, x4, _, _ => ⟨x3, x4, rfl⟩
  | r :: rest, k, x3, x4, h3, hl => by
    have st := check_step (t := t) (p := p) (roads := roads) (k := k) (h3 r List.mem_cons_self) (by simp only [List.length_cons] at hl; omega)
    have sv : setT [3, 4] (.tuple [.int k, tup r]) (cE t p roads x3 x4) = .ok (cE t p roads (some (.dat (.int k))) (some (.dat (tup r)))) := rfl
    by_cases c : roadOk p r = true ∧ (k = 0 ∨ lexGe ((roads.getD (k - 1) []).take 2) (r.take 2) = false)
    · rw [if_pos c] at st
      have e0 : checkFrom p roads k (r :: rest) = checkFrom p roads (k + 1) rest := if_pos c
      rw [e0]
      have g := for_nx (r := enumL (k + 1) (rest.map tup)) sv st
      have ih := check_loop (t := t) (p := p) (roads := roads) rest (k + 1) (some (.dat (.int k))) (some (.dat (tup r))) (fun y hy => h3 y (List.mem_cons_of_mem _ hy)) (by simp only [List.length_cons] at hl; omega)
      rw [List.map_cons]
      show (match checkFrom p roads (k + 1) rest with | .ok _ => ∃ y3 y4, forGo (setT [3, 4]) checkBody (.tuple [.int k, tup r] :: enumL (k + 1) (rest.map tup)) (cE t p roads x3 x4) = _ | .ex x => ∃ e, forGo (setT [3, 4]) checkBody (.tuple [.int k, tup r] :: enumL (k + 1) (rest.map tup)) (cE t p roads x3 x4) = _ | .no => False)
      rw [g]
      exact ih
    · rw [if_neg c] at st
      have e0 : checkFrom p roads k (r :: rest) = .ex (badRoad k) := if_neg c
      rw [e0]
      exact ⟨_, for_ex (r := enumL (k + 1) (rest.map tup)) sv st⟩
theorem ct {p : Int} {roads : List (List Int)} (h3 : ∀ r ∈ roads, r.length = 3) : m_check_town [.tuple [.int p, .list (roads.map tup)]] = (checkR p roads).bind fun _ => .ok .none := by
  unfold m_check_town
  refine (mkF_ok rfl).trans ?_
  show outRes (sSeq _ _ [some (.dat (.tuple [.int p, .list (roads.map tup)])), none, none, none, none]) = _
  rw [seq_nx (e' := cE (.tuple [.int p, .list (roads.map tup)]) p roads none none) (setT_ok (d := .tuple [.int p, .list (roads.map tup)]) rfl rfl)]
  have w1 : eB1 truD (eB1 m_is_within (eCons (eVar 1) (eCons (eC (.int 1)) (eCons (eC (.int 7)) eNil)))) (cE (.tuple [.int p, .list (roads.map tup)]) p roads none none) = .ok (within p 1 7) :=
    b1_ok (op := truD) (x := PyData.bool (within p 1 7)) (b1_ok (op := m_is_within) (x := [PyData.int p, PyData.int 1, PyData.int 7]) rfl (wi p 1 7)) rfl
  have r1 : sRaise "BadSize" [] eNil (cE (.tuple [.int p, .list (roads.map tup)]) p roads none none) = .ex badSize (cE (.tuple [.int p, .list (roads.map tup)]) p roads none none) := rfl
  unfold checkR
  cases hp : within p 1 7 with
  | false =>
    rw [hp] at w1
    rw [if_neg (by decide), seq_ex ((if_t (not_ok w1)).trans r1)]
    rfl
  | true =>
    rw [hp] at w1
    rw [if_pos rfl, seq_nx (if_n (not_ok w1))]
    have it : eB1 iEnum (eVar 2) (cE (.tuple [.int p, .list (roads.map tup)]) p roads none none) = .ok (enumL 0 (roads.map tup)) := rfl
    have lp := check_loop (t := .tuple [.int p, .list (roads.map tup)]) (p := p) (roads := roads) roads 0 none none h3 (by omega)
    show outRes (sFor _ _ checkBody _) = _
    cases hc : checkFrom p roads 0 roads with
    | no => rw [hc] at lp; exact lp.elim
    | ok u =>
      rw [hc] at lp
      obtain ⟨y3, y4, he⟩ := lp
      rw [sFor_ok it, he]
      rfl
    | ex x =>
      rw [hc] at lp
      obtain ⟨e, he⟩ := lp
      rw [sFor_ok it, he]
      rfl
/-! ### lines_of, read_town -/
def nl : Str := "\n"
/-- the text's parts at its line ends -/
structure Parts (text : Str) (ls : List Str) (ended : Bool) : Prop where
  len : text.length ≤ 100000
  few : ls.length ≤ 100000
  split : Txt.split text "\n" = if ended = true then ls ++ [Str.empty] else ls
  last : ended = false → ∃ i l, ls = i ++ [l] ∧ l ≠ Str.empty ∧ SeqAt.shaped (.str l) = true ∧ l.length ≤ 100000
theorem cut_last {α : Type} (xs : List α) (x : α) : cutD (xs ++ [x]) none (some (-1)) = xs := by
  unfold cutD
  rw [HT.sIx_none]
  have e : HT.sIx (xs ++ [x]).length (xs ++ [x]).length (some (-1)) = xs.length := by
    show (if (-1 : Int) < 0 then ((-1 : Int) + ((xs ++ [x]).length : Int)).toNat else min (-1 : Int).toNat (xs ++ [x]).length) = _
    rw [if_pos (by decide)]
    simp only [List.length_append, List.length_cons, List.length_nil]
    omega
  rw [e, List.drop_zero, Nat.sub_zero, List.take_left]
theorem lo {text : Str} {ls : List Str} {ended : Bool} (P : Parts text ls ended) : m_lines_of [.str text] = .ok (.tuple [.list (ls.map .str), .bool ended]) := by
  unfold m_lines_of
  refine (mkF_ok rfl).trans ?_
  show outRes (sSeq _ _ [some (.dat (.str text)), none]) = _
  generalize hps : Txt.split text "\n" = ps
  have s1 : sSet (setV 1) (eM1 splitD (eVar 0) (eC (.str "\n"))) [some (.dat (.str text)), none] = .nx [some (.dat (.str text)), some (.dat (.list (ps.map .str)))] := by
    refine (set_ok (d := .list (ps.map .str)) ?_).trans rfl
    show chk (isStrD (.str text) = true) (splitD (.str text) (.str "\n")) = _
    rw [chk_pos (show isStrD (.str text) = true from rfl)]
    show chk _ (Res.ok (PyData.list ((Txt.split text "\n").map .str))) = _
    rw [chk_pos ⟨by decide +kernel, Nat.le_trans (Nat.add_le_add_right P.len 2) (by decide)⟩, hps]
  rw [seq_nx s1]
  have eqs : ∀ (l : Str) (i : List Str), ps = i ++ [l] → SeqAt.shaped (.str l) = true → eB2 eqD (eB2 ixD (eVarB 1) (eB1 negD (eC (.int 1)))) (eC (.str "")) [some (.dat (.str text)), some (.dat (.list (ps.map .str)))] = .ok (decide (l = Str.empty)) := by
    intro l i hi hl
    subst hi
    refine b2_ok (op := eqD) (x := PyData.str l) (y := PyData.str "") (b2_ok (op := ixD) (x := PyData.list ((i ++ [l]).map .str)) (y := PyData.int (-1)) rfl rfl (ix_ok ?_)) rfl ?_
    · rw [List.map_append]; exact atI_last _ _
    · unfold eqD
      rw [chk_pos ⟨hl, by decide +kernel⟩]
      show Res.ok (l == "") = _
      congr 1
  cases ended with
  | true =>
    have hp : ps = ls ++ [Str.empty] := by rw [← hps, P.split]; rfl
    have t1 := eqs Str.empty ls hp (by decide +kernel)
    rw [decide_eq_true rfl] at t1
    rw [seq_rt ((if_t t1).trans (ret_ok (d := .tuple [.list (ls.map .str), .bool true]) ?_))]
    · rfl
    · refine b1_ok (op := tupD) (x := [PyData.list (ls.map .str), PyData.bool true]) ?_ (chk_pos (show 2 ≤ sizeLine by decide))
      have a : eB3 sliceD (eVarB 1) eNone (eSome (eB1 negD (eC (.int 1)))) [some (.dat (.str text)), some (.dat (.list (ps.map .str)))] = .ok (.list (ls.map .str)) := by
        show Res.ok (PyData.list (cutD (ps.map PyData.str) none (some (-1)))) = _
        rw [hp, List.map_append, List.map_singleton, cut_last]
      unfold eCons
      rw [a]
      rfl
  | false =>
    have hp : ps = ls := by rw [← hps, P.split]; rfl
    obtain ⟨i, l, hi, hne, hsh, _⟩ := P.last rfl
    have t1 := eqs l i (hp.trans hi) hsh
    rw [decide_eq_false hne] at t1
    rw [seq_nx (if_n t1), ret_ok (d := .tuple [.list (ls.map .str), .bool false])]
    · rfl
    · rw [hp]
      exact b1_ok (op := tupD) (x := [PyData.list (ls.map .str), PyData.bool false]) rfl (chk_pos (show 2 ≤ sizeLine by decide))
def headOf (k : Nat) : Str := if k = 0 then "places" else "road"
def countOf (k : Nat) : Int := if k = 0 then 1 else 3
/-- the lines' numbers, from the k-th on; ws the words of each line -/
def rowsL : Nat → List (List Str) → List (List Int) → Res (List (List Int))
  | _, [], rows => .ok rows
  | k, ws :: r, rows => (lineW (k + 1) (headOf k) (some (countOf k)) ws).bind fun row => rowsL (k + 1) r (rows ++ [row])
/-- a line of these words -/
structure LineOk (l : Str) (ws : List Str) : Prop where
  ne : ws ≠ []
  split : Txt.split l " " = ws
  len : l.length ≤ 100000
  ok : ∀ w ∈ ws, okW w
  few : ws.length ≤ 100000
inductive LinesOk : List Str → List (List Str) → Prop
  | nil : LinesOk [] []
  | cons {l : Str} {ls : List Str} {ws : List Str} {wss : List (List Str)} (h : LineOk l ws) (t : LinesOk ls wss) : LinesOk (l :: ls) (ws :: wss)
abbrev tE (text : Mir.D) (ls : List Str) (ended : Bool) (rows : List (List Int)) (x4 x5 x6 x7 x8 : Option Cell) : Mir.Env :=
  [some (.dat text), some (.dat (.list (ls.map .str))), some (.dat (.bool ended)), some (.own (.list (rows.map intsD))), x4, x5, x6, x7, x8]
theorem okW_head (k : Nat) : okW (headOf k) := by
  unfold headOf okW
  by_cases h : k = 0
  · rw [if_pos h]; decide +kernel
  · rw [if_neg h]; decide +kernel
theorem town_loop {text : Mir.D} {all : List Str} {ended : Bool} {x7 x8 : Option Cell} : ∀ (ls : List Str) (wss : List (List Str)) (k : Nat) (rows : List (List Int)) (x4 x5 x6 : Option Cell), LinesOk ls wss → rows.length + ls.length ≤ 100000 →
    match rowsL k wss rows with
    | .ok rs => ∃ y4 y5 y6, forGo (setT [4, 5]) townBody (enumL k (ls.map .str)) (tE text all ended rows x4 x5 x6 x7 x8) = .nx (tE text all ended rs y4 y5 y6 x7 x8)
    | .ex x => ∃ e, forGo (setT [4, 5]) townBody (enumL k (ls.map .str)) (tE text all ended rows x4 x5 x6 x7 x8) = .ex x e
    | .no => False := by
  intro ls
  induction ls with
  | nil =>
    intro wss k rows x4 x5 x6 h hl
    cases h
    exact ⟨x4, x5, x6, rfl⟩
  | cons l ls ih =>
    intro wss k rows x4 x5 x6 h hl
    cases h with
    | @cons _ _ ws wss h t =>
    have sv : setT [4, 5] (.tuple [.int k, .str l]) (tE text all ended rows x4 x5 x6 x7 x8) = .ok (tE text all ended rows (some (.dat (.int k))) (some (.dat (.str l))) x6 x7 x8) := rfl
    have s6 : sSet (setV 6) (eIf (eB2 igtD (eVarB 4) (eC (.int 0))) (eC (.str "road")) (eC (.str "places"))) (tE text all ended rows (some (.dat (.int k))) (some (.dat (.str l))) x6 x7 x8) =
        .nx (tE text all ended rows (some (.dat (.int k))) (some (.dat (.str l))) (some (.dat (.str (headOf k)))) x7 x8) := by
      refine (set_ok (d := .str (headOf k)) ?_).trans rfl
      show (if decide ((0 : Int) < (k : Int)) = true then Res.ok (PyData.str "road") else Res.ok (PyData.str "places")) = _
      unfold headOf
      by_cases hk : k = 0
      · subst hk; rfl
      · rw [if_neg hk, if_pos (decide_eq_true (by omega))]
    have many : tabD counts (.str (headOf k)) = .ok (manyD (some (countOf k))) := by
      unfold headOf countOf
      by_cases hk : k = 0
      · rw [if_pos hk, if_pos hk]; rfl
      · rw [if_neg hk, if_neg hk]; rfl
    have args : eCons (eVar 5) (eCons (eB2 addD (eVarB 4) (eC (.int 1))) (eCons (eVar 6) (eCons (eB1 (tabD counts) (eVar 6)) eNil))) (tE text all ended rows (some (.dat (.int k))) (some (.dat (.str l))) (some (.dat (.str (headOf k)))) x7 x8) =
        .ok [.str l, .int (k + 1), .str (headOf k), manyD (some (countOf k))] := by
      exact cons_ok (x := PyData.str l) rfl (cons_ok (x := PyData.int (k + 1)) rfl (cons_ok (x := PyData.str (headOf k)) rfl (cons_ok (x := manyD (some (countOf k))) (b1_ok (op := tabD counts) (x := PyData.str (headOf k)) rfl many) rfl)))
    have rd := rl (no := (k + 1 : Int)) (head := headOf k) (many := some (countOf k)) h.ne h.split h.len h.ok (okW_head k) h.few
    rw [List.map_cons]
    show (match (lineW (k + 1) (headOf k) (some (countOf k)) ws).bind fun row => rowsL (k + 1) wss (rows ++ [row]) with
      | .ok rs => ∃ y4 y5 y6, forGo (setT [4, 5]) townBody (.tuple [.int k, .str l] :: enumL (k + 1) (ls.map .str)) (tE text all ended rows x4 x5 x6 x7 x8) = .nx (tE text all ended rs y4 y5 y6 x7 x8)
      | .ex x => ∃ e, forGo (setT [4, 5]) townBody (.tuple [.int k, .str l] :: enumL (k + 1) (ls.map .str)) (tE text all ended rows x4 x5 x6 x7 x8) = .ex x e
      | .no => False)
    cases hr : lineW (k + 1) (headOf k) (some (countOf k)) ws with
    | no =>
      exfalso
      cases ws with
      | nil => exact h.ne rfl
      | cons w0 wr =>
        have hr : (if w0 = headOf k then (scanL (k + 1) (some (countOf k)) wr [] ((headOf k).length + 2)).bind (fun p => if (p.1.length : Int) < countOf k then Res.ex (badText (k + 1) (p.2 - 1)) else Res.ok p.1) else Res.ex (badText (k + 1) 1)) = .no := hr
        by_cases hw : w0 = headOf k
        · rw [if_pos hw] at hr
          have nono : ∀ (ws : List Str) (found : List Int) (col : Int), scanL (k + 1) (some (countOf k)) ws found col ≠ .no := by
            intro ws
            induction ws with
            | nil => intro f c q; cases q
            | cons a r ih2 =>
              intro f c q
              unfold scanL at q
              split at q
              · cases q
              · split at q
                · cases q
                · exact ih2 _ _ q
          cases hs : scanL (k + 1) (some (countOf k)) wr [] ((headOf k).length + 2) with
          | no => exact nono _ _ _ hs
          | ex x => rw [hs] at hr; cases hr
          | ok p =>
            rw [hs] at hr
            have hr : (if (p.1.length : Int) < countOf k then Res.ex (badText (k + 1) (p.2 - 1)) else Res.ok p.1) = .no := hr
            split at hr <;> cases hr
        · rw [if_neg hw] at hr; cases hr
    | ex x =>
      rw [hr] at rd
      have ap : sAppend 3 (eB1 m_read_line (eCons (eVar 5) (eCons (eB2 addD (eVarB 4) (eC (.int 1))) (eCons (eVar 6) (eCons (eB1 (tabD counts) (eVar 6)) eNil))))) (tE text all ended rows (some (.dat (.int k))) (some (.dat (.str l))) (some (.dat (.str (headOf k)))) x7 x8) =
          .ex x (tE text all ended rows (some (.dat (.int k))) (some (.dat (.str l))) (some (.dat (.str (headOf k)))) x7 x8) := by
        unfold sAppend
        show resOut _ ((eB1 m_read_line _ _).bind _) = _
        rw [b1_ok (op := m_read_line) args rd]
        rfl
      exact ⟨_, for_ex sv ((seq_nx s6).trans ap)⟩
    | ok row =>
      rw [hr] at rd
      have ap : sAppend 3 (eB1 m_read_line (eCons (eVar 5) (eCons (eB2 addD (eVarB 4) (eC (.int 1))) (eCons (eVar 6) (eCons (eB1 (tabD counts) (eVar 6)) eNil))))) (tE text all ended rows (some (.dat (.int k))) (some (.dat (.str l))) (some (.dat (.str (headOf k)))) x7 x8) =
          .nx (tE text all ended (rows ++ [row]) (some (.dat (.int k))) (some (.dat (.str l))) (some (.dat (.str (headOf k)))) x7 x8) := by
        refine (app_ok (xs := rows.map intsD) (d := intsD row) rfl ((b1_ok (op := m_read_line) args rd).trans rfl) (by rw [List.length_map]; exact Nat.lt_of_le_of_lt (by simp only [List.length_cons] at hl; omega : rows.length ≤ 100000) (by decide))).trans ?_
        rw [← List.map_singleton (f := intsD), ← List.map_append]
        rfl
      have g := for_nx (body := townBody) (r := enumL (k + 1) (ls.map PyData.str)) sv ((seq_nx s6).trans ap)
      rw [g]
      exact ih wss (k + 1) (rows ++ [row]) _ _ _ t (by simp only [List.length_append, List.length_cons, List.length_nil] at hl ⊢; omega)
/-- what read_town answers: lines and whether the text ends with a line end -/
def townR (ls : List Str) (wss : List (List Str)) (ended : Bool) : Res Mir.D := (rowsL 0 wss []).bind fun rows =>
  if ended = true then match rows with
    | [] => .ex (badText 1 1)
    | r0 :: rest => (checkR (r0.headD 0) rest).bind fun _ => .ok (.tuple [.int (r0.headD 0), .list (rest.map tup)])
  else .ex (badText ls.length (((ls.getLastD Str.empty).length : Int) + 1))
theorem lc_tup {e : Mir.Env} (he : 8 < e.length) : ∀ {l : List (List Int)} {acc : List Mir.D}, acc.length + l.length ≤ sizeLine → lcGo (setV 8) tYesB (eB1 tupleD (eVarB 8)) e (l.map intsD) acc = .ok (acc ++ l.map tup)
  | [], acc, _ => by rw [List.map_nil, List.map_nil, List.append_nil]; rfl
  | x :: l, acc, h => by
    have hl : acc.length < sizeLine := by simp only [List.length_cons] at h; omega
    have get : eB1 tupleD (eVarB 8) (e.set 8 (some (.dat (intsD x)))) = .ok (tup x) := b1_ok (op := tupleD) (x := intsD x) (by unfold eVarB; rw [List.getElem?_set_self he]) rfl
    show (nox (eB1 tupleD (eVarB 8) (e.set 8 (some (.dat (intsD x)))))).bind (fun y => chk (acc.length < sizeLine) (lcGo (setV 8) tYesB (eB1 tupleD (eVarB 8)) e (l.map intsD) (acc ++ [y]))) = _
    rw [get]
    show chk (acc.length < sizeLine) (lcGo (setV 8) tYesB _ e (l.map intsD) (acc ++ [_])) = _
    rw [chk_pos hl, lc_tup he (by simp only [List.length_append, List.length_cons, List.length_nil] at h ⊢; omega), List.append_assoc]
    rfl
theorem Q_len : ∀ {ls : List Str} {wss : List (List Str)}, LinesOk ls wss → wss.length = ls.length
  | _, _, .nil => rfl
  | _, _, .cons _ t => by rw [List.length_cons, List.length_cons, Q_len t]
theorem scan_le {no k : Int} : ∀ (ws : List Str) (found : List Int) (col : Int) (p : List Int × Int), scanL no (some k) ws found col = .ok p → (found.length : Int) ≤ k → (p.1.length : Int) ≤ k
  | [], found, col, p, h, hk => by cases h; exact hk
  | w :: ws, found, col, p, h, hk => by
    unfold scanL at h
    split at h
    · cases h
    · split at h
      · cases h
      · rename_i hne
        refine scan_le ws _ _ p h ?_
        have : k ≠ (found.length : Int) := fun q => hne (by rw [q])
        simp only [List.length_append, List.length_cons, List.length_nil]
        omega
theorem line_len {no k : Int} {head : Str} {ws : List Str} {row : List Int} (hk : 0 ≤ k) (h : lineW no head (some k) ws = .ok row) : (row.length : Int) = k := by
  cases ws with
  | nil => cases h
  | cons w ws =>
    have h : (if w = head then (scanL no (some k) ws [] (head.length + 2)).bind (fun p => if (p.1.length : Int) < k then Res.ex (badText no (p.2 - 1)) else Res.ok p.1) else Res.ex (badText no 1)) = .ok row := h
    split at h
    · cases hs : scanL no (some k) ws [] (head.length + 2) with
      | no => rw [hs] at h; cases h
      | ex x => rw [hs] at h; cases h
      | ok p =>
        rw [hs] at h
        have h : (if (p.1.length : Int) < k then Res.ex (badText no (p.2 - 1)) else Res.ok p.1) = .ok row := h
        split at h
        · cases h
        · cases h
          have := scan_le ws [] _ p hs (by simpa using hk)
          omega
    · cases h
theorem rows_len : ∀ (wss : List (List Str)) (k : Nat) (rows rs : List (List Int)), rowsL k wss rows = .ok rs → ∃ new, rs = rows ++ new ∧ new.length = wss.length ∧ ∀ i r, new[i]? = some r → (r.length : Int) = countOf (k + i)
  | [], k, rows, rs, h => by
    cases h
    exact ⟨[], by rw [List.append_nil], rfl, fun i r q => by simp at q⟩
  | ws :: wss, k, rows, rs, h => by
    have h : (lineW (k + 1) (headOf k) (some (countOf k)) ws).bind (fun row => rowsL (k + 1) wss (rows ++ [row])) = .ok rs := h
    cases hl : lineW (k + 1) (headOf k) (some (countOf k)) ws with
    | no => rw [hl] at h; cases h
    | ex x => rw [hl] at h; cases h
    | ok row =>
      rw [hl] at h
      obtain ⟨new, e1, e2, e3⟩ := rows_len wss (k + 1) (rows ++ [row]) rs h
      refine ⟨row :: new, by rw [e1, List.append_assoc]; rfl, by rw [List.length_cons, List.length_cons, e2], fun i r q => ?_⟩
      cases i with
      | zero =>
        simp at q
        subst q
        exact line_len (by unfold countOf; split <;> decide) hl
      | succ i =>
        have := e3 i r (by simpa using q)
        rw [this, show k + 1 + i = k + (i + 1) by omega]
theorem rt {text : Str} {ls : List Str} {wss : List (List Str)} {ended : Bool} (P : Parts text ls ended) (Q : LinesOk ls wss) : m_read_town [.str text] = townR ls wss ended := by
  unfold m_read_town
  refine (mkF_ok rfl).trans ?_
  show outRes (sSeq _ _ [some (.dat (.str text)), none, none, none, none, none, none, none, none]) = _
  rw [seq_nx (e' := [some (.dat (.str text)), some (.dat (.list (ls.map .str))), some (.dat (.bool ended)), none, none, none, none, none, none]) (setT_ok (d := .tuple [.list (ls.map .str), .bool ended]) (b1_ok (op := m_lines_of) (x := [PyData.str text]) rfl (lo P)) rfl)]
  rw [seq_nx (e' := tE (.str text) ls ended [] none none none none none) (own_ok (d := .list []) (b1_ok (op := lstD) (x := ([] : List Mir.D)) rfl (chk_pos (by decide))))]
  have it : eB1 iEnum (eVar 1) (tE (.str text) ls ended [] none none none none none) = .ok (enumL 0 (ls.map .str)) := rfl
  have lp := town_loop (text := .str text) (all := ls) (ended := ended) (x7 := none) (x8 := none) ls wss 0 [] none none none Q (by simpa using P.few)
  unfold townR
  cases hrow : rowsL 0 wss [] with
  | no => rw [hrow] at lp; exact lp.elim
  | ex x =>
    rw [hrow] at lp
    obtain ⟨e, he⟩ := lp
    rw [seq_ex ((sFor_ok it).trans he)]
    rfl
  | ok rows =>
    rw [hrow] at lp
    obtain ⟨y4, y5, y6, he⟩ := lp
    rw [seq_nx ((sFor_ok it).trans he)]
    obtain ⟨new, hnew, hlen, hcnt⟩ := rows_len wss 0 [] rows hrow
    rw [List.nil_append] at hnew
    subst hnew
    show _ = (if ended = true then _ else _)
    cases ended with
    | false =>
      obtain ⟨i, l, hi, hne, hsh, hll⟩ := P.last rfl
      rw [if_neg (by decide)]
      have r1 : sRaise "BadText" ["line", "column"] (eCons (eB1 lenD (eVarB 1)) (eCons (eB2 addD (eB1 lenD (eB2 ixD (eVarB 1) (eB1 negD (eC (.int 1))))) (eC (.int 1))) eNil)) (tE (.str text) ls false rows y4 y5 y6 none none) =
          .ex (badText ls.length (((ls.getLastD Str.empty).length : Int) + 1)) (tE (.str text) ls false rows y4 y5 y6 none none) := by
        have hlast : ls.getLastD Str.empty = l := by rw [hi]; simp
        have a : eCons (eB1 lenD (eVarB 1)) (eCons (eB2 addD (eB1 lenD (eB2 ixD (eVarB 1) (eB1 negD (eC (.int 1))))) (eC (.int 1))) eNil) (tE (.str text) ls false rows y4 y5 y6 none none) = .ok [.int ((ls.map PyData.str).length : Int), .int (l.length + 1)] := by
          refine cons_ok (x := PyData.int ((ls.map PyData.str).length : Int)) rfl (cons_ok (x := PyData.int (l.length + 1)) (b2_ok (op := addD) (x := PyData.int l.length) (y := PyData.int 1) (b1_ok (op := lenD) (x := PyData.str l) (b2_ok (op := ixD) (x := PyData.list (ls.map .str)) (y := PyData.int (-1)) rfl rfl (ix_ok ?_)) (chk_pos (len_size hll))) rfl rfl) rfl)
          rw [hi, List.map_append]
          exact atI_last _ _
        unfold sRaise
        rw [a, hlast, List.length_map]
        rfl
      rw [seq_ex ((if_t rfl).trans r1)]
      rfl
    | true =>
      rw [if_pos rfl, seq_nx (if_n rfl)]
      cases rows with
      | nil =>
        have r1 : sRaise "BadText" ["line", "column"] (eCons (eC (.int 1)) (eCons (eC (.int 1)) eNil)) (tE (.str text) ls true [] y4 y5 y6 none none) = .ex (badText 1 1) (tE (.str text) ls true [] y4 y5 y6 none none) := rfl
        rw [seq_ex ((if_t rfl).trans r1)]
        rfl
      | cons r0 rest =>
        have c0 := hcnt 0 r0 rfl
        have c3 : ∀ r ∈ rest, r.length = 3 := fun r hr => by
          obtain ⟨i, hi⟩ := List.getElem?_of_mem hr
          have := hcnt (i + 1) r (by simpa using hi)
          unfold countOf at this
          rw [if_neg (by omega)] at this
          omega
        obtain ⟨p, hp⟩ : ∃ p, r0 = [p] := by
          unfold countOf at c0
          rw [if_pos rfl] at c0
          match r0, c0 with
          | [p], _ => exact ⟨p, rfl⟩
        subst hp
        rw [seq_nx (if_n rfl)]
        have s7 : sSet (setV 7) (eB1 tupD (eCons (eB2 ixD (eB2 ixD (eVarB 3) (eC (.int 0))) (eC (.int 0))) (eCons (eLc (eB1 iSeq (eB3 sliceD (eVarB 3) (eSome (eC (.int 1))) eNone)) [8] (setV 8) tYesB (eB1 tupleD (eVarB 8))) eNil))) (tE (.str text) ls true ([p] :: rest) y4 y5 y6 none none) =
            .nx (tE (.str text) ls true ([p] :: rest) y4 y5 y6 (some (.dat (.tuple [.int p, .list (rest.map tup)]))) none) := by
          refine (set_ok (d := .tuple [.int p, .list (rest.map tup)]) (b1_ok (op := tupD) (x := [PyData.int p, PyData.list (rest.map tup)]) (cons_ok (x := PyData.int p) ?_ (cons_ok (x := PyData.list (rest.map tup)) ?_ rfl)) (chk_pos (show 2 ≤ sizeLine by decide)))).trans rfl
          · exact b2_ok (op := ixD) (x := intsD [p]) (y := PyData.int 0) (b2_ok (op := ixD) (x := PyData.list (([p] :: rest).map intsD)) (y := PyData.int 0) rfl rfl (ix_ok (atI_nat (j := 0) rfl))) rfl (ix_ok (atI_nat (j := 0) rfl))
          · unfold eLc
            have hs : eB1 iSeq (eB3 sliceD (eVarB 3) (eSome (eC (.int 1))) eNone) (tE (.str text) ls true ([p] :: rest) y4 y5 y6 none none) = .ok (rest.map intsD) := by
              refine b1_ok (op := iSeq) (x := PyData.list (rest.map intsD)) ?_ rfl
              show Res.ok (PyData.list (cutD (([p] :: rest).map intsD) (some 1) none)) = _
              rw [List.map_cons, cut_tail]
            rw [hs]
            show (lcGo (setV 8) tYesB _ (wipeE [8] _) (rest.map intsD) []).bind _ = _
            rw [lc_tup (by show 8 < 9; decide) (by
              have := Q_len Q
              have := P.few
              simp only [List.length_cons, List.length_nil] at hlen ⊢
              exact Nat.le_trans (by omega : 0 + rest.length ≤ 100000) (by decide))]
            rfl
        rw [seq_nx s7]
        have cc := ct (p := p) c3
        have ev : eB1 m_check_town (eCons (eVar 7) eNil) (tE (.str text) ls true ([p] :: rest) y4 y5 y6 (some (.dat (.tuple [.int p, .list (rest.map tup)]))) none) = (checkR p rest).bind fun _ => .ok .none := b1_ok (op := m_check_town) (x := [PyData.tuple [.int p, .list (rest.map tup)]]) rfl cc
        show _ = (checkR p rest).bind _
        cases hck : checkR p rest with
        | no =>
          rw [hck] at ev
          have z : sExpr (eB1 m_check_town (eCons (eVar 7) eNil)) (tE (.str text) ls true ([p] :: rest) y4 y5 y6 (some (.dat (.tuple [.int p, .list (rest.map tup)]))) none) = .no := by unfold sExpr; rw [ev]; rfl
          unfold sSeq
          rw [z]
          rfl
        | ex x =>
          rw [hck] at ev
          have z : sExpr (eB1 m_check_town (eCons (eVar 7) eNil)) (tE (.str text) ls true ([p] :: rest) y4 y5 y6 (some (.dat (.tuple [.int p, .list (rest.map tup)]))) none) = .ex x (tE (.str text) ls true ([p] :: rest) y4 y5 y6 (some (.dat (.tuple [.int p, .list (rest.map tup)]))) none) := by unfold sExpr; rw [ev]; rfl
          rw [seq_ex z]
          rfl
        | ok u =>
          rw [hck] at ev
          have z : sExpr (eB1 m_check_town (eCons (eVar 7) eNil)) (tE (.str text) ls true ([p] :: rest) y4 y5 y6 (some (.dat (.tuple [.int p, .list (rest.map tup)]))) none) = .nx (tE (.str text) ls true ([p] :: rest) y4 y5 y6 (some (.dat (.tuple [.int p, .list (rest.map tup)]))) none) := by unfold sExpr; rw [ev]; rfl
          rw [seq_nx z]
          rfl
end Near

/-! NearU: texts made of words; towns written. -/
namespace Near
open PySem PySem.Spec L2 Mir
/-- the word of a number -/
def numW (n : Nat) : Str := Str.ofString (toString (n : Int))
theorem tl_numW (n : Nat) : TL.tl (numW n) = TL.numL n := TL.tl_num n
theorem num_back {n : Nat} (h : n ≤ 999) : num? (numW n) = some n := by
  have hl : (numW n).length = (TL.numL n).length := by rw [TL.len_tl, tl_numW]
  have l3 : (TL.numL n).length ≤ 3 := TL.numL_len (by decide) (by omega)
  have l1 : 1 ≤ (TL.numL n).length := by
    have := TL.numL_ne n
    cases h : TL.numL n with
    | nil => exact absurd h this
    | cons _ _ => simp
  have dg : (TL.numL n).all isDig = true := List.all_eq_true.mpr fun c hc => decide_eq_true (TL.numL_digits n c hc)
  unfold num?
  rw [tl_numW, if_pos, TL.numL_val]
  refine ⟨by rw [hl]; exact ⟨l1, l3⟩, dg, fun q => ?_⟩
  obtain ⟨q1, q2⟩ := q
  rw [hl] at q2
  by_cases h10 : n < 10
  · rw [TL.numL_lt h10] at q2; simp at q2
  · rw [TL.numL_step (by omega)] at q1
    by_cases h100 : n / 10 < 10
    · rw [TL.numL_lt h100] at q1
      simp at q1
      omega
    · rw [TL.numL_step (by omega), TL.numL_lt (by omega)] at q1
      simp at q1
      omega
theorem okW_num {n : Nat} (h : n ≤ 999) : okW (numW n) := by
  refine ⟨fun c hc => ?_, ?_⟩
  · rw [tl_numW] at hc
    have := TL.numL_digits n c hc
    omega
  · rw [TL.len_tl, tl_numW]
    exact Nat.le_trans (TL.numL_len (k := 3) (by decide) (by omega)) (by decide)
/-- the line of these words; the text of these lines -/
def mkLine (ws : List Str) : Str := ⟨(TL.joinL [32] (ws.map TL.tl)).toArray⟩
def mkText (wss : List (List Str)) : Str := ⟨(wss.flatMap fun ws => TL.joinL [32] (ws.map TL.tl) ++ [10]).toArray⟩
theorem tl_mkLine (ws : List Str) : TL.tl (mkLine ws) = TL.joinL [32] (ws.map TL.tl) := rfl
theorem tl_mkText (wss : List (List Str)) : TL.tl (mkText wss) = wss.flatMap fun ws => TL.joinL [32] (ws.map TL.tl) ++ [10] := rfl
theorem sp1 : TL.tl (" " : Str) = [32] := by decide +kernel
theorem nl1 : TL.tl ("\n" : Str) = [10] := by decide +kernel
theorem joinL_mem {S : List Nat} : ∀ {ps : List (List Nat)} {c : Nat}, c ∈ TL.joinL S ps → c ∈ S ∨ ∃ p ∈ ps, c ∈ p
  | [], c, h => by cases h
  | [p], c, h => .inr ⟨p, List.mem_singleton.mpr rfl, h⟩
  | p :: q :: r, c, h => by
    have h : c ∈ p ++ (S ++ TL.joinL S (q :: r)) := h
    rcases List.mem_append.mp h with h | h -- here
    · exact .inr ⟨p, List.mem_cons_self, h⟩
    · rcases List.mem_append.mp h with h | h -- here
      · exact .inl h
      · rcases joinL_mem h with h | ⟨z, hz, h⟩
        · exact .inl h
        · exact .inr ⟨z, List.mem_cons_of_mem _ hz, h⟩
theorem joinL_flat : ∀ (ls : List (List Nat)), TL.joinL [10] (ls ++ [[]]) = ls.flatMap fun l => l ++ [10]
  | [] => rfl
  | [l] => by simp [TL.joinL]
  | l :: m :: r => by
    have ih := joinL_flat (m :: r)
    show l ++ ([10] ++ TL.joinL [10] ((m :: r) ++ [[]])) = _
    rw [ih]
    simp [List.flatMap_cons, List.append_assoc]
theorem lineOk_mk {ws : List Str} (hne : ws ≠ []) (hok : ∀ w ∈ ws, okW w) (hl : (mkLine ws).length ≤ 100000) (hf : ws.length ≤ 100000) : LineOk (mkLine ws) ws := by
  refine ⟨hne, ?_, hl, hok, hf⟩
  have e : mkLine ws = Txt.join " " ws := TL.ext_tl (by rw [TL.join_eq, TL.tl_join, sp1]; rfl)
  rw [e]
  exact TL.split_join (s := 32) (S := []) sp1 (by decide +kernel) hne fun w hw hm => absurd rfl ((hok w hw).1 32 hm).1
theorem len_flat_le : ∀ {wss : List (List Str)} {ws : List Str}, ws ∈ wss → (mkLine ws).length ≤ (mkText wss).length
  | [], _, h => by cases h
  | v :: wss, ws, h => by
    rw [TL.len_tl, TL.len_tl, tl_mkText, tl_mkLine, List.flatMap_cons, List.length_append, List.length_append]
    rcases List.mem_cons.mp h with e | h -- here
    · subst e; omega
    · have := len_flat_le h
      rw [TL.len_tl, TL.len_tl, tl_mkText, tl_mkLine] at this
      omega
theorem few_flat : ∀ (wss : List (List Str)), wss.length ≤ (mkText wss).length
  | [] => Nat.zero_le _
  | v :: wss => by
    have := few_flat wss
    rw [TL.len_tl, tl_mkText] at this ⊢
    rw [List.flatMap_cons, List.length_append, List.length_append, List.length_cons]
    simp only [List.length_cons, List.length_nil] -- here
    omega
theorem parts_mk {wss : List (List Str)} (hok : ∀ ws ∈ wss, ∀ w ∈ ws, okW w) (hl : (mkText wss).length ≤ 100000) : Parts (mkText wss) (wss.map mkLine) true := by
  refine ⟨hl, by rw [List.length_map]; exact Nat.le_trans (few_flat wss) hl, ?_, fun h => by cases h⟩
  show Txt.split (mkText wss) "\n" = wss.map mkLine ++ [Str.empty]
  have e : mkText wss = Txt.join "\n" (wss.map mkLine ++ [Str.empty]) := by
    refine TL.ext_tl ?_
    rw [TL.join_eq, TL.tl_join, nl1, List.map_append, List.map_map, List.map_singleton, show TL.tl Str.empty = [] from rfl, joinL_flat, List.flatMap_map]
    rfl
  rw [e]
  refine TL.split_join (s := 10) (S := []) nl1 (by decide +kernel) (by simp) fun l hlm hm => ?_
  rcases List.mem_append.mp hlm with h | h
  · obtain ⟨ws, hws, rfl⟩ := List.mem_map.mp h
    rw [tl_mkLine] at hm
    rcases joinL_mem hm with h | ⟨p, hp, h⟩
    · simp at h
    · obtain ⟨w, hw, rfl⟩ := List.mem_map.mp hp
      exact absurd rfl ((hok ws hws w hw).1 10 h).2.1
  · rw [List.mem_singleton] at h
    subst h
    cases hm
theorem linesOk_mk : ∀ {wss : List (List Str)}, (∀ ws ∈ wss, ws ≠ [] ∧ (∀ w ∈ ws, okW w) ∧ (mkLine ws).length ≤ 100000 ∧ ws.length ≤ 100000) → LinesOk (wss.map mkLine) wss
  | [], _ => .nil
  | ws :: wss, h => by
    obtain ⟨h1, h2, h3, h4⟩ := h ws List.mem_cons_self
    exact .cons (lineOk_mk h1 h2 h3 h4) (linesOk_mk fun v hv => h v (List.mem_cons_of_mem _ hv))
/-- a text of lines that end -/
theorem rt_mk {wss : List (List Str)} (h : ∀ ws ∈ wss, ws ≠ [] ∧ (∀ w ∈ ws, okW w) ∧ ws.length ≤ 100000) (hl : (mkText wss).length ≤ 100000) : m_read_town [.str (mkText wss)] = townR (wss.map mkLine) wss true :=
  rt (parts_mk (fun ws hws => (h ws hws).2.1) hl) (linesOk_mk fun ws hws => ⟨(h ws hws).1, (h ws hws).2.1, Nat.le_trans (len_flat_le hws) hl, (h ws hws).2.2⟩)
/-! ### towns -/
abbrev Road := Nat × Nat × Nat
def roadW (r : Road) : List Str := ["road", numW r.1, numW r.2.1, numW r.2.2]
def townW (p : Nat) (roads : List Road) : List (List Str) := ["places", numW p] :: roads.map roadW
def roadI (r : Road) : List Int := [(r.1 : Int), (r.2.1 : Int), (r.2.2 : Int)]
def smallR (r : Road) : Prop := r.1 ≤ 999 ∧ r.2.1 ≤ 999 ∧ r.2.2 ≤ 999
theorem okW_road : okW "road" := by unfold okW; decide +kernel
theorem okW_places : okW "places" := by unfold okW; decide +kernel
theorem lineW_hit {no k : Int} {head : Str} {ws : List Str} : lineW no head (some k) (head :: ws) = (scanL no (some k) ws [] (head.length + 2)).bind fun p => if (p.1.length : Int) < k then Res.ex (badText no (p.2 - 1)) else Res.ok p.1 := if_pos rfl
theorem line_road {no : Int} {r : Road} (h : smallR r) : lineW no "road" (some 3) (roadW r) = .ok (roadI r) := by
  unfold roadW
  rw [lineW_hit]
  simp only [scanL, num_back h.1, num_back h.2.1, num_back h.2.2]
  rfl
theorem line_places {no : Int} {p : Nat} (h : p ≤ 999) : lineW no "places" (some 1) ["places", numW p] = .ok [(p : Int)] := by
  rw [lineW_hit]
  simp only [scanL, num_back h]
  rfl
theorem rows_roads : ∀ (roads : List Road) (k : Nat) (rest : List (List Str)) (rows : List (List Int)), 0 < k → (∀ r ∈ roads, smallR r) → rowsL k (roads.map roadW ++ rest) rows = rowsL (k + roads.length) rest (rows ++ roads.map roadI)
  | [], k, rest, rows, _, _ => by simp
  | r :: roads, k, rest, rows, hk, h => by
    have hh : headOf k = "road" := if_neg (by omega)
    have hc : countOf k = 3 := if_neg (by omega)
    show (lineW (k + 1) (headOf k) (some (countOf k)) (roadW r)).bind (fun row => rowsL (k + 1) (roads.map roadW ++ rest) (rows ++ [row])) = _
    rw [hh, hc, line_road (h r List.mem_cons_self)]
    show rowsL (k + 1) (roads.map roadW ++ rest) (rows ++ [roadI r]) = _
    rw [rows_roads roads (k + 1) rest _ (by omega) fun y hy => h y (List.mem_cons_of_mem _ hy)]
    rw [List.length_cons, List.map_cons, List.append_assoc, show k + 1 + roads.length = k + (roads.length + 1) by omega]
    rfl
theorem rows_town {p : Nat} {roads : List Road} (hp : p ≤ 999) (h : ∀ r ∈ roads, smallR r) (rest : List (List Str)) : rowsL 0 (townW p roads ++ rest) [] = rowsL (1 + roads.length) rest ([(p : Int)] :: roads.map roadI) := by
  show (lineW ((0 : Nat) + 1) (headOf 0) (some (countOf 0)) ["places", numW p]).bind (fun row => rowsL 1 (roads.map roadW ++ rest) ([] ++ [row])) = _
  rw [show headOf 0 = "places" from rfl, show countOf 0 = 1 from rfl, line_places hp]
  show rowsL 1 (roads.map roadW ++ rest) [[(p : Int)]] = _
  rw [rows_roads roads 1 rest _ (by omega) h]
  rfl
theorem town_words {p : Nat} {roads : List Road} (hp : p ≤ 999) (h : ∀ r ∈ roads, smallR r) : ∀ ws ∈ townW p roads, ws ≠ [] ∧ (∀ w ∈ ws, okW w) ∧ ws.length ≤ 100000 := by
  intro ws hws
  rcases List.mem_cons.mp hws with e | hws
  · subst e
    refine ⟨by simp, fun w hw => ?_, by simp⟩
    simp only [List.mem_cons, List.not_mem_nil, or_false] at hw
    rcases hw with rfl | rfl
    · exact okW_places
    · exact okW_num hp
  · obtain ⟨r, hr, rfl⟩ := List.mem_map.mp hws
    refine ⟨by simp [roadW], fun w hw => ?_, by simp [roadW]⟩
    simp only [roadW, List.mem_cons, List.not_mem_nil, or_false] at hw
    obtain ⟨h1, h2, h3⟩ := h r hr
    rcases hw with rfl | rfl | rfl | rfl
    · exact okW_road
    · exact okW_num h1
    · exact okW_num h2
    · exact okW_num h3
/-- a written town, read -/
theorem rt_town {p : Nat} {roads : List Road} (hp : p ≤ 999) (h : ∀ r ∈ roads, smallR r) (hl : (mkText (townW p roads)).length ≤ 100000) :
    m_read_town [.str (mkText (townW p roads))] = (checkR p (roads.map roadI)).bind fun _ => .ok (.tuple [.int p, .list (roads.map fun r => tup (roadI r))]) := by
  rw [rt_mk (town_words hp h) hl]
  unfold townR
  have e := rows_town hp h []
  rw [List.append_nil] at e
  rw [e]
  show (checkR p (roads.map roadI)).bind (fun _ => Res.ok (PyData.tuple [.int p, .list ((roads.map roadI).map tup)])) = _
  rw [List.map_map]
  rfl
theorem num_len {n : Nat} (h : n ≤ 999) : (TL.numL n).length ≤ 3 := TL.numL_len (by decide) (by omega)
theorem roads_len : ∀ (roads : List Road), (∀ r ∈ roads, smallR r) → (mkText (roads.map roadW)).length ≤ 20 * roads.length
  | [], _ => by decide
  | r :: roads, h => by
    have ih := roads_len roads fun y hy => h y (List.mem_cons_of_mem _ hy)
    obtain ⟨h1, h2, h3⟩ := h r List.mem_cons_self
    have l1 := num_len h1
    have l2 := num_len h2
    have l3 := num_len h3
    have l0 : (TL.tl ("road" : Str)).length = 4 := by decide +kernel
    rw [TL.len_tl, tl_mkText] at ih ⊢
    rw [List.map_cons, List.flatMap_cons, List.length_append]
    have e : (TL.joinL [32] ((roadW r).map TL.tl) ++ [10]).length = 4 + (1 + ((TL.numL r.1).length + (1 + ((TL.numL r.2.1).length + (1 + (TL.numL r.2.2).length))))) + 1 := by
      simp only [roadW, List.map_cons, List.map_nil, TL.joinL, tl_numW, List.length_append, List.length_cons, List.length_nil, l0]
    rw [e, List.length_cons]
    omega
theorem town_len {p : Nat} {roads : List Road} (hp : p ≤ 999) (h : ∀ r ∈ roads, smallR r) : (mkText (townW p roads)).length ≤ 20 + 20 * roads.length := by
  have ih := roads_len roads h
  have l1 := num_len hp
  have l0 : (TL.tl ("places" : Str)).length = 6 := by decide +kernel
  rw [TL.len_tl, tl_mkText] at ih ⊢
  unfold townW
  rw [List.flatMap_cons, List.length_append]
  have e : (TL.joinL [32] (([("places" : Str), numW p]).map TL.tl) ++ [10]).length = 6 + (1 + (TL.numL p).length) + 1 := by
    simp only [List.map_cons, List.map_nil, TL.joinL, tl_numW, List.length_append, List.length_cons, List.length_nil, l0]
  rw [e]
  omega
end Near

/-! NearV: the town of the draws. -/
namespace Near
open PySem PySem.Spec L2 Mir
def pairBody : SF := (sSeq (sIf (eB2 iltD (eB2 modD (eB1 intD (eB2 ixD (eVarB 0) (eVarB 4))) (eC (.int 5))) (eC (.int 3))) (sAppend 3 (eB1 tupD (eCons (eVar 5) (eCons (eVar 6) (eCons (eB2 addD (eC (.int 1)) (eB2 modD (eB1 intD (eB2 fdivD (eB2 ixD (eVarB 0) (eVarB 4)) (eC (.int 5)))) (eB2 ixD (eB1 lstD (eCons (eC (.int 3)) (eCons (eC (.int 9)) eNil))) (eB2 modD (eB1 intD (eB2 fdivD (eB2 ixD (eVarB 0) (eVarB 4)) (eC (.int 45)))) (eC (.int 2)))))) eNil))))) sNil)
    (sSet (setV 4) (eB2 addD (eVarB 4) (eC (.int 1)))))
def firstBody : SF := (sFor (eB2 iRange2 (eB2 addD (eVarB 5) (eC (.int 1))) (eVarB 2)) (setV 6) pairBody)
def m_town : List Mir.D → Res Mir.D := mkF 7 2
    (sSeq (sSet (setV 2) (eB2 addD (eC (.int 1)) (eB2 modD (eB1 intD (eB2 ixD (eVarB 0) (eC (.int 0)))) (eVarB 1))))
    (sSeq (sOwn 3 (eB1 lstD eNil))
    (sSeq (sSet (setV 4) (eC (.int 1)))
    (sSeq (sFor (eB1 iRange1 (eVarB 2)) (setV 5) firstBody)
    (sFrz 3 (sRet (eB1 tupD (eCons (eVar 2) (eCons (eVar 3) eNil)))))))))
abbrev roadD (r : Road) : Mir.D := tup (roadI r)
abbrev vE (ds : List Int) (most P : Int) (roads : List Road) (k : Int) (x5 x6 : Option Cell) : Mir.Env := [some (.dat (intsD ds)), some (.dat (.int most)), some (.dat (.int P)), some (.own (.list (roads.map roadD))), some (.dat (.int k)), x5, x6]
/-- the road's length that a draw gives -/
def lenOf (d : Int) : Nat := (1 + d / 5 % (if d / 45 % 2 = 0 then 3 else 9)).toNat
theorem lenOf_bd {d : Int} : 1 ≤ lenOf d ∧ lenOf d ≤ 9 := by
  unfold lenOf
  split <;> omega
theorem pair_step {ds : List Int} {most P : Int} {roads : List Road} {k a b : Nat} (hk : k < ds.length) (hr : roads.length ≤ 100000) :
    pairBody (vE ds most P roads k (some (.dat (.int a))) (some (.dat (.int b)))) =
      .nx (vE ds most P (if ds[k] % 5 < 3 then roads ++ [(a, b, lenOf ds[k])] else roads) ((k + 1 : Nat) : Int) (some (.dat (.int a))) (some (.dat (.int b)))) := by
  generalize hd : ds[k] = d
  have rd : ∀ rs : List Road, eB2 ixD (eVarB 0) (eVarB 4) (vE ds most P rs k (some (.dat (.int a))) (some (.dat (.int b)))) = .ok (.int d) := fun rs => b2_ok (op := ixD) (x := intsD ds) (y := PyData.int k) rfl rfl (ix_ok ((at_intsD hk).trans (by rw [hd])))
  have inc : ∀ rs : List Road, sSet (setV 4) (eB2 addD (eVarB 4) (eC (.int 1))) (vE ds most P rs k (some (.dat (.int a))) (some (.dat (.int b)))) = .nx (vE ds most P rs ((k + 1 : Nat) : Int) (some (.dat (.int a))) (some (.dat (.int b)))) := fun rs => rfl
  have t1 : eB2 iltD (eB2 modD (eB1 intD (eB2 ixD (eVarB 0) (eVarB 4))) (eC (.int 5))) (eC (.int 3)) (vE ds most P roads k (some (.dat (.int a))) (some (.dat (.int b)))) = .ok (decide (d % 5 < 3)) :=
    b2_ok (op := iltD) (x := PyData.int (d % 5)) (y := PyData.int 3) (b2_ok (op := modD) (x := PyData.int d) (y := PyData.int 5) (b1_ok (op := intD) (rd _) rfl) rfl (mod_ok (by decide))) rfl rfl
  unfold pairBody
  by_cases h : d % 5 < 3
  · rw [decide_eq_true h] at t1
    rw [if_pos h]
    have e39 : eB2 ixD (eB1 lstD (eCons (eC (.int 3)) (eCons (eC (.int 9)) eNil))) (eB2 modD (eB1 intD (eB2 fdivD (eB2 ixD (eVarB 0) (eVarB 4)) (eC (.int 45)))) (eC (.int 2))) (vE ds most P roads k (some (.dat (.int a))) (some (.dat (.int b)))) = .ok (.int (if d / 45 % 2 = 0 then 3 else 9)) := by
      refine b2_ok (op := ixD) (x := PyData.list [.int 3, .int 9]) (y := PyData.int (d / 45 % 2)) (b1_ok (op := lstD) (x := [PyData.int 3, PyData.int 9]) rfl (chk_pos (by decide))) (b2_ok (op := modD) (x := PyData.int (d / 45)) (y := PyData.int 2) (b1_ok (op := intD) (x := PyData.int (d / 45)) (b2_ok (op := fdivD) (y := PyData.int 45) (rd _) rfl (fdiv_ok (by decide))) rfl) rfl (mod_ok (by decide))) (ix_ok ?_)
      rcases (by omega : d / 45 % 2 = 0 ∨ d / 45 % 2 = 1) with q | q
      · rw [q, if_pos rfl]; rfl
      · rw [q, if_neg (by decide)]; rfl
    have lv : eB2 addD (eC (.int 1)) (eB2 modD (eB1 intD (eB2 fdivD (eB2 ixD (eVarB 0) (eVarB 4)) (eC (.int 5)))) (eB2 ixD (eB1 lstD (eCons (eC (.int 3)) (eCons (eC (.int 9)) eNil))) (eB2 modD (eB1 intD (eB2 fdivD (eB2 ixD (eVarB 0) (eVarB 4)) (eC (.int 45)))) (eC (.int 2))))) (vE ds most P roads k (some (.dat (.int a))) (some (.dat (.int b)))) = .ok (.int (lenOf d)) := by
      refine b2_ok (op := addD) (x := PyData.int 1) (y := PyData.int (d / 5 % (if d / 45 % 2 = 0 then 3 else 9))) rfl (b2_ok (op := modD) (x := PyData.int (d / 5)) (b1_ok (op := intD) (x := PyData.int (d / 5)) (b2_ok (op := fdivD) (y := PyData.int 5) (rd _) rfl (fdiv_ok (by decide))) rfl) e39 (mod_ok (by split <;> decide))) ?_
      show Res.ok (PyData.int (1 + d / 5 % (if d / 45 % 2 = 0 then 3 else 9))) = _
      congr 2
      unfold lenOf
      rw [Int.toNat_of_nonneg]
      split <;> omega
    have ap : sAppend 3 (eB1 tupD (eCons (eVar 5) (eCons (eVar 6) (eCons (eB2 addD (eC (.int 1)) (eB2 modD (eB1 intD (eB2 fdivD (eB2 ixD (eVarB 0) (eVarB 4)) (eC (.int 5)))) (eB2 ixD (eB1 lstD (eCons (eC (.int 3)) (eCons (eC (.int 9)) eNil))) (eB2 modD (eB1 intD (eB2 fdivD (eB2 ixD (eVarB 0) (eVarB 4)) (eC (.int 45)))) (eC (.int 2)))))) eNil)))) (vE ds most P roads k (some (.dat (.int a))) (some (.dat (.int b)))) =
        .nx (vE ds most P (roads ++ [(a, b, lenOf d)]) k (some (.dat (.int a))) (some (.dat (.int b)))) := by
      refine (app_ok (xs := roads.map roadD) (d := roadD (a, b, lenOf d)) rfl (b1_ok (op := tupD) (x := [PyData.int a, PyData.int b, PyData.int (lenOf d)]) (cons_ok (x := PyData.int a) rfl (cons_ok (x := PyData.int b) rfl (cons_ok lv rfl))) (chk_pos (show 3 ≤ sizeLine by decide))) (by rw [List.length_map]; exact Nat.lt_of_le_of_lt hr (by decide))).trans ?_
      rw [← List.map_singleton (f := roadD), ← List.map_append]
      rfl
    exact (seq_nx ((if_t t1).trans ap)).trans (inc _)
  · rw [decide_eq_false h] at t1
    rw [if_neg h]
    exact (seq_nx (if_n t1)).trans (inc _)
/-- roads that leave a, the second place from b on, in order -/
inductive Fan (a P : Nat) : Nat → List Road → Prop
  | nil {b : Nat} : Fan a P b []
  | cons {b b' c : Nat} {rs : List Road} (h : b ≤ b') (hP : b' < P) (h1 : 1 ≤ c) (h9 : c ≤ 9) (t : Fan a P (b' + 1) rs) : Fan a P b ((a, b', c) :: rs)
theorem Fan.weak {a P b b' : Nat} {rs : List Road} (h : Fan a P b' rs) (hb : b ≤ b') : Fan a P b rs := by
  cases h with
  | nil => exact .nil
  | cons h hP h1 h9 t => exact .cons (Nat.le_trans hb h) hP h1 h9 t
theorem fan_loop {ds : List Int} {most : Int} {P a : Nat} : ∀ (n b k : Nat) (roads : List Road) (x6 : Option Cell), b + n = P → k + n ≤ ds.length → roads.length + n ≤ 100000 →
    ∃ new y6, Fan a P b new ∧ new.length ≤ n ∧ forGo (setV 6) pairBody ((List.range' b n).map fun (i : Nat) => PyData.int (i : Int)) (vE ds most P roads k (some (.dat (.int a))) x6) = .nx (vE ds most P (roads ++ new) ((k + n : Nat) : Int) (some (.dat (.int a))) y6)
  | 0, b, k, roads, x6, _, _, _ => ⟨[], x6, .nil, Nat.le_refl _, by rw [List.append_nil]; rfl⟩
  | n + 1, b, k, roads, x6, hb, hk, hr => by
    have st := pair_step (ds := ds) (most := most) (P := P) (roads := roads) (k := k) (a := a) (b := b) (by omega) (by omega)
    have hl : (if ds[k] % 5 < 3 then roads ++ [(a, b, lenOf ds[k])] else roads).length + n ≤ 100000 := by
      split
      · rw [List.length_append]; show roads.length + 1 + n ≤ 100000; omega
      · omega
    obtain ⟨new, y6, f, hn, run⟩ := fan_loop (ds := ds) (most := most) (P := P) (a := a) n (b + 1) (k + 1) (if ds[k] % 5 < 3 then roads ++ [(a, b, lenOf ds[k])] else roads) (some (.dat (.int b))) (by omega) (by omega) hl
    have go := for_nx (set := setV 6) (x := .int b) (r := (List.range' (b + 1) n).map fun (i : Nat) => PyData.int (i : Int)) (e := vE ds most P roads k (some (.dat (.int a))) x6) (e1 := vE ds most P roads k (some (.dat (.int a))) (some (.dat (.int b)))) rfl st
    rw [List.range'_succ, List.map_cons, go, run, show k + 1 + n = k + (n + 1) by omega]
    by_cases h : ds[k] % 5 < 3
    · simp only [if_pos h]
      exact ⟨(a, b, lenOf ds[k]) :: new, y6, .cons (Nat.le_refl _) (by omega) lenOf_bd.1 lenOf_bd.2 f, by simp; omega, by rw [List.append_assoc]; rfl⟩
    · simp only [if_neg h]
      exact ⟨new, y6, f.weak (by omega), by omega, rfl⟩
def lexlt (r s : Road) : Prop := r.1 < s.1 ∨ (r.1 = s.1 ∧ r.2.1 < s.2.1)
def roadIn (P : Nat) (r : Road) : Prop := r.1 < r.2.1 ∧ r.2.1 < P ∧ 1 ≤ r.2.2 ∧ r.2.2 ≤ 9
structure TownOk (P : Nat) (roads : List Road) : Prop where
  all : ∀ r ∈ roads, roadIn P r
  asc : List.Pairwise lexlt roads
theorem Fan.all {a P : Nat} : ∀ {b : Nat} {rs : List Road}, Fan a P b rs → ∀ r ∈ rs, r.1 = a ∧ b ≤ r.2.1 ∧ r.2.1 < P ∧ 1 ≤ r.2.2 ∧ r.2.2 ≤ 9
  | _, _, .nil, r, h => by cases h
  | b, _, .cons (b' := b') (c := c) (rs := rs) h hP h1 h9 t, r, hr => by
    rcases List.mem_cons.mp hr with e | hr
    · subst e; exact ⟨rfl, h, hP, h1, h9⟩
    · obtain ⟨z1, z2, z3⟩ := t.all r hr
      exact ⟨z1, by omega, z3⟩
theorem Fan.asc {a P : Nat} : ∀ {b : Nat} {rs : List Road}, Fan a P b rs → List.Pairwise lexlt rs
  | _, _, .nil => List.Pairwise.nil
  | b, _, .cons h hP h1 h9 t => List.Pairwise.cons (fun r hr => .inr ⟨(t.all r hr).1.symm, by have := (t.all r hr).2.1; exact this⟩) t.asc
theorem rng_at (b n : Nat) : (List.range n).map (fun (i : Nat) => PyData.int ((b : Int) + (i : Int))) = (List.range' b n).map fun (i : Nat) => PyData.int (i : Int) := by
  rw [List.range'_eq_map_range, List.map_map]
  refine List.map_congr_left fun i _ => ?_ -- here
  show PyData.int ((b : Int) + (i : Int)) = PyData.int ((b + i : Nat) : Int)
  rw [Int.natCast_add]
theorem first_step {ds : List Int} {most : Int} {P a k : Nat} {roads : List Road} {x6 : Option Cell} (ha : a < P) (hP : P ≤ 100) (hk : k + (P - (a + 1)) ≤ ds.length) (hr : roads.length ≤ 90000) :
    ∃ new y6, Fan a P (a + 1) new ∧ new.length ≤ P - (a + 1) ∧ firstBody (vE ds most P roads k (some (.dat (.int a))) x6) = .nx (vE ds most P (roads ++ new) ((k + (P - (a + 1)) : Nat) : Int) (some (.dat (.int a))) y6) := by
  obtain ⟨new, y6, f, hn, run⟩ := fan_loop (ds := ds) (most := most) (P := P) (a := a) (P - (a + 1)) (a + 1) k roads x6 (by omega) hk (by omega)
  refine ⟨new, y6, f, hn, ?_⟩
  unfold firstBody
  have it : eB2 iRange2 (eB2 addD (eVarB 5) (eC (.int 1))) (eVarB 2) (vE ds most P roads k (some (.dat (.int a))) x6) = .ok ((List.range' (a + 1) (P - (a + 1))).map fun (i : Nat) => PyData.int (i : Int)) := by
    refine b2_ok (op := iRange2) (x := PyData.int ((a + 1 : Nat) : Int)) (y := PyData.int P) rfl rfl ?_
    show chk _ (Res.ok (rngL ((a + 1 : Nat) : Int) ((P : Int) - ((a + 1 : Nat) : Int)).toNat)) = _
    rw [chk_pos ⟨by omega, by omega, by omega, by omega⟩, show ((P : Int) - ((a + 1 : Nat) : Int)).toNat = P - (a + 1) by omega]
    exact congrArg Res.ok (rng_at (a + 1) (P - (a + 1)))
  exact (sFor_ok it).trans run
/-- the pairs ahead of a -/
def tri (P : Nat) : Nat → Nat
  | 0 => 0
  | a + 1 => tri P a + (P - (a + 1))
theorem firsts_loop {ds : List Int} {most : Int} {P : Nat} (hP : P ≤ 100) : ∀ (n a : Nat) (roads : List Road) (x5 x6 : Option Cell), a + n = P → 1 + tri P P ≤ ds.length → TownOk P roads → (∀ r ∈ roads, r.1 < a) → roads.length ≤ tri P a → tri P P ≤ 90000 → (∀ j, j ≤ P → tri P j ≤ tri P P) →
    ∃ rs y5 y6, TownOk P rs ∧ rs.length ≤ tri P P ∧ forGo (setV 5) firstBody ((List.range' a n).map fun (i : Nat) => PyData.int (i : Int)) (vE ds most P roads ((1 + tri P a : Nat) : Int) x5 x6) = .nx (vE ds most P rs ((1 + tri P P : Nat) : Int) y5 y6)
  | 0, a, roads, x5, x6, ha, _, ok, _, hl, _, _ => by
    have e : a = P := by omega
    subst e
    exact ⟨roads, x5, x6, ok, hl, rfl⟩
  | n + 1, a, roads, x5, x6, ha, hd, ok, hlt, hl, hb, hm => by
    have h1 := hm (a + 1) (by omega)
    have e1 : tri P (a + 1) = tri P a + (P - (a + 1)) := rfl
    obtain ⟨new, y6, f, hn, run⟩ := first_step (ds := ds) (most := most) (P := P) (a := a) (k := 1 + tri P a) (roads := roads) (x6 := x6) (by omega) hP (by omega) (by omega)
    have ok' : TownOk P (roads ++ new) := by
      refine ⟨fun r hr => ?_, List.pairwise_append.mpr ⟨ok.asc, f.asc, fun r hr s hs => .inl ?_⟩⟩
      · rcases List.mem_append.mp hr with hr | hr -- here
        · exact ok.all r hr
        · obtain ⟨z1, z2, z3, z4⟩ := f.all r hr
          exact ⟨by omega, z3, z4⟩
      · have := hlt r hr
        have := (f.all s hs).1
        omega
    obtain ⟨rs, y5, y6', okr, hlr, go⟩ := firsts_loop (ds := ds) (most := most) hP n (a + 1) (roads ++ new) (some (.dat (.int a))) y6 (by omega) hd ok' (fun r hr => by
      rcases List.mem_append.mp hr with hr | hr -- here
      · have := hlt r hr; omega
      · have := (f.all r hr).1; omega) (by rw [List.length_append, e1]; omega) hb hm
    refine ⟨rs, y5, y6', okr, hlr, ?_⟩
    have st := for_nx (set := setV 5) (x := .int a) (r := (List.range' (a + 1) n).map fun (i : Nat) => PyData.int (i : Int)) (e := vE ds most P roads ((1 + tri P a : Nat) : Int) x5 x6) (e1 := vE ds most P roads ((1 + tri P a : Nat) : Int) (some (.dat (.int a))) x6) rfl run
    rw [List.range'_succ, List.map_cons, st, show 1 + tri P a + (P - (a + 1)) = 1 + tri P (a + 1) by omega]
    exact go
theorem tri7 : ∀ P, P ≤ 7 → tri P P ≤ 21 ∧ ∀ j, j ≤ P → tri P j ≤ tri P P := by decide
/-- the town of the draws -/
theorem town {ds : List Int} {most : Nat} (h1 : 1 ≤ most) (h7 : most ≤ 7) (hd : 22 ≤ ds.length) (hv : ∀ v ∈ ds, 0 ≤ v ∧ v < 1000) : ∃ (P : Nat) (roads : List Road), 1 ≤ P ∧ P ≤ most ∧ TownOk P roads ∧ roads.length ≤ 21 ∧
    (P : Int) = 1 + ds.headD 0 % most ∧ m_town [intsD ds, .int most] = .ok (.tuple [.int P, .list (roads.map roadD)]) := by
  obtain ⟨d0, dr, rfl⟩ : ∃ d0 dr, ds = d0 :: dr := by
    cases ds with
    | nil => simp at hd
    | cons a b => exact ⟨a, b, rfl⟩
  have v0 := hv d0 (by simp)
  have m1 := Int.emod_nonneg d0 (by omega : (most : Int) ≠ 0)
  have m2 := Int.emod_lt_of_pos d0 (by omega : (0 : Int) < most)
  obtain ⟨P, hP⟩ : ∃ P : Nat, 1 + d0 % (most : Int) = (P : Int) := ⟨(1 + d0 % (most : Int)).toNat, by rw [Int.toNat_of_nonneg (by omega)]⟩
  have p1 : 1 ≤ P := by omega
  have p7 : P ≤ most := by omega
  obtain ⟨t21, tm⟩ := tri7 P (by omega)
  obtain ⟨rs, y5, y6, ok, hl, run⟩ := firsts_loop (ds := d0 :: dr) (most := most) (P := P) (by omega) P 0 [] none none (by omega) (by omega) ⟨(fun _ h => by cases h), List.Pairwise.nil⟩ (fun _ h => by cases h) (by simp) (by omega) tm
  refine ⟨P, rs, p1, p7, ok, by omega, hP.symm, ?_⟩
  unfold m_town
  refine (mkF_ok rfl).trans ?_
  show outRes (sSeq _ _ [some (.dat (intsD (d0 :: dr))), some (.dat (.int most)), none, none, none, none, none]) = _
  rw [seq_nx (e' := [some (.dat (intsD (d0 :: dr))), some (.dat (.int most)), some (.dat (.int P)), none, none, none, none]) (set_ok (d := .int P) (b2_ok (op := addD) (x := PyData.int 1) (y := PyData.int (d0 % most)) rfl (b2_ok (op := modD) (x := PyData.int d0) (y := PyData.int most) (b1_ok (op := intD) (x := PyData.int d0) (b2_ok (op := ixD) (x := intsD (d0 :: dr)) (y := PyData.int 0) rfl rfl (ix_ok (atI_nat (j := 0) rfl))) rfl) rfl (mod_ok (by omega))) (by show Res.ok (PyData.int (1 + d0 % most)) = _; rw [hP])))]
  rw [seq_nx (e' := [some (.dat (intsD (d0 :: dr))), some (.dat (.int most)), some (.dat (.int P)), some (.own (.list [])), none, none, none]) (own_ok (d := .list []) (b1_ok (op := lstD) (x := ([] : List Mir.D)) rfl (chk_pos (by decide))))]
  rw [seq_nx (e' := vE (d0 :: dr) most P [] 1 none none) (set_ok (d := .int 1) rfl)]
  have it : eB1 iRange1 (eVarB 2) (vE (d0 :: dr) most P [] 1 none none) = .ok ((List.range' 0 P).map fun (i : Nat) => PyData.int (i : Int)) := by
    refine b1_ok (op := iRange1) (x := PyData.int P) rfl ?_
    show chk _ (Res.ok (rngL 0 (P : Int).toNat)) = _
    rw [chk_pos ⟨by omega, by omega⟩, Int.toNat_natCast]
    exact congrArg Res.ok (rng_at 0 P)
  rw [seq_nx ((sFor_ok it).trans run)]
  have rt : eB1 tupD (eCons (eVar 2) (eCons (eVar 3) eNil)) [some (.dat (intsD (d0 :: dr))), some (.dat (.int most)), some (.dat (.int P)), some (.dat (.list (rs.map roadD))), some (.dat (.int ((1 + tri P P : Nat) : Int))), y5, y6] = .ok (.tuple [.int P, .list (rs.map roadD)]) :=
    b1_ok (op := tupD) (x := [PyData.int P, PyData.list (rs.map roadD)]) rfl (chk_pos (show 2 ≤ sizeLine by decide))
  refine (congrArg outRes (ret_ok rt : sFrz 3 (sRet (eB1 tupD (eCons (eVar 2) (eCons (eVar 3) eNil)))) (vE (d0 :: dr) most P rs ((1 + tri P P : Nat) : Int) y5 y6) = _)).trans rfl
/-! ### such a town is right -/
theorem lexGe_pairs (a b c d : Nat) : lexGe [(a : Int), b] [(c : Int), d] = decide (c < a ∨ (a = c ∧ d ≤ b)) := by
  have e : lexGe [(a : Int), b] [(c : Int), d] = (if decide ((a : Int) = c) = true then (if decide ((b : Int) = d) = true then true else decide ((d : Int) ≤ b)) else decide ((c : Int) ≤ a)) := rfl
  rw [e]
  by_cases h : a = c
  · subst h
    rw [if_pos (by simp)]
    by_cases q : b = d
    · subst q; simp
    · rw [if_neg (by simp; omega)]
      rw [Bool.eq_iff_iff, decide_eq_true_iff, decide_eq_true_iff]
      omega
  · rw [if_neg (by simp; omega)]
    rw [Bool.eq_iff_iff, decide_eq_true_iff, decide_eq_true_iff]
    omega
theorem roadOk_of {P : Nat} {r : Road} (h : roadIn P r) : roadOk P (roadI r) = true := by
  obtain ⟨h1, h2, h3, h4⟩ := h
  show (within r.1 0 (P - 1) && within r.2.1 0 (P - 1) && (decide ((r.1 : Int) < r.2.1) && within r.2.2 1 9)) = true
  unfold within
  simp only [Bool.and_eq_true, decide_eq_true_eq] -- here
  omega
theorem check_all {P : Nat} {all : List Road} (ok : TownOk P all) : ∀ (rest pre : List Road), all = pre ++ rest → checkFrom P (all.map roadI) pre.length (rest.map roadI) = .ok ()
  | [], _, _ => rfl
  | r :: rest, pre, h => by
    have hr : roadIn P r := ok.all r (by rw [h]; simp)
    have ih := check_all ok rest (pre ++ [r]) (by rw [h, List.append_assoc]; rfl)
    rw [List.length_append] at ih
    have c : roadOk P (roadI r) = true ∧ (pre.length = 0 ∨ lexGe (((all.map roadI).getD (pre.length - 1) []).take 2) ((roadI r).take 2) = false) := by
      refine ⟨roadOk_of hr, ?_⟩
      by_cases z : pre.length = 0
      · exact .inl z
      · refine .inr ?_
        obtain ⟨pre', q, rfl⟩ : ∃ pre' q, pre = pre' ++ [q] := ⟨pre.dropLast, pre.getLast (fun y => z (by rw [y]; rfl)), (List.dropLast_concat_getLast _).symm⟩
        have g : (all.map roadI).getD ((pre' ++ [q]).length - 1) [] = roadI q := by
          rw [h, List.map_append, List.map_append, List.length_append, List.getD_eq_getElem?_getD]
          simp
        rw [g]
        have lt : lexlt q r := by
          have := ok.asc
          rw [h, List.append_assoc, List.pairwise_append] at this
          have := this.2.1
          rw [List.singleton_append, List.pairwise_cons] at this
          exact this.1 r List.mem_cons_self
        show lexGe [(q.1 : Int), q.2.1] [(r.1 : Int), r.2.1] = false
        rw [lexGe_pairs, decide_eq_false_iff_not]
        unfold lexlt at lt
        omega
    show (if roadOk P (roadI r) = true ∧ _ then checkFrom P (all.map roadI) (pre.length + 1) (rest.map roadI) else _) = _
    rw [if_pos c]
    exact ih
theorem check_ok {P : Nat} (hP : 1 ≤ P) (h7 : P ≤ 7) {roads : List Road} (ok : TownOk P roads) : checkR P (roads.map roadI) = .ok () := by
  unfold checkR
  rw [if_pos (by unfold within; simp only [Bool.and_eq_true, decide_eq_true_eq]; omega)]
  exact check_all ok roads [] rfl
theorem TownOk.small {P : Nat} (h7 : P ≤ 999) {roads : List Road} (ok : TownOk P roads) : ∀ r ∈ roads, smallR r := fun r hr => by
  obtain ⟨h1, h2, h3, h4⟩ := ok.all r hr
  exact ⟨by omega, by omega, by omega⟩ -- here
end Near

/-! NearW: lists made, texts joined. -/
namespace Near
open PySem PySem.Spec L2 Mir
section
variable {α : Type} {set : Mir.D → Mir.Env → Res Mir.Env} {t : Mir.Env → Res Bool} {f : Mir.Env → Res Mir.D} {e env : Mir.Env} {enc out : α → Mir.D}
theorem lc_map : ∀ {xs : List α} {acc : List Mir.D}, (∀ x ∈ xs, ∃ e', set (enc x) e = .ok e' ∧ t e' = .ok true ∧ f e' = .ok (out x)) → acc.length + xs.length ≤ sizeLine → lcGo set t f e (xs.map enc) acc = .ok (acc ++ xs.map out)
  | [], acc, _, _ => by rw [List.map_nil, List.map_nil, List.append_nil]; rfl
  | x :: xs, acc, h, hl => by
    obtain ⟨e', h1, h2, h3⟩ := h x List.mem_cons_self
    have hs : acc.length < sizeLine := by simp only [List.length_cons] at hl; omega
    rw [List.map_cons, lcGo, h1]
    show ((nox (t e')).bind fun b => if b = true then (nox (f e')).bind fun y => chk (acc.length < sizeLine) (lcGo set t f e (xs.map enc) (acc ++ [y])) else lcGo set t f e (xs.map enc) acc) = _
    rw [h2]
    show (nox (f e')).bind (fun y => chk (acc.length < sizeLine) (lcGo set t f e (xs.map enc) (acc ++ [y]))) = _
    rw [h3]
    show chk (acc.length < sizeLine) (lcGo set t f e (xs.map enc) (acc ++ [out x])) = _
    rw [chk_pos hs, lc_map (fun y hy => h y (List.mem_cons_of_mem _ hy)) (by simp only [List.length_append, List.length_cons, List.length_nil] at hl ⊢; omega), List.append_assoc]
    rfl
theorem eLc_map {it : Mir.Env → Res (List Mir.D)} {vs : List Nat} {xs : List α} (hit : it env = .ok (xs.map enc)) (h : ∀ x ∈ xs, ∃ e', set (enc x) (wipeE vs env) = .ok e' ∧ t e' = .ok true ∧ f e' = .ok (out x)) (hl : xs.length ≤ sizeLine) :
    eLc it vs set t f env = .ok (.list (xs.map out)) := by
  unfold eLc
  rw [hit]
  show (lcGo set t f (wipeE vs env) (xs.map enc) []).bind _ = _
  rw [lc_map h (by simpa using hl), List.nil_append]
end
abbrev wordsD (ws : List Str) : Mir.D := .list (ws.map .str)
abbrev wD (wss : List (List Str)) : Mir.D := .list (wss.map wordsD)
theorem str_num {n : Nat} (h : n ≤ 999) : strD (.int n) = .ok (.str (numW n)) := by
  refine chk_pos ?_
  rw [Int.natAbs_natCast]
  by_cases z : n = 0
  · subst z; decide
  · exact Nat.lt_of_lt_of_le ((Nat.log2_lt z).mpr (Nat.lt_of_le_of_lt h (by decide : 999 < 2 ^ 10))) (by decide)
def m_lines : List Mir.D → Res Mir.D := mkF 3 1
    (sRet (eB2 addD (eB1 lstD (eCons (eB1 lstD (eCons (eC (.str "places")) (eCons (eB1 strD (eB2 ixD (eVarB 0) (eC (.int 0)))) eNil))) eNil)) (eLc (eB1 iSeq (eB2 ixD (eVarB 0) (eC (.int 1)))) [1] (setV 1) tYesB (eB2 addD (eB1 lstD (eCons (eC (.str "road")) eNil)) (eLc (eB1 iSeq (eVar 1)) [2] (setV 2) tYesB (eB1 strD (eVarB 2)))))))
def m_text : List Mir.D → Res Mir.D := mkF 2 1
    (sRet (eM1 joinD (eC (.str "")) (eLc (eB1 iSeq (eVar 0)) [1] (setV 1) tYesB (eB2 addD (eM1 joinD (eC (.str " ")) (eVar 1)) (eC (.str "\n"))))))
theorem lines_of_town {P : Nat} {roads : List Road} (hP : P ≤ 999) (h : ∀ r ∈ roads, smallR r) (hl : roads.length ≤ 1000) : m_lines [.tuple [.int P, .list (roads.map roadD)]] = .ok (wD (townW P roads)) := by
  unfold m_lines
  refine (mkF_ok rfl).trans ?_
  show outRes (sRet _ [some (.dat (.tuple [.int P, .list (roads.map roadD)])), none, none]) = _
  have rds : eLc (eB1 iSeq (eB2 ixD (eVarB 0) (eC (.int 1)))) [1] (setV 1) tYesB (eB2 addD (eB1 lstD (eCons (eC (.str "road")) eNil)) (eLc (eB1 iSeq (eVar 1)) [2] (setV 2) tYesB (eB1 strD (eVarB 2)))) [some (.dat (.tuple [.int P, .list (roads.map roadD)])), none, none] = .ok (.list (roads.map fun r => wordsD (roadW r))) := by
    refine eLc_map (enc := roadD) (b1_ok (op := iSeq) (x := PyData.list (roads.map roadD)) (b2_ok (op := ixD) (x := PyData.tuple [.int P, .list (roads.map roadD)]) (y := PyData.int 1) rfl rfl rfl) rfl) (fun r hr => ?_) (Nat.le_trans hl (by decide))
    obtain ⟨h1, h2, h3⟩ := h r hr
    refine ⟨[some (.dat (.tuple [.int P, .list (roads.map roadD)])), some (.dat (roadD r)), none], rfl, rfl, ?_⟩
    refine b2_ok (op := addD) (x := PyData.list [.str "road"]) (y := PyData.list ([r.1, r.2.1, r.2.2].map fun n => PyData.str (numW n))) (b1_ok (op := lstD) (x := [PyData.str "road"]) rfl (chk_pos (by decide))) ?_ (chk_pos (show 4 ≤ sizeLine by decide))
    refine eLc_map (enc := fun (n : Nat) => PyData.int n) (xs := [r.1, r.2.1, r.2.2]) rfl (fun n hn => ?_) (show 3 ≤ sizeLine by decide)
    refine ⟨[some (.dat (.tuple [.int P, .list (roads.map roadD)])), some (.dat (roadD r)), some (.dat (.int n))], rfl, rfl, b1_ok (op := strD) (x := PyData.int n) rfl (str_num ?_)⟩
    simp only [List.mem_cons, List.not_mem_nil, or_false] at hn
    rcases hn with e | e | e <;> rw [e] <;> assumption
  have fst : eB1 lstD (eCons (eB1 lstD (eCons (eC (.str "places")) (eCons (eB1 strD (eB2 ixD (eVarB 0) (eC (.int 0)))) eNil))) eNil) [some (.dat (.tuple [.int P, .list (roads.map roadD)])), none, none] = .ok (.list [wordsD ["places", numW P]]) := by
    refine b1_ok (op := lstD) (x := [wordsD ["places", numW P]]) (cons_ok (x := wordsD ["places", numW P]) (b1_ok (op := lstD) (x := [PyData.str "places", PyData.str (numW P)]) (cons_ok (x := PyData.str "places") rfl (cons_ok (x := PyData.str (numW P)) (b1_ok (op := strD) (x := PyData.int P) (b2_ok (op := ixD) (x := PyData.tuple [.int P, .list (roads.map roadD)]) (y := PyData.int 0) rfl rfl rfl) (str_num hP)) rfl)) (chk_pos (show 2 ≤ sizeLine by decide))) rfl) (chk_pos (show 1 ≤ sizeLine by decide))
  rw [ret_ok (d := wD (townW P roads)) (b2_ok (op := addD) fst rds ?_)]
  · rfl
  · show chk _ (Res.ok (PyData.list ([wordsD ["places", numW P]] ++ roads.map fun r => wordsD (roadW r)))) = _
    rw [chk_pos (by simp only [List.length_map, List.length_cons, List.length_nil]; exact Nat.le_trans (by omega : 0 + 1 + roads.length ≤ 1001) (by decide))]
    show Res.ok (PyData.list (wordsD ["places", numW P] :: roads.map fun r => wordsD (roadW r))) = Res.ok (PyData.list (((([("places" : Str), numW P]) :: roads.map roadW)).map wordsD))
    rw [List.map_cons, List.map_map]
    rfl
theorem unStr_map : ∀ ws : List Str, unStr (ws.map PyData.str) = some ws
  | [] => rfl
  | w :: ws => by rw [List.map_cons, unStr, unStr_map ws]; rfl
theorem joinL_len {S : List Nat} : ∀ (ps : List (List Nat)), (TL.joinL S ps).length + S.length ≥ (ps.map List.length).sum + ps.length * S.length
  | [] => by simp [TL.joinL]
  | [p] => by simp [TL.joinL]
  | p :: q :: r => by
    have ih := joinL_len (S := S) (q :: r)
    show (p ++ (S ++ TL.joinL S (q :: r))).length + S.length ≥ _
    simp only [List.length_append, List.map_cons, List.sum_cons, List.length_cons, Nat.add_mul, Nat.one_mul] at ih ⊢
    omega
theorem mkLine_join (ws : List Str) : Txt.join " " ws = mkLine ws := TL.ext_tl (by rw [TL.join_eq, TL.tl_join, sp1]; rfl)
theorem sum_len (ws : List Str) : ((ws.map TL.tl).map List.length).sum = (ws.map fun w : Str => w.length).sum := by
  rw [List.map_map]
  refine congrArg List.sum (List.map_congr_left fun w _ => ?_)
  exact (TL.len_tl w).symm
theorem join_sp {ws : List Str} (hl : (mkLine ws).length ≤ 100000) : joinD (.str " ") (wordsD ws) = .ok (.str (mkLine ws)) := by
  show (match unStr (ws.map PyData.str) with | some ys => chk ((ys.map fun w : Str => w.length).sum + ys.length * (" " : Str).length ≤ 16777216) (Res.ok (PyData.str (Txt.join " " ys))) | none => Res.no) = _
  rw [unStr_map]
  have h := joinL_len (S := [32]) (ws.map TL.tl)
  rw [sum_len, List.length_map, List.length_singleton] at h
  rw [TL.len_tl, tl_mkLine] at hl
  have l1 : (" " : Str).length = 1 := by decide +kernel
  show chk _ _ = _
  rw [chk_pos (by rw [l1]; omega), mkLine_join]
theorem tl_emp : TL.tl ("" : Str) = [] := by decide +kernel
theorem joinL_nil : ∀ ps : List (List Nat), TL.joinL [] ps = ps.flatten
  | [] => rfl
  | [p] => by simp [TL.joinL]
  | p :: q :: r => by
    show p ++ ([] ++ TL.joinL [] (q :: r)) = _
    rw [joinL_nil (q :: r)]
    rfl
theorem text_of {wss : List (List Str)} (hl : (mkText wss).length ≤ 100000) : m_text [wD wss] = .ok (.str (mkText wss)) := by
  unfold m_text
  refine (mkF_ok rfl).trans ?_
  show outRes (sRet _ [some (.dat (wD wss)), none]) = _
  have nl : ("\n" : Str).length = 1 := by decide +kernel
  have ls : eLc (eB1 iSeq (eVar 0)) [1] (setV 1) tYesB (eB2 addD (eM1 joinD (eC (.str " ")) (eVar 1)) (eC (.str "\n"))) [some (.dat (wD wss)), none] = .ok (.list (wss.map fun ws => PyData.str (mkLine ws ++ "\n"))) := by
    refine eLc_map (enc := wordsD) rfl (fun ws hws => ?_) (Nat.le_trans (few_flat wss) (Nat.le_trans hl (by decide)))
    have h1 := Nat.le_trans (len_flat_le hws) hl
    refine ⟨[some (.dat (wD wss)), some (.dat (wordsD ws))], rfl, rfl, b2_ok (op := addD) (x := PyData.str (mkLine ws)) (y := PyData.str "\n") ?_ rfl (chk_pos (by rw [nl]; exact Nat.le_trans (by omega : (mkLine ws).length + 1 ≤ 100001) (by decide)))⟩
    show chk (isStrD (.str " ") = true) (joinD (.str " ") (wordsD ws)) = _
    rw [chk_pos (show isStrD (.str " ") = true from rfl), join_sp h1]
  have tot : ((wss.map fun ws => mkLine ws ++ "\n").map fun w : Str => w.length).sum = (mkText wss).length := by
    rw [TL.len_tl, tl_mkText]
    clear ls hl
    induction wss with
    | nil => rfl
    | cons ws wss ih =>
      rw [List.map_cons, List.map_cons, List.sum_cons, ih, List.flatMap_cons, List.length_append]
      congr 1
      rw [TL.len_tl, TL.tl_append, tl_mkLine, nl1]
  have jn : eM1 joinD (eC (.str "")) (eLc (eB1 iSeq (eVar 0)) [1] (setV 1) tYesB (eB2 addD (eM1 joinD (eC (.str " ")) (eVar 1)) (eC (.str "\n")))) [some (.dat (wD wss)), none] = .ok (.str (mkText wss)) := by
    unfold eM1
    show chk (isStrD (.str "") = true) ((eLc (eB1 iSeq (eVar 0)) [1] (setV 1) tYesB (eB2 addD (eM1 joinD (eC (.str " ")) (eVar 1)) (eC (.str "\n"))) [some (.dat (wD wss)), none]).bind fun y => joinD (.str "") y) = _
    rw [chk_pos (show isStrD (.str "") = true from rfl), ls]
    show joinD (.str "") (.list (wss.map fun ws => PyData.str (mkLine ws ++ "\n"))) = _
    have e : (wss.map fun ws => PyData.str (mkLine ws ++ "\n")) = (wss.map fun ws => mkLine ws ++ "\n").map PyData.str := by rw [List.map_map]; rfl
    rw [e]
    show (match unStr ((wss.map fun ws => mkLine ws ++ "\n").map PyData.str) with | some ys => chk ((ys.map fun w : Str => w.length).sum + ys.length * ("" : Str).length ≤ 16777216) (Res.ok (PyData.str (Txt.join "" ys))) | none => Res.no) = _
    rw [unStr_map]
    have l0 : ("" : Str).length = 0 := by decide +kernel
    show chk _ _ = _
    rw [chk_pos (by rw [tot, l0]; omega)]
    congr 2
    refine TL.ext_tl ?_
    rw [TL.join_eq, TL.tl_join, tl_emp, joinL_nil, tl_mkText, List.map_map, List.flatMap_def]
    congr 1
    refine List.map_congr_left fun ws _ => ?_
    show TL.tl (mkLine ws ++ "\n") = _
    rw [TL.tl_append, tl_mkLine, nl1]
  rw [ret_ok jn]
  rfl
end Near

/-! NearX: texts with one wrong line; texts cut short. -/
namespace Near
open PySem PySem.Spec L2 Mir
theorem take_town (P : Nat) (roads : List Road) (j : Nat) : (townW P roads).take (j + 1) = townW P (roads.take j) := by
  unfold townW
  rw [List.take_succ_cons, List.map_take]
theorem rows_bad {P : Nat} {roads : List Road} (hp : P ≤ 999) (h : ∀ r ∈ roads, smallR r) {k : Nat} (hk : k ≤ 1 + roads.length) {bw : List Str} {rest : List (List Str)} {x : Exn} (hb : lineW ((k : Int) + 1) (headOf k) (some (countOf k)) bw = .ex x) :
    rowsL 0 ((townW P roads).take k ++ bw :: rest) [] = .ex x := by
  cases k with
  | zero =>
    show (lineW (((0 : Nat) : Int) + 1) (headOf 0) (some (countOf 0)) bw).bind _ = _
    rw [hb]; first | done | rfl
  | succ j =>
    have hl : (roads.take j).length = j := by rw [List.length_take]; omega
    rw [take_town, rows_town hp (fun r hr => h r (List.mem_of_mem_take hr)), hl, show 1 + j = j + 1 by omega]
    show (lineW (((j + 1 : Nat) : Int) + 1) (headOf (j + 1)) (some (countOf (j + 1))) bw).bind _ = _
    rw [hb]; first | done | rfl
theorem rows_whole {P : Nat} {roads : List Road} (hp : P ≤ 999) (h : ∀ r ∈ roads, smallR r) : rowsL 0 (townW P roads) [] = .ok ([(P : Int)] :: roads.map roadI) := by
  have e := rows_town hp h []
  rw [List.append_nil] at e
  rw [e]
  rfl
/-- a line of a few short words -/
def WsOk (ws : List Str) : Prop := ws ≠ [] ∧ ws.length ≤ 10 ∧ ∀ w ∈ ws, okW w ∧ w.length ≤ 10
theorem joinL_up {S : List Nat} {b : Nat} : ∀ (ps : List (List Nat)), (∀ p ∈ ps, p.length ≤ b) → (TL.joinL S ps).length ≤ ps.length * (b + S.length)
  | [], _ => by simp [TL.joinL]
  | [p], h => by
    have := h p (by simp)
    simp [TL.joinL]
    omega
  | p :: q :: r, h => by
    have ih := joinL_up (S := S) (b := b) (q :: r) (fun y hy => h y (List.mem_cons_of_mem _ hy))
    have := h p (by simp)
    show (p ++ (S ++ TL.joinL S (q :: r))).length ≤ _
    rw [List.length_append, List.length_append, List.length_cons, Nat.add_mul, Nat.one_mul]
    omega
theorem line_up {ws : List Str} (h : WsOk ws) : (mkLine ws).length ≤ 110 := by
  rw [TL.len_tl, tl_mkLine]
  have := joinL_up (S := [32]) (b := 10) (ws.map TL.tl) (fun p hp => by
    obtain ⟨w, hw, rfl⟩ := List.mem_map.mp hp
    rw [← TL.len_tl]
    exact (h.2.2 w hw).2)
  rw [List.length_map, List.length_singleton] at this
  have := h.2.1
  omega
theorem text_up : ∀ {wss : List (List Str)}, (∀ ws ∈ wss, WsOk ws) → (mkText wss).length ≤ 111 * wss.length
  | [], _ => by decide
  | ws :: wss, h => by
    have ih := text_up (wss := wss) fun v hv => h v (List.mem_cons_of_mem _ hv)
    have l := line_up (h ws List.mem_cons_self)
    rw [TL.len_tl, tl_mkText] at ih ⊢
    rw [TL.len_tl, tl_mkLine] at l
    rw [List.flatMap_cons, List.length_append, List.length_append, List.length_cons]
    simp only [List.length_cons, List.length_nil] -- here
    omega
theorem read_full {wss : List (List Str)} (h : ∀ ws ∈ wss, WsOk ws) (hl : wss.length ≤ 100) : m_read_town [.str (mkText wss)] = townR (wss.map mkLine) wss true := by
  have := text_up h
  exact rt_mk (fun ws hws => ⟨(h ws hws).1, fun w hw => ((h ws hws).2.2 w hw).1, Nat.le_trans (h ws hws).2.1 (by decide)⟩) (by omega)
/-- a text without its last sign -/
def cutL (t : Str) : Str := cutS t none (some (-1))
theorem tl_cutL (t : Str) : TL.tl (cutL t) = (TL.tl t).take ((TL.tl t).length - 1) := by
  have e : TL.tl (cutL t) = (t.cps.toList.drop 0).take (HT.sIx t.length t.length (some (-1)) - 0) := rfl
  rw [e, List.drop_zero, Nat.sub_zero]
  have e2 : HT.sIx t.length t.length (some (-1)) = t.length - 1 := by
    show (if (-1 : Int) < 0 then ((-1 : Int) + (t.length : Int)).toNat else min (-1 : Int).toNat t.length) = _
    rw [if_pos (by decide)]
    omega
  rw [e2, ← TL.len_tl]; first | done | rfl
theorem joinL_snoc {S : List Nat} : ∀ {ls : List (List Nat)} {l : List Nat}, TL.joinL S (ls ++ [l]) = ls.flatMap (fun p => p ++ S) ++ l
  | [], l => by simp [TL.joinL]
  | [p], l => by simp [TL.joinL]
  | p :: q :: r, l => by
    have ih := joinL_snoc (S := S) (ls := q :: r) (l := l)
    show p ++ (S ++ TL.joinL S ((q :: r) ++ [l])) = _
    rw [ih]
    simp only [List.flatMap_cons, List.append_assoc]
theorem shaped_line {ws : List Str} (h : WsOk ws) : SeqAt.shaped (.str (mkLine ws)) = true := by
  unfold SeqAt.shaped PyData.canLay0 PyData.strOk PyData.depth
  rw [Bool.and_eq_true]
  refine ⟨?_, by decide⟩
  rw [Array.all_eq_true_iff_forall_mem]
  intro c hc
  have hc : c ∈ TL.tl (mkLine ws) := Array.mem_toList_iff.mpr hc
  rw [tl_mkLine] at hc
  have : c < 256 := by
    rcases joinL_mem hc with h' | ⟨p, hp, h'⟩
    · simp at h'; omega
    · obtain ⟨w, hw, rfl⟩ := List.mem_map.mp hp
      exact ((h.2.2 w hw).1.1 c h').2.2
  simp
  omega
theorem read_cut {wss : List (List Str)} {ws : List Str} (h : ∀ v ∈ wss ++ [ws], WsOk v) (hl : (wss ++ [ws]).length ≤ 100) (hne : mkLine ws ≠ Str.empty) :
    m_read_town [.str (cutL (mkText (wss ++ [ws])))] = townR ((wss ++ [ws]).map mkLine) (wss ++ [ws]) false := by
  have up := text_up h
  have t : TL.tl (cutL (mkText (wss ++ [ws]))) = TL.joinL [10] (((wss ++ [ws]).map mkLine).map TL.tl) := by
    rw [tl_cutL, tl_mkText, List.map_append, List.map_append, List.map_singleton, List.map_singleton, joinL_snoc, List.flatMap_append, List.flatMap_singleton, List.flatMap_map, List.flatMap_map, ← List.append_assoc]
    rw [List.length_append, List.length_singleton, Nat.add_sub_cancel, List.take_left]
    rfl
  refine rt ⟨?_, ?_, ?_, ?_⟩ (linesOk_mk fun v hv => ⟨(h v hv).1, fun w hw => ((h v hv).2.2 w hw).1, Nat.le_trans (line_up (h v hv)) (by decide), Nat.le_trans (h v hv).2.1 (by decide)⟩)
  · rw [TL.len_tl, tl_cutL, List.length_take, ← TL.len_tl]
    omega
  · rw [List.length_map]; omega
  · show Txt.split (cutL (mkText (wss ++ [ws]))) "\n" = (wss ++ [ws]).map mkLine
    have e : cutL (mkText (wss ++ [ws])) = Txt.join "\n" ((wss ++ [ws]).map mkLine) := by
      refine TL.ext_tl ?_
      rw [TL.join_eq, TL.tl_join, nl1, t]
    rw [e]
    refine TL.split_join (s := 10) (S := []) nl1 (by decide +kernel) (by simp) fun l hlm hm => ?_
    obtain ⟨v, hv, rfl⟩ := List.mem_map.mp hlm
    rw [tl_mkLine] at hm
    rcases joinL_mem hm with h' | ⟨p, hp, h'⟩
    · simp at h'
    · obtain ⟨w, hw, rfl⟩ := List.mem_map.mp hp
      exact absurd rfl (((h v hv).2.2 w hw).1.1 10 h').2.1
  · intro _
    refine ⟨wss.map mkLine, mkLine ws, by rw [List.map_append]; rfl, hne, shaped_line (h ws (by simp)), Nat.le_trans (line_up (h ws (by simp))) (by decide)⟩
theorem town_bad {ls : List Str} {wss : List (List Str)} {b : Bool} {x : Exn} (h : rowsL 0 wss [] = .ex x) : townR ls wss b = .ex x := by
  unfold townR
  rw [h]; first | done | rfl
/-! ### the columns -/
def wsum (ns : List Nat) : Nat := (ns.map fun n => (numW n).length + 1).sum
theorem scan_nums {no k : Int} {rest : List Str} : ∀ (ns : List Nat) (found : List Int) (col : Int), (∀ n ∈ ns, n ≤ 999) → (found.length : Int) + ns.length ≤ k →
    scanL no (some k) (ns.map numW ++ rest) found col = scanL no (some k) rest (found ++ ns.map fun n : Nat => (n : Int)) (col + wsum ns)
  | [], found, col, _, _ => by simp [wsum]
  | n :: ns, found, col, h, hk => by
    rw [List.length_cons] at hk
    have ih := scan_nums (no := no) (k := k) (rest := rest) ns (found ++ [(n : Int)]) (col + ((numW n).length + 1)) (fun y hy => h y (List.mem_cons_of_mem _ hy)) (by rw [List.length_append, List.length_singleton]; omega)
    rw [List.map_cons, List.cons_append, scanL, num_back (h n List.mem_cons_self)]
    show (if (some k : Option Int) = some (found.length : Int) then _ else _) = _
    rw [if_neg (fun q => by have := Option.some.inj q; omega)]
    show scanL no (some k) (ns.map numW ++ rest) (found ++ [(n : Int)]) (col + ((numW n).length + 1)) = _
    rw [ih, List.map_cons, List.append_assoc]
    have e : col + (((numW n).length : Int) + 1) + (wsum ns : Int) = col + (wsum (n :: ns) : Int) := by
      unfold wsum
      rw [List.map_cons, List.sum_cons] -- here
      omega
    rw [e]
    rfl
theorem line_wsum (hd : Str) : ∀ (ns : List Nat), (mkLine (hd :: ns.map numW)).length = hd.length + wsum ns := by
  intro ns
  rw [TL.len_tl, TL.len_tl, tl_mkLine, List.map_cons]
  generalize TL.tl hd = l
  induction ns generalizing l with
  | nil => simp [TL.joinL, wsum]
  | cons n ns ih =>
    rw [List.map_cons, List.map_cons] -- here
    show (l ++ ([32] ++ TL.joinL [32] (TL.tl (numW n) :: (ns.map numW).map TL.tl))).length = _
    rw [List.length_append, List.length_append, ih, ← TL.len_tl]
    unfold wsum
    rw [List.map_cons, List.sum_cons] -- here
    simp only [List.length_singleton]
    omega
/-- the first word is wrong -/
theorem bad_head {no : Int} {hd : Str} {many : Option Int} {w : Str} {ws : List Str} (h : w ≠ hd) : lineW no hd many (w :: ws) = .ex (badText no 1) := if_neg h
/-- a word is no number, or is one too many -/
theorem bad_word {no k : Int} {hd : Str} {ns : List Nat} {w : Str} {rest : List Str} (h : ∀ n ∈ ns, n ≤ 999) (hk : (ns.length : Int) ≤ k) (hw : num? w = none ∨ (ns.length : Int) = k) :
    lineW no hd (some k) (hd :: ns.map numW ++ w :: rest) = .ex (badText no (((mkLine (hd :: ns.map numW)).length : Int) + 2)) := by
  show lineW no hd (some k) (hd :: (ns.map numW ++ w :: rest)) = _
  rw [lineW_hit, scan_nums ns [] _ h (by simpa using hk), line_wsum]
  have e : (hd.length : Int) + 2 + (wsum ns : Int) = ((hd.length + wsum ns : Nat) : Int) + 2 := by omega
  rw [e]
  have b : scanL no (some k) (w :: rest) ([] ++ ns.map fun n : Nat => (n : Int)) (((hd.length + wsum ns : Nat) : Int) + 2) = .ex (badText no (((hd.length + wsum ns : Nat) : Int) + 2)) := by
    rw [scanL]
    cases q : num? w with
    | none => rfl
    | some v =>
      rcases hw with hw | hw
      · rw [q] at hw; cases hw
      · show (if (some k : Option Int) = some ((([] : List Int) ++ ns.map fun n : Nat => (n : Int)).length : Int) then _ else _) = _
        rw [if_pos (by simp [hw])]
  rw [b]; first | done | rfl
/-- words are lacking -/
theorem bad_short {no k : Int} {hd : Str} {ns : List Nat} (h : ∀ n ∈ ns, n ≤ 999) (hk : (ns.length : Int) < k) :
    lineW no hd (some k) (hd :: ns.map numW) = .ex (badText no (((mkLine (hd :: ns.map numW)).length : Int) + 1)) := by
  have s := scan_nums (no := no) (k := k) (rest := []) ns [] ((hd.length : Int) + 2) h (by simp; omega)
  rw [List.append_nil] at s
  rw [lineW_hit, s, line_wsum]
  show (if (((([] : List Int) ++ ns.map fun n : Nat => (n : Int)).length : Int) < k) then Res.ex (badText no (((hd.length : Int) + 2 + (wsum ns : Int)) - 1)) else _) = _
  rw [if_pos (by simpa using hk)]
  have e : (hd.length : Int) + 2 + (wsum ns : Int) - 1 = ((hd.length + wsum ns : Nat) : Int) + 1 := by omega
  rw [e]
/-- the k-th line of a town -/
theorem town_line {P : Nat} {roads : List Road} (hp : P ≤ 999) (h : ∀ r ∈ roads, smallR r) {k : Nat} (hk : k < 1 + roads.length) :
    ∃ ns : List Nat, (townW P roads)[k]? = some (headOf k :: ns.map numW) ∧ (ns.length : Int) = countOf k ∧ ∀ n ∈ ns, n ≤ 999 := by
  cases k with
  | zero => exact ⟨[P], rfl, rfl, fun n hn => by rw [List.mem_singleton] at hn; omega⟩
  | succ j =>
    have hj : j < roads.length := by omega
    refine ⟨[roads[j].1, roads[j].2.1, roads[j].2.2], ?_, rfl, fun n hn => ?_⟩
    · unfold townW
      rw [List.getElem?_cons_succ, List.getElem?_map, List.getElem?_eq_getElem hj]
      rfl
    · obtain ⟨h1, h2, h3⟩ := h _ (List.getElem_mem hj)
      simp only [List.mem_cons, List.not_mem_nil, or_false] at hn
      rcases hn with e | e | e <;> rw [e] <;> assumption
theorem ws_town {P : Nat} {roads : List Road} (hp : P ≤ 999) (h : ∀ r ∈ roads, smallR r) : ∀ ws ∈ townW P roads, WsOk ws := by
  intro ws hws
  have num3 : ∀ {n : Nat}, n ≤ 999 → okW (numW n) ∧ (numW n).length ≤ 10 := fun {n} hn => ⟨okW_num hn, by rw [TL.len_tl, tl_numW]; exact Nat.le_trans (num_len hn) (by decide)⟩
  rcases List.mem_cons.mp hws with e | hws
  · subst e
    refine ⟨by simp, by simp, fun w hw => ?_⟩
    simp only [List.mem_cons, List.not_mem_nil, or_false] at hw
    rcases hw with rfl | rfl
    · exact ⟨okW_places, by decide +kernel⟩
    · exact num3 hp
  · obtain ⟨r, hr, rfl⟩ := List.mem_map.mp hws
    refine ⟨by simp [roadW], by simp [roadW], fun w hw => ?_⟩
    simp only [roadW, List.mem_cons, List.not_mem_nil, or_false] at hw
    obtain ⟨h1, h2, h3⟩ := h r hr
    rcases hw with rfl | rfl | rfl | rfl
    · exact ⟨okW_road, by decide +kernel⟩
    · exact num3 h1
    · exact num3 h2
    · exact num3 h3
end Near

/-! NearY: rules by which simp runs a mirror. -/
namespace Near
open PySem PySem.Spec L2 Mir
theorem r_b1 {α β : Type} {op : α → Res β} {f : Mir.Env → Res α} {e : Mir.Env} : eB1 op f e = match f e with | .ok x => op x | .ex y => .ex y | .no => .no := by
  unfold eB1; cases f e <;> rfl
theorem r_b2 {α β γ : Type} {op : α → β → Res γ} {f : Mir.Env → Res α} {g : Mir.Env → Res β} {e : Mir.Env} : eB2 op f g e = match f e with
  | .ok x => (match g e with | .ok y => op x y | .ex y => .ex y | .no => .no) | .ex y => .ex y | .no => .no := by
  unfold eB2; cases f e <;> first | rfl | (cases g e <;> rfl)
theorem r_b3 {α β γ δ : Type} {op : α → β → γ → Res δ} {f : Mir.Env → Res α} {g : Mir.Env → Res β} {h : Mir.Env → Res γ} {e : Mir.Env} : eB3 op f g h e = match f e with
  | .ok x => (match g e with | .ok y => (match h e with | .ok z => op x y z | .ex y => .ex y | .no => .no) | .ex y => .ex y | .no => .no) | .ex y => .ex y | .no => .no := by
  unfold eB3; cases f e <;> first | rfl | (cases g e <;> first | rfl | (cases h e <;> rfl))
theorem r_set {i : Nat} {f : Mir.Env → Res Mir.D} {e : Mir.Env} : sSet (setV i) f e = match f e with | .ok d => .nx (e.set i (some (.dat d))) | .ex y => .ex y e | .no => .no := by
  unfold sSet; cases f e <;> rfl
theorem r_own {i : Nat} {f : Mir.Env → Res Mir.D} {e : Mir.Env} : sOwn i f e = match f e with | .ok d => .nx (e.set i (some (.own d))) | .ex y => .ex y e | .no => .no := by
  unfold sOwn; cases f e <;> rfl
theorem r_setT {is : List Nat} {f : Mir.Env → Res Mir.D} {e : Mir.Env} : sSet (setT is) f e = match f e with | .ok d => resOut e (setT is d e) | .ex y => .ex y e | .no => .no := by
  unfold sSet; cases f e <;> rfl
theorem r_cons {α : Type} {f : Mir.Env → Res α} {g : Mir.Env → Res (List α)} {e : Mir.Env} : eCons f g e = match f e with
  | .ok x => (match g e with | .ok y => .ok (x :: y) | .ex y => .ex y | .no => .no) | .ex y => .ex y | .no => .no := by
  unfold eCons; cases f e <;> first | rfl | (cases g e <;> rfl)
theorem r_nil {α : Type} {e : Mir.Env} : (eNil : Mir.Env → Res (List α)) e = .ok [] := rfl
theorem r_c {d : Mir.D} {e : Mir.Env} : eC d e = .ok d := rfl
theorem r_none {e : Mir.Env} : eNone e = .ok none := rfl
theorem r_some {f : Mir.Env → Res Mir.D} {e : Mir.Env} : eSome f e = match f e with | .ok x => optI x | .ex y => .ex y | .no => .no := by
  unfold eSome; cases f e <;> rfl
theorem r_opt {i : Int} : optI (.int i) = .ok (some i) := rfl
theorem r_add {i j : Int} : addD (.int i) (.int j) = .ok (.int (i + j)) := rfl
theorem r_sub {i j : Int} : subD (.int i) (.int j) = .ok (.int (i - j)) := rfl
theorem r_mod {i j : Int} (h : 0 < j) : modD (.int i) (.int j) = .ok (.int (i % j)) := chk_pos h
theorem r_fdiv {i j : Int} (h : 0 < j ∧ j < 1073741824) : fdivD (.int i) (.int j) = .ok (.int (i / j)) := chk_pos h
theorem r_int {i : Int} : intD (.int i) = .ok (.int i) := rfl
theorem r_neg {i : Int} : negD (.int i) = .ok (.int (-i)) := rfl
theorem r_lenL {xs : List Mir.D} : lenD (.list xs) = .ok (.int xs.length) := rfl
theorem r_lenT {xs : List Mir.D} : lenD (.tuple xs) = .ok (.int xs.length) := rfl
theorem r_lenS {z : Str} (h : z.length ≤ sizeLine) : lenD (.str z) = .ok (.int z.length) := chk_pos h
theorem r_ixL {xs : List Mir.D} {i : Int} : ixD (.list xs) (.int i) = match atI xs i with | some d => .ok d | none => .no := rfl
theorem r_ixT {xs : List Mir.D} {i : Int} : ixD (.tuple xs) (.int i) = match atI xs i with | some d => .ok d | none => .no := rfl
theorem r_sliceL {xs : List Mir.D} {lo hi : Option Int} : sliceD (.list xs) lo hi = .ok (.list (cutD xs lo hi)) := rfl
theorem r_sliceS {z : Str} {lo hi : Option Int} (h : z.length ≤ sizeLine) : sliceD (.str z) lo hi = .ok (.str (cutS z lo hi)) := chk_pos h
theorem r_cat {xs ys : List Mir.D} (h : xs.length + ys.length ≤ sizeLine) : addD (.list xs) (.list ys) = .ok (.list (xs ++ ys)) := chk_pos h
theorem r_lst {xs : List Mir.D} (h : xs.length ≤ sizeLine) : lstD xs = .ok (.list xs) := chk_pos h
theorem r_tup {xs : List Mir.D} (h : xs.length ≤ sizeLine) : tupD xs = .ok (.tuple xs) := chk_pos h
theorem r_lt {i j : Int} : iltD (.int i) (.int j) = .ok (decide (i < j)) := rfl
theorem r_le {i j : Int} : ileD (.int i) (.int j) = .ok (decide (i ≤ j)) := rfl
theorem r_gt {i j : Int} : igtD (.int i) (.int j) = .ok (decide (j < i)) := rfl
theorem r_ge {i j : Int} : igeD (.int i) (.int j) = .ok (decide (j ≤ i)) := rfl
theorem r_eqI {i j : Int} : eqD (.int i) (.int j) = .ok (decide (i = j)) := by
  unfold eqD
  rw [chk_pos ⟨rfl, rfl⟩, eqv_int]
theorem r_if {t : Mir.Env → Res Bool} {g h : SF} {e : Mir.Env} : sIf t g h e = match t e with | .ok true => g e | .ok false => h e | .ex y => .ex y e | .no => .no := by
  unfold sIf
  cases t e with
  | ok b => cases b <;> rfl
  | ex y => rfl
  | no => rfl
theorem r_at0 {x : Mir.D} {xs : List Mir.D} : atI (x :: xs) 0 = some x := atI_nat (j := 0) rfl
theorem r_at1 {x y : Mir.D} {xs : List Mir.D} : atI (x :: y :: xs) 1 = some y := atI_nat (j := 1) rfl
theorem r_at2 {x y z : Mir.D} {xs : List Mir.D} : atI (x :: y :: z :: xs) 2 = some z := atI_nat (j := 2) rfl
theorem r_at3 {x y z w : Mir.D} {xs : List Mir.D} : atI (x :: y :: z :: w :: xs) 3 = some w := atI_nat (j := 3) rfl
theorem r_at4 {x y z w v : Mir.D} {xs : List Mir.D} : atI (x :: y :: z :: w :: v :: xs) 4 = some v := atI_nat (j := 4) rfl
theorem r_at5 {x y z w v u : Mir.D} {xs : List Mir.D} : atI (x :: y :: z :: w :: v :: u :: xs) 5 = some u := atI_nat (j := 5) rfl
theorem r_m1c {α : Type} {op : Mir.D → Mir.D → Res α} {s : Str} {g : Mir.Env → Res Mir.D} {e : Mir.Env} : eM1 op (eC (.str s)) g e = match g e with | .ok y => op (.str s) y | .ex y => .ex y | .no => .no := by
  unfold eM1 eC
  show chk (isStrD (.str s) = true) _ = _
  rw [chk_pos (show isStrD (.str s) = true from rfl)]
  cases g e <;> rfl
theorem r_last {xs : List Mir.D} {x : Mir.D} : atI (xs ++ [x]) (-1) = some x := by
  unfold atI ixN
  rw [if_neg (by decide), if_pos (by simp; omega)]
  show (xs ++ [x])[((-1 : Int) + ((xs ++ [x]).length : Int)).toNat]? = _
  rw [show ((-1 : Int) + ((xs ++ [x]).length : Int)).toNat = xs.length by simp; omega]
  simp
theorem r_put {i : Nat} {kk f : Mir.Env → Res Mir.D} {e : Mir.Env} : sPutL i kk f e = match f e with
  | .ok d => (match ownL e i with
    | .ok xs => (match kk e with
      | .ok (.int j) => (match ixN xs.length j with | some n => .nx (e.set i (some (.own (.list (xs.set n d))))) | none => .no)
      | .ok _ => .no | .ex y => .ex y e | .no => .no)
    | .ex y => .ex y e | .no => .no)
  | .ex y => .ex y e | .no => .no := by
  unfold sPutL
  cases f e with
  | ok d =>
    show resOut e ((ownL e i).bind _) = _
    cases ownL e i with
    | ok xs =>
      show resOut e ((kk e).bind _) = _
      cases kk e with
      | ok k =>
        cases k with
        | int j =>
          show resOut e (match ixN xs.length j with | some n => _ | none => _) = _
          cases h : ixN xs.length j <;> simp only [h] <;> rfl
        | _ => rfl
      | ex y => rfl
      | no => rfl
    | ex y => rfl
    | no => rfl
  | ex y => rfl
  | no => rfl
theorem r_app {i : Nat} {f : Mir.Env → Res Mir.D} {e : Mir.Env} : sAppend i f e = match ownL e i with
  | .ok xs => (match f e with | .ok d => (if xs.length < sizeLine then .nx (e.set i (some (.own (.list (xs ++ [d]))))) else .no) | .ex y => .ex y e | .no => .no)
  | _ => .no := by
  unfold sAppend
  cases ownL e i with
  | ok xs =>
    cases f e with
    | ok d =>
      show resOut e (chk _ _) = _
      by_cases h : xs.length < sizeLine
      · rw [chk_pos h]; simp only [if_pos h]; rfl
      · unfold chk; simp only [if_neg h]; rfl
    | ex y => rfl
    | no => rfl
  | ex y => rfl
  | no => rfl
theorem r_vb {t : Mir.Env → Res Bool} {e : Mir.Env} : vB t e = match t e with | .ok b => .ok (.bool b) | .ex y => .ex y | .no => .no := by
  unfold vB; cases t e <;> rfl
theorem r_intB {b : Bool} : intD (.bool b) = .ok (.int (if b = true then 1 else 0)) := rfl
theorem r_and {t u : Mir.Env → Res Bool} {e : Mir.Env} : bAnd t u e = match t e with | .ok true => u e | .ok false => .ok false | .ex y => .ex y | .no => .no := by
  unfold bAnd
  cases t e with
  | ok b => cases b <;> rfl
  | ex y => rfl
  | no => rfl
theorem r_or {t u : Mir.Env → Res Bool} {e : Mir.Env} : bOr t u e = match t e with | .ok true => .ok true | .ok false => u e | .ex y => .ex y | .no => .no := by
  unfold bOr
  cases t e with
  | ok b => cases b <;> rfl
  | ex y => rfl
  | no => rfl
theorem r_not {t : Mir.Env → Res Bool} {e : Mir.Env} : bNot t e = match t e with | .ok true => .ok false | .ok false => .ok true | .ex y => .ex y | .no => .no := by
  unfold bNot
  cases t e with
  | ok b => cases b <;> rfl
  | ex y => rfl
  | no => rfl
theorem r_cut {α β : Type} {f : α → β} {xs : List α} {lo hi : Option Int} : cutD (xs.map f) lo hi = (cutD xs lo hi).map f := by
  unfold cutD
  rw [List.length_map, List.map_take, List.map_drop]
theorem r_mulL {i j : Int} (h : -(2 ^ 64) < i ∧ i < 2 ^ 64) : mulD (.int i) (.int j) = .ok (.int (i * j)) := chk_pos (.inl h)
theorem r_mulR {i j : Int} (h : -(2 ^ 64) < j ∧ j < 2 ^ 64) : mulD (.int i) (.int j) = .ok (.int (i * j)) := chk_pos (.inr h)
theorem cut_pre {α : Type} (xs : List α) (j : Nat) : cutD xs none (some (j : Int)) = xs.take j := by
  unfold cutD
  rw [HT.sIx_none]
  show (xs.drop 0).take ((if (j : Int) < 0 then ((j : Int) + (xs.length : Int)).toNat else min (j : Int).toNat xs.length) - 0) = _
  rw [if_neg (by omega), Int.toNat_natCast, List.drop_zero, Nat.sub_zero]
  by_cases h : j ≤ xs.length
  · rw [Nat.min_eq_left h]
  · rw [Nat.min_eq_right (by omega), List.take_length, List.take_of_length_le (by omega)]
theorem cut_suf {α : Type} (xs : List α) (j : Nat) : cutD xs (some (j : Int)) none = xs.drop j := by
  unfold cutD
  show (xs.drop (if (j : Int) < 0 then ((j : Int) + (xs.length : Int)).toNat else min (j : Int).toNat xs.length)).take (xs.length - (if (j : Int) < 0 then ((j : Int) + (xs.length : Int)).toNat else min (j : Int).toNat xs.length)) = _
  rw [if_neg (by omega), Int.toNat_natCast] -- here
  by_cases h : j ≤ xs.length
  · rw [Nat.min_eq_left h, List.take_of_length_le (by rw [List.length_drop]; omega)]
  · rw [Nat.min_eq_right (by omega), List.drop_length, List.drop_of_length_le (by omega)]
    simp
theorem cut_mid {α : Type} (xs : List α) (i j : Nat) : cutD xs (some (i : Int)) (some (j : Int)) = (xs.drop i).take (j - i) := by
  unfold cutD
  show (xs.drop (if (i : Int) < 0 then ((i : Int) + (xs.length : Int)).toNat else min (i : Int).toNat xs.length)).take ((if (j : Int) < 0 then ((j : Int) + (xs.length : Int)).toNat else min (j : Int).toNat xs.length) - (if (i : Int) < 0 then ((i : Int) + (xs.length : Int)).toNat else min (i : Int).toNat xs.length)) = _
  rw [if_neg (by omega), if_neg (by omega), Int.toNat_natCast, Int.toNat_natCast]
  by_cases h : i ≤ xs.length
  · rw [Nat.min_eq_left h]
    by_cases q : j ≤ xs.length
    · rw [Nat.min_eq_left q]
    · rw [Nat.min_eq_right (by omega), List.take_of_length_le (by rw [List.length_drop]; omega), List.take_of_length_le (by rw [List.length_drop]; omega)]
  · rw [Nat.min_eq_right (by omega : xs.length ≤ i), List.drop_length, List.drop_of_length_le (by omega : xs.length ≤ i)]
    simp
theorem cut_mem {α : Type} {xs : List α} {lo hi : Option Int} {x : α} (h : x ∈ cutD xs lo hi) : x ∈ xs := List.mem_of_mem_drop (List.mem_of_mem_take h)
theorem cut_len {α : Type} (xs : List α) (lo hi : Option Int) : (cutD xs lo hi).length ≤ xs.length := by
  unfold cutD
  rw [List.length_take, List.length_drop] -- here
  omega
end Near

namespace K12
open PySem PySem.Spec L2 Mir
def c_COUNTS : List (Str × Mir.D) := [("places", (.int 1)), ("road", (.int 3))]
def c_DIGITS : Str := "0123456789"
def c_LONGEST : Mir.D := (.int 9)
def c_MOST : Mir.D := (.int 7)
def isaTab : List (String × List String) := [("BadSize", ["BadSize", "NearError", "ValueError", "Exception", "BaseException"]), ("BadRoad", ["BadRoad", "NearError", "ValueError", "Exception", "BaseException"]), ("BadText", ["BadText", "NearError", "ValueError", "Exception", "BaseException"])]
def isa (c T : String) : Option Bool := (isaTab.lookup c).map fun l => l.contains T
def m_is_within : List Mir.D → Res Mir.D := mkF 3 3
    (sRet (eAnd (eB1 (isiD isInt) (eVarB 0)) (eAnd (eB1 notD (eB1 (isiD isBool) (eVarB 0))) (vB (eChain (fun i j => decide (i ≤ j)) (fun i j => decide (i ≤ j)) (eVarB 1) (eVarB 0) (eVarB 2))))))
def m_is_road : List Mir.D → Res Mir.D := mkF 5 2
    (sSeq (sSet (setT [2, 3, 4]) (eVar 1))
    (sSeq (sIf (bOr (bNot (eB1 truD (eB1 m_is_within (eCons (eVar 2) (eCons (eC (.int 0)) (eCons (eB2 subD (eVarB 0) (eC (.int 1))) eNil)))))) (bNot (eB1 truD (eB1 m_is_within (eCons (eVar 3) (eCons (eC (.int 0)) (eCons (eB2 subD (eVarB 0) (eC (.int 1))) eNil))))))) (sRet (eC (.bool false))) sNil)
    (sRet (eAnd (vB (eB2 iltD (eVarB 2) (eVarB 3))) (eB1 m_is_within (eCons (eVar 4) (eCons (eC (.int 1)) (eCons (eC c_LONGEST) eNil))))))))
def m_check_town : List Mir.D → Res Mir.D := mkF 5 1
    (sSeq (sSet (setT [1, 2]) (eVar 0))
    (sSeq (sIf (bNot (eB1 truD (eB1 m_is_within (eCons (eVar 1) (eCons (eC (.int 1)) (eCons (eC c_MOST) eNil)))))) (sRaise "BadSize" [] eNil) sNil)
    (sFor (eB1 iEnum (eVar 2)) (setT [3, 4]) (sIf (bOr (bNot (eB1 truD (eB1 m_is_road (eCons (eVar 1) (eCons (eVar 4) eNil))))) (bAnd (eB2 igtD (eVarB 3) (eC (.int 0))) (eB2 tgeD (eB3 sliceD (eB2 ixD (eVarB 2) (eB2 subD (eVarB 3) (eC (.int 1)))) eNone (eSome (eC (.int 2)))) (eB3 sliceD (eVarB 4) eNone (eSome (eC (.int 2))))))) (sRaise "BadRoad" ["at"] (eCons (eVar 3) eNil)) sNil))))
def m_read_number : List Mir.D → Res Mir.D := mkF 2 1
    (sSeq (sIf (bOr (bNot (eChain (fun i j => decide (i ≤ j)) (fun i j => decide (i ≤ j)) (eC (.int 1)) (eB1 lenD (eVarB 0)) (eC (.int 3)))) (bNot (eB1 truD (eB1 allD (eLc (eB1 iStrD (eVar 0)) [1] (setV 1) tYesB (vB (eB2 inD (eVarB 1) (eC (.str c_DIGITS))))))))) (sRet (eC .none)) sNil)
    (sSeq (sIf (bAnd (eB2 eqD (eB2 ixD (eVarB 0) (eC (.int 0))) (eC (.str "0"))) (eB2 igtD (eB1 lenD (eVarB 0)) (eC (.int 1)))) (sRet (eC .none)) sNil)
    (sRet (eB1 intD (eVarB 0)))))
def m_read_line : List Mir.D → Res Mir.D := mkF 9 4
    (sSeq (sSet (setV 4) (eM1 splitD (eVar 0) (eC (.str " "))))
    (sSeq (sIf (eB2 neD (eB2 ixD (eVarB 4) (eC (.int 0))) (eVarB 2)) (sRaise "BadText" ["line", "column"] (eCons (eVar 1) (eCons (eC (.int 1)) eNil))) sNil)
    (sSeq (sOwn 5 (eB1 lstD eNil))
    (sSeq (sSet (setV 6) (eB2 addD (eB1 lenD (eVarB 2)) (eC (.int 2))))
    (sSeq (sFor (eB1 iSeq (eB3 sliceD (eVarB 4) (eSome (eC (.int 1))) eNone)) (setV 7) (sSeq (sSet (setV 8) (eB1 m_read_number (eCons (eVar 7) eNil)))
    (sSeq (sIf (bOr (eB1 isND (eVarB 8)) (bAnd (eB1 notND (eVarB 3)) (eB2 eqD (eB1 lenD (eVarB 5)) (eVarB 3)))) (sRaise "BadText" ["line", "column"] (eCons (eVar 1) (eCons (eVar 6) eNil))) sNil)
    (sSeq (sAppend 5 (eVar 8))
    (sAug 6 addI (eB2 addD (eB1 lenD (eVarB 7)) (eC (.int 1))))))))
    (sSeq (sIf (bAnd (eB1 notND (eVarB 3)) (eB2 iltD (eB1 lenD (eVarB 5)) (eVarB 3))) (sRaise "BadText" ["line", "column"] (eCons (eVar 1) (eCons (eB2 subD (eVarB 6) (eC (.int 1))) eNil))) sNil)
    (sFrz 5 (sRet (eVar 5)))))))))
def m_lines_of : List Mir.D → Res Mir.D := mkF 2 1
    (sSeq (sSet (setV 1) (eM1 splitD (eVar 0) (eC (.str "\n"))))
    (sSeq (sIf (eB2 eqD (eB2 ixD (eVarB 1) (eB1 negD (eC (.int 1)))) (eC (.str ""))) (sRet (eB1 tupD (eCons (eB3 sliceD (eVarB 1) eNone (eSome (eB1 negD (eC (.int 1))))) (eCons (eC (.bool true)) eNil)))) sNil)
    (sRet (eB1 tupD (eCons (eVar 1) (eCons (eC (.bool false)) eNil))))))
def m_read_town : List Mir.D → Res Mir.D := mkF 9 1
    (sSeq (sSet (setT [1, 2]) (eB1 m_lines_of (eCons (eVar 0) eNil)))
    (sSeq (sOwn 3 (eB1 lstD eNil))
    (sSeq (sFor (eB1 iEnum (eVar 1)) (setT [4, 5]) (sSeq (sSet (setV 6) (eIf (eB2 igtD (eVarB 4) (eC (.int 0))) (eC (.str "road")) (eC (.str "places"))))
    (sAppend 3 (eB1 m_read_line (eCons (eVar 5) (eCons (eB2 addD (eVarB 4) (eC (.int 1))) (eCons (eVar 6) (eCons (eB1 (tabD c_COUNTS) (eVar 6)) eNil))))))))
    (sSeq (sIf (bNot (eB1 truD (eVarB 2))) (sRaise "BadText" ["line", "column"] (eCons (eB1 lenD (eVarB 1)) (eCons (eB2 addD (eB1 lenD (eB2 ixD (eVarB 1) (eB1 negD (eC (.int 1))))) (eC (.int 1))) eNil))) sNil)
    (sSeq (sIf (bNot (eB1 truD (eVarB 3))) (sRaise "BadText" ["line", "column"] (eCons (eC (.int 1)) (eCons (eC (.int 1)) eNil))) sNil)
    (sSeq (sSet (setV 7) (eB1 tupD (eCons (eB2 ixD (eB2 ixD (eVarB 3) (eC (.int 0))) (eC (.int 0))) (eCons (eLc (eB1 iSeq (eB3 sliceD (eVarB 3) (eSome (eC (.int 1))) eNone)) [8] (setV 8) tYesB (eB1 tupleD (eVarB 8))) eNil))))
    (sSeq (sExpr (eB1 m_check_town (eCons (eVar 7) eNil)))
    (sRet (eVar 7)))))))))
def m__law_draws : List Mir.D → Res Mir.D := mkF 9 2
    (sSeq (sOwn 2 (eLc (eB1 iSeq (eVar 0)) [8] (setV 8) tYesB (eVar 8)))
    (sSeq (sOwn 3 (eB1 lstD eNil))
    (sSeq (sFor (eB1 iRange1 (eVarB 1)) (setV 4) (sSeq (sSet (setV 5) (eC (.int 0)))
    (sSeq (sIf (eB2 igtD (eB1 lenD (eVarB 2)) (eC (.int 0))) (sSeq (sSet (setV 6) (eB2 modD (eB1 intD (eVarB 4)) (eB1 lenD (eVarB 2))))
    (sIf (eB2 igeD (eB2 ixD (eVarB 2) (eVarB 6)) (eB2 powD (eC (.int 10)) (eC (.int 18)))) (sSeq (sSet (setV 5) (eB2 modD (eB1 intD (eB2 ixD (eVarB 2) (eVarB 6))) (eC (.int 1000))))
    (sPutL 2 (eVar 6) (eB2 fdivD (eB2 ixD (eVarB 2) (eVarB 6)) (eC (.int 1000))))) (sSeq (sSet (setV 7) (eB2 modD (eB1 intD (eB2 addD (eB2 addD (eB2 mulD (eB2 ixD (eVarB 2) (eVarB 6)) (eC (.int 48271))) (eB2 mulD (eVarB 4) (eC (.int 69621)))) (eC (.int 11)))) (eC (.int 2147483647))))
    (sSeq (sSet (setV 7) (eB2 modD (eB1 intD (eB2 addD (eB2 mulD (eVarB 7) (eC (.int 16807))) (eVarB 6))) (eC (.int 2147483629))))
    (sSet (setV 5) (eB2 modD (eB1 intD (eB2 fdivD (eVarB 7) (eC (.int 7)))) (eC (.int 1000)))))))) sNil)
    (sAppend 3 (eVar 5)))))
    (sFrz 3 (sRet (eVar 3))))))
def m__law_town : List Mir.D → Res Mir.D := mkF 7 2
    (sSeq (sSet (setV 2) (eB2 addD (eC (.int 1)) (eB2 modD (eB1 intD (eB2 ixD (eVarB 0) (eC (.int 0)))) (eVarB 1))))
    (sSeq (sOwn 3 (eB1 lstD eNil))
    (sSeq (sSet (setV 4) (eC (.int 1)))
    (sSeq (sFor (eB1 iRange1 (eVarB 2)) (setV 5) (sFor (eB2 iRange2 (eB2 addD (eVarB 5) (eC (.int 1))) (eVarB 2)) (setV 6) (sSeq (sIf (eB2 iltD (eB2 modD (eB1 intD (eB2 ixD (eVarB 0) (eVarB 4))) (eC (.int 5))) (eC (.int 3))) (sAppend 3 (eB1 tupD (eCons (eVar 5) (eCons (eVar 6) (eCons (eB2 addD (eC (.int 1)) (eB2 modD (eB1 intD (eB2 fdivD (eB2 ixD (eVarB 0) (eVarB 4)) (eC (.int 5)))) (eB2 ixD (eB1 lstD (eCons (eC (.int 3)) (eCons (eC (.int 9)) eNil))) (eB2 modD (eB1 intD (eB2 fdivD (eB2 ixD (eVarB 0) (eVarB 4)) (eC (.int 45)))) (eC (.int 2)))))) eNil))))) sNil)
    (sSet (setV 4) (eB2 addD (eVarB 4) (eC (.int 1)))))))
    (sFrz 3 (sRet (eB1 tupD (eCons (eVar 2) (eCons (eVar 3) eNil)))))))))
def m__law_lines : List Mir.D → Res Mir.D := mkF 3 1
    (sRet (eB2 addD (eB1 lstD (eCons (eB1 lstD (eCons (eC (.str "places")) (eCons (eB1 strD (eB2 ixD (eVarB 0) (eC (.int 0)))) eNil))) eNil)) (eLc (eB1 iSeq (eB2 ixD (eVarB 0) (eC (.int 1)))) [1] (setV 1) tYesB (eB2 addD (eB1 lstD (eCons (eC (.str "road")) eNil)) (eLc (eB1 iSeq (eVar 1)) [2] (setV 2) tYesB (eB1 strD (eVarB 2)))))))
def m__law_text : List Mir.D → Res Mir.D := mkF 2 1
    (sRet (eM1 joinD (eC (.str "")) (eLc (eB1 iSeq (eVar 0)) [1] (setV 1) tYesB (eB2 addD (eM1 joinD (eC (.str " ")) (eVar 1)) (eC (.str "\n"))))))
def tbl (s : String) : Option (List Mir.D → Res Mir.D) := if s = "read_town" then some m_read_town else none
def m__law_place : List Cell → Res Mir.D := mkFC 3 2
    (sSeq (sTry isa (sExpr (eCallV tbl 0 (eCons (eVar 1) eNil))) [⟨"BadText", some 2, fun x_e => (sIf (bAnd (eB1 truD (eIsE isa 2 x_e "NearError")) (eB1 truD (eIsE isa 2 x_e "ValueError"))) (sRet (eB1 tupD (eCons (eFld 2 x_e "line") (eCons (eFld 2 x_e "column") eNil)))) sNil)⟩,
    ⟨"NearError", none, fun _ => (sRet (eC (.str "")))⟩])
    (sRet (eC .none)))
def m__law_spoilt : List Mir.D → Res Mir.D := mkF 8 2
    (sSeq (sFrz 0 (sOwn 0 (eLc (eB1 iSeq (eVar 0)) [2] (setV 2) tYesB (eB1 listD (eVarB 2)))))
    (sSeq (sPar 3 4 (eCons (eB2 modD (eB1 intD (eB2 ixD (eVarB 1) (eC (.int 0)))) (eC (.int 7))) (eCons (eB2 modD (eB1 intD (eB2 ixD (eVarB 1) (eC (.int 1)))) (eB1 lenD (eVarB 0))) eNil)))
    (sSeq (sSet (setV 2) (eB2 ixD (eVarB 0) (eVarB 4)))
    (sSeq (sSet (setV 5) (eB2 addD (eC (.int 1)) (eB2 modD (eB1 intD (eB2 ixD (eVarB 1) (eC (.int 2)))) (eB2 subD (eB1 lenD (eVarB 2)) (eC (.int 1))))))
    (sSeq (sIf (eB2 eqD (eVarB 3) (eC (.int 0))) (sSeq (sSet (setV 6) (eB2 ixD (eB1 lstD (eCons (eC (.str "")) (eCons (eC (.str "Places")) (eCons (eC (.str "roads")) (eCons (eC (.str "x")) (eCons (eC (.str "0")) (eCons (eB2 ixD (eB1 lstD (eCons (eC (.str "road")) (eCons (eC (.str "places")) eNil))) (eB1 intD (vB (eB2 igtD (eVarB 4) (eC (.int 0)))))) eNil))))))) (eB2 modD (eB1 intD (eB2 ixD (eVarB 1) (eC (.int 3)))) (eC (.int 6)))))
    (sSeq (sPutL 0 (eVar 4) (eB2 addD (eB1 lstD (eCons (eVar 6) eNil)) (eB3 sliceD (eVarB 2) (eSome (eC (.int 1))) (eSome (eB2 addD (eC (.int 2)) (eB2 modD (eB1 intD (eB2 ixD (eVarB 1) (eC (.int 4)))) (eC (.int 4))))))))
    (sFrz 0 (sRet (eB1 tupD (eCons (eVar 0) (eCons (eC (.bool true)) (eCons (eB1 tupD (eCons (eB2 addD (eVarB 4) (eC (.int 1))) (eCons (eC (.int 1)) eNil))) eNil)))))))) sNil)
    (sSeq (sIf (eB2 eqD (eVarB 3) (eC (.int 1))) (sSeq (sSet (setV 7) (eB2 ixD (eB1 lstD (eCons (eC (.str "")) (eCons (eC (.str "00")) (eCons (eC (.str "01")) (eCons (eC (.str "1000")) (eCons (eC (.str "+1")) (eCons (eC (.str "a")) (eCons (eC (.str "1.")) (eCons (eC (.str "-1")) (eCons (eC (.str "-")) (eCons (eC (.str "1_0")) (eCons (eC (.str "\t7")) eNil)))))))))))) (eB2 modD (eB1 intD (eB2 ixD (eVarB 1) (eC (.int 3)))) (eC (.int 11)))))
    (sSeq (sPutL 0 (eVar 4) (eB2 addD (eB2 addD (eB3 sliceD (eVarB 2) eNone (eSome (eVarB 5))) (eB1 lstD (eCons (eVar 7) eNil))) (eB2 ixD (eB1 lstD (eCons (eB3 sliceD (eVarB 2) (eSome (eB2 addD (eVarB 5) (eC (.int 1)))) eNone) (eCons (eB2 addD (eB3 sliceD (eVarB 2) (eSome (eB2 addD (eVarB 5) (eC (.int 1)))) eNone) (eB1 lstD (eCons (eC (.str "7")) eNil))) (eCons (eB3 sliceD (eVarB 2) (eSome (eB2 addD (eVarB 5) (eC (.int 1)))) (eSome (eB1 negD (eC (.int 1))))) eNil)))) (eB2 modD (eB1 intD (eB2 ixD (eVarB 1) (eC (.int 5)))) (eC (.int 3))))))
    (sFrz 0 (sRet (eB1 tupD (eCons (eVar 0) (eCons (eC (.bool true)) (eCons (eB1 tupD (eCons (eB2 addD (eVarB 4) (eC (.int 1))) (eCons (eB2 addD (eB1 lenD (eM1 joinD (eC (.str " ")) (eB3 sliceD (eVarB 2) eNone (eSome (eVarB 5))))) (eC (.int 2))) eNil))) eNil)))))))) sNil)
    (sSeq (sIf (eB2 eqD (eVarB 3) (eC (.int 2))) (sSeq (sPutL 0 (eVar 4) (eB3 sliceD (eVarB 2) eNone (eSome (eVarB 5))))
    (sFrz 0 (sRet (eB1 tupD (eCons (eVar 0) (eCons (eC (.bool true)) (eCons (eB1 tupD (eCons (eB2 addD (eVarB 4) (eC (.int 1))) (eCons (eB2 addD (eB1 lenD (eM1 joinD (eC (.str " ")) (eB3 sliceD (eVarB 2) eNone (eSome (eVarB 5))))) (eC (.int 1))) eNil))) eNil))))))) sNil)
    (sSeq (sIf (eB2 eqD (eVarB 3) (eC (.int 3))) (sSeq (sPutL 0 (eVar 4) (eB2 addD (eVarB 2) (eB1 lstD (eCons (eB2 ixD (eB1 lstD (eCons (eC (.str "")) (eCons (eC (.str "x")) (eCons (eC (.str "7")) eNil)))) (eB2 modD (eB1 intD (eB2 ixD (eVarB 1) (eC (.int 3)))) (eC (.int 3)))) eNil))))
    (sFrz 0 (sRet (eB1 tupD (eCons (eVar 0) (eCons (eC (.bool true)) (eCons (eB1 tupD (eCons (eB2 addD (eVarB 4) (eC (.int 1))) (eCons (eB2 addD (eB1 lenD (eM1 joinD (eC (.str " ")) (eVar 2))) (eC (.int 2))) eNil))) eNil))))))) sNil)
    (sSeq (sIf (eB2 eqD (eVarB 3) (eC (.int 4))) (sSeq (sSet (setV 4) (eB2 modD (eB1 intD (eB2 ixD (eVarB 1) (eC (.int 1)))) (eB2 addD (eB1 lenD (eVarB 0)) (eC (.int 1)))))
    (sRet (eB1 tupD (eCons (eB2 addD (eB2 addD (eB3 sliceD (eVarB 0) eNone (eSome (eVarB 4))) (eB1 lstD (eCons (eB1 lstD (eCons (eC (.str "")) eNil)) eNil))) (eB3 sliceD (eVarB 0) (eSome (eVarB 4)) eNone)) (eCons (eC (.bool true)) (eCons (eB1 tupD (eCons (eB2 addD (eVarB 4) (eC (.int 1))) (eCons (eC (.int 1)) eNil))) eNil)))))) sNil)
    (sSeq (sIf (eB2 eqD (eVarB 3) (eC (.int 5))) (sFrz 0 (sRet (eB1 tupD (eCons (eVar 0) (eCons (eC (.bool false)) (eCons (eB1 tupD (eCons (eB1 lenD (eVarB 0)) (eCons (eB2 addD (eB1 lenD (eM1 joinD (eC (.str " ")) (eB2 ixD (eVarB 0) (eB1 negD (eC (.int 1)))))) (eC (.int 1))) eNil))) eNil)))))) sNil)
    (sRet (eB1 tupD (eCons (eB1 lstD eNil) (eCons (eC (.bool true)) (eCons (eB1 tupD (eCons (eC (.int 1)) (eCons (eC (.int 1)) eNil))) eNil)))))))))))))))
def m_law : List Mir.D → Res Mir.D := mkF 11 1
    (sSeq (sSet (setV 1) (eB1 m__law_draws (eCons (eVar 0) (eCons (eC (.int 45)) eNil))))
    (sSeq (sSet (setV 2) (eB1 m__law_lines (eCons (eB1 m__law_town (eCons (eVar 1) (eCons (eC (.int 7)) eNil))) eNil)))
    (sSeq (sIf (eB1 notND (eB1 m__law_place (eFun "read_town" (eDat (eB1 m__law_text (eCons (eVar 2) eNil)) (fun _ => .ok []))))) (sRet (eC (.bool false))) sNil)
    (sSeq (sFor (eB1 iRange1 (eC (.int 2))) (setV 3) (sSeq (sSet (setV 4) (eB3 sliceD (eVarB 1) (eSome (eB2 addD (eC (.int 30)) (eB2 mulD (eC (.int 6)) (eVarB 3)))) (eSome (eB2 addD (eC (.int 36)) (eB2 mulD (eC (.int 6)) (eVarB 3))))))
    (sSeq (sSet (setT [5, 6, 7]) (eB1 m__law_spoilt (eCons (eVar 2) (eCons (eVar 4) eNil))))
    (sSeq (sSet (setV 8) (eB2 modD (eB1 intD (eB2 ixD (eVarB 4) (eC (.int 0)))) (eC (.int 7))))
    (sSeq (sIf (bAnd (eB2 iltD (eVarB 8) (eC (.int 5))) (eB2 eqD (eB2 modD (eB1 intD (eB2 ixD (eVarB 4) (eC (.int 5)))) (eC (.int 4))) (eC (.int 1)))) (sSet (setV 5) (eB2 addD (eVarB 5) (eB3 sliceD (eB1 lstD (eCons (eB1 lstD (eCons (eC (.str "x")) eNil)) (eCons (eB1 lstD (eCons (eC (.str "road")) (eCons (eC (.str "y")) (eCons (eC (.str "A")) eNil)))) eNil))) eNone (eSome (eB2 addD (eC (.int 1)) (eB2 modD (eB1 intD (eB2 ixD (eVarB 4) (eC (.int 4)))) (eC (.int 2)))))))) sNil)
    (sSeq (sSet (setV 9) (eB1 m__law_text (eCons (eVar 5) eNil)))
    (sSeq (sIf (bOr (bNot (eB1 truD (eVarB 6))) (bAnd (eB2 iltD (eVarB 8) (eC (.int 4))) (eB2 eqD (eB2 modD (eB1 intD (eB2 ixD (eVarB 4) (eC (.int 5)))) (eC (.int 5))) (eC (.int 0))))) (sSet (setV 9) (eB3 sliceD (eVarB 9) eNone (eSome (eB1 negD (eC (.int 1)))))) sNil)
    (sSeq (sSet (setV 10) (eB1 m__law_place (eFun "read_town" (eDat (eVar 9) (fun _ => .ok [])))))
    (sIf (bOr (eB2 neD (eVarB 10) (eVarB 7)) (bOr (eB1 truD (eB1 (isiD isBool) (eB2 ixD (eVarB 10) (eC (.int 0))))) (eB1 truD (eB1 (isiD isBool) (eB2 ixD (eVarB 10) (eC (.int 1))))))) (sRet (eC (.bool false))) sNil)))))))))
    (sRet (eC (.bool true)))))))
end K12

namespace K12
open PySem PySem.Spec L2 Mir
def top (i : Nat) : Stmt := PySem.Challenge.pw_evernear_k12_the_first_wrong_word.main.body.getD i (.Pass ⟨0, 0, 0, 0⟩)
abbrev s_is_within : Stmt := top 8
abbrev s_is_road : Stmt := top 9
abbrev s_check_town : Stmt := top 10
abbrev s_read_number : Stmt := top 14
abbrev s_read_line : Stmt := top 15
abbrev s_lines_of : Stmt := top 16
abbrev s_read_town : Stmt := top 17
abbrev s__law_draws : Stmt := top 19
abbrev s__law_town : Stmt := top 20
abbrev s__law_lines : Stmt := top 21
abbrev s__law_text : Stmt := top 22
abbrev s__law_place : Stmt := top 23
abbrev s__law_spoilt : Stmt := top 24
abbrev s_law : Stmt := top 25
/-- what the top has written -/
structure Tx (P : Program) (w : World) (K : PySem.W.Frag) (mg : Str → Option Value) (cl : Nm) (a_BadRoad a_BadSize a_BadText a_NearError : Addr) : Prop where
  b_ValueError : mg "ValueError" = none
  b_all : mg "all" = none
  b_bool : mg "bool" = none
  b_enumerate : mg "enumerate" = none
  b_int : mg "int" = none
  b_isinstance : mg "isinstance" = none
  b_len : mg "len" = none
  b_list : mg "list" = none
  b_range : mg "range" = none
  b_str : mg "str" = none
  b_tuple : mg "tuple" = none
  t_COUNTS : TopTab K w mg "COUNTS" c_COUNTS
  t_DIGITS : TopStr mg "DIGITS" c_DIGITS
  t_LONGEST : TopDat K mg "LONGEST" c_LONGEST
  t_MOST : TopDat K mg "MOST" c_MOST
  c_BadRoad : cl.ex "BadRoad" = some a_BadRoad
  x_BadRoad : XMk.ExcTxt P K mg "BadRoad" ["at"] a_BadRoad
  c_BadSize : cl.ex "BadSize" = some a_BadSize
  x_BadSize : XMk.ExcTxt P K mg "BadSize" [] a_BadSize
  c_BadText : cl.ex "BadText" = some a_BadText
  x_BadText : XMk.ExcTxt P K mg "BadText" ["line", "column"] a_BadText
  n_BadText : mg "BadText" = some (.ref a_BadText)
  n_NearError : mg "NearError" = some (.ref a_NearError)
  h_BadText : ∀ (cn : String) (C : Addr) (b : Bool), cl.ex cn = some C → isa cn "BadText" = some b → PySem.W.exmOne K (.ref C) (.ref a_BadText) = some b
  h_NearError : ∀ (cn : String) (C : Addr) (b : Bool), cl.ex cn = some C → isa cn "NearError" = some b → PySem.W.exmOne K (.ref C) (.ref a_NearError) = some b
  k_NearError : ∀ (cn : String) (C : Addr) (b : Bool), cl.ex cn = some C → isa cn "NearError" = some b → PySem.W.kitOne K (.ref C) (.ref a_NearError) = some b
  k_ValueError : ∀ (cn : String) (C : Addr) (b : Bool), cl.ex cn = some C → isa cn "ValueError" = some b → PySem.W.kitOne K (.ref C) (.type "ValueError") = some b
  f_column : ∀ (cn : String) (C : Addr), cl.ex cn = some C → XfC K C ∧ PySem.W.findIn K (.ref C) "column" = some none
  f_line : ∀ (cn : String) (C : Addr), cl.ex cn = some C → XfC K C ∧ PySem.W.findIn K (.ref C) "line" = some none
  ec : ∀ (cn : String) (C : Addr), cl.ex cn = some C → ExcC K C
  v_read_town : ∃ f, mg "read_town" = some (.ref f) ∧ cl.fn "read_town" = some f
section
variable {P : Program} {w : World} {K : PySem.W.Frag} {mg : Str → Option Value} {base : Heap} {cl : Nm} {a_BadRoad a_BadSize a_BadText a_NearError : Addr}
theorem sc_is_within : FnScope ["value", "low", "high"] ["value", "low", "high"] (defScope s_is_within) := ⟨rfl, rfl, rfl, by decide +kernel, rfl, by decide +kernel, by decide +kernel⟩
theorem ok_is_within {f : Addr} {fd : FuncData} {kws : List (Str × V)} (F : FunD K "is_within" "is_within" (defArgs s_is_within) (defBody s_is_within) (defScope s_is_within) [] kws f fd) (T : Tx P w K mg cl a_BadRoad a_BadSize a_BadText a_NearError)  : FnG P w K mg base 2 f fd ["value", "low", "high"] (spD K cl m_is_within) :=
  fn_ok F sc_is_within fun cdv Ar outer s H E L0 B F0 hr hgd =>
    have hu := units200 hr
    (qs_one (q_ret (qe_and (qe_isi kit_int (pb_name (pv 0)) rfl T.b_isinstance (pe_tyint rfl rfl T.b_int)) (qe_and (qe_not (qe_isi kit_bool (pb_name (pv 0)) rfl T.b_isinstance (pe_tybool rfl rfl T.b_bool))) (qe_1 (qv_chain op_le op_le (pb_name (pv 1)) (pb_name (pv 0)) (pb_name (pv 2))))))))
theorem sc_is_road : FnScope ["places", "road", "first", "second", "length"] ["places", "road"] (defScope s_is_road) := ⟨rfl, rfl, rfl, by decide +kernel, rfl, by decide +kernel, by decide +kernel⟩
theorem ok_is_road {f : Addr} {fd : FuncData} {kws : List (Str × V)} (F : FunD K "is_road" "is_road" (defArgs s_is_road) (defBody s_is_road) (defScope s_is_road) [] kws f fd) (T : Tx P w K mg cl a_BadRoad a_BadSize a_BadText a_NearError) (H_is_within : Has P w K mg base cl 2 "is_within" ["value", "low", "high"] m_is_within) : FnG P w K mg base 3 f fd ["places", "road"] (spD K cl m_is_road) :=
  fn_ok F sc_is_road fun cdv Ar outer s H E L0 B F0 hr hgd =>
    have hu := units200 hr
    (qs_cons (q_set (pe_name (pv 1)) (qg_tup rfl (qgs_cons (pg_name (i := 2) sc_is_road.nd rfl (.inl rfl)) (qgs_cons (pg_name (i := 3) sc_is_road.nd rfl (.inl rfl)) (qgs_cons (pg_name (i := 4) sc_is_road.nd rfl (.inl rfl)) qgs_nil)))) setT_nx)
    (qs_cons (q_if (qt_w (qw_or (qt_not (qt_truth (pb_of (qe_call H_is_within (hr.mono (by decide)) hgd rfl (takes_of rfl rfl rfl rfl) (qa_cons (pe_name (pv 2)) (qa_cons pe_kint (qa_cons (qe_sub (pb_name (pv 0)) (pb_of pe_kint)) qa_nil))))))) (pw_or1 (qt_not (qt_truth (pb_of (qe_call H_is_within (hr.mono (by decide)) hgd rfl (takes_of rfl rfl rfl rfl) (qa_cons (pe_name (pv 3)) (qa_cons pe_kint (qa_cons (qe_sub (pb_name (pv 0)) (pb_of pe_kint)) qa_nil)))))))))) (qs_one (q_ret pe_kbool)) qs_nil)
    (qs_one (q_ret (qe_and (qv_lt (pb_name (pv 2)) (pb_name (pv 3))) (qe_1 (qe_call H_is_within (hr.mono (by decide)) hgd rfl (takes_of rfl rfl rfl rfl) (qa_cons (pe_name (pv 4)) (qa_cons pe_kint (qa_cons (pe_topDat T.t_LONGEST rfl) qa_nil))))))))))
theorem sc_check_town : FnScope ["town", "places", "roads", "at", "road"] ["town"] (defScope s_check_town) := ⟨rfl, rfl, rfl, by decide +kernel, rfl, by decide +kernel, by decide +kernel⟩
theorem ok_check_town {f : Addr} {fd : FuncData} {kws : List (Str × V)} (F : FunD K "check_town" "check_town" (defArgs s_check_town) (defBody s_check_town) (defScope s_check_town) [] kws f fd) (T : Tx P w K mg cl a_BadRoad a_BadSize a_BadText a_NearError) (H_is_road : Has P w K mg base cl 3 "is_road" ["places", "road"] m_is_road) (H_is_within : Has P w K mg base cl 2 "is_within" ["value", "low", "high"] m_is_within) : FnG P w K mg base 4 f fd ["town"] (spD K cl m_check_town) :=
  fn_ok F sc_check_town fun cdv Ar outer s H E L0 B F0 hr hgd =>
    have hu := units200 hr
    (qs_cons (q_set (pe_name (pv 0)) (qg_tup rfl (qgs_cons (pg_name (i := 1) sc_check_town.nd rfl (.inl rfl)) (qgs_cons (pg_name (i := 2) sc_check_town.nd rfl (.inl rfl)) qgs_nil))) setT_nx)
    (qs_cons (q_if (qt_not (qt_truth (pb_of (qe_call H_is_within (hr.mono (by decide)) hgd rfl (takes_of rfl rfl rfl rfl) (qa_cons (pe_name (pv 1)) (qa_cons pe_kint (qa_cons (pe_topDat T.t_MOST rfl) qa_nil))))))) (qs_one (q_raise0 rfl T.c_BadSize (takes_of rfl rfl rfl rfl) T.x_BadSize hr)) qs_nil)
    (qs_one (q_for (passes_of rfl) rfl (q_enum (pe_name (pv 2)) rfl T.b_enumerate) (qg_tup rfl (qgs_cons (pg_name (i := 3) sc_check_town.nd rfl (.inl rfl)) (qgs_cons (pg_name (i := 4) sc_check_town.nd rfl (.inl rfl)) qgs_nil))) setT_nx (qs_one (q_if (qt_w (qw_or (qt_not (qt_truth (pb_of (qe_call H_is_road (hr.mono (by decide)) hgd rfl (takes_of rfl rfl rfl rfl) (qa_cons (pe_name (pv 1)) (qa_cons (pe_name (pv 4)) qa_nil)))))) (pw_or1 (qt_w (qw_and (qt_gt (pb_name (pv 3)) (pb_of pe_kint)) (pw_and1 (qt_tge hu (pb_of (qe_slice (pb_of (qe_ix (pb_name (pv 2)) (pb_of (qe_sub (pb_name (pv 3)) (pb_of pe_kint))))) qp_none (qp_some (pb_of pe_kint)))) (pb_of (qe_slice (pb_name (pv 4)) qp_none (qp_some (pb_of pe_kint))))))))))) (qs_one (q_raise rfl T.c_BadRoad (takes_of rfl rfl rfl rfl) T.x_BadRoad hr (qa_cons (pe_name (pv 3)) qa_nil))) qs_nil))))))
theorem sc_read_number : FnScope ["word", "sign"] ["word"] (defScope s_read_number) := ⟨rfl, rfl, rfl, by decide +kernel, rfl, by decide +kernel, by decide +kernel⟩
theorem ok_read_number {f : Addr} {fd : FuncData} {kws : List (Str × V)} (F : FunD K "read_number" "read_number" (defArgs s_read_number) (defBody s_read_number) (defScope s_read_number) [] kws f fd) (T : Tx P w K mg cl a_BadRoad a_BadSize a_BadText a_NearError)  : FnG P w K mg base 2 f fd ["word"] (spD K cl m_read_number) :=
  fn_ok F sc_read_number fun cdv Ar outer s H E L0 B F0 hr hgd =>
    have hu := units200 hr
    (qs_cons (q_if (qt_w (qw_or (qt_not (qt_chain op_le op_le (pb_of pe_kint) (pb_of (qe_len (pb_name (pv 0)) rfl T.b_len)) (pb_of pe_kint))) (pw_or1 (qt_not (qt_truth (pb_of (qe_all rfl (pb_of (pe_of (qo_lc (pe_lc (own := [("sign", 1)]) rfl sc_read_number.nd (q_istr (pe_name (pv 0))) (blkOk_by (N := ["word", "sign"]) (sc := defScope s_read_number) (by decide +kernel)) (fun _ _ _ _ _ => (qg_name (pg_name (i := 1) sc_read_number.nd rfl (.inl rfl)))) (fun _ _ _ _ _ => pts_yes) (fun _ _ _ _ _ => (qv_in hu (pb_name (pv 1)) (pb_of (pe_topStr T.t_DIGITS rfl))))) (by decide)))) rfl T.b_all))))))) (qs_one (q_ret pe_knone)) qs_nil)
    (qs_cons (q_if (qt_w (qw_and (qt_eq hu (pb_of (qe_ix (pb_name (pv 0)) (pb_of pe_kint))) (pb_of pe_kstr)) (pw_and1 (qt_gt (pb_of (qe_len (pb_name (pv 0)) rfl T.b_len)) (pb_of pe_kint))))) (qs_one (q_ret pe_knone)) qs_nil)
    (qs_one (q_ret (qe_int (pb_name (pv 0)) rfl T.b_int)))))
theorem sc_read_line : FnScope ["line", "number", "head", "many", "words", "found", "column", "word", "value"] ["line", "number", "head", "many"] (defScope s_read_line) := ⟨rfl, rfl, rfl, by decide +kernel, rfl, by decide +kernel, by decide +kernel⟩
theorem ok_read_line {f : Addr} {fd : FuncData} {kws : List (Str × V)} (F : FunD K "read_line" "read_line" (defArgs s_read_line) (defBody s_read_line) (defScope s_read_line) [] kws f fd) (T : Tx P w K mg cl a_BadRoad a_BadSize a_BadText a_NearError) (H_read_number : Has P w K mg base cl 2 "read_number" ["word"] m_read_number) : FnG P w K mg base 3 f fd ["line", "number", "head", "many"] (spD K cl m_read_line) :=
  fn_ok F sc_read_line fun cdv Ar outer s H E L0 B F0 hr hgd =>
    have hu := units200 hr
    (qs_cons (q_name (ps_set (i := 4) sc_read_line.nd rfl (.inl rfl) (pe_of (qo_split (pe_name (pv 0)) pe_kstr))))
    (qs_cons (q_if (qt_ne hu (pb_of (qe_ix (pb_name (pv 4)) (pb_of pe_kint))) (pb_name (pv 2))) (qs_one (q_raise rfl T.c_BadText (takes_of rfl rfl rfl rfl) T.x_BadText hr (qa_cons (pe_name (pv 1)) (qa_cons pe_kint qa_nil)))) qs_nil)
    (qs_cons (q_own (ps_set (i := 5) sc_read_line.nd rfl (.inl rfl) (qo_lst qa_nil)))
    (qs_cons (q_name (ps_set (i := 6) sc_read_line.nd rfl (.inl rfl) (qe_add (pb_of (qe_len (pb_name (pv 2)) rfl T.b_len)) (pb_of pe_kint))))
    (qs_cons (q_for (passes_of rfl) rfl (q_iseq (qe_slice (pb_name (pv 4)) (qp_some (pb_of pe_kint)) qp_none)) (qg_name (pg_name (i := 7) sc_read_line.nd rfl (.inl rfl))) setV_nx (qs_cons (q_name (ps_set (i := 8) sc_read_line.nd rfl (.inl rfl) (qe_call H_read_number (hr.mono (by decide)) hgd rfl (takes_of rfl rfl rfl rfl) (qa_cons (pe_name (pv 7)) qa_nil))))
    (qs_cons (q_if (qt_w (qw_or (qt_isN (pb_name (pv 8))) (pw_or1 (qt_w (qw_and (qt_notN (pb_name (pv 3))) (pw_and1 (qt_eq hu (pb_of (qe_len (pb_name (pv 5)) rfl T.b_len)) (pb_name (pv 3))))))))) (qs_one (q_raise rfl T.c_BadText (takes_of rfl rfl rfl rfl) T.x_BadText hr (qa_cons (pe_name (pv 1)) (qa_cons (pe_name (pv 6)) qa_nil)))) qs_nil)
    (qs_cons (q_append (ps_expr (pe_bm PySem.F.plainAttrs_list PySem.F.slot_list_append PySem.F.type_list_append mt_append (pv 5) (pa_cons (pe_name (pv 8)) pa_nil))))
    (qs_one (q_aug (ps_aug sc_read_line.nd rfl (.inl rfl) (qe_add (pb_of (qe_len (pb_name (pv 7)) rfl T.b_len)) (pb_of pe_kint)) ip_add) sp_iadd))))))
    (qs_cons (q_if (qt_w (qw_and (qt_notN (pb_name (pv 3))) (pw_and1 (qt_lt (pb_of (qe_len (pb_name (pv 5)) rfl T.b_len)) (pb_name (pv 3)))))) (qs_one (q_raise rfl T.c_BadText (takes_of rfl rfl rfl rfl) T.x_BadText hr (qa_cons (pe_name (pv 1)) (qa_cons (qe_sub (pb_name (pv 6)) (pb_of pe_kint)) qa_nil)))) qs_nil)
    (qs_one (q_frz 5 (q_ret (pe_name (pv 5)))))))))))
theorem sc_lines_of : FnScope ["text", "lines"] ["text"] (defScope s_lines_of) := ⟨rfl, rfl, rfl, by decide +kernel, rfl, by decide +kernel, by decide +kernel⟩
theorem ok_lines_of {f : Addr} {fd : FuncData} {kws : List (Str × V)} (F : FunD K "lines_of" "lines_of" (defArgs s_lines_of) (defBody s_lines_of) (defScope s_lines_of) [] kws f fd) (T : Tx P w K mg cl a_BadRoad a_BadSize a_BadText a_NearError)  : FnG P w K mg base 2 f fd ["text"] (spD K cl m_lines_of) :=
  fn_ok F sc_lines_of fun cdv Ar outer s H E L0 B F0 hr hgd =>
    have hu := units200 hr
    (qs_cons (q_name (ps_set (i := 1) sc_lines_of.nd rfl (.inl rfl) (pe_of (qo_split (pe_name (pv 0)) pe_kstr))))
    (qs_cons (q_if (qt_eq hu (pb_of (qe_ix (pb_name (pv 1)) (pb_of (qe_neg (pb_of pe_kint))))) (pb_of pe_kstr)) (qs_one (q_ret (qe_tup (qa_cons (qe_slice (pb_name (pv 1)) qp_none (qp_some (pb_of (qe_neg (pb_of pe_kint))))) (qa_cons pe_kbool qa_nil))))) qs_nil)
    (qs_one (q_ret (qe_tup (qa_cons (pe_name (pv 1)) (qa_cons pe_kbool qa_nil)))))))
theorem sc_read_town : FnScope ["text", "lines", "is_ended", "rows", "place", "line", "head", "town", "row"] ["text"] (defScope s_read_town) := ⟨rfl, rfl, rfl, by decide +kernel, rfl, by decide +kernel, by decide +kernel⟩
theorem ok_read_town {f : Addr} {fd : FuncData} {kws : List (Str × V)} (F : FunD K "read_town" "read_town" (defArgs s_read_town) (defBody s_read_town) (defScope s_read_town) [] kws f fd) (T : Tx P w K mg cl a_BadRoad a_BadSize a_BadText a_NearError) (H_check_town : Has P w K mg base cl 4 "check_town" ["town"] m_check_town) (H_lines_of : Has P w K mg base cl 2 "lines_of" ["text"] m_lines_of) (H_read_line : Has P w K mg base cl 3 "read_line" ["line", "number", "head", "many"] m_read_line) : FnG P w K mg base 5 f fd ["text"] (spD K cl m_read_town) :=
  fn_ok F sc_read_town fun cdv Ar outer s H E L0 B F0 hr hgd =>
    have hu := units200 hr
    (qs_cons (q_set (qe_call H_lines_of (hr.mono (by decide)) hgd rfl (takes_of rfl rfl rfl rfl) (qa_cons (pe_name (pv 0)) qa_nil)) (qg_tup rfl (qgs_cons (pg_name (i := 1) sc_read_town.nd rfl (.inl rfl)) (qgs_cons (pg_name (i := 2) sc_read_town.nd rfl (.inl rfl)) qgs_nil))) setT_nx)
    (qs_cons (q_own (ps_set (i := 3) sc_read_town.nd rfl (.inl rfl) (qo_lst qa_nil)))
    (qs_cons (q_for (passes_of rfl) rfl (q_enum (pe_name (pv 1)) rfl T.b_enumerate) (qg_tup rfl (qgs_cons (pg_name (i := 4) sc_read_town.nd rfl (.inl rfl)) (qgs_cons (pg_name (i := 5) sc_read_town.nd rfl (.inl rfl)) qgs_nil))) setT_nx (qs_cons (q_name (ps_set (i := 6) sc_read_town.nd rfl (.inl rfl) (qe_if (qt_gt (pb_name (pv 4)) (pb_of pe_kint)) pe_kstr pe_kstr)))
    (qs_one (q_append (ps_expr (pe_bm PySem.F.plainAttrs_list PySem.F.slot_list_append PySem.F.type_list_append mt_append (pv 3) (pa_cons (qe_call H_read_line (hr.mono (by decide)) hgd rfl (takes_of rfl rfl rfl rfl) (qa_cons (pe_name (pv 5)) (qa_cons (qe_add (pb_name (pv 4)) (pb_of pe_kint)) (qa_cons (pe_name (pv 6)) (qa_cons (qe_tab T.t_COUNTS rfl (pe_name (pv 6))) qa_nil))))) pa_nil)))))))
    (qs_cons (q_if (qt_not (qt_truth (pb_name (pv 2)))) (qs_one (q_raise rfl T.c_BadText (takes_of rfl rfl rfl rfl) T.x_BadText hr (qa_cons (qe_len (pb_name (pv 1)) rfl T.b_len) (qa_cons (qe_add (pb_of (qe_len (pb_of (qe_ix (pb_name (pv 1)) (pb_of (qe_neg (pb_of pe_kint))))) rfl T.b_len)) (pb_of pe_kint)) qa_nil)))) qs_nil)
    (qs_cons (q_if (qt_not (qt_truth (pb_name (pv 3)))) (qs_one (q_raise rfl T.c_BadText (takes_of rfl rfl rfl rfl) T.x_BadText hr (qa_cons pe_kint (qa_cons pe_kint qa_nil)))) qs_nil)
    (qs_cons (q_name (ps_set (i := 7) sc_read_town.nd rfl (.inl rfl) (qe_tup (qa_cons (qe_ix (pb_of (qe_ix (pb_name (pv 3)) (pb_of pe_kint))) (pb_of pe_kint)) (qa_cons (pe_of (qo_lc (pe_lc (own := [("row", 8)]) rfl sc_read_town.nd (q_iseq (qe_slice (pb_name (pv 3)) (qp_some (pb_of pe_kint)) qp_none)) (blkOk_by (N := ["text", "lines", "is_ended", "rows", "place", "line", "head", "town", "row"]) (sc := defScope s_read_town) (by decide +kernel)) (fun _ _ _ _ _ => (qg_name (pg_name (i := 8) sc_read_town.nd rfl (.inl rfl)))) (fun _ _ _ _ _ => pts_yes) (fun _ _ _ _ _ => (qe_tuple (pb_name (pv 8)) rfl T.b_tuple))) (by decide))) qa_nil)))))
    (qs_cons (q_expr (qe_call H_check_town (hr.mono (by decide)) hgd rfl (takes_of rfl rfl rfl rfl) (qa_cons (pe_name (pv 7)) qa_nil)))
    (qs_one (q_ret (pe_name (pv 7)))))))))))
theorem sc__law_draws : FnScope ["_law_script", "_law_count", "_law_rests", "_law_draws_here", "_law_k", "_law_value", "_law_at", "_law_mixed", "_law_cell"] ["_law_script", "_law_count"] (defScope s__law_draws) := ⟨rfl, rfl, rfl, by decide +kernel, rfl, by decide +kernel, by decide +kernel⟩
theorem ok__law_draws {f : Addr} {fd : FuncData} {kws : List (Str × V)} (F : FunD K "_law_draws" "_law_draws" (defArgs s__law_draws) (defBody s__law_draws) (defScope s__law_draws) [] kws f fd) (T : Tx P w K mg cl a_BadRoad a_BadSize a_BadText a_NearError)  : FnG P w K mg base 2 f fd ["_law_script", "_law_count"] (spD K cl m__law_draws) :=
  fn_ok F sc__law_draws fun cdv Ar outer s H E L0 B F0 hr hgd =>
    have hu := units200 hr
    (qs_cons (q_ownLc (ps_setLc (i := 2) (own := [("_law_cell", 8)]) rfl sc__law_draws.nd rfl rfl (sw_true rfl rfl rfl (by decide +kernel)) (q_iseq (pe_name (pv 0))) (blkOk_by (N := ["_law_script", "_law_count", "_law_rests", "_law_draws_here", "_law_k", "_law_value", "_law_at", "_law_mixed", "_law_cell"]) (sc := defScope s__law_draws) (by decide +kernel)) (fun _ _ _ _ _ => (qg_name (pg_name (i := 8) sc__law_draws.nd rfl (.inl rfl)))) (fun _ _ _ _ _ => pts_yes) (fun _ _ _ _ _ => (pe_name (pv 8)))) (by decide))
    (qs_cons (q_own (ps_set (i := 3) sc__law_draws.nd rfl (.inl rfl) (qo_lst qa_nil)))
    (qs_cons (q_for (passes_of rfl) rfl (q_range1 (pb_name (pv 1)) rfl T.b_range) (qg_name (pg_name (i := 4) sc__law_draws.nd rfl (.inl rfl))) setV_nx (qs_cons (q_name (ps_set (i := 5) sc__law_draws.nd rfl (.inl rfl) pe_kint))
    (qs_cons (q_if (qt_gt (pb_of (qe_len (pb_name (pv 2)) rfl T.b_len)) (pb_of pe_kint)) (qs_cons (q_name (ps_set (i := 6) sc__law_draws.nd rfl (.inl rfl) (qe_mod (pb_of (qe_int (pb_name (pv 4)) rfl T.b_int)) (pb_of (qe_len (pb_name (pv 2)) rfl T.b_len)))))
    (qs_one (q_if (qt_ge (pb_of (qe_ix (pb_name (pv 2)) (pb_name (pv 6)))) (pb_of (qe_pow (pb_of pe_kint) (pb_of pe_kint)))) (qs_cons (q_name (ps_set (i := 5) sc__law_draws.nd rfl (.inl rfl) (qe_mod (pb_of (qe_int (pb_of (qe_ix (pb_name (pv 2)) (pb_name (pv 6)))) rfl T.b_int)) (pb_of pe_kint))))
    (qs_one (q_putL (ps_asg (qe_fdiv (pb_of (qe_ix (pb_name (pv 2)) (pb_name (pv 6)))) (pb_of pe_kint)) (pg_sub (pv 2) (pe_name (pv 6)) set_list))))) (qs_cons (q_name (ps_set (i := 7) sc__law_draws.nd rfl (.inl rfl) (qe_mod (pb_of (qe_int (pb_of (qe_add (pb_of (qe_add (pb_of (qe_mul (pb_of (qe_ix (pb_name (pv 2)) (pb_name (pv 6)))) (pb_of pe_kint))) (pb_of (qe_mul (pb_name (pv 4)) (pb_of pe_kint))))) (pb_of pe_kint))) rfl T.b_int)) (pb_of pe_kint))))
    (qs_cons (q_name (ps_set (i := 7) sc__law_draws.nd rfl (.inl rfl) (qe_mod (pb_of (qe_int (pb_of (qe_add (pb_of (qe_mul (pb_name (pv 7)) (pb_of pe_kint))) (pb_name (pv 6)))) rfl T.b_int)) (pb_of pe_kint))))
    (qs_one (q_name (ps_set (i := 5) sc__law_draws.nd rfl (.inl rfl) (qe_mod (pb_of (qe_int (pb_of (qe_fdiv (pb_name (pv 7)) (pb_of pe_kint))) rfl T.b_int)) (pb_of pe_kint)))))))))) qs_nil)
    (qs_one (q_append (ps_expr (pe_bm PySem.F.plainAttrs_list PySem.F.slot_list_append PySem.F.type_list_append mt_append (pv 3) (pa_cons (pe_name (pv 5)) pa_nil))))))))
    (qs_one (q_frz 3 (q_ret (pe_name (pv 3))))))))
theorem sc__law_town : FnScope ["_law_draws_here", "_law_most", "_law_places", "_law_roads", "_law_k", "_law_first", "_law_second"] ["_law_draws_here", "_law_most"] (defScope s__law_town) := ⟨rfl, rfl, rfl, by decide +kernel, rfl, by decide +kernel, by decide +kernel⟩
theorem ok__law_town {f : Addr} {fd : FuncData} {kws : List (Str × V)} (F : FunD K "_law_town" "_law_town" (defArgs s__law_town) (defBody s__law_town) (defScope s__law_town) [] kws f fd) (T : Tx P w K mg cl a_BadRoad a_BadSize a_BadText a_NearError)  : FnG P w K mg base 2 f fd ["_law_draws_here", "_law_most"] (spD K cl m__law_town) :=
  fn_ok F sc__law_town fun cdv Ar outer s H E L0 B F0 hr hgd =>
    have hu := units200 hr
    (qs_cons (q_name (ps_set (i := 2) sc__law_town.nd rfl (.inl rfl) (qe_add (pb_of pe_kint) (pb_of (qe_mod (pb_of (qe_int (pb_of (qe_ix (pb_name (pv 0)) (pb_of pe_kint))) rfl T.b_int)) (pb_name (pv 1)))))))
    (qs_cons (q_own (ps_set (i := 3) sc__law_town.nd rfl (.inl rfl) (qo_lst qa_nil)))
    (qs_cons (q_name (ps_set (i := 4) sc__law_town.nd rfl (.inl rfl) pe_kint))
    (qs_cons (q_for (passes_of rfl) rfl (q_range1 (pb_name (pv 2)) rfl T.b_range) (qg_name (pg_name (i := 5) sc__law_town.nd rfl (.inl rfl))) setV_nx (qs_one (q_for (passes_of rfl) rfl (q_range2 (pb_of (qe_add (pb_name (pv 5)) (pb_of pe_kint))) (pb_name (pv 2)) rfl T.b_range) (qg_name (pg_name (i := 6) sc__law_town.nd rfl (.inl rfl))) setV_nx (qs_cons (q_if (qt_lt (pb_of (qe_mod (pb_of (qe_int (pb_of (qe_ix (pb_name (pv 0)) (pb_name (pv 4)))) rfl T.b_int)) (pb_of pe_kint))) (pb_of pe_kint)) (qs_one (q_append (ps_expr (pe_bm PySem.F.plainAttrs_list PySem.F.slot_list_append PySem.F.type_list_append mt_append (pv 3) (pa_cons (qe_tup (qa_cons (pe_name (pv 5)) (qa_cons (pe_name (pv 6)) (qa_cons (qe_add (pb_of pe_kint) (pb_of (qe_mod (pb_of (qe_int (pb_of (qe_fdiv (pb_of (qe_ix (pb_name (pv 0)) (pb_name (pv 4)))) (pb_of pe_kint))) rfl T.b_int)) (pb_of (qe_ix (pb_of (qe_lst (qa_cons pe_kint (qa_cons pe_kint qa_nil)))) (pb_of (qe_mod (pb_of (qe_int (pb_of (qe_fdiv (pb_of (qe_ix (pb_name (pv 0)) (pb_name (pv 4)))) (pb_of pe_kint))) rfl T.b_int)) (pb_of pe_kint)))))))) qa_nil)))) pa_nil))))) qs_nil)
    (qs_one (q_name (ps_set (i := 4) sc__law_town.nd rfl (.inl rfl) (qe_add (pb_name (pv 4)) (pb_of pe_kint)))))))))
    (qs_one (q_frz 3 (q_ret (qe_tup (qa_cons (pe_name (pv 2)) (qa_cons (pe_name (pv 3)) qa_nil))))))))))
theorem sc__law_lines : FnScope ["_law_town_here", "_law_road", "_law_number"] ["_law_town_here"] (defScope s__law_lines) := ⟨rfl, rfl, rfl, by decide +kernel, rfl, by decide +kernel, by decide +kernel⟩
theorem ok__law_lines {f : Addr} {fd : FuncData} {kws : List (Str × V)} (F : FunD K "_law_lines" "_law_lines" (defArgs s__law_lines) (defBody s__law_lines) (defScope s__law_lines) [] kws f fd) (T : Tx P w K mg cl a_BadRoad a_BadSize a_BadText a_NearError)  : FnG P w K mg base 2 f fd ["_law_town_here"] (spD K cl m__law_lines) :=
  fn_ok F sc__law_lines fun cdv Ar outer s H E L0 B F0 hr hgd =>
    have hu := units200 hr
    (qs_one (q_ret (qe_add (pb_of (qe_lst (qa_cons (qe_lst (qa_cons pe_kstr (qa_cons (qe_str (pb_of (qe_ix (pb_name (pv 0)) (pb_of pe_kint))) rfl T.b_str) qa_nil))) qa_nil))) (pb_of (pe_of (qo_lc (pe_lc (own := [("_law_road", 1)]) rfl sc__law_lines.nd (q_iseq (qe_ix (pb_name (pv 0)) (pb_of pe_kint))) (blkOk_by (N := ["_law_town_here", "_law_road", "_law_number"]) (sc := defScope s__law_lines) (by decide +kernel)) (fun _ _ _ _ _ => (qg_name (pg_name (i := 1) sc__law_lines.nd rfl (.inl rfl)))) (fun _ _ _ _ _ => pts_yes) (fun _ _ _ _ _ => (qe_add (pb_of (qe_lst (qa_cons pe_kstr qa_nil))) (pb_of (pe_of (qo_lc (pe_lc (own := [("_law_number", 2)]) rfl sc__law_lines.nd (q_iseq (pe_name (pv 1))) (blkOk_by (N := ["_law_town_here", "_law_road", "_law_number"]) (sc := { kind := .function, names := [(".0", .local), ("_law_road", .local)], isGenerator := false, isCoroutine := false, more := [] }) (by decide +kernel)) (fun _ _ _ _ _ => (qg_name (pg_name (i := 2) sc__law_lines.nd rfl (.inl rfl)))) (fun _ _ _ _ _ => pts_yes) (fun _ _ _ _ _ => (qe_str (pb_name (pv 2)) rfl T.b_str))) (by decide))))))) (by decide)))))))
theorem sc__law_text : FnScope ["_law_lines_here", "_law_words"] ["_law_lines_here"] (defScope s__law_text) := ⟨rfl, rfl, rfl, by decide +kernel, rfl, by decide +kernel, by decide +kernel⟩
theorem ok__law_text {f : Addr} {fd : FuncData} {kws : List (Str × V)} (F : FunD K "_law_text" "_law_text" (defArgs s__law_text) (defBody s__law_text) (defScope s__law_text) [] kws f fd) (T : Tx P w K mg cl a_BadRoad a_BadSize a_BadText a_NearError)  : FnG P w K mg base 2 f fd ["_law_lines_here"] (spD K cl m__law_text) :=
  fn_ok F sc__law_text fun cdv Ar outer s H E L0 B F0 hr hgd =>
    have hu := units200 hr
    (qs_one (q_ret (qe_join pe_kstr (pe_of (qo_lc (pe_lc (own := [("_law_words", 1)]) rfl sc__law_text.nd (q_iseq (pe_name (pv 0))) (blkOk_by (N := ["_law_lines_here", "_law_words"]) (sc := defScope s__law_text) (by decide +kernel)) (fun _ _ _ _ _ => (qg_name (pg_name (i := 1) sc__law_text.nd rfl (.inl rfl)))) (fun _ _ _ _ _ => pts_yes) (fun _ _ _ _ _ => (qe_add (pb_of (qe_join pe_kstr (pe_name (pv 1)))) (pb_of pe_kstr)))) (by decide))))))
theorem sc__law_place : FnScope ["_law_reading", "_law_text_here", "e"] ["_law_reading", "_law_text_here"] (defScope s__law_place) := ⟨rfl, rfl, rfl, by decide +kernel, rfl, by decide +kernel, by decide +kernel⟩
theorem ok__law_place {f : Addr} {fd : FuncData} {kws : List (Str × V)} (F : FunD K "_law_place" "_law_place" (defArgs s__law_place) (defBody s__law_place) (defScope s__law_place) [] kws f fd) (T : Tx P w K mg cl a_BadRoad a_BadSize a_BadText a_NearError)  (HV : ∀ (s : String) (f : Addr) (G : List D → Res D), cl.fn s = some f → tbl s = some G → ∃ fd, PySem.W.keepIn K (.ref f) = true ∧ Binds K fd ["text"] [] ∧ FnG P w K mg base 5 f fd ["text"] (spD K cl G)) : FnG P w K mg base 6 f fd ["_law_reading", "_law_text_here"] (spC K cl m__law_place) :=
  fn_okC F sc__law_place fun cdv Ar outer s H E L0 B F0 hr hgd =>
    have hu := units200 hr
    (qs_cons (q_try rfl rfl rfl (takes_of rfl rfl rfl rfl) (fun W pn xe tk hp => (qs_one (q_expr (qe_callV HV (hr.mono (by decide)) hgd (pv 0) tk (qa_cons (pe_name (pv 1)) qa_nil)))))
    (.named ⟨rfl, by decide, .inl T.n_BadText⟩ T.h_BadText sc__law_place.nd rfl rfl (fun a oe cls d pn x_e Fc hz hf hx hi => (qs_one (q_if (qt_w (qw_and (qt_truth (pb_of (qe_isX hz hf hx T.ec T.k_NearError relv_ref rfl T.b_isinstance (pv 2) (pe_cls rfl T.n_NearError)))) (pw_and1 (qt_truth (pb_of (qe_isX hz hf hx T.ec T.k_ValueError relv_ty rfl T.b_isinstance (pv 2) (pe_bltn (v := .ty "ValueError") rfl T.b_ValueError (by decide +kernel) rfl))))))) (qs_one (q_ret (qe_tup (qa_cons (qe_fld hz hf hx T.f_line (pv 2)) (qa_cons (qe_fld hz hf hx T.f_column (pv 2)) qa_nil))))) qs_nil))) (.only ⟨rfl, by decide, .inl T.n_NearError⟩ T.h_NearError (fun a oe cls d pn x Fc hz hf hx hi => (qs_one (q_ret pe_kstr))) .nil)))
    (qs_one (q_ret pe_knone)))
theorem sc__law_spoilt : FnScope ["_law_lines_here", "_law_draws_here", "_law_words", "_law_deed", "_law_at", "_law_place_here", "_law_head", "_law_wrong"] ["_law_lines_here", "_law_draws_here"] (defScope s__law_spoilt) := ⟨rfl, rfl, rfl, by decide +kernel, rfl, by decide +kernel, by decide +kernel⟩
theorem ok__law_spoilt {f : Addr} {fd : FuncData} {kws : List (Str × V)} (F : FunD K "_law_spoilt" "_law_spoilt" (defArgs s__law_spoilt) (defBody s__law_spoilt) (defScope s__law_spoilt) [] kws f fd) (T : Tx P w K mg cl a_BadRoad a_BadSize a_BadText a_NearError)  : FnG P w K mg base 2 f fd ["_law_lines_here", "_law_draws_here"] (spD K cl m__law_spoilt) :=
  fn_ok F sc__law_spoilt fun cdv Ar outer s H E L0 B F0 hr hgd =>
    have hu := units200 hr
    (qs_cons (q_frz 0 (q_ownLc (ps_setLc (i := 0) (own := [("_law_words", 2)]) rfl sc__law_spoilt.nd rfl rfl (sw_true rfl rfl rfl (by decide +kernel)) (q_iseq (pe_name (pv 0))) (blkOk_by (N := ["_law_lines_here", "_law_draws_here", "_law_words", "_law_deed", "_law_at", "_law_place_here", "_law_head", "_law_wrong"]) (sc := defScope s__law_spoilt) (by decide +kernel)) (fun _ _ _ _ _ => (qg_name (pg_name (i := 2) sc__law_spoilt.nd rfl (.inl rfl)))) (fun _ _ _ _ _ => pts_yes) (fun _ _ _ _ _ => (pe_of (qo_list (pb_name (pv 2)) rfl T.b_list)))) (by decide)))
    (qs_cons (q_par (ps_par (i := 3) (j := 4) rfl sc__law_spoilt.nd rfl rfl (by decide) rfl rfl (qa_cons (qe_mod (pb_of (qe_int (pb_of (qe_ix (pb_name (pv 1)) (pb_of pe_kint))) rfl T.b_int)) (pb_of pe_kint)) (qa_cons (qe_mod (pb_of (qe_int (pb_of (qe_ix (pb_name (pv 1)) (pb_of pe_kint))) rfl T.b_int)) (pb_of (qe_len (pb_name (pv 0)) rfl T.b_len))) qa_nil)) rfl))
    (qs_cons (q_name (ps_set (i := 2) sc__law_spoilt.nd rfl (.inl rfl) (qe_ix (pb_name (pv 0)) (pb_name (pv 4)))))
    (qs_cons (q_name (ps_set (i := 5) sc__law_spoilt.nd rfl (.inl rfl) (qe_add (pb_of pe_kint) (pb_of (qe_mod (pb_of (qe_int (pb_of (qe_ix (pb_name (pv 1)) (pb_of pe_kint))) rfl T.b_int)) (pb_of (qe_sub (pb_of (qe_len (pb_name (pv 2)) rfl T.b_len)) (pb_of pe_kint))))))))
    (qs_cons (q_if (qt_eq hu (pb_name (pv 3)) (pb_of pe_kint)) (qs_cons (q_name (ps_set (i := 6) sc__law_spoilt.nd rfl (.inl rfl) (qe_ix (pb_of (qe_lst (qa_cons pe_kstr (qa_cons pe_kstr (qa_cons pe_kstr (qa_cons pe_kstr (qa_cons pe_kstr (qa_cons (qe_ix (pb_of (qe_lst (qa_cons pe_kstr (qa_cons pe_kstr qa_nil)))) (pb_of (qe_int (pb_of (qv_gt (pb_name (pv 4)) (pb_of pe_kint))) rfl T.b_int))) qa_nil)))))))) (pb_of (qe_mod (pb_of (qe_int (pb_of (qe_ix (pb_name (pv 1)) (pb_of pe_kint))) rfl T.b_int)) (pb_of pe_kint))))))
    (qs_cons (q_putL (ps_asg (qe_add (pb_of (qe_lst (qa_cons (pe_name (pv 6)) qa_nil))) (pb_of (qe_slice (pb_name (pv 2)) (qp_some (pb_of pe_kint)) (qp_some (pb_of (qe_add (pb_of pe_kint) (pb_of (qe_mod (pb_of (qe_int (pb_of (qe_ix (pb_name (pv 1)) (pb_of pe_kint))) rfl T.b_int)) (pb_of pe_kint))))))))) (pg_sub (pv 0) (pe_name (pv 4)) set_list)))
    (qs_one (q_frz 0 (q_ret (qe_tup (qa_cons (pe_name (pv 0)) (qa_cons pe_kbool (qa_cons (qe_tup (qa_cons (qe_add (pb_name (pv 4)) (pb_of pe_kint)) (qa_cons pe_kint qa_nil))) qa_nil))))))))) qs_nil)
    (qs_cons (q_if (qt_eq hu (pb_name (pv 3)) (pb_of pe_kint)) (qs_cons (q_name (ps_set (i := 7) sc__law_spoilt.nd rfl (.inl rfl) (qe_ix (pb_of (qe_lst (qa_cons pe_kstr (qa_cons pe_kstr (qa_cons pe_kstr (qa_cons pe_kstr (qa_cons pe_kstr (qa_cons pe_kstr (qa_cons pe_kstr (qa_cons pe_kstr (qa_cons pe_kstr (qa_cons pe_kstr (qa_cons pe_kstr qa_nil))))))))))))) (pb_of (qe_mod (pb_of (qe_int (pb_of (qe_ix (pb_name (pv 1)) (pb_of pe_kint))) rfl T.b_int)) (pb_of pe_kint))))))
    (qs_cons (q_putL (ps_asg (qe_add (pb_of (qe_add (pb_of (qe_slice (pb_name (pv 2)) qp_none (qp_some (pb_name (pv 5))))) (pb_of (qe_lst (qa_cons (pe_name (pv 7)) qa_nil))))) (pb_of (qe_ix (pb_of (qe_lst (qa_cons (qe_slice (pb_name (pv 2)) (qp_some (pb_of (qe_add (pb_name (pv 5)) (pb_of pe_kint)))) qp_none) (qa_cons (qe_add (pb_of (qe_slice (pb_name (pv 2)) (qp_some (pb_of (qe_add (pb_name (pv 5)) (pb_of pe_kint)))) qp_none)) (pb_of (qe_lst (qa_cons pe_kstr qa_nil)))) (qa_cons (qe_slice (pb_name (pv 2)) (qp_some (pb_of (qe_add (pb_name (pv 5)) (pb_of pe_kint)))) (qp_some (pb_of (qe_neg (pb_of pe_kint))))) qa_nil))))) (pb_of (qe_mod (pb_of (qe_int (pb_of (qe_ix (pb_name (pv 1)) (pb_of pe_kint))) rfl T.b_int)) (pb_of pe_kint)))))) (pg_sub (pv 0) (pe_name (pv 4)) set_list)))
    (qs_one (q_frz 0 (q_ret (qe_tup (qa_cons (pe_name (pv 0)) (qa_cons pe_kbool (qa_cons (qe_tup (qa_cons (qe_add (pb_name (pv 4)) (pb_of pe_kint)) (qa_cons (qe_add (pb_of (qe_len (pb_of (qe_join pe_kstr (qe_slice (pb_name (pv 2)) qp_none (qp_some (pb_name (pv 5)))))) rfl T.b_len)) (pb_of pe_kint)) qa_nil))) qa_nil))))))))) qs_nil)
    (qs_cons (q_if (qt_eq hu (pb_name (pv 3)) (pb_of pe_kint)) (qs_cons (q_putL (ps_asg (qe_slice (pb_name (pv 2)) qp_none (qp_some (pb_name (pv 5)))) (pg_sub (pv 0) (pe_name (pv 4)) set_list)))
    (qs_one (q_frz 0 (q_ret (qe_tup (qa_cons (pe_name (pv 0)) (qa_cons pe_kbool (qa_cons (qe_tup (qa_cons (qe_add (pb_name (pv 4)) (pb_of pe_kint)) (qa_cons (qe_add (pb_of (qe_len (pb_of (qe_join pe_kstr (qe_slice (pb_name (pv 2)) qp_none (qp_some (pb_name (pv 5)))))) rfl T.b_len)) (pb_of pe_kint)) qa_nil))) qa_nil)))))))) qs_nil)
    (qs_cons (q_if (qt_eq hu (pb_name (pv 3)) (pb_of pe_kint)) (qs_cons (q_putL (ps_asg (qe_add (pb_name (pv 2)) (pb_of (qe_lst (qa_cons (qe_ix (pb_of (qe_lst (qa_cons pe_kstr (qa_cons pe_kstr (qa_cons pe_kstr qa_nil))))) (pb_of (qe_mod (pb_of (qe_int (pb_of (qe_ix (pb_name (pv 1)) (pb_of pe_kint))) rfl T.b_int)) (pb_of pe_kint)))) qa_nil)))) (pg_sub (pv 0) (pe_name (pv 4)) set_list)))
    (qs_one (q_frz 0 (q_ret (qe_tup (qa_cons (pe_name (pv 0)) (qa_cons pe_kbool (qa_cons (qe_tup (qa_cons (qe_add (pb_name (pv 4)) (pb_of pe_kint)) (qa_cons (qe_add (pb_of (qe_len (pb_of (qe_join pe_kstr (pe_name (pv 2)))) rfl T.b_len)) (pb_of pe_kint)) qa_nil))) qa_nil)))))))) qs_nil)
    (qs_cons (q_if (qt_eq hu (pb_name (pv 3)) (pb_of pe_kint)) (qs_cons (q_name (ps_set (i := 4) sc__law_spoilt.nd rfl (.inl rfl) (qe_mod (pb_of (qe_int (pb_of (qe_ix (pb_name (pv 1)) (pb_of pe_kint))) rfl T.b_int)) (pb_of (qe_add (pb_of (qe_len (pb_name (pv 0)) rfl T.b_len)) (pb_of pe_kint))))))
    (qs_one (q_ret (qe_tup (qa_cons (qe_add (pb_of (qe_add (pb_of (qe_slice (pb_name (pv 0)) qp_none (qp_some (pb_name (pv 4))))) (pb_of (qe_lst (qa_cons (qe_lst (qa_cons pe_kstr qa_nil)) qa_nil))))) (pb_of (qe_slice (pb_name (pv 0)) (qp_some (pb_name (pv 4))) qp_none))) (qa_cons pe_kbool (qa_cons (qe_tup (qa_cons (qe_add (pb_name (pv 4)) (pb_of pe_kint)) (qa_cons pe_kint qa_nil))) qa_nil))))))) qs_nil)
    (qs_cons (q_if (qt_eq hu (pb_name (pv 3)) (pb_of pe_kint)) (qs_one (q_frz 0 (q_ret (qe_tup (qa_cons (pe_name (pv 0)) (qa_cons pe_kbool (qa_cons (qe_tup (qa_cons (qe_len (pb_name (pv 0)) rfl T.b_len) (qa_cons (qe_add (pb_of (qe_len (pb_of (qe_join pe_kstr (qe_ix (pb_name (pv 0)) (pb_of (qe_neg (pb_of pe_kint)))))) rfl T.b_len)) (pb_of pe_kint)) qa_nil))) qa_nil))))))) qs_nil)
    (qs_one (q_ret (qe_tup (qa_cons (qe_lst qa_nil) (qa_cons pe_kbool (qa_cons (qe_tup (qa_cons pe_kint (qa_cons pe_kint qa_nil))) qa_nil))))))))))))))))
theorem sc_law : FnScope ["_law_script", "_law_draws_here", "_law_lines_here", "_law_turn", "_law_part", "_law_spoilt_here", "_law_is_ended", "_law_due", "_law_deed", "_law_text_here", "_law_told"] ["_law_script"] (defScope s_law) := ⟨rfl, rfl, rfl, by decide +kernel, rfl, by decide +kernel, by decide +kernel⟩
theorem ok_law {f : Addr} {fd : FuncData} {kws : List (Str × V)} (F : FunD K "law" "law" (defArgs s_law) (defBody s_law) (defScope s_law) [] kws f fd) (T : Tx P w K mg cl a_BadRoad a_BadSize a_BadText a_NearError) (H__law_draws : Has P w K mg base cl 2 "_law_draws" ["_law_script", "_law_count"] m__law_draws) (H__law_lines : Has P w K mg base cl 2 "_law_lines" ["_law_town_here"] m__law_lines) (H__law_place : HasC P w K mg base cl 6 "_law_place" ["_law_reading", "_law_text_here"] m__law_place) (H__law_spoilt : Has P w K mg base cl 2 "_law_spoilt" ["_law_lines_here", "_law_draws_here"] m__law_spoilt) (H__law_text : Has P w K mg base cl 2 "_law_text" ["_law_lines_here"] m__law_text) (H__law_town : Has P w K mg base cl 2 "_law_town" ["_law_draws_here", "_law_most"] m__law_town) : FnG P w K mg base 7 f fd ["_law_script"] (spD K cl m_law) :=
  fn_ok F sc_law fun cdv Ar outer s H E L0 B F0 hr hgd =>
    have hu := units200 hr
    (qs_cons (q_name (ps_set (i := 1) sc_law.nd rfl (.inl rfl) (qe_call H__law_draws (hr.mono (by decide)) hgd rfl (takes_of rfl rfl rfl rfl) (qa_cons (pe_name (pv 0)) (qa_cons pe_kint qa_nil)))))
    (qs_cons (q_name (ps_set (i := 2) sc_law.nd rfl (.inl rfl) (qe_call H__law_lines (hr.mono (by decide)) hgd rfl (takes_of rfl rfl rfl rfl) (qa_cons (qe_call H__law_town (hr.mono (by decide)) hgd rfl (takes_of rfl rfl rfl rfl) (qa_cons (pe_name (pv 1)) (qa_cons pe_kint qa_nil))) qa_nil))))
    (qs_cons (q_if (qt_notN (pb_of (qe_callC H__law_place (hr.mono (by decide)) hgd rfl (takes_of rfl rfl rfl rfl) (qc_fn T.v_read_town rfl (qc_dat (qe_call H__law_text (hr.mono (by decide)) hgd rfl (takes_of rfl rfl rfl rfl) (qa_cons (pe_name (pv 2)) qa_nil)) qc_nil))))) (qs_one (q_ret pe_kbool)) qs_nil)
    (qs_cons (q_for (passes_of rfl) rfl (q_range1 (pb_of pe_kint) rfl T.b_range) (qg_name (pg_name (i := 3) sc_law.nd rfl (.inl rfl))) setV_nx (qs_cons (q_name (ps_set (i := 4) sc_law.nd rfl (.inl rfl) (qe_slice (pb_name (pv 1)) (qp_some (pb_of (qe_add (pb_of pe_kint) (pb_of (qe_mul (pb_of pe_kint) (pb_name (pv 3))))))) (qp_some (pb_of (qe_add (pb_of pe_kint) (pb_of (qe_mul (pb_of pe_kint) (pb_name (pv 3))))))))))
    (qs_cons (q_set (qe_call H__law_spoilt (hr.mono (by decide)) hgd rfl (takes_of rfl rfl rfl rfl) (qa_cons (pe_name (pv 2)) (qa_cons (pe_name (pv 4)) qa_nil))) (qg_tup rfl (qgs_cons (pg_name (i := 5) sc_law.nd rfl (.inl rfl)) (qgs_cons (pg_name (i := 6) sc_law.nd rfl (.inl rfl)) (qgs_cons (pg_name (i := 7) sc_law.nd rfl (.inl rfl)) qgs_nil)))) setT_nx)
    (qs_cons (q_name (ps_set (i := 8) sc_law.nd rfl (.inl rfl) (qe_mod (pb_of (qe_int (pb_of (qe_ix (pb_name (pv 4)) (pb_of pe_kint))) rfl T.b_int)) (pb_of pe_kint))))
    (qs_cons (q_if (qt_w (qw_and (qt_lt (pb_name (pv 8)) (pb_of pe_kint)) (pw_and1 (qt_eq hu (pb_of (qe_mod (pb_of (qe_int (pb_of (qe_ix (pb_name (pv 4)) (pb_of pe_kint))) rfl T.b_int)) (pb_of pe_kint))) (pb_of pe_kint))))) (qs_one (q_name (ps_set (i := 5) sc_law.nd rfl (.inl rfl) (qe_add (pb_name (pv 5)) (pb_of (qe_slice (pb_of (qe_lst (qa_cons (qe_lst (qa_cons pe_kstr qa_nil)) (qa_cons (qe_lst (qa_cons pe_kstr (qa_cons pe_kstr (qa_cons pe_kstr qa_nil)))) qa_nil)))) qp_none (qp_some (pb_of (qe_add (pb_of pe_kint) (pb_of (qe_mod (pb_of (qe_int (pb_of (qe_ix (pb_name (pv 4)) (pb_of pe_kint))) rfl T.b_int)) (pb_of pe_kint)))))))))))) qs_nil)
    (qs_cons (q_name (ps_set (i := 9) sc_law.nd rfl (.inl rfl) (qe_call H__law_text (hr.mono (by decide)) hgd rfl (takes_of rfl rfl rfl rfl) (qa_cons (pe_name (pv 5)) qa_nil))))
    (qs_cons (q_if (qt_w (qw_or (qt_not (qt_truth (pb_name (pv 6)))) (pw_or1 (qt_w (qw_and (qt_lt (pb_name (pv 8)) (pb_of pe_kint)) (pw_and1 (qt_eq hu (pb_of (qe_mod (pb_of (qe_int (pb_of (qe_ix (pb_name (pv 4)) (pb_of pe_kint))) rfl T.b_int)) (pb_of pe_kint))) (pb_of pe_kint)))))))) (qs_one (q_name (ps_set (i := 9) sc_law.nd rfl (.inl rfl) (qe_slice (pb_name (pv 9)) qp_none (qp_some (pb_of (qe_neg (pb_of pe_kint)))))))) qs_nil)
    (qs_cons (q_name (ps_set (i := 10) sc_law.nd rfl (.inl rfl) (qe_callC H__law_place (hr.mono (by decide)) hgd rfl (takes_of rfl rfl rfl rfl) (qc_fn T.v_read_town rfl (qc_dat (pe_name (pv 9)) qc_nil)))))
    (qs_one (q_if (qt_w (qw_or (qt_ne hu (pb_name (pv 10)) (pb_name (pv 7))) (qw_or (qt_truth (pb_of (qe_isi kit_bool (pb_of (qe_ix (pb_name (pv 10)) (pb_of pe_kint))) rfl T.b_isinstance (pe_tybool rfl rfl T.b_bool)))) (pw_or1 (qt_truth (pb_of (qe_isi kit_bool (pb_of (qe_ix (pb_name (pv 10)) (pb_of pe_kint))) rfl T.b_isinstance (pe_tybool rfl rfl T.b_bool)))))))) (qs_one (q_ret pe_kbool)) qs_nil))))))))))
    (qs_one (q_ret pe_kbool))))))
end
end K12

namespace K12
open PySem PySem.Spec L2 Mir Near
theorem e_draws : m__law_draws = Near.m_draws := rfl
theorem e_town : m_read_town = Near.m_read_town := rfl
theorem e_ltown : m__law_town = Near.m_town := rfl
theorem e_lines : m__law_lines = Near.m_lines := rfl
theorem e_text : m__law_text = Near.m_text := rfl
theorem call_tbl (t : Str) : eCallV tbl 0 (eCons (eVar 1) eNil) [some (.fn "read_town"), some (.dat (.str t)), none] = Near.m_read_town [.str t] := rfl
theorem place_ok {t : Str} {d : Mir.D} (h : Near.m_read_town [.str t] = .ok d) : m__law_place [.fn "read_town", .dat (.str t)] = .ok .none := by
  unfold m__law_place
  refine (chk_pos (c := [Cell.fn "read_town", .dat (.str t)].length = 2) rfl).trans ?_
  show outRes (sSeq _ _ [some (.fn "read_town"), some (.dat (.str t)), none]) = _
  have tr : ∀ cs, sTry isa (sExpr (eCallV tbl 0 (eCons (eVar 1) eNil))) cs [some (.fn "read_town"), some (.dat (.str t)), none] = .nx [some (.fn "read_town"), some (.dat (.str t)), none] := fun cs => by
    unfold sTry sExpr
    rw [call_tbl, h]
    rfl
  rw [seq_nx (tr _)]
  rfl
theorem place_text {t : Str} {l c : Int} (h : Near.m_read_town [.str t] = .ex (badText l c)) : m__law_place [.fn "read_town", .dat (.str t)] = .ok (.tuple [.int l, .int c]) := by
  unfold m__law_place
  refine (chk_pos (c := [Cell.fn "read_town", .dat (.str t)].length = 2) rfl).trans ?_
  show outRes (sSeq _ _ [some (.fn "read_town"), some (.dat (.str t)), none]) = _
  rw [seq_rt (d := .tuple [.int l, .int c])]
  · rfl
  · unfold sTry sExpr
    rw [call_tbl, h]
    rfl
theorem copy {W : List (List Str)} {e : Mir.Env} (h0 : e[0]? = some (some (.dat (wD W)))) (h2 : 2 < e.length) (hl : W.length ≤ 1000) :
    eLc (eB1 iSeq (eVar 0)) [2] (setV 2) tYesB (eB1 listD (eVarB 2)) e = .ok (wD W) := by
  refine eLc_map (enc := wordsD) (b1_ok (op := iSeq) (x := wD W) (by unfold eVar; rw [h0]) rfl) (fun ws _ => ⟨_, rfl, rfl, b1_ok (op := listD) (x := wordsD ws) ?_ rfl⟩) (Nat.le_trans hl (by decide))
  unfold eVarB
  rw [List.getElem?_set_self (by show 2 < (e.set 2 none).length; rw [List.length_set]; exact h2)]
theorem at_words {W : List (List Str)} {k : Nat} {ws : List Str} (h : W[k]? = some ws) : atI (W.map wordsD) (k : Int) = some (wordsD ws) := atI_nat (by rw [List.getElem?_map, h]; rfl)
theorem run_of {W : List (List Str)} {ps : List Int} (hl : W.length ≤ 100) (r : Res Mir.D)
    (h : ∀ c : eLc (eB1 iSeq (eVar 0)) [2] (setV 2) tYesB (eB1 listD (eVarB 2)) [some (.dat (wD W)), some (.dat (intsD ps)), none, none, none, none, none, none] = .ok (wD W), m__law_spoilt [wD W, intsD ps] = r) : m__law_spoilt [wD W, intsD ps] = r :=
  h (copy rfl (by simp) (by omega))
theorem d0 {W : List (List Str)} {q0 q1 q2 q3 q4 q5 : Int} {k : Nat} {ws : List Str} (hl : W.length ≤ 100) (h1 : q1 % W.length = k) (hk : W[k]? = some ws) (hw2 : 2 ≤ ws.length) (hw10 : ws.length ≤ 10) (h0 : q0 % 7 = 0) {w v : Str} (hv : v = if 0 < k then ("places" : Str) else "road") (h3 : atI [PyData.str "", .str "Places", .str "roads", .str "x", .str "0", .str v] (q3 % 6) = some (.str w)) {m : Nat} (h4 : q4 % 4 = m) :
    m__law_spoilt [wD W, intsD [q0, q1, q2, q3, q4, q5]] = .ok (.tuple [wD (W.set k (w :: cutD ws (some 1) (some ((m + 2 : Nat) : Int)))), .bool true, .tuple [.int (k + 1), .int (1)]]) := by
  refine run_of hl _ fun c => ?_
  have kw := at_words hk
  have a0 : 0 ≤ sizeLine := by decide
  have a1 : 1 ≤ sizeLine := by decide
  have a2 : 2 ≤ sizeLine := by decide
  have a3 : 3 ≤ sizeLine := by decide
  have a6 : 6 ≤ sizeLine := by decide
  have a11 : 11 ≤ sizeLine := by decide
  have sl : 100000 ≤ sizeLine := by decide
  have hkl : k < W.length := (List.getElem?_eq_some_iff.mp hk).1
  have ik := ixN_nat hkl
  unfold m__law_spoilt
  refine (mkF_ok rfl).trans ?_
  show outRes (sSeq _ _ [some (.dat (wD W)), some (.dat (intsD [q0, q1, q2, q3, q4, q5])), none, none, none, none, none, none]) = _
  have cl := cut_len ws (some 1) (some (2 + (m : Int)))
  have hb : atI [PyData.str "road", .str "places"] (if decide ((0 : Int) < (k : Int)) = true then 1 else 0) = some (.str v) := by
    by_cases z : 0 < k
    · rw [hv, if_pos z, if_pos (decide_eq_true (by omega)), r_at1]
    · rw [hv, if_neg z, if_neg (by simp; omega), r_at0]
  have e1 : 1 + ((cutD ws (some 1) (some (2 + (m : Int)))).map PyData.str).length ≤ sizeLine := by rw [List.length_map]; omega
  rw [show (((m + 2 : Nat)) : Int) = 2 + (m : Int) by omega]
  simp (disch := first | assumption | omega | (simp only [List.length_map, List.length_append, List.length_cons, List.length_nil, Nat.reduceAdd] <;> omega)) only [sSeq, sFrz, frzE, ownL, List.getElem?_cons_zero, List.getElem?_cons_succ, r_own, c, List.set_cons_zero, List.set_cons_succ, sPar, r_cons, r_b1, r_b2, r_b3, r_none, r_some, r_opt, eVarB, eVar, r_c, r_nil, r_ixL, List.map_cons, List.map_nil, r_at0, r_at1, r_at2, r_at3, r_at4, r_at5, r_lenL, List.length_map, r_int, r_intB, r_mod, r_set, r_sub, r_add, r_if, r_eqI, Int.reduceEq, decide_false, decide_true, sNil, sRet, r_m1c, r_neg, r_lenS, r_tup, r_lst, r_put, r_sliceL, r_cut, r_cat, r_gt, r_vb, outRes, Int.reduceNeg, List.length_cons, List.length_nil, Nat.reduceAdd, h0, h1, kw, h3, h4, hb, ik, List.cons_append, List.nil_append]
  show _ = Res.ok (PyData.tuple [PyData.list ((W.set k _).map wordsD), _, _])
  rw [List.map_set]
  first | done | rfl
theorem d10 {W : List (List Str)} {q0 q1 q2 q3 q4 q5 : Int} {k : Nat} {ws : List Str} (hl : W.length ≤ 100) (h1 : q1 % W.length = k) (hk : W[k]? = some ws) (hw2 : 2 ≤ ws.length) (hw10 : ws.length ≤ 10) (h0 : q0 % 7 = 1) {w : Str} (h3 : atI [PyData.str "", .str "00", .str "01", .str "1000", .str "+1", .str "a", .str "1.", .str "-1", .str "-", .str "1_0", .str "\t7"] (q3 % 11) = some (.str w)) {p : Nat} (h2 : 1 + q2 % (ws.length - 1) = p) (h5 : q5 % 3 = 0) (hj : (mkLine (cutD ws none (some p))).length ≤ 1000) :
    m__law_spoilt [wD W, intsD [q0, q1, q2, q3, q4, q5]] = .ok (.tuple [wD (W.set k (cutD ws none (some p) ++ [w] ++ (cutD ws (some ((p + 1 : Nat) : Int)) none))), .bool true, .tuple [.int (k + 1), .int ((mkLine (cutD ws none (some p))).length + 2)]]) := by
  refine run_of hl _ fun c => ?_
  have kw := at_words hk
  have a0 : 0 ≤ sizeLine := by decide
  have a1 : 1 ≤ sizeLine := by decide
  have a2 : 2 ≤ sizeLine := by decide
  have a3 : 3 ≤ sizeLine := by decide
  have a6 : 6 ≤ sizeLine := by decide
  have a11 : 11 ≤ sizeLine := by decide
  have sl : 100000 ≤ sizeLine := by decide
  have hkl : k < W.length := (List.getElem?_eq_some_iff.mp hk).1
  have ik := ixN_nat hkl
  unfold m__law_spoilt
  refine (mkF_ok rfl).trans ?_
  show outRes (sSeq _ _ [some (.dat (wD W)), some (.dat (intsD [q0, q1, q2, q3, q4, q5])), none, none, none, none, none, none]) = _
  have cl := cut_len ws none (some (p : Int))
  have cl1 := cut_len ws (some ((p : Int) + 1)) none
  have cl2 := cut_len ws (some ((p : Int) + 1)) (some (-1))
  have jl := join_sp (ws := cutD ws none (some (p : Int))) (by omega)
  have js : (mkLine (cutD ws none (some (p : Int)))).length ≤ sizeLine := by omega
  have e1 : (cutD ws (some ((p : Int) + 1)) none).length + 1 ≤ sizeLine := by omega
  have e2 : (cutD ws none (some (p : Int))).length + 1 ≤ sizeLine := by omega
  have e3 : (cutD ws none (some (p : Int))).length + 1 + (cutD ws (some ((p : Int) + 1)) none).length ≤ sizeLine := by omega
  have e4 : (cutD ws none (some (p : Int))).length + 1 + ((cutD ws (some ((p : Int) + 1)) none).length + 1) ≤ sizeLine := by omega
  have e5 : (cutD ws none (some (p : Int))).length + 1 + (cutD ws (some ((p : Int) + 1)) (some (-1))).length ≤ sizeLine := by omega
  rw [Int.natCast_add p 1]
  simp (disch := first | assumption | omega | (simp only [List.length_map, List.length_append, List.length_cons, List.length_nil, Nat.reduceAdd] <;> omega)) only [sSeq, sFrz, frzE, ownL, List.getElem?_cons_zero, List.getElem?_cons_succ, r_own, c, List.set_cons_zero, List.set_cons_succ, sPar, r_cons, r_b1, r_b2, r_b3, r_none, r_some, r_opt, eVarB, eVar, r_c, r_nil, r_ixL, List.map_cons, List.map_nil, r_at0, r_at1, r_at2, r_at3, r_at4, r_at5, r_lenL, List.length_map, r_int, r_intB, r_mod, r_set, r_sub, r_add, r_if, r_eqI, Int.reduceEq, decide_false, decide_true, sNil, sRet, r_m1c, r_neg, r_lenS, r_tup, r_lst, r_put, r_sliceL, r_cut, r_cat, r_gt, r_vb, outRes, Int.reduceNeg, List.length_cons, List.length_nil, Nat.reduceAdd, h0, h1, kw, h2, h3, h5, ik, jl, List.length_append, Int.cast_ofNat_Int]
  show _ = Res.ok (PyData.tuple [PyData.list ((W.set k _).map wordsD), _, _])
  rw [List.map_set]
  simp only [wordsD, List.map_append, List.map_cons, List.map_nil, List.append_assoc, List.cons_append, List.nil_append]
theorem d11 {W : List (List Str)} {q0 q1 q2 q3 q4 q5 : Int} {k : Nat} {ws : List Str} (hl : W.length ≤ 100) (h1 : q1 % W.length = k) (hk : W[k]? = some ws) (hw2 : 2 ≤ ws.length) (hw10 : ws.length ≤ 10) (h0 : q0 % 7 = 1) {w : Str} (h3 : atI [PyData.str "", .str "00", .str "01", .str "1000", .str "+1", .str "a", .str "1.", .str "-1", .str "-", .str "1_0", .str "\t7"] (q3 % 11) = some (.str w)) {p : Nat} (h2 : 1 + q2 % (ws.length - 1) = p) (h5 : q5 % 3 = 1) (hj : (mkLine (cutD ws none (some p))).length ≤ 1000) :
    m__law_spoilt [wD W, intsD [q0, q1, q2, q3, q4, q5]] = .ok (.tuple [wD (W.set k (cutD ws none (some p) ++ [w] ++ (cutD ws (some ((p + 1 : Nat) : Int)) none ++ [("7" : Str)]))), .bool true, .tuple [.int (k + 1), .int ((mkLine (cutD ws none (some p))).length + 2)]]) := by
  refine run_of hl _ fun c => ?_
  have kw := at_words hk
  have a0 : 0 ≤ sizeLine := by decide
  have a1 : 1 ≤ sizeLine := by decide
  have a2 : 2 ≤ sizeLine := by decide
  have a3 : 3 ≤ sizeLine := by decide
  have a6 : 6 ≤ sizeLine := by decide
  have a11 : 11 ≤ sizeLine := by decide
  have sl : 100000 ≤ sizeLine := by decide
  have hkl : k < W.length := (List.getElem?_eq_some_iff.mp hk).1
  have ik := ixN_nat hkl
  unfold m__law_spoilt
  refine (mkF_ok rfl).trans ?_
  show outRes (sSeq _ _ [some (.dat (wD W)), some (.dat (intsD [q0, q1, q2, q3, q4, q5])), none, none, none, none, none, none]) = _
  have cl := cut_len ws none (some (p : Int))
  have cl1 := cut_len ws (some ((p : Int) + 1)) none
  have cl2 := cut_len ws (some ((p : Int) + 1)) (some (-1))
  have jl := join_sp (ws := cutD ws none (some (p : Int))) (by omega)
  have js : (mkLine (cutD ws none (some (p : Int)))).length ≤ sizeLine := by omega
  have e1 : (cutD ws (some ((p : Int) + 1)) none).length + 1 ≤ sizeLine := by omega
  have e2 : (cutD ws none (some (p : Int))).length + 1 ≤ sizeLine := by omega
  have e3 : (cutD ws none (some (p : Int))).length + 1 + (cutD ws (some ((p : Int) + 1)) none).length ≤ sizeLine := by omega
  have e4 : (cutD ws none (some (p : Int))).length + 1 + ((cutD ws (some ((p : Int) + 1)) none).length + 1) ≤ sizeLine := by omega
  have e5 : (cutD ws none (some (p : Int))).length + 1 + (cutD ws (some ((p : Int) + 1)) (some (-1))).length ≤ sizeLine := by omega
  rw [Int.natCast_add p 1]
  simp (disch := first | assumption | omega | (simp only [List.length_map, List.length_append, List.length_cons, List.length_nil, Nat.reduceAdd] <;> omega)) only [sSeq, sFrz, frzE, ownL, List.getElem?_cons_zero, List.getElem?_cons_succ, r_own, c, List.set_cons_zero, List.set_cons_succ, sPar, r_cons, r_b1, r_b2, r_b3, r_none, r_some, r_opt, eVarB, eVar, r_c, r_nil, r_ixL, List.map_cons, List.map_nil, r_at0, r_at1, r_at2, r_at3, r_at4, r_at5, r_lenL, List.length_map, r_int, r_intB, r_mod, r_set, r_sub, r_add, r_if, r_eqI, Int.reduceEq, decide_false, decide_true, sNil, sRet, r_m1c, r_neg, r_lenS, r_tup, r_lst, r_put, r_sliceL, r_cut, r_cat, r_gt, r_vb, outRes, Int.reduceNeg, List.length_cons, List.length_nil, Nat.reduceAdd, h0, h1, kw, h2, h3, h5, ik, jl, List.length_append, Int.cast_ofNat_Int]
  show _ = Res.ok (PyData.tuple [PyData.list ((W.set k _).map wordsD), _, _])
  rw [List.map_set]
  simp only [wordsD, List.map_append, List.map_cons, List.map_nil, List.append_assoc, List.cons_append, List.nil_append]
theorem d12 {W : List (List Str)} {q0 q1 q2 q3 q4 q5 : Int} {k : Nat} {ws : List Str} (hl : W.length ≤ 100) (h1 : q1 % W.length = k) (hk : W[k]? = some ws) (hw2 : 2 ≤ ws.length) (hw10 : ws.length ≤ 10) (h0 : q0 % 7 = 1) {w : Str} (h3 : atI [PyData.str "", .str "00", .str "01", .str "1000", .str "+1", .str "a", .str "1.", .str "-1", .str "-", .str "1_0", .str "\t7"] (q3 % 11) = some (.str w)) {p : Nat} (h2 : 1 + q2 % (ws.length - 1) = p) (h5 : q5 % 3 = 2) (hj : (mkLine (cutD ws none (some p))).length ≤ 1000) :
    m__law_spoilt [wD W, intsD [q0, q1, q2, q3, q4, q5]] = .ok (.tuple [wD (W.set k (cutD ws none (some p) ++ [w] ++ (cutD ws (some ((p + 1 : Nat) : Int)) (some (-1))))), .bool true, .tuple [.int (k + 1), .int ((mkLine (cutD ws none (some p))).length + 2)]]) := by
  refine run_of hl _ fun c => ?_
  have kw := at_words hk
  have a0 : 0 ≤ sizeLine := by decide
  have a1 : 1 ≤ sizeLine := by decide
  have a2 : 2 ≤ sizeLine := by decide
  have a3 : 3 ≤ sizeLine := by decide
  have a6 : 6 ≤ sizeLine := by decide
  have a11 : 11 ≤ sizeLine := by decide
  have sl : 100000 ≤ sizeLine := by decide
  have hkl : k < W.length := (List.getElem?_eq_some_iff.mp hk).1
  have ik := ixN_nat hkl
  unfold m__law_spoilt
  refine (mkF_ok rfl).trans ?_
  show outRes (sSeq _ _ [some (.dat (wD W)), some (.dat (intsD [q0, q1, q2, q3, q4, q5])), none, none, none, none, none, none]) = _
  have cl := cut_len ws none (some (p : Int))
  have cl1 := cut_len ws (some ((p : Int) + 1)) none
  have cl2 := cut_len ws (some ((p : Int) + 1)) (some (-1))
  have jl := join_sp (ws := cutD ws none (some (p : Int))) (by omega)
  have js : (mkLine (cutD ws none (some (p : Int)))).length ≤ sizeLine := by omega
  have e1 : (cutD ws (some ((p : Int) + 1)) none).length + 1 ≤ sizeLine := by omega
  have e2 : (cutD ws none (some (p : Int))).length + 1 ≤ sizeLine := by omega
  have e3 : (cutD ws none (some (p : Int))).length + 1 + (cutD ws (some ((p : Int) + 1)) none).length ≤ sizeLine := by omega
  have e4 : (cutD ws none (some (p : Int))).length + 1 + ((cutD ws (some ((p : Int) + 1)) none).length + 1) ≤ sizeLine := by omega
  have e5 : (cutD ws none (some (p : Int))).length + 1 + (cutD ws (some ((p : Int) + 1)) (some (-1))).length ≤ sizeLine := by omega
  rw [Int.natCast_add p 1]
  simp (disch := first | assumption | omega | (simp only [List.length_map, List.length_append, List.length_cons, List.length_nil, Nat.reduceAdd] <;> omega)) only [sSeq, sFrz, frzE, ownL, List.getElem?_cons_zero, List.getElem?_cons_succ, r_own, c, List.set_cons_zero, List.set_cons_succ, sPar, r_cons, r_b1, r_b2, r_b3, r_none, r_some, r_opt, eVarB, eVar, r_c, r_nil, r_ixL, List.map_cons, List.map_nil, r_at0, r_at1, r_at2, r_at3, r_at4, r_at5, r_lenL, List.length_map, r_int, r_intB, r_mod, r_set, r_sub, r_add, r_if, r_eqI, Int.reduceEq, decide_false, decide_true, sNil, sRet, r_m1c, r_neg, r_lenS, r_tup, r_lst, r_put, r_sliceL, r_cut, r_cat, r_gt, r_vb, outRes, Int.reduceNeg, List.length_cons, List.length_nil, Nat.reduceAdd, h0, h1, kw, h2, h3, h5, ik, jl, List.length_append, Int.cast_ofNat_Int]
  show _ = Res.ok (PyData.tuple [PyData.list ((W.set k _).map wordsD), _, _])
  rw [List.map_set]
  simp only [wordsD, List.map_append, List.map_cons, List.map_nil, List.append_assoc, List.cons_append, List.nil_append]
theorem d2 {W : List (List Str)} {q0 q1 q2 q3 q4 q5 : Int} {k : Nat} {ws : List Str} (hl : W.length ≤ 100) (h1 : q1 % W.length = k) (hk : W[k]? = some ws) (hw2 : 2 ≤ ws.length) (hw10 : ws.length ≤ 10) (h0 : q0 % 7 = 2) {p : Nat} (h2 : 1 + q2 % (ws.length - 1) = p) (hj : (mkLine (cutD ws none (some p))).length ≤ 1000) :
    m__law_spoilt [wD W, intsD [q0, q1, q2, q3, q4, q5]] = .ok (.tuple [wD (W.set k (cutD ws none (some p))), .bool true, .tuple [.int (k + 1), .int ((mkLine (cutD ws none (some p))).length + 1)]]) := by
  refine run_of hl _ fun c => ?_
  have kw := at_words hk
  have a0 : 0 ≤ sizeLine := by decide
  have a1 : 1 ≤ sizeLine := by decide
  have a2 : 2 ≤ sizeLine := by decide
  have a3 : 3 ≤ sizeLine := by decide
  have a6 : 6 ≤ sizeLine := by decide
  have a11 : 11 ≤ sizeLine := by decide
  have sl : 100000 ≤ sizeLine := by decide
  have hkl : k < W.length := (List.getElem?_eq_some_iff.mp hk).1
  have ik := ixN_nat hkl
  unfold m__law_spoilt
  refine (mkF_ok rfl).trans ?_
  show outRes (sSeq _ _ [some (.dat (wD W)), some (.dat (intsD [q0, q1, q2, q3, q4, q5])), none, none, none, none, none, none]) = _
  have jl := join_sp (ws := cutD ws none (some (p : Int))) (by omega)
  have js : (mkLine (cutD ws none (some (p : Int)))).length ≤ sizeLine := by omega
  simp (disch := first | assumption | omega | (simp only [List.length_map, List.length_append, List.length_cons, List.length_nil, Nat.reduceAdd] <;> omega)) only [sSeq, sFrz, frzE, ownL, List.getElem?_cons_zero, List.getElem?_cons_succ, r_own, c, List.set_cons_zero, List.set_cons_succ, sPar, r_cons, r_b1, r_b2, r_b3, r_none, r_some, r_opt, eVarB, eVar, r_c, r_nil, r_ixL, List.map_cons, List.map_nil, r_at0, r_at1, r_at2, r_at3, r_at4, r_at5, r_lenL, List.length_map, r_int, r_intB, r_mod, r_set, r_sub, r_add, r_if, r_eqI, Int.reduceEq, decide_false, decide_true, sNil, sRet, r_m1c, r_neg, r_lenS, r_tup, r_lst, r_put, r_sliceL, r_cut, r_cat, r_gt, r_vb, outRes, Int.reduceNeg, List.length_cons, List.length_nil, Nat.reduceAdd, h0, h1, kw, h2, ik, jl]
  show _ = Res.ok (PyData.tuple [PyData.list ((W.set k _).map wordsD), _, _])
  rw [List.map_set]
  first | done | rfl
theorem d3 {W : List (List Str)} {q0 q1 q2 q3 q4 q5 : Int} {k : Nat} {ws : List Str} (hl : W.length ≤ 100) (h1 : q1 % W.length = k) (hk : W[k]? = some ws) (hw2 : 2 ≤ ws.length) (hw10 : ws.length ≤ 10) (h0 : q0 % 7 = 3) {w : Str} (h3 : atI [PyData.str "", .str "x", .str "7"] (q3 % 3) = some (.str w)) (hj : (mkLine ws).length ≤ 1000) :
    m__law_spoilt [wD W, intsD [q0, q1, q2, q3, q4, q5]] = .ok (.tuple [wD (W.set k (ws ++ [w])), .bool true, .tuple [.int (k + 1), .int ((mkLine ws).length + 2)]]) := by
  refine run_of hl _ fun c => ?_
  have kw := at_words hk
  have a0 : 0 ≤ sizeLine := by decide
  have a1 : 1 ≤ sizeLine := by decide
  have a2 : 2 ≤ sizeLine := by decide
  have a3 : 3 ≤ sizeLine := by decide
  have a6 : 6 ≤ sizeLine := by decide
  have a11 : 11 ≤ sizeLine := by decide
  have sl : 100000 ≤ sizeLine := by decide
  have hkl : k < W.length := (List.getElem?_eq_some_iff.mp hk).1
  have ik := ixN_nat hkl
  unfold m__law_spoilt
  refine (mkF_ok rfl).trans ?_
  show outRes (sSeq _ _ [some (.dat (wD W)), some (.dat (intsD [q0, q1, q2, q3, q4, q5])), none, none, none, none, none, none]) = _
  have jl := join_sp (ws := ws) (by omega)
  have js : (mkLine ws).length ≤ sizeLine := by omega
  have e1 : ws.length + 1 ≤ sizeLine := by omega
  simp (disch := first | assumption | omega | (simp only [List.length_map, List.length_append, List.length_cons, List.length_nil, Nat.reduceAdd] <;> omega)) only [sSeq, sFrz, frzE, ownL, List.getElem?_cons_zero, List.getElem?_cons_succ, r_own, c, List.set_cons_zero, List.set_cons_succ, sPar, r_cons, r_b1, r_b2, r_b3, r_none, r_some, r_opt, eVarB, eVar, r_c, r_nil, r_ixL, List.map_cons, List.map_nil, r_at0, r_at1, r_at2, r_at3, r_at4, r_at5, r_lenL, List.length_map, r_int, r_intB, r_mod, r_set, r_sub, r_add, r_if, r_eqI, Int.reduceEq, decide_false, decide_true, sNil, sRet, r_m1c, r_neg, r_lenS, r_tup, r_lst, r_put, r_sliceL, r_cut, r_cat, r_gt, r_vb, outRes, Int.reduceNeg, List.length_cons, List.length_nil, Nat.reduceAdd, h0, h1, kw, h3, ik, jl]
  show _ = Res.ok (PyData.tuple [PyData.list ((W.set k _).map wordsD), _, _])
  rw [List.map_set]
  simp only [wordsD, List.map_append, List.map_cons, List.map_nil]
theorem d4 {W : List (List Str)} {q0 q1 q2 q3 q4 q5 : Int} {k : Nat} {ws : List Str} (hl : W.length ≤ 100) (h1 : q1 % W.length = k) (hk : W[k]? = some ws) (hw2 : 2 ≤ ws.length) (hw10 : ws.length ≤ 10) (h0 : q0 % 7 = 4) {m : Nat} (h2 : q1 % ((W.length : Int) + 1) = m) :
    m__law_spoilt [wD W, intsD [q0, q1, q2, q3, q4, q5]] = .ok (.tuple [wD (cutD W none (some m) ++ [[("" : Str)]] ++ cutD W (some m) none), .bool true, .tuple [.int (m + 1), .int (1)]]) := by
  refine run_of hl _ fun c => ?_
  have kw := at_words hk
  have a0 : 0 ≤ sizeLine := by decide
  have a1 : 1 ≤ sizeLine := by decide
  have a2 : 2 ≤ sizeLine := by decide
  have a3 : 3 ≤ sizeLine := by decide
  have a6 : 6 ≤ sizeLine := by decide
  have a11 : 11 ≤ sizeLine := by decide
  have sl : 100000 ≤ sizeLine := by decide
  have hkl : k < W.length := (List.getElem?_eq_some_iff.mp hk).1
  have ik := ixN_nat hkl
  unfold m__law_spoilt
  refine (mkF_ok rfl).trans ?_
  show outRes (sSeq _ _ [some (.dat (wD W)), some (.dat (intsD [q0, q1, q2, q3, q4, q5])), none, none, none, none, none, none]) = _
  have cl := cut_len W none (some (m : Int))
  have cl1 := cut_len W (some (m : Int)) none
  have e2 : (cutD W none (some (m : Int))).length + 1 ≤ sizeLine := by omega
  have e3 : (cutD W none (some (m : Int))).length + 1 + (cutD W (some (m : Int)) none).length ≤ sizeLine := by omega
  simp (disch := first | assumption | omega | (simp only [List.length_map, List.length_append, List.length_cons, List.length_nil, Nat.reduceAdd] <;> omega)) only [sSeq, sFrz, frzE, ownL, List.getElem?_cons_zero, List.getElem?_cons_succ, r_own, c, List.set_cons_zero, List.set_cons_succ, sPar, r_cons, r_b1, r_b2, r_b3, r_none, r_some, r_opt, eVarB, eVar, r_c, r_nil, r_ixL, List.map_cons, List.map_nil, r_at0, r_at1, r_at2, r_at3, r_at4, r_at5, r_lenL, List.length_map, r_int, r_intB, r_mod, r_set, r_sub, r_add, r_if, r_eqI, Int.reduceEq, decide_false, decide_true, sNil, sRet, r_m1c, r_neg, r_lenS, r_tup, r_lst, r_put, r_sliceL, r_cut, r_cat, r_gt, r_vb, outRes, Int.reduceNeg, List.length_cons, List.length_nil, Nat.reduceAdd, h0, h1, kw, h2, List.length_append]
  simp only [wD, wordsD, List.map_append, List.map_cons, List.map_nil]
theorem d5 {W : List (List Str)} {q0 q1 q2 q3 q4 q5 : Int} {k : Nat} {ws : List Str} (hl : W.length ≤ 100) (h1 : q1 % W.length = k) (hk : W[k]? = some ws) (hw2 : 2 ≤ ws.length) (hw10 : ws.length ≤ 10) (h0 : q0 % 7 = 5) {V : List (List Str)} {last : List Str} (hV : W = V ++ [last]) (hj : (mkLine last).length ≤ 1000) :
    m__law_spoilt [wD W, intsD [q0, q1, q2, q3, q4, q5]] = .ok (.tuple [wD W, .bool false, .tuple [.int W.length, .int ((mkLine last).length + 1)]]) := by
  refine run_of hl _ fun c => ?_
  have kw := at_words hk
  have a0 : 0 ≤ sizeLine := by decide
  have a1 : 1 ≤ sizeLine := by decide
  have a2 : 2 ≤ sizeLine := by decide
  have a3 : 3 ≤ sizeLine := by decide
  have a6 : 6 ≤ sizeLine := by decide
  have a11 : 11 ≤ sizeLine := by decide
  have sl : 100000 ≤ sizeLine := by decide
  have hkl : k < W.length := (List.getElem?_eq_some_iff.mp hk).1
  have ik := ixN_nat hkl
  unfold m__law_spoilt
  refine (mkF_ok rfl).trans ?_
  show outRes (sSeq _ _ [some (.dat (wD W)), some (.dat (intsD [q0, q1, q2, q3, q4, q5])), none, none, none, none, none, none]) = _
  have jl := join_sp (ws := last) (by omega)
  have js : (mkLine last).length ≤ sizeLine := by omega
  have lw : atI (W.map wordsD) (-1) = some (wordsD last) := by rw [hV, List.map_append]; exact r_last
  simp (disch := first | assumption | omega | (simp only [List.length_map, List.length_append, List.length_cons, List.length_nil, Nat.reduceAdd] <;> omega)) only [sSeq, sFrz, frzE, ownL, List.getElem?_cons_zero, List.getElem?_cons_succ, r_own, c, List.set_cons_zero, List.set_cons_succ, sPar, r_cons, r_b1, r_b2, r_b3, r_none, r_some, r_opt, eVarB, eVar, r_c, r_nil, r_ixL, List.map_cons, List.map_nil, r_at0, r_at1, r_at2, r_at3, r_at4, r_at5, r_lenL, List.length_map, r_int, r_intB, r_mod, r_set, r_sub, r_add, r_if, r_eqI, Int.reduceEq, decide_false, decide_true, sNil, sRet, r_m1c, r_neg, r_lenS, r_tup, r_lst, r_put, r_sliceL, r_cut, r_cat, r_gt, r_vb, outRes, Int.reduceNeg, List.length_cons, List.length_nil, Nat.reduceAdd, h0, h1, kw, lw, jl]
theorem d6 {W : List (List Str)} {q0 q1 q2 q3 q4 q5 : Int} {k : Nat} {ws : List Str} (hl : W.length ≤ 100) (h1 : q1 % W.length = k) (hk : W[k]? = some ws) (hw2 : 2 ≤ ws.length) (hw10 : ws.length ≤ 10) (h0 : q0 % 7 = 6) :
    m__law_spoilt [wD W, intsD [q0, q1, q2, q3, q4, q5]] = .ok (.tuple [wD [], .bool true, .tuple [.int 1, .int 1]]) := by
  refine run_of hl _ fun c => ?_
  have kw := at_words hk
  have a0 : 0 ≤ sizeLine := by decide
  have a1 : 1 ≤ sizeLine := by decide
  have a2 : 2 ≤ sizeLine := by decide
  have a3 : 3 ≤ sizeLine := by decide
  have a6 : 6 ≤ sizeLine := by decide
  have a11 : 11 ≤ sizeLine := by decide
  have sl : 100000 ≤ sizeLine := by decide
  have hkl : k < W.length := (List.getElem?_eq_some_iff.mp hk).1
  have ik := ixN_nat hkl
  unfold m__law_spoilt
  refine (mkF_ok rfl).trans ?_
  show outRes (sSeq _ _ [some (.dat (wD W)), some (.dat (intsD [q0, q1, q2, q3, q4, q5])), none, none, none, none, none, none]) = _
  simp (disch := first | assumption | omega | (simp only [List.length_map, List.length_append, List.length_cons, List.length_nil, Nat.reduceAdd] <;> omega)) only [sSeq, sFrz, frzE, ownL, List.getElem?_cons_zero, List.getElem?_cons_succ, r_own, c, List.set_cons_zero, List.set_cons_succ, sPar, r_cons, r_b1, r_b2, r_b3, r_none, r_some, r_opt, eVarB, eVar, r_c, r_nil, r_ixL, List.map_cons, List.map_nil, r_at0, r_at1, r_at2, r_at3, r_at4, r_at5, r_lenL, List.length_map, r_int, r_intB, r_mod, r_set, r_sub, r_add, r_if, r_eqI, Int.reduceEq, decide_false, decide_true, sNil, sRet, r_m1c, r_neg, r_lenS, r_tup, r_lst, r_put, r_sliceL, r_cut, r_cat, r_gt, r_vb, outRes, Int.reduceNeg, List.length_cons, List.length_nil, Nat.reduceAdd, h0, h1, kw]
  rfl
/-! ### a turn -/
theorem r_fun {x : String} {fs : Mir.Env → Res (List Cell)} {e : Mir.Env} : eFun x fs e = match fs e with | .ok xs => .ok (.fn x :: xs) | .ex y => .ex y | .no => .no := by
  unfold eFun; cases fs e <;> rfl
theorem r_dat {f : Mir.Env → Res Mir.D} {fs : Mir.Env → Res (List Cell)} {e : Mir.Env} : eDat f fs e = match f e with
  | .ok x => (match fs e with | .ok xs => .ok (.dat x :: xs) | .ex y => .ex y | .no => .no) | .ex y => .ex y | .no => .no := by
  unfold eDat; cases f e <;> first | rfl | (cases fs e <;> rfl)
theorem r_ne2 {l c : Int} : neD (.tuple [.int l, .int c]) (.tuple [.int l, .int c]) = .ok false := by
  unfold neD
  rw [chk_pos ⟨rfl, rfl⟩]
  have e : PyData.eqv (.tuple [.int l, .int c]) (.tuple [.int l, .int c]) = true := by
    show (PyData.eqv (.int l) (.int l) && (PyData.eqv (.int c) (.int c) && true)) = true
    rw [eqv_int, eqv_int]
    simp
  rw [e]
  rfl
theorem r_isi {p : Mir.D → Bool} {i : Int} : isiD p (.int i) = .ok (.bool (p (.int i))) := rfl
theorem r_tru {b : Bool} : truD (.bool b) = .ok b := rfl
theorem r_isB {i : Int} : isBool (.int i) = false := rfl
theorem r_notN : notND .none = .ok false := rfl
abbrev tE' (s : Mir.D) (ds : List Int) (W : List (List Str)) (t : Int) (qs : List Int) (W' : List (List Str)) (b : Bool) (l c : Int) (deed : Int) (x9 x10 : Option Cell) : Mir.Env :=
  [some (.dat s), some (.dat (intsD ds)), some (.dat (wD W)), some (.dat (.int t)), some (.dat (intsD qs)), some (.dat (wD W')), some (.dat (.bool b)), some (.dat (.tuple [.int l, .int c])), some (.dat (.int deed)), x9, x10]
def extS : SF := (sIf (bAnd (eB2 iltD (eVarB 8) (eC (.int 5))) (eB2 eqD (eB2 modD (eB1 intD (eB2 ixD (eVarB 4) (eC (.int 5)))) (eC (.int 4))) (eC (.int 1)))) (sSet (setV 5) (eB2 addD (eVarB 5) (eB3 sliceD (eB1 lstD (eCons (eB1 lstD (eCons (eC (.str "x")) eNil)) (eCons (eB1 lstD (eCons (eC (.str "road")) (eCons (eC (.str "y")) (eCons (eC (.str "A")) eNil)))) eNil))) eNone (eSome (eB2 addD (eC (.int 1)) (eB2 modD (eB1 intD (eB2 ixD (eVarB 4) (eC (.int 4)))) (eC (.int 2)))))))) sNil)
def extra : List (List Str) := [["x"], ["road", "y", "A"]]
theorem ext_ok {s : Mir.D} {ds : List Int} {W W' : List (List Str)} {t q0 q1 q2 q3 q4 q5 : Int} {b : Bool} {l c deed : Int} {x9 x10 : Option Cell} (hl : W'.length ≤ 100) :
    ∃ ext, (ext = [] ∨ (deed < 5 ∧ (ext = extra.take 1 ∨ ext = extra))) ∧ extS (tE' s ds W t [q0, q1, q2, q3, q4, q5] W' b l c deed x9 x10) = .nx (tE' s ds W t [q0, q1, q2, q3, q4, q5] (W' ++ ext) b l c deed x9 x10) := by
  have a1 : 1 ≤ sizeLine := by decide
  have a2 : 2 ≤ sizeLine := by decide
  have a3 : 3 ≤ sizeLine := by decide
  have sl : 100000 ≤ sizeLine := by decide
  unfold extS
  by_cases h : deed < 5 ∧ q5 % 4 = 1
  · obtain ⟨h, h5⟩ := h
    have g := decide_eq_true h
    obtain ⟨m, hm, hm2⟩ : ∃ m : Nat, 1 + q4 % 2 = m ∧ (m = 1 ∨ m = 2) := ⟨(1 + q4 % 2).toNat, by omega, by omega⟩
    refine ⟨extra.take m, .inr ⟨h, ?_⟩, ?_⟩
    · rcases hm2 with e | e
      · exact .inl (by rw [e])
      · exact .inr (by rw [e]; rfl)
    have ec := cut_pre (extra.map wordsD) m
    have el : (extra.map wordsD) = [PyData.list [.str "x"], PyData.list [.str "road", .str "y", .str "A"]] := rfl
    rw [el] at ec
    have le : (List.take m [PyData.list [PyData.str "x"], PyData.list [PyData.str "road", .str "y", .str "A"]]).length ≤ 2 := by rw [List.length_take]; simp; omega
    have le2 : (W'.map wordsD).length + (List.take m [PyData.list [PyData.str "x"], PyData.list [PyData.str "road", .str "y", .str "A"]]).length ≤ sizeLine := by rw [List.length_map]; omega
    simp (disch := first | assumption | omega | (simp only [List.length_map, List.length_append, List.length_cons, List.length_nil, Nat.reduceAdd] <;> omega)) only [r_if, r_and, r_lt, g, h5, hm, ec, List.getElem?_cons_zero, List.getElem?_cons_succ, List.set_cons_zero, List.set_cons_succ, r_cons, r_b1, r_b2, r_b3, r_none, r_some, r_opt, eVarB, eVar, r_c, r_nil, r_ixL, List.map_cons, List.map_nil, r_at5, r_at4, r_int, r_mod, r_set, r_add, r_eqI, decide_true, r_lst, r_sliceL, r_cat]
    simp only [tE', wD, List.map_append, List.map_take, el]
  · refine ⟨[], .inl rfl, ?_⟩
    rw [List.append_nil]
    by_cases h1 : deed < 5
    · have g := decide_eq_true h1
      have g2 : decide (q5 % 4 = 1) = false := decide_eq_false fun z => h ⟨h1, z⟩
      simp (disch := first | assumption | omega) only [r_if, r_and, r_lt, g, g2, List.getElem?_cons_zero, List.getElem?_cons_succ, r_b1, r_b2, eVarB, eVar, r_c, r_ixL, List.map_cons, List.map_nil, r_at5, r_int, r_mod, r_eqI, sNil]
    · have g := decide_eq_false h1
      simp (disch := first | assumption | omega) only [r_if, r_and, r_lt, g, List.getElem?_cons_zero, List.getElem?_cons_succ, r_b1, r_b2, eVarB, eVar, r_c, r_ixL, List.map_cons, List.map_nil, r_at5, r_int, r_mod, r_eqI, sNil]
def cutSF : SF := (sIf (bOr (bNot (eB1 truD (eVarB 6))) (bAnd (eB2 iltD (eVarB 8) (eC (.int 4))) (eB2 eqD (eB2 modD (eB1 intD (eB2 ixD (eVarB 4) (eC (.int 5)))) (eC (.int 5))) (eC (.int 0))))) (sSet (setV 9) (eB3 sliceD (eVarB 9) eNone (eSome (eB1 negD (eC (.int 1)))))) sNil)
theorem cut_ok {s : Mir.D} {ds : List Int} {W W' : List (List Str)} {t q0 q1 q2 q3 q4 q5 : Int} {b : Bool} {l c deed : Int} {T : Str} {x10 : Option Cell} (hT : T.length ≤ 100000) :
    ∃ T', ((b = true ∧ T' = T) ∨ ((b = false ∨ deed < 4) ∧ T' = cutL T)) ∧ cutSF (tE' s ds W t [q0, q1, q2, q3, q4, q5] W' b l c deed (some (.dat (.str T))) x10) = .nx (tE' s ds W t [q0, q1, q2, q3, q4, q5] W' b l c deed (some (.dat (.str T'))) x10) := by
  have sl : 100000 ≤ sizeLine := by decide
  unfold cutSF
  cases b with
  | false =>
    refine ⟨cutL T, .inr ⟨.inl rfl, rfl⟩, ?_⟩
    simp (disch := first | assumption | omega) only [r_if, r_or, r_not, r_tru, r_and, r_lt, List.getElem?_cons_zero, List.getElem?_cons_succ, List.set_cons_zero, List.set_cons_succ, r_b1, r_b2, r_b3, r_none, r_some, r_opt, eVarB, eVar, r_c, r_ixL, List.map_cons, List.map_nil, r_at5, r_int, r_mod, r_eqI, sNil, r_set, r_sliceS, r_neg, cutL, Int.reduceNeg]
  | true =>
    by_cases h : deed < 4 ∧ q5 % 5 = 0
    · obtain ⟨h, h5⟩ := h
      have g := decide_eq_true h
      refine ⟨cutL T, .inr ⟨.inr h, rfl⟩, ?_⟩
      simp (disch := first | assumption | omega) only [r_if, r_or, r_not, r_tru, r_and, r_lt, g, h5, decide_true, List.getElem?_cons_zero, List.getElem?_cons_succ, List.set_cons_zero, List.set_cons_succ, r_b1, r_b2, r_b3, r_none, r_some, r_opt, eVarB, eVar, r_c, r_ixL, List.map_cons, List.map_nil, r_at5, r_int, r_mod, r_eqI, sNil, r_set, r_sliceS, r_neg, cutL, Int.reduceNeg]
    · refine ⟨T, .inl ⟨rfl, rfl⟩, ?_⟩
      by_cases h1 : deed < 4
      · have g := decide_eq_true h1
        have g2 : decide (q5 % 5 = 0) = false := decide_eq_false fun z => h ⟨h1, z⟩
        simp (disch := first | assumption | omega) only [r_if, r_or, r_not, r_tru, r_and, r_lt, g, g2, List.getElem?_cons_zero, List.getElem?_cons_succ, r_b1, r_b2, eVarB, eVar, r_c, r_ixL, List.map_cons, List.map_nil, r_at5, r_int, r_mod, r_eqI, sNil]
      · have g := decide_eq_false h1
        simp (disch := first | assumption | omega) only [r_if, r_or, r_not, r_tru, r_and, r_lt, g, List.getElem?_cons_zero, List.getElem?_cons_succ, r_b1, r_b2, eVarB, eVar, r_c, r_ixL, List.map_cons, List.map_nil, r_at5, r_int, r_mod, r_eqI, sNil]
/-! ### reading a spoilt town -/
theorem ne_two {w v : Str} {r : List Str} : mkLine (w :: v :: r) ≠ Str.empty := fun h => by
  have e := congrArg TL.tl h
  rw [tl_mkLine] at e
  have e : TL.tl w ++ ([32] ++ TL.joinL [32] ((v :: r).map TL.tl)) = [] := e
  simp at e
theorem ne_head {w : Str} {r : List Str} (hw : TL.tl w ≠ []) : mkLine (w :: r) ≠ Str.empty := by
  cases r with
  | nil => exact fun h => hw (congrArg TL.tl h)
  | cons v r => exact ne_two
theorem head_ne (k : Nat) : TL.tl (headOf k) ≠ [] := by
  unfold headOf
  split
  · decide +kernel
  · decide +kernel
structure Spoil (deed : Int) (W' : List (List Str)) (b : Bool) (l c : Int) : Prop where
  ws : ∀ v ∈ W', WsOk v
  len : W'.length ≤ 50
  how : (b = true ∧ (∀ ext, rowsL 0 (W' ++ ext) [] = .ex (badText l c)) ∧ (deed < 4 → W' ≠ [] ∧ ∀ v ∈ W', mkLine v ≠ Str.empty))
    ∨ (b = false ∧ 5 ≤ deed ∧ W' ≠ [] ∧ (∀ v ∈ W', mkLine v ≠ Str.empty) ∧ ∃ V last rows, W' = V ++ [last] ∧ rowsL 0 W' [] = .ok rows ∧ l = W'.length ∧ c = (mkLine last).length + 1)
    ∨ (b = true ∧ 5 ≤ deed ∧ W' = [] ∧ l = 1 ∧ c = 1)
theorem extra_ok : ∀ v ∈ extra, WsOk v ∧ mkLine v ≠ Str.empty := by
  unfold extra WsOk okW
  decide +kernel
theorem ends {X : List (List Str)} (h : X ≠ []) : ∃ V last, X = V ++ [last] := ⟨X.dropLast, X.getLast h, (List.dropLast_concat_getLast h).symm⟩
theorem read_spoil {deed : Int} {W' ext : List (List Str)} {b : Bool} {l c : Int} {T' : Str} (S : Spoil deed W' b l c) (he : ext = [] ∨ (deed < 5 ∧ (ext = extra.take 1 ∨ ext = extra)))
    (hT : (b = true ∧ T' = mkText (W' ++ ext)) ∨ ((b = false ∨ deed < 4) ∧ T' = cutL (mkText (W' ++ ext)))) : Near.m_read_town [.str T'] = .ex (badText l c) := by
  have el : ext.length ≤ 2 := by
    rcases he with rfl | ⟨_, rfl | rfl⟩ <;> decide
  have ew : ∀ v ∈ ext, WsOk v ∧ mkLine v ≠ Str.empty := by
    rcases he with rfl | ⟨_, rfl | rfl⟩
    · exact fun _ h => by cases h
    · exact fun v h => extra_ok v (List.mem_of_mem_take h)
    · exact extra_ok
  have aw : ∀ v ∈ W' ++ ext, WsOk v := fun v hv => (List.mem_append.mp hv).elim (S.ws v) fun h => (ew v h).1
  have al : (W' ++ ext).length ≤ 100 := by rw [List.length_append]; have := S.len; omega
  rcases S.how with ⟨rfl, hr, hn⟩ | ⟨rfl, h5, hne, hn, V, last, rows, hV, hr, rfl, rfl⟩ | ⟨rfl, h5, rfl, rfl, rfl⟩
  · rcases hT with ⟨_, rfl⟩ | ⟨h, rfl⟩
    · rw [read_full aw al]
      exact town_bad (hr ext)
    · rcases h with h | h
      · cases h
      · obtain ⟨h1, h2⟩ := hn h
        obtain ⟨V, last, hV⟩ := ends (X := W' ++ ext) (by simp [h1])
        have hl : last ∈ W' ++ ext := by rw [hV]; simp
        have hln : mkLine last ≠ Str.empty := (List.mem_append.mp hl).elim (h2 last) fun h => (ew last h).2
        rw [hV] at aw al ⊢
        rw [read_cut aw al hln, ← hV]
        exact town_bad (hr ext)
  · have e0 : ext = [] := by
      rcases he with h | ⟨h, _⟩
      · exact h
      · omega
    subst e0
    rw [List.append_nil] at *
    rcases hT with ⟨h, _⟩ | ⟨_, rfl⟩
    · cases h
    · rw [hV] at aw al hn hr ⊢
      rw [read_cut aw al (hn last (by simp))]
      unfold townR
      rw [hr]
      show Res.ex (badText ((V ++ [last]).map mkLine).length (((((V ++ [last]).map mkLine).getLastD Str.empty).length : Int) + 1)) = _
      rw [List.length_map, List.map_append]
      simp
  · have e0 : ext = [] := by
      rcases he with h | ⟨h, _⟩
      · exact h
      · omega
    subst e0
    rcases hT with ⟨_, rfl⟩ | ⟨h, _⟩
    · rw [List.append_nil, read_full (fun _ h => by cases h) (by decide)]
      rfl
    · rcases h with h | h
      · cases h
      · omega
/-! ### what is spoilt -/
theorem pick {L : List Str} {i : Int} (h0 : 0 ≤ i) (h : i < L.length) : ∃ w ∈ L, atI (L.map PyData.str) i = some (.str w) := by
  obtain ⟨j, rfl⟩ : ∃ j : Nat, i = j := ⟨i.toNat, by omega⟩
  have hj : j < L.length := by omega
  exact ⟨L[j], List.getElem_mem hj, atI_nat (by rw [List.getElem?_map, List.getElem?_eq_getElem hj]; rfl)⟩
theorem L1ok : ∀ w ∈ (["", "00", "01", "1000", "+1", "a", "1.", "-1", "-", "1_0", "\t7"] : List Str), num? w = none ∧ okW w ∧ w.length ≤ 10 := by
  unfold okW
  decide +kernel
theorem L0ok : (∀ w ∈ (["", "Places", "roads", "x", "0", "road"] : List Str), w ≠ "places" ∧ okW w ∧ w.length ≤ 10) ∧ (∀ w ∈ (["", "Places", "roads", "x", "0", "places"] : List Str), w ≠ "road" ∧ okW w ∧ w.length ≤ 10) := by
  unfold okW
  decide +kernel
theorem L3ok : ∀ w ∈ (["", "x", "7"] : List Str), okW w ∧ w.length ≤ 10 := by
  unfold okW
  decide +kernel
theorem spoil {P : Nat} {roads : List Road} (hp : P ≤ 7) (h : ∀ r ∈ roads, smallR r) (hr : roads.length ≤ 21) (q0 q1 q2 q3 q4 q5 : Int) :
    ∃ W' b l c, Spoil (q0 % 7) W' b l c ∧ m__law_spoilt [wD (townW P roads), intsD [q0, q1, q2, q3, q4, q5]] = .ok (.tuple [wD W', .bool b, .tuple [.int l, .int c]]) := by
  have hp9 : P ≤ 999 := by omega
  have hlen : (townW P roads).length = 1 + roads.length := by unfold townW; rw [List.length_cons, List.length_map]; omega
  have hl : (townW P roads).length ≤ 100 := by omega
  have tw := ws_town hp9 h
  obtain ⟨k, h1⟩ : ∃ k : Nat, q1 % (townW P roads).length = k := ⟨(q1 % (townW P roads).length).toNat, by rw [Int.toNat_of_nonneg (Int.emod_nonneg _ (by omega))]⟩
  have hk : k < 1 + roads.length := by have := Int.emod_lt_of_pos q1 (by omega : (0 : Int) < (townW P roads).length); omega
  obtain ⟨ns, hns, hc, h9⟩ := town_line hp9 h hk
  have tne : ∀ v ∈ townW P roads, mkLine v ≠ Str.empty := fun v hv => by
    rcases List.mem_cons.mp hv with rfl | hv -- here
    · exact ne_two
    · obtain ⟨r, _, rfl⟩ := List.mem_map.mp hv
      exact ne_two
  have hc3 : ns.length = 1 ∨ ns.length = 3 := by
    unfold countOf at hc
    split at hc <;> omega
  obtain ⟨ws, hws⟩ : ∃ ws, headOf k :: ns.map numW = ws := ⟨_, rfl⟩
  have wl : ws.length = ns.length + 1 := by rw [← hws]; simp
  rw [hws] at hns
  have wmem : ws ∈ townW P roads := List.mem_of_getElem? hns
  have wok := tw ws wmem
  have hw2 : 2 ≤ ws.length := by omega
  have hw10 : ws.length ≤ 10 := by omega
  have num10 : ∀ w ∈ ws, okW w ∧ w.length ≤ 10 := wok.2.2
  -- a line that is wrong, in the k-th place
  have bad : ∀ {bw : List Str} {c : Int}, WsOk bw → mkLine bw ≠ Str.empty → lineW ((k : Int) + 1) (headOf k) (some (countOf k)) bw = .ex (badText (k + 1) c) → ∀ d : Int, Spoil d ((townW P roads).set k bw) true (k + 1) c := by
    intro bw c w1 w2 w3 d
    refine ⟨fun v hv => ?_, by rw [List.length_set]; omega, .inl ⟨rfl, fun ext => ?_, fun _ => ⟨?_, fun v hv => ?_⟩⟩⟩
    · rcases List.mem_or_eq_of_mem_set hv with hv | rfl
      · exact tw v hv
      · exact w1
    · rw [List.set_eq_take_append_cons_drop, if_pos (by omega), List.append_assoc, List.cons_append]
      exact rows_bad hp9 h (by omega) w3
    · intro z
      have := congrArg List.length z
      rw [List.length_set, hlen] at this
      simp at this
    · rcases List.mem_or_eq_of_mem_set hv with hv | rfl
      · exact tne v hv
      · exact w2
  -- the first p words
  obtain ⟨i, hi, hin⟩ : ∃ i : Nat, 1 + q2 % ((ws.length : Int) - 1) = ((i + 1 : Nat) : Int) ∧ i < ns.length := by
    have a := Int.emod_nonneg q2 (by omega : ((ws.length : Int) - 1) ≠ 0)
    have b := Int.emod_lt_of_pos q2 (by omega : (0 : Int) < (ws.length : Int) - 1)
    exact ⟨(q2 % ((ws.length : Int) - 1)).toNat, by omega, by omega⟩
  have pre : cutD ws none (some ((i + 1 : Nat) : Int)) = headOf k :: (ns.take i).map numW := by
    rw [cut_pre, ← hws, List.take_succ_cons, List.map_take]
  have til : (ns.take i).length = i := by rw [List.length_take]; omega
  have ti9 : ∀ n ∈ ns.take i, n ≤ 999 := fun n hn => h9 n (List.mem_of_mem_take hn)
  have prew : ∀ w ∈ headOf k :: (ns.take i).map numW, okW w ∧ w.length ≤ 10 := fun w hw => by rw [← pre] at hw; exact num10 w (cut_mem hw)
  have preok : WsOk (headOf k :: (ns.take i).map numW) := ⟨by simp, by simp [til]; omega, prew⟩
  have prel := line_up preok
  have d7 : q0 % 7 = 0 ∨ q0 % 7 = 1 ∨ q0 % 7 = 2 ∨ q0 % 7 = 3 ∨ q0 % 7 = 4 ∨ q0 % 7 = 5 ∨ q0 % 7 = 6 := by omega
  rcases d7 with h0 | h0 | h0 | h0 | h0 | h0 | h0
  · -- a wrong head
    obtain ⟨m, h4⟩ : ∃ m : Nat, q4 % 4 = m := ⟨(q4 % 4).toNat, by omega⟩
    obtain ⟨v, hv⟩ : ∃ v : Str, v = if 0 < k then ("places" : Str) else "road" := ⟨_, rfl⟩
    obtain ⟨w, hw, h3⟩ := pick (L := ["", "Places", "roads", "x", "0", v]) (i := q3 % 6) (by omega) (by simp; omega)
    have wd : w ≠ headOf k ∧ okW w ∧ w.length ≤ 10 := by
      by_cases z : 0 < k
      · rw [hv, if_pos z] at hw
        rw [show headOf k = "road" from if_neg (by omega)]
        exact L0ok.2 w hw
      · rw [hv, if_neg z] at hw
        rw [show headOf k = "places" from if_pos (by omega)]
        exact L0ok.1 w hw
    have tl : cutD ws (some 1) (some ((m + 2 : Nat) : Int)) = (ns.map numW).take (m + 1) := by
      rw [show (1 : Int) = ((1 : Nat) : Int) from rfl, cut_mid, ← hws]
      rfl
    refine ⟨_, _, _, _, bad ?_ ?_ (bad_head wd.1) _, d0 hl h1 hns hw2 hw10 h0 hv h3 h4⟩
    · refine ⟨by simp, ?_, fun x hx => ?_⟩
      · rw [tl, List.length_cons, List.length_take, List.length_map]; omega
      · rcases List.mem_cons.mp hx with rfl | hx
        · exact wd.2
        · exact num10 x (cut_mem hx)
    · rw [tl]
      cases ns with
      | nil => simp at hc3
      | cons n ns => exact ne_two
  · -- a wrong word
    obtain ⟨w, hw, h3⟩ := pick (L := ["", "00", "01", "1000", "+1", "a", "1.", "-1", "-", "1_0", "\t7"]) (i := q3 % 11) (by omega) (by simp; omega)
    obtain ⟨wn, wo⟩ := L1ok w hw
    have go : ∀ tail : List Str, tail.length ≤ 5 → (∀ x ∈ tail, okW x ∧ x.length ≤ 10) → Spoil (q0 % 7) ((townW P roads).set k (cutD ws none (some ((i + 1 : Nat) : Int)) ++ [w] ++ tail)) true (k + 1) ((mkLine (cutD ws none (some ((i + 1 : Nat) : Int)))).length + 2) := by
      intro tail tl tok
      rw [pre, List.append_assoc]
      refine bad ⟨by simp, ?_, fun x hx => ?_⟩ (ne_head (head_ne k)) (bad_word ti9 (by omega) (.inl wn)) _
      · show ((headOf k :: (ns.take i).map numW) ++ ([w] ++ tail)).length ≤ 10
        simp only [List.length_append, List.length_cons, List.length_map, List.length_nil, til]; omega
      · have hx : x ∈ (headOf k :: (ns.take i).map numW) ++ (w :: tail) := hx
        rcases List.mem_append.mp hx with hx | hx -- here
        · exact prew x hx
        · rcases List.mem_cons.mp hx with rfl | hx
          · exact wo
          · exact tok x hx
    have hj : (mkLine (cutD ws none (some ((i + 1 : Nat) : Int)))).length ≤ 1000 := by rw [pre]; omega
    have w7 : okW "7" ∧ ("7" : Str).length ≤ 10 := L3ok "7" (by simp)
    have c3 : q5 % 3 = 0 ∨ q5 % 3 = 1 ∨ q5 % 3 = 2 := by omega
    rcases c3 with h5 | h5 | h5
    · refine ⟨_, _, _, _, go _ ?_ ?_, d10 hl h1 hns hw2 hw10 h0 h3 hi h5 hj⟩
      · have := cut_len ws (some ((i + 1 + 1 : Nat) : Int)) none; omega
      · exact fun x hx => num10 x (cut_mem hx)
    · refine ⟨_, _, _, _, go _ ?_ ?_, d11 hl h1 hns hw2 hw10 h0 h3 hi h5 hj⟩
      · have := cut_len ws (some ((i + 1 + 1 : Nat) : Int)) none; rw [List.length_append]; simp only [List.length_cons, List.length_nil]; omega
      · intro x hx
        rcases List.mem_append.mp hx with hx | hx -- here
        · exact num10 x (cut_mem hx)
        · rw [List.mem_singleton] at hx; subst hx; exact w7
    · refine ⟨_, _, _, _, go _ ?_ ?_, d12 hl h1 hns hw2 hw10 h0 h3 hi h5 hj⟩
      · have := cut_len ws (some ((i + 1 + 1 : Nat) : Int)) (some (-1)); omega
      · exact fun x hx => num10 x (cut_mem hx)
  · -- words lack
    have hj : (mkLine (cutD ws none (some ((i + 1 : Nat) : Int)))).length ≤ 1000 := by rw [pre]; omega
    refine ⟨_, _, _, _, ?_, d2 hl h1 hns hw2 hw10 h0 hi hj⟩
    rw [pre]
    exact bad preok (ne_head (head_ne k)) (bad_short ti9 (by omega)) _
  · -- a word too many
    obtain ⟨w, hw, h3⟩ := pick (L := ["", "x", "7"]) (i := q3 % 3) (by omega) (by simp; omega)
    have wo := L3ok w hw
    have hj := line_up wok
    refine ⟨_, _, _, _, ?_, d3 hl h1 hns hw2 hw10 h0 h3 (by omega)⟩
    rw [← hws]
    refine bad ⟨by simp, ?_, fun x hx => ?_⟩ (ne_head (head_ne k)) (bad_word h9 (by omega) (.inr hc)) _
    · show ((headOf k :: ns.map numW) ++ [w]).length ≤ 10
      simp only [List.length_append, List.length_cons, List.length_map, List.length_nil]; omega
    · have hx : x ∈ (headOf k :: ns.map numW) ++ [w] := hx
      rcases List.mem_append.mp hx with hx | hx -- here
      · rw [hws] at hx; exact num10 x hx
      · rw [List.mem_singleton] at hx; subst hx; exact wo
  · -- a blank line
    obtain ⟨m, h2⟩ : ∃ m : Nat, q1 % (((townW P roads).length : Int) + 1) = m := ⟨(q1 % (((townW P roads).length : Int) + 1)).toNat, by rw [Int.toNat_of_nonneg (Int.emod_nonneg _ (by omega))]⟩
    have hm : m ≤ 1 + roads.length := by have := Int.emod_lt_of_pos q1 (by omega : (0 : Int) < ((townW P roads).length : Int) + 1); omega
    refine ⟨_, _, _, _, ?_, d4 hl h1 hns hw2 hw10 h0 h2⟩
    rw [cut_pre, cut_suf]
    refine ⟨fun v hv => ?_, ?_, .inl ⟨rfl, fun ext => ?_, fun z => by omega⟩⟩
    · rcases List.mem_append.mp hv with hv | hv -- here
      · rcases List.mem_append.mp hv with hv | hv -- here
        · exact tw v (List.mem_of_mem_take hv)
        · rw [List.mem_singleton] at hv
          subst hv
          exact ⟨by simp, by simp, fun x hx => by rw [List.mem_singleton] at hx; subst hx; exact L3ok "" (by simp)⟩
      · exact tw v (List.mem_of_mem_drop hv)
    · simp only [List.length_append, List.length_take, List.length_drop, List.length_cons, List.length_nil]; omega
    · rw [List.append_assoc, List.append_assoc]
      refine rows_bad hp9 h hm (bad_head ?_)
      intro z
      exact head_ne m (by rw [← z]; decide +kernel)
  · -- the last line does not end
    obtain ⟨V, last, hV⟩ := ends (X := townW P roads) (by unfold townW; simp)
    have lo := line_up (tw last (by rw [hV]; simp))
    exact ⟨_, _, _, _, ⟨tw, by omega, .inr (.inl ⟨rfl, by omega, by unfold townW; simp, tne, V, last, _, hV, rows_whole hp9 h, rfl, rfl⟩)⟩, d5 hl h1 hns hw2 hw10 h0 hV (by omega)⟩
  · exact ⟨_, _, _, _, ⟨fun _ h => (by cases h), by decide, .inr (.inr ⟨rfl, by omega, rfl, rfl, rfl⟩)⟩, d6 hl h1 hns hw2 hw10 h0⟩
/-! ### the law -/
def sA : SF := (sSet (setV 4) (eB3 sliceD (eVarB 1) (eSome (eB2 addD (eC (.int 30)) (eB2 mulD (eC (.int 6)) (eVarB 3)))) (eSome (eB2 addD (eC (.int 36)) (eB2 mulD (eC (.int 6)) (eVarB 3))))))
def sB : SF := (sSet (setT [5, 6, 7]) (eB1 m__law_spoilt (eCons (eVar 2) (eCons (eVar 4) eNil))))
def sC : SF := (sSet (setV 8) (eB2 modD (eB1 intD (eB2 ixD (eVarB 4) (eC (.int 0)))) (eC (.int 7))))
def sD : SF := (sSet (setV 9) (eB1 m__law_text (eCons (eVar 5) eNil)))
def sF : SF := (sSet (setV 10) (eB1 m__law_place (eFun "read_town" (eDat (eVar 9) (fun _ => .ok [])))))
def sG : SF := (sIf (bOr (eB2 neD (eVarB 10) (eVarB 7)) (bOr (eB1 truD (eB1 (isiD isBool) (eB2 ixD (eVarB 10) (eC (.int 0))))) (eB1 truD (eB1 (isiD isBool) (eB2 ixD (eVarB 10) (eC (.int 1))))))) (sRet (eC (.bool false))) sNil)
def turnS : SF := sSeq sA (sSeq sB (sSeq sC (sSeq extS (sSeq sD (sSeq cutSF (sSeq sF sG))))))
theorem six {xs : List Int} (h : xs.length = 6) : ∃ q0 q1 q2 q3 q4 q5, xs = [q0, q1, q2, q3, q4, q5] := by
  match xs, h with
  | [q0, q1, q2, q3, q4, q5], _ => exact ⟨q0, q1, q2, q3, q4, q5, rfl⟩
theorem turn {s : Mir.D} {ds : List Int} {P : Nat} {roads : List Road} (hp : P ≤ 7) (h : ∀ r ∈ roads, smallR r) (hr : roads.length ≤ 21) (hd : ds.length = 45) {t : Nat} (ht : t < 2) (x4 x5 x6 x7 x8 x9 x10 : Option Cell) :
    ∃ y4 y5 y6 y7 y8 y9 y10, turnS [some (.dat s), some (.dat (intsD ds)), some (.dat (wD (townW P roads))), some (.dat (.int t)), x4, x5, x6, x7, x8, x9, x10] = .nx [some (.dat s), some (.dat (intsD ds)), some (.dat (wD (townW P roads))), some (.dat (.int t)), y4, y5, y6, y7, y8, y9, y10] := by
  have hq : cutD ds (some (30 + 6 * (t : Int))) (some (36 + 6 * (t : Int))) = (ds.drop (30 + 6 * t)).take (36 + 6 * t - (30 + 6 * t)) := by
    rw [show (30 + 6 * (t : Int)) = ((30 + 6 * t : Nat) : Int) by omega, show (36 + 6 * (t : Int)) = ((36 + 6 * t : Nat) : Int) by omega, cut_mid]
  obtain ⟨q0, q1, q2, q3, q4, q5, e6⟩ := six (xs := (ds.drop (30 + 6 * t)).take (36 + 6 * t - (30 + 6 * t))) (by rw [List.length_take, List.length_drop]; omega)
  rw [e6] at hq
  obtain ⟨W', b, l, c, S, run⟩ := spoil hp h hr q0 q1 q2 q3 q4 q5
  have hA : sA [some (.dat s), some (.dat (intsD ds)), some (.dat (wD (townW P roads))), some (.dat (.int t)), x4, x5, x6, x7, x8, x9, x10] = .nx [some (.dat s), some (.dat (intsD ds)), some (.dat (wD (townW P roads))), some (.dat (.int t)), some (.dat (intsD [q0, q1, q2, q3, q4, q5])), x5, x6, x7, x8, x9, x10] := by
    unfold sA
    simp (disch := decide) only [r_set, r_b3, r_b2, r_some, r_opt, r_c, eVarB, List.getElem?_cons_zero, List.getElem?_cons_succ, List.set_cons_zero, List.set_cons_succ, r_mulL, r_add, r_sliceL, r_cut, hq]
  have hB : sB [some (.dat s), some (.dat (intsD ds)), some (.dat (wD (townW P roads))), some (.dat (.int t)), some (.dat (intsD [q0, q1, q2, q3, q4, q5])), x5, x6, x7, x8, x9, x10] = .nx [some (.dat s), some (.dat (intsD ds)), some (.dat (wD (townW P roads))), some (.dat (.int t)), some (.dat (intsD [q0, q1, q2, q3, q4, q5])), some (.dat (wD W')), some (.dat (.bool b)), some (.dat (.tuple [.int l, .int c])), x8, x9, x10] := by
    unfold sB
    exact setT_ok (b1_ok (op := m__law_spoilt) (x := [wD (townW P roads), intsD [q0, q1, q2, q3, q4, q5]]) rfl run) rfl
  have hC : sC [some (.dat s), some (.dat (intsD ds)), some (.dat (wD (townW P roads))), some (.dat (.int t)), some (.dat (intsD [q0, q1, q2, q3, q4, q5])), some (.dat (wD W')), some (.dat (.bool b)), some (.dat (.tuple [.int l, .int c])), x8, x9, x10] = .nx (tE' s ds (townW P roads) t [q0, q1, q2, q3, q4, q5] W' b l c (q0 % 7) x9 x10) := by
    unfold sC
    simp (disch := decide) only [r_set, r_b1, r_b2, r_c, eVarB, List.getElem?_cons_zero, List.getElem?_cons_succ, List.set_cons_zero, List.set_cons_succ, r_ixL, List.map_cons, List.map_nil, r_at0, r_int, r_mod]
  have sl := S.len
  obtain ⟨ext, he, hE⟩ := ext_ok (s := s) (ds := ds) (W := townW P roads) (W' := W') (t := t) (q0 := q0) (q1 := q1) (q2 := q2) (q3 := q3) (q4 := q4) (q5 := q5) (b := b) (l := l) (c := c) (deed := q0 % 7) (x9 := x9) (x10 := x10) (by omega)
  have el : ext.length ≤ 2 := by
    rcases he with rfl | ⟨_, rfl | rfl⟩ <;> decide
  have ew : ∀ v ∈ ext, WsOk v := by
    rcases he with rfl | ⟨_, rfl | rfl⟩
    · exact fun _ h => by cases h
    · exact fun v h => (extra_ok v (List.mem_of_mem_take h)).1
    · exact fun v h => (extra_ok v h).1
  have up := text_up (wss := W' ++ ext) fun v hv => (List.mem_append.mp hv).elim (S.ws v) (ew v)
  rw [List.length_append] at up
  have hT : (mkText (W' ++ ext)).length ≤ 100000 := by omega
  have hD : sD (tE' s ds (townW P roads) t [q0, q1, q2, q3, q4, q5] (W' ++ ext) b l c (q0 % 7) x9 x10) = .nx (tE' s ds (townW P roads) t [q0, q1, q2, q3, q4, q5] (W' ++ ext) b l c (q0 % 7) (some (.dat (.str (mkText (W' ++ ext))))) x10) := by
    unfold sD
    refine (set_ok (d := .str (mkText (W' ++ ext))) (b1_ok (op := m__law_text) (x := [wD (W' ++ ext)]) rfl ?_)).trans rfl
    rw [e_text]
    exact text_of hT
  obtain ⟨T', ht', hF⟩ := cut_ok (s := s) (ds := ds) (W := townW P roads) (W' := W' ++ ext) (t := t) (q0 := q0) (q1 := q1) (q2 := q2) (q3 := q3) (q4 := q4) (q5 := q5) (b := b) (l := l) (c := c) (deed := q0 % 7) (T := mkText (W' ++ ext)) (x10 := x10) hT
  have bad := place_text (read_spoil S he ht')
  have hP : sF (tE' s ds (townW P roads) t [q0, q1, q2, q3, q4, q5] (W' ++ ext) b l c (q0 % 7) (some (.dat (.str T'))) x10) = .nx (tE' s ds (townW P roads) t [q0, q1, q2, q3, q4, q5] (W' ++ ext) b l c (q0 % 7) (some (.dat (.str T'))) (some (.dat (.tuple [.int l, .int c])))) := by
    unfold sF
    exact (set_ok (d := .tuple [.int l, .int c]) (b1_ok (op := m__law_place) (x := [.fn "read_town", .dat (.str T')]) rfl bad)).trans rfl
  have hG : sG (tE' s ds (townW P roads) t [q0, q1, q2, q3, q4, q5] (W' ++ ext) b l c (q0 % 7) (some (.dat (.str T'))) (some (.dat (.tuple [.int l, .int c])))) = .nx (tE' s ds (townW P roads) t [q0, q1, q2, q3, q4, q5] (W' ++ ext) b l c (q0 % 7) (some (.dat (.str T'))) (some (.dat (.tuple [.int l, .int c])))) := by
    unfold sG
    simp only [r_if, r_or, r_b2, r_b1, eVarB, List.getElem?_cons_zero, List.getElem?_cons_succ, r_ne2, r_ixT, r_at0, r_at1, r_c, r_isi, r_tru, r_isB, sNil]
  refine ⟨some (.dat (intsD [q0, q1, q2, q3, q4, q5])), some (.dat (wD (W' ++ ext))), some (.dat (.bool b)), some (.dat (.tuple [.int l, .int c])), some (.dat (.int (q0 % 7))), some (.dat (.str T')), some (.dat (.tuple [.int l, .int c])), ?_⟩
  unfold turnS
  rw [seq_nx hA, seq_nx hB, seq_nx hC, seq_nx hE, seq_nx hD, seq_nx hF, seq_nx hP]
  exact hG
theorem law_true : ∀ ns : List Int, ns.length ≤ 63 → m_law [.list (ns.map .int)] = .ok (.bool true) := by
  intro ns hns
  obtain ⟨ds, hdl, hdv, hrun⟩ := draws ns 45 (by decide) hns
  obtain ⟨P, roads, p1, p7, ok, hr, _, htown⟩ := town (ds := ds) (most := 7) (by decide) (by decide) (by omega) hdv
  have small := ok.small (by omega)
  have hlines := lines_of_town (P := P) (roads := roads) (by omega) small (by omega)
  have tl := town_len (p := P) (roads := roads) (by omega) small
  have htext := text_of (wss := townW P roads) (by omega)
  have hread := rt_town (p := P) (roads := roads) (by omega) small (by omega)
  rw [check_ok p1 p7 ok] at hread
  have hplace := place_ok hread
  unfold m_law
  refine (mkF_ok rfl).trans ?_
  show outRes (sSeq _ _ [some (.dat (intsD ns)), none, none, none, none, none, none, none, none, none, none]) = _
  rw [seq_nx (e' := [some (.dat (intsD ns)), some (.dat (intsD ds)), none, none, none, none, none, none, none, none, none]) (set_ok (d := intsD ds) (b1_ok (op := m__law_draws) (x := [intsD ns, PyData.int 45]) rfl (by rw [e_draws]; exact hrun)))]
  rw [seq_nx (e' := [some (.dat (intsD ns)), some (.dat (intsD ds)), some (.dat (wD (townW P roads))), none, none, none, none, none, none, none, none]) (set_ok (d := wD (townW P roads)) (b1_ok (op := m__law_lines) (x := [PyData.tuple [.int P, .list (roads.map roadD)]]) (cons_ok (b1_ok (op := m__law_town) (x := [intsD ds, PyData.int 7]) rfl (by rw [e_ltown]; exact htown)) rfl) (by rw [e_lines]; exact hlines)))]
  rw [seq_nx (e' := [some (.dat (intsD ns)), some (.dat (intsD ds)), some (.dat (wD (townW P roads))), none, none, none, none, none, none, none, none]) (if_n (b1_ok (op := notND) (x := PyData.none) (b1_ok (op := m__law_place) (x := [.fn "read_town", .dat (.str (mkText (townW P roads)))]) (by rw [r_fun, r_dat, b1_ok (op := m__law_text) (x := [wD (townW P roads)]) (r := .ok (.str (mkText (townW P roads)))) rfl (by rw [e_text]; exact htext)]) hplace) rfl))]
  obtain ⟨y4, y5, y6, y7, y8, y9, y10, t0⟩ := turn (s := intsD ns) (P := P) (roads := roads) p7 small hr hdl (t := 0) (by decide) none none none none none none none
  obtain ⟨z4, z5, z6, z7, z8, z9, z10, t1⟩ := turn (s := intsD ns) (P := P) (roads := roads) p7 small hr hdl (t := 1) (by decide) y4 y5 y6 y7 y8 y9 y10
  have loop : sFor (eB1 iRange1 (eC (.int 2))) (setV 3) turnS [some (.dat (intsD ns)), some (.dat (intsD ds)), some (.dat (wD (townW P roads))), none, none, none, none, none, none, none, none] = .nx [some (.dat (intsD ns)), some (.dat (intsD ds)), some (.dat (wD (townW P roads))), some (.dat (.int (1 : Nat))), z4, z5, z6, z7, z8, z9, z10] := by
    refine (sFor_ok (xs := [PyData.int (0 : Nat), PyData.int (1 : Nat)]) (b1_ok (op := iRange1) (x := PyData.int 2) rfl (chk_pos (by decide)))).trans ?_
    rw [for_nx (e1 := [some (.dat (intsD ns)), some (.dat (intsD ds)), some (.dat (wD (townW P roads))), some (.dat (.int (0 : Nat))), none, none, none, none, none, none, none]) rfl t0]
    rw [for_nx (e1 := [some (.dat (intsD ns)), some (.dat (intsD ds)), some (.dat (wD (townW P roads))), some (.dat (.int (1 : Nat))), y4, y5, y6, y7, y8, y9, y10]) rfl t1]
    rfl
  refine (congrArg outRes (seq_nx loop)).trans ?_
  rw [ret_ok (d := .bool true) rfl]
  rfl
end K12

namespace K12
open PySem PySem.Spec L2 Mir
theorem it_BadRoad : InitTxt PySem.Challenge.pw_evernear_k12_the_first_wrong_word (initOf (top 3)) "BadRoad.__init__" ["at"] where
  me := ⟨_, rfl, rfl⟩
  sk := rfl
  ck := rfl
  fk := rfl
  lk := rfl
  top := by decide +kernel
  body := ⟨_, _, _, _, _, _, _, _, [(_, _, _, _)], rfl, ⟨fun _ => _, fun _ => rfl⟩, rfl⟩
  bnd := fun _ _ _ _ _ _ _ _ vs _ hl => match vs, hl with | [_], _ => .of_eq (by first | rfl | with_unfolding_all rfl | kernel_rfl)
  cell := by decide +kernel
  co := rfl
  gen := rfl
  loc := by decide +kernel
  nd := by decide +kernel
  few := by decide
theorem it_BadSize : InitTxt PySem.Challenge.pw_evernear_k12_the_first_wrong_word (initOf (top 2)) "BadSize.__init__" [] where
  me := ⟨_, rfl, rfl⟩
  sk := rfl
  ck := rfl
  fk := rfl
  lk := rfl
  top := by decide +kernel
  body := ⟨_, _, _, _, _, _, _, _, [], rfl, ⟨fun _ => _, fun _ => rfl⟩, rfl⟩
  bnd := fun _ _ _ _ _ _ _ _ vs _ hl => match vs, hl with | [], _ => .of_eq (by first | rfl | with_unfolding_all rfl | kernel_rfl)
  cell := by decide +kernel
  co := rfl
  gen := rfl
  loc := by decide +kernel
  nd := by decide +kernel
  few := by decide
theorem it_BadText : InitTxt PySem.Challenge.pw_evernear_k12_the_first_wrong_word (initOf (top 4)) "BadText.__init__" ["line", "column"] where
  me := ⟨_, rfl, rfl⟩
  sk := rfl
  ck := rfl
  fk := rfl
  lk := rfl
  top := by decide +kernel
  body := ⟨_, _, _, _, _, _, _, _, [(_, _, _, _), (_, _, _, _)], rfl, ⟨fun _ => _, fun _ => rfl⟩, rfl⟩
  bnd := fun _ _ _ _ _ _ _ _ vs _ hl => match vs, hl with | [_, _], _ => .of_eq (by first | rfl | with_unfolding_all rfl | kernel_rfl)
  cell := by decide +kernel
  co := rfl
  gen := rfl
  loc := by decide +kernel
  nd := by decide +kernel
  few := by decide
theorem all_mk {w : World} {K : PySem.W.Frag} {h : Heap} {mg : Str → Option Value} {fa : Addr} (X : K.In h) (G : h.Ns mainGlobals mg) (hfa : mg "law" = some (.ref fa))
    {f_is_within : Addr} {od_is_within an_is_within : Option Addr} {sl_is_within : Array (Option Value)} {oc_is_within kV_is_within dc_is_within pm_is_within cd_is_within ct_is_within : Value}
    {f_is_road : Addr} {od_is_road an_is_road : Option Addr} {sl_is_road : Array (Option Value)} {oc_is_road kV_is_road dc_is_road pm_is_road cd_is_road ct_is_road : Value}
    {f_check_town : Addr} {od_check_town an_check_town : Option Addr} {sl_check_town : Array (Option Value)} {oc_check_town kV_check_town dc_check_town pm_check_town cd_check_town ct_check_town : Value}
    {f_lines_of : Addr} {od_lines_of an_lines_of : Option Addr} {sl_lines_of : Array (Option Value)} {oc_lines_of kV_lines_of dc_lines_of pm_lines_of cd_lines_of ct_lines_of : Value}
    {f_read_number : Addr} {od_read_number an_read_number : Option Addr} {sl_read_number : Array (Option Value)} {oc_read_number kV_read_number dc_read_number pm_read_number cd_read_number ct_read_number : Value}
    {f_read_line : Addr} {od_read_line an_read_line : Option Addr} {sl_read_line : Array (Option Value)} {oc_read_line kV_read_line dc_read_line pm_read_line cd_read_line ct_read_line : Value}
    {f_read_town : Addr} {od_read_town an_read_town : Option Addr} {sl_read_town : Array (Option Value)} {oc_read_town kV_read_town dc_read_town pm_read_town cd_read_town ct_read_town : Value}
    {f__law_draws : Addr} {od__law_draws an__law_draws : Option Addr} {sl__law_draws : Array (Option Value)} {oc__law_draws kV__law_draws dc__law_draws pm__law_draws cd__law_draws ct__law_draws : Value}
    {f__law_lines : Addr} {od__law_lines an__law_lines : Option Addr} {sl__law_lines : Array (Option Value)} {oc__law_lines kV__law_lines dc__law_lines pm__law_lines cd__law_lines ct__law_lines : Value}
    {f__law_place : Addr} {od__law_place an__law_place : Option Addr} {sl__law_place : Array (Option Value)} {oc__law_place kV__law_place dc__law_place pm__law_place cd__law_place ct__law_place : Value}
    {f__law_spoilt : Addr} {od__law_spoilt an__law_spoilt : Option Addr} {sl__law_spoilt : Array (Option Value)} {oc__law_spoilt kV__law_spoilt dc__law_spoilt pm__law_spoilt cd__law_spoilt ct__law_spoilt : Value}
    {f__law_text : Addr} {od__law_text an__law_text : Option Addr} {sl__law_text : Array (Option Value)} {oc__law_text kV__law_text dc__law_text pm__law_text cd__law_text ct__law_text : Value}
    {f__law_town : Addr} {od__law_town an__law_town : Option Addr} {sl__law_town : Array (Option Value)} {oc__law_town kV__law_town dc__law_town pm__law_town cd__law_town ct__law_town : Value}
    {f_law : Addr} {od_law an_law : Option Addr} {sl_law : Array (Option Value)} {oc_law kV_law dc_law pm_law cd_law ct_law : Value}
    {q_BadRoad : Addr}
    {q_BadSize : Addr}
    {q_BadText : Addr}
    {q_NearError : Addr}
    {i_BadRoad cc_BadRoad cda_BadRoad N_BadRoad : Addr} {nm_BadRoad qn_BadRoad : Str} {bs_BadRoad bm_BadRoad : List Value} {sn_BadRoad : List Str} {sub_BadRoad : List Value} {ab_BadRoad : Bool} {col_BadRoad : Option Bool} {dd_BadRoad : Option Addr} {k0_BadRoad k1_BadRoad k2_BadRoad k3_BadRoad k5_BadRoad : Option Value} {oc_BadRoad kV_BadRoad dc_BadRoad pm_BadRoad ct_BadRoad ccl_BadRoad ccm_BadRoad : Value} {od_BadRoad an_BadRoad cdd_BadRoad cld_BadRoad : Option Addr} {osl_BadRoad ccs_BadRoad csl_BadRoad : Array (Option Value)} {vs_BadRoad : Array Value} {fil_BadRoad : Str} {tf_BadRoad : Tok}
    {i_BadSize cc_BadSize cda_BadSize N_BadSize : Addr} {nm_BadSize qn_BadSize : Str} {bs_BadSize bm_BadSize : List Value} {sn_BadSize : List Str} {sub_BadSize : List Value} {ab_BadSize : Bool} {col_BadSize : Option Bool} {dd_BadSize : Option Addr} {k0_BadSize k1_BadSize k2_BadSize k3_BadSize k5_BadSize : Option Value} {oc_BadSize kV_BadSize dc_BadSize pm_BadSize ct_BadSize ccl_BadSize ccm_BadSize : Value} {od_BadSize an_BadSize cdd_BadSize cld_BadSize : Option Addr} {osl_BadSize ccs_BadSize csl_BadSize : Array (Option Value)} {vs_BadSize : Array Value} {fil_BadSize : Str} {tf_BadSize : Tok}
    {i_BadText cc_BadText cda_BadText N_BadText : Addr} {nm_BadText qn_BadText : Str} {bs_BadText bm_BadText : List Value} {sn_BadText : List Str} {sub_BadText : List Value} {ab_BadText : Bool} {col_BadText : Option Bool} {dd_BadText : Option Addr} {k0_BadText k1_BadText k2_BadText k3_BadText k5_BadText : Option Value} {oc_BadText kV_BadText dc_BadText pm_BadText ct_BadText ccl_BadText ccm_BadText : Value} {od_BadText an_BadText cdd_BadText cld_BadText : Option Addr} {osl_BadText ccs_BadText csl_BadText : Array (Option Value)} {vs_BadText : Array Value} {fil_BadText : Str} {tf_BadText : Tok}
    {d_COUNTS : Addr} {es_COUNTS : Array DictEntry} {en_COUNTS : Nat}
    {u_COUNTS_0 : Tok}
    {u_COUNTS_1 : Tok}
    {tk_DIGITS : Tok}
    {tk_LONGEST : Tok}
    {tk_MOST : Tok}
    (a_is_within : PySem.W.nsIn K mainGlobals "is_within" = some (some (.ref f_is_within)))
    (l_is_within : K.lookup f_is_within = some ⟨oc_is_within, od_is_within, .func (PySem.W.fnOf "is_within" "is_within" (defArgs s_is_within) (defBody s_is_within) (defScope s_is_within) .none kV_is_within dc_is_within pm_is_within an_is_within cd_is_within ct_is_within), sl_is_within⟩)
    (c_is_within : PySem.W.codeIn K cd_is_within "is_within" = true)
    (k_is_within : PySem.W.keepIn K (.ref f_is_within) = true)
    (a_is_road : PySem.W.nsIn K mainGlobals "is_road" = some (some (.ref f_is_road)))
    (l_is_road : K.lookup f_is_road = some ⟨oc_is_road, od_is_road, .func (PySem.W.fnOf "is_road" "is_road" (defArgs s_is_road) (defBody s_is_road) (defScope s_is_road) .none kV_is_road dc_is_road pm_is_road an_is_road cd_is_road ct_is_road), sl_is_road⟩)
    (c_is_road : PySem.W.codeIn K cd_is_road "is_road" = true)
    (k_is_road : PySem.W.keepIn K (.ref f_is_road) = true)
    (a_check_town : PySem.W.nsIn K mainGlobals "check_town" = some (some (.ref f_check_town)))
    (l_check_town : K.lookup f_check_town = some ⟨oc_check_town, od_check_town, .func (PySem.W.fnOf "check_town" "check_town" (defArgs s_check_town) (defBody s_check_town) (defScope s_check_town) .none kV_check_town dc_check_town pm_check_town an_check_town cd_check_town ct_check_town), sl_check_town⟩)
    (c_check_town : PySem.W.codeIn K cd_check_town "check_town" = true)
    (k_check_town : PySem.W.keepIn K (.ref f_check_town) = true)
    (a_lines_of : PySem.W.nsIn K mainGlobals "lines_of" = some (some (.ref f_lines_of)))
    (l_lines_of : K.lookup f_lines_of = some ⟨oc_lines_of, od_lines_of, .func (PySem.W.fnOf "lines_of" "lines_of" (defArgs s_lines_of) (defBody s_lines_of) (defScope s_lines_of) .none kV_lines_of dc_lines_of pm_lines_of an_lines_of cd_lines_of ct_lines_of), sl_lines_of⟩)
    (c_lines_of : PySem.W.codeIn K cd_lines_of "lines_of" = true)
    (k_lines_of : PySem.W.keepIn K (.ref f_lines_of) = true)
    (a_read_number : PySem.W.nsIn K mainGlobals "read_number" = some (some (.ref f_read_number)))
    (l_read_number : K.lookup f_read_number = some ⟨oc_read_number, od_read_number, .func (PySem.W.fnOf "read_number" "read_number" (defArgs s_read_number) (defBody s_read_number) (defScope s_read_number) .none kV_read_number dc_read_number pm_read_number an_read_number cd_read_number ct_read_number), sl_read_number⟩)
    (c_read_number : PySem.W.codeIn K cd_read_number "read_number" = true)
    (k_read_number : PySem.W.keepIn K (.ref f_read_number) = true)
    (a_read_line : PySem.W.nsIn K mainGlobals "read_line" = some (some (.ref f_read_line)))
    (l_read_line : K.lookup f_read_line = some ⟨oc_read_line, od_read_line, .func (PySem.W.fnOf "read_line" "read_line" (defArgs s_read_line) (defBody s_read_line) (defScope s_read_line) .none kV_read_line dc_read_line pm_read_line an_read_line cd_read_line ct_read_line), sl_read_line⟩)
    (c_read_line : PySem.W.codeIn K cd_read_line "read_line" = true)
    (k_read_line : PySem.W.keepIn K (.ref f_read_line) = true)
    (a_read_town : PySem.W.nsIn K mainGlobals "read_town" = some (some (.ref f_read_town)))
    (l_read_town : K.lookup f_read_town = some ⟨oc_read_town, od_read_town, .func (PySem.W.fnOf "read_town" "read_town" (defArgs s_read_town) (defBody s_read_town) (defScope s_read_town) .none kV_read_town dc_read_town pm_read_town an_read_town cd_read_town ct_read_town), sl_read_town⟩)
    (c_read_town : PySem.W.codeIn K cd_read_town "read_town" = true)
    (k_read_town : PySem.W.keepIn K (.ref f_read_town) = true)
    (a__law_draws : PySem.W.nsIn K mainGlobals "_law_draws" = some (some (.ref f__law_draws)))
    (l__law_draws : K.lookup f__law_draws = some ⟨oc__law_draws, od__law_draws, .func (PySem.W.fnOf "_law_draws" "_law_draws" (defArgs s__law_draws) (defBody s__law_draws) (defScope s__law_draws) .none kV__law_draws dc__law_draws pm__law_draws an__law_draws cd__law_draws ct__law_draws), sl__law_draws⟩)
    (c__law_draws : PySem.W.codeIn K cd__law_draws "_law_draws" = true)
    (k__law_draws : PySem.W.keepIn K (.ref f__law_draws) = true)
    (a__law_lines : PySem.W.nsIn K mainGlobals "_law_lines" = some (some (.ref f__law_lines)))
    (l__law_lines : K.lookup f__law_lines = some ⟨oc__law_lines, od__law_lines, .func (PySem.W.fnOf "_law_lines" "_law_lines" (defArgs s__law_lines) (defBody s__law_lines) (defScope s__law_lines) .none kV__law_lines dc__law_lines pm__law_lines an__law_lines cd__law_lines ct__law_lines), sl__law_lines⟩)
    (c__law_lines : PySem.W.codeIn K cd__law_lines "_law_lines" = true)
    (k__law_lines : PySem.W.keepIn K (.ref f__law_lines) = true)
    (a__law_place : PySem.W.nsIn K mainGlobals "_law_place" = some (some (.ref f__law_place)))
    (l__law_place : K.lookup f__law_place = some ⟨oc__law_place, od__law_place, .func (PySem.W.fnOf "_law_place" "_law_place" (defArgs s__law_place) (defBody s__law_place) (defScope s__law_place) .none kV__law_place dc__law_place pm__law_place an__law_place cd__law_place ct__law_place), sl__law_place⟩)
    (c__law_place : PySem.W.codeIn K cd__law_place "_law_place" = true)
    (k__law_place : PySem.W.keepIn K (.ref f__law_place) = true)
    (a__law_spoilt : PySem.W.nsIn K mainGlobals "_law_spoilt" = some (some (.ref f__law_spoilt)))
    (l__law_spoilt : K.lookup f__law_spoilt = some ⟨oc__law_spoilt, od__law_spoilt, .func (PySem.W.fnOf "_law_spoilt" "_law_spoilt" (defArgs s__law_spoilt) (defBody s__law_spoilt) (defScope s__law_spoilt) .none kV__law_spoilt dc__law_spoilt pm__law_spoilt an__law_spoilt cd__law_spoilt ct__law_spoilt), sl__law_spoilt⟩)
    (c__law_spoilt : PySem.W.codeIn K cd__law_spoilt "_law_spoilt" = true)
    (k__law_spoilt : PySem.W.keepIn K (.ref f__law_spoilt) = true)
    (a__law_text : PySem.W.nsIn K mainGlobals "_law_text" = some (some (.ref f__law_text)))
    (l__law_text : K.lookup f__law_text = some ⟨oc__law_text, od__law_text, .func (PySem.W.fnOf "_law_text" "_law_text" (defArgs s__law_text) (defBody s__law_text) (defScope s__law_text) .none kV__law_text dc__law_text pm__law_text an__law_text cd__law_text ct__law_text), sl__law_text⟩)
    (c__law_text : PySem.W.codeIn K cd__law_text "_law_text" = true)
    (k__law_text : PySem.W.keepIn K (.ref f__law_text) = true)
    (a__law_town : PySem.W.nsIn K mainGlobals "_law_town" = some (some (.ref f__law_town)))
    (l__law_town : K.lookup f__law_town = some ⟨oc__law_town, od__law_town, .func (PySem.W.fnOf "_law_town" "_law_town" (defArgs s__law_town) (defBody s__law_town) (defScope s__law_town) .none kV__law_town dc__law_town pm__law_town an__law_town cd__law_town ct__law_town), sl__law_town⟩)
    (c__law_town : PySem.W.codeIn K cd__law_town "_law_town" = true)
    (k__law_town : PySem.W.keepIn K (.ref f__law_town) = true)
    (a_law : PySem.W.nsIn K mainGlobals "law" = some (some (.ref f_law)))
    (l_law : K.lookup f_law = some ⟨oc_law, od_law, .func (PySem.W.fnOf "law" "law" (defArgs s_law) (defBody s_law) (defScope s_law) .none kV_law dc_law pm_law an_law cd_law ct_law), sl_law⟩)
    (c_law : PySem.W.codeIn K cd_law "law" = true)
    (k_law : PySem.W.keepIn K (.ref f_law) = true)
    (b_ValueError : PySem.W.nsIn K mainGlobals "ValueError" = some none)
    (b_all : PySem.W.nsIn K mainGlobals "all" = some none)
    (b_bool : PySem.W.nsIn K mainGlobals "bool" = some none)
    (b_enumerate : PySem.W.nsIn K mainGlobals "enumerate" = some none)
    (b_int : PySem.W.nsIn K mainGlobals "int" = some none)
    (b_isinstance : PySem.W.nsIn K mainGlobals "isinstance" = some none)
    (b_len : PySem.W.nsIn K mainGlobals "len" = some none)
    (b_list : PySem.W.nsIn K mainGlobals "list" = some none)
    (b_range : PySem.W.nsIn K mainGlobals "range" = some none)
    (b_str : PySem.W.nsIn K mainGlobals "str" = some none)
    (b_tuple : PySem.W.nsIn K mainGlobals "tuple" = some none)
    (b_super : PySem.W.nsIn K mainGlobals "super" = some none)
    (opq : PySem.W.nsIn K cStatics "thirdparty.any" = some none)
    (x0_BadRoad : PySem.W.nsIn K mainGlobals "BadRoad" = some (some (.ref q_BadRoad)))
    (x7_BadRoad : PySem.W.subIn K (.ref q_BadRoad) (.type "BaseException") = some true)
    (x9_BadRoad : PySem.W.typeIn K (.ref q_BadRoad) = some (.type "type"))
    (xd_BadRoad : PySem.W.hasDictIn K q_BadRoad = true)
    (x0_BadSize : PySem.W.nsIn K mainGlobals "BadSize" = some (some (.ref q_BadSize)))
    (x7_BadSize : PySem.W.subIn K (.ref q_BadSize) (.type "BaseException") = some true)
    (x9_BadSize : PySem.W.typeIn K (.ref q_BadSize) = some (.type "type"))
    (xd_BadSize : PySem.W.hasDictIn K q_BadSize = true)
    (x0_BadText : PySem.W.nsIn K mainGlobals "BadText" = some (some (.ref q_BadText)))
    (x7_BadText : PySem.W.subIn K (.ref q_BadText) (.type "BaseException") = some true)
    (x9_BadText : PySem.W.typeIn K (.ref q_BadText) = some (.type "type"))
    (xd_BadText : PySem.W.hasDictIn K q_BadText = true)
    (x0_NearError : PySem.W.nsIn K mainGlobals "NearError" = some (some (.ref q_NearError)))
    (x7_NearError : PySem.W.subIn K (.ref q_NearError) (.type "BaseException") = some true)
    (x9_NearError : PySem.W.typeIn K (.ref q_NearError) = some (.type "type"))
    (xd_NearError : PySem.W.hasDictIn K q_NearError = true)
    (x2_BadRoad : K.lookup q_BadRoad = some (excClassObj nm_BadRoad qn_BadRoad q_BadRoad N_BadRoad bs_BadRoad bm_BadRoad true sn_BadRoad sub_BadRoad ab_BadRoad col_BadRoad dd_BadRoad k0_BadRoad k1_BadRoad k2_BadRoad k3_BadRoad k5_BadRoad "ValueError.__new__"))
    (x3_BadRoad : PySem.HandSPX.refsVE bm_BadRoad = true)
    (x4_BadRoad : PySem.W.findIn K (.ref q_BadRoad) "__setattr__" = some (some (.builtin "object.__setattr__")))
    (x5_BadRoad_at : PySem.W.findIn K (.ref q_BadRoad) "at" = some none)
    (x6_BadRoad : PySem.W.keepIn K (.ref q_BadRoad) = true)
    (x8_BadRoad : PySem.W.subIn K (.ref q_BadRoad) (.type "ValueError") = some true)
    (x11_BadRoad : PySem.W.ks_superIn K q_BadRoad q_BadRoad "__init__" = some (some (.builtin "ValueError.__init__")))
    (x12_BadRoad : PySem.W.findIn K (.ref q_BadRoad) "__init__" = some (some (.ref i_BadRoad)))
    (x13_BadRoad : PySem.W.typeIn K (.ref i_BadRoad) = some (.type "function"))
    (x14_BadRoad : K.lookup i_BadRoad = some ⟨oc_BadRoad, od_BadRoad, .func (PySem.W.ksFn "__init__" "BadRoad.__init__" (defArgs (initOf (top 3))) (defBody (initOf (top 3))) (defScope (initOf (top 3))) Value.none kV_BadRoad dc_BadRoad pm_BadRoad an_BadRoad (.ref cda_BadRoad) ct_BadRoad cc_BadRoad), osl_BadRoad⟩)
    (x15_BadRoad : PySem.W.codeIn K (.ref cda_BadRoad) "BadRoad.__init__" = true)
    (x16_BadRoad : K.lookup cda_BadRoad = some ⟨ccl_BadRoad, cdd_BadRoad, .fields vs_BadRoad, ccs_BadRoad⟩)
    (x17_BadRoad : vs_BadRoad[2]? = some (.str fil_BadRoad tf_BadRoad))
    (x18_BadRoad : ((PySem.Challenge.pw_evernear_k12_the_first_wrong_word.main.file : Str) == fil_BadRoad) = true)
    (x19_BadRoad : K.lookup cc_BadRoad = some ⟨ccm_BadRoad, cld_BadRoad, .cell (some (.ref q_BadRoad)), csl_BadRoad⟩)
    (x21_BadRoad : PySem.W.mroIn K q_BadRoad (.ref q_BadRoad) = some true)
    (x2_BadSize : K.lookup q_BadSize = some (excClassObj nm_BadSize qn_BadSize q_BadSize N_BadSize bs_BadSize bm_BadSize true sn_BadSize sub_BadSize ab_BadSize col_BadSize dd_BadSize k0_BadSize k1_BadSize k2_BadSize k3_BadSize k5_BadSize "ValueError.__new__"))
    (x3_BadSize : PySem.HandSPX.refsVE bm_BadSize = true)
    (x4_BadSize : PySem.W.findIn K (.ref q_BadSize) "__setattr__" = some (some (.builtin "object.__setattr__")))
    (x6_BadSize : PySem.W.keepIn K (.ref q_BadSize) = true)
    (x8_BadSize : PySem.W.subIn K (.ref q_BadSize) (.type "ValueError") = some true)
    (x11_BadSize : PySem.W.ks_superIn K q_BadSize q_BadSize "__init__" = some (some (.builtin "ValueError.__init__")))
    (x12_BadSize : PySem.W.findIn K (.ref q_BadSize) "__init__" = some (some (.ref i_BadSize)))
    (x13_BadSize : PySem.W.typeIn K (.ref i_BadSize) = some (.type "function"))
    (x14_BadSize : K.lookup i_BadSize = some ⟨oc_BadSize, od_BadSize, .func (PySem.W.ksFn "__init__" "BadSize.__init__" (defArgs (initOf (top 2))) (defBody (initOf (top 2))) (defScope (initOf (top 2))) Value.none kV_BadSize dc_BadSize pm_BadSize an_BadSize (.ref cda_BadSize) ct_BadSize cc_BadSize), osl_BadSize⟩)
    (x15_BadSize : PySem.W.codeIn K (.ref cda_BadSize) "BadSize.__init__" = true)
    (x16_BadSize : K.lookup cda_BadSize = some ⟨ccl_BadSize, cdd_BadSize, .fields vs_BadSize, ccs_BadSize⟩)
    (x17_BadSize : vs_BadSize[2]? = some (.str fil_BadSize tf_BadSize))
    (x18_BadSize : ((PySem.Challenge.pw_evernear_k12_the_first_wrong_word.main.file : Str) == fil_BadSize) = true)
    (x19_BadSize : K.lookup cc_BadSize = some ⟨ccm_BadSize, cld_BadSize, .cell (some (.ref q_BadSize)), csl_BadSize⟩)
    (x21_BadSize : PySem.W.mroIn K q_BadSize (.ref q_BadSize) = some true)
    (x2_BadText : K.lookup q_BadText = some (excClassObj nm_BadText qn_BadText q_BadText N_BadText bs_BadText bm_BadText true sn_BadText sub_BadText ab_BadText col_BadText dd_BadText k0_BadText k1_BadText k2_BadText k3_BadText k5_BadText "ValueError.__new__"))
    (x3_BadText : PySem.HandSPX.refsVE bm_BadText = true)
    (x4_BadText : PySem.W.findIn K (.ref q_BadText) "__setattr__" = some (some (.builtin "object.__setattr__")))
    (x5_BadText_line : PySem.W.findIn K (.ref q_BadText) "line" = some none)
    (x5_BadText_column : PySem.W.findIn K (.ref q_BadText) "column" = some none)
    (x6_BadText : PySem.W.keepIn K (.ref q_BadText) = true)
    (x8_BadText : PySem.W.subIn K (.ref q_BadText) (.type "ValueError") = some true)
    (x11_BadText : PySem.W.ks_superIn K q_BadText q_BadText "__init__" = some (some (.builtin "ValueError.__init__")))
    (x12_BadText : PySem.W.findIn K (.ref q_BadText) "__init__" = some (some (.ref i_BadText)))
    (x13_BadText : PySem.W.typeIn K (.ref i_BadText) = some (.type "function"))
    (x14_BadText : K.lookup i_BadText = some ⟨oc_BadText, od_BadText, .func (PySem.W.ksFn "__init__" "BadText.__init__" (defArgs (initOf (top 4))) (defBody (initOf (top 4))) (defScope (initOf (top 4))) Value.none kV_BadText dc_BadText pm_BadText an_BadText (.ref cda_BadText) ct_BadText cc_BadText), osl_BadText⟩)
    (x15_BadText : PySem.W.codeIn K (.ref cda_BadText) "BadText.__init__" = true)
    (x16_BadText : K.lookup cda_BadText = some ⟨ccl_BadText, cdd_BadText, .fields vs_BadText, ccs_BadText⟩)
    (x17_BadText : vs_BadText[2]? = some (.str fil_BadText tf_BadText))
    (x18_BadText : ((PySem.Challenge.pw_evernear_k12_the_first_wrong_word.main.file : Str) == fil_BadText) = true)
    (x19_BadText : K.lookup cc_BadText = some ⟨ccm_BadText, cld_BadText, .cell (some (.ref q_BadText)), csl_BadText⟩)
    (x21_BadText : PySem.W.mroIn K q_BadText (.ref q_BadText) = some true)
    (y_BadRoad_BadText : PySem.W.subIn K (.ref q_BadRoad) (.ref q_BadText) = some false)
    (y_BadSize_BadText : PySem.W.subIn K (.ref q_BadSize) (.ref q_BadText) = some false)
    (y_BadText_BadText : PySem.W.subIn K (.ref q_BadText) (.ref q_BadText) = some true)
    (y_BadRoad_NearError : PySem.W.subIn K (.ref q_BadRoad) (.ref q_NearError) = some true)
    (y_BadSize_NearError : PySem.W.subIn K (.ref q_BadSize) (.ref q_NearError) = some true)
    (y_BadText_NearError : PySem.W.subIn K (.ref q_BadText) (.ref q_NearError) = some true)
    (z_BadRoad_NearError : PySem.W.kitOne K (.ref q_BadRoad) (.ref q_NearError) = some true)
    (z_BadSize_NearError : PySem.W.kitOne K (.ref q_BadSize) (.ref q_NearError) = some true)
    (z_BadText_NearError : PySem.W.kitOne K (.ref q_BadText) (.ref q_NearError) = some true)
    (z_BadRoad_ValueError : PySem.W.kitOne K (.ref q_BadRoad) (.type "ValueError") = some true)
    (z_BadSize_ValueError : PySem.W.kitOne K (.ref q_BadSize) (.type "ValueError") = some true)
    (z_BadText_ValueError : PySem.W.kitOne K (.ref q_BadText) (.type "ValueError") = some true)
    (g_BadRoad : PySem.W.findIn K (.ref q_BadRoad) "__getattribute__" = some (some (.builtin "BaseException.__getattribute__")))
    (h_BadRoad : PySem.W.findIn K (.ref q_BadRoad) "__getattr__" = some none)
    (w_BadRoad_column : PySem.W.findIn K (.ref q_BadRoad) "column" = some none)
    (w_BadRoad_line : PySem.W.findIn K (.ref q_BadRoad) "line" = some none)
    (g_BadSize : PySem.W.findIn K (.ref q_BadSize) "__getattribute__" = some (some (.builtin "BaseException.__getattribute__")))
    (h_BadSize : PySem.W.findIn K (.ref q_BadSize) "__getattr__" = some none)
    (w_BadSize_column : PySem.W.findIn K (.ref q_BadSize) "column" = some none)
    (w_BadSize_line : PySem.W.findIn K (.ref q_BadSize) "line" = some none)
    (g_BadText : PySem.W.findIn K (.ref q_BadText) "__getattribute__" = some (some (.builtin "BaseException.__getattribute__")))
    (h_BadText : PySem.W.findIn K (.ref q_BadText) "__getattr__" = some none)
    (w_BadText_column : PySem.W.findIn K (.ref q_BadText) "column" = some none)
    (w_BadText_line : PySem.W.findIn K (.ref q_BadText) "line" = some none)
    (on_ : PySem.W.specialIn K (.builtin "object.__class__") "__get__" = some (some (.builtin "getset_descriptor.__get__")))
    (ot_ : PySem.W.takesIn K (.builtin "object.__class__") = some true)
    (oa_BadRoad : PySem.W.findIn K (.ref q_BadRoad) "__class__" = some (some (.builtin "object.__class__")))
    (om_BadRoad : PySem.W.mroIn K q_BadRoad (.type "object") = some true)
    (oa_BadSize : PySem.W.findIn K (.ref q_BadSize) "__class__" = some (some (.builtin "object.__class__")))
    (om_BadSize : PySem.W.mroIn K q_BadSize (.type "object") = some true)
    (oa_BadText : PySem.W.findIn K (.ref q_BadText) "__class__" = some (some (.builtin "object.__class__")))
    (om_BadText : PySem.W.mroIn K q_BadText (.type "object") = some true)
    (t_COUNTS : PySem.W.nsIn K mainGlobals "COUNTS" = some (some (.ref d_COUNTS)))
    (tl_COUNTS : K.lookup d_COUNTS = some ⟨.type "dict", none, .dict es_COUNTS en_COUNTS, #[]⟩)
    (tk_COUNTS : PySem.W.KeysLit w.params es_COUNTS.toList)
    (tv_COUNTS_0 : PySem.W.nsIn K d_COUNTS "places" = some (some (.int 1 u_COUNTS_0)))
    (tv_COUNTS_1 : PySem.W.nsIn K d_COUNTS "road" = some (some (.int 3 u_COUNTS_1)))
    (t_DIGITS : PySem.W.nsIn K mainGlobals "DIGITS" = some (some (.str "0123456789" tk_DIGITS)))
    (t_LONGEST : PySem.W.nsIn K mainGlobals "LONGEST" = some (some (.int 9 tk_LONGEST)))
    (t_MOST : PySem.W.nsIn K mainGlobals "MOST" = some (some (.int 7 tk_MOST))) :
    ∃ fd : FuncData, (∀ (s : Shared) (u : Value), BindsTo s fd ⟨[u], []⟩ [("_law_script", u)]) ∧ ∀ base : Heap, K.In base → base.Ns mainGlobals mg → FnG PySem.Challenge.rw_evernear_k12_the_first_wrong_word.prog w K mg base 7 fa fd ["_law_script"] (spTrue K m_law) := by
  have e := hfa.symm.trans (PySem.W.mg_of X G a_law)
  cases e
  have T : Tx PySem.Challenge.rw_evernear_k12_the_first_wrong_word.prog w K mg ⟨fun s => List.lookup s [("BadRoad", q_BadRoad), ("BadSize", q_BadSize), ("BadText", q_BadText)], fun s => List.lookup s [("read_town", f_read_town)]⟩ q_BadRoad q_BadSize q_BadText q_NearError := {
    b_ValueError := PySem.W.mg_none_of X G b_ValueError,
    b_all := PySem.W.mg_none_of X G b_all,
    b_bool := PySem.W.mg_none_of X G b_bool,
    b_enumerate := PySem.W.mg_none_of X G b_enumerate,
    b_int := PySem.W.mg_none_of X G b_int,
    b_isinstance := PySem.W.mg_none_of X G b_isinstance,
    b_len := PySem.W.mg_none_of X G b_len,
    b_list := PySem.W.mg_none_of X G b_list,
    b_range := PySem.W.mg_none_of X G b_range,
    b_str := PySem.W.mg_none_of X G b_str,
    b_tuple := PySem.W.mg_none_of X G b_tuple,
    t_COUNTS := ⟨d_COUNTS, PySem.W.mg_of X G t_COUNTS, tabL [("places", (.int 1)), ("road", (.int 3))] (List.forall_mem_cons.mpr ⟨⟨.int 1, ⟨es_COUNTS, en_COUNTS, _, tl_COUNTS, tk_COUNTS, tv_COUNTS_0, ⟨_, rfl⟩⟩, fun _ => .int _⟩, List.forall_mem_cons.mpr ⟨⟨.int 3, ⟨es_COUNTS, en_COUNTS, _, tl_COUNTS, tk_COUNTS, tv_COUNTS_1, ⟨_, rfl⟩⟩, fun _ => .int _⟩, fun _ z => nomatch z⟩⟩)⟩,
    t_DIGITS := ⟨tk_DIGITS, PySem.W.mg_of X G t_DIGITS⟩,
    t_LONGEST := ⟨_, .int 9, PySem.W.mg_of X G t_LONGEST, ⟨_, rfl⟩, fun _ => .int _⟩,
    t_MOST := ⟨_, .int 7, PySem.W.mg_of X G t_MOST, ⟨_, rfl⟩, fun _ => .int _⟩,
    c_BadRoad := rfl,
    x_BadRoad := excTxt_mk it_BadRoad X G x0_BadRoad b_super x2_BadRoad x3_BadRoad x4_BadRoad (List.forall_mem_cons.mpr ⟨x5_BadRoad_at, fun _ z => nomatch z⟩) x6_BadRoad x7_BadRoad x8_BadRoad x9_BadRoad opq x11_BadRoad x12_BadRoad x13_BadRoad x14_BadRoad x15_BadRoad x16_BadRoad x17_BadRoad x18_BadRoad x19_BadRoad x21_BadRoad,
    c_BadSize := rfl,
    x_BadSize := excTxt_mk it_BadSize X G x0_BadSize b_super x2_BadSize x3_BadSize x4_BadSize (fun _ z => nomatch z) x6_BadSize x7_BadSize x8_BadSize x9_BadSize opq x11_BadSize x12_BadSize x13_BadSize x14_BadSize x15_BadSize x16_BadSize x17_BadSize x18_BadSize x19_BadSize x21_BadSize,
    c_BadText := rfl,
    x_BadText := excTxt_mk it_BadText X G x0_BadText b_super x2_BadText x3_BadText x4_BadText (List.forall_mem_cons.mpr ⟨x5_BadText_line, List.forall_mem_cons.mpr ⟨x5_BadText_column, fun _ z => nomatch z⟩⟩) x6_BadText x7_BadText x8_BadText x9_BadText opq x11_BadText x12_BadText x13_BadText x14_BadText x15_BadText x16_BadText x17_BadText x18_BadText x19_BadText x21_BadText,
    v_read_town := ⟨f_read_town, PySem.W.mg_of X G a_read_town, rfl⟩,
    n_BadText := PySem.W.mg_of X G x0_BadText,
    n_NearError := PySem.W.mg_of X G x0_NearError,
    h_BadText := fun cn C b h1 h2 => tab_all (l := [("BadRoad", q_BadRoad), ("BadSize", q_BadSize), ("BadText", q_BadText)]) (R := fun cn C => ∀ b, isa cn "BadText" = some b → PySem.W.exmOne K (.ref C) (.ref q_BadText) = some b) (List.forall_mem_cons.mpr ⟨exm_mk x7_BadText xd_BadText x9_BadText y_BadRoad_BadText (by rfl), List.forall_mem_cons.mpr ⟨exm_mk x7_BadText xd_BadText x9_BadText y_BadSize_BadText (by rfl), List.forall_mem_cons.mpr ⟨exm_mk x7_BadText xd_BadText x9_BadText y_BadText_BadText (by rfl), fun _ z => nomatch z⟩⟩⟩) cn C h1 b h2,
    h_NearError := fun cn C b h1 h2 => tab_all (l := [("BadRoad", q_BadRoad), ("BadSize", q_BadSize), ("BadText", q_BadText)]) (R := fun cn C => ∀ b, isa cn "NearError" = some b → PySem.W.exmOne K (.ref C) (.ref q_NearError) = some b) (List.forall_mem_cons.mpr ⟨exm_mk x7_NearError xd_NearError x9_NearError y_BadRoad_NearError (by rfl), List.forall_mem_cons.mpr ⟨exm_mk x7_NearError xd_NearError x9_NearError y_BadSize_NearError (by rfl), List.forall_mem_cons.mpr ⟨exm_mk x7_NearError xd_NearError x9_NearError y_BadText_NearError (by rfl), fun _ z => nomatch z⟩⟩⟩) cn C h1 b h2,
    k_NearError := fun cn C b h1 h2 => tab_all (l := [("BadRoad", q_BadRoad), ("BadSize", q_BadSize), ("BadText", q_BadText)]) (R := fun cn C => ∀ b, isa cn "NearError" = some b → PySem.W.kitOne K (.ref C) (.ref q_NearError) = some b) (List.forall_mem_cons.mpr ⟨pin (z_BadRoad_NearError.trans (by rfl)), List.forall_mem_cons.mpr ⟨pin (z_BadSize_NearError.trans (by rfl)), List.forall_mem_cons.mpr ⟨pin (z_BadText_NearError.trans (by rfl)), fun _ z => nomatch z⟩⟩⟩) cn C h1 b h2,
    k_ValueError := fun cn C b h1 h2 => tab_all (l := [("BadRoad", q_BadRoad), ("BadSize", q_BadSize), ("BadText", q_BadText)]) (R := fun cn C => ∀ b, isa cn "ValueError" = some b → PySem.W.kitOne K (.ref C) (.type "ValueError") = some b) (List.forall_mem_cons.mpr ⟨pin (z_BadRoad_ValueError.trans (by rfl)), List.forall_mem_cons.mpr ⟨pin (z_BadSize_ValueError.trans (by rfl)), List.forall_mem_cons.mpr ⟨pin (z_BadText_ValueError.trans (by rfl)), fun _ z => nomatch z⟩⟩⟩) cn C h1 b h2,
    f_column := tab_all (l := [("BadRoad", q_BadRoad), ("BadSize", q_BadSize), ("BadText", q_BadText)]) (R := fun cn C => XfC K C ∧ PySem.W.findIn K (.ref C) "column" = some none) (List.forall_mem_cons.mpr ⟨⟨⟨g_BadRoad, h_BadRoad, x7_BadRoad, xd_BadRoad⟩, w_BadRoad_column⟩, List.forall_mem_cons.mpr ⟨⟨⟨g_BadSize, h_BadSize, x7_BadSize, xd_BadSize⟩, w_BadSize_column⟩, List.forall_mem_cons.mpr ⟨⟨⟨g_BadText, h_BadText, x7_BadText, xd_BadText⟩, w_BadText_column⟩, fun _ z => nomatch z⟩⟩⟩),
    f_line := tab_all (l := [("BadRoad", q_BadRoad), ("BadSize", q_BadSize), ("BadText", q_BadText)]) (R := fun cn C => XfC K C ∧ PySem.W.findIn K (.ref C) "line" = some none) (List.forall_mem_cons.mpr ⟨⟨⟨g_BadRoad, h_BadRoad, x7_BadRoad, xd_BadRoad⟩, w_BadRoad_line⟩, List.forall_mem_cons.mpr ⟨⟨⟨g_BadSize, h_BadSize, x7_BadSize, xd_BadSize⟩, w_BadSize_line⟩, List.forall_mem_cons.mpr ⟨⟨⟨g_BadText, h_BadText, x7_BadText, xd_BadText⟩, w_BadText_line⟩, fun _ z => nomatch z⟩⟩⟩),
    ec := tab_all (l := [("BadRoad", q_BadRoad), ("BadSize", q_BadSize), ("BadText", q_BadText)]) (R := fun cn C => ExcC K C) (List.forall_mem_cons.mpr ⟨⟨g_BadRoad, h_BadRoad, x7_BadRoad, xd_BadRoad, oa_BadRoad, on_, ot_, om_BadRoad⟩, List.forall_mem_cons.mpr ⟨⟨g_BadSize, h_BadSize, x7_BadSize, xd_BadSize, oa_BadSize, on_, ot_, om_BadSize⟩, List.forall_mem_cons.mpr ⟨⟨g_BadText, h_BadText, x7_BadText, xd_BadText, oa_BadText, on_, ot_, om_BadText⟩, fun _ z => nomatch z⟩⟩⟩) }
  have FL := funD_mk l_law c_law k_law
  refine ⟨_, fun s u => (FL.bindsA (ps := ["_law_script"]) (fun _ _ _ _ _ _ us hl => match us, hl with | [_], _ => rfl) s [u] rfl), fun base _ _ => ?_⟩
  have H_is_within := has_mk (base := base) (P := PySem.Challenge.rw_evernear_k12_the_first_wrong_word.prog) (w := w) (funD_mk l_is_within c_is_within k_is_within) (PySem.W.mg_of X G a_is_within) (ok_is_within (funD_mk l_is_within c_is_within k_is_within) T ) (fun _ _ _ _ _ _ us hl => match us, hl with | [_, _, _], _ => rfl)
  have H_is_road := has_mk (base := base) (P := PySem.Challenge.rw_evernear_k12_the_first_wrong_word.prog) (w := w) (funD_mk l_is_road c_is_road k_is_road) (PySem.W.mg_of X G a_is_road) (ok_is_road (funD_mk l_is_road c_is_road k_is_road) T H_is_within) (fun _ _ _ _ _ _ us hl => match us, hl with | [_, _], _ => rfl)
  have H_check_town := has_mk (base := base) (P := PySem.Challenge.rw_evernear_k12_the_first_wrong_word.prog) (w := w) (funD_mk l_check_town c_check_town k_check_town) (PySem.W.mg_of X G a_check_town) (ok_check_town (funD_mk l_check_town c_check_town k_check_town) T H_is_road H_is_within) (fun _ _ _ _ _ _ us hl => match us, hl with | [_], _ => rfl)
  have H_lines_of := has_mk (base := base) (P := PySem.Challenge.rw_evernear_k12_the_first_wrong_word.prog) (w := w) (funD_mk l_lines_of c_lines_of k_lines_of) (PySem.W.mg_of X G a_lines_of) (ok_lines_of (funD_mk l_lines_of c_lines_of k_lines_of) T ) (fun _ _ _ _ _ _ us hl => match us, hl with | [_], _ => rfl)
  have H_read_number := has_mk (base := base) (P := PySem.Challenge.rw_evernear_k12_the_first_wrong_word.prog) (w := w) (funD_mk l_read_number c_read_number k_read_number) (PySem.W.mg_of X G a_read_number) (ok_read_number (funD_mk l_read_number c_read_number k_read_number) T ) (fun _ _ _ _ _ _ us hl => match us, hl with | [_], _ => rfl)
  have H_read_line := has_mk (base := base) (P := PySem.Challenge.rw_evernear_k12_the_first_wrong_word.prog) (w := w) (funD_mk l_read_line c_read_line k_read_line) (PySem.W.mg_of X G a_read_line) (ok_read_line (funD_mk l_read_line c_read_line k_read_line) T H_read_number) (fun _ _ _ _ _ _ us hl => match us, hl with | [_, _, _, _], _ => rfl)
  have H_read_town := has_mk (base := base) (P := PySem.Challenge.rw_evernear_k12_the_first_wrong_word.prog) (w := w) (funD_mk l_read_town c_read_town k_read_town) (PySem.W.mg_of X G a_read_town) (ok_read_town (funD_mk l_read_town c_read_town k_read_town) T H_check_town H_lines_of H_read_line) (fun _ _ _ _ _ _ us hl => match us, hl with | [_], _ => rfl)
  have H__law_draws := has_mk (base := base) (P := PySem.Challenge.rw_evernear_k12_the_first_wrong_word.prog) (w := w) (funD_mk l__law_draws c__law_draws k__law_draws) (PySem.W.mg_of X G a__law_draws) (ok__law_draws (funD_mk l__law_draws c__law_draws k__law_draws) T ) (fun _ _ _ _ _ _ us hl => match us, hl with | [_, _], _ => rfl)
  have H__law_lines := has_mk (base := base) (P := PySem.Challenge.rw_evernear_k12_the_first_wrong_word.prog) (w := w) (funD_mk l__law_lines c__law_lines k__law_lines) (PySem.W.mg_of X G a__law_lines) (ok__law_lines (funD_mk l__law_lines c__law_lines k__law_lines) T ) (fun _ _ _ _ _ _ us hl => match us, hl with | [_], _ => rfl)
  have H__law_place := has_mkC (base := base) (P := PySem.Challenge.rw_evernear_k12_the_first_wrong_word.prog) (w := w) (funD_mk l__law_place c__law_place k__law_place) (PySem.W.mg_of X G a__law_place) (ok__law_place (funD_mk l__law_place c__law_place k__law_place) T  (fun s f G h1 h2 => tab_all (l := [("read_town", f_read_town)]) (R := fun s f => ∀ G : List Mir.D → Res Mir.D, tbl s = some G → ∃ fd, PySem.W.keepIn K (.ref f) = true ∧ Binds K fd ["text"] [] ∧ FnG PySem.Challenge.rw_evernear_k12_the_first_wrong_word.prog w K mg base 5 f fd ["text"] (spD K _ G)) (List.forall_mem_cons.mpr ⟨(fun G hG => by
      cases (show tbl "read_town" = some m_read_town from rfl).symm.trans hG
      exact val_mk (P := PySem.Challenge.rw_evernear_k12_the_first_wrong_word.prog) (w := w) (funD_mk l_read_town c_read_town k_read_town) (ok_read_town (funD_mk l_read_town c_read_town k_read_town) T H_check_town H_lines_of H_read_line) (by decide) (fun _ _ _ _ _ _ us hl => match us, hl with | [_], _ => rfl)), fun _ z => nomatch z⟩) s f h1 G h2)) (fun _ _ _ _ _ _ us hl => match us, hl with | [_, _], _ => rfl)
  have H__law_spoilt := has_mk (base := base) (P := PySem.Challenge.rw_evernear_k12_the_first_wrong_word.prog) (w := w) (funD_mk l__law_spoilt c__law_spoilt k__law_spoilt) (PySem.W.mg_of X G a__law_spoilt) (ok__law_spoilt (funD_mk l__law_spoilt c__law_spoilt k__law_spoilt) T ) (fun _ _ _ _ _ _ us hl => match us, hl with | [_, _], _ => rfl)
  have H__law_text := has_mk (base := base) (P := PySem.Challenge.rw_evernear_k12_the_first_wrong_word.prog) (w := w) (funD_mk l__law_text c__law_text k__law_text) (PySem.W.mg_of X G a__law_text) (ok__law_text (funD_mk l__law_text c__law_text k__law_text) T ) (fun _ _ _ _ _ _ us hl => match us, hl with | [_], _ => rfl)
  have H__law_town := has_mk (base := base) (P := PySem.Challenge.rw_evernear_k12_the_first_wrong_word.prog) (w := w) (funD_mk l__law_town c__law_town k__law_town) (PySem.W.mg_of X G a__law_town) (ok__law_town (funD_mk l__law_town c__law_town k__law_town) T ) (fun _ _ _ _ _ _ us hl => match us, hl with | [_, _], _ => rfl)
  exact (ok_law FL T H__law_draws H__law_lines H__law_place H__law_spoilt H__law_text H__law_town).imp spTrue_of
end K12
open PySem PySem.W PyProof.Rows -- here
set_option maxHeartbeats 0 in
theorem PySem.Challenge.cw_evernear_k12_the_first_wrong_word_holds : PySem.Challenge.rw_evernear_k12_the_first_wrong_word.Holds := by
  w_on; o_law; k_head; (case hw => w_witness2) -- here
  k_fill
  refine Mir.end_of (l := PySem.Challenge.rw_evernear_k12_the_first_wrong_word) (n := 63) (k := 7) (x := "_law_script") (G := K12.m_law) rfl (by decide) rfl ⟨rfl, by decide, by decide⟩ (fun w h Y => PySem.W.kIn_of Y) ?F (fun ns hl => K12.law_true ns hl)
  case F =>
    intro w mg fa h KX G hmg
    refine' K12.all_mk KX G hmg ?Fa_is_within ?Fl_is_within ?Fc_is_within ?Fk_is_within ?Fa_is_road ?Fl_is_road ?Fc_is_road ?Fk_is_road ?Fa_check_town ?Fl_check_town ?Fc_check_town ?Fk_check_town ?Fa_lines_of ?Fl_lines_of ?Fc_lines_of ?Fk_lines_of ?Fa_read_number ?Fl_read_number ?Fc_read_number ?Fk_read_number ?Fa_read_line ?Fl_read_line ?Fc_read_line ?Fk_read_line ?Fa_read_town ?Fl_read_town ?Fc_read_town ?Fk_read_town ?Fa__law_draws ?Fl__law_draws ?Fc__law_draws ?Fk__law_draws ?Fa__law_lines ?Fl__law_lines ?Fc__law_lines ?Fk__law_lines ?Fa__law_place ?Fl__law_place ?Fc__law_place ?Fk__law_place ?Fa__law_spoilt ?Fl__law_spoilt ?Fc__law_spoilt ?Fk__law_spoilt ?Fa__law_text ?Fl__law_text ?Fc__law_text ?Fk__law_text ?Fa__law_town ?Fl__law_town ?Fc__law_town ?Fk__law_town ?Fa_law ?Fl_law ?Fc_law ?Fk_law ?Fb_ValueError ?Fb_all ?Fb_bool ?Fb_enumerate ?Fb_int ?Fb_isinstance ?Fb_len ?Fb_list ?Fb_range ?Fb_str ?Fb_tuple ?Fb_super ?Fopq ?Fx0_BadRoad ?Fx7_BadRoad ?Fx9_BadRoad ?Fxd_BadRoad ?Fx0_BadSize ?Fx7_BadSize ?Fx9_BadSize ?Fxd_BadSize ?Fx0_BadText ?Fx7_BadText ?Fx9_BadText ?Fxd_BadText ?Fx0_NearError ?Fx7_NearError ?Fx9_NearError ?Fxd_NearError ?Fx2_BadRoad ?Fx3_BadRoad ?Fx4_BadRoad ?Fx5_BadRoad_at ?Fx6_BadRoad ?Fx8_BadRoad ?Fx11_BadRoad ?Fx12_BadRoad ?Fx13_BadRoad ?Fx14_BadRoad ?Fx15_BadRoad ?Fx16_BadRoad ?Fx17_BadRoad ?Fx18_BadRoad ?Fx19_BadRoad ?Fx21_BadRoad ?Fx2_BadSize ?Fx3_BadSize ?Fx4_BadSize ?Fx6_BadSize ?Fx8_BadSize ?Fx11_BadSize ?Fx12_BadSize ?Fx13_BadSize ?Fx14_BadSize ?Fx15_BadSize ?Fx16_BadSize ?Fx17_BadSize ?Fx18_BadSize ?Fx19_BadSize ?Fx21_BadSize ?Fx2_BadText ?Fx3_BadText ?Fx4_BadText ?Fx5_BadText_line ?Fx5_BadText_column ?Fx6_BadText ?Fx8_BadText ?Fx11_BadText ?Fx12_BadText ?Fx13_BadText ?Fx14_BadText ?Fx15_BadText ?Fx16_BadText ?Fx17_BadText ?Fx18_BadText ?Fx19_BadText ?Fx21_BadText ?Fy_BadRoad_BadText ?Fy_BadSize_BadText ?Fy_BadText_BadText ?Fy_BadRoad_NearError ?Fy_BadSize_NearError ?Fy_BadText_NearError ?Fz_BadRoad_NearError ?Fz_BadSize_NearError ?Fz_BadText_NearError ?Fz_BadRoad_ValueError ?Fz_BadSize_ValueError ?Fz_BadText_ValueError ?Fg_BadRoad ?Fh_BadRoad ?Fw_BadRoad_column ?Fw_BadRoad_line ?Fg_BadSize ?Fh_BadSize ?Fw_BadSize_column ?Fw_BadSize_line ?Fg_BadText ?Fh_BadText ?Fw_BadText_column ?Fw_BadText_line ?Fon_ ?Fot_ ?Foa_BadRoad ?Fom_BadRoad ?Foa_BadSize ?Fom_BadSize ?Foa_BadText ?Fom_BadText ?Ft_COUNTS ?Ftl_COUNTS ?Ftk_COUNTS ?Ftv_COUNTS_0 ?Ftv_COUNTS_1 ?Ft_DIGITS ?Ft_LONGEST ?Ft_MOST
    (case Fa_is_within => k_is)
    (case Fl_is_within => k_is)
    (case Fc_is_within => k_is)
    (case Fk_is_within => k_is)
    (case Fa_is_road => k_is)
    (case Fl_is_road => k_is)
    (case Fc_is_road => k_is)
    (case Fk_is_road => k_is)
    (case Fa_check_town => k_is)
    (case Fl_check_town => k_is)
    (case Fc_check_town => k_is)
    (case Fk_check_town => k_is)
    (case Fa_lines_of => k_is)
    (case Fl_lines_of => k_is)
    (case Fc_lines_of => k_is)
    (case Fk_lines_of => k_is)
    (case Fa_read_number => k_is)
    (case Fl_read_number => k_is)
    (case Fc_read_number => k_is)
    (case Fk_read_number => k_is)
    (case Fa_read_line => k_is)
    (case Fl_read_line => k_is)
    (case Fc_read_line => k_is)
    (case Fk_read_line => k_is)
    (case Fa_read_town => k_is)
    (case Fl_read_town => k_is)
    (case Fc_read_town => k_is)
    (case Fk_read_town => k_is)
    (case Fa__law_draws => k_is)
    (case Fl__law_draws => k_is)
    (case Fc__law_draws => k_is)
    (case Fk__law_draws => k_is)
    (case Fa__law_lines => k_is)
    (case Fl__law_lines => k_is)
    (case Fc__law_lines => k_is)
    (case Fk__law_lines => k_is)
    (case Fa__law_place => k_is)
    (case Fl__law_place => k_is)
    (case Fc__law_place => k_is)
    (case Fk__law_place => k_is)
    (case Fa__law_spoilt => k_is)
    (case Fl__law_spoilt => k_is)
    (case Fc__law_spoilt => k_is)
    (case Fk__law_spoilt => k_is)
    (case Fa__law_text => k_is)
    (case Fl__law_text => k_is)
    (case Fc__law_text => k_is)
    (case Fk__law_text => k_is)
    (case Fa__law_town => k_is)
    (case Fl__law_town => k_is)
    (case Fc__law_town => k_is)
    (case Fk__law_town => k_is)
    (case Fa_law => k_is)
    (case Fl_law => k_is)
    (case Fc_law => k_is)
    (case Fk_law => k_is)
    (case Fb_ValueError => k_is)
    (case Fb_all => k_is)
    (case Fb_bool => k_is)
    (case Fb_enumerate => k_is)
    (case Fb_int => k_is)
    (case Fb_isinstance => k_is)
    (case Fb_len => k_is)
    (case Fb_list => k_is)
    (case Fb_range => k_is)
    (case Fb_str => k_is)
    (case Fb_tuple => k_is)
    (case Fb_super => k_is)
    (case Fopq => k_is)
    (case Fx0_BadRoad => k_is)
    (case Fx7_BadRoad => k_is)
    (case Fx9_BadRoad => k_is)
    (case Fxd_BadRoad => k_is)
    (case Fx0_BadSize => k_is)
    (case Fx7_BadSize => k_is)
    (case Fx9_BadSize => k_is)
    (case Fxd_BadSize => k_is)
    (case Fx0_BadText => k_is)
    (case Fx7_BadText => k_is)
    (case Fx9_BadText => k_is)
    (case Fxd_BadText => k_is)
    (case Fx0_NearError => k_is)
    (case Fx7_NearError => k_is)
    (case Fx9_NearError => k_is)
    (case Fxd_NearError => k_is)
    (case Fx2_BadRoad => k_is)
    (case Fx3_BadRoad => decide +kernel)
    (case Fx4_BadRoad => k_is)
    (case Fx5_BadRoad_at => k_is)
    (case Fx6_BadRoad => k_is)
    (case Fx8_BadRoad => k_is)
    (case Fx11_BadRoad => ks_is)
    (case Fx12_BadRoad => k_is)
    (case Fx13_BadRoad => k_is)
    (case Fx14_BadRoad => k_is)
    (case Fx15_BadRoad => k_is)
    (case Fx16_BadRoad => k_is)
    (case Fx17_BadRoad => rfl)
    (case Fx18_BadRoad => first | rfl | decide +kernel)
    (case Fx19_BadRoad => k_is)
    (case Fx21_BadRoad => first | k_is | rfl)
    (case Fx2_BadSize => k_is)
    (case Fx3_BadSize => decide +kernel)
    (case Fx4_BadSize => k_is)
    (case Fx6_BadSize => k_is)
    (case Fx8_BadSize => k_is)
    (case Fx11_BadSize => ks_is)
    (case Fx12_BadSize => k_is)
    (case Fx13_BadSize => k_is)
    (case Fx14_BadSize => k_is)
    (case Fx15_BadSize => k_is)
    (case Fx16_BadSize => k_is)
    (case Fx17_BadSize => rfl)
    (case Fx18_BadSize => first | rfl | decide +kernel)
    (case Fx19_BadSize => k_is)
    (case Fx21_BadSize => first | k_is | rfl)
    (case Fx2_BadText => k_is)
    (case Fx3_BadText => decide +kernel)
    (case Fx4_BadText => k_is)
    (case Fx5_BadText_line => k_is)
    (case Fx5_BadText_column => k_is)
    (case Fx6_BadText => k_is)
    (case Fx8_BadText => k_is)
    (case Fx11_BadText => ks_is)
    (case Fx12_BadText => k_is)
    (case Fx13_BadText => k_is)
    (case Fx14_BadText => k_is)
    (case Fx15_BadText => k_is)
    (case Fx16_BadText => k_is)
    (case Fx17_BadText => rfl)
    (case Fx18_BadText => first | rfl | decide +kernel)
    (case Fx19_BadText => k_is)
    (case Fx21_BadText => first | k_is | rfl)
    (case Fy_BadRoad_BadText => first | k_is | rfl)
    (case Fy_BadSize_BadText => first | k_is | rfl)
    (case Fy_BadText_BadText => first | k_is | rfl)
    (case Fy_BadRoad_NearError => first | k_is | rfl)
    (case Fy_BadSize_NearError => first | k_is | rfl)
    (case Fy_BadText_NearError => first | k_is | rfl)
    (case Fz_BadRoad_NearError => first | k_is | rfl | kernel_rfl)
    (case Fz_BadSize_NearError => first | k_is | rfl | kernel_rfl)
    (case Fz_BadText_NearError => first | k_is | rfl | kernel_rfl)
    (case Fz_BadRoad_ValueError => first | k_is | rfl | kernel_rfl)
    (case Fz_BadSize_ValueError => first | k_is | rfl | kernel_rfl)
    (case Fz_BadText_ValueError => first | k_is | rfl | kernel_rfl)
    (case Fg_BadRoad => k_is)
    (case Fh_BadRoad => k_is)
    (case Fw_BadRoad_column => k_is)
    (case Fw_BadRoad_line => k_is)
    (case Fg_BadSize => k_is)
    (case Fh_BadSize => k_is)
    (case Fw_BadSize_column => k_is)
    (case Fw_BadSize_line => k_is)
    (case Fg_BadText => k_is)
    (case Fh_BadText => k_is)
    (case Fw_BadText_column => k_is)
    (case Fw_BadText_line => k_is)
    (case Fon_ => k_is)
    (case Fot_ => first | k_is | rfl)
    (case Foa_BadRoad => k_is)
    (case Fom_BadRoad => first | k_is | rfl)
    (case Foa_BadSize => k_is)
    (case Fom_BadSize => first | k_is | rfl)
    (case Foa_BadText => k_is)
    (case Fom_BadText => first | k_is | rfl)
    (case Ft_COUNTS => k_is)
    (case Ftl_COUNTS => k_is)
    (case Ftk_COUNTS => exact ⟨⟨_, _, rfl, rfl⟩, ⟨⟨_, _, rfl, rfl⟩, trivial⟩⟩)
    (case Ftv_COUNTS_0 => k_is)
    (case Ftv_COUNTS_1 => k_is)
    (case Ft_DIGITS => k_is)
    (case Ft_LONGEST => k_is)
    (case Ft_MOST => k_is)

