import PyProof.Rows.All
import HandS.ForMost
import HandS.Codes
import PyProof.ReprReads
import PyProof.StrCalls6
import PyProof.TableCode
import PySem.Challenge.RW_selfdrawn_k82_texts_of_programs
import HandS.ForExc
import HandS.TupAny
import HandS.Wide
import HandS.Small
import HandS.Deep
import HandS.TupLe
import HandS.Defaults
import HandS.Flow
import HandS.IsInst
import PyProof.Rows.RuleB_pow
import HandS.WordsDict
import HandS.RaiseMore
import HandS.Strs
import HandS.Replace
import HandS.ReplaceList
import PyProof.ReprRoads
import HandS.Conv
import HandS.Exc
import HandS.Star
import HandS.Iter
import HandS.Zip
import HandS.Property
import HandS.MakeKwOnly
import HandS.NamedTup0
import HandS.ExcIs
import HandS.Style
import HandS.TryOnly
import HandS.ExcInit
import HandS.Nested
import HandS.ClsMeth
import KE.KExcSuper
import KE.KSuper
import HandS.ExcValue
import HandS.SetFor
import HandS.SetTxt0
import PyProof.Rows.DictTallyStr
import PyProof.ReprLen
import HandS.HeadHook2
import HandS.Head0
import HandS.Head1
import HandS.Head2
import HandS.HeadEnd
import HandS.EndBits
set_option Elab.async false
set_option linter.all false
set_option maxRecDepth 100000
section T_Ev
set_option linter.all false
set_option maxRecDepth 100000
/-! Ev: an evaluator of a part of the language, over trees of the text as they stand, a heap of its own. -/
namespace Ev
open PySem L2
/-- values: tuples as they are, lists, dicts, instances by a place in the heap -/
inductive MV where
  | non | bl (b : Bool) | int (i : Int) | str (x : Str)
  | tup (xs : List MV)
  | ref (n : Nat)
  | exc (c : Str) (x : MV)
  | cls (c : Str) | fn (f : Str) | ty (n : String)
  /-- a list of ints that nobody writes (the script) -/
  | frz (ns : List Int)
  deriving Inhabited, Repr
/-- what stands at a place -/
inductive MO where
  | lst (xs : List MV)
  | dic (kvs : List (Key × MV))
  | ins (c : Str) (fs : List (Str × MV))
  deriving Inhabited, Repr
abbrev MH := List MO
/-- the end of an expression, an argument list, a test, a walk -/
inductive Res (α : Type) where
  | ok (v : α) (h : MH)
  | exc (x : MV) (h : MH)
  deriving Inhabited, Repr
abbrev Out := Res MV
abbrev OutL := Res (List MV)
abbrev OutB := Res Bool
/-- then -/
def bnd {α β : Type} (o : Option (Res α)) (f : α → MH → Option (Res β)) : Option (Res β) := match o with
  | some (.ok a h) => f a h
  | some (.exc x h) => some (.exc x h)
  | none => none
/-- then; no exception is borne -/
def bnN {α β : Type} (o : Option (Res α)) (f : α → MH → Option (Res β)) : Option (Res β) := match o with
  | some (.ok a h) => f a h
  | _ => none
/-- a plain end, from a value and a heap -/
def fin {α : Type} : Option (α × MH) → Option (Res α)
  | some (v, h) => some (.ok v h)
  | none => none
/-- a plain end in the heap as it is -/
def at_ {α : Type} (h : MH) : Option α → Option (Res α)
  | some v => some (.ok v h)
  | none => none
abbrev MEnv := List (Option MV)
inductive OutS where
  | nx (e : MEnv) (h : MH)
  | rt (v : MV) (h : MH)
  | bk (e : MEnv) (h : MH)
  | ct (e : MEnv) (h : MH)
  | exc (x : MV) (e : MEnv) (h : MH)
  deriving Inhabited, Repr
/-! ### the program's defs and classes -/
structure FnD where
  /-- a name of the module -/
  top : Bool
  ps : List Str
  N : List Str
  body : List Stmt
  scope : Scope
  deriving Inhabited
structure ClsD where
  isExc : Bool
  /-- its own name first, then what it derives from -/
  mro : List Str
  meths : List (Str × Str)
  props : List (Str × Str)
  /-- its instances' attributes -/
  flds : List Str
  deriving Inhabited
structure Glob where
  fns : List (Str × FnD)
  clss : List (Str × ClsD)
  consts : List (Str × MV)
  /-- calls with keywords: a class, how many values, the keywords -/
  kws : List (Str × Nat × List Str)
  deriving Inhabited
def fnE (n : String) (top : Bool) (ps N : List String) (st : Stmt) : Str × FnD := (Str.ofString n, ⟨top, ps.map Str.ofString, N.map Str.ofString, defBody st, defScope st⟩)
/-- where a def's function object stands: a name of the module; a class's method; a property's getter -/
inductive Ad where
  | glo (x : Str) | me (c m : Str) | pr (c p : Str)
/-- a def of the text -/
structure DfE where
  key : Str
  ad : Ad
  name : Str
  qual : Str
  top : Bool
  ps : List Str
  N : List Str
  st : Stmt
def DfE.fn (d : DfE) : Str × FnD := (d.key, ⟨d.top, d.ps, d.N, defBody d.st, defScope d.st⟩)
def dfE (key : Str) (ad : Ad) (name qual : Str) (top : Bool) (ps N : List String) (st : Stmt) : DfE := ⟨key, ad, name, qual, top, ps.map Str.ofString, N.map Str.ofString, st⟩
def clE (n : String) (x : Bool) (mro : List String) (ms ps : List (String × String)) (fl : List String) : Str × ClsD :=
  (Str.ofString n, ⟨x, mro.map Str.ofString, ms.map fun p => (Str.ofString p.1, Str.ofString p.2), ps.map fun p => (Str.ofString p.1, Str.ofString p.2), fl.map Str.ofString⟩)
def coE (n : String) (v : MV) : Str × MV := (Str.ofString n, v)
/-! ### names -/
def idx (x : Str) : List Str → Option Nat
  | [] => none
  | y :: r => if x = y then some 0 else (idx x r).map (· + 1)
def lk {α : Type} (x : Str) : List (Str × α) → Option α
  | [] => none
  | (y, a) :: r => if x = y then some a else lk x r
inductive NK where
  | loc (i : Nat) | glo | no
def nmAt (sc : Scope) (N : List Str) (x : Str) : NK := match lk x sc.names with
  | some .local => (match idx x N with | some i => .loc i | none => .no)
  | some .cell => (match idx x N with | some i => .loc i | none => .no)
  | some .free => (match idx x N with | some i => .loc i | none => .no)
  | some .globalImplicit => .glo
  | _ => .no
def envGet (e : MEnv) (i : Nat) : Option MV := match e[i]? with
  | some o => o
  | none => none
/-! ### data as a whole -/
mutual
def toD (h : MH) : Nat → MV → Option PyData
  | 0, _ => none
  | _ + 1, .non => some .none
  | _ + 1, .bl b => some (.bool b)
  | _ + 1, .int i => some (.int i)
  | _ + 1, .str x => some (.str x)
  | n + 1, .tup xs => (toDs h n xs).map .tuple
  | n + 1, .ref k => (match h[k]? with
    | some (.lst xs) => (toDs h n xs).map .list
    | _ => none)
  | _ + 1, _ => none
def toDs (h : MH) : Nat → List MV → Option (List PyData)
  | 0, _ => none
  | _ + 1, [] => some []
  | n + 1, x :: xs => (match toD h n x with
    | some d => (match toDs h n xs with
      | some ds => some (d :: ds)
      | none => none)
    | none => none)
end
/-- how deep data are read: lists count by their length too -/
def DF : Nat := 100000
def lst? (h : MH) : MV → Option (List MV)
  | .ref k => (match h[k]? with
    | some (.lst xs) => some xs
    | _ => none)
  | _ => none
def dic? (h : MH) : MV → Option (Nat × List (Key × MV))
  | .ref k => (match h[k]? with
    | some (.dic kvs) => some (k, kvs)
    | _ => none)
  | _ => none
def ins? (h : MH) : MV → Option (Nat × Str × List (Str × MV))
  | .ref k => (match h[k]? with
    | some (.ins c fs) => some (k, c, fs)
    | _ => none)
  | _ => none
/-- a list's, a tuple's items -/
def seq? (h : MH) : MV → Option (List MV)
  | .tup xs => some xs
  | .ref k => (match h[k]? with
    | some (.lst xs) => some xs
    | _ => none)
  | _ => none
def key? : MV → Option Key
  | .int i => some (.inl i)
  | .str x => some (.inr x)
  | _ => none
def kMV : Key → MV
  | .inl i => .int i
  | .inr x => .str x
def lookK (k : Key) : List (Key × MV) → Option MV
  | [] => none
  | (j, v) :: r => if j = k then some v else lookK k r
def putK (k : Key) (v : MV) (kvs : List (Key × MV)) : List (Key × MV) :=
  if (kvs.any fun p => decide (p.1 = k)) = true then kvs.map fun p => if p.1 = k then (p.1, v) else p else kvs ++ [(k, v)]
def new (h : MH) (o : MO) : MV × MH := (.ref h.length, h ++ [o])
/-! ### operators on values -/
def isStr? : MV → Option Str
  | .str x => some x
  | _ => none
def binop (op : Operator) (x y : MV) (h : MH) : Option (MV × MH) := match op, x, y with
  | .Add, .int i, .int j => some (.int (i + j), h)
  | .Sub, .int i, .int j => some (.int (i - j), h)
  | .Mult, .int i, .int j => if i.natAbs.log2 + j.natAbs.log2 < 1000000 then some (.int (i * j), h) else none
  | .FloorDiv, .int i, .int j => if j ≠ 0 ∧ j.natAbs < 1073741824 then some (.int (i.fdiv j), h) else none
  | .Mod, .int i, .int j => if j ≠ 0 then some (.int (i.fmod j), h) else none
  | .Pow, .int i, .int j => if 0 ≤ j ∧ (Builtin.Int.intBits i : Int) * j ≤ 2 ^ 27 then some (.int (i ^ j.toNat), h) else none
  | .Add, .str a, .str b => if a.length + b.length ≤ sizeLine then some (.str (a ++ b), h) else none
  | .Add, .tup a, .tup b => if a.length + b.length ≤ sizeLine then some (.tup (a ++ b), h) else none
  | .Add, .ref a, .ref b => (match lst? h (.ref a), lst? h (.ref b) with
    | some xs, some ys => if xs.length + ys.length ≤ sizeLine then some (new h (.lst (xs ++ ys))) else none
    | _, _ => none)
  | .Mult, .ref a, .int k => (match lst? h (.ref a) with
    | some xs => if -(2 ^ 63) ≤ k ∧ k < 2 ^ 63 ∧ xs.length * k.toNat ≤ sizeLine then some (new h (.lst (List.replicate k.toNat xs).flatten)) else none
    | none => none)
  | _, _, _ => none
def unop (op : UnaryOp) (x : MV) : Option MV := match op, x with
  | .USub, .int i => some (.int (-i))
  | _, _ => none
/-- truth -/
def truth (h : MH) : MV → Option Bool
  | .non => some false
  | .bl b => some b
  | .int i => some (i != 0)
  | .str x => if x.length ≤ sizeLine then some (x.length != 0) else none
  | .tup xs => some (!xs.isEmpty)
  | .ref k => (match h[k]? with
    | some (.lst xs) => some (!xs.isEmpty)
    | some (.dic kvs) => some (!kvs.isEmpty)
    | _ => none)
  | _ => none
/-- flat values (no part of their own) -/
def flat : MV → Bool
  | .non | .bl _ | .int _ | .str _ => true
  | _ => false
/-- == by data -/
def eqD (h : MH) (x y : MV) : Option Bool := match toD h DF x, toD h DF y with
  | some d, some e => if SeqAt.shaped d && SeqAt.shaped e then some (PyData.eqv d e) else none
  | _, _ => none
def inD (h : MH) (x y : MV) : Option Bool := match y with
  | .str b => (match x with
    | .str a => if a.length = 1 then some (decide (a.cps.getD 0 0 ∈ b.cps.toList)) else some (!(Builtin.Str.occurrences b a 0 b.length 1).isEmpty)
    | _ => none)
  | .ref k => (match h[k]? with
    | some (.dic kvs) => (match key? x with
      | some j => some (lookK j kvs).isSome
      | none => none)
    | some (.lst xs) => (match toD h DF x, toDs h DF xs with
      | some d, some ds => if SeqAt.shaped d && SeqAt.shaped (.list ds) then some (ds.any fun z => PyData.eqv z d) else none
      | _, _ => none)
    | _ => none)
  | .tup xs => (match toD h DF x, toDs h DF xs with
    | some d, some ds => if SeqAt.shaped d && SeqAt.shaped (.tuple ds) then some (ds.any fun z => PyData.eqv z d) else none
    | _, _ => none)
  | _ => none
def cmp (op : CmpOp) (x y : MV) (h : MH) : Option Bool := match op with
  | .Eq => eqD h x y
  | .NotEq => (eqD h x y).map (!·)
  | .Lt => (match x, y with
    | .int i, .int j => some (decide (i < j))
    | .str a, .str b => some (decide (a.cps.toList < b.cps.toList))
    | _, _ => none)
  | .LtE => (match x, y with
    | .int i, .int j => some (decide (i ≤ j))
    | .str a, .str b => some (!decide (b.cps.toList < a.cps.toList))
    | _, _ => none)
  | .Gt => (match x, y with
    | .int i, .int j => some (decide (j < i))
    | .str a, .str b => some (decide (b.cps.toList < a.cps.toList))
    | _, _ => none)
  | .GtE => (match x, y with
    | .int i, .int j => some (decide (j ≤ i))
    | .str a, .str b => some (!decide (a.cps.toList < b.cps.toList))
    | _, _ => none)
  | .Is => (match x, y with
    | x, .non => some (match x with | .non => true | _ => false)
    | .bl a, .bl b => some (decide (a = b))
    | _, _ => none)
  | .IsNot => (match x, y with
    | x, .non => some (match x with | .non => false | _ => true)
    | .bl a, .bl b => some (!decide (a = b))
    | _, _ => none)
  | .In => inD h x y
  | .NotIn => (inD h x y).map (!·)
/-! ### built-ins -/
def intV : MV → Option Int
  | .int i => some i
  | _ => none
def strV : MV → Option Str
  | .str x => some x
  | _ => none
def blV : MV → Option Bool
  | .bl b => some b
  | _ => none
def allM {α : Type} (f : MV → Option α) : List MV → Option (List α)
  | [] => some []
  | x :: r => (match f x with
    | some a => (match allM f r with
      | some as => some (a :: as)
      | none => none)
    | none => none)
/-- sorted texts, each once -/
def insS (x : Str) : List Str → List Str
  | [] => [x]
  | y :: r => if x = y then y :: r else if x.cps.toList < y.cps.toList then x :: y :: r else y :: insS x r
def sortSet (xs : List Str) : List Str := xs.foldl (fun acc x => insS x acc) []
/-- sorted texts -/
def insA (x : Str) : List Str → List Str
  | [] => [x]
  | y :: r => if x.cps.toList < y.cps.toList then x :: y :: r else y :: insA x r
def sortAll (xs : List Str) : List Str := xs.foldl (fun acc x => insA x acc) []
abbrev BF := List MV → MH → Option (MV × MH)
def bLen : BF := fun args h => match args with
  | [.str x] => if x.length ≤ sizeLine then some (.int x.length, h) else none
  | [.tup xs] => some (.int xs.length, h)
  | [.frz ns] => some (.int ns.length, h)
  | [.ref k] => (match h[k]? with
    | some (.lst xs) => some (.int xs.length, h)
    | some (.dic kvs) => some (.int kvs.length, h)
    | _ => none)
  | _ => none
def bAll : BF := fun args h => match args with
  | [x] => (match lst? h x with
    | some xs => (allM blV xs).map fun bs => (.bl (bs.all id), h)
    | none => none)
  | _ => none
def bAny : BF := fun args h => match args with
  | [x] => (match lst? h x with
    | some xs => (allM blV xs).map fun bs => (.bl (bs.any id), h)
    | none => none)
  | _ => none
def bTuple : BF := fun args h => match args with
  | [x] => (seq? h x).map fun xs => (.tup xs, h)
  | _ => none
def bList : BF := fun args h => match args with
  | [x] => (seq? h x).map fun xs => new h (.lst xs)
  | _ => none
def bInt : BF := fun args h => match args with
  | [.int i] => some (.int i, h)
  | [.bl b] => some (.int (if b then 1 else 0), h)
  | [.str x] => if x.length ≤ 640 then (PySem.intText? x).map fun n => (.int n, h) else none
  | _ => none
def bStr : BF := fun args h => match args with
  | [.int i] => if i.natAbs.log2 < 1920 then some (.str (toString i), h) else none
  | _ => none
def bAbs : BF := fun args h => match args with
  | [.int i] => some (.int (if i < 0 then -i else i), h)
  | _ => none
def bSum : BF := fun args h => match args with
  | [x] => (match lst? h x with
    | some xs => (allM intV xs).map fun ns => (.int ns.sum, h)
    | none => none)
  | _ => none
def bMin : BF := fun args h => match args with
  | [.int i, .int j] => some (.int (if j < i then j else i), h)
  | _ => none
def bMax : BF := fun args h => match args with
  | [.int i, .int j] => some (.int (if j > i then j else i), h)
  | _ => none
def bSorted : BF := fun args h => match args with
  | [x] => (match lst? h x with
    | some xs => if xs.length < 64 then (allM strV xs).map fun ns => new h (.lst ((sortAll ns).map .str)) else none
    | none => none)
  | _ => none
def bRepr : BF := fun args h => match args with
  | [x] => (match toD h DF x with
    | some d => if d.showable && decide (d.depth ≤ 64) && decide (d.shown.length ≤ sizeLine) then some (.str d.shown, h) else none
    | none => none)
  | _ => none
/-- the names of the built-ins that are read -/
def bNames : List Str := ["len", "all", "any", "tuple", "list", "int", "str", "abs", "sum", "min", "max", "sorted", "repr", "isinstance", "range", "enumerate", "zip", "set", "bool", "dict"]
/-- those that are called plainly -/
def bPlain : List Str := ["len", "all", "any", "tuple", "list", "int", "str", "abs", "sum", "min", "max", "sorted", "repr"]
def bcall (f : Str) : BF :=
  if f = "len" then bLen else if f = "all" then bAll else if f = "any" then bAny else if f = "tuple" then bTuple else if f = "list" then bList
  else if f = "int" then bInt else if f = "str" then bStr else if f = "abs" then bAbs else if f = "sum" then bSum else if f = "min" then bMin
  else if f = "max" then bMax else if f = "sorted" then bSorted else if f = "repr" then bRepr else fun _ _ => none
/-- sorted(set(x)), x a list or tuple of texts -/
def sortedSet (x : MV) (h : MH) : Option (MV × MH) := match seq? h x with
  | some xs => (match allM strV xs with
    | some ns => if ns.length < 64 then some (new h (.lst ((sortSet ns).map .str))) else none
    | none => none)
  | none => none
/-- the built-in types that isinstance is asked of -/
def bTys : List Str := ["int", "bool", "str", "tuple", "list", "dict"]
/-- what a value is an instance of: its class's line -/
def typesOf (G : Glob) (h : MH) : MV → Option (List Str)
  | .non => some ["NoneType"]
  | .bl _ => some ["bool", "int"]
  | .int _ => some ["int"]
  | .str _ => some ["str"]
  | .tup _ => some ["tuple"]
  | .ref k => (match h[k]? with
    | some (.lst _) => some ["list"]
    | some (.dic _) => some ["dict"]
    | some (.ins c _) => (match lk c G.clss with
      | some d => if d.isExc = true then none else some d.mro
      | none => none)
    | none => none)
  | .exc c _ => (match lk c G.clss with
    | some d => if d.isExc = true then some d.mro else none
    | none => none)
  | _ => none
/-- a class, a built-in type -/
def isCN (G : Glob) (c : Str) : Bool := (lk c G.clss).isSome || bTys.contains c
/-- isinstance(x, c) -/
def isI (G : Glob) (h : MH) (x : MV) (c : Str) : Option Bool :=
  if isCN G c = true then (typesOf G h x).map (·.contains c) else none
/-! ### methods of built-in types -/
def sIxM (n d : Nat) : Option Int → Nat := HT.sIx n d
def cutM {α : Type} (xs : List α) (lo hi : Option Int) : List α := (xs.drop (HT.sIx xs.length 0 lo)).take (HT.sIx xs.length xs.length hi - HT.sIx xs.length 0 lo)
abbrev MF := MV → List MV → MH → Option (MV × MH)
def mSplit : MF := fun x args h => match x, args with
  | .str a, [.str b] => if (b.length == 0) = false ∧ a.length + 2 ≤ sizeLine then some (new h (.lst ((Txt.split a b).map .str))) else none
  | _, _ => none
def mJoin : MF := fun x args h => match x, args with
  | .str a, [y] => (match seq? h y with
    | some ys => (match allM strV ys with
      | some ts => if (ts.map (·.length)).sum + ts.length * a.length ≤ 16777216 then some (.str (Txt.join a ts), h) else none
      | none => none)
    | none => none)
  | _, _ => none
def mStarts : MF := fun x args h => match x, args with
  | .str a, [.str b] => some (.bl (Txt.startswith a b), h)
  | _, _ => none
def mUpper : MF := fun x args h => match x, args with
  | .str a, [] => if a.length ≤ 5592405 then some (.str (Txt.upper a), h) else none
  | _, _ => none
def mAppend : MF := fun x args h => match x, args with
  | .ref k, [v] => (match lst? h (.ref k) with
    | some xs => if xs.length < sizeLine then some (.non, h.set k (.lst (xs ++ [v]))) else none
    | none => none)
  | _, _ => none
def mExtend : MF := fun x args h => match x, args with
  | .ref k, [y] => (match lst? h (.ref k), lst? h y with
    | some xs, some ys => if xs.length + ys.length ≤ sizeLine then some (.non, h.set k (.lst (xs ++ ys))) else none
    | _, _ => none)
  | _, _ => none
def mPop : MF := fun x args h => match x, args with
  | .ref k, [.int i] => (match lst? h (.ref k) with
    | some xs => (match ixN xs.length i with
      | some j => (xs[j]?).map fun v => (v, h.set k (.lst (xs.eraseIdx j)))
      | none => none)
    | none => none)
  | _, _ => none
def mGet : MF := fun x args h => match dic? h x, args with
  | some (_, kvs), [j, d] => (key? j).map fun q => ((lookK q kvs).getD d, h)
  | _, _ => none
def mcall (m : Str) : MF :=
  if m = "split" then mSplit else if m = "join" then mJoin else if m = "startswith" then mStarts else if m = "upper" then mUpper
  else if m = "append" then mAppend else if m = "extend" then mExtend else if m = "pop" then mPop else if m = "get" then mGet else fun _ _ _ => none
/-- the type that has the method -/
def mty (m : Str) (h : MH) (x : MV) : Bool := match x with
  | .str _ => decide (m = "split" ∨ m = "join" ∨ m = "startswith" ∨ m = "upper")
  | .ref k => (match h[k]? with
    | some (.lst _) => decide (m = "append" ∨ m = "extend" ∨ m = "pop")
    | some (.dic _) => decide (m = "get")
    | _ => false)
  | _ => false
/-- xs[i] -/
def item (x i : MV) (h : MH) : Option MV := match x, i with
  | .str a, .int j => if a.length ≤ sizeLine then (atI a.cps.toList j).map fun c => .str ⟨#[c]⟩ else none
  | .tup xs, .int j => atI xs j
  | .frz ns, .int j => atI (ns.map MV.int) j
  | .ref k, i => (match h[k]? with
    | some (.lst xs) => (match i with
      | .int j => atI xs j
      | _ => none)
    | some (.dic kvs) => (match key? i with
      | some q => lookK q kvs
      | none => none)
    | _ => none)
  | _, _ => none
def slice (x : MV) (lo hi : Option Int) (h : MH) : Option (MV × MH) := match x with
  | .str a => if a.length ≤ sizeLine then some (.str (cutS a lo hi), h) else none
  | .tup xs => some (.tup (cutM xs lo hi), h)
  | .frz ns => some (new h (.lst (cutM (ns.map MV.int) lo hi)))
  | .ref k => (match h[k]? with
    | some (.lst xs) => some (new h (.lst (cutM xs lo hi)))
    | _ => none)
  | _ => none
def mSetI (x i v : MV) (h : MH) : Option MH := match x with
  | .ref k => (match h[k]? with
    | some (.lst xs) => (match i with
      | .int j => (match ixN xs.length j with
        | some n => some (h.set k (.lst (xs.set n v)))
        | none => none)
      | _ => none)
    | some (.dic kvs) => (match key? i with
      | some q => if kvs.length < sizeLine then some (h.set k (.dic (putK q v kvs))) else none
      | none => none)
    | _ => none)
  | _ => none
def setF (f : Str) (v : MV) : List (Str × MV) → List (Str × MV)
  | [] => [(f, v)]
  | (g, w) :: r => if g = f then (g, v) :: r else (g, w) :: setF f v r
/-! ### what a for walks -/
inductive It where
  | lst (k i : Nat)
  | tup (xs : List MV)
  | str (cs : List Nat)
  | rng (lo : Int) (n : Nat)
  | enum (k i : Nat)
  | zip (a b : List MV)
  | zipL (k m i : Nat)
  deriving Inhabited, Repr
/-- the next item; none: the end -/
def It.next (h : MH) : It → Option (Option (MV × It))
  | .lst k i => (match h[k]? with
    | some (.lst xs) => (match xs[i]? with
      | some x => some (some (x, .lst k (i + 1)))
      | none => some none)
    | _ => none)
  | .tup [] => some none
  | .tup (x :: r) => some (some (x, .tup r))
  | .str [] => some none
  | .str (c :: r) => some (some (.str ⟨#[c]⟩, .str r))
  | .rng _ 0 => some none
  | .rng lo (n + 1) => some (some (.int lo, .rng (lo + 1) n))
  | .enum k i => (match h[k]? with
    | some (.lst xs) => (match xs[i]? with
      | some x => some (some (.tup [.int i, x], .enum k (i + 1)))
      | none => some none)
    | _ => none)
  | .zip (a :: as) (b :: bs) => some (some (.tup [a, b], .zip as bs))
  | .zip _ _ => some none
  | .zipL k m i => (match h[k]?, h[m]? with
    | some (.lst xs), some (.lst ys) => (match xs[i]?, ys[i]? with
      | some x, some y => some (some (.tup [x, y], .zipL k m (i + 1)))
      | _, _ => some none)
    | _, _ => none)
def iterOf (x : MV) (h : MH) : Option It := match x with
  | .tup xs => some (.tup xs)
  | .str a => some (.str a.cps.toList)
  | .ref k => (match h[k]? with
    | some (.lst _) => some (.lst k 0)
    | _ => none)
  | _ => none
/-! ### the turn of expressions and statements -/
/-- how a def or a method is called -/
abbrev CallF := Str → List MV → MH → Option Out
/-- turns of a loop, at most -/
def LF : Nat := 1000000
def setE (e : MEnv) (i : Nat) (v : MV) : MEnv := e.set i (some v)
def wipeE (e : MEnv) : List Nat → MEnv
  | [] => e
  | i :: r => (wipeE e r).set i none
/-- a comprehension's own names, their places -/
def ownOf (N : List Str) (sc : Scope) : List Nat := sc.names.filterMap fun p => match p.2 with
  | .local => idx p.1 N
  | .cell => idx p.1 N
  | _ => none
def notStar : Expr → Bool
  | .Starred .. => false
  | _ => true
/-- a call's keywords put behind the written arguments, by the parameters' names -/
def bindKw (ps : List Str) (n : Nat) (kws : List (Str × MV)) : Option (List MV) := (ps.drop n).mapM fun p => lk p kws
structure Cxt where
  G : Glob
  call : CallF
def sliceB : Option MV → Option (Option Int)
  | none => some none
  | some (.int i) => some (some i)
  | some _ => none
/-- the names of a target -/
def tgt (sc : Scope) (N : List Str) : Expr → Option Nat
  | .Name x _ => (match lk x sc.names with
    | some .local => idx x N
    | some .cell => idx x N
    | _ => none)
  | _ => none
def tgts (sc : Scope) (N : List Str) : List Expr → Option (List Nat)
  | [] => some []
  | e :: r => (match tgt sc N e with
    | some i => (match tgts sc N r with
      | some is => some (i :: is)
      | none => none)
    | none => none)
def setEs (e : MEnv) : List Nat → List MV → Option MEnv
  | [], [] => some e
  | i :: is, v :: vs => setEs (setE e i v) is vs
  | _, _ => none
/-- store an item in a for's, a comprehension's, an assignment's target -/
def bind1 (sc : Scope) (N : List Str) (t : Expr) (v : MV) (e : MEnv) (h : MH) : Option MEnv := match t with
  | .Tuple ts _ _ => (match v with
    | .tup vs => (match tgts sc N ts with
      | some is => setEs e is vs
      | none => none)
    | _ => none)
  | t => (match tgt sc N t with
    | some i => some (setE e i v)
    | none => none)
/-- a method or property of a class, by the class's line -/
def findM (G : Glob) (f : Str) : List Str → Option Str
  | [] => none
  | c :: r => (match lk c G.clss with
    | some d => (match lk f d.meths with
      | some k => some k
      | none => findM G f r)
    | none => findM G f r)
def findP (G : Glob) (f : Str) : List Str → Option Str
  | [] => none
  | c :: r => (match lk c G.clss with
    | some d => (match lk f d.props with
      | some k => some k
      | none => findP G f r)
    | none => findP G f r)
/-- behind __init__ -/
def made (r : MV) : Option Out → Option Out
  | some (.ok .non h) => some (.ok r h)
  | some (.exc x h) => some (.exc x h)
  | _ => none
/-- C(..), k its __init__ -/
def make (X : Cxt) (c k : Str) (args : List MV) (h : MH) : Option Out := made (.ref h.length) (X.call k (.ref h.length :: args) (h ++ [.ins c []]))
/-- a method by the class of an instance -/
def insM (X : Cxt) (m : Str) (h : MH) (x : MV) : Option (Option Str) := match ins? h x with
  | some (_, c, fs) => (match lk c X.G.clss with
    | some d => if d.isExc = false ∧ lk m fs = none then some (findM X.G m d.mro) else some none
    | none => some none)
  | none => none
/-- len(x) of an instance -/
def lenI (X : Cxt) (f : Str) (args : List MV) (h : MH) : Option (Option Out) := if f = "len" then (match args with
    | [x] => (match insM X "__len__" h x with
      | some (some k) => some (bnd (X.call k [x] h) fun v h1 => match v with
        | .int i => if 0 ≤ i ∧ i < 2 ^ 62 then some (.ok (.int i) h1) else none
        | _ => none)
      | some none => some none
      | none => none)
    | _ => none) else none
abbrev OutI := Res It
/-- a comprehension's items: what binds an item, its test, its element -/
def compL (bd : MV → MH → Option MEnv) (ts : MEnv → MH → Option OutB) (el : MEnv → MH → Option Out) : Nat → It → MH → Option OutL
  | 0, _, _ => none
  | k + 1, w, h => (match w.next h with
    | none => none
    | some none => some (.ok [] h)
    | some (some (x, w')) => (match bd x h with
      | none => none
      | some e1 => bnN (ts e1 h) fun b h1 => if b = true then bnN (el e1 h1) fun v h2 => bnN (compL bd ts el k w' h2) fun vs h3 => some (.ok (v :: vs) h3)
        else compL bd ts el k w' h1))
def isComp : Expr → Bool
  | .ListComp .. | .SetComp .. | .DictComp .. => true
  | _ => false
/-- no super() -/
def plainB : Expr → Bool
  | .Call (.Name _ _) [] [] _ => false
  | _ => true
def noStar (es : List Expr) : Bool := es.all notStar
/-- a comprehension's block: its names by the scope around it -/
def blkB (N : List Str) (sc b : Scope) : Bool :=
  b.kind == .function && b.names.all fun y => b.names.lookup y.1 == some y.2 && (y.2 != .free || (sc.names.lookup y.1 == some .cell || sc.names.lookup y.1 == some .free))
/-- a new list -/
def newL (vs : List MV) (h : MH) : Option Out := if vs.length ≤ sizeLine then some (.ok (.ref h.length) (h ++ [.lst vs])) else none
/-- a class's __init__ -/
def initOf (X : Cxt) (f : Str) : Option (Str × FnD) := match lk f X.G.clss with
  | some d => if d.isExc = true then none else (match findM X.G "__init__" d.mro with
    | some k => (lk k X.G.fns).map fun g => (k, g)
    | none => none)
  | none => none
/-- how a call of a name goes -/
inductive CK where
  | fn | mk (k : Str) (d : FnD) | blt | no
def kindC (X : Cxt) (f : Str) : CK := match lk f X.G.fns with
  | some d => if d.top = true then .fn else .no
  | none => (match lk f X.G.clss with
    | some _ => (match initOf X f with
      | some (k, d) => .mk k d
      | none => .no)
    | none => if bPlain.contains f = true then .blt else .no)
/-- what an instance of the class c may be compared with -/
def eqOk (h : MH) (c : Str) : MV → Bool
  | .ref k => (match h[k]? with
    | some (.ins c' _) => decide (c' = c)
    | some _ => true
    | none => false)
  | .exc .. => false
  | .cls _ => false
  | .fn _ => false
  | .ty _ => false
  | _ => true
def eqM (X : Cxt) (h : MH) (x y : MV) : Option (Option Str) := match ins? h x with
  | some (_, c, _) => (match lk c X.G.clss with
    | some d => if d.isExc = false ∧ eqOk h c y = true then some (findM X.G "__eq__" d.mro) else some none
    | none => some none)
  | none => none
/-- ==, != of instances; else by data -/
def eCmp (X : Cxt) (op : CmpOp) (x y : MV) (h : MH) : Option Out := match op with
  | .Eq => (match eqM X h x y with
    | some (some k) => bnd (X.call k [x, y] h) fun v h1 => (match v with
      | .bl b => some (.ok (.bl b) h1)
      | _ => none)
    | some none => none
    | none => at_ h ((cmp .Eq x y h).map .bl))
  | .NotEq => (match eqM X h x y with
    | some (some k) => bnd (X.call k [x, y] h) fun v h1 => (match v with
      | .bl b => some (.ok (.bl (!b)) h1)
      | _ => none)
    | some none => none
    | none => at_ h ((cmp .NotEq x y h).map .bl))
  | op => at_ h ((cmp op x y h).map .bl)
/-- x.f -/
def eAttr (X : Cxt) (x : MV) (f : Str) (h : MH) : Option Out := match x with
  | .exc c v => (match lk c X.G.clss with
    | some d => if d.isExc = true ∧ f = "value" then some (.ok v h) else none
    | none => none)
  | x => (match ins? h x with
    | some (_, c, fs) => (match lk c X.G.clss with
      | some d => if d.isExc = true then none else (match findP X.G f d.mro with
        | some k => bnN (X.call k [x] h) fun v h1 => some (.ok v h1)
        | none => if d.flds.contains f = true then at_ h (lk f fs) else none)
      | none => none)
    | none => none)
def isTupE : Expr → Bool
  | .Tuple .. => true
  | _ => false
/-- f(..), a name's call without keywords -/
def walkE : Expr → Option (Str × List Expr)
  | .Call (.Name f _) args [] _ => some (f, args)
  | _ => none
def arg1 : List Expr → Bool
  | [a] => notStar a
  | _ => false
def arg2 : List Expr → Bool
  | [a, b] => notStar a && notStar b
  | _ => false
def rangeOf : List MV → Option It
  | [.int j] => if j.natAbs ≤ 100000 then some (.rng 0 j.toNat) else none
  | [.int i, .int j] => if i.natAbs ≤ 100000 ∧ j.natAbs ≤ 100000 then some (.rng i (j - i).toNat) else none
  | _ => none
def enumOf (vs : List MV) (h : MH) : Option It := match vs with
  | [.ref k] => (match h[k]? with
    | some (.lst _) => some (.enum k 0)
    | _ => none)
  | _ => none
def zipOf (vs : List MV) (h : MH) : Option It := match vs with
  | [.tup xs, .tup ys] => some (.zip xs ys)
  | [.ref k, .ref m] => (match h[k]?, h[m]? with
    | some (.lst _), some (.lst _) => some (.zipL k m 0)
    | _, _ => none)
  | _ => none
def isSetE : Expr → Bool
  | .Set .. => true
  | _ => false
/-- an expression that surely makes a text -/
def growsE : Expr → Bool
  | .BinOp (.Constant (.str _) _ _) .Add _ _ => true
  | .BinOp _ .Add (.Constant (.str _) _ _) _ => true
  | _ => false
/-- o.replace(y, z), y and z written -/
def repE : Expr → Option (Expr × Str × Str)
  | .Call (.Attribute o m apos) [.Constant (.str y) _ _, .Constant (.str z) _ _] [] pos => if m = "replace" ∧ (y == z) = false ∧ plainB o = true ∧ (apos.endLine == pos.line) = true then some (o, y, z) else none
  | _ => none
/-- calls that are taken as a whole -/
inductive SK where
  | isi (a : Expr) (c : Str) | sset (a : Expr) | lrg (a : Expr) | bad | no
def spK (f : Str) (args : List Expr) (kws : List Keyword) : SK := if kws.isEmpty = true then
  (if f = "isinstance" then (match args with
    | [a, .Name c _] => .isi a c
    | _ => .bad)
  else if f = "sorted" then (match args with
    | [.Call (.Name g _) [a] [] _] => if g = "set" then .sset a else .no
    | _ => .no)
  else if f = "list" then (match args with
    | [.Call (.Name g _) [a] [] _] => if g = "range" then .lrg a else .no
    | _ => .no)
  else .no) else .no
mutual
def eE (X : Cxt) (N : List Str) : Nat → Expr → Scope → MEnv → MH → Option Out
  | 0, _, _, _, _ => none
  | n + 1, ex, sc, e, h => match ex with
    | .Constant (.int i) _ _ => some (.ok (.int i) h)
    | .Constant (.str x) _ _ => some (.ok (.str x) h)
    | .Constant (.bool b) _ _ => some (.ok (.bl b) h)
    | .Constant .none _ _ => some (.ok .non h)
    | .Name x _ => (match nmAt sc N x with
      | .loc i => at_ h (envGet e i)
      | .glo => at_ h (lk x X.G.consts)
      | .no => none)
    | .BinOp a op b _ => bnd (eE X N n a sc e h) fun x h1 => bnd (eE X N n b sc e h1) fun y h2 => fin (binop op x y h2)
    | .UnaryOp op a _ => (match op with
      | .Not => bnd (eE X N n a sc e h) fun x h1 => at_ h1 ((truth h1 x).map fun b => .bl (!b))
      | op => bnd (eE X N n a sc e h) fun x h1 => at_ h1 (unop op x))
    | .BoolOp op es _ => eBool X N n op es sc e h
    | .IfExp c a b _ => bnd (eT X N n c sc e h) fun t h1 => if t = true then eE X N n a sc e h1 else eE X N n b sc e h1
    | .Compare a ops bs _ => (match ops, bs with
      | [op], [b] => if isSetE b = true then none else bnd (eE X N n a sc e h) fun x h1 => bnd (eE X N n b sc e h1) fun y h2 => eCmp X op x y h2
      | [op, op'], [b, c] => if isSetE c = true then none else bnd (eE X N n a sc e h) fun x h1 => bnd (eE X N n b sc e h1) fun y h2 => (match cmp op x y h2 with
        | some true => bnd (eE X N n c sc e h2) fun z h3 => at_ h3 ((cmp op' y z h3).map .bl)
        | some false => some (.ok (.bl false) h2)
        | none => none)
      | _, _ => none)
    | .Tuple es _ _ => bnd (eA X N n es sc e h) fun vs h1 => if vs.length ≤ sizeLine then some (.ok (.tup vs) h1) else none
    | .List es _ => bnd (eA X N n es sc e h) fun vs h1 => newL vs h1
    | .Dict ks vs _ => (match ks, vs with
      | [], [] => some (.ok (.ref h.length) (h ++ [.dic []]))
      | [some k], [v] => bnd (eE X N n k sc e h) fun x h1 => bnd (eE X N n v sc e h1) fun y h2 => (match key? x with
        | some q => some (.ok (.ref h2.length) (h2 ++ [.dic [(q, y)]]))
        | none => none)
      | _, _ => none)
    | .Subscript a i _ => (match i with
      | .Slice lo hi st _ => (match st with
        | none => bnd (eE X N n a sc e h) fun x h1 => bnd (eO X N n lo sc e h1) fun l h2 => bnd (eO X N n hi sc e h2) fun r h3 => fin (slice x l r h3)
        | some _ => none)
      | i => bnd (eE X N n a sc e h) fun x h1 => bnd (eE X N n i sc e h1) fun y h2 => at_ h2 (item x y h2))
    | .Attribute a f _ => if plainB a = true then bnd (eE X N n a sc e h) fun x h1 => eAttr X x f h1 else none
    | .ListComp elt gs bsc _ => (match gs with
      | [⟨t, it, ifs, 0⟩] => if blkB N sc bsc = true then bnd (eI X N n t it sc e h) fun w h1 => bnd (compL (fun x hh => bind1 bsc N t x (wipeE e (ownOf N bsc)) hh) (fun e1 hh => eIf X N n ifs bsc e1 hh)
          (fun e1 hh => eE X N n elt bsc e1 hh) LF w h1) newL else none
      | _ => none)
    | .Call fe args kws pos => (match fe with
      | .Name f _ => if noStar args = true then (match nmAt sc N f with
        | .glo => (match eSpecial X N n f args kws sc e h with
          | some r => r
          | none => (match kindC X f, kws with
            | .fn, [] => bnd (eA X N n args sc e h) fun vs h1 => X.call f vs h1
            | .mk k _, [] => bnd (eA X N n args sc e h) fun vs h1 => make X f k vs h1
            | .mk k d, kw :: kws => if (X.G.kws.contains (f, args.length, (kw :: kws).filterMap (·.arg)) && (kw :: kws).all (·.arg.isSome) && d.ps.drop (args.length + 1) == (kw :: kws).filterMap (·.arg)) = true then
                bnd (eA X N n args sc e h) fun vs h1 => bnd (eK X N n (kw :: kws) sc e h1) fun ws h2 => if vs.length = args.length ∧ ws.length = (kw :: kws).length then make X f k (vs ++ ws) h2 else none else none
            | .blt, [] => if args.isEmpty = true then none else bnd (eA X N n args sc e h) fun vs h1 => (match lenI X f vs h1 with
              | some r => r
              | none => fin (bcall f vs h1))
            | _, _ => none))
        | _ => none) else none
      | .Attribute o m apos => (match kws with
        | [] => if plainB o = true ∧ (apos.endLine == pos.line) = true ∧ noStar args = true ∧ args.length < 29 then bnd (eE X N n o sc e h) fun x h1 => (match insM X m h1 x with
            | some (some k) => bnd (eA X N n args sc e h1) fun vs h2 => X.call k (x :: vs) h2
            | some none => none
            | none => if mty m h1 x = true then bnd (eA X N n args sc e h1) fun vs h2 => fin (mcall m x vs h2) else none) else none
        | _ => none)
      | _ => none)
    | _ => none
/-- calls that are taken as a whole -/
def eSpecial (X : Cxt) (N : List Str) : Nat → Str → List Expr → List Keyword → Scope → MEnv → MH → Option (Option Out)
  | 0, _, _, _, _, _, _ => none
  | n + 1, f, args, kws, sc, e, h => match spK f args kws with
    | .no => none
    | .bad => some none
    | .isi a c => some (match nmAt sc N c with
      | .glo => if notStar a = true then bnd (eE X N n a sc e h) fun x h1 => at_ h1 ((isI X.G h1 x c).map .bl) else none
      | _ => none)
    | .sset a => some (match nmAt sc N "set" with
      | .glo => if notStar a = true then bnd (eE X N n a sc e h) fun x h1 => fin (sortedSet x h1) else none
      | _ => none)
    | .lrg a => some (match nmAt sc N "range" with
      | .glo => if notStar a = true then bnd (eE X N n a sc e h) fun x h1 => (match x with
        | .int k => if -(2 ^ 62) ≤ k ∧ k.toNat ≤ 100000 then newL ((List.range k.toNat).map fun (i : Nat) => MV.int (i : Int)) h1 else none
        | _ => none) else none
      | _ => none)
/-- a bound of a slice -/
def eO (X : Cxt) (N : List Str) : Nat → Option Expr → Scope → MEnv → MH → Option (Res (Option Int))
  | 0, _, _, _, _ => none
  | n + 1, ex, sc, e, h => (match ex with
    | none => some (.ok none h)
    | some ex => bnd (eE X N n ex sc e h) fun x h1 => (match x with
      | .int i => some (.ok (some i) h1)
      | _ => none))
/-- and, or as values -/
def eBool (X : Cxt) (N : List Str) : Nat → BoolOp → List Expr → Scope → MEnv → MH → Option Out
  | 0, _, _, _, _, _ => none
  | n + 1, op, es, sc, e, h => (match es with
    | [] => none
    | [a] => eE X N n a sc e h
    | a :: b :: r => bnd (eE X N n a sc e h) fun x h1 => (match truth h1 x with
      | some t => (match op with
        | .And => if t = true then eBool X N n op (b :: r) sc e h1 else some (.ok x h1)
        | .Or => if t = true then some (.ok x h1) else eBool X N n op (b :: r) sc e h1)
      | none => none))
/-- a test -/
def eT (X : Cxt) (N : List Str) : Nat → Expr → Scope → MEnv → MH → Option OutB
  | 0, _, _, _, _ => none
  | n + 1, ex, sc, e, h => match ex with
    | .UnaryOp .Not a _ => bnd (eT X N n a sc e h) fun b h1 => some (.ok (!b) h1)
    | .BoolOp op es _ => eTs X N n op es sc e h
    | .IfExp c a b _ => bnd (eT X N n c sc e h) fun t h1 => if t = true then eT X N n a sc e h1 else eT X N n b sc e h1
    | ex => bnd (eE X N n ex sc e h) fun x h1 => at_ h1 (truth h1 x)
def eTs (X : Cxt) (N : List Str) : Nat → BoolOp → List Expr → Scope → MEnv → MH → Option OutB
  | 0, _, _, _, _, _ => none
  | n + 1, op, es, sc, e, h => (match es with
    | [] => none
    | [a] => eT X N n a sc e h
    | a :: b :: r => bnd (eT X N n a sc e h) fun t h1 => (match op with
      | .And => if t = true then eTs X N n op (b :: r) sc e h1 else some (.ok false h1)
      | .Or => if t = true then some (.ok true h1) else eTs X N n op (b :: r) sc e h1))
/-- a comprehension's tests -/
def eIf (X : Cxt) (N : List Str) : Nat → List Expr → Scope → MEnv → MH → Option OutB
  | 0, _, _, _, _ => none
  | n + 1, cs, sc, e, h => (match cs with
    | [] => some (.ok true h)
    | [c] => eT X N n c sc e h
    | _ => none)
/-- items written, stars among them -/
def eA (X : Cxt) (N : List Str) : Nat → List Expr → Scope → MEnv → MH → Option OutL
  | 0, _, _, _, _ => none
  | n + 1, es, sc, e, h => (match es with
    | [] => some (.ok [] h)
    | a :: r => (match a with
      | .Starred b _ => bnd (eE X N n b sc e h) fun x h1 => (match seq? h1 x with
        | some xs => bnd (eA X N n r sc e h1) fun vs h2 => some (.ok (xs ++ vs) h2)
        | none => none)
      | a => bnd (eE X N n a sc e h) fun x h1 => bnd (if growsE a = true then eAR X N n r sc e h1 else eA X N n r sc e h1) fun vs h2 => some (.ok (x :: vs) h2)))
/-- items behind one that has made a text: replace is read among them -/
def eAR (X : Cxt) (N : List Str) : Nat → List Expr → Scope → MEnv → MH → Option OutL
  | 0, _, _, _, _ => none
  | n + 1, es, sc, e, h => (match es with
    | [] => some (.ok [] h)
    | a :: r => (match repE a with
      | some (o, y, z) => bnd (eE X N n o sc e h) fun x h1 => (match x with
        | .str s => if s.length + (s.length + 1) * z.length ≤ 16777216 then bnd (eAR X N n r sc e h1) fun vs h2 => some (.ok (.str (Txt.replace s y z) :: vs) h2) else none
        | _ => none)
      | none => if notStar a = true then bnd (eE X N n a sc e h) fun x h1 => bnd (eAR X N n r sc e h1) fun vs h2 => some (.ok (x :: vs) h2) else none))
/-- keywords' values -/
def eK (X : Cxt) (N : List Str) : Nat → List Keyword → Scope → MEnv → MH → Option OutL
  | 0, _, _, _, _ => none
  | n + 1, es, sc, e, h => (match es with
    | [] => some (.ok [] h)
    | ⟨_, a, _⟩ :: r => bnd (eE X N n a sc e h) fun x h1 => bnd (eK X N n r sc e h1) fun vs h2 => some (.ok (x :: vs) h2))
/-- what is walked -/
def eI (X : Cxt) (N : List Str) : Nat → Expr → Expr → Scope → MEnv → MH → Option OutI
  | 0, _, _, _, _, _ => none
  | n + 1, t, ex, sc, e, h => (match eIS X N n t ex sc e h with
    | some r => r
    | none => if isSetE ex = true then none else bnd (eE X N n ex sc e h) fun x h1 => at_ h1 (iterOf x h1))
/-- range, enumerate, zip -/
def eIS (X : Cxt) (N : List Str) : Nat → Expr → Expr → Scope → MEnv → MH → Option (Option OutI)
  | 0, _, _, _, _, _ => some none
  | n + 1, t, ex, sc, e, h => (match walkE ex with
    | some (f, args) => (match nmAt sc N f with
      | .glo => if f = "range" then some (if (arg1 args || arg2 args) = true then bnd (eA X N n args sc e h) fun vs h1 => at_ h1 (if vs.length = args.length then rangeOf vs else none) else none)
        else if f = "enumerate" then some (if (arg1 args && isTupE t) = true then bnd (eA X N n args sc e h) fun vs h1 => at_ h1 (if vs.length = args.length then enumOf vs h1 else none) else none)
        else if f = "zip" then some (if (arg2 args && isTupE t) = true then bnd (eA X N n args sc e h) fun vs h1 => at_ h1 (if vs.length = args.length then zipOf vs h1 else none) else none)
        else none
      | _ => none)
    | none => none)
end
/-! ### statements -/
/-- after an expression's end -/
def thnS {α : Type} (e : MEnv) (o : Option (Res α)) (f : α → MH → Option OutS) : Option OutS := match o with
  | some (.ok a h) => f a h
  | some (.exc x h) => some (.exc x e h)
  | none => none
/-- a for's turns -/
def forL (bd : MV → MEnv → MH → Option MEnv) (body : MEnv → MH → Option OutS) : Nat → It → MEnv → MH → Option OutS
  | 0, _, _, _ => none
  | k + 1, w, e, h => (match w.next h with
    | none => none
    | some none => some (.nx e h)
    | some (some (x, w')) => (match bd x e h with
      | none => none
      | some e1 => (match body e1 h with
        | some (.nx e2 h2) => forL bd body k w' e2 h2
        | some (.ct e2 h2) => forL bd body k w' e2 h2
        | some (.bk e2 h2) => some (.nx e2 h2)
        | r => r)))
def whileL (ts : MEnv → MH → Option OutB) (body : MEnv → MH → Option OutS) : Nat → MEnv → MH → Option OutS
  | 0, _, _ => none
  | k + 1, e, h => thnS e (ts e h) fun b h1 => if b = true then (match body e h1 with
      | some (.nx e2 h2) => whileL ts body k e2 h2
      | some (.ct e2 h2) => whileL ts body k e2 h2
      | some (.bk e2 h2) => some (.nx e2 h2)
      | r => r) else some (.nx e h1)
/-- whether an exception is of a class -/
def isA (G : Glob) (x : MV) (c : Str) : Option Bool := match x with
  | .exc k _ => (match lk k G.clss, lk c G.clss with
    | some d, some dc => if d.isExc = true ∧ dc.isExc = true then some (d.mro.contains c) else none
    | _, _ => none)
  | _ => none
/-- stores that the model takes in its own way are read where the order does not count -/
def tupOk : Expr → Bool
  | .Tuple vs _ _ => !vs.all (constantsAlone 8) || vs.all (foldedForSure 8)
  | _ => true
/-- targets that are read in an assignment of a tuple -/
def tgOk (sc : Scope) (N : List Str) : Expr → Bool
  | .Name x p => (tgt sc N (.Name x p)).isSome
  | .Subscript _ (.Slice ..) _ => false
  | .Subscript .. => true
  | _ => false
def nextS (o : Option (MEnv × MH)) : Option OutS := match o with
  | some (e, h) => some (.nx e h)
  | none => none
def nxH (e : MEnv) (o : Option MH) : Option OutS := match o with
  | some h => some (.nx e h)
  | none => none
def nxE (h : MH) (o : Option MEnv) : Option OutS := match o with
  | some e => some (.nx e h)
  | none => none
/-- x.f = v -/
def setAttrM (X : Cxt) (x : MV) (f : Str) (v : MV) (h : MH) : Option MH := match ins? h x with
  | some (k, c, fs) => (match lk c X.G.clss with
    | some d => if d.isExc = false ∧ d.flds.contains f = true ∧ fs.length < 1000 then some (h.set k (.ins c (setF f v fs))) else none
    | none => none)
  | none => none
/-- raise C(a) -/
def raiseP : Option Expr → Option Expr → Option (Str × Expr)
  | some (.Call (.Name c _) [a] [] _), none => some (c, a)
  | _, _ => none
/-- except c as y: z = y' -/
def tryP : List ExceptHandler → List Stmt → List Stmt → Option (Str × Str × Str × Str)
  | [.ExceptHandler (some (.Name c _)) (some y) [.Assign [.Name z _] (.Name y' _) _] _], [], [] => some (c, y, z, y')
  | _, _, _ => none
/-- a try's end -/
def tryS (G : Glob) (c : Str) (i j : Nat) (o : Option OutS) : Option OutS := match o with
  | some (.exc x e1 h1) => (match isA G x c with
    | some true => some (.nx ((setE e1 j x).set i none) h1)
    | some false => some (.exc x e1 h1)
    | none => none)
  | r => r
mutual
def eS (X : Cxt) (N : List Str) : Nat → Stmt → Scope → MEnv → MH → Option OutS
  | 0, _, _, _, _ => none
  | n + 1, st, sc, e, h => match st with
    | .Pass _ => some (.nx e h)
    | .Break _ => some (.bk e h)
    | .Continue _ => some (.ct e h)
    | .Expr a _ => (match a with
      | .Constant (.str _) _ _ => some (.nx e h)
      | a => if isComp a = true then none else thnS e (eE X N n a sc e h) fun _ h1 => some (.nx e h1))
    | .Return a _ => (match a with
      | none => some (.rt .non h)
      | some a => thnS e (eE X N n a sc e h) fun v h1 => some (.rt v h1))
    | .If c a b _ => thnS e (eT X N n c sc e h) fun t h1 => if t = true then eSs X N n a sc e h1 else eSs X N n b sc e h1
    | .Assign ts a _ => (match ts with
      | [t] => (match t with
        | .Attribute o f _ => thnS e (eE X N n a sc e h) fun v h1 => thnS e (eE X N n o sc e h1) fun x h2 => nxH e (setAttrM X x f v h2)
        | .Subscript o i _ => (match i with
          | .Slice .. => none
          | i => thnS e (eE X N n a sc e h) fun v h1 => thnS e (eE X N n o sc e h1) fun x h2 => thnS e (eE X N n i sc e h2) fun y h3 => nxH e (mSetI x y v h3))
        | .Tuple ts _ _ => if (tupOk a && ts.all (tgOk sc N)) = true then thnS e (eE X N n a sc e h) fun v h1 => (match seq? h1 v with
          | some vs => if vs.length = ts.length then eTg X N n ts vs sc e h1 else none
          | none => none) else none
        | .Name x p => (match tgt sc N (.Name x p) with
          | some i => thnS e (eE X N n a sc e h) fun v h1 => some (.nx (setE e i v) h1)
          | none => none)
        | _ => none)
      | _ => none)
    | .For t it body els _ => (match els with
      | [] => thnS e (eI X N n t it sc e h) fun w h1 => forL (fun x e hh => bind1 sc N t x e hh) (fun e hh => eSs X N n body sc e hh) LF w e h1
      | _ => none)
    | .While c body els _ => (match els with
      | [] => whileL (fun e hh => eT X N n c sc e hh) (fun e hh => eSs X N n body sc e hh) LF e h
      | _ => none)
    | .Raise a b _ => (match raiseP a b with
      | some (c, a) => (match nmAt sc N c, lk c X.G.clss with
        | .glo, some d => if d.isExc = true ∧ notStar a = true then thnS e (eE X N n a sc e h) fun v h1 => some (.exc (.exc c v) e h1) else none
        | _, _ => none)
      | none => none)
    | .Try body hs els fs _ => (match tryP hs els fs with
      | some (c, y, z, y') => (match nmAt sc N c, idx y N, idx z N with
        | .glo, some i, some j => if y = y' ∧ lk y sc.names = some .local ∧ lk z sc.names = some .local ∧ y ≠ z ∧ (lk c X.G.clss).isSome = true then tryS X.G c i j (eSs X N n body sc e h) else none
        | _, _, _ => none)
      | none => none)
    | _ => none
/-- targets one after another: names, items -/
def eTg (X : Cxt) (N : List Str) : Nat → List Expr → List MV → Scope → MEnv → MH → Option OutS
  | 0, _, _, _, _, _ => none
  | n + 1, ts, vs, sc, e, h => (match ts, vs with
    | [], [] => some (.nx e h)
    | t :: r, v :: vs => (match t with
      | .Subscript o i _ => (match i with
        | .Slice .. => none
        | i => thnS e (eE X N n o sc e h) fun x h1 => thnS e (eE X N n i sc e h1) fun y h2 => (match mSetI x y v h2 with
          | some h3 => eTg X N n r vs sc e h3
          | none => none))
      | .Name x p => (match tgt sc N (.Name x p) with
        | some i => eTg X N n r vs sc (setE e i v) h
        | none => none)
      | _ => none)
    | _, _ => none)
def eSs (X : Cxt) (N : List Str) : Nat → List Stmt → Scope → MEnv → MH → Option OutS
  | 0, _, _, _, _ => none
  | n + 1, ss, sc, e, h => (match ss with
    | [] => some (.nx e h)
    | s :: r => (match eS X N n s sc e h with
      | some (.nx e1 h1) => eSs X N n r sc e1 h1
      | r => r))
end
/-! ### calls -/
/-- trees at most so deep -/
def TF : Nat := 200
def startE (N : List Str) (vs : List MV) : MEnv := vs.map some ++ List.replicate (N.length - vs.length) none
/-- a body's end -/
def endS : Option OutS → Option Out
  | some (.rt v h) => some (.ok v h)
  | some (.nx _ h) => some (.ok .non h)
  | some (.exc x _ h) => some (.exc x h)
  | _ => none
def callD (G : Glob) : Nat → CallF
  | 0 => fun _ _ _ => none
  | d + 1 => fun f vs h => match lk f G.fns with
    | none => none
    | some fd => if vs.length = fd.ps.length then endS (eSs ⟨G, callD G d⟩ fd.N TF fd.body fd.scope (startE fd.N vs) h) else none
end Ev
end T_Ev
section T_Wp
set_option linter.all false
set_option maxRecDepth 100000
/-! Wp: the evaluator's parts as combinators; what must hold ahead of them for an end. -/
namespace Ev
open PySem L2
/-! ### combinators (each is a part of eE, eS as it stands) -/
def valC (v : MV) (h : MH) : Option Out := some (.ok v h)
def locC (e : MEnv) (i : Nat) (h : MH) : Option Out := at_ h (envGet e i)
def nilA (h : MH) : Option OutL := some (.ok [] h)
def consA (o : Option Out) (k : MH → Option OutL) : Option OutL := bnd o fun x h1 => bnd (k h1) fun vs h2 => some (.ok (x :: vs) h2)
def starA (o : Option Out) (k : MH → Option OutL) : Option OutL := bnd o fun x h1 => (match seq? h1 x with
  | some xs => bnd (k h1) fun vs h2 => some (.ok (xs ++ vs) h2)
  | none => none)
def repA (y z : Str) (o : Option Out) (k : MH → Option OutL) : Option OutL := bnd o fun x h1 => (match x with
  | .str s => if s.length + (s.length + 1) * z.length ≤ 16777216 then bnd (k h1) fun vs h2 => some (.ok (.str (Txt.replace s y z) :: vs) h2) else none
  | _ => none)
def binC (op : Operator) (a : Option Out) (b : MH → Option Out) : Option Out := bnd a fun x h1 => bnd (b h1) fun y h2 => fin (binop op x y h2)
def unC (op : UnaryOp) (a : Option Out) : Option Out := bnd a fun x h1 => at_ h1 (unop op x)
def cmpC (op : CmpOp) (a : Option Out) (b : MH → Option Out) : Option Out := bnd a fun x h1 => bnd (b h1) fun y h2 => at_ h2 ((cmp op x y h2).map .bl)
def eqC (X : Cxt) (op : CmpOp) (a : Option Out) (b : MH → Option Out) : Option Out := bnd a fun x h1 => bnd (b h1) fun y h2 => eCmp X op x y h2
def chnC (op op' : CmpOp) (a : Option Out) (b c : MH → Option Out) : Option Out := bnd a fun x h1 => bnd (b h1) fun y h2 => (match cmp op x y h2 with
  | some true => bnd (c h2) fun z h3 => at_ h3 ((cmp op' y z h3).map .bl)
  | some false => some (.ok (.bl false) h2)
  | none => none)
def tstC (a : Option Out) : Option OutB := bnd a fun x h1 => at_ h1 (truth h1 x)
def notT (a : Option OutB) : Option OutB := bnd a fun b h1 => some (.ok (!b) h1)
def andT (a : Option OutB) (b : MH → Option OutB) : Option OutB := bnd a fun t h1 => if t = true then b h1 else some (.ok false h1)
def orT (a : Option OutB) (b : MH → Option OutB) : Option OutB := bnd a fun t h1 => if t = true then some (.ok true h1) else b h1
def iteT (c : Option OutB) (a b : MH → Option OutB) : Option OutB := bnd c fun t h1 => if t = true then a h1 else b h1
def notE (a : Option Out) : Option Out := bnd a fun x h1 => at_ h1 ((truth h1 x).map fun b => .bl (!b))
def andE (a : Option Out) (b : MH → Option Out) : Option Out := bnd a fun x h1 => (match truth h1 x with
  | some t => if t = true then b h1 else some (.ok x h1)
  | none => none)
def orE (a : Option Out) (b : MH → Option Out) : Option Out := bnd a fun x h1 => (match truth h1 x with
  | some t => if t = true then some (.ok x h1) else b h1
  | none => none)
def iteE (c : Option OutB) (a b : MH → Option Out) : Option Out := bnd c fun t h1 => if t = true then a h1 else b h1
def tupC (as : Option OutL) : Option Out := bnd as fun vs h1 => if vs.length ≤ sizeLine then some (.ok (.tup vs) h1) else none
def lstC (as : Option OutL) : Option Out := bnd as fun vs h1 => newL vs h1
def dicC0 (h : MH) : Option Out := some (.ok (.ref h.length) (h ++ [.dic []]))
def dicC1 (k : Option Out) (v : MH → Option Out) : Option Out := bnd k fun x h1 => bnd (v h1) fun y h2 => (match key? x with
  | some q => some (.ok (.ref h2.length) (h2 ++ [.dic [(q, y)]]))
  | none => none)
def itemC (a : Option Out) (i : MH → Option Out) : Option Out := bnd a fun x h1 => bnd (i h1) fun y h2 => at_ h2 (item x y h2)
def bdN (h : MH) : Option (Res (Option Int)) := some (.ok none h)
def bdS (a : Option Out) : Option (Res (Option Int)) := bnd a fun x h1 => (match x with
  | .int i => some (.ok (some i) h1)
  | _ => none)
def slcC (a : Option Out) (lo hi : MH → Option (Res (Option Int))) : Option Out := bnd a fun x h1 => bnd (lo h1) fun l h2 => bnd (hi h2) fun r h3 => fin (slice x l r h3)
def attC (X : Cxt) (f : Str) (a : Option Out) : Option Out := bnd a fun x h1 => eAttr X x f h1
def isiC (G : Glob) (c : Str) (a : Option Out) : Option Out := bnd a fun x h1 => at_ h1 ((isI G h1 x c).map .bl)
def ssetC (a : Option Out) : Option Out := bnd a fun x h1 => fin (sortedSet x h1)
def lrgC (a : Option Out) : Option Out := bnd a fun x h1 => (match x with
  | .int k => if -(2 ^ 62) ≤ k ∧ k.toNat ≤ 100000 then newL ((List.range k.toNat).map fun (i : Nat) => MV.int (i : Int)) h1 else none
  | _ => none)
def funC (call : CallF) (f : Str) (as : Option OutL) : Option Out := bnd as fun vs h1 => call f vs h1
def makC (X : Cxt) (f k : Str) (as : Option OutL) : Option Out := bnd as fun vs h1 => make X f k vs h1
def makK (X : Cxt) (f k : Str) (n m : Nat) (as : Option OutL) (ks : MH → Option OutL) : Option Out := bnd as fun vs h1 => bnd (ks h1) fun ws h2 => if vs.length = n ∧ ws.length = m then make X f k (vs ++ ws) h2 else none
def bltC (bf : BF) (as : Option OutL) : Option Out := bnd as fun vs h1 => fin (bf vs h1)
def lenC (X : Cxt) (as : Option OutL) : Option Out := bnd as fun vs h1 => (match lenI X "len" vs h1 with
  | some r => r
  | none => fin (bLen vs h1))
def metC (X : Cxt) (m : Str) (a : Option Out) (as : MH → Option OutL) : Option Out := bnd a fun x h1 => (match insM X m h1 x with
  | some (some k) => bnd (as h1) fun vs h2 => X.call k (x :: vs) h2
  | some none => none
  | none => if mty m h1 x = true then bnd (as h1) fun vs h2 => fin (mcall m x vs h2) else none)
def lcC (w : Option OutI) (bd : MV → MH → Option MEnv) (ts : MEnv → MH → Option OutB) (el : MEnv → MH → Option Out) : Option Out := bnd w fun w h1 => bnd (compL bd ts el LF w h1) newL
def bdT (is : List Nat) (v : MV) (e : MEnv) : Option MEnv := match v with
  | .tup vs => setEs e is vs
  | _ => none
def iterC (a : Option Out) : Option OutI := bnd a fun x h1 => at_ h1 (iterOf x h1)
def rngC (n : Nat) (as : Option OutL) : Option OutI := bnd as fun vs h1 => at_ h1 (if vs.length = n then rangeOf vs else none)
def enumC (n : Nat) (as : Option OutL) : Option OutI := bnd as fun vs h1 => at_ h1 (if vs.length = n then enumOf vs h1 else none)
def zipC (n : Nat) (as : Option OutL) : Option OutI := bnd as fun vs h1 => at_ h1 (if vs.length = n then zipOf vs h1 else none)
def trueT (h : MH) : Option OutB := some (.ok true h)
def nxS (e : MEnv) (h : MH) : Option OutS := some (.nx e h)
def bkS (e : MEnv) (h : MH) : Option OutS := some (.bk e h)
def ctS (e : MEnv) (h : MH) : Option OutS := some (.ct e h)
def rtN (h : MH) : Option OutS := some (.rt .non h)
def seqS (o : Option OutS) (k : MEnv → MH → Option OutS) : Option OutS := match o with
  | some (.nx e h) => k e h
  | r => r
def asgN (i : Nat) (e : MEnv) (a : Option Out) : Option OutS := thnS e a fun v h1 => some (.nx (setE e i v) h1)
def retS (e : MEnv) (a : Option Out) : Option OutS := thnS e a fun v h1 => some (.rt v h1)
def iteS (e : MEnv) (c : Option OutB) (a b : MH → Option OutS) : Option OutS := thnS e c fun t h1 => if t = true then a h1 else b h1
def expS (e : MEnv) (a : Option Out) : Option OutS := thnS e a fun _ h1 => some (.nx e h1)
def asgF (X : Cxt) (f : Str) (e : MEnv) (a : Option Out) (o : MH → Option Out) : Option OutS := thnS e a fun v h1 => thnS e (o h1) fun x h2 => nxH e (setAttrM X x f v h2)
def asgI (e : MEnv) (a : Option Out) (o i : MH → Option Out) : Option OutS := thnS e a fun v h1 => thnS e (o h1) fun x h2 => thnS e (i h2) fun y h3 => nxH e (mSetI x y v h3)
def asgT (n : Nat) (e : MEnv) (a : Option Out) (k : List MV → MH → Option OutS) : Option OutS := thnS e a fun v h1 => (match seq? h1 v with
  | some vs => if vs.length = n then k vs h1 else none
  | none => none)
/-- a tuple's targets, one by one -/
def tgM {α : Type} (ts : List Unit) (vs : List MV) (a : Option α) (b : MV → List MV → Option α) : Option α := match ts, vs with
  | [], [] => a
  | _ :: _, v :: vs => b v vs
  | _, _ => none
def tgNil (e : MEnv) (vs : List MV) (h : MH) : Option OutS := tgM [] vs (some (.nx e h)) fun _ _ => none
def tgN (i : Nat) (e : MEnv) (vs : List MV) (k : MEnv → List MV → Option OutS) : Option OutS := tgM [()] vs none fun v vs => k (setE e i v) vs
def tgI (e : MEnv) (vs : List MV) (o : Option Out) (i : MH → Option Out) (k : List MV → MH → Option OutS) : Option OutS := tgM [()] vs none fun v vs => thnS e o fun x h1 => thnS e (i h1) fun y h2 => (match mSetI x y v h2 with
    | some h3 => k vs h3
    | none => none)
def forC (e : MEnv) (w : Option OutI) (bd : MV → MEnv → MH → Option MEnv) (body : MEnv → MH → Option OutS) : Option OutS := thnS e w fun w h1 => forL bd body LF w e h1
def whlC (e : MEnv) (h : MH) (ts : MEnv → MH → Option OutB) (body : MEnv → MH → Option OutS) : Option OutS := whileL ts body LF e h
def raiC (c : Str) (e : MEnv) (a : Option Out) : Option OutS := thnS e a fun v h1 => some (.exc (.exc c v) e h1)
end Ev
end T_Wp
section T_Wq
set_option linter.all false
set_option maxRecDepth 100000
/-! Wq: what must hold ahead of the combinators; loops; what is kept of a heap. -/
namespace Ev
open PySem L2
/-! ### what must hold -/
def wE {α : Type} (o : Option (Res α)) (Q : α → MH → Prop) (X : MV → MH → Prop) : Prop := match o with
  | some (.ok a h) => Q a h
  | some (.exc x h) => X x h
  | none => False
/-- by a truth value -/
def wB (b : Bool) (A B : Prop) : Prop := match b with
  | true => A
  | false => B
theorem wB_if {b : Bool} {A B : Prop} : wB b A B = if b = true then A else B := by cases b <;> rfl
def wO {α : Type} (o : Option α) (P : α → Prop) : Prop := match o with
  | some a => P a
  | none => False
structure Ds where
  nx : MEnv → MH → Prop
  rt : MV → MH → Prop
  bk : MEnv → MH → Prop
  ct : MEnv → MH → Prop
  ex : MV → MEnv → MH → Prop
def wS (o : Option OutS) (D : Ds) : Prop := match o with
  | some (.nx e h) => D.nx e h
  | some (.rt v h) => D.rt v h
  | some (.bk e h) => D.bk e h
  | some (.ct e h) => D.ct e h
  | some (.exc x e h) => D.ex x e h
  | none => False
/-- nothing -/
def no {α : Type} : α → MH → Prop := fun _ _ => False
section
variable {α β : Type} {Q Q' : α → MH → Prop} {X X' : MV → MH → Prop} {o : Option (Res α)}
theorem wE_mono (k : wE o Q X) (hQ : ∀ a h, Q a h → Q' a h) (hX : ∀ x h, X x h → X' x h) : wE o Q' X' := by
  rcases o with _ | ⟨a, h⟩ | ⟨x, h⟩
  · exact k
  · exact hQ a h k
  · exact hX x h k
/-- no exception is borne -/
theorem wE.to (k : wE o Q no) (hQ : ∀ a h, Q a h → Q' a h) : wE o Q' X' := wE_mono k hQ fun _ _ z => z.elim
theorem wE.then' (k : wE o Q X) (hQ : ∀ a h, Q a h → Q' a h) : wE o Q' X := wE_mono k hQ fun _ _ z => z
theorem wE.get (k : wE o Q no) : ∃ a h, o = some (.ok a h) ∧ Q a h := by
  rcases o with _ | ⟨a, h⟩ | ⟨x, h⟩
  · exact k.elim
  · exact ⟨a, h, rfl, k⟩
  · exact k.elim
@[simp ↓] theorem wE_ok {a : α} {h : MH} : wE (some (.ok a h)) Q X = Q a h := rfl
@[simp ↓] theorem wE_exc {x : MV} {h : MH} : wE (some (.exc x h)) Q X = X x h := rfl
@[simp ↓] theorem wE_none : wE none Q X = False := rfl
@[simp ↓] theorem wO_some {a : α} {P : α → Prop} : wO (some a) P = P a := rfl
@[simp ↓] theorem wO_none {P : α → Prop} : wO none P = False := rfl
@[simp ↓] theorem wO_map {f : β → α} {o : Option β} {P : α → Prop} : wO (o.map f) P = wO o fun b => P (f b) := by cases o <;> rfl
theorem wO_iff {o : Option α} {P : α → Prop} : wO o P ↔ ∃ a, o = some a ∧ P a := by
  cases o with
  | none => exact ⟨fun z => z.elim, fun ⟨_, z, _⟩ => nomatch z⟩
  | some a => exact ⟨fun z => ⟨a, rfl, z⟩, fun ⟨b, e, z⟩ => by cases e; exact z⟩
@[simp ↓] theorem wE_bnd {o : Option (Res β)} {f : β → MH → Option (Res α)} : wE (bnd o f) Q X = wE o (fun a h => wE (f a h) Q X) X := by
  rcases o with _ | ⟨a, h⟩ | ⟨x, h⟩ <;> rfl
@[simp ↓] theorem wE_bnN {o : Option (Res β)} {f : β → MH → Option (Res α)} : wE (bnN o f) Q X = wE o (fun a h => wE (f a h) Q X) no := by
  rcases o with _ | ⟨a, h⟩ | ⟨x, h⟩ <;> rfl
@[simp ↓] theorem wE_fin {o : Option (α × MH)} : wE (fin o) Q X = wO o fun p => Q p.1 p.2 := by
  rcases o with _ | ⟨a, h⟩ <;> rfl
@[simp ↓] theorem wE_at {h : MH} {o : Option α} : wE (at_ h o) Q X = wO o fun a => Q a h := by cases o <;> rfl
@[simp ↓] theorem wE_ite {c : Prop} [Decidable c] {a b : Option (Res α)} : wE (if c then a else b) Q X = if c then wE a Q X else wE b Q X := by split <;> rfl
theorem wE_guard {c : Prop} [Decidable c] {a : Option (Res α)} : wE (if c then a else none) Q X = (c ∧ wE a Q X) := by
  by_cases h : c
  · rw [if_pos h]; simp only [h, true_and]
  · rw [if_neg h]; simp only [h, false_and, wE_none]
@[simp ↓] theorem wO_ite {c : Prop} [Decidable c] {a b : Option α} {P : α → Prop} : wO (if c then a else b) P = if c then wO a P else wO b P := by split <;> rfl
end
section
variable {α : Type} {D D' : Ds}
theorem wS_mono {o : Option OutS} (k : wS o D) (h1 : ∀ e h, D.nx e h → D'.nx e h) (h2 : ∀ e h, D.rt e h → D'.rt e h) (h3 : ∀ e h, D.bk e h → D'.bk e h) (h4 : ∀ e h, D.ct e h → D'.ct e h) (h5 : ∀ x e h, D.ex x e h → D'.ex x e h) : wS o D' := by
  rcases o with _ | ⟨_ | _ | _ | _ | _⟩
  · exact k
  · exact h1 _ _ k
  · exact h2 _ _ k
  · exact h3 _ _ k
  · exact h4 _ _ k
  · exact h5 _ _ _ k
@[simp ↓] theorem wS_nx {e : MEnv} {h : MH} : wS (some (.nx e h)) D = D.nx e h := rfl
@[simp ↓] theorem wS_rt {e : MV} {h : MH} : wS (some (.rt e h)) D = D.rt e h := rfl
@[simp ↓] theorem wS_bk {e : MEnv} {h : MH} : wS (some (.bk e h)) D = D.bk e h := rfl
@[simp ↓] theorem wS_ct {e : MEnv} {h : MH} : wS (some (.ct e h)) D = D.ct e h := rfl
@[simp ↓] theorem wS_ex {x : MV} {e : MEnv} {h : MH} : wS (some (.exc x e h)) D = D.ex x e h := rfl
@[simp ↓] theorem wS_none : wS none D = False := rfl
@[simp ↓] theorem wS_ite {c : Prop} [Decidable c] {a b : Option OutS} : wS (if c then a else b) D = if c then wS a D else wS b D := by split <;> rfl
@[simp ↓] theorem wS_thnS {e : MEnv} {o : Option (Res α)} {f : α → MH → Option OutS} : wS (thnS e o f) D = wE o (fun a h => wS (f a h) D) (fun x h => D.ex x e h) := by
  rcases o with _ | ⟨a, h⟩ | ⟨x, h⟩ <;> rfl
theorem wS_seqS {o : Option OutS} {k : MEnv → MH → Option OutS} : wS (seqS o k) D = wS o { D with nx := fun e h => wS (k e h) D } := by
  rcases o with _ | ⟨_ | _ | _ | _ | _⟩ <;> rfl
/-- one statement after another; what comes later is not looked at -/
theorem wS_seq {o : Option OutS} {k : MEnv → MH → Option OutS} (h : ∀ nx : MEnv → MH → Prop, (∀ e h, wS (k e h) D → nx e h) → wS o { D with nx := nx }) : wS (seqS o k) D := by
  rw [wS_seqS]
  exact h _ fun _ _ z => z
/-- .. by what holds between -/
theorem wS_mid {o : Option OutS} {k : MEnv → MH → Option OutS} (P : MEnv → MH → Prop) (h : wS o { D with nx := P }) (h2 : ∀ e h, P e h → wS (k e h) D) : wS (seqS o k) D := by
  rw [wS_seqS]
  exact wS_mono h h2 (fun _ _ z => z) (fun _ _ z => z) (fun _ _ z => z) fun _ _ _ z => z
/-- .. that is not looked at -/
theorem wS_st {o : Option OutS} {k : MEnv → MH → Option OutS} (P : MEnv → MH → Prop) (h : ∀ nx : MEnv → MH → Prop, (∀ e h, P e h → nx e h) → wS o { D with nx := nx }) (h2 : ∀ e h, P e h → wS (k e h) D) : wS (seqS o k) D := by
  rw [wS_seqS]
  exact h _ fun e h z => h2 e h z
@[simp ↓] theorem wS_nxH {e : MEnv} {o : Option MH} : wS (nxH e o) D = wO o fun h => D.nx e h := by cases o <;> rfl
@[simp ↓] theorem wS_nxE {h : MH} {o : Option MEnv} : wS (nxE h o) D = wO o fun e => D.nx e h := by cases o <;> rfl
@[simp ↓] theorem wE_endS {o : Option OutS} {Q X : MV → MH → Prop} : wE (endS o) Q X = wS o ⟨fun _ h => Q .non h, Q, fun _ _ => False, fun _ _ => False, fun x _ h => X x h⟩ := by
  rcases o with _ | ⟨_ | _ | _ | _ | _⟩ <;> rfl
end
/-! ### the combinators -/
section
variable {Q X : MV → MH → Prop} {QL : List MV → MH → Prop} {QB : Bool → MH → Prop} {QI : It → MH → Prop} {D : Ds} {h : MH} {e : MEnv}
@[simp ↓] theorem w_valC {v : MV} : wE (valC v h) Q X = Q v h := rfl
@[simp ↓] theorem w_locC {i : Nat} : wE (locC e i h) Q X = wO (envGet e i) fun v => Q v h := by unfold locC; simp
@[simp ↓] theorem w_nilA : wE (nilA h) QL X = QL [] h := rfl
@[simp ↓] theorem w_consA {o : Option Out} {k : MH → Option OutL} : wE (consA o k) QL X = wE o (fun x h1 => wE (k h1) (fun vs h2 => QL (x :: vs) h2) X) X := by unfold consA; simp
@[simp ↓] theorem w_starA {o : Option Out} {k : MH → Option OutL} : wE (starA o k) QL X = wE o (fun x h1 => wO (seq? h1 x) fun xs => wE (k h1) (fun vs h2 => QL (xs ++ vs) h2) X) X := by
  unfold starA; simp only [wE_bnd]; congr 1; funext a h; cases seq? h a <;> simp
@[simp ↓] theorem w_repA {y z : Str} {o : Option Out} {k : MH → Option OutL} : wE (repA y z o k) QL X = wE o (fun x h1 => wO (isStr? x) fun s => s.length + (s.length + 1) * z.length ≤ 16777216 ∧ wE (k h1) (fun vs h2 => QL (.str (Txt.replace s y z) :: vs) h2) X) X := by
  unfold repA; simp only [wE_bnd]; congr 1; funext a h; cases a <;> simp [isStr?]
@[simp ↓] theorem w_binC {op : Operator} {a : Option Out} {b : MH → Option Out} : wE (binC op a b) Q X = wE a (fun x h1 => wE (b h1) (fun y h2 => wO (binop op x y h2) fun p => Q p.1 p.2) X) X := by unfold binC; simp
@[simp ↓] theorem w_unC {op : UnaryOp} {a : Option Out} : wE (unC op a) Q X = wE a (fun x h1 => wO (unop op x) fun v => Q v h1) X := by unfold unC; simp
@[simp ↓] theorem w_cmpC {op : CmpOp} {a : Option Out} {b : MH → Option Out} : wE (cmpC op a b) Q X = wE a (fun x h1 => wE (b h1) (fun y h2 => wO (cmp op x y h2) fun p => Q (.bl p) h2) X) X := by unfold cmpC; simp
@[simp ↓] theorem w_eqC {Y : Cxt} {op : CmpOp} {a : Option Out} {b : MH → Option Out} : wE (eqC Y op a b) Q X = wE a (fun x h1 => wE (b h1) (fun y h2 => wE (eCmp Y op x y h2) Q X) X) X := by unfold eqC; simp
@[simp ↓] theorem w_chnC {op op' : CmpOp} {a : Option Out} {b c : MH → Option Out} : wE (chnC op op' a b c) Q X = wE a (fun x h1 => wE (b h1) (fun y h2 => wO (cmp op x y h2) fun t => wB t (wE (c h2) (fun z h3 => wO (cmp op' y z h3) fun p => Q (.bl p) h3) X) (Q (.bl false) h2)) X) X := by
  unfold chnC; simp only [wE_bnd]; congr 1; funext x h1; congr 1; funext y h2; rcases cmp op x y h2 with _ | _ | _ <;> simp [wB]
@[simp ↓] theorem w_tstC {a : Option Out} : wE (tstC a) QB X = wE a (fun x h1 => wO (truth h1 x) fun b => QB b h1) X := by unfold tstC; simp
@[simp ↓] theorem w_notT {a : Option OutB} : wE (notT a) QB X = wE a (fun b h1 => QB (!b) h1) X := by unfold notT; simp
@[simp ↓] theorem w_andT {a : Option OutB} {b : MH → Option OutB} : wE (andT a b) QB X = wE a (fun t h1 => wB t (wE (b h1) QB X) (QB false h1)) X := by unfold andT; simp [wB_if]
@[simp ↓] theorem w_orT {a : Option OutB} {b : MH → Option OutB} : wE (orT a b) QB X = wE a (fun t h1 => wB t (QB true h1) (wE (b h1) QB X)) X := by unfold orT; simp [wB_if]
@[simp ↓] theorem w_iteT {c : Option OutB} {a b : MH → Option OutB} : wE (iteT c a b) QB X = wE c (fun t h1 => wB t (wE (a h1) QB X) (wE (b h1) QB X)) X := by unfold iteT; simp [wB_if]
@[simp ↓] theorem w_trueT : wE (trueT h) QB X = QB true h := rfl
@[simp ↓] theorem w_notE {a : Option Out} : wE (notE a) Q X = wE a (fun x h1 => wO (truth h1 x) fun b => Q (.bl (!b)) h1) X := by unfold notE; simp
@[simp ↓] theorem w_andE {a : Option Out} {b : MH → Option Out} : wE (andE a b) Q X = wE a (fun x h1 => wO (truth h1 x) fun t => wB t (wE (b h1) Q X) (Q x h1)) X := by
  unfold andE; simp only [wE_bnd]; congr 1; funext x h1; cases truth h1 x <;> simp [wB_if]
@[simp ↓] theorem w_orE {a : Option Out} {b : MH → Option Out} : wE (orE a b) Q X = wE a (fun x h1 => wO (truth h1 x) fun t => wB t (Q x h1) (wE (b h1) Q X)) X := by
  unfold orE; simp only [wE_bnd]; congr 1; funext x h1; cases truth h1 x <;> simp [wB_if]
@[simp ↓] theorem w_iteE {c : Option OutB} {a b : MH → Option Out} : wE (iteE c a b) Q X = wE c (fun t h1 => wB t (wE (a h1) Q X) (wE (b h1) Q X)) X := by unfold iteE; simp [wB_if]
@[simp ↓] theorem w_tupC {as : Option OutL} : wE (tupC as) Q X = wE as (fun vs h1 => vs.length ≤ sizeLine ∧ Q (.tup vs) h1) X := by
  unfold tupC; simp only [wE_bnd, wE_guard, wE_ok]
@[simp ↓] theorem w_newL {vs : List MV} : wE (newL vs h) Q X = (vs.length ≤ sizeLine ∧ Q (.ref h.length) (h ++ [.lst vs])) := by
  unfold newL; simp only [wE_guard, wE_ok]
@[simp ↓] theorem w_lstC {as : Option OutL} : wE (lstC as) Q X = wE as (fun vs h1 => vs.length ≤ sizeLine ∧ Q (.ref h1.length) (h1 ++ [.lst vs])) X := by unfold lstC; simp
@[simp ↓] theorem w_dicC0 : wE (dicC0 h) Q X = Q (.ref h.length) (h ++ [.dic []]) := rfl
@[simp ↓] theorem w_dicC1 {k : Option Out} {v : MH → Option Out} : wE (dicC1 k v) Q X = wE k (fun x h1 => wE (v h1) (fun y h2 => wO (key? x) fun q => Q (.ref h2.length) (h2 ++ [.dic [(q, y)]])) X) X := by
  unfold dicC1; simp only [wE_bnd]; congr 1; funext x h1; congr 1; funext y h2; cases key? x <;> simp
@[simp ↓] theorem w_itemC {a : Option Out} {i : MH → Option Out} : wE (itemC a i) Q X = wE a (fun x h1 => wE (i h1) (fun y h2 => wO (item x y h2) fun v => Q v h2) X) X := by unfold itemC; simp
@[simp ↓] theorem w_bdN {QO : Option Int → MH → Prop} : wE (bdN h) QO X = QO none h := rfl
@[simp ↓] theorem w_bdS {QO : Option Int → MH → Prop} {a : Option Out} : wE (bdS a) QO X = wE a (fun x h1 => wO (intV x) fun i => QO (some i) h1) X := by
  unfold bdS; simp only [wE_bnd]; congr 1; funext x h1; cases x <;> simp [intV]
@[simp ↓] theorem w_slcC {a : Option Out} {lo hi : MH → Option (Res (Option Int))} : wE (slcC a lo hi) Q X = wE a (fun x h1 => wE (lo h1) (fun l h2 => wE (hi h2) (fun r h3 => wO (slice x l r h3) fun p => Q p.1 p.2) X) X) X := by unfold slcC; simp
@[simp ↓] theorem w_attC {Y : Cxt} {f : Str} {a : Option Out} : wE (attC Y f a) Q X = wE a (fun x h1 => wE (eAttr Y x f h1) Q X) X := by unfold attC; simp
@[simp ↓] theorem w_isiC {G : Glob} {c : Str} {a : Option Out} : wE (isiC G c a) Q X = wE a (fun x h1 => wO (isI G h1 x c) fun b => Q (.bl b) h1) X := by unfold isiC; simp
@[simp ↓] theorem w_ssetC {a : Option Out} : wE (ssetC a) Q X = wE a (fun x h1 => wO (sortedSet x h1) fun p => Q p.1 p.2) X := by unfold ssetC; simp
@[simp ↓] theorem w_lrgC {a : Option Out} : wE (lrgC a) Q X = wE a (fun x h1 => wO (intV x) fun k => (-(2 ^ 62) ≤ k ∧ k.toNat ≤ 100000) ∧ wE (newL ((List.range k.toNat).map fun (i : Nat) => MV.int (i : Int)) h1) Q X) X := by
  unfold lrgC; simp only [wE_bnd]; congr 1; funext x h1; cases x <;> simp only [intV, wO_none, wO_some, wE_none, wE_guard]
@[simp ↓] theorem w_funC {call : CallF} {f : Str} {as : Option OutL} : wE (funC call f as) Q X = wE as (fun vs h1 => wE (call f vs h1) Q X) X := by unfold funC; simp
@[simp ↓] theorem w_makC {Y : Cxt} {f k : Str} {as : Option OutL} : wE (makC Y f k as) Q X = wE as (fun vs h1 => wE (make Y f k vs h1) Q X) X := by unfold makC; simp
@[simp ↓] theorem w_makK {Y : Cxt} {f k : Str} {n m : Nat} {as : Option OutL} {ks : MH → Option OutL} : wE (makK Y f k n m as ks) Q X = wE as (fun vs h1 => wE (ks h1) (fun ws h2 => (vs.length = n ∧ ws.length = m) ∧ wE (make Y f k (vs ++ ws) h2) Q X) X) X := by
  unfold makK; simp only [wE_bnd]; congr 1; funext x h1; congr 1; funext y h2; rw [wE_guard]
@[simp ↓] theorem w_make {Y : Cxt} {c k : Str} {vs : List MV} : wE (make Y c k vs h) Q X = wE (Y.call k (.ref h.length :: vs) (h ++ [.ins c []])) (fun v h1 => v = .non ∧ Q (.ref h.length) h1) X := by
  unfold make
  generalize Y.call k (.ref h.length :: vs) (h ++ [.ins c []]) = z
  rcases z with _ | ⟨v, h1⟩ | _
  · rfl
  · cases v <;> simp [made]
  · rfl
@[simp ↓] theorem w_bltC {bf : BF} {as : Option OutL} : wE (bltC bf as) Q X = wE as (fun vs h1 => wO (bf vs h1) fun p => Q p.1 p.2) X := by unfold bltC; simp
def lenX (Y : Cxt) (x : MV) (h : MH) : Option Out := match lenI Y "len" [x] h with
  | some r => r
  | none => fin (bLen [x] h)
@[simp ↓] theorem w_lenC {Y : Cxt} {a : Option Out} : wE (lenC Y (consA a nilA)) Q X = wE a (fun x h1 => wE (lenX Y x h1) Q X) X := by
  unfold lenC lenX; simp only [wE_bnd, w_consA, w_nilA]; try rfl
/-- no instance -/
def plainM (h : MH) : MV → Bool
  | .ref k => (match h[k]? with
    | some (.ins _ _) => false
    | _ => true)
  | _ => true
theorem ins_plain {x : MV} (p : plainM h x = true) : ins? h x = none := by
  unfold ins?
  split
  · split
    · rename_i e
      simp [plainM, e] at p
    · rfl
  · rfl
theorem lenX_plain {Y : Cxt} {x : MV} (p : plainM h x = true) : lenX Y x h = fin (bLen [x] h) := by
  have : lenI Y "len" [x] h = none := by
    have hi : insM Y "__len__" h x = none := by unfold insM; rw [ins_plain p]
    unfold lenI
    rw [if_pos rfl]
    simp only [hi]
  unfold lenX
  rw [this]
@[simp] theorem lenX_str {Y : Cxt} {x : Str} : wE (lenX Y (.str x) h) Q X = (x.length ≤ sizeLine ∧ Q (.int x.length) h) := by
  rw [lenX_plain rfl]; unfold bLen; by_cases c : x.length ≤ sizeLine <;> simp [c]
@[simp] theorem lenX_tup {Y : Cxt} {x : List MV} : wE (lenX Y (.tup x) h) Q X = Q (.int x.length) h := by rw [lenX_plain rfl]; rfl
@[simp] theorem lenX_frz {Y : Cxt} {x : List Int} : wE (lenX Y (.frz x) h) Q X = Q (.int x.length) h := by rw [lenX_plain rfl]; rfl
theorem lenX_lst {Y : Cxt} {k : Nat} {x : List MV} (e : h[k]? = some (.lst x)) : wE (lenX Y (.ref k) h) Q X = Q (.int x.length) h := by rw [lenX_plain (by simp [plainM, e])]; simp [bLen, e]
theorem lenX_dic {Y : Cxt} {k : Nat} {x : List (Key × MV)} (e : h[k]? = some (.dic x)) : wE (lenX Y (.ref k) h) Q X = Q (.int x.length) h := by rw [lenX_plain (by simp [plainM, e])]; simp [bLen, e]
def metX (Y : Cxt) (m : Str) (x : MV) (as : MH → Option OutL) (h : MH) : Option Out := match insM Y m h x with
  | some (some k) => bnd (as h) fun vs h2 => Y.call k (x :: vs) h2
  | some none => none
  | none => if mty m h x = true then bnd (as h) fun vs h2 => fin (mcall m x vs h2) else none
@[simp ↓] theorem w_metC {Y : Cxt} {m : Str} {a : Option Out} {as : MH → Option OutL} : wE (metC Y m a as) Q X = wE a (fun x h1 => wE (metX Y m x as h1) Q X) X := by
  unfold metC metX; simp only [wE_bnd]; try rfl
theorem metX_plain {Y : Cxt} {m : Str} {x : MV} {as : MH → Option OutL} (p : plainM h x = true) : wE (metX Y m x as h) Q X = (mty m h x = true ∧ wE (as h) (fun vs h2 => wO (mcall m x vs h2) fun p => Q p.1 p.2) X) := by
  have : insM Y m h x = none := by unfold insM; rw [ins_plain p]
  unfold metX
  rw [this]
  simp only [wE_guard, wE_bnd, wE_fin]
@[simp] theorem metX_str {Y : Cxt} {m : Str} {x : Str} {as : MH → Option OutL} : wE (metX Y m (.str x) as h) Q X = ((m = "split" ∨ m = "join" ∨ m = "startswith" ∨ m = "upper") ∧ wE (as h) (fun vs h2 => wO (mcall m (.str x) vs h2) fun p => Q p.1 p.2) X) := by
  rw [metX_plain rfl]; simp [mty]
theorem metX_lst {Y : Cxt} {m : Str} {k : Nat} {xs : List MV} {as : MH → Option OutL} (e : h[k]? = some (.lst xs)) : wE (metX Y m (.ref k) as h) Q X = ((m = "append" ∨ m = "extend" ∨ m = "pop") ∧ wE (as h) (fun vs h2 => wO (mcall m (.ref k) vs h2) fun p => Q p.1 p.2) X) := by
  rw [metX_plain (by simp [plainM, e])]; simp [mty, e]
theorem metX_dic {Y : Cxt} {m : Str} {k : Nat} {xs : List (Key × MV)} {as : MH → Option OutL} (e : h[k]? = some (.dic xs)) : wE (metX Y m (.ref k) as h) Q X = (m = "get" ∧ wE (as h) (fun vs h2 => wO (mcall m (.ref k) vs h2) fun p => Q p.1 p.2) X) := by
  rw [metX_plain (by simp [plainM, e])]; simp [mty, e]
@[simp ↓] theorem w_lcC {w : Option OutI} {bd : MV → MH → Option MEnv} {ts : MEnv → MH → Option OutB} {el : MEnv → MH → Option Out} : wE (lcC w bd ts el) Q X = wE w (fun w h1 => wE (compL bd ts el LF w h1) (fun vs h2 => vs.length ≤ sizeLine ∧ Q (.ref h2.length) (h2 ++ [.lst vs])) X) X := by unfold lcC; simp
@[simp ↓] theorem w_iterC {a : Option Out} : wE (iterC a) QI X = wE a (fun x h1 => wO (iterOf x h1) fun w => QI w h1) X := by unfold iterC; simp
@[simp ↓] theorem w_rngC {n : Nat} {as : Option OutL} : wE (rngC n as) QI X = wE as (fun vs h1 => if vs.length = n then wO (rangeOf vs) (fun w => QI w h1) else False) X := by unfold rngC; simp
@[simp ↓] theorem w_enumC {n : Nat} {as : Option OutL} : wE (enumC n as) QI X = wE as (fun vs h1 => if vs.length = n then wO (enumOf vs h1) (fun w => QI w h1) else False) X := by unfold enumC; simp
@[simp ↓] theorem w_zipC {n : Nat} {as : Option OutL} : wE (zipC n as) QI X = wE as (fun vs h1 => if vs.length = n then wO (zipOf vs h1) (fun w => QI w h1) else False) X := by unfold zipC; simp
@[simp ↓] theorem w_nxS : wS (nxS e h) D = D.nx e h := rfl
@[simp ↓] theorem w_bkS : wS (bkS e h) D = D.bk e h := rfl
@[simp ↓] theorem w_ctS : wS (ctS e h) D = D.ct e h := rfl
@[simp ↓] theorem w_rtN : wS (rtN h) D = D.rt .non h := rfl
@[simp ↓] theorem w_asgN {i : Nat} {a : Option Out} : wS (asgN i e a) D = wE a (fun v h1 => D.nx (setE e i v) h1) (fun x h1 => D.ex x e h1) := by unfold asgN; simp
@[simp ↓] theorem w_retS {a : Option Out} : wS (retS e a) D = wE a (fun v h1 => D.rt v h1) (fun x h1 => D.ex x e h1) := by unfold retS; simp
@[simp ↓] theorem w_iteS {c : Option OutB} {a b : MH → Option OutS} : wS (iteS e c a b) D = wE c (fun t h1 => wB t (wS (a h1) D) (wS (b h1) D)) (fun x h1 => D.ex x e h1) := by unfold iteS; simp [wB_if]
@[simp ↓] theorem w_expS {a : Option Out} : wS (expS e a) D = wE a (fun v h1 => D.nx e h1) (fun x h1 => D.ex x e h1) := by unfold expS; simp
@[simp ↓] theorem w_asgF {Y : Cxt} {f : Str} {a : Option Out} {o : MH → Option Out} : wS (asgF Y f e a o) D = wE a (fun v h1 => wE (o h1) (fun x h2 => wO (setAttrM Y x f v h2) fun h3 => D.nx e h3) (fun x h1 => D.ex x e h1)) (fun x h1 => D.ex x e h1) := by unfold asgF; simp
@[simp ↓] theorem w_asgI {a : Option Out} {o i : MH → Option Out} : wS (asgI e a o i) D = wE a (fun v h1 => wE (o h1) (fun x h2 => wE (i h2) (fun y h3 => wO (mSetI x y v h3) fun h4 => D.nx e h4) (fun x h1 => D.ex x e h1)) (fun x h1 => D.ex x e h1)) (fun x h1 => D.ex x e h1) := by unfold asgI; simp
@[simp ↓] theorem w_asgT {n : Nat} {a : Option Out} {k : List MV → MH → Option OutS} : wS (asgT n e a k) D = wE a (fun v h1 => wO (seq? h1 v) fun vs => vs.length = n ∧ wS (k vs h1) D) (fun x h1 => D.ex x e h1) := by
  unfold asgT; simp only [wS_thnS]; congr 1; funext v h1; cases seq? h1 v with
  | none => rfl
  | some vs => simp only [wO_some]; split <;> simp_all
@[simp ↓] theorem w_tgNil : wS (tgNil e [] h) D = D.nx e h := rfl
@[simp ↓] theorem w_tgN {i : Nat} {v : MV} {vs : List MV} {k : MEnv → List MV → Option OutS} : wS (tgN i e (v :: vs) k) D = wS (k (setE e i v) vs) D := rfl
@[simp ↓] theorem w_tgI {v : MV} {vs : List MV} {o : Option Out} {i : MH → Option Out} {k : List MV → MH → Option OutS} : wS (tgI e (v :: vs) o i k) D = wE o (fun x h1 => wE (i h1) (fun y h2 => wO (mSetI x y v h2) fun h3 => wS (k vs h3) D) (fun x h1 => D.ex x e h1)) (fun x h1 => D.ex x e h1) := by
  show wS (thnS e o fun x h1 => thnS e (i h1) fun y h2 => _) D = _
  simp only [wS_thnS]; congr 1; funext x h1; congr 1; funext y h2; cases mSetI x y v h2 <;> simp
@[simp ↓] theorem w_forC {w : Option OutI} {bd : MV → MEnv → MH → Option MEnv} {body : MEnv → MH → Option OutS} : wS (forC e w bd body) D = wE w (fun w h1 => wS (forL bd body LF w e h1) D) (fun x h1 => D.ex x e h1) := by unfold forC; simp
@[simp ↓] theorem w_whlC {ts : MEnv → MH → Option OutB} {body : MEnv → MH → Option OutS} : wS (whlC e h ts body) D = wS (whileL ts body LF e h) D := rfl
@[simp ↓] theorem w_raiC {c : Str} {a : Option Out} : wS (raiC c e a) D = wE a (fun v h1 => D.ex (.exc c v) e h1) (fun x h1 => D.ex x e h1) := by unfold raiC; simp
@[simp ↓] theorem w_tryS {G : Glob} {c : Str} {i j : Nat} {o : Option OutS} : wS (tryS G c i j o) D = wS o { D with ex := fun x e1 h1 => wO (isA G x c) fun b => wB b (D.nx ((setE e1 j x).set i none) h1) (D.ex x e1 h1) } := by
  rcases o with _ | ⟨_ | _ | _ | _ | _⟩ <;> try rfl
  rename_i x e h
  unfold tryS
  simp only
  rcases q : isA G x c with _ | _ | _ <;> simp [q, wS, wB]
end
/-! ### one thing after another: what comes later is not looked at -/
section
variable {α : Type}
@[simp ↓] theorem wB_t {A B : Prop} : wB true A B = A := rfl
@[simp ↓] theorem wB_f {A B : Prop} : wB false A B = B := rfl
theorem wB.mk {b : Bool} {A B : Prop} (h1 : b = true → A) (h2 : b = false → B) : wB b A B := by cases b <;> simp [wB, h1, h2]
theorem wE_congr {o o' : Option (Res α)} {Q : α → MH → Prop} {X : MV → MH → Prop} (h : o = o') : wE o Q X = wE o' Q X := by rw [h]
theorem wO_congr {o o' : Option α} {P : α → Prop} (h : o = o') : wO o P = wO o' P := by rw [h]
theorem wS_congr {o o' : Option OutS} {D : Ds} (h : o = o') : wS o D = wS o' D := by rw [h]
theorem wB_congr {b b' : Bool} {A B : Prop} (h : b = b') : wB b A B = wB b' A B := by rw [h]
end
/-! ### ends of a suite -/
section
variable {D : Ds} {e : MEnv} {h : MH} {a : Option Out} {k : MEnv → MH → Option OutS}
@[simp ↓] theorem w_seq_ret : wS (seqS (retS e a) k) D = wE a (fun v h1 => D.rt v h1) (fun x h1 => D.ex x e h1) := by rw [wS_seqS, w_retS]
@[simp ↓] theorem w_seq_rtN : wS (seqS (rtN h) k) D = D.rt .non h := by rw [wS_seqS, w_rtN]
@[simp ↓] theorem w_seq_nx : wS (seqS (nxS e h) k) D = wS (k e h) D := by rw [wS_seqS, w_nxS]
@[simp ↓] theorem w_seq_bk : wS (seqS (bkS e h) k) D = D.bk e h := by rw [wS_seqS, w_bkS]
@[simp ↓] theorem w_seq_ct : wS (seqS (ctS e h) k) D = D.ct e h := by rw [wS_seqS, w_ctS]
@[simp ↓] theorem w_seq_rai {c : Str} : wS (seqS (raiC c e a) k) D = wE a (fun v h1 => D.ex (.exc c v) e h1) (fun x h1 => D.ex x e h1) := by rw [wS_seqS, w_raiC]
end
/-! ### what is kept of a heap -/
def Keep (ms : List Nat) (h h' : MH) : Prop := h.length ≤ h'.length ∧ ∀ n, n < h.length → n ∉ ms → h'[n]? = h[n]?
section
variable {ms ms' : List Nat} {h h' h'' : MH}
theorem Keep.refl : Keep ms h h := ⟨Nat.le_refl _, fun _ _ _ => rfl⟩
theorem Keep.trans (a : Keep ms h h') (b : Keep ms h' h'') : Keep ms h h'' := ⟨Nat.le_trans a.1 b.1, fun n hn hm => (b.2 n (Nat.lt_of_lt_of_le hn a.1) hm).trans (a.2 n hn hm)⟩
theorem Keep.mono (a : Keep ms h h') (s : ∀ n ∈ ms, n ∈ ms') : Keep ms' h h' := ⟨a.1, fun n hn hm => a.2 n hn fun z => hm (s n z)⟩
theorem Keep.all (a : Keep [] h h') : Keep ms h h' := a.mono fun _ z => nomatch z
theorem Keep.app (xs : MH) : Keep ms h (h ++ xs) := ⟨by simp, fun n hn _ => List.getElem?_append_left hn⟩
theorem Keep.push (a : Keep ms h h') (xs : MH) : Keep ms h (h' ++ xs) := a.trans (Keep.app xs)
theorem Keep.set (a : Keep ms h h') {k : Nat} {o : MO} (hk : k ∈ ms ∨ h.length ≤ k) : Keep ms h (h'.set k o) := ⟨by simp [a.1], fun n hn hm => by
  have : k ≠ n := fun z => by
    rcases hk with hk | hk
    · exact hm (z ▸ hk)
    · omega
  rw [List.getElem?_set_ne this]
  exact a.2 n hn hm⟩
theorem Keep.at (a : Keep ms h h') {n : Nat} {o : MO} (e : h[n]? = some o) (hm : n ∉ ms) : h'[n]? = some o := by
  have hn : n < h.length := (List.getElem?_eq_some_iff.mp e).1
  rw [a.2 n hn hm, e]
/-- writes at places that are new for the outer one -/
theorem Keep.inner (a : Keep ms h h') (b : Keep ms' h' h'') (s : ∀ n ∈ ms', n ∈ ms ∨ h.length ≤ n) : Keep ms h h'' := ⟨Nat.le_trans a.1 b.1, fun n hn hm => by
  rw [b.2 n (Nat.lt_of_lt_of_le hn a.1) fun z => by
    rcases s n z with q | q
    · exact hm q
    · omega]
  exact a.2 n hn hm⟩
end
/-! ### walks -/
/-- what a walk gives as long as the heap is kept -/
def Its (ms : List Nat) (w : It) (h : MH) (items : List MV) : Prop := ∃ it : Nat → It, it 0 = w ∧ ∀ i h', Keep ms h h' → (it i).next h' = some ((items[i]?).map fun x => (x, it (i + 1)))
section
variable {ms : List Nat} {h : MH}
theorem Its.lst {k : Nat} {xs : List MV} (e : h[k]? = some (.lst xs)) (hm : k ∉ ms) : Its ms (.lst k 0) h xs := ⟨fun i => .lst k i, rfl, fun i h' kp => by
  have e' := kp.at e hm
  cases q : xs[i]? <;> simp [It.next, e', q]⟩
theorem Its.enum {k : Nat} {xs : List MV} (e : h[k]? = some (.lst xs)) (hm : k ∉ ms) : Its ms (.enum k 0) h (xs.zipIdx.map fun p => .tup [.int (p.2 : Nat), p.1]) := ⟨fun i => .enum k i, rfl, fun i h' kp => by
  have e' := kp.at e hm
  rw [List.getElem?_map, List.getElem?_zipIdx]
  cases q : xs[i]? <;> simp [It.next, e', q]⟩
theorem drop_none {α : Type} {xs : List α} {i : Nat} (q : xs[i]? = none) : xs.drop i = [] := List.drop_of_length_le (List.getElem?_eq_none_iff.mp q)
theorem drop_some {α : Type} {xs : List α} {i : Nat} {x : α} (q : xs[i]? = some x) : xs.drop i = x :: xs.drop (i + 1) := by
  obtain ⟨hi, hx⟩ := List.getElem?_eq_some_iff.mp q
  rw [List.drop_eq_getElem_cons hi, hx]
theorem Its.tup {xs : List MV} : Its ms (.tup xs) h xs := ⟨fun i => .tup (xs.drop i), rfl, fun i h' kp => by
  show (It.tup (xs.drop i)).next h' = _
  cases q : xs[i]? with
  | none => rw [drop_none q]; rfl
  | some x => rw [drop_some q]; rfl⟩
theorem Its.str {cs : List Nat} : Its ms (.str cs) h (cs.map fun c => .str ⟨#[c]⟩) := ⟨fun i => .str (cs.drop i), rfl, fun i h' kp => by
  show (It.str (cs.drop i)).next h' = _
  rw [List.getElem?_map]
  cases q : cs[i]? with
  | none => rw [drop_none q]; rfl
  | some x => rw [drop_some q]; rfl⟩
theorem Its.rng {lo : Int} {n : Nat} : Its ms (.rng lo n) h ((List.range n).map fun (i : Nat) => .int (lo + (i : Int))) := ⟨fun i => .rng (lo + i) (n - i), by simp, fun i h' kp => by
  show (It.rng (lo + (i : Int)) (n - i)).next h' = _
  rw [List.getElem?_map]
  by_cases hi : i < n
  · have e : n - i = (n - (i + 1)) + 1 := by omega
    rw [e, List.getElem?_range hi]
    simp [It.next]
    omega
  · have e : n - i = 0 := by omega
    rw [e, List.getElem?_eq_none (by simpa using hi)] <;> rfl⟩
theorem Its.zip : ∀ {as bs : List MV}, Its ms (.zip as bs) h ((as.zip bs).map fun p => .tup [p.1, p.2]) := fun {as bs} => ⟨fun i => .zip (as.drop i) (bs.drop i), rfl, fun i h' kp => by
  show (It.zip (as.drop i) (bs.drop i)).next h' = _
  rw [List.getElem?_map]
  cases qa : as[i]? with
  | none => rw [drop_none qa, List.getElem?_eq_none (by have := List.getElem?_eq_none_iff.mp qa; simp; omega)]; rfl
  | some a =>
    cases qb : bs[i]? with
    | none => rw [drop_some qa, drop_none qb, List.getElem?_eq_none (by have := List.getElem?_eq_none_iff.mp qb; simp; omega)]; rfl
    | some b => rw [drop_some qa, drop_some qb, show (as.zip bs)[i]? = some (a, b) from List.getElem?_zip_eq_some.mpr ⟨qa, qb⟩]; rfl⟩
end
/-! ### loops -/
section
variable {α : Type} {ms : List Nat}
theorem split_at {xs : List α} {done rest : List α} {x : α} (e : xs = done ++ x :: rest) : xs[done.length]? = some x := by subst e; simp
/-- a comprehension: I done acc h behind the items done -/
theorem w_comp {QL : List MV → MH → Prop} {X : MV → MH → Prop} {w : It} {h : MH} {bd : MV → MH → Option MEnv} {ts : MEnv → MH → Option OutB} {el : MEnv → MH → Option Out} (xs : List α) (g : α → MV) (I : List α → List MV → MH → Prop)
    (hw : Its ms w h (xs.map g)) (hl : xs.length < 1000000) (keep : ∀ done acc h', I done acc h' → Keep ms h h')
    (turn : ∀ done x rest acc h', xs = done ++ x :: rest → I done acc h' → ∃ e1, bd (g x) h' = some e1 ∧ wE (ts e1 h') (fun b h1 => wB b (wE (el e1 h1) (fun v h2 => I (done ++ [x]) (acc ++ [v]) h2) no) (I (done ++ [x]) acc h1)) no)
    (h0 : I [] [] h) (fin : ∀ acc h', I xs acc h' → QL acc h') : wE (compL bd ts el LF w h) QL X := by
  obtain ⟨it, rfl, nx⟩ := hw
  have key : ∀ (k : Nat) (done rest : List α) (acc : List MV) (h' : MH) (n : Nat), rest.length = k → xs = done ++ rest → k < n → I done acc h' → wE (compL bd ts el n (it done.length) h') (fun vs h2 => QL (acc ++ vs) h2) no := by
    intro k
    induction k with
    | zero =>
      intro done rest acc h' n hk hx hn hI
      obtain ⟨n, rfl⟩ : ∃ m, n = m + 1 := ⟨n - 1, by omega⟩
      have hr : rest = [] := List.length_eq_zero_iff.mp hk
      subst hr
      rw [List.append_nil] at hx
      subst hx
      have e := nx xs.length h' (keep _ _ _ hI)
      rw [List.getElem?_eq_none (by simp)] at e
      unfold compL
      rw [e]
      simp only [Option.map_none, wE_ok, List.append_nil]
      exact fin _ _ hI
    | succ k ih =>
      intro done rest acc h' n hk hx hn hI
      obtain ⟨n, rfl⟩ : ∃ m, n = m + 1 := ⟨n - 1, by omega⟩
      match rest, hk with
      | x :: rest, hk =>
        obtain ⟨e1, hb, ht⟩ := turn done x rest acc h' hx hI
        have e := nx done.length h' (keep _ _ _ hI)
        rw [List.getElem?_map, split_at hx] at e
        have hx2 : xs = (done ++ [x]) ++ rest := by rw [hx]; simp
        have hl2 : (done ++ [x]).length = done.length + 1 := by simp
        unfold compL
        rw [e]
        simp only [Option.map_some, hb, wE_bnN]
        refine wE_mono ht (fun b h1 hq => ?_) fun _ _ z => z
        cases b with
        | true =>
          have hq : wE (el e1 h1) _ no := hq
          simp only [↓reduceIte, wE_bnN, wE_ok]
          refine wE_mono hq (fun v h2 hq2 => ?_) fun _ _ z => z
          have := ih (done ++ [x]) rest (acc ++ [v]) h2 n (by simpa using hk) hx2 (by omega) hq2
          rw [hl2] at this
          simp only [List.append_assoc, List.singleton_append] at this
          refine wE_mono this (fun vs h3 z => z) fun _ _ z => z
        | false =>
          have hq : I _ _ _ := hq
          simp only [Bool.false_eq_true, ↓reduceIte]
          have := ih (done ++ [x]) rest acc h1 n (by simpa using hk) hx2 (by omega) hq
          rw [hl2] at this
          exact this
  exact (key xs.length [] xs [] h LF rfl rfl hl h0).to fun vs h2 z => by simpa using z
/-- .. whose elements do not hang on one another -/
theorem w_map {QL : List MV → MH → Prop} {X : MV → MH → Prop} {w : It} {h : MH} {bd : MV → MH → Option MEnv} {ts : MEnv → MH → Option OutB} {el : MEnv → MH → Option Out} (xs : List α) (g f : α → MV)
    (hw : Its ms w h (xs.map g)) (hl : xs.length < 1000000)
    (turn : ∀ x h', x ∈ xs → Keep ms h h' → ∃ e1, bd (g x) h' = some e1 ∧ wE (ts e1 h') (fun b h1 => b = true ∧ wE (el e1 h1) (fun v h2 => v = f x ∧ Keep ms h' h2) no) no)
    (fin : ∀ h', Keep ms h h' → QL (xs.map f) h') : wE (compL bd ts el LF w h) QL X := by
  refine w_comp xs g (fun done acc h' => acc = done.map f ∧ Keep ms h h') hw hl (fun _ _ _ z => z.2) (fun done x rest acc h' hx hI => ?_) ⟨rfl, Keep.refl⟩ fun acc h' hI => by rw [hI.1]; exact fin h' hI.2
  obtain ⟨e1, hb, ht⟩ := turn x h' (by rw [hx]; simp) hI.2
  refine ⟨e1, hb, wE_mono ht (fun b h1 hq => ?_) fun _ _ z => z⟩
  obtain ⟨rfl, hq⟩ := hq
  refine wE_mono hq (fun v h2 hv => ?_) fun _ _ z => z
  obtain ⟨rfl, hk⟩ := hv
  exact ⟨by rw [hI.1]; simp, hI.2.trans hk⟩
/-- .. and a test -/
theorem w_filter {QL : List MV → MH → Prop} {X : MV → MH → Prop} {w : It} {h : MH} {bd : MV → MH → Option MEnv} {ts : MEnv → MH → Option OutB} {el : MEnv → MH → Option Out} (xs : List α) (g f : α → MV) (p : α → Bool)
    (hw : Its ms w h (xs.map g)) (hl : xs.length < 1000000)
    (turn : ∀ x h', x ∈ xs → Keep ms h h' → ∃ e1, bd (g x) h' = some e1 ∧ wE (ts e1 h') (fun b h1 => b = p x ∧ Keep ms h' h1 ∧ (b = true → wE (el e1 h1) (fun v h2 => v = f x ∧ Keep ms h1 h2) no)) no)
    (fin : ∀ h', Keep ms h h' → QL ((xs.filter p).map f) h') : wE (compL bd ts el LF w h) QL X := by
  refine w_comp xs g (fun done acc h' => acc = (done.filter p).map f ∧ Keep ms h h') hw hl (fun _ _ _ z => z.2) (fun done x rest acc h' hx hI => ?_) ⟨rfl, Keep.refl⟩ fun acc h' hI => by rw [hI.1]; exact fin h' hI.2
  obtain ⟨e1, hb, ht⟩ := turn x h' (by rw [hx]; simp) hI.2
  refine ⟨e1, hb, wE_mono ht (fun b h1 hq => ?_) fun _ _ z => z⟩
  obtain ⟨hp, hk1, hq⟩ := hq
  cases b with
  | true =>
    refine wE_mono (hq rfl) (fun v h2 hv => ?_) fun _ _ z => z
    obtain ⟨rfl, hk⟩ := hv
    exact ⟨by rw [hI.1]; simp [List.filter_append, List.filter_cons, ← hp], hI.2.trans (hk1.trans hk)⟩
  | false =>
    exact ⟨by rw [hI.1]; simp [List.filter_append, List.filter_cons, ← hp], hI.2.trans hk1⟩
/-- a for: I done e h behind the items done -/
theorem w_for {D : Ds} {w : It} {e : MEnv} {h : MH} {bd : MV → MEnv → MH → Option MEnv} {body : MEnv → MH → Option OutS} (xs : List α) (g : α → MV) (I : List α → MEnv → MH → Prop)
    (hw : Its ms w h (xs.map g)) (hl : xs.length < 1000000) (keep : ∀ done e h', I done e h' → Keep ms h h')
    (turn : ∀ done x rest e h', xs = done ++ x :: rest → I done e h' → ∃ e1, bd (g x) e h' = some e1 ∧ wS (body e1 h') { nx := I (done ++ [x]), rt := D.rt, bk := D.nx, ct := I (done ++ [x]), ex := D.ex })
    (h0 : I [] e h) (fin : ∀ e h', I xs e h' → D.nx e h') : wS (forL bd body LF w e h) D := by
  obtain ⟨it, rfl, nx⟩ := hw
  have key : ∀ (k : Nat) (done rest : List α) (e : MEnv) (h' : MH) (n : Nat), rest.length = k → xs = done ++ rest → k < n → I done e h' → wS (forL bd body n (it done.length) e h') D := by
    intro k
    induction k with
    | zero =>
      intro done rest e h' n hk hx hn hI
      obtain ⟨n, rfl⟩ : ∃ m, n = m + 1 := ⟨n - 1, by omega⟩
      have hr : rest = [] := List.length_eq_zero_iff.mp hk
      subst hr
      rw [List.append_nil] at hx
      subst hx
      have e := nx xs.length h' (keep _ _ _ hI)
      rw [List.getElem?_eq_none (by simp)] at e
      unfold forL
      rw [e]
      exact fin _ _ hI
    | succ k ih =>
      intro done rest e h' n hk hx hn hI
      obtain ⟨n, rfl⟩ : ∃ m, n = m + 1 := ⟨n - 1, by omega⟩
      match rest, hk with
      | x :: rest, hk =>
        obtain ⟨e1, hb, ht⟩ := turn done x rest e h' hx hI
        have e := nx done.length h' (keep _ _ _ hI)
        rw [List.getElem?_map, split_at hx] at e
        have hx2 : xs = (done ++ [x]) ++ rest := by rw [hx]; simp
        have hl2 : (done ++ [x]).length = done.length + 1 := by simp
        have go := fun e2 h2 hq => ih (done ++ [x]) rest e2 h2 n (by simpa using hk) hx2 (by omega) hq
        rw [hl2] at go
        unfold forL
        rw [e]
        simp only [Option.map_some, hb]
        revert ht
        generalize body e1 h' = z
        intro ht
        rcases z with _ | ⟨_ | _ | _ | _ | _⟩
        · exact ht
        · exact go _ _ ht
        · exact ht
        · exact ht
        · exact go _ _ ht
        · exact ht
  exact key xs.length [] xs e h LF rfl rfl hl h0
/-- a while, by a measure -/
theorem w_while {D : Ds} {e : MEnv} {h : MH} {ts : MEnv → MH → Option OutB} {body : MEnv → MH → Option OutS} (I : Nat → MEnv → MH → Prop) (m : Nat) (hm : m < 1000000)
    (turn : ∀ n e h', I n e h' → wE (ts e h') (fun b h1 => wB b (wS (body e h1) { nx := fun e h => ∃ k, k < n ∧ I k e h, rt := D.rt, bk := D.nx, ct := fun e h => ∃ k, k < n ∧ I k e h, ex := D.ex }) (D.nx e h1)) (fun x h1 => D.ex x e h1))
    (h0 : I m e h) : wS (whileL ts body LF e h) D := by
  have key : ∀ (n m : Nat) (e : MEnv) (h : MH), m < n → I m e h → wS (whileL ts body n e h) D := by
    intro n
    induction n with
    | zero => exact fun m e h hm => absurd hm (Nat.not_lt_zero _)
    | succ n ih =>
      intro m e h hm hI
      unfold whileL
      rw [wS_thnS]
      refine wE_mono (turn m e h hI) (fun b h1 hq => ?_) fun _ _ z => z
      cases b with
      | false => exact hq
      | true =>
        have hq : wS (body e h1) _ := hq
        simp only [↓reduceIte]
        have go : ∀ e2 h2, (∃ k, k < m ∧ I k e2 h2) → wS (whileL ts body n e2 h2) D := fun e2 h2 ⟨k, hk, hI⟩ => ih k e2 h2 (by omega) hI
        revert hq
        generalize body e h1 = z
        intro hq
        rcases z with _ | ⟨_ | _ | _ | _ | _⟩
        · exact hq
        · exact go _ _ hq
        · exact hq
        · exact hq
        · exact go _ _ hq
        · exact hq
  exact key LF m e h hm h0
end
end Ev
end T_Wq
section T_Wv
set_option linter.all false
set_option maxRecDepth 100000
/-! Wv: what the evaluator's operations give, value by value. -/
namespace Ev
open PySem L2
@[simp] theorem sizeLine_is : sizeLine = 16777216 := rfl
/-- a text's signs -/
def tl (x : Str) : List Nat := x.cps.toList
/-! ### names' places -/
@[simp] theorem envGet_zero {o : Option MV} {e : MEnv} : envGet (o :: e) 0 = o := rfl
@[simp] theorem envGet_succ {o : Option MV} {e : MEnv} {n : Nat} : envGet (o :: e) (n + 1) = envGet e n := rfl
@[simp] theorem setE_zero {o : Option MV} {e : MEnv} {v : MV} : setE (o :: e) 0 v = some v :: e := rfl
@[simp] theorem setE_succ {o : Option MV} {e : MEnv} {n : Nat} {v : MV} : setE (o :: e) (n + 1) v = o :: setE e n v := rfl
@[simp] theorem wipeE_nil {e : MEnv} : wipeE e [] = e := rfl
@[simp] theorem wipeE_cons {e : MEnv} {i : Nat} {r : List Nat} : wipeE e (i :: r) = (wipeE e r).set i none := rfl
@[simp] theorem bdT_tup {is : List Nat} {vs : List MV} {e : MEnv} : bdT is (.tup vs) e = setEs e is vs := rfl
@[simp] theorem setEs_nil {e : MEnv} : setEs e [] [] = some e := rfl
@[simp] theorem setEs_cons {e : MEnv} {i : Nat} {is : List Nat} {v : MV} {vs : List MV} : setEs e (i :: is) (v :: vs) = setEs (setE e i v) is vs := rfl
/-! ### comparisons -/
section
variable {h : MH} {i j : Int} {a b : Str} {p q : Bool} {x y : MV} {k : Nat} {Y : Cxt} {xs ys : List MV}
@[simp] theorem cmp_lt_int : cmp .Lt (.int i) (.int j) h = some (decide (i < j)) := rfl
@[simp] theorem cmp_le_int : cmp .LtE (.int i) (.int j) h = some (decide (i ≤ j)) := rfl
@[simp] theorem cmp_gt_int : cmp .Gt (.int i) (.int j) h = some (decide (j < i)) := rfl
@[simp] theorem cmp_ge_int : cmp .GtE (.int i) (.int j) h = some (decide (j ≤ i)) := rfl
@[simp] theorem cmp_is_non : cmp .Is .non .non h = some true := rfl
@[simp] theorem cmp_is_bl : cmp .Is (.bl p) .non h = some false := rfl
@[simp] theorem cmp_is_int : cmp .Is (.int i) .non h = some false := rfl
@[simp] theorem cmp_is_str : cmp .Is (.str a) .non h = some false := rfl
@[simp] theorem cmp_is_tup : cmp .Is (.tup xs) .non h = some false := rfl
@[simp] theorem cmp_is_ref : cmp .Is (.ref k) .non h = some false := rfl
@[simp] theorem cmp_is_exc : cmp .Is (.exc a x) .non h = some false := rfl
@[simp] theorem cmp_isn_non : cmp .IsNot .non .non h = some false := rfl
@[simp] theorem cmp_isn_bl : cmp .IsNot (.bl p) .non h = some true := rfl
@[simp] theorem cmp_isn_int : cmp .IsNot (.int i) .non h = some true := rfl
@[simp] theorem cmp_isn_str : cmp .IsNot (.str a) .non h = some true := rfl
@[simp] theorem cmp_isn_tup : cmp .IsNot (.tup xs) .non h = some true := rfl
@[simp] theorem cmp_isn_ref : cmp .IsNot (.ref k) .non h = some true := rfl
@[simp] theorem cmp_isn_exc : cmp .IsNot (.exc a x) .non h = some true := rfl
@[simp] theorem cmp_in : cmp .In x y h = inD h x y := rfl
@[simp] theorem cmp_nin : cmp .NotIn x y h = (inD h x y).map (!·) := rfl
theorem cmp_eq : cmp .Eq x y h = eqD h x y := rfl
theorem cmp_ne : cmp .NotEq x y h = (eqD h x y).map (!·) := rfl
theorem eqM_none (e : ins? h x = none) : eqM Y h x y = none := by unfold eqM; rw [e]
theorem eCmp_eq (e : ins? h x = none) : eCmp Y .Eq x y h = at_ h ((eqD h x y).map .bl) := by
  unfold eCmp
  simp only [eqM_none e, cmp_eq]
theorem eCmp_ne (e : ins? h x = none) : eCmp Y .NotEq x y h = at_ h (((eqD h x y).map (!·)).map .bl) := by
  unfold eCmp
  simp only [eqM_none e, cmp_ne]
@[simp] theorem eqC_int : eCmp Y .Eq (.int i) y h = at_ h ((eqD h (.int i) y).map .bl) := eCmp_eq rfl
@[simp] theorem eqC_str : eCmp Y .Eq (.str a) y h = at_ h ((eqD h (.str a) y).map .bl) := eCmp_eq rfl
@[simp] theorem eqC_bl : eCmp Y .Eq (.bl p) y h = at_ h ((eqD h (.bl p) y).map .bl) := eCmp_eq rfl
@[simp] theorem eqC_non : eCmp Y .Eq .non y h = at_ h ((eqD h .non y).map .bl) := eCmp_eq rfl
@[simp] theorem eqC_tup : eCmp Y .Eq (.tup xs) y h = at_ h ((eqD h (.tup xs) y).map .bl) := eCmp_eq rfl
@[simp] theorem neC_int : eCmp Y .NotEq (.int i) y h = at_ h (((eqD h (.int i) y).map (!·)).map .bl) := eCmp_ne rfl
@[simp] theorem neC_str : eCmp Y .NotEq (.str a) y h = at_ h (((eqD h (.str a) y).map (!·)).map .bl) := eCmp_ne rfl
@[simp] theorem neC_bl : eCmp Y .NotEq (.bl p) y h = at_ h (((eqD h (.bl p) y).map (!·)).map .bl) := eCmp_ne rfl
@[simp] theorem neC_non : eCmp Y .NotEq .non y h = at_ h (((eqD h .non y).map (!·)).map .bl) := eCmp_ne rfl
@[simp] theorem neC_tup : eCmp Y .NotEq (.tup xs) y h = at_ h (((eqD h (.tup xs) y).map (!·)).map .bl) := eCmp_ne rfl
theorem eqC_lst (e : h[k]? = some (.lst xs)) : eCmp Y .Eq (.ref k) y h = at_ h ((eqD h (.ref k) y).map .bl) := eCmp_eq (by simp [ins?, e])
theorem neC_lst (e : h[k]? = some (.lst xs)) : eCmp Y .NotEq (.ref k) y h = at_ h (((eqD h (.ref k) y).map (!·)).map .bl) := eCmp_ne (by simp [ins?, e])
end
/-! ### data -/
/-- a text of signs that Python has -/
def Okc (x : Str) : Prop := x.cps.all (· < 0x110000) = true
mutual
/-- values without places: their data, how deep they lie -/
def vD : MV → PyData
  | .non => .none
  | .bl b => .bool b
  | .int i => .int i
  | .str x => .str x
  | .tup xs => .tuple (vDs xs)
  | _ => .none
def vDs : List MV → List PyData
  | [] => []
  | x :: xs => vD x :: vDs xs
end
mutual
def vS : MV → Nat
  | .tup xs => vSs xs + 1
  | _ => 1
def vSs : List MV → Nat
  | [] => 1
  | x :: xs => max (vS x) (vSs xs) + 1
end
mutual
/-- no places -/
def vP : MV → Bool
  | .non | .bl _ | .int _ | .str _ => true
  | .tup xs => vPs xs
  | _ => false
def vPs : List MV → Bool
  | [] => true
  | x :: xs => vP x && vPs xs
end
mutual
theorem toD_v (h : MH) : ∀ (n : Nat) (x : MV), vP x = true → vS x ≤ n → toD h n x = some (vD x)
  | 0, x, _, hn => by cases x <;> simp [vS] at hn
  | n + 1, .non, _, _ => by simp [toD, vD]
  | n + 1, .bl b, _, _ => by simp [toD, vD]
  | n + 1, .int i, _, _ => by simp [toD, vD]
  | n + 1, .str x, _, _ => by simp [toD, vD]
  | n + 1, .tup xs, hp, hn => by
    simp only [vS] at hn
    simp only [vP] at hp
    have := toDs_v h n xs hp (by omega)
    simp [toD, vD, this]
  | n + 1, .ref _, hp, _ => by simp [vP] at hp
  | n + 1, .exc _ _, hp, _ => by simp [vP] at hp
  | n + 1, .cls _, hp, _ => by simp [vP] at hp
  | n + 1, .fn _, hp, _ => by simp [vP] at hp
  | n + 1, .ty _, hp, _ => by simp [vP] at hp
  | n + 1, .frz _, hp, _ => by simp [vP] at hp
theorem toDs_v (h : MH) : ∀ (n : Nat) (xs : List MV), vPs xs = true → vSs xs ≤ n → toDs h n xs = some (vDs xs)
  | 0, xs, _, hn => by cases xs <;> simp [vSs] at hn
  | n + 1, [], _, _ => by simp [toDs, vDs]
  | n + 1, x :: xs, hp, hn => by
    simp only [vSs] at hn
    simp only [vPs, Bool.and_eq_true] at hp
    have h1 := toD_v h n x hp.1 (by omega)
    have h2 := toDs_v h n xs hp.2 (by omega)
    simp [toDs, vDs, h1, h2]
end
theorem toD_lst (h : MH) (n k : Nat) (xs : List MV) (e : h[k]? = some (.lst xs)) (hp : vPs xs = true) (hs : vSs xs + 1 ≤ n) : toD h n (.ref k) = some (.list (vDs xs)) := by
  obtain ⟨n, rfl⟩ : ∃ m, n = m + 1 := ⟨n - 1, by omega⟩
  have := toDs_v h n xs hp (by omega)
  simp [toD, e, this]
theorem DF_is : DF = 100000 := rfl
theorem eqD_v {h : MH} {x y : MV} (hx : vP x = true) (hy : vP y = true) (sx : vS x ≤ 100000) (sy : vS y ≤ 100000) (kx : SeqAt.shaped (vD x) = true) (ky : SeqAt.shaped (vD y) = true) : eqD h x y = some (PyData.eqv (vD x) (vD y)) := by
  unfold eqD
  rw [toD_v h DF x hx sx, toD_v h DF y hy sy]
  simp [kx, ky]
section
variable {h : MH} {i j : Int} {a b : Str} {p q : Bool} {x y : MV} {k : Nat} {xs ys : List MV}
theorem shaped_int : SeqAt.shaped (.int i) = true := by simp [SeqAt.shaped, PyData.canLay0, PyData.depth]
theorem shaped_bool : SeqAt.shaped (.bool p) = true := by simp [SeqAt.shaped, PyData.canLay0, PyData.depth]
theorem shaped_none : SeqAt.shaped .none = true := by simp [SeqAt.shaped, PyData.canLay0, PyData.depth]
theorem shaped_str (ha : Okc a) : SeqAt.shaped (.str a) = true := by
  have : PyData.strOk a = true := ha
  simp [SeqAt.shaped, PyData.canLay0, PyData.depth, this]
@[simp] theorem eqD_int : eqD h (.int i) (.int j) = some (i == j) := by rw [eqD_v (by simp [vP]) (by simp [vP]) (by simp [vS]) (by simp [vS]) (by simp only [vD]; exact shaped_int) (by simp only [vD]; exact shaped_int)]; simp [vD, PyData.eqv]
@[simp] theorem eqD_bl : eqD h (.bl p) (.bl q) = some (p == q) := by rw [eqD_v (by simp [vP]) (by simp [vP]) (by simp [vS]) (by simp [vS]) (by simp only [vD]; exact shaped_bool) (by simp only [vD]; exact shaped_bool)]; simp [vD, PyData.eqv]
theorem eqD_str (ha : Okc a) (hb : Okc b) : eqD h (.str a) (.str b) = some (a == b) := by rw [eqD_v (by simp [vP]) (by simp [vP]) (by simp [vS]) (by simp [vS]) (by simp only [vD]; exact shaped_str ha) (by simp only [vD]; exact shaped_str hb)]; simp [vD, PyData.eqv]
/-! ### truth, items, built-ins -/
@[simp] theorem truth_bl : truth h (.bl p) = some p := rfl
@[simp] theorem truth_non : truth h .non = some false := rfl
@[simp] theorem truth_int : truth h (.int i) = some (i != 0) := rfl
@[simp] theorem truth_tup : truth h (.tup xs) = some (!xs.isEmpty) := rfl
theorem truth_lst (e : h[k]? = some (.lst xs)) : truth h (.ref k) = some (!xs.isEmpty) := by simp [truth, e]
@[simp] theorem iterOf_str : iterOf (.str a) h = some (.str (tl a)) := rfl
@[simp] theorem iterOf_tup : iterOf (.tup xs) h = some (.tup xs) := rfl
theorem iterOf_lst (e : h[k]? = some (.lst xs)) : iterOf (.ref k) h = some (.lst k 0) := by simp [iterOf, e]
@[simp] theorem intV_int : intV (.int i) = some i := rfl
@[simp] theorem isStr_str : isStr? (.str a) = some a := rfl
@[simp] theorem key_int : key? (.int i) = some (.inl i) := rfl
@[simp] theorem key_str : key? (.str a) = some (.inr a) := rfl
@[simp] theorem bin_add_int : binop .Add (.int i) (.int j) h = some (.int (i + j), h) := rfl
@[simp] theorem bin_sub_int : binop .Sub (.int i) (.int j) h = some (.int (i - j), h) := rfl
theorem bin_mul_int (c : i.natAbs.log2 + j.natAbs.log2 < 1000000) : binop .Mult (.int i) (.int j) h = some (.int (i * j), h) := if_pos c
theorem bin_div_int (c : j ≠ 0 ∧ j.natAbs < 1073741824) : binop .FloorDiv (.int i) (.int j) h = some (.int (i.fdiv j), h) := if_pos c
theorem bin_mod_int (c : j ≠ 0) : binop .Mod (.int i) (.int j) h = some (.int (i.fmod j), h) := if_pos c
theorem bin_pow_int (c : 0 ≤ j ∧ (Builtin.Int.intBits i : Int) * j ≤ 2 ^ 27) : binop .Pow (.int i) (.int j) h = some (.int (i ^ j.toNat), h) := if_pos c
theorem bin_add_str (c : a.length + b.length ≤ 16777216) : binop .Add (.str a) (.str b) h = some (.str (a ++ b), h) := if_pos c
theorem bin_add_tup (c : xs.length + ys.length ≤ 16777216) : binop .Add (.tup xs) (.tup ys) h = some (.tup (xs ++ ys), h) := if_pos c
theorem bin_add_lst {m : Nat} (e : h[k]? = some (.lst xs)) (e' : h[m]? = some (.lst ys)) (c : xs.length + ys.length ≤ 16777216) : binop .Add (.ref k) (.ref m) h = some (.ref h.length, h ++ [.lst (xs ++ ys)]) := by
  unfold binop lst?
  simp only [e, e']
  exact if_pos c
@[simp] theorem un_int : unop .USub (.int i) = some (.int (-i)) := rfl
theorem in_chr {c : Nat} : inD h (.str ⟨#[c]⟩) (.str b) = some ((tl b).contains c) := by
  show some (decide (c ∈ tl b)) = _
  congr 1
  by_cases hc : c ∈ tl b
  · rw [decide_eq_true hc, List.contains_iff_mem.mpr hc]
  · rw [decide_eq_false hc]
    cases q : (tl b).contains c with
    | false => rfl
    | true => exact absurd (List.contains_iff_mem.mp q) hc
theorem in_dic {kvs : List (Key × MV)} (e : h[k]? = some (.dic kvs)) {q : Key} (hq : key? x = some q) : inD h x (.ref k) = some (lookK q kvs).isSome := by simp [inD, e, hq]
@[simp] theorem item_frz {ns : List Int} : item (.frz ns) (.int j) h = atI (ns.map MV.int) j := rfl
@[simp] theorem item_tup : item (.tup xs) (.int j) h = atI xs j := rfl
theorem item_lst (e : h[k]? = some (.lst xs)) : item (.ref k) (.int j) h = atI xs j := by simp [item, e]
theorem item_dic {kvs : List (Key × MV)} (e : h[k]? = some (.dic kvs)) {q : Key} (hq : key? x = some q) : item (.ref k) x h = lookK q kvs := by simp [item, e, hq]
theorem item_str (c : a.length ≤ 16777216) : item (.str a) (.int j) h = (atI (tl a) j).map fun c => .str ⟨#[c]⟩ := if_pos c
theorem atI_nat {α : Type} {xs : List α} {n : Nat} : atI xs (n : Int) = xs[n]? := by
  unfold atI ixN
  rw [if_pos (by omega)]
  by_cases c : n < xs.length
  · rw [if_pos (by omega)]; simp
  · rw [if_neg (by omega), List.getElem?_eq_none (by omega)]; rfl
@[simp] theorem atI_0 {α : Type} {xs : List α} : atI xs 0 = xs[0]? := atI_nat (n := 0)
@[simp] theorem atI_1 {α : Type} {xs : List α} : atI xs 1 = xs[1]? := atI_nat (n := 1)
@[simp] theorem atI_2 {α : Type} {xs : List α} : atI xs 2 = xs[2]? := atI_nat (n := 2)
@[simp] theorem atI_3 {α : Type} {xs : List α} : atI xs 3 = xs[3]? := atI_nat (n := 3)
@[simp] theorem atI_neg1 {α : Type} {xs : List α} : atI xs (-1) = xs.getLast? := by
  unfold atI ixN
  rw [if_neg (by omega)]
  cases xs with
  | nil => rfl
  | cons x r =>
    rw [if_pos (by simp; omega)]
    rw [List.getLast?_eq_getElem?]
    have : ((-1 : Int) + ((x :: r).length : Nat)).toNat = (x :: r).length - 1 := by simp only [List.length_cons]; omega
    show (x :: r)[((-1 : Int) + ((x :: r).length : Nat)).toNat]? = _
    rw [this]
@[simp] theorem seq_tup : seq? h (.tup xs) = some xs := rfl
theorem seq_lst (e : h[k]? = some (.lst xs)) : seq? h (.ref k) = some xs := by simp [seq?, e]
theorem lst_lst (e : h[k]? = some (.lst xs)) : lst? h (.ref k) = some xs := by simp [lst?, e]
@[simp] theorem bInt_int : bInt [.int i] h = some (.int i, h) := rfl
@[simp] theorem bInt_bl : bInt [.bl p] h = some (.int (if p then 1 else 0), h) := rfl
theorem bInt_str {n : Int} (c : a.length ≤ 640) (e : PySem.intText? a = some n) : bInt [.str a] h = some (.int n, h) := by simp [bInt, c, e]
theorem bStr_int (c : i.natAbs.log2 < 1920) : bStr [.int i] h = some (.str (Str.ofString (toString i)), h) := if_pos c
@[simp] theorem bAbs_int : bAbs [.int i] h = some (.int (if i < 0 then -i else i), h) := rfl
@[simp] theorem bMin_int : bMin [.int i, .int j] h = some (.int (if j < i then j else i), h) := rfl
@[simp] theorem bMax_int : bMax [.int i, .int j] h = some (.int (if j > i then j else i), h) := rfl
theorem bAll_lst {bs : List Bool} (e : h[k]? = some (.lst (bs.map .bl))) : bAll [.ref k] h = some (.bl (bs.all id), h) := by
  have : allM blV (bs.map MV.bl) = some bs := by
    clear e
    induction bs with
    | nil => rfl
    | cons b bs ih => simp [allM, blV, ih]
  simp [bAll, lst?, e, this]
theorem bAny_lst {bs : List Bool} (e : h[k]? = some (.lst (bs.map .bl))) : bAny [.ref k] h = some (.bl (bs.any id), h) := by
  have : allM blV (bs.map MV.bl) = some bs := by
    clear e
    induction bs with
    | nil => rfl
    | cons b bs ih => simp [allM, blV, ih]
  simp [bAny, lst?, e, this]
theorem bSum_lst {ns : List Int} (e : h[k]? = some (.lst (ns.map .int))) : bSum [.ref k] h = some (.int ns.sum, h) := by
  have : allM intV (ns.map MV.int) = some ns := by
    clear e
    induction ns with
    | nil => rfl
    | cons b bs ih => simp [allM, intV, ih]
  simp [bSum, lst?, e, this]
theorem allM_str {ns : List Str} : allM strV (ns.map MV.str) = some ns := by
  induction ns with
  | nil => rfl
  | cons b bs ih => simp [allM, strV, ih]
theorem sset_lst {ns : List Str} (e : h[k]? = some (.lst (ns.map .str))) (c : ns.length < 64) : sortedSet (.ref k) h = some (.ref h.length, h ++ [.lst ((sortSet ns).map .str)]) := by
  simp [sortedSet, seq?, e, allM_str, c, new]
theorem sset_tup {ns : List Str} (c : ns.length < 64) : sortedSet (.tup (ns.map .str)) h = some (.ref h.length, h ++ [.lst ((sortSet ns).map .str)]) := by
  simp [sortedSet, seq?, allM_str, c, new]
theorem bSorted_lst {ns : List Str} (e : h[k]? = some (.lst (ns.map .str))) (c : ns.length < 64) : bSorted [.ref k] h = some (.ref h.length, h ++ [.lst ((sortAll ns).map .str)]) := by
  simp [bSorted, lst?, e, allM_str, c, new]
@[simp] theorem bTuple_tup : bTuple [.tup xs] h = some (.tup xs, h) := rfl
theorem bTuple_lst (e : h[k]? = some (.lst xs)) : bTuple [.ref k] h = some (.tup xs, h) := by simp [bTuple, seq?, e]
@[simp] theorem bList_tup : bList [.tup xs] h = some (.ref h.length, h ++ [.lst xs]) := rfl
theorem bList_lst (e : h[k]? = some (.lst xs)) : bList [.ref k] h = some (.ref h.length, h ++ [.lst xs]) := by simp [bList, seq?, e, new]
theorem bRepr_d {d : PyData} (e : toD h DF x = some d) (c1 : d.showable = true) (c2 : d.depth ≤ 64) (c3 : d.shown.length ≤ 16777216) : bRepr [x] h = some (.str d.shown, h) := by
  simp [bRepr, e, c1, c2, c3]
/-! ### methods -/
theorem mc_split : mcall "split" = mSplit := by kernel_rfl
theorem mc_join : mcall "join" = mJoin := by kernel_rfl
theorem mc_starts : mcall "startswith" = mStarts := by kernel_rfl
theorem mc_upper : mcall "upper" = mUpper := by kernel_rfl
theorem mc_append : mcall "append" = mAppend := by kernel_rfl
theorem mc_extend : mcall "extend" = mExtend := by kernel_rfl
theorem mc_pop : mcall "pop" = mPop := by kernel_rfl
theorem mc_get : mcall "get" = mGet := by kernel_rfl
@[simp] theorem m_starts : mcall "startswith" (.str a) [.str b] h = some (.bl (Txt.startswith a b), h) := by rw [mc_starts]; rfl
theorem m_split (c : (b.length == 0) = false) (c2 : a.length + 2 ≤ 16777216) : mcall "split" (.str a) [.str b] h = some (.ref h.length, h ++ [.lst ((Txt.split a b).map .str)]) := by
  rw [mc_split]; exact if_pos ⟨c, c2⟩
theorem m_join_lst {ts : List Str} (e : h[k]? = some (.lst (ts.map .str))) (c : (ts.map (·.length)).sum + ts.length * a.length ≤ 16777216) : mcall "join" (.str a) [.ref k] h = some (.str (Txt.join a ts), h) := by
  rw [mc_join]; simp [mJoin, seq?, e, allM_str]; simpa using c
theorem m_upper (c : a.length ≤ 5592405) : mcall "upper" (.str a) [] h = some (.str (Txt.upper a), h) := by rw [mc_upper]; exact if_pos c
theorem m_append (e : h[k]? = some (.lst xs)) (c : xs.length < 16777216) : mcall "append" (.ref k) [x] h = some (.non, h.set k (.lst (xs ++ [x]))) := by
  rw [mc_append]; simp only [mAppend, lst?, e]; exact if_pos c
theorem m_extend {m : Nat} (e : h[k]? = some (.lst xs)) (e' : h[m]? = some (.lst ys)) (c : xs.length + ys.length ≤ 16777216) : mcall "extend" (.ref k) [.ref m] h = some (.non, h.set k (.lst (xs ++ ys))) := by
  rw [mc_extend]; simp only [mExtend, lst?, e, e']; exact if_pos c
theorem m_pop {n : Nat} (e : h[k]? = some (.lst xs)) (c : xs[n]? = some x) : mcall "pop" (.ref k) [.int (n : Nat)] h = some (x, h.set k (.lst (xs.eraseIdx n))) := by
  have hn : n < xs.length := (List.getElem?_eq_some_iff.mp c).1
  have : ixN xs.length (n : Int) = some n := by unfold ixN; rw [if_pos (by omega), if_pos (by omega)]; rfl
  rw [mc_pop]; simp [mPop, lst?, e, this, c]
theorem m_get {kvs : List (Key × MV)} {d : MV} {q : Key} (e : h[k]? = some (.dic kvs)) (hq : key? x = some q) : mcall "get" (.ref k) [x, d] h = some ((lookK q kvs).getD d, h) := by
  rw [mc_get]; simp [mGet, dic?, e, hq]
/-! ### slices, stores -/
@[simp] theorem slice_tup {lo hi : Option Int} : slice (.tup xs) lo hi h = some (.tup (cutM xs lo hi), h) := rfl
@[simp] theorem slice_frz {ns : List Int} {lo hi : Option Int} : slice (.frz ns) lo hi h = some (.ref h.length, h ++ [.lst (cutM (ns.map MV.int) lo hi)]) := rfl
theorem slice_lst {lo hi : Option Int} (e : h[k]? = some (.lst xs)) : slice (.ref k) lo hi h = some (.ref h.length, h ++ [.lst (cutM xs lo hi)]) := by simp [slice, e, new]
theorem slice_str {lo hi : Option Int} (c : a.length ≤ 16777216) : slice (.str a) lo hi h = some (.str (cutS a lo hi), h) := if_pos c
theorem cutM_from {α : Type} {xs : List α} {n : Nat} : cutM xs (some (n : Int)) none = xs.drop n := by
  unfold cutM
  rw [HT.sIx_nat, HT.sIx_none, ← List.length_drop]
  by_cases c : n ≤ xs.length
  · rw [Nat.min_eq_left c, List.take_length]
  · rw [Nat.min_eq_right (by omega), List.drop_length, List.drop_of_length_le (by omega)]; rfl
theorem cutM_to {α : Type} {xs : List α} {n : Nat} : cutM xs none (some (n : Int)) = xs.take n := by
  unfold cutM
  rw [HT.sIx_nat, HT.sIx_none, Nat.sub_zero, List.drop_zero]
  by_cases c : n ≤ xs.length
  · rw [Nat.min_eq_left c]
  · rw [Nat.min_eq_right (by omega), List.take_length, List.take_of_length_le (by omega)]
theorem cutM_mid {α : Type} {xs : List α} {m n : Nat} : cutM xs (some (m : Int)) (some (n : Int)) = (xs.drop m).take (n - m) := by
  unfold cutM
  rw [HT.sIx_nat, HT.sIx_nat]
  by_cases c : m ≤ xs.length
  · rw [Nat.min_eq_left c]
    by_cases c2 : n ≤ xs.length
    · rw [Nat.min_eq_left c2]
    · rw [Nat.min_eq_right (by omega), List.take_of_length_le (by simp), List.take_of_length_le (by simp; omega)]
  · rw [Nat.min_eq_right (show xs.length ≤ m by omega), List.drop_length, List.drop_of_length_le (show xs.length ≤ m by omega)]; simp
theorem put_lst {n : Nat} (e : h[k]? = some (.lst xs)) (c : n < xs.length) : mSetI (.ref k) (.int (n : Nat)) x h = some (h.set k (.lst (xs.set n x))) := by
  have : ixN xs.length (n : Int) = some n := by unfold ixN; rw [if_pos (by omega), if_pos (by omega)]; rfl
  simp [mSetI, e, this]
theorem put_dic {kvs : List (Key × MV)} {q : Key} (e : h[k]? = some (.dic kvs)) (hq : key? y = some q) (c : kvs.length < 16777216) : mSetI (.ref k) y x h = some (h.set k (.dic (putK q x kvs))) := by
  simp only [mSetI, e, hq]; exact if_pos c
end
/-! ### isinstance -/
theorem isI_bt {G : Glob} {h : MH} {x : MV} {c : Str} (hc : bTys.contains c = true) : isI G h x c = (typesOf G h x).map (·.contains c) := by
  unfold isI isCN
  rw [hc, Bool.or_true, if_pos rfl]
@[simp] theorem isI_non_int {G : Glob} {h : MH} : isI G h .non "int" = some false := by rw [isI_bt (by decide +kernel)]; kernel_rfl
@[simp] theorem isI_non_bool {G : Glob} {h : MH} : isI G h .non "bool" = some false := by rw [isI_bt (by decide +kernel)]; kernel_rfl
@[simp] theorem isI_non_str {G : Glob} {h : MH} : isI G h .non "str" = some false := by rw [isI_bt (by decide +kernel)]; kernel_rfl
@[simp] theorem isI_non_tuple {G : Glob} {h : MH} : isI G h .non "tuple" = some false := by rw [isI_bt (by decide +kernel)]; kernel_rfl
@[simp] theorem isI_non_list {G : Glob} {h : MH} : isI G h .non "list" = some false := by rw [isI_bt (by decide +kernel)]; kernel_rfl
@[simp] theorem isI_non_dict {G : Glob} {h : MH} : isI G h .non "dict" = some false := by rw [isI_bt (by decide +kernel)]; kernel_rfl
@[simp] theorem isI_bl_int {G : Glob} {h : MH} {b : Bool} : isI G h (.bl b) "int" = some true := by rw [isI_bt (by decide +kernel)]; kernel_rfl
@[simp] theorem isI_bl_bool {G : Glob} {h : MH} {b : Bool} : isI G h (.bl b) "bool" = some true := by rw [isI_bt (by decide +kernel)]; kernel_rfl
@[simp] theorem isI_bl_str {G : Glob} {h : MH} {b : Bool} : isI G h (.bl b) "str" = some false := by rw [isI_bt (by decide +kernel)]; kernel_rfl
@[simp] theorem isI_bl_tuple {G : Glob} {h : MH} {b : Bool} : isI G h (.bl b) "tuple" = some false := by rw [isI_bt (by decide +kernel)]; kernel_rfl
@[simp] theorem isI_bl_list {G : Glob} {h : MH} {b : Bool} : isI G h (.bl b) "list" = some false := by rw [isI_bt (by decide +kernel)]; kernel_rfl
@[simp] theorem isI_bl_dict {G : Glob} {h : MH} {b : Bool} : isI G h (.bl b) "dict" = some false := by rw [isI_bt (by decide +kernel)]; kernel_rfl
@[simp] theorem isI_int_int {G : Glob} {h : MH} {i : Int} : isI G h (.int i) "int" = some true := by rw [isI_bt (by decide +kernel)]; kernel_rfl
@[simp] theorem isI_int_bool {G : Glob} {h : MH} {i : Int} : isI G h (.int i) "bool" = some false := by rw [isI_bt (by decide +kernel)]; kernel_rfl
@[simp] theorem isI_int_str {G : Glob} {h : MH} {i : Int} : isI G h (.int i) "str" = some false := by rw [isI_bt (by decide +kernel)]; kernel_rfl
@[simp] theorem isI_int_tuple {G : Glob} {h : MH} {i : Int} : isI G h (.int i) "tuple" = some false := by rw [isI_bt (by decide +kernel)]; kernel_rfl
@[simp] theorem isI_int_list {G : Glob} {h : MH} {i : Int} : isI G h (.int i) "list" = some false := by rw [isI_bt (by decide +kernel)]; kernel_rfl
@[simp] theorem isI_int_dict {G : Glob} {h : MH} {i : Int} : isI G h (.int i) "dict" = some false := by rw [isI_bt (by decide +kernel)]; kernel_rfl
@[simp] theorem isI_str_int {G : Glob} {h : MH} {x : Str} : isI G h (.str x) "int" = some false := by rw [isI_bt (by decide +kernel)]; kernel_rfl
@[simp] theorem isI_str_bool {G : Glob} {h : MH} {x : Str} : isI G h (.str x) "bool" = some false := by rw [isI_bt (by decide +kernel)]; kernel_rfl
@[simp] theorem isI_str_str {G : Glob} {h : MH} {x : Str} : isI G h (.str x) "str" = some true := by rw [isI_bt (by decide +kernel)]; kernel_rfl
@[simp] theorem isI_str_tuple {G : Glob} {h : MH} {x : Str} : isI G h (.str x) "tuple" = some false := by rw [isI_bt (by decide +kernel)]; kernel_rfl
@[simp] theorem isI_str_list {G : Glob} {h : MH} {x : Str} : isI G h (.str x) "list" = some false := by rw [isI_bt (by decide +kernel)]; kernel_rfl
@[simp] theorem isI_str_dict {G : Glob} {h : MH} {x : Str} : isI G h (.str x) "dict" = some false := by rw [isI_bt (by decide +kernel)]; kernel_rfl
@[simp] theorem isI_tup_int {G : Glob} {h : MH} {xs : List MV} : isI G h (.tup xs) "int" = some false := by rw [isI_bt (by decide +kernel)]; kernel_rfl
@[simp] theorem isI_tup_bool {G : Glob} {h : MH} {xs : List MV} : isI G h (.tup xs) "bool" = some false := by rw [isI_bt (by decide +kernel)]; kernel_rfl
@[simp] theorem isI_tup_str {G : Glob} {h : MH} {xs : List MV} : isI G h (.tup xs) "str" = some false := by rw [isI_bt (by decide +kernel)]; kernel_rfl
@[simp] theorem isI_tup_tuple {G : Glob} {h : MH} {xs : List MV} : isI G h (.tup xs) "tuple" = some true := by rw [isI_bt (by decide +kernel)]; kernel_rfl
@[simp] theorem isI_tup_list {G : Glob} {h : MH} {xs : List MV} : isI G h (.tup xs) "list" = some false := by rw [isI_bt (by decide +kernel)]; kernel_rfl
@[simp] theorem isI_tup_dict {G : Glob} {h : MH} {xs : List MV} : isI G h (.tup xs) "dict" = some false := by rw [isI_bt (by decide +kernel)]; kernel_rfl
end Ev
end T_Wv
section T_Lt
set_option linter.all false
set_option maxRecDepth 100000
/-! Lt: texts and numbers, plainly. -/
namespace Ev
open PySem L2
theorem len_tl (w : Str) : w.length = (tl w).length := Array.length_toList.symm
theorem tl_mk (l : List Nat) : tl ⟨l.toArray⟩ = l := rfl
theorem str_of_tl {a b : Str} (h : tl a = tl b) : a = b := TL.ext_tl h
theorem beq_tl (a b : Str) : (a == b) = decide (tl a = tl b) := by
  by_cases h : a = b
  · subst h; simp
  · rw [beq_eq_false_iff_ne.mpr h, decide_eq_false (fun z => h (str_of_tl z))]
theorem tl_app (a b : Str) : tl (a ++ b) = tl a ++ tl b := TL.tl_append a b
/-- all signs below 128 -/
def Asc (w : Str) : Prop := ∀ c ∈ tl w, c < 128
theorem Asc.okc {w : Str} (h : Asc w) : Okc w := by
  unfold Okc
  rw [← Array.all_toList, List.all_eq_true]
  exact fun c hc => decide_eq_true (Nat.lt_trans (h c hc) (by decide))
theorem Asc.app {a b : Str} (ha : Asc a) (hb : Asc b) : Asc (a ++ b) := fun c hc => by
  rw [tl_app] at hc
  rcases List.mem_append.mp hc with h | h
  · exact ha c h
  · exact hb c h
theorem asc_of {w : Str} (h : (tl w).all (· < 128) = true) : Asc w := fun c hc => of_decide_eq_true (List.all_eq_true.mp h c hc)
/-! ### numbers -/
open NumText in
theorem numL_back : ∀ (l : List Nat), AllDigits l → l ≠ [] → (l.head? ≠ some 48 ∨ l.length = 1) → TL.numL (digitsVal l) = l := by
  intro l
  induction h : l.length using Nat.strongRecOn generalizing l with
  | _ n ih =>
    intro hd hne hh
    rcases List.eq_nil_or_concat l with e | ⟨r, c, e⟩
    · exact absurd e hne
    · rw [List.concat_eq_append] at e
      subst e
      have hc : 48 ≤ c ∧ c ≤ 57 := hd c (by simp)
      have hv : digitsVal (r ++ [c]) = digitsVal r * 10 + (c - 48) := by simp [digitsVal, List.foldl_append]
      rw [hv]
      by_cases hr : r = []
      · subst hr
        have : digitsVal [] = 0 := rfl
        rw [this, TL.numL_lt (by omega)]
        simp; omega
      · have hdr : AllDigits r := fun c hc => hd c (List.mem_append_left _ hc)
        have hhr : r.head? ≠ some 48 := by
          rcases hh with hh | hh
          · intro z
            apply hh
            cases r with
            | nil => exact absurd rfl hr
            | cons x r => simpa using z
          · cases r with
            | nil => exact absurd rfl hr
            | cons x r => exfalso; simp only [List.length_append, List.length_cons, List.length_nil] at h; omega
        have ihr := ih r.length (by rw [← h]; simp) r rfl hdr hr (.inl hhr)
        have hp : 1 ≤ digitsVal r := by
          cases hz : digitsVal r with
          | zero =>
            rw [hz, TL.numL_lt (by omega)] at ihr
            rw [← ihr] at hhr
            simp at hhr
          | succ k => omega
        rw [TL.numL_step (by omega)]
        have e1 : (digitsVal r * 10 + (c - 48)) / 10 = digitsVal r := by omega
        have e2 : (digitsVal r * 10 + (c - 48)) % 10 = c - 48 := by omega
        rw [e1, e2, ihr]
        have : 48 + (c - 48) = c := by omega
        rw [this]
theorem numL_head (n : Nat) : (TL.numL n).head? = some 48 → n = 0 := by
  induction n using Nat.strongRecOn with
  | _ n ih =>
    intro h
    by_cases hn : n < 10
    · rw [TL.numL_lt hn] at h
      simp at h
      omega
    · rw [TL.numL_step (by omega)] at h
      have h2 : (TL.numL (n / 10)).head? = some 48 := by
        cases q : TL.numL (n / 10) with
        | nil => exact absurd q (TL.numL_ne _)
        | cons a r => rw [q] at h; simpa using h
      have := ih (n / 10) (by omega) h2
      omega
/-- without a sign ahead -/
def digs : List Nat → List Nat
  | 45 :: r => r
  | l => l
def isDg (c : Nat) : Bool := decide (48 ≤ c) && decide (c ≤ 57)
def valL (l : List Nat) : Int := match l with
  | 45 :: r => -((NumText.digitsVal r : Nat) : Int)
  | l => ((NumText.digitsVal l : Nat) : Int)
def numOk (l : List Nat) : Bool := decide (1 ≤ (digs l).length) && (decide ((digs l).length ≤ 9) && (digs l).all isDg)
def numS (w : Str) : Option Int := if numOk (tl w) = true ∧ ((digs (tl w)).head? ≠ some 48 ∨ tl w = [48]) then some (valL (tl w)) else none
theorem dg_all {l : List Nat} (h : l.all isDg = true) : NumText.AllDigits l := fun c hc => by
  have := List.all_eq_true.mp h c hc
  simpa [isDg] using this
theorem digs_cons {c : Nat} {r : List Nat} (h : c ≠ 45) : digs (c :: r) = c :: r := by unfold digs; split <;> simp_all
theorem valL_cons {c : Nat} {r : List Nat} (h : c ≠ 45) : valL (c :: r) = ((NumText.digitsVal (c :: r) : Nat) : Int) := by unfold valL; split <;> simp_all
theorem numOk_le {l : List Nat} (h : numOk l = true) : l.length ≤ 10 := by
  unfold numOk at h
  simp only [Bool.and_eq_true, decide_eq_true_eq] at h
  obtain ⟨h1, h2, _⟩ := h
  cases l with
  | nil => simp
  | cons c r =>
    by_cases hc : c = 45
    · subst hc; simp [digs] at h2; simp; omega
    · rw [digs_cons hc] at h2; omega
theorem int_ok {w : Str} (h : numOk (tl w) = true) : PySem.intText? w = some (valL (tl w)) := by
  have hl := numOk_le h
  unfold numOk at h
  simp only [Bool.and_eq_true, decide_eq_true_eq] at h
  obtain ⟨h1, h2, h3⟩ := h
  cases e : tl w with
  | nil => rw [e] at h1; simp [digs] at h1
  | cons c r =>
    rw [e] at h1 h2 h3 hl
    by_cases hc : c = 45
    · subst hc
      simp only [digs] at h1 h2 h3
      exact intText_neg e (dg_all h3) (fun z => by subst z; simp at h1) (by rw [len_tl, e]; omega)
    · rw [digs_cons hc] at h1 h2 h3
      rw [valL_cons hc]
      have := intText_digits (x := w) (by rw [show w.cps.toList = c :: r from e]; exact dg_all h3) (by rw [show w.cps.toList = c :: r from e]; simp) (by rw [len_tl, e]; omega)
      rw [show w.cps.toList = c :: r from e] at this
      exact this
theorem digitsVal_lt : ∀ (l : List Nat), NumText.AllDigits l → NumText.digitsVal l < 10 ^ l.length := by
  intro l
  induction h : l.length using Nat.strongRecOn generalizing l with
  | _ n ih =>
    intro hd
    rcases List.eq_nil_or_concat l with e | ⟨r, c, e⟩
    · subst e; simp [NumText.digitsVal] at *; subst h; simp
    · rw [List.concat_eq_append] at e
      subst e
      have hc : 48 ≤ c ∧ c ≤ 57 := hd c (by simp)
      have hv : NumText.digitsVal (r ++ [c]) = NumText.digitsVal r * 10 + (c - 48) := by simp [NumText.digitsVal, List.foldl_append]
      have := ih r.length (by rw [← h]; simp) r rfl fun c hc => hd c (List.mem_append_left _ hc)
      rw [hv, ← h]
      simp only [List.length_append, List.length_singleton, Nat.pow_succ]
      omega
theorem valL_lt {l : List Nat} (h : numOk l = true) : (valL l).natAbs < 10 ^ 9 := by
  unfold numOk at h
  simp only [Bool.and_eq_true, decide_eq_true_eq] at h
  obtain ⟨h1, h2, h3⟩ := h
  have : ∀ r : List Nat, r.length ≤ 9 → r.all isDg = true → NumText.digitsVal r < 10 ^ 9 := fun r hr hd => Nat.lt_of_lt_of_le (digitsVal_lt r (dg_all hd)) (Nat.pow_le_pow_right (by decide) hr)
  cases l with
  | nil => simp [digs] at h1
  | cons c r =>
    by_cases hc : c = 45
    · subst hc
      simp only [digs] at h1 h2 h3
      have := this r h2 h3
      simp only [valL]; omega
    · rw [digs_cons hc] at h1 h2 h3
      have := this _ h2 h3
      rw [valL_cons hc]; omega
/-- str(n) == w -/
theorem canon {w : Str} (h : numOk (tl w) = true) : tl (Str.ofString (toString (valL (tl w)))) = tl w ↔ ((digs (tl w)).head? ≠ some 48 ∨ tl w = [48]) := by
  unfold numOk at h
  simp only [Bool.and_eq_true, decide_eq_true_eq] at h
  obtain ⟨h1, h2, h3⟩ := h
  have key : ∀ r : List Nat, r ≠ [] → r.all isDg = true → (TL.numL (NumText.digitsVal r) = r ↔ (r.head? ≠ some 48 ∨ r = [48])) := by
    intro r hr hd
    constructor
    · intro e
      by_cases hh : r.head? = some 48
      · right
        rw [← e] at hh
        have := numL_head _ hh
        rw [this] at e
        rw [← e]
        decide
      · exact .inl hh
    · intro e
      refine numL_back r (dg_all hd) hr ?_
      rcases e with e | e
      · exact .inl e
      · subst e; exact .inr rfl
  cases e : tl w with
  | nil => rw [e] at h1; simp [digs] at h1
  | cons c r =>
    rw [e] at h1 h2 h3
    by_cases hc : c = 45
    · subst hc
      simp only [digs] at h1 h2 h3 ⊢
      have hr : r ≠ [] := fun z => by subst z; simp at h1
      have hv : valL (45 :: r) = -((NumText.digitsVal r : Nat) : Int) := rfl
      rw [hv]
      have hk := key r hr h3
      cases hz : NumText.digitsVal r with
      | zero =>
        have e0 : tl (Str.ofString (toString (-((0 : Nat) : Int)))) = [48] := by decide +kernel
        rw [e0]
        rw [hz] at hk
        have : TL.numL 0 = [48] := by decide +kernel
        rw [this] at hk
        constructor
        · intro z; cases z
        · intro z
          rcases z with z | z
          · have := hk.mpr (.inl z)
            rw [← this] at z
            simp at z
          · cases z
      | succ k =>
        have hneg : -(((k + 1 : Nat)) : Int) < 0 := by omega
        have e1 : tl (Str.ofString (toString (-((k + 1 : Nat) : Int)))) = 45 :: TL.numL (k + 1) := by
          rw [PyProof.Rows.toString_neg hneg]
          have : (0 : Int) - -((k + 1 : Nat) : Int) = ((k + 1 : Nat) : Int) := by omega
          rw [this]
          show TL.tl _ = _
          rw [TL.tl_ofString, String.toList_append, List.map_append, ← TL.tl_ofString, ← TL.tl_ofString]
          show _ ++ TL.tl (Str.ofString (toString ((k + 1 : Nat) : Int))) = _
          rw [TL.tl_num]
          rfl
        rw [e1, ← hz]
        constructor
        · intro z
          injection z with _ z
          rcases hk.mp z with q | q
          · exact .inl q
          · subst q
            simp [NumText.digitsVal] at hz
        · intro z
          rcases z with z | z
          · rw [hk.mpr (.inl z)]
          · cases z
    · rw [digs_cons hc] at h1 h2 h3 ⊢
      rw [valL_cons hc]
      show TL.tl _ = _ ↔ _
      rw [TL.tl_num]
      exact key (c :: r) (by simp) h3
end Ev
end T_Lt
section T_G82
set_option maxRecDepth 100000
namespace K82
open PySem L2 Ev
def topS (i : Nat) : Stmt := PySem.Challenge.pw_selfdrawn_k82_texts_of_programs.main.body.getD i (.Pass ⟨0, 0, 0, 0⟩)
def dsT : List DfE := [
  dfE "is_integer" (.glo "is_integer") "is_integer" "is_integer" true ["value"] ["value"] (topS 4),
  dfE "is_step" (.glo "is_step") "is_step" "is_step" true ["value"] ["value", "one", "top", "low"] (topS 7),
  dfE "is_name" (.glo "is_name") "is_name" "is_name" true ["word"] ["word", "sign"] (topS 27),
  dfE "number_in" (.glo "number_in") "number_in" "number_in" true ["word"] ["word", "digits", "sign"] (topS 28),
  dfE "share_in" (.glo "share_in") "share_in" "share_in" true ["word"] ["word", "numbers", "part", "share"] (topS 29),
  dfE "rest_in" (.glo "rest_in") "rest_in" "rest_in" true ["word", "words"] ["word", "words", "one", "numbers"] (topS 30),
  dfE "step_in" (.glo "step_in") "step_in" "step_in" true ["line"] ["line", "words", "rest"] (topS 31),
  dfE "names_in" (.glo "names_in") "names_in" "names_in" true ["step"] ["step"] (topS 32),
  dfE "Program.__init__" (.me "Program" "__init__") "__init__" "Program.__init__" false ["self", "text"] ["self", "text", "made", "inputs", "steps", "sources", "number", "line", "step", "name"] (inClass (topS 33) 0),
  dfE "Program.text" (.pr "Program" "text") "text" "Program.text" false ["self"] ["self"] (inClass (topS 33) 1),
  dfE "Program.inputs" (.pr "Program" "inputs") "inputs" "Program.inputs" false ["self"] ["self"] (inClass (topS 33) 2),
  dfE "Program.steps" (.pr "Program" "steps") "steps" "Program.steps" false ["self"] ["self"] (inClass (topS 33) 3),
  dfE "Program.__len__" (.me "Program" "__len__") "__len__" "Program.__len__" false ["self"] ["self"] (inClass (topS 33) 4),
  dfE "Program.__eq__" (.me "Program" "__eq__") "__eq__" "Program.__eq__" false ["self", "other"] ["self", "other"] (inClass (topS 33) 5),
  dfE "_law_pot" (.glo "_law_pot") "_law_pot" "_law_pot" true ["script", "place"] ["script", "place", "cell", "own", "small"] (topS 35),
  dfE "_law_take" (.glo "_law_take") "_law_take" "_law_take" true ["pot", "upto"] ["pot", "upto", "digit", "prime", "blend"] (topS 36),
  dfE "_law_of" (.glo "_law_of") "_law_of" "_law_of" true ["pot", "some"] ["pot", "some"] (topS 37),
  dfE "_law_some" (.glo "_law_some") "_law_some" "_law_some" true ["pot", "pool", "many"] ["pot", "pool", "many", "left", "found", "lap"] (topS 38),
  dfE "_law_cells" (.glo "_law_cells") "_law_cells" "_law_cells" true ["script", "most"] ["script", "most"] (topS 39),
  dfE "_law_fraction" (.glo "_law_fraction") "_law_fraction" "_law_fraction" true ["top", "low"] ["top", "low", "one", "other"] (topS 40),
  dfE "_law_share" (.glo "_law_share") "_law_share" "_law_share" true ["pot", "lows"] ["pot", "lows", "low"] (topS 41),
  dfE "_law_share_text" (.glo "_law_share_text") "_law_share_text" "_law_share_text" true ["share"] ["share"] (topS 42),
  dfE "_law_step_text" (.glo "_law_step_text") "_law_step_text" "_law_step_text" true ["step"] ["step", "words", "part"] (topS 43),
  dfE "_law_program_text" (.glo "_law_program_text") "_law_program_text" "_law_program_text" true ["steps"] ["steps", "step"] (topS 44),
  dfE "_law_named" (.glo "_law_named") "_law_named" "_law_named" true ["step"] ["step"] (topS 45),
  dfE "_law_sources" (.glo "_law_sources") "_law_sources" "_law_sources" true ["steps"] ["steps", "made", "found", "number", "step", "name"] (topS 46),
  dfE "_law_inputs" (.glo "_law_inputs") "_law_inputs" "_law_inputs" true ["steps"] ["steps", "found", "sources", "one"] (topS 47),
  dfE "_law_ways" (.glo "_law_ways") "_law_ways" "_law_ways" true ["steps"] ["steps", "many", "sources", "one"] (topS 48),
  dfE "_law_step" (.glo "_law_step") "_law_step" "_law_step" true ["pot", "names", "lows"] ["pot", "names", "lows", "name", "one", "way", "many"] (topS 49),
  dfE "_law_steps" (.glo "_law_steps") "_law_steps" "_law_steps" true ["pot", "most", "lows"] ["pot", "most", "lows", "names", "steps", "lap", "some", "step"] (topS 50),
  dfE "_law_whole" (.glo "_law_whole") "_law_whole" "_law_whole" true ["word"] ["word", "digits", "sign"] (topS 51),
  dfE "_law_share_read" (.glo "_law_share_read") "_law_share_read" "_law_share_read" true ["word"] ["word", "numbers", "one", "top", "low"] (topS 52),
  dfE "_law_is_word" (.glo "_law_is_word") "_law_is_word" "_law_is_word" true ["word"] ["word", "sign"] (topS 53),
  dfE "_law_read" (.glo "_law_read") "_law_read" "_law_read" true ["line"] ["line", "words", "head", "rest", "shares", "one", "numbers"] (topS 54),
  dfE "_law_bad_line" (.glo "_law_bad_line") "_law_bad_line" "_law_bad_line" true ["text"] ["text", "steps", "number", "line", "step"] (topS 55),
  dfE "_law_odd_word" (.glo "_law_odd_word") "_law_odd_word" "_law_odd_word" true ["pot"] ["pot", "some"] (topS 56),
  dfE "_law_line_spoilt" (.glo "_law_line_spoilt") "_law_line_spoilt" "_law_line_spoilt" true ["pot", "line"] ["pot", "line", "words", "way", "at"] (topS 57),
  dfE "_law_spoilt" (.glo "_law_spoilt") "_law_spoilt" "_law_spoilt" true ["pot", "text"] ["pot", "text", "lines", "way", "at", "others", "more", "name"] (topS 58),
  dfE "_law_is_right" (.glo "_law_is_right") "_law_is_right" "_law_is_right" true ["text"] ["text", "due", "told", "made", "error", "steps", "line", "found"] (topS 59),
  dfE "_law_right" (.glo "_law_right") "_law_right" "_law_right" true ["pot"] ["pot", "text", "spoilt", "lap", "values", "value", "one", "other"] (topS 60),
  dfE "law" (.glo "law") "law" "law" true ["script"] ["script", "place"] (topS 61)
]
def fnT : List (Str × FnD) := dsT.map DfE.fn
def clT : List (Str × ClsD) := [
  clE "DrawError" true ["DrawError", "ValueError"] [("__init__", "DrawError.__init__")] [] ["value"],
  clE "BadProgram" true ["BadProgram", "DrawError", "ValueError"] [] [] [],
  clE "Program" false ["Program"] [("__init__", "Program.__init__"), ("__len__", "Program.__len__"), ("__eq__", "Program.__eq__")] [("text", "Program.text"), ("inputs", "Program.inputs"), ("steps", "Program.steps")] ["own_text", "own_inputs", "own_steps", "own_sources"]
]
def coT : List (Str × MV) := [
  coE "MOST_LOW" (.int 12),
  coE "JOINED" (.str "joined"),
  coE "MET" (.str "met"),
  coE "TURNED" (.str "turned"),
  coE "MOVED" (.str "moved"),
  coE "LESSER" (.str "lesser"),
  coE "ZOOMED" (.str "zoomed"),
  coE "MOST_LINES" (.int 8),
  coE "MOST_INPUTS" (.int 4),
  coE "MOST_MANY" (.int 4),
  coE "MOST_MOTION" (.int 7),
  coE "MOST_DIGITS" (.int 9),
  coE "MOST_LETTERS" (.int 8),
  coE "HEAD_WORDS" (.int 3),
  coE "IS" (.str "="),
  coE "MINUS" (.str "-"),
  coE "SLASH" (.str "/"),
  coE "DIGITS" (.str "0123456789"),
  coE "LETTERS" (.str "abcdefghijklmnopqrstuvwxyz")
]
def kwT : List (Str × Nat × List Str) := [("Program", 0, ["text"])]
def G : Glob := ⟨fnT, clT, coT, kwT⟩
end K82
end T_G82
section T_Sh82
set_option linter.all false
set_option maxRecDepth 100000
set_option maxHeartbeats 0
namespace K82
open PySem L2 Ev
/-- is_integer: 0 value -/
def b_is_integer (call : CallF) (e : MEnv) (h : MH) : Option OutS := (seqS (retS e (andE (isiC G "int" (locC e 0 h)) fun h3 => (notE (isiC G "bool" (locC e 0 h3))))) fun e1 h2 =>
    (nxS e1 h2))
def c_is_integer (call : CallF) (v_value : MV) (h : MH) : Option Out := endS (b_is_integer call [some v_value] h)
theorem u_is_integer (d : Nat) (v_value : MV) (h : MH) : callD G (d + 1) "is_integer" [v_value] h = c_is_integer (callD G d) v_value h := by kernel_rfl
/-- is_step: 0 value 1 one 2 top 3 low -/
def b_is_step (call : CallF) (e : MEnv) (h : MH) : Option OutS := (seqS (iteS e (orT (notT (tstC (isiC G "tuple" (locC e 0 h)))) fun h4 => (orT (tstC (eqC ⟨G, call⟩ .NotEq (lenC ⟨G, call⟩ (consA (locC e 0 h4) fun h7 => (nilA h7))) fun h6 => (valC (.int 2) h6))) fun h5 => (notT (tstC (bltC bAll (consA (lcC (iterC (locC e 0 h5)) (fun x11 _ => some (setE (wipeE e [1]) 1 x11)) (fun _ h10 => trueT h10) fun e9 h10 => (funC call "is_integer" (consA (locC e9 1 h10) fun h12 => (nilA h12)))) fun h8 => (nilA h8))))))) (fun h3 => (seqS (retS e (valC (.bl false) h3)) fun e13 h14 =>
    (nxS e13 h14))) fun h3 => (nxS e h3)) fun e1 h2 =>
    (seqS (asgT 2 e1 (locC e1 0 h2) fun vs17 h18 => (tgN 2 e1 vs17 fun e20 vs19 => (tgN 3 e20 vs19 fun e22 vs21 => (tgNil e22 vs21 h18)))) fun e15 h16 =>
    (seqS (iteS e15 (orT (notT (tstC (chnC .LtE .LtE (valC (.int 1) h16) (fun h27 => (locC e15 3 h27)) fun h28 => (valC (.int 12) h28)))) fun h26 => (notT (tstC (chnC .LtE .LtE (unC .USub (locC e15 3 h26)) (fun h29 => (locC e15 2 h29)) fun h30 => (locC e15 3 h30))))) (fun h25 => (seqS (retS e15 (valC (.bl false) h25)) fun e31 h32 =>
    (nxS e31 h32))) fun h25 => (nxS e15 h25)) fun e23 h24 =>
    (seqS (retS e23 (notE (bltC bAny (consA (lcC (rngC 2 (consA (valC (.int 2) h24) fun h39 => (consA (binC .Add (locC e23 3 h39) fun h41 => (valC (.int 1) h41)) fun h40 => (nilA h40)))) (fun x38 _ => some (setE (wipeE e23 [1]) 1 x38)) (fun _ h37 => trueT h37) fun e36 h37 => (andE (eqC ⟨G, call⟩ .Eq (binC .Mod (locC e36 2 h37) fun h44 => (locC e36 1 h44)) fun h43 => (valC (.int 0) h43)) fun h42 => (eqC ⟨G, call⟩ .Eq (binC .Mod (locC e36 3 h42) fun h46 => (locC e36 1 h46)) fun h45 => (valC (.int 0) h45)))) fun h35 => (nilA h35))))) fun e33 h34 =>
    (nxS e33 h34)))))
def c_is_step (call : CallF) (v_value : MV) (h : MH) : Option Out := endS (b_is_step call [some v_value, none, none, none] h)
theorem u_is_step (d : Nat) (v_value : MV) (h : MH) : callD G (d + 1) "is_step" [v_value] h = c_is_step (callD G d) v_value h := by kernel_rfl
/-- is_name: 0 word 1 sign -/
def b_is_name (call : CallF) (e : MEnv) (h : MH) : Option OutS := (seqS (retS e (andE (chnC .LtE .LtE (valC (.int 1) h) (fun h4 => (lenC ⟨G, call⟩ (consA (locC e 0 h4) fun h6 => (nilA h6)))) fun h5 => (valC (.int 8) h5)) fun h3 => (bltC bAll (consA (lcC (iterC (locC e 0 h3)) (fun x10 _ => some (setE (wipeE e [1]) 1 x10)) (fun _ h9 => trueT h9) fun e8 h9 => (cmpC .In (locC e8 1 h9) fun h11 => (valC (.str "abcdefghijklmnopqrstuvwxyz") h11))) fun h7 => (nilA h7))))) fun e1 h2 =>
    (nxS e1 h2))
def c_is_name (call : CallF) (v_word : MV) (h : MH) : Option Out := endS (b_is_name call [some v_word, none] h)
theorem u_is_name (d : Nat) (v_word : MV) (h : MH) : callD G (d + 1) "is_name" [v_word] h = c_is_name (callD G d) v_word h := by kernel_rfl
/-- number_in: 0 word 1 digits 2 sign -/
def b_number_in (call : CallF) (e : MEnv) (h : MH) : Option OutS := (seqS (asgN 1 e (iteE (tstC (metC ⟨G, call⟩ "startswith" (locC e 0 h) fun h4 => (consA (valC (.str "-") h4) fun h5 => (nilA h5)))) (fun h3 => (slcC (locC e 0 h3) (fun h6 => bdS (valC (.int 1) h6)) fun h7 => bdN h7)) fun h3 => (locC e 0 h3))) fun e1 h2 =>
    (seqS (iteS e1 (orT (notT (tstC (chnC .LtE .LtE (valC (.int 1) h2) (fun h12 => (lenC ⟨G, call⟩ (consA (locC e1 1 h12) fun h14 => (nilA h14)))) fun h13 => (valC (.int 9) h13)))) fun h11 => (notT (tstC (bltC bAll (consA (lcC (iterC (locC e1 1 h11)) (fun x18 _ => some (setE (wipeE e1 [2]) 2 x18)) (fun _ h17 => trueT h17) fun e16 h17 => (cmpC .In (locC e16 2 h17) fun h19 => (valC (.str "0123456789") h19))) fun h15 => (nilA h15)))))) (fun h10 => (seqS (retS e1 (valC .non h10)) fun e20 h21 =>
    (nxS e20 h21))) fun h10 => (nxS e1 h10)) fun e8 h9 =>
    (seqS (retS e8 (iteE (orT (tstC (eqC ⟨G, call⟩ .NotEq (itemC (locC e8 1 h9) fun h27 => (valC (.int 0) h27)) fun h26 => (valC (.str "0") h26))) fun h25 => (tstC (eqC ⟨G, call⟩ .Eq (locC e8 0 h25) fun h28 => (valC (.str "0") h28)))) (fun h24 => (bltC bInt (consA (locC e8 0 h24) fun h29 => (nilA h29)))) fun h24 => (valC .non h24))) fun e22 h23 =>
    (nxS e22 h23))))
def c_number_in (call : CallF) (v_word : MV) (h : MH) : Option Out := endS (b_number_in call [some v_word, none, none] h)
theorem u_number_in (d : Nat) (v_word : MV) (h : MH) : callD G (d + 1) "number_in" [v_word] h = c_number_in (callD G d) v_word h := by kernel_rfl
/-- share_in: 0 word 1 numbers 2 part 3 share -/
def b_share_in (call : CallF) (e : MEnv) (h : MH) : Option OutS := (seqS (asgN 1 e (lcC (iterC (metC ⟨G, call⟩ "split" (locC e 0 h) fun h6 => (consA (valC (.str "/") h6) fun h7 => (nilA h7)))) (fun x5 _ => some (setE (wipeE e [2]) 2 x5)) (fun _ h4 => trueT h4) fun e3 h4 => (funC call "number_in" (consA (locC e3 2 h4) fun h8 => (nilA h8))))) fun e1 h2 =>
    (seqS (iteS e1 (orT (tstC (cmpC .In (valC .non h2) fun h13 => (locC e1 1 h13))) fun h12 => (orT (tstC (cmpC .Gt (lenC ⟨G, call⟩ (consA (locC e1 1 h12) fun h16 => (nilA h16))) fun h15 => (valC (.int 2) h15))) fun h14 => (andT (tstC (eqC ⟨G, call⟩ .Eq (lenC ⟨G, call⟩ (consA (locC e1 1 h14) fun h19 => (nilA h19))) fun h18 => (valC (.int 2) h18))) fun h17 => (tstC (eqC ⟨G, call⟩ .Eq (itemC (locC e1 1 h17) fun h21 => (valC (.int 1) h21)) fun h20 => (valC (.int 1) h20)))))) (fun h11 => (seqS (retS e1 (valC .non h11)) fun e22 h23 =>
    (nxS e22 h23))) fun h11 => (nxS e1 h11)) fun e9 h10 =>
    (seqS (asgN 3 e9 (iteE (tstC (eqC ⟨G, call⟩ .Eq (lenC ⟨G, call⟩ (consA (locC e9 1 h10) fun h28 => (nilA h28))) fun h27 => (valC (.int 1) h27))) (fun h26 => (tupC (consA (itemC (locC e9 1 h26) fun h30 => (valC (.int 0) h30)) fun h29 => (consA (valC (.int 1) h29) fun h31 => (nilA h31))))) fun h26 => (bltC bTuple (consA (locC e9 1 h26) fun h32 => (nilA h32))))) fun e24 h25 =>
    (seqS (retS e24 (iteE (tstC (funC call "is_step" (consA (locC e24 3 h25) fun h36 => (nilA h36)))) (fun h35 => (locC e24 3 h35)) fun h35 => (valC .non h35))) fun e33 h34 =>
    (nxS e33 h34)))))
def c_share_in (call : CallF) (v_word : MV) (h : MH) : Option Out := endS (b_share_in call [some v_word, none, none, none] h)
theorem u_share_in (d : Nat) (v_word : MV) (h : MH) : callD G (d + 1) "share_in" [v_word] h = c_share_in (callD G d) v_word h := by kernel_rfl
/-- rest_in: 0 word 1 words 2 one 3 numbers -/
def b_rest_in (call : CallF) (e : MEnv) (h : MH) : Option OutS := (seqS (iteS e (tstC (cmpC .In (locC e 0 h) fun h4 => (tupC (consA (valC (.str "joined") h4) fun h5 => (consA (valC (.str "met") h5) fun h6 => (nilA h6)))))) (fun h3 => (seqS (retS e (iteE (andT (tstC (eqC ⟨G, call⟩ .Eq (lenC ⟨G, call⟩ (consA (locC e 1 h3) fun h12 => (nilA h12))) fun h11 => (valC (.int 2) h11))) fun h10 => (tstC (bltC bAll (consA (lcC (iterC (locC e 1 h10)) (fun x16 _ => some (setE (wipeE e [2]) 2 x16)) (fun _ h15 => trueT h15) fun e14 h15 => (funC call "is_name" (consA (locC e14 2 h15) fun h17 => (nilA h17)))) fun h13 => (nilA h13))))) (fun h9 => (bltC bTuple (consA (locC e 1 h9) fun h18 => (nilA h18)))) fun h9 => (valC .non h9))) fun e7 h8 =>
    (nxS e7 h8))) fun h3 => (nxS e h3)) fun e1 h2 =>
    (seqS (iteS e1 (orT (tstC (eqC ⟨G, call⟩ .Eq (locC e1 1 h2) fun h23 => (lstC (nilA h23)))) fun h22 => (notT (tstC (funC call "is_name" (consA (itemC (locC e1 1 h22) fun h25 => (valC (.int 0) h25)) fun h24 => (nilA h24)))))) (fun h21 => (seqS (retS e1 (valC .non h21)) fun e26 h27 =>
    (nxS e26 h27))) fun h21 => (nxS e1 h21)) fun e19 h20 =>
    (seqS (iteS e19 (tstC (eqC ⟨G, call⟩ .Eq (locC e19 0 h20) fun h31 => (valC (.str "moved") h31))) (fun h30 => (seqS (asgN 3 e19 (lcC (iterC (slcC (locC e19 1 h30) (fun h37 => bdS (valC (.int 1) h37)) fun h38 => bdN h38)) (fun x36 _ => some (setE (wipeE e19 [2]) 2 x36)) (fun _ h35 => trueT h35) fun e34 h35 => (funC call "share_in" (consA (locC e34 2 h35) fun h39 => (nilA h39))))) fun e32 h33 =>
    (seqS (retS e32 (iteE (andT (tstC (eqC ⟨G, call⟩ .Eq (lenC ⟨G, call⟩ (consA (locC e32 3 h33) fun h45 => (nilA h45))) fun h44 => (valC (.int 2) h44))) fun h43 => (tstC (cmpC .NotIn (valC .non h43) fun h46 => (locC e32 3 h46)))) (fun h42 => (tupC (consA (itemC (locC e32 1 h42) fun h48 => (valC (.int 0) h48)) fun h47 => (starA (locC e32 3 h47) fun h49 => (nilA h49))))) fun h42 => (valC .non h42))) fun e40 h41 =>
    (nxS e40 h41)))) fun h30 => (nxS e19 h30)) fun e28 h29 =>
    (seqS (asgN 3 e28 (lcC (iterC (slcC (locC e28 1 h29) (fun h55 => bdS (valC (.int 1) h55)) fun h56 => bdN h56)) (fun x54 _ => some (setE (wipeE e28 [2]) 2 x54)) (fun _ h53 => trueT h53) fun e52 h53 => (funC call "number_in" (consA (locC e52 2 h53) fun h57 => (nilA h57))))) fun e50 h51 =>
    (seqS (iteS e50 (tstC (cmpC .In (valC .non h51) fun h61 => (locC e50 3 h61))) (fun h60 => (seqS (retS e50 (valC .non h60)) fun e62 h63 =>
    (nxS e62 h63))) fun h60 => (nxS e50 h60)) fun e58 h59 =>
    (seqS (iteS e58 (tstC (eqC ⟨G, call⟩ .Eq (locC e58 0 h59) fun h67 => (valC (.str "turned") h67))) (fun h66 => (seqS (retS e58 (iteE (andT (tstC (eqC ⟨G, call⟩ .Eq (lenC ⟨G, call⟩ (consA (locC e58 3 h66) fun h73 => (nilA h73))) fun h72 => (valC (.int 1) h72))) fun h71 => (tstC (chnC .LtE .LtE (valC (.int 0) h71) (fun h74 => (itemC (locC e58 3 h74) fun h76 => (valC (.int 0) h76))) fun h75 => (valC (.int 7) h75)))) (fun h70 => (tupC (consA (itemC (locC e58 1 h70) fun h78 => (valC (.int 0) h78)) fun h77 => (starA (locC e58 3 h77) fun h79 => (nilA h79))))) fun h70 => (valC .non h70))) fun e68 h69 =>
    (nxS e68 h69))) fun h66 => (nxS e58 h66)) fun e64 h65 =>
    (seqS (iteS e64 (orT (tstC (cmpC .NotIn (locC e64 0 h65) fun h84 => (tupC (consA (valC (.str "lesser") h84) fun h85 => (consA (valC (.str "zoomed") h85) fun h86 => (nilA h86)))))) fun h83 => (orT (tstC (eqC ⟨G, call⟩ .NotEq (lenC ⟨G, call⟩ (consA (locC e64 3 h83) fun h89 => (nilA h89))) fun h88 => (valC (.int 3) h88))) fun h87 => (notT (tstC (chnC .LtE .LtE (valC (.int 1) h87) (fun h90 => (itemC (locC e64 3 h90) fun h92 => (valC (.int 0) h92))) fun h91 => (valC (.int 4) h91)))))) (fun h82 => (seqS (retS e64 (valC .non h82)) fun e93 h94 =>
    (nxS e93 h94))) fun h82 => (nxS e64 h82)) fun e80 h81 =>
    (seqS (retS e80 (iteE (tstC (bltC bAll (consA (lcC (iterC (slcC (locC e80 3 h81) (fun h102 => bdS (valC (.int 1) h102)) fun h103 => bdN h103)) (fun x101 _ => some (setE (wipeE e80 [2]) 2 x101)) (fun _ h100 => trueT h100) fun e99 h100 => (chnC .LtE .Lt (valC (.int 0) h100) (fun h104 => (locC e99 2 h104)) fun h105 => (itemC (locC e99 3 h105) fun h106 => (valC (.int 0) h106)))) fun h98 => (nilA h98)))) (fun h97 => (tupC (consA (itemC (locC e80 1 h97) fun h108 => (valC (.int 0) h108)) fun h107 => (starA (locC e80 3 h107) fun h109 => (nilA h109))))) fun h97 => (valC .non h97))) fun e95 h96 =>
    (nxS e95 h96)))))))))
def c_rest_in (call : CallF) (v_word v_words : MV) (h : MH) : Option Out := endS (b_rest_in call [some v_word, some v_words, none, none] h)
theorem u_rest_in (d : Nat) (v_word v_words : MV) (h : MH) : callD G (d + 1) "rest_in" [v_word, v_words] h = c_rest_in (callD G d) v_word v_words h := by kernel_rfl
/-- step_in: 0 line 1 words 2 rest -/
def b_step_in (call : CallF) (e : MEnv) (h : MH) : Option OutS := (seqS (asgN 1 e (metC ⟨G, call⟩ "split" (locC e 0 h) fun h3 => (consA (valC (.str " ") h3) fun h4 => (nilA h4)))) fun e1 h2 =>
    (seqS (iteS e1 (orT (tstC (cmpC .LtE (lenC ⟨G, call⟩ (consA (locC e1 1 h2) fun h10 => (nilA h10))) fun h9 => (valC (.int 3) h9))) fun h8 => (orT (notT (tstC (funC call "is_name" (consA (itemC (locC e1 1 h8) fun h13 => (valC (.int 0) h13)) fun h12 => (nilA h12))))) fun h11 => (tstC (eqC ⟨G, call⟩ .NotEq (itemC (locC e1 1 h11) fun h15 => (valC (.int 1) h15)) fun h14 => (valC (.str "=") h14))))) (fun h7 => (seqS (retS e1 (valC .non h7)) fun e16 h17 =>
    (nxS e16 h17))) fun h7 => (nxS e1 h7)) fun e5 h6 =>
    (seqS (asgN 2 e5 (funC call "rest_in" (consA (itemC (locC e5 1 h6) fun h21 => (valC (.int 2) h21)) fun h20 => (consA (slcC (locC e5 1 h20) (fun h23 => bdS (valC (.int 3) h23)) fun h24 => bdN h24) fun h22 => (nilA h22))))) fun e18 h19 =>
    (seqS (retS e18 (iteE (tstC (cmpC .IsNot (locC e18 2 h19) fun h28 => (valC .non h28))) (fun h27 => (tupC (consA (itemC (locC e18 1 h27) fun h30 => (valC (.int 0) h30)) fun h29 => (consA (itemC (locC e18 1 h29) fun h32 => (valC (.int 2) h32)) fun h31 => (starA (locC e18 2 h31) fun h33 => (nilA h33)))))) fun h27 => (valC .non h27))) fun e25 h26 =>
    (nxS e25 h26)))))
def c_step_in (call : CallF) (v_line : MV) (h : MH) : Option Out := endS (b_step_in call [some v_line, none, none] h)
theorem u_step_in (d : Nat) (v_line : MV) (h : MH) : callD G (d + 1) "step_in" [v_line] h = c_step_in (callD G d) v_line h := by kernel_rfl
/-- names_in: 0 step -/
def b_names_in (call : CallF) (e : MEnv) (h : MH) : Option OutS := (seqS (retS e (iteE (tstC (cmpC .In (itemC (locC e 0 h) fun h5 => (valC (.int 1) h5)) fun h4 => (tupC (consA (valC (.str "joined") h4) fun h6 => (consA (valC (.str "met") h6) fun h7 => (nilA h7)))))) (fun h3 => (slcC (locC e 0 h3) (fun h8 => bdS (valC (.int 2) h8)) fun h9 => bdS (valC (.int 4) h9))) fun h3 => (slcC (locC e 0 h3) (fun h10 => bdS (valC (.int 2) h10)) fun h11 => bdS (valC (.int 3) h11)))) fun e1 h2 =>
    (nxS e1 h2))
def c_names_in (call : CallF) (v_step : MV) (h : MH) : Option Out := endS (b_names_in call [some v_step] h)
theorem u_names_in (d : Nat) (v_step : MV) (h : MH) : callD G (d + 1) "names_in" [v_step] h = c_names_in (callD G d) v_step h := by kernel_rfl
/-- Program.__init__: 0 self 1 text 2 made 3 inputs 4 steps 5 sources 6 number 7 line 8 step 9 name -/
def b_Program___init__ (call : CallF) (e : MEnv) (h : MH) : Option OutS := (seqS (iteS e (notT (tstC (isiC G "str" (locC e 1 h)))) (fun h3 => (seqS (raiC "BadProgram" e (valC (.int 0) h3)) fun e4 h5 =>
    (nxS e4 h5))) fun h3 => (nxS e h3)) fun e1 h2 =>
    (seqS (asgT 4 e1 (tupC (consA (dicC0 h2) fun h8 => (consA (lstC (nilA h8)) fun h9 => (consA (lstC (nilA h9)) fun h10 => (consA (lstC (nilA h10)) fun h11 => (nilA h11)))))) fun vs12 h13 => (tgN 2 e1 vs12 fun e15 vs14 => (tgN 3 e15 vs14 fun e17 vs16 => (tgN 4 e17 vs16 fun e19 vs18 => (tgN 5 e19 vs18 fun e21 vs20 => (tgNil e21 vs20 h13)))))) fun e6 h7 =>
    (seqS (forC e6 (enumC 1 (consA (metC ⟨G, call⟩ "split" (locC e6 1 h7) fun h28 => (consA (valC (.str "\n") h28) fun h29 => (nilA h29))) fun h27 => (nilA h27))) (fun x26 e24 _ => bdT [6, 7] x26 e24) fun e24 h25 =>
    (seqS (asgN 8 e24 (funC call "step_in" (consA (locC e24 7 h25) fun h32 => (nilA h32)))) fun e30 h31 =>
    (seqS (iteS e30 (orT (tstC (cmpC .Is (locC e30 8 h31) fun h37 => (valC .non h37))) fun h36 => (tstC (eqC ⟨G, call⟩ .Eq (locC e30 6 h36) fun h38 => (valC (.int 8) h38)))) (fun h35 => (seqS (raiC "BadProgram" e30 (binC .Add (locC e30 6 h35) fun h41 => (valC (.int 1) h41))) fun e39 h40 =>
    (nxS e39 h40))) fun h35 => (nxS e30 h35)) fun e33 h34 =>
    (seqS (expS e33 (metC ⟨G, call⟩ "extend" (locC e33 3 h34) fun h44 => (consA (lcC (iterC (ssetC (funC call "names_in" (consA (locC e33 8 h44) fun h52 => (nilA h52))))) (fun x48 _ => some (setE (wipeE e33 [9]) 9 x48)) (fun e46 h47 => (andT (tstC (cmpC .NotIn (locC e46 9 h47) fun h50 => (locC e46 2 h50))) fun h49 => (tstC (cmpC .NotIn (locC e46 9 h49) fun h51 => (locC e46 3 h51))))) fun e46 h47 => (locC e46 9 h47)) fun h45 => (nilA h45)))) fun e42 h43 =>
    (seqS (iteS e42 (tstC (cmpC .Gt (lenC ⟨G, call⟩ (consA (locC e42 3 h43) fun h57 => (nilA h57))) fun h56 => (valC (.int 4) h56))) (fun h55 => (seqS (raiC "BadProgram" e42 (binC .Add (locC e42 6 h55) fun h60 => (valC (.int 1) h60))) fun e58 h59 =>
    (nxS e58 h59))) fun h55 => (nxS e42 h55)) fun e53 h54 =>
    (seqS (expS e53 (metC ⟨G, call⟩ "append" (locC e53 5 h54) fun h63 => (consA (bltC bTuple (consA (lcC (iterC (funC call "names_in" (consA (locC e53 8 h63) fun h69 => (nilA h69)))) (fun x68 _ => some (setE (wipeE e53 [9]) 9 x68)) (fun _ h67 => trueT h67) fun e66 h67 => (metC ⟨G, call⟩ "get" (locC e66 2 h67) fun h70 => (consA (locC e66 9 h70) fun h71 => (consA (locC e66 9 h71) fun h72 => (nilA h72))))) fun h65 => (nilA h65))) fun h64 => (nilA h64)))) fun e61 h62 =>
    (seqS (asgI e61 (locC e61 6 h62) (fun h75 => (locC e61 2 h75)) fun h76 => (itemC (locC e61 8 h76) fun h77 => (valC (.int 0) h77))) fun e73 h74 =>
    (seqS (expS e73 (metC ⟨G, call⟩ "append" (locC e73 4 h74) fun h80 => (consA (locC e73 8 h80) fun h81 => (nilA h81)))) fun e78 h79 =>
    (nxS e78 h79))))))))) fun e22 h23 =>
    (seqS (asgF ⟨G, call⟩ "own_text" e22 (locC e22 1 h23) fun h84 => (locC e22 0 h84)) fun e82 h83 =>
    (seqS (asgF ⟨G, call⟩ "own_inputs" e82 (bltC bTuple (consA (bltC bSorted (consA (locC e82 3 h83) fun h88 => (nilA h88))) fun h87 => (nilA h87))) fun h89 => (locC e82 0 h89)) fun e85 h86 =>
    (seqS (asgF ⟨G, call⟩ "own_steps" e85 (bltC bTuple (consA (locC e85 4 h86) fun h92 => (nilA h92))) fun h93 => (locC e85 0 h93)) fun e90 h91 =>
    (seqS (asgF ⟨G, call⟩ "own_sources" e90 (bltC bTuple (consA (locC e90 5 h91) fun h96 => (nilA h96))) fun h97 => (locC e90 0 h97)) fun e94 h95 =>
    (nxS e94 h95))))))))
def c_Program___init__ (call : CallF) (v_self v_text : MV) (h : MH) : Option Out := endS (b_Program___init__ call [some v_self, some v_text, none, none, none, none, none, none, none, none] h)
theorem u_Program___init__ (d : Nat) (v_self v_text : MV) (h : MH) : callD G (d + 1) "Program.__init__" [v_self, v_text] h = c_Program___init__ (callD G d) v_self v_text h := by kernel_rfl
/-- Program.text: 0 self -/
def b_Program_text (call : CallF) (e : MEnv) (h : MH) : Option OutS := (seqS (retS e (attC ⟨G, call⟩ "own_text" (locC e 0 h))) fun e1 h2 =>
    (nxS e1 h2))
def c_Program_text (call : CallF) (v_self : MV) (h : MH) : Option Out := endS (b_Program_text call [some v_self] h)
theorem u_Program_text (d : Nat) (v_self : MV) (h : MH) : callD G (d + 1) "Program.text" [v_self] h = c_Program_text (callD G d) v_self h := by kernel_rfl
/-- Program.inputs: 0 self -/
def b_Program_inputs (call : CallF) (e : MEnv) (h : MH) : Option OutS := (seqS (retS e (attC ⟨G, call⟩ "own_inputs" (locC e 0 h))) fun e1 h2 =>
    (nxS e1 h2))
def c_Program_inputs (call : CallF) (v_self : MV) (h : MH) : Option Out := endS (b_Program_inputs call [some v_self] h)
theorem u_Program_inputs (d : Nat) (v_self : MV) (h : MH) : callD G (d + 1) "Program.inputs" [v_self] h = c_Program_inputs (callD G d) v_self h := by kernel_rfl
/-- Program.steps: 0 self -/
def b_Program_steps (call : CallF) (e : MEnv) (h : MH) : Option OutS := (seqS (retS e (attC ⟨G, call⟩ "own_steps" (locC e 0 h))) fun e1 h2 =>
    (nxS e1 h2))
def c_Program_steps (call : CallF) (v_self : MV) (h : MH) : Option Out := endS (b_Program_steps call [some v_self] h)
theorem u_Program_steps (d : Nat) (v_self : MV) (h : MH) : callD G (d + 1) "Program.steps" [v_self] h = c_Program_steps (callD G d) v_self h := by kernel_rfl
/-- Program.__len__: 0 self -/
def b_Program___len__ (call : CallF) (e : MEnv) (h : MH) : Option OutS := (seqS (retS e (lenC ⟨G, call⟩ (consA (attC ⟨G, call⟩ "own_steps" (locC e 0 h)) fun h3 => (nilA h3)))) fun e1 h2 =>
    (nxS e1 h2))
def c_Program___len__ (call : CallF) (v_self : MV) (h : MH) : Option Out := endS (b_Program___len__ call [some v_self] h)
theorem u_Program___len__ (d : Nat) (v_self : MV) (h : MH) : callD G (d + 1) "Program.__len__" [v_self] h = c_Program___len__ (callD G d) v_self h := by kernel_rfl
/-- Program.__eq__: 0 self 1 other -/
def b_Program___eq__ (call : CallF) (e : MEnv) (h : MH) : Option OutS := (seqS (retS e (andE (isiC G "Program" (locC e 1 h)) fun h3 => (eqC ⟨G, call⟩ .Eq (attC ⟨G, call⟩ "own_text" (locC e 0 h3)) fun h4 => (attC ⟨G, call⟩ "own_text" (locC e 1 h4))))) fun e1 h2 =>
    (nxS e1 h2))
def c_Program___eq__ (call : CallF) (v_self v_other : MV) (h : MH) : Option Out := endS (b_Program___eq__ call [some v_self, some v_other] h)
theorem u_Program___eq__ (d : Nat) (v_self v_other : MV) (h : MH) : callD G (d + 1) "Program.__eq__" [v_self, v_other] h = c_Program___eq__ (callD G d) v_self v_other h := by kernel_rfl
/-- _law_pot: 0 script 1 place 2 cell 3 own 4 small -/
def b__law_pot (call : CallF) (e : MEnv) (h : MH) : Option OutS := (seqS (asgN 2 e (iteE (tstC (cmpC .Lt (locC e 1 h) fun h4 => (lenC ⟨G, call⟩ (consA (locC e 0 h4) fun h5 => (nilA h5))))) (fun h3 => (itemC (locC e 0 h3) fun h6 => (locC e 1 h6))) fun h3 => (binC .Add (binC .Add (binC .Mod (bltC bSum (consA (slcC (locC e 0 h3) (fun h11 => bdN h11) fun h12 => bdS (valC (.int 1) h12)) fun h10 => (nilA h10))) fun h9 => (valC (.int 1000003) h9)) fun h8 => (binC .Mult (valC (.int 1259) h8) fun h13 => (locC e 1 h13))) fun h7 => (valC (.int 595) h7)))) fun e1 h2 =>
    (seqS (asgN 3 e1 (binC .Mult (binC .Mod (bltC bInt (consA (bltC bAbs (consA (locC e1 2 h2) fun h19 => (nilA h19))) fun h18 => (nilA h18))) fun h17 => (binC .Pow (binC .Pow (valC (.int 10) h17) fun h21 => (valC (.int 60) h21)) fun h20 => (valC (.int 5) h20))) fun h16 => (bltC bInt (consA (cmpC .GtE (bltC bAbs (consA (locC e1 2 h16) fun h24 => (nilA h24))) fun h23 => (binC .Pow (valC (.int 10) h23) fun h25 => (valC (.int 18) h25))) fun h22 => (nilA h22))))) fun e14 h15 =>
    (seqS (asgN 4 e14 (binC .Mod (bltC bInt (consA (locC e14 2 h15) fun h29 => (nilA h29))) fun h28 => (valC (.int 2305843009213693951) h28))) fun e26 h27 =>
    (seqS (retS e26 (lstC (consA (locC e26 3 h27) fun h32 => (consA (binC .Mod (bltC bInt (consA (binC .Add (binC .Add (binC .Mult (locC e26 4 h32) fun h38 => (valC (.int 73217) h38)) fun h37 => (binC .Mult (binC .Mult (valC (.int 8083) h37) fun h40 => (locC e26 1 h40)) fun h39 => (locC e26 1 h39))) fun h36 => (valC (.int 466) h36)) fun h35 => (nilA h35))) fun h34 => (valC (.int 2305843009213693921) h34)) fun h33 => (consA (valC (.int 0) h33) fun h41 => (nilA h41)))))) fun e30 h31 =>
    (nxS e30 h31)))))
def c__law_pot (call : CallF) (v_script v_place : MV) (h : MH) : Option Out := endS (b__law_pot call [some v_script, some v_place, none, none, none] h)
theorem u__law_pot (d : Nat) (v_script v_place : MV) (h : MH) : callD G (d + 1) "_law_pot" [v_script, v_place] h = c__law_pot (callD G d) v_script v_place h := by kernel_rfl
/-- _law_take: 0 pot 1 upto 2 digit 3 prime 4 blend -/
def b__law_take (call : CallF) (e : MEnv) (h : MH) : Option OutS := (seqS (iteS e (tstC (cmpC .Gt (itemC (locC e 0 h) fun h5 => (valC (.int 0) h5)) fun h4 => (valC (.int 0) h4))) (fun h3 => (seqS (asgN 2 e (binC .Mod (bltC bInt (consA (itemC (locC e 0 h3) fun h10 => (valC (.int 0) h10)) fun h9 => (nilA h9))) fun h8 => (locC e 1 h8))) fun e6 h7 =>
    (seqS (asgI e6 (binC .FloorDiv (itemC (locC e6 0 h7) fun h14 => (valC (.int 0) h14)) fun h13 => (locC e6 1 h13)) (fun h15 => (locC e6 0 h15)) fun h16 => (valC (.int 0) h16)) fun e11 h12 =>
    (seqS (retS e11 (locC e11 2 h12)) fun e17 h18 =>
    (nxS e17 h18))))) fun h3 => (nxS e h3)) fun e1 h2 =>
    (seqS (asgI e1 (binC .Add (itemC (locC e1 0 h2) fun h22 => (valC (.int 2) h22)) fun h21 => (valC (.int 1) h21)) (fun h23 => (locC e1 0 h23)) fun h24 => (valC (.int 2) h24)) fun e19 h20 =>
    (seqS (asgN 3 e19 (itemC (lstC (consA (valC (.int 2147483647) h20) fun h28 => (consA (valC (.int 2147483629) h28) fun h29 => (consA (valC (.int 2147483587) h29) fun h30 => (consA (valC (.int 2147483579) h30) fun h31 => (consA (valC (.int 2147483563) h31) fun h32 => (nilA h32))))))) fun h27 => (binC .Mod (bltC bInt (consA (itemC (locC e19 0 h27) fun h35 => (valC (.int 2) h35)) fun h34 => (nilA h34))) fun h33 => (valC (.int 5) h33)))) fun e25 h26 =>
    (seqS (asgN 4 e25 (binC .Mod (bltC bInt (consA (binC .Pow (bltC bInt (consA (binC .Add (binC .Add (itemC (locC e25 0 h26) fun h44 => (valC (.int 1) h44)) fun h43 => (binC .Mult (binC .Mult (valC (.int 98295) h43) fun h46 => (itemC (locC e25 0 h46) fun h47 => (valC (.int 2) h47))) fun h45 => (itemC (locC e25 0 h45) fun h48 => (valC (.int 2) h48)))) fun h42 => (valC (.int 477) h42)) fun h41 => (nilA h41))) fun h40 => (valC (.int 3) h40)) fun h39 => (nilA h39))) fun h38 => (locC e25 3 h38))) fun e36 h37 =>
    (seqS (asgN 4 e36 (binC .Mod (bltC bInt (consA (binC .Mult (locC e36 4 h37) fun h53 => (binC .Add (binC .Mod (bltC bInt (consA (locC e36 4 h53) fun h56 => (nilA h56))) fun h55 => (valC (.int 10009) h55)) fun h54 => (binC .Mult (valC (.int 87) h54) fun h57 => (itemC (locC e36 0 h57) fun h58 => (valC (.int 2) h58))))) fun h52 => (nilA h52))) fun h51 => (valC (.int 2305843009213693907) h51))) fun e49 h50 =>
    (seqS (retS e49 (binC .Mod (bltC bInt (consA (binC .FloorDiv (locC e49 4 h50) fun h63 => (valC (.int 167) h63)) fun h62 => (nilA h62))) fun h61 => (locC e49 1 h61))) fun e59 h60 =>
    (nxS e59 h60)))))))
def c__law_take (call : CallF) (v_pot v_upto : MV) (h : MH) : Option Out := endS (b__law_take call [some v_pot, some v_upto, none, none, none] h)
theorem u__law_take (d : Nat) (v_pot v_upto : MV) (h : MH) : callD G (d + 1) "_law_take" [v_pot, v_upto] h = c__law_take (callD G d) v_pot v_upto h := by kernel_rfl
/-- _law_of: 0 pot 1 some -/
def b__law_of (call : CallF) (e : MEnv) (h : MH) : Option OutS := (seqS (retS e (itemC (locC e 1 h) fun h3 => (funC call "_law_take" (consA (locC e 0 h3) fun h4 => (consA (lenC ⟨G, call⟩ (consA (locC e 1 h4) fun h6 => (nilA h6))) fun h5 => (nilA h5)))))) fun e1 h2 =>
    (nxS e1 h2))
def c__law_of (call : CallF) (v_pot v_some : MV) (h : MH) : Option Out := endS (b__law_of call [some v_pot, some v_some] h)
theorem u__law_of (d : Nat) (v_pot v_some : MV) (h : MH) : callD G (d + 1) "_law_of" [v_pot, v_some] h = c__law_of (callD G d) v_pot v_some h := by kernel_rfl
/-- _law_some: 0 pot 1 pool 2 many 3 left 4 found 5 lap -/
def b__law_some (call : CallF) (e : MEnv) (h : MH) : Option OutS := (seqS (asgT 2 e (tupC (consA (bltC bList (consA (locC e 1 h) fun h4 => (nilA h4))) fun h3 => (consA (lstC (nilA h3)) fun h5 => (nilA h5)))) fun vs6 h7 => (tgN 3 e vs6 fun e9 vs8 => (tgN 4 e9 vs8 fun e11 vs10 => (tgNil e11 vs10 h7)))) fun e1 h2 =>
    (seqS (forC e1 (rngC 1 (consA (locC e1 2 h2) fun h17 => (nilA h17))) (fun x16 e14 _ => some (setE e14 5 x16)) fun e14 h15 =>
    (seqS (expS e14 (metC ⟨G, call⟩ "append" (locC e14 4 h15) fun h20 => (consA (metC ⟨G, call⟩ "pop" (locC e14 3 h20) fun h22 => (consA (funC call "_law_take" (consA (locC e14 0 h22) fun h24 => (consA (lenC ⟨G, call⟩ (consA (locC e14 3 h24) fun h26 => (nilA h26))) fun h25 => (nilA h25)))) fun h23 => (nilA h23))) fun h21 => (nilA h21)))) fun e18 h19 =>
    (nxS e18 h19))) fun e12 h13 =>
    (seqS (retS e12 (locC e12 4 h13)) fun e27 h28 =>
    (nxS e27 h28))))
def c__law_some (call : CallF) (v_pot v_pool v_many : MV) (h : MH) : Option Out := endS (b__law_some call [some v_pot, some v_pool, some v_many, none, none, none] h)
theorem u__law_some (d : Nat) (v_pot v_pool v_many : MV) (h : MH) : callD G (d + 1) "_law_some" [v_pot, v_pool, v_many] h = c__law_some (callD G d) v_pot v_pool v_many h := by kernel_rfl
/-- _law_cells: 0 script 1 most -/
def b__law_cells (call : CallF) (e : MEnv) (h : MH) : Option OutS := (seqS (retS e (lrgC (bltC bMax (consA (valC (.int 1) h) fun h3 => (consA (bltC bMin (consA (locC e 1 h3) fun h5 => (consA (lenC ⟨G, call⟩ (consA (locC e 0 h5) fun h7 => (nilA h7))) fun h6 => (nilA h6)))) fun h4 => (nilA h4)))))) fun e1 h2 =>
    (nxS e1 h2))
def c__law_cells (call : CallF) (v_script v_most : MV) (h : MH) : Option Out := endS (b__law_cells call [some v_script, some v_most] h)
theorem u__law_cells (d : Nat) (v_script v_most : MV) (h : MH) : callD G (d + 1) "_law_cells" [v_script, v_most] h = c__law_cells (callD G d) v_script v_most h := by kernel_rfl
/-- _law_fraction: 0 top 1 low 2 one 3 other -/
def b__law_fraction (call : CallF) (e : MEnv) (h : MH) : Option OutS := (seqS (asgT 2 e (tupC (consA (bltC bAbs (consA (bltC bInt (consA (locC e 0 h) fun h5 => (nilA h5))) fun h4 => (nilA h4))) fun h3 => (consA (bltC bInt (consA (locC e 1 h3) fun h7 => (nilA h7))) fun h6 => (nilA h6)))) fun vs8 h9 => (tgN 2 e vs8 fun e11 vs10 => (tgN 3 e11 vs10 fun e13 vs12 => (tgNil e13 vs12 h9)))) fun e1 h2 =>
    (seqS (whlC e1 h2 (fun e16 h17 => (tstC (cmpC .Gt (locC e16 2 h17) fun h18 => (valC (.int 0) h18)))) fun e16 h17 =>
    (seqS (asgT 2 e16 (tupC (consA (binC .Mod (locC e16 3 h17) fun h22 => (locC e16 2 h22)) fun h21 => (consA (locC e16 2 h21) fun h23 => (nilA h23)))) fun vs24 h25 => (tgN 2 e16 vs24 fun e27 vs26 => (tgN 3 e27 vs26 fun e29 vs28 => (tgNil e29 vs28 h25)))) fun e19 h20 =>
    (nxS e19 h20))) fun e14 h15 =>
    (seqS (retS e14 (tupC (consA (binC .FloorDiv (bltC bInt (consA (locC e14 0 h15) fun h34 => (nilA h34))) fun h33 => (locC e14 3 h33)) fun h32 => (consA (binC .FloorDiv (bltC bInt (consA (locC e14 1 h32) fun h37 => (nilA h37))) fun h36 => (locC e14 3 h36)) fun h35 => (nilA h35))))) fun e30 h31 =>
    (nxS e30 h31))))
def c__law_fraction (call : CallF) (v_top v_low : MV) (h : MH) : Option Out := endS (b__law_fraction call [some v_top, some v_low, none, none] h)
theorem u__law_fraction (d : Nat) (v_top v_low : MV) (h : MH) : callD G (d + 1) "_law_fraction" [v_top, v_low] h = c__law_fraction (callD G d) v_top v_low h := by kernel_rfl
/-- _law_share: 0 pot 1 lows 2 low -/
def b__law_share (call : CallF) (e : MEnv) (h : MH) : Option OutS := (seqS (asgN 2 e (funC call "_law_of" (consA (locC e 0 h) fun h3 => (consA (locC e 1 h3) fun h4 => (nilA h4))))) fun e1 h2 =>
    (seqS (retS e1 (funC call "_law_fraction" (consA (binC .Sub (funC call "_law_take" (consA (locC e1 0 h2) fun h9 => (consA (binC .Add (binC .Mult (valC (.int 2) h9) fun h12 => (locC e1 2 h12)) fun h11 => (valC (.int 1) h11)) fun h10 => (nilA h10)))) fun h8 => (locC e1 2 h8)) fun h7 => (consA (locC e1 2 h7) fun h13 => (nilA h13))))) fun e5 h6 =>
    (nxS e5 h6)))
def c__law_share (call : CallF) (v_pot v_lows : MV) (h : MH) : Option Out := endS (b__law_share call [some v_pot, some v_lows, none] h)
theorem u__law_share (d : Nat) (v_pot v_lows : MV) (h : MH) : callD G (d + 1) "_law_share" [v_pot, v_lows] h = c__law_share (callD G d) v_pot v_lows h := by kernel_rfl
/-- _law_share_text: 0 share -/
def b__law_share_text (call : CallF) (e : MEnv) (h : MH) : Option OutS := (seqS (retS e (binC .Add (bltC bStr (consA (bltC bInt (consA (itemC (locC e 0 h) fun h6 => (valC (.int 0) h6)) fun h5 => (nilA h5))) fun h4 => (nilA h4))) fun h3 => (iteE (tstC (cmpC .Gt (itemC (locC e 0 h3) fun h9 => (valC (.int 1) h9)) fun h8 => (valC (.int 1) h8))) (fun h7 => (binC .Add (valC (.str "/") h7) fun h10 => (bltC bStr (consA (bltC bInt (consA (itemC (locC e 0 h10) fun h13 => (valC (.int 1) h13)) fun h12 => (nilA h12))) fun h11 => (nilA h11))))) fun h7 => (valC (.str "") h7)))) fun e1 h2 =>
    (nxS e1 h2))
def c__law_share_text (call : CallF) (v_share : MV) (h : MH) : Option Out := endS (b__law_share_text call [some v_share] h)
theorem u__law_share_text (d : Nat) (v_share : MV) (h : MH) : callD G (d + 1) "_law_share_text" [v_share] h = c__law_share_text (callD G d) v_share h := by kernel_rfl
/-- _law_step_text: 0 step 1 words 2 part -/
def b__law_step_text (call : CallF) (e : MEnv) (h : MH) : Option OutS := (seqS (asgN 1 e (lstC (consA (itemC (locC e 0 h) fun h4 => (valC (.int 0) h4)) fun h3 => (consA (valC (.str "=") h3) fun h5 => (consA (itemC (locC e 0 h5) fun h7 => (valC (.int 1) h7)) fun h6 => (nilA h6)))))) fun e1 h2 =>
    (seqS (forC e1 (iterC (slcC (locC e1 0 h2) (fun h13 => bdS (valC (.int 2) h13)) fun h14 => bdN h14)) (fun x12 e10 _ => some (setE e10 2 x12)) fun e10 h11 =>
    (seqS (iteS e10 (tstC (isiC G "str" (locC e10 2 h11))) (fun h17 => (seqS (expS e10 (metC ⟨G, call⟩ "append" (locC e10 1 h17) fun h20 => (consA (locC e10 2 h20) fun h21 => (nilA h21)))) fun e18 h19 =>
    (nxS e18 h19))) fun h17 => (seqS (expS e10 (metC ⟨G, call⟩ "append" (locC e10 1 h17) fun h24 => (consA (iteE (tstC (isiC G "tuple" (locC e10 2 h24))) (fun h26 => (funC call "_law_share_text" (consA (locC e10 2 h26) fun h27 => (nilA h27)))) fun h26 => (bltC bStr (consA (bltC bInt (consA (locC e10 2 h26) fun h29 => (nilA h29))) fun h28 => (nilA h28)))) fun h25 => (nilA h25)))) fun e22 h23 =>
    (nxS e22 h23))) fun e15 h16 =>
    (nxS e15 h16))) fun e8 h9 =>
    (seqS (retS e8 (metC ⟨G, call⟩ "join" (valC (.str " ") h9) fun h32 => (consA (locC e8 1 h32) fun h33 => (nilA h33)))) fun e30 h31 =>
    (nxS e30 h31))))
def c__law_step_text (call : CallF) (v_step : MV) (h : MH) : Option Out := endS (b__law_step_text call [some v_step, none, none] h)
theorem u__law_step_text (d : Nat) (v_step : MV) (h : MH) : callD G (d + 1) "_law_step_text" [v_step] h = c__law_step_text (callD G d) v_step h := by kernel_rfl
/-- _law_program_text: 0 steps 1 step -/
def b__law_program_text (call : CallF) (e : MEnv) (h : MH) : Option OutS := (seqS (retS e (metC ⟨G, call⟩ "join" (valC (.str "\n") h) fun h3 => (consA (lcC (iterC (locC e 0 h3)) (fun x7 _ => some (setE (wipeE e [1]) 1 x7)) (fun _ h6 => trueT h6) fun e5 h6 => (funC call "_law_step_text" (consA (locC e5 1 h6) fun h8 => (nilA h8)))) fun h4 => (nilA h4)))) fun e1 h2 =>
    (nxS e1 h2))
def c__law_program_text (call : CallF) (v_steps : MV) (h : MH) : Option Out := endS (b__law_program_text call [some v_steps, none] h)
theorem u__law_program_text (d : Nat) (v_steps : MV) (h : MH) : callD G (d + 1) "_law_program_text" [v_steps] h = c__law_program_text (callD G d) v_steps h := by kernel_rfl
/-- _law_named: 0 step -/
def b__law_named (call : CallF) (e : MEnv) (h : MH) : Option OutS := (seqS (retS e (iteE (tstC (cmpC .In (itemC (locC e 0 h) fun h5 => (valC (.int 1) h5)) fun h4 => (tupC (consA (valC (.str "joined") h4) fun h6 => (consA (valC (.str "met") h6) fun h7 => (nilA h7)))))) (fun h3 => (bltC bList (consA (slcC (locC e 0 h3) (fun h9 => bdS (valC (.int 2) h9)) fun h10 => bdS (valC (.int 4) h10)) fun h8 => (nilA h8)))) fun h3 => (lstC (consA (itemC (locC e 0 h3) fun h12 => (valC (.int 2) h12)) fun h11 => (nilA h11))))) fun e1 h2 =>
    (nxS e1 h2))
def c__law_named (call : CallF) (v_step : MV) (h : MH) : Option Out := endS (b__law_named call [some v_step] h)
theorem u__law_named (d : Nat) (v_step : MV) (h : MH) : callD G (d + 1) "_law_named" [v_step] h = c__law_named (callD G d) v_step h := by kernel_rfl
/-- _law_sources: 0 steps 1 made 2 found 3 number 4 step 5 name -/
def b__law_sources (call : CallF) (e : MEnv) (h : MH) : Option OutS := (seqS (asgT 2 e (tupC (consA (dicC0 h) fun h3 => (consA (lstC (nilA h3)) fun h4 => (nilA h4)))) fun vs5 h6 => (tgN 1 e vs5 fun e8 vs7 => (tgN 2 e8 vs7 fun e10 vs9 => (tgNil e10 vs9 h6)))) fun e1 h2 =>
    (seqS (forC e1 (enumC 1 (consA (locC e1 0 h2) fun h16 => (nilA h16))) (fun x15 e13 _ => bdT [3, 4] x15 e13) fun e13 h14 =>
    (seqS (expS e13 (metC ⟨G, call⟩ "append" (locC e13 2 h14) fun h19 => (consA (lcC (iterC (funC call "_law_named" (consA (locC e13 4 h19) fun h24 => (nilA h24)))) (fun x23 _ => some (setE (wipeE e13 [5]) 5 x23)) (fun _ h22 => trueT h22) fun e21 h22 => (iteE (tstC (cmpC .In (locC e21 5 h22) fun h26 => (locC e21 1 h26))) (fun h25 => (itemC (locC e21 1 h25) fun h27 => (locC e21 5 h27))) fun h25 => (locC e21 5 h25))) fun h20 => (nilA h20)))) fun e17 h18 =>
    (seqS (asgI e17 (locC e17 3 h18) (fun h30 => (locC e17 1 h30)) fun h31 => (itemC (locC e17 4 h31) fun h32 => (valC (.int 0) h32))) fun e28 h29 =>
    (nxS e28 h29)))) fun e11 h12 =>
    (seqS (retS e11 (locC e11 2 h12)) fun e33 h34 =>
    (nxS e33 h34))))
def c__law_sources (call : CallF) (v_steps : MV) (h : MH) : Option Out := endS (b__law_sources call [some v_steps, none, none, none, none, none] h)
theorem u__law_sources (d : Nat) (v_steps : MV) (h : MH) : callD G (d + 1) "_law_sources" [v_steps] h = c__law_sources (callD G d) v_steps h := by kernel_rfl
/-- _law_inputs: 0 steps 1 found 2 sources 3 one -/
def b__law_inputs (call : CallF) (e : MEnv) (h : MH) : Option OutS := (seqS (asgN 1 e (lstC (nilA h))) fun e1 h2 =>
    (seqS (forC e1 (iterC (funC call "_law_sources" (consA (locC e1 0 h2) fun h8 => (nilA h8)))) (fun x7 e5 _ => some (setE e5 2 x7)) fun e5 h6 =>
    (seqS (expS e5 (metC ⟨G, call⟩ "extend" (locC e5 1 h6) fun h11 => (consA (lcC (iterC (locC e5 2 h11)) (fun x15 _ => some (setE (wipeE e5 [3]) 3 x15)) (fun e13 h14 => (tstC (isiC G "str" (locC e13 3 h14)))) fun e13 h14 => (locC e13 3 h14)) fun h12 => (nilA h12)))) fun e9 h10 =>
    (nxS e9 h10))) fun e3 h4 =>
    (seqS (retS e3 (ssetC (locC e3 1 h4))) fun e16 h17 =>
    (nxS e16 h17))))
def c__law_inputs (call : CallF) (v_steps : MV) (h : MH) : Option Out := endS (b__law_inputs call [some v_steps, none, none, none] h)
theorem u__law_inputs (d : Nat) (v_steps : MV) (h : MH) : callD G (d + 1) "_law_inputs" [v_steps] h = c__law_inputs (callD G d) v_steps h := by kernel_rfl
/-- _law_ways: 0 steps 1 many 2 sources 3 one -/
def b__law_ways (call : CallF) (e : MEnv) (h : MH) : Option OutS := (seqS (asgN 1 e (lstC (nilA h))) fun e1 h2 =>
    (seqS (forC e1 (iterC (funC call "_law_sources" (consA (locC e1 0 h2) fun h8 => (nilA h8)))) (fun x7 e5 _ => some (setE e5 2 x7)) fun e5 h6 =>
    (seqS (expS e5 (metC ⟨G, call⟩ "append" (locC e5 1 h6) fun h11 => (consA (bltC bSum (consA (lcC (iterC (locC e5 2 h11)) (fun x16 _ => some (setE (wipeE e5 [3]) 3 x16)) (fun _ h15 => trueT h15) fun e14 h15 => (iteE (tstC (isiC G "str" (locC e14 3 h15))) (fun h17 => (valC (.int 1) h17)) fun h17 => (itemC (locC e14 1 h17) fun h18 => (locC e14 3 h18)))) fun h13 => (nilA h13))) fun h12 => (nilA h12)))) fun e9 h10 =>
    (nxS e9 h10))) fun e3 h4 =>
    (seqS (retS e3 (itemC (locC e3 1 h4) fun h21 => (unC .USub (valC (.int 1) h21)))) fun e19 h20 =>
    (nxS e19 h20))))
def c__law_ways (call : CallF) (v_steps : MV) (h : MH) : Option Out := endS (b__law_ways call [some v_steps, none, none, none] h)
theorem u__law_ways (d : Nat) (v_steps : MV) (h : MH) : callD G (d + 1) "_law_ways" [v_steps] h = c__law_ways (callD G d) v_steps h := by kernel_rfl
/-- _law_step: 0 pot 1 names 2 lows 3 name 4 one 5 way 6 many -/
def b__law_step (call : CallF) (e : MEnv) (h : MH) : Option OutS := (seqS (asgT 3 e (tupC (consA (funC call "_law_of" (consA (locC e 0 h) fun h4 => (consA (binC .Add (locC e 1 h4) fun h6 => (lstC (consA (valC (.str "r") h6) fun h7 => (consA (valC (.str "s") h7) fun h8 => (nilA h8))))) fun h5 => (nilA h5)))) fun h3 => (consA (funC call "_law_of" (consA (locC e 0 h3) fun h10 => (consA (locC e 1 h10) fun h11 => (nilA h11)))) fun h9 => (consA (funC call "_law_take" (consA (locC e 0 h9) fun h13 => (consA (valC (.int 7) h13) fun h14 => (nilA h14)))) fun h12 => (nilA h12))))) fun vs15 h16 => (tgN 3 e vs15 fun e18 vs17 => (tgN 4 e18 vs17 fun e20 vs19 => (tgN 5 e20 vs19 fun e22 vs21 => (tgNil e22 vs21 h16))))) fun e1 h2 =>
    (seqS (iteS e1 (tstC (cmpC .Lt (locC e1 5 h2) fun h26 => (valC (.int 3) h26))) (fun h25 => (seqS (retS e1 (tupC (consA (locC e1 3 h25) fun h29 => (consA (funC call "_law_of" (consA (locC e1 0 h29) fun h31 => (consA (lstC (consA (valC (.str "joined") h31) fun h33 => (consA (valC (.str "met") h33) fun h34 => (nilA h34)))) fun h32 => (nilA h32)))) fun h30 => (consA (locC e1 4 h30) fun h35 => (consA (funC call "_law_of" (consA (locC e1 0 h35) fun h37 => (consA (locC e1 1 h37) fun h38 => (nilA h38)))) fun h36 => (nilA h36))))))) fun e27 h28 =>
    (nxS e27 h28))) fun h25 => (nxS e1 h25)) fun e23 h24 =>
    (seqS (iteS e23 (tstC (eqC ⟨G, call⟩ .Eq (locC e23 5 h24) fun h42 => (valC (.int 3) h42))) (fun h41 => (seqS (retS e23 (tupC (consA (locC e23 3 h41) fun h45 => (consA (valC (.str "turned") h45) fun h46 => (consA (locC e23 4 h46) fun h47 => (consA (funC call "_law_take" (consA (locC e23 0 h47) fun h49 => (consA (valC (.int 8) h49) fun h50 => (nilA h50)))) fun h48 => (nilA h48))))))) fun e43 h44 =>
    (nxS e43 h44))) fun h41 => (nxS e23 h41)) fun e39 h40 =>
    (seqS (iteS e39 (tstC (eqC ⟨G, call⟩ .Eq (locC e39 5 h40) fun h54 => (valC (.int 4) h54))) (fun h53 => (seqS (retS e39 (tupC (consA (locC e39 3 h53) fun h57 => (consA (valC (.str "moved") h57) fun h58 => (consA (locC e39 4 h58) fun h59 => (consA (funC call "_law_share" (consA (locC e39 0 h59) fun h61 => (consA (locC e39 2 h61) fun h62 => (nilA h62)))) fun h60 => (consA (funC call "_law_share" (consA (locC e39 0 h60) fun h64 => (consA (locC e39 2 h64) fun h65 => (nilA h65)))) fun h63 => (nilA h63)))))))) fun e55 h56 =>
    (nxS e55 h56))) fun h53 => (nxS e39 h53)) fun e51 h52 =>
    (seqS (asgN 6 e51 (funC call "_law_of" (consA (locC e51 0 h52) fun h68 => (consA (lstC (consA (valC (.int 1) h68) fun h70 => (consA (valC (.int 2) h70) fun h71 => (consA (valC (.int 2) h71) fun h72 => (consA (valC (.int 2) h72) fun h73 => (consA (valC (.int 3) h73) fun h74 => (consA (valC (.int 4) h74) fun h75 => (nilA h75)))))))) fun h69 => (nilA h69))))) fun e66 h67 =>
    (seqS (retS e66 (tupC (consA (locC e66 3 h67) fun h78 => (consA (funC call "_law_of" (consA (locC e66 0 h78) fun h80 => (consA (lstC (consA (valC (.str "lesser") h80) fun h82 => (consA (valC (.str "zoomed") h82) fun h83 => (nilA h83)))) fun h81 => (nilA h81)))) fun h79 => (consA (locC e66 4 h79) fun h84 => (consA (locC e66 6 h84) fun h85 => (consA (funC call "_law_take" (consA (locC e66 0 h85) fun h87 => (consA (locC e66 6 h87) fun h88 => (nilA h88)))) fun h86 => (consA (funC call "_law_take" (consA (locC e66 0 h86) fun h90 => (consA (locC e66 6 h90) fun h91 => (nilA h91)))) fun h89 => (nilA h89))))))))) fun e76 h77 =>
    (nxS e76 h77)))))))
def c__law_step (call : CallF) (v_pot v_names v_lows : MV) (h : MH) : Option Out := endS (b__law_step call [some v_pot, some v_names, some v_lows, none, none, none, none] h)
theorem u__law_step (d : Nat) (v_pot v_names v_lows : MV) (h : MH) : callD G (d + 1) "_law_step" [v_pot, v_names, v_lows] h = c__law_step (callD G d) v_pot v_names v_lows h := by kernel_rfl
/-- _law_steps: 0 pot 1 most 2 lows 3 names 4 steps 5 lap 6 some 7 step -/
def b__law_steps (call : CallF) (e : MEnv) (h : MH) : Option OutS := (seqS (asgN 3 e (funC call "_law_of" (consA (locC e 0 h) fun h3 => (consA (lstC (consA (lstC (consA (valC (.str "a") h3) fun h6 => (nilA h6))) fun h5 => (consA (lstC (consA (valC (.str "a") h5) fun h8 => (consA (valC (.str "b") h8) fun h9 => (nilA h9)))) fun h7 => (consA (lstC (consA (valC (.str "b") h7) fun h11 => (consA (valC (.str "a") h11) fun h12 => (consA (valC (.str "c") h12) fun h13 => (nilA h13))))) fun h10 => (consA (lstC (consA (valC (.str "met") h10) fun h15 => (consA (valC (.str "x") h15) fun h16 => (consA (valC (.str "q") h16) fun h17 => (consA (valC (.str "zz") h17) fun h18 => (nilA h18)))))) fun h14 => (consA (lstC (consA (valC (.str "joined") h14) fun h20 => (consA (valC (.str "plane") h20) fun h21 => (nilA h21)))) fun h19 => (nilA h19))))))) fun h4 => (nilA h4))))) fun e1 h2 =>
    (seqS (asgN 4 e1 (lstC (nilA h2))) fun e22 h23 =>
    (seqS (forC e22 (rngC 1 (consA (binC .Add (valC (.int 1) h23) fun h30 => (funC call "_law_take" (consA (locC e22 0 h30) fun h31 => (consA (locC e22 1 h31) fun h32 => (nilA h32))))) fun h29 => (nilA h29))) (fun x28 e26 _ => some (setE e26 5 x28)) fun e26 h27 =>
    (seqS (asgN 6 e26 (ssetC (binC .Add (locC e26 3 h27) fun h35 => (lcC (iterC (locC e26 4 h35)) (fun x38 _ => some (setE (wipeE e26 [7]) 7 x38)) (fun _ h37 => trueT h37) fun e36 h37 => (itemC (locC e36 7 h37) fun h39 => (valC (.int 0) h39)))))) fun e33 h34 =>
    (seqS (asgN 7 e33 (funC call "_law_step" (consA (locC e33 0 h34) fun h42 => (consA (iteE (orT (tstC (eqC ⟨G, call⟩ .Eq (funC call "_law_take" (consA (locC e33 0 h42) fun h47 => (consA (valC (.int 2) h47) fun h48 => (nilA h48)))) fun h46 => (valC (.int 0) h46))) fun h45 => (tstC (eqC ⟨G, call⟩ .Eq (locC e33 4 h45) fun h49 => (lstC (nilA h49))))) (fun h44 => (locC e33 6 h44)) fun h44 => (binC .Add (lstC (consA (itemC (itemC (locC e33 4 h44) fun h53 => (unC .USub (valC (.int 1) h53))) fun h52 => (valC (.int 0) h52)) fun h51 => (nilA h51))) fun h50 => (locC e33 3 h50))) fun h43 => (consA (locC e33 2 h43) fun h54 => (nilA h54)))))) fun e40 h41 =>
    (seqS (iteS e40 (andT (tstC (cmpC .Lt (lenC ⟨G, call⟩ (consA (funC call "_law_inputs" (consA (binC .Add (locC e40 4 h41) fun h62 => (lstC (consA (locC e40 7 h62) fun h63 => (nilA h63)))) fun h61 => (nilA h61))) fun h60 => (nilA h60))) fun h59 => (valC (.int 5) h59))) fun h58 => (tstC (cmpC .Lt (funC call "_law_ways" (consA (binC .Add (locC e40 4 h58) fun h66 => (lstC (consA (locC e40 7 h66) fun h67 => (nilA h67)))) fun h65 => (nilA h65))) fun h64 => (valC (.int 13) h64)))) (fun h57 => (seqS (expS e40 (metC ⟨G, call⟩ "append" (locC e40 4 h57) fun h70 => (consA (locC e40 7 h70) fun h71 => (nilA h71)))) fun e68 h69 =>
    (nxS e68 h69))) fun h57 => (nxS e40 h57)) fun e55 h56 =>
    (nxS e55 h56))))) fun e24 h25 =>
    (seqS (retS e24 (iteE (tstC (eqC ⟨G, call⟩ .NotEq (locC e24 4 h25) fun h75 => (lstC (nilA h75)))) (fun h74 => (locC e24 4 h74)) fun h74 => (lstC (consA (tupC (consA (valC (.str "r") h74) fun h77 => (consA (valC (.str "turned") h77) fun h78 => (consA (itemC (locC e24 3 h78) fun h80 => (valC (.int 0) h80)) fun h79 => (consA (valC (.int 0) h79) fun h81 => (nilA h81)))))) fun h76 => (nilA h76))))) fun e72 h73 =>
    (nxS e72 h73)))))
def c__law_steps (call : CallF) (v_pot v_most v_lows : MV) (h : MH) : Option Out := endS (b__law_steps call [some v_pot, some v_most, some v_lows, none, none, none, none, none] h)
theorem u__law_steps (d : Nat) (v_pot v_most v_lows : MV) (h : MH) : callD G (d + 1) "_law_steps" [v_pot, v_most, v_lows] h = c__law_steps (callD G d) v_pot v_most v_lows h := by kernel_rfl
/-- _law_whole: 0 word 1 digits 2 sign -/
def b__law_whole (call : CallF) (e : MEnv) (h : MH) : Option OutS := (seqS (asgN 1 e (iteE (tstC (eqC ⟨G, call⟩ .Eq (slcC (locC e 0 h) (fun h5 => bdN h5) fun h6 => bdS (valC (.int 1) h6)) fun h4 => (valC (.str "-") h4))) (fun h3 => (slcC (locC e 0 h3) (fun h7 => bdS (valC (.int 1) h7)) fun h8 => bdN h8)) fun h3 => (locC e 0 h3))) fun e1 h2 =>
    (seqS (iteS e1 (orT (notT (tstC (chnC .LtE .LtE (valC (.int 1) h2) (fun h13 => (lenC ⟨G, call⟩ (consA (locC e1 1 h13) fun h15 => (nilA h15)))) fun h14 => (valC (.int 9) h14)))) fun h12 => (notT (tstC (bltC bAll (consA (lcC (iterC (locC e1 1 h12)) (fun x19 _ => some (setE (wipeE e1 [2]) 2 x19)) (fun _ h18 => trueT h18) fun e17 h18 => (cmpC .In (locC e17 2 h18) fun h20 => (valC (.str "0123456789") h20))) fun h16 => (nilA h16)))))) (fun h11 => (seqS (retS e1 (valC .non h11)) fun e21 h22 =>
    (nxS e21 h22))) fun h11 => (nxS e1 h11)) fun e9 h10 =>
    (seqS (retS e9 (iteE (tstC (eqC ⟨G, call⟩ .Eq (bltC bStr (consA (bltC bInt (consA (locC e9 0 h10) fun h28 => (nilA h28))) fun h27 => (nilA h27))) fun h26 => (locC e9 0 h26))) (fun h25 => (bltC bInt (consA (locC e9 0 h25) fun h29 => (nilA h29)))) fun h25 => (valC .non h25))) fun e23 h24 =>
    (nxS e23 h24))))
def c__law_whole (call : CallF) (v_word : MV) (h : MH) : Option Out := endS (b__law_whole call [some v_word, none, none] h)
theorem u__law_whole (d : Nat) (v_word : MV) (h : MH) : callD G (d + 1) "_law_whole" [v_word] h = c__law_whole (callD G d) v_word h := by kernel_rfl
/-- _law_share_read: 0 word 1 numbers 2 one 3 top 4 low -/
def b__law_share_read (call : CallF) (e : MEnv) (h : MH) : Option OutS := (seqS (asgN 1 e (lcC (iterC (metC ⟨G, call⟩ "split" (locC e 0 h) fun h6 => (consA (valC (.str "/") h6) fun h7 => (nilA h7)))) (fun x5 _ => some (setE (wipeE e [2]) 2 x5)) (fun _ h4 => trueT h4) fun e3 h4 => (funC call "_law_whole" (consA (locC e3 2 h4) fun h8 => (nilA h8))))) fun e1 h2 =>
    (seqS (iteS e1 (orT (tstC (cmpC .In (valC .non h2) fun h13 => (locC e1 1 h13))) fun h12 => (tstC (cmpC .Gt (lenC ⟨G, call⟩ (consA (locC e1 1 h12) fun h15 => (nilA h15))) fun h14 => (valC (.int 2) h14)))) (fun h11 => (seqS (retS e1 (valC .non h11)) fun e16 h17 =>
    (nxS e16 h17))) fun h11 => (nxS e1 h11)) fun e9 h10 =>
    (seqS (iteS e9 (tstC (eqC ⟨G, call⟩ .Eq (lenC ⟨G, call⟩ (consA (locC e9 1 h10) fun h22 => (nilA h22))) fun h21 => (valC (.int 1) h21))) (fun h20 => (seqS (retS e9 (iteE (tstC (chnC .LtE .LtE (unC .USub (valC (.int 1) h20)) (fun h26 => (itemC (locC e9 1 h26) fun h28 => (valC (.int 0) h28))) fun h27 => (valC (.int 1) h27))) (fun h25 => (tupC (consA (itemC (locC e9 1 h25) fun h30 => (valC (.int 0) h30)) fun h29 => (consA (valC (.int 1) h29) fun h31 => (nilA h31))))) fun h25 => (valC .non h25))) fun e23 h24 =>
    (nxS e23 h24))) fun h20 => (nxS e9 h20)) fun e18 h19 =>
    (seqS (asgT 2 e18 (locC e18 1 h19) fun vs34 h35 => (tgN 3 e18 vs34 fun e37 vs36 => (tgN 4 e37 vs36 fun e39 vs38 => (tgNil e39 vs38 h35)))) fun e32 h33 =>
    (seqS (retS e32 (iteE (andT (tstC (chnC .LtE .LtE (valC (.int 2) h33) (fun h44 => (locC e32 4 h44)) fun h45 => (valC (.int 12) h45))) fun h43 => (andT (tstC (chnC .Lt .Lt (unC .USub (locC e32 4 h43)) (fun h47 => (locC e32 3 h47)) fun h48 => (locC e32 4 h48))) fun h46 => (tstC (eqC ⟨G, call⟩ .Eq (funC call "_law_fraction" (consA (locC e32 3 h46) fun h50 => (consA (locC e32 4 h50) fun h51 => (nilA h51)))) fun h49 => (tupC (consA (locC e32 3 h49) fun h52 => (consA (locC e32 4 h52) fun h53 => (nilA h53)))))))) (fun h42 => (tupC (consA (locC e32 3 h42) fun h54 => (consA (locC e32 4 h54) fun h55 => (nilA h55))))) fun h42 => (valC .non h42))) fun e40 h41 =>
    (nxS e40 h41))))))
def c__law_share_read (call : CallF) (v_word : MV) (h : MH) : Option Out := endS (b__law_share_read call [some v_word, none, none, none, none] h)
theorem u__law_share_read (d : Nat) (v_word : MV) (h : MH) : callD G (d + 1) "_law_share_read" [v_word] h = c__law_share_read (callD G d) v_word h := by kernel_rfl
/-- _law_is_word: 0 word 1 sign -/
def b__law_is_word (call : CallF) (e : MEnv) (h : MH) : Option OutS := (seqS (retS e (andE (chnC .LtE .LtE (valC (.int 1) h) (fun h4 => (lenC ⟨G, call⟩ (consA (locC e 0 h4) fun h6 => (nilA h6)))) fun h5 => (valC (.int 8) h5)) fun h3 => (bltC bAll (consA (lcC (iterC (locC e 0 h3)) (fun x10 _ => some (setE (wipeE e [1]) 1 x10)) (fun _ h9 => trueT h9) fun e8 h9 => (cmpC .In (locC e8 1 h9) fun h11 => (valC (.str "abcdefghijklmnopqrstuvwxyz") h11))) fun h7 => (nilA h7))))) fun e1 h2 =>
    (nxS e1 h2))
def c__law_is_word (call : CallF) (v_word : MV) (h : MH) : Option Out := endS (b__law_is_word call [some v_word, none] h)
theorem u__law_is_word (d : Nat) (v_word : MV) (h : MH) : callD G (d + 1) "_law_is_word" [v_word] h = c__law_is_word (callD G d) v_word h := by kernel_rfl
/-- _law_read: 0 line 1 words 2 head 3 rest 4 shares 5 one 6 numbers -/
def b__law_read (call : CallF) (e : MEnv) (h : MH) : Option OutS := (seqS (asgN 1 e (metC ⟨G, call⟩ "split" (locC e 0 h) fun h3 => (consA (valC (.str " ") h3) fun h4 => (nilA h4)))) fun e1 h2 =>
    (seqS (iteS e1 (orT (tstC (cmpC .Lt (lenC ⟨G, call⟩ (consA (locC e1 1 h2) fun h10 => (nilA h10))) fun h9 => (valC (.int 4) h9))) fun h8 => (orT (tstC (eqC ⟨G, call⟩ .NotEq (itemC (locC e1 1 h8) fun h13 => (valC (.int 1) h13)) fun h12 => (valC (.str "=") h12))) fun h11 => (orT (notT (tstC (funC call "_law_is_word" (consA (itemC (locC e1 1 h11) fun h16 => (valC (.int 0) h16)) fun h15 => (nilA h15))))) fun h14 => (notT (tstC (funC call "_law_is_word" (consA (itemC (locC e1 1 h14) fun h18 => (valC (.int 3) h18)) fun h17 => (nilA h17)))))))) (fun h7 => (seqS (retS e1 (valC .non h7)) fun e19 h20 =>
    (nxS e19 h20))) fun h7 => (nxS e1 h7)) fun e5 h6 =>
    (seqS (asgT 2 e5 (tupC (consA (tupC (consA (itemC (locC e5 1 h6) fun h25 => (valC (.int 0) h25)) fun h24 => (consA (itemC (locC e5 1 h24) fun h27 => (valC (.int 2) h27)) fun h26 => (consA (itemC (locC e5 1 h26) fun h29 => (valC (.int 3) h29)) fun h28 => (nilA h28))))) fun h23 => (consA (slcC (locC e5 1 h23) (fun h31 => bdS (valC (.int 4) h31)) fun h32 => bdN h32) fun h30 => (nilA h30)))) fun vs33 h34 => (tgN 2 e5 vs33 fun e36 vs35 => (tgN 3 e36 vs35 fun e38 vs37 => (tgNil e38 vs37 h34)))) fun e21 h22 =>
    (seqS (iteS e21 (tstC (cmpC .In (itemC (locC e21 1 h22) fun h43 => (valC (.int 2) h43)) fun h42 => (tupC (consA (valC (.str "joined") h42) fun h44 => (consA (valC (.str "met") h44) fun h45 => (nilA h45)))))) (fun h41 => (seqS (retS e21 (iteE (andT (tstC (eqC ⟨G, call⟩ .Eq (lenC ⟨G, call⟩ (consA (locC e21 3 h41) fun h51 => (nilA h51))) fun h50 => (valC (.int 1) h50))) fun h49 => (tstC (funC call "_law_is_word" (consA (itemC (locC e21 3 h49) fun h53 => (valC (.int 0) h53)) fun h52 => (nilA h52))))) (fun h48 => (binC .Add (locC e21 2 h48) fun h54 => (tupC (consA (itemC (locC e21 3 h54) fun h56 => (valC (.int 0) h56)) fun h55 => (nilA h55))))) fun h48 => (valC .non h48))) fun e46 h47 =>
    (nxS e46 h47))) fun h41 => (nxS e21 h41)) fun e39 h40 =>
    (seqS (iteS e39 (tstC (eqC ⟨G, call⟩ .Eq (itemC (locC e39 1 h40) fun h61 => (valC (.int 2) h61)) fun h60 => (valC (.str "moved") h60))) (fun h59 => (seqS (asgN 4 e39 (lcC (iterC (locC e39 3 h59)) (fun x66 _ => some (setE (wipeE e39 [5]) 5 x66)) (fun _ h65 => trueT h65) fun e64 h65 => (funC call "_law_share_read" (consA (locC e64 5 h65) fun h67 => (nilA h67))))) fun e62 h63 =>
    (seqS (retS e62 (iteE (andT (tstC (eqC ⟨G, call⟩ .Eq (lenC ⟨G, call⟩ (consA (locC e62 4 h63) fun h73 => (nilA h73))) fun h72 => (valC (.int 2) h72))) fun h71 => (tstC (cmpC .NotIn (valC .non h71) fun h74 => (locC e62 4 h74)))) (fun h70 => (binC .Add (locC e62 2 h70) fun h75 => (bltC bTuple (consA (locC e62 4 h75) fun h76 => (nilA h76))))) fun h70 => (valC .non h70))) fun e68 h69 =>
    (nxS e68 h69)))) fun h59 => (nxS e39 h59)) fun e57 h58 =>
    (seqS (asgN 6 e57 (lcC (iterC (locC e57 3 h58)) (fun x81 _ => some (setE (wipeE e57 [5]) 5 x81)) (fun _ h80 => trueT h80) fun e79 h80 => (funC call "_law_whole" (consA (locC e79 5 h80) fun h82 => (nilA h82))))) fun e77 h78 =>
    (seqS (iteS e77 (tstC (cmpC .In (valC .non h78) fun h86 => (locC e77 6 h86))) (fun h85 => (seqS (retS e77 (valC .non h85)) fun e87 h88 =>
    (nxS e87 h88))) fun h85 => (nxS e77 h85)) fun e83 h84 =>
    (seqS (iteS e83 (tstC (eqC ⟨G, call⟩ .Eq (itemC (locC e83 1 h84) fun h93 => (valC (.int 2) h93)) fun h92 => (valC (.str "turned") h92))) (fun h91 => (seqS (retS e83 (iteE (andT (tstC (eqC ⟨G, call⟩ .Eq (lenC ⟨G, call⟩ (consA (locC e83 6 h91) fun h99 => (nilA h99))) fun h98 => (valC (.int 1) h98))) fun h97 => (tstC (chnC .LtE .LtE (valC (.int 0) h97) (fun h100 => (itemC (locC e83 6 h100) fun h102 => (valC (.int 0) h102))) fun h101 => (valC (.int 7) h101)))) (fun h96 => (binC .Add (locC e83 2 h96) fun h103 => (bltC bTuple (consA (locC e83 6 h103) fun h104 => (nilA h104))))) fun h96 => (valC .non h96))) fun e94 h95 =>
    (nxS e94 h95))) fun h91 => (nxS e83 h91)) fun e89 h90 =>
    (seqS (iteS e89 (orT (tstC (cmpC .NotIn (itemC (locC e89 1 h90) fun h110 => (valC (.int 2) h110)) fun h109 => (tupC (consA (valC (.str "lesser") h109) fun h111 => (consA (valC (.str "zoomed") h111) fun h112 => (nilA h112)))))) fun h108 => (orT (tstC (eqC ⟨G, call⟩ .NotEq (lenC ⟨G, call⟩ (consA (locC e89 6 h108) fun h115 => (nilA h115))) fun h114 => (valC (.int 3) h114))) fun h113 => (notT (tstC (chnC .LtE .LtE (valC (.int 1) h113) (fun h116 => (itemC (locC e89 6 h116) fun h118 => (valC (.int 0) h118))) fun h117 => (valC (.int 4) h117)))))) (fun h107 => (seqS (retS e89 (valC .non h107)) fun e119 h120 =>
    (nxS e119 h120))) fun h107 => (nxS e89 h107)) fun e105 h106 =>
    (seqS (retS e105 (iteE (tstC (bltC bAll (consA (lcC (iterC (slcC (locC e105 6 h106) (fun h128 => bdS (valC (.int 1) h128)) fun h129 => bdN h129)) (fun x127 _ => some (setE (wipeE e105 [5]) 5 x127)) (fun _ h126 => trueT h126) fun e125 h126 => (chnC .LtE .Lt (valC (.int 0) h126) (fun h130 => (locC e125 5 h130)) fun h131 => (itemC (locC e125 6 h131) fun h132 => (valC (.int 0) h132)))) fun h124 => (nilA h124)))) (fun h123 => (binC .Add (locC e105 2 h123) fun h133 => (bltC bTuple (consA (locC e105 6 h133) fun h134 => (nilA h134))))) fun h123 => (valC .non h123))) fun e121 h122 =>
    (nxS e121 h122)))))))))))
def c__law_read (call : CallF) (v_line : MV) (h : MH) : Option Out := endS (b__law_read call [some v_line, none, none, none, none, none, none] h)
theorem u__law_read (d : Nat) (v_line : MV) (h : MH) : callD G (d + 1) "_law_read" [v_line] h = c__law_read (callD G d) v_line h := by kernel_rfl
/-- _law_bad_line: 0 text 1 steps 2 number 3 line 4 step -/
def b__law_bad_line (call : CallF) (e : MEnv) (h : MH) : Option OutS := (seqS (iteS e (notT (tstC (isiC G "str" (locC e 0 h)))) (fun h3 => (seqS (retS e (valC (.int 0) h3)) fun e4 h5 =>
    (nxS e4 h5))) fun h3 => (nxS e h3)) fun e1 h2 =>
    (seqS (asgN 1 e1 (lstC (nilA h2))) fun e6 h7 =>
    (seqS (forC e6 (enumC 1 (consA (metC ⟨G, call⟩ "split" (locC e6 0 h7) fun h14 => (consA (valC (.str "\n") h14) fun h15 => (nilA h15))) fun h13 => (nilA h13))) (fun x12 e10 _ => bdT [2, 3] x12 e10) fun e10 h11 =>
    (seqS (asgN 4 e10 (funC call "_law_read" (consA (locC e10 3 h11) fun h18 => (nilA h18)))) fun e16 h17 =>
    (seqS (iteS e16 (orT (tstC (cmpC .Is (locC e16 4 h17) fun h23 => (valC .non h23))) fun h22 => (tstC (eqC ⟨G, call⟩ .Eq (locC e16 2 h22) fun h24 => (valC (.int 8) h24)))) (fun h21 => (seqS (retS e16 (binC .Add (locC e16 2 h21) fun h27 => (valC (.int 1) h27))) fun e25 h26 =>
    (nxS e25 h26))) fun h21 => (nxS e16 h21)) fun e19 h20 =>
    (seqS (expS e19 (metC ⟨G, call⟩ "append" (locC e19 1 h20) fun h30 => (consA (locC e19 4 h30) fun h31 => (nilA h31)))) fun e28 h29 =>
    (seqS (iteS e28 (tstC (cmpC .Gt (lenC ⟨G, call⟩ (consA (funC call "_law_inputs" (consA (locC e28 1 h29) fun h37 => (nilA h37))) fun h36 => (nilA h36))) fun h35 => (valC (.int 4) h35))) (fun h34 => (seqS (retS e28 (binC .Add (locC e28 2 h34) fun h40 => (valC (.int 1) h40))) fun e38 h39 =>
    (nxS e38 h39))) fun h34 => (nxS e28 h34)) fun e32 h33 =>
    (nxS e32 h33)))))) fun e8 h9 =>
    (seqS (retS e8 (valC .non h9)) fun e41 h42 =>
    (nxS e41 h42)))))
def c__law_bad_line (call : CallF) (v_text : MV) (h : MH) : Option Out := endS (b__law_bad_line call [some v_text, none, none, none, none] h)
theorem u__law_bad_line (d : Nat) (v_text : MV) (h : MH) : callD G (d + 1) "_law_bad_line" [v_text] h = c__law_bad_line (callD G d) v_text h := by kernel_rfl
/-- _law_odd_word: 0 pot 1 some -/
def b__law_odd_word (call : CallF) (e : MEnv) (h : MH) : Option OutS := (seqS (asgN 1 e (lstC (consA (valC (.str "a") h) fun h3 => (consA (valC (.str "q") h3) fun h4 => (consA (valC (.str "joined") h4) fun h5 => (consA (valC (.str "met") h5) fun h6 => (consA (valC (.str "turned") h6) fun h7 => (consA (valC (.str "moved") h7) fun h8 => (consA (valC (.str "lesser") h8) fun h9 => (consA (valC (.str "zoomed") h9) fun h10 => (consA (valC (.str "=") h10) fun h11 => (consA (valC (.str "0") h11) fun h12 => (consA (valC (.str "1") h12) fun h13 => (consA (valC (.str "2") h13) fun h14 => (consA (valC (.str "5") h14) fun h15 => (consA (valC (.str "8") h15) fun h16 => (consA (valC (.str "-1") h16) fun h17 => (nilA h17)))))))))))))))))) fun e1 h2 =>
    (seqS (asgN 1 e1 (binC .Add (locC e1 1 h2) fun h20 => (lstC (consA (valC (.str "1/2") h20) fun h21 => (consA (valC (.str "-1/2") h21) fun h22 => (consA (valC (.str "2/4") h22) fun h23 => (consA (valC (.str "3/2") h23) fun h24 => (consA (valC (.str "1/13") h24) fun h25 => (consA (valC (.str "0/1") h25) fun h26 => (consA (valC (.str "1/1") h26) fun h27 => (consA (valC (.str "-0") h27) fun h28 => (consA (valC (.str "01") h28) fun h29 => (consA (valC (.str "1/-2") h29) fun h30 => (consA (valC (.str "") h30) fun h31 => (consA (valC (.str "A") h31) fun h32 => (consA (valC (.str "abcdefgh") h32) fun h33 => (consA (valC (.str "7") h33) fun h34 => (nilA h34)))))))))))))))))) fun e18 h19 =>
    (seqS (retS e18 (funC call "_law_of" (consA (locC e18 0 h19) fun h37 => (consA (binC .Add (locC e18 1 h37) fun h39 => (lstC (consA (valC (.str "abcdefghi") h39) fun h40 => (consA (valC (.str "+1") h40) fun h41 => (consA (valC (.str "1.5") h41) fun h42 => (consA (valC (.str "a1") h42) fun h43 => (consA (valC (.str "1/2/3") h43) fun h44 => (consA (valC (.str "11/12") h44) fun h45 => (consA (valC (.str "-11/12") h45) fun h46 => (consA (valC (.str "1000000000") h46) fun h47 => (consA (valC (.str "/") h47) fun h48 => (consA (valC (.str "1/") h48) fun h49 => (nilA h49))))))))))))) fun h38 => (nilA h38))))) fun e35 h36 =>
    (nxS e35 h36))))
def c__law_odd_word (call : CallF) (v_pot : MV) (h : MH) : Option Out := endS (b__law_odd_word call [some v_pot, none] h)
theorem u__law_odd_word (d : Nat) (v_pot : MV) (h : MH) : callD G (d + 1) "_law_odd_word" [v_pot] h = c__law_odd_word (callD G d) v_pot h := by kernel_rfl
/-- _law_line_spoilt: 0 pot 1 line 2 words 3 way 4 at -/
def b__law_line_spoilt (call : CallF) (e : MEnv) (h : MH) : Option OutS := (seqS (asgT 2 e (tupC (consA (metC ⟨G, call⟩ "split" (locC e 1 h) fun h4 => (consA (valC (.str " ") h4) fun h5 => (nilA h5))) fun h3 => (consA (funC call "_law_take" (consA (locC e 0 h3) fun h7 => (consA (valC (.int 7) h7) fun h8 => (nilA h8)))) fun h6 => (nilA h6)))) fun vs9 h10 => (tgN 2 e vs9 fun e12 vs11 => (tgN 3 e12 vs11 fun e14 vs13 => (tgNil e14 vs13 h10)))) fun e1 h2 =>
    (seqS (asgN 4 e1 (funC call "_law_take" (consA (locC e1 0 h2) fun h17 => (consA (lenC ⟨G, call⟩ (consA (locC e1 2 h17) fun h19 => (nilA h19))) fun h18 => (nilA h18))))) fun e15 h16 =>
    (seqS (iteS e15 (tstC (eqC ⟨G, call⟩ .Eq (locC e15 3 h16) fun h23 => (valC (.int 0) h23))) (fun h22 => (seqS (retS e15 (metC ⟨G, call⟩ "join" (valC (.str " ") h22) fun h26 => (consA (binC .Add (slcC (locC e15 2 h26) (fun h29 => bdN h29) fun h30 => bdS (locC e15 4 h30)) fun h28 => (slcC (locC e15 2 h28) (fun h31 => bdS (binC .Add (locC e15 4 h31) fun h33 => (valC (.int 1) h33))) fun h32 => bdN h32)) fun h27 => (nilA h27)))) fun e24 h25 =>
    (nxS e24 h25))) fun h22 => (nxS e15 h22)) fun e20 h21 =>
    (seqS (iteS e20 (tstC (eqC ⟨G, call⟩ .Eq (locC e20 3 h21) fun h37 => (valC (.int 1) h37))) (fun h36 => (seqS (retS e20 (metC ⟨G, call⟩ "join" (valC (.str " ") h36) fun h40 => (consA (binC .Add (binC .Add (slcC (locC e20 2 h40) (fun h44 => bdN h44) fun h45 => bdS (locC e20 4 h45)) fun h43 => (lstC (consA (funC call "_law_odd_word" (consA (locC e20 0 h43) fun h47 => (nilA h47))) fun h46 => (nilA h46)))) fun h42 => (slcC (locC e20 2 h42) (fun h48 => bdS (locC e20 4 h48)) fun h49 => bdN h49)) fun h41 => (nilA h41)))) fun e38 h39 =>
    (nxS e38 h39))) fun h36 => (nxS e20 h36)) fun e34 h35 =>
    (seqS (iteS e34 (tstC (eqC ⟨G, call⟩ .Eq (locC e34 3 h35) fun h53 => (valC (.int 2) h53))) (fun h52 => (seqS (retS e34 (funC call "_law_of" (consA (locC e34 0 h52) fun h56 => (consA (lstC (consA (binC .Add (valC (.str " ") h56) fun h59 => (locC e34 1 h59)) fun h58 => (consA (binC .Add (locC e34 1 h58) fun h61 => (valC (.str " ") h61)) fun h60 => (repA " " "  " (locC e34 1 h60) fun h62 => (consA (valC (.str "") h62) fun h63 => (consA (binC .Add (locC e34 1 h63) fun h65 => (valC (.str ".") h65)) fun h64 => (consA (metC ⟨G, call⟩ "upper" (locC e34 1 h64) fun h67 => (nilA h67)) fun h66 => (nilA h66)))))))) fun h57 => (nilA h57))))) fun e54 h55 =>
    (nxS e54 h55))) fun h52 => (nxS e34 h52)) fun e50 h51 =>
    (seqS (iteS e50 (tstC (eqC ⟨G, call⟩ .Eq (locC e50 3 h51) fun h71 => (valC (.int 3) h71))) (fun h70 => (seqS (asgT 2 e50 (tupC (consA (itemC (locC e50 2 h70) fun h75 => (unC .USub (valC (.int 1) h75))) fun h74 => (consA (itemC (locC e50 2 h74) fun h77 => (locC e50 4 h77)) fun h76 => (nilA h76)))) fun vs78 h79 => (tgI e50 vs78 (locC e50 2 h79) (fun h81 => (locC e50 4 h81)) fun vs80 h82 => (tgI e50 vs80 (locC e50 2 h82) (fun h84 => (unC .USub (valC (.int 1) h84))) fun vs83 h85 => (tgNil e50 vs83 h85)))) fun e72 h73 =>
    (seqS (retS e72 (metC ⟨G, call⟩ "join" (valC (.str " ") h73) fun h88 => (consA (locC e72 2 h88) fun h89 => (nilA h89)))) fun e86 h87 =>
    (nxS e86 h87)))) fun h70 => (nxS e50 h70)) fun e68 h69 =>
    (seqS (retS e68 (metC ⟨G, call⟩ "join" (valC (.str " ") h69) fun h92 => (consA (binC .Add (binC .Add (slcC (locC e68 2 h92) (fun h96 => bdN h96) fun h97 => bdS (locC e68 4 h97)) fun h95 => (lstC (consA (funC call "_law_odd_word" (consA (locC e68 0 h95) fun h99 => (nilA h99))) fun h98 => (nilA h98)))) fun h94 => (slcC (locC e68 2 h94) (fun h100 => bdS (binC .Add (locC e68 4 h100) fun h102 => (valC (.int 1) h102))) fun h101 => bdN h101)) fun h93 => (nilA h93)))) fun e90 h91 =>
    (nxS e90 h91))))))))
def c__law_line_spoilt (call : CallF) (v_pot v_line : MV) (h : MH) : Option Out := endS (b__law_line_spoilt call [some v_pot, some v_line, none, none, none] h)
theorem u__law_line_spoilt (d : Nat) (v_pot v_line : MV) (h : MH) : callD G (d + 1) "_law_line_spoilt" [v_pot, v_line] h = c__law_line_spoilt (callD G d) v_pot v_line h := by kernel_rfl
/-- _law_spoilt: 0 pot 1 text 2 lines 3 way 4 at 5 others 6 more 7 name -/
def b__law_spoilt (call : CallF) (e : MEnv) (h : MH) : Option OutS := (seqS (asgT 2 e (tupC (consA (metC ⟨G, call⟩ "split" (locC e 1 h) fun h4 => (consA (valC (.str "\n") h4) fun h5 => (nilA h5))) fun h3 => (consA (funC call "_law_take" (consA (locC e 0 h3) fun h7 => (consA (valC (.int 8) h7) fun h8 => (nilA h8)))) fun h6 => (nilA h6)))) fun vs9 h10 => (tgN 2 e vs9 fun e12 vs11 => (tgN 3 e12 vs11 fun e14 vs13 => (tgNil e14 vs13 h10)))) fun e1 h2 =>
    (seqS (asgN 4 e1 (funC call "_law_take" (consA (locC e1 0 h2) fun h17 => (consA (lenC ⟨G, call⟩ (consA (locC e1 2 h17) fun h19 => (nilA h19))) fun h18 => (nilA h18))))) fun e15 h16 =>
    (seqS (iteS e15 (tstC (eqC ⟨G, call⟩ .Eq (locC e15 3 h16) fun h23 => (valC (.int 0) h23))) (fun h22 => (seqS (retS e15 (metC ⟨G, call⟩ "join" (valC (.str "\n") h22) fun h26 => (consA (binC .Add (slcC (locC e15 2 h26) (fun h29 => bdN h29) fun h30 => bdS (locC e15 4 h30)) fun h28 => (slcC (locC e15 2 h28) (fun h31 => bdS (binC .Add (locC e15 4 h31) fun h33 => (valC (.int 1) h33))) fun h32 => bdN h32)) fun h27 => (nilA h27)))) fun e24 h25 =>
    (nxS e24 h25))) fun h22 => (nxS e15 h22)) fun e20 h21 =>
    (seqS (iteS e20 (tstC (eqC ⟨G, call⟩ .Eq (locC e20 3 h21) fun h37 => (valC (.int 1) h37))) (fun h36 => (seqS (retS e20 (funC call "_law_of" (consA (locC e20 0 h36) fun h40 => (consA (lstC (consA (binC .Add (locC e20 1 h40) fun h43 => (valC (.str "\n") h43)) fun h42 => (consA (binC .Add (valC (.str "\n") h42) fun h45 => (locC e20 1 h45)) fun h44 => (repA "\n" " " (locC e20 1 h44) fun h46 => (consA (valC (.str "") h46) fun h47 => (consA (binC .Add (binC .Add (locC e20 1 h47) fun h50 => (valC (.str "\n") h50)) fun h49 => (locC e20 1 h49)) fun h48 => (nilA h48))))))) fun h41 => (nilA h41))))) fun e38 h39 =>
    (nxS e38 h39))) fun h36 => (nxS e20 h36)) fun e34 h35 =>
    (seqS (iteS e34 (tstC (eqC ⟨G, call⟩ .Eq (locC e34 3 h35) fun h54 => (valC (.int 2) h54))) (fun h53 => (seqS (asgN 5 e34 (funC call "_law_some" (consA (locC e34 0 h53) fun h57 => (consA (lstC (consA (valC (.str "g") h57) fun h59 => (consA (valC (.str "h") h59) fun h60 => (consA (valC (.str "i") h60) fun h61 => (consA (valC (.str "a") h61) fun h62 => (nilA h62)))))) fun h58 => (consA (valC (.int 3) h58) fun h63 => (nilA h63)))))) fun e55 h56 =>
    (seqS (asgN 6 e55 (lcC (iterC (locC e55 5 h56)) (fun x68 _ => some (setE (wipeE e55 [7]) 7 x68)) (fun _ h67 => trueT h67) fun e66 h67 => (binC .Add (binC .Add (binC .Add (valC (.str "r = joined ") h67) fun h71 => (funC call "_law_of" (consA (locC e66 0 h71) fun h72 => (consA (lstC (consA (valC (.str "e") h72) fun h74 => (consA (valC (.str "f") h74) fun h75 => (consA (valC (.str "a") h75) fun h76 => (nilA h76))))) fun h73 => (nilA h73))))) fun h70 => (valC (.str " ") h70)) fun h69 => (locC e66 7 h69)))) fun e64 h65 =>
    (seqS (retS e64 (metC ⟨G, call⟩ "join" (valC (.str "\n") h65) fun h79 => (consA (binC .Add (locC e64 2 h79) fun h81 => (locC e64 6 h81)) fun h80 => (nilA h80)))) fun e77 h78 =>
    (nxS e77 h78))))) fun h53 => (nxS e34 h53)) fun e51 h52 =>
    (seqS (iteS e51 (tstC (eqC ⟨G, call⟩ .Eq (locC e51 3 h52) fun h85 => (valC (.int 3) h85))) (fun h84 => (seqS (retS e51 (metC ⟨G, call⟩ "join" (valC (.str "\n") h84) fun h88 => (consA (slcC (binC .Mult (locC e51 2 h88) fun h92 => (valC (.int 9) h92)) (fun h90 => bdN h90) fun h91 => bdS (funC call "_law_of" (consA (locC e51 0 h91) fun h93 => (consA (lstC (consA (valC (.int 8) h93) fun h95 => (consA (valC (.int 9) h95) fun h96 => (consA (valC (.int 10) h96) fun h97 => (nilA h97))))) fun h94 => (nilA h94))))) fun h89 => (nilA h89)))) fun e86 h87 =>
    (nxS e86 h87))) fun h84 => (nxS e51 h84)) fun e82 h83 =>
    (seqS (asgI e82 (funC call "_law_line_spoilt" (consA (locC e82 0 h83) fun h100 => (consA (itemC (locC e82 2 h100) fun h102 => (locC e82 4 h102)) fun h101 => (nilA h101)))) (fun h103 => (locC e82 2 h103)) fun h104 => (locC e82 4 h104)) fun e98 h99 =>
    (seqS (retS e98 (metC ⟨G, call⟩ "join" (valC (.str "\n") h99) fun h107 => (consA (locC e98 2 h107) fun h108 => (nilA h108)))) fun e105 h106 =>
    (nxS e105 h106)))))))))
def c__law_spoilt (call : CallF) (v_pot v_text : MV) (h : MH) : Option Out := endS (b__law_spoilt call [some v_pot, some v_text, none, none, none, none, none, none] h)
theorem u__law_spoilt (d : Nat) (v_pot v_text : MV) (h : MH) : callD G (d + 1) "_law_spoilt" [v_pot, v_text] h = c__law_spoilt (callD G d) v_pot v_text h := by kernel_rfl
/-- _law_is_right: 0 text 1 due 2 told 3 made 4 error 5 steps 6 line 7 found -/
def b__law_is_right (call : CallF) (e : MEnv) (h : MH) : Option OutS := (seqS (asgT 3 e (tupC (consA (funC call "_law_bad_line" (consA (locC e 0 h) fun h4 => (nilA h4))) fun h3 => (consA (valC .non h3) fun h5 => (consA (valC .non h5) fun h6 => (nilA h6))))) fun vs7 h8 => (tgN 1 e vs7 fun e10 vs9 => (tgN 2 e10 vs9 fun e12 vs11 => (tgN 3 e12 vs11 fun e14 vs13 => (tgNil e14 vs13 h8))))) fun e1 h2 =>
    (seqS (tryS G "DrawError" 4 2 (seqS (asgN 3 e1 (makC ⟨G, call⟩ "Program" "Program.__init__" (consA (locC e1 0 h2) fun h19 => (nilA h19)))) fun e17 h18 =>
    (nxS e17 h18))) fun e15 h16 =>
    (seqS (iteS e15 (tstC (cmpC .IsNot (locC e15 1 h16) fun h23 => (valC .non h23))) (fun h22 => (seqS (retS e15 (andE (isiC G "BadProgram" (locC e15 2 h22)) fun h26 => (eqC ⟨G, call⟩ .Eq (bltC bRepr (consA (attC ⟨G, call⟩ "value" (locC e15 2 h26)) fun h28 => (nilA h28))) fun h27 => (bltC bRepr (consA (locC e15 1 h27) fun h29 => (nilA h29)))))) fun e24 h25 =>
    (nxS e24 h25))) fun h22 => (nxS e15 h22)) fun e20 h21 =>
    (seqS (iteS e20 (tstC (cmpC .IsNot (locC e20 2 h21) fun h33 => (valC .non h33))) (fun h32 => (seqS (retS e20 (valC (.bl false) h32)) fun e34 h35 =>
    (nxS e34 h35))) fun h32 => (nxS e20 h32)) fun e30 h31 =>
    (seqS (asgN 5 e30 (lcC (iterC (metC ⟨G, call⟩ "split" (locC e30 0 h31) fun h41 => (consA (valC (.str "\n") h41) fun h42 => (nilA h42)))) (fun x40 _ => some (setE (wipeE e30 [6]) 6 x40)) (fun _ h39 => trueT h39) fun e38 h39 => (funC call "_law_read" (consA (locC e38 6 h39) fun h43 => (nilA h43))))) fun e36 h37 =>
    (seqS (asgN 7 e36 (lstC (consA (attC ⟨G, call⟩ "text" (locC e36 3 h37)) fun h46 => (consA (attC ⟨G, call⟩ "inputs" (locC e36 3 h46)) fun h47 => (consA (attC ⟨G, call⟩ "steps" (locC e36 3 h47)) fun h48 => (consA (lenC ⟨G, call⟩ (consA (locC e36 3 h48) fun h50 => (nilA h50))) fun h49 => (nilA h49))))))) fun e44 h45 =>
    (seqS (retS e44 (eqC ⟨G, call⟩ .Eq (bltC bRepr (consA (locC e44 7 h45) fun h54 => (nilA h54))) fun h53 => (bltC bRepr (consA (lstC (consA (locC e44 0 h53) fun h56 => (consA (bltC bTuple (consA (funC call "_law_inputs" (consA (locC e44 5 h56) fun h59 => (nilA h59))) fun h58 => (nilA h58))) fun h57 => (consA (bltC bTuple (consA (locC e44 5 h57) fun h61 => (nilA h61))) fun h60 => (consA (lenC ⟨G, call⟩ (consA (locC e44 5 h60) fun h63 => (nilA h63))) fun h62 => (nilA h62)))))) fun h55 => (nilA h55))))) fun e51 h52 =>
    (nxS e51 h52))))))))
def c__law_is_right (call : CallF) (v_text : MV) (h : MH) : Option Out := endS (b__law_is_right call [some v_text, none, none, none, none, none, none, none] h)
theorem u__law_is_right (d : Nat) (v_text : MV) (h : MH) : callD G (d + 1) "_law_is_right" [v_text] h = c__law_is_right (callD G d) v_text h := by kernel_rfl
/-- _law_right: 0 pot 1 text 2 spoilt 3 lap 4 values 5 value 6 one 7 other -/
def b__law_right (call : CallF) (e : MEnv) (h : MH) : Option OutS := (seqS (asgN 1 e (funC call "_law_program_text" (consA (funC call "_law_steps" (consA (locC e 0 h) fun h4 => (consA (valC (.int 8) h4) fun h5 => (consA (lstC (consA (valC (.int 1) h5) fun h7 => (consA (valC (.int 2) h7) fun h8 => (consA (valC (.int 3) h8) fun h9 => (consA (valC (.int 4) h9) fun h10 => (consA (valC (.int 5) h10) fun h11 => (consA (valC (.int 12) h11) fun h12 => (nilA h12)))))))) fun h6 => (nilA h6))))) fun h3 => (nilA h3)))) fun e1 h2 =>
    (seqS (asgN 2 e1 (lcC (rngC 1 (consA (valC (.int 6) h2) fun h18 => (nilA h18))) (fun x17 _ => some (setE (wipeE e1 [3]) 3 x17)) (fun _ h16 => trueT h16) fun e15 h16 => (funC call "_law_spoilt" (consA (locC e15 0 h16) fun h19 => (consA (locC e15 1 h19) fun h20 => (nilA h20)))))) fun e13 h14 =>
    (seqS (expS e13 (metC ⟨G, call⟩ "append" (locC e13 2 h14) fun h23 => (consA (funC call "_law_spoilt" (consA (locC e13 0 h23) fun h25 => (consA (itemC (locC e13 2 h25) fun h27 => (valC (.int 0) h27)) fun h26 => (nilA h26)))) fun h24 => (nilA h24)))) fun e21 h22 =>
    (seqS (asgN 4 e21 (lstC (consA (valC .non h22) fun h30 => (consA (valC (.bl true) h30) fun h31 => (consA (valC (.int 0) h31) fun h32 => (consA (tupC (nilA h32)) fun h33 => (consA (lstC (consA (locC e21 1 h33) fun h35 => (nilA h35))) fun h34 => (consA (tupC (consA (locC e21 1 h34) fun h37 => (nilA h37))) fun h36 => (consA (dicC0 h36) fun h38 => (consA (dicC1 (locC e21 1 h38) fun h40 => (locC e21 1 h40)) fun h39 => (nilA h39))))))))))) fun e28 h29 =>
    (seqS (iteS e28 (notT (tstC (bltC bAll (consA (lcC (iterC (binC .Add (binC .Add (lstC (consA (locC e28 1 h29) fun h50 => (nilA h50))) fun h49 => (locC e28 2 h49)) fun h48 => (lstC (consA (funC call "_law_of" (consA (locC e28 0 h48) fun h52 => (consA (locC e28 4 h52) fun h53 => (nilA h53)))) fun h51 => (nilA h51))))) (fun x47 _ => some (setE (wipeE e28 [5]) 5 x47)) (fun _ h46 => trueT h46) fun e45 h46 => (funC call "_law_is_right" (consA (locC e45 5 h46) fun h54 => (nilA h54)))) fun h44 => (nilA h44))))) (fun h43 => (seqS (retS e28 (valC (.bl false) h43)) fun e55 h56 =>
    (nxS e55 h56))) fun h43 => (nxS e28 h43)) fun e41 h42 =>
    (seqS (asgT 2 e41 (tupC (consA (makK ⟨G, call⟩ "Program" "Program.__init__" 0 1 (nilA h42) fun h60 => (consA (locC e41 1 h60) fun h61 => (nilA h61))) fun h59 => (consA (makC ⟨G, call⟩ "Program" "Program.__init__" (consA (funC call "_law_program_text" (consA (funC call "_law_steps" (consA (locC e41 0 h59) fun h65 => (consA (valC (.int 3) h65) fun h66 => (consA (lstC (consA (valC (.int 1) h66) fun h68 => (consA (valC (.int 2) h68) fun h69 => (nilA h69)))) fun h67 => (nilA h67))))) fun h64 => (nilA h64))) fun h63 => (nilA h63))) fun h62 => (nilA h62)))) fun vs70 h71 => (tgN 6 e41 vs70 fun e73 vs72 => (tgN 7 e73 vs72 fun e75 vs74 => (tgNil e75 vs74 h71)))) fun e57 h58 =>
    (seqS (iteS e57 (orT (tstC (eqC ⟨G, call⟩ .NotEq (bltC bRepr (consA (eqC ⟨G, call⟩ .Eq (locC e57 6 h58) fun h82 => (makC ⟨G, call⟩ "Program" "Program.__init__" (consA (locC e57 1 h82) fun h83 => (nilA h83)))) fun h81 => (nilA h81))) fun h80 => (bltC bRepr (consA (valC (.bl true) h80) fun h84 => (nilA h84))))) fun h79 => (tstC (eqC ⟨G, call⟩ .NotEq (bltC bRepr (consA (eqC ⟨G, call⟩ .Eq (locC e57 6 h79) fun h87 => (locC e57 7 h87)) fun h86 => (nilA h86))) fun h85 => (bltC bRepr (consA (eqC ⟨G, call⟩ .Eq (locC e57 1 h85) fun h89 => (attC ⟨G, call⟩ "text" (locC e57 7 h89))) fun h88 => (nilA h88)))))) (fun h78 => (seqS (retS e57 (valC (.bl false) h78)) fun e90 h91 =>
    (nxS e90 h91))) fun h78 => (nxS e57 h78)) fun e76 h77 =>
    (seqS (retS e76 (eqC ⟨G, call⟩ .Eq (bltC bRepr (consA (lstC (consA (eqC ⟨G, call⟩ .Eq (locC e76 6 h77) fun h97 => (locC e76 1 h97)) fun h96 => (consA (eqC ⟨G, call⟩ .Eq (locC e76 6 h96) fun h99 => (tupC (consA (locC e76 1 h99) fun h100 => (nilA h100)))) fun h98 => (consA (eqC ⟨G, call⟩ .NotEq (locC e76 6 h98) fun h102 => (locC e76 6 h102)) fun h101 => (consA (eqC ⟨G, call⟩ .Eq (locC e76 6 h101) fun h104 => (valC (.int 0) h104)) fun h103 => (nilA h103)))))) fun h95 => (nilA h95))) fun h94 => (bltC bRepr (consA (binC .Mult (lstC (consA (valC (.bl false) h94) fun h107 => (nilA h107))) fun h106 => (valC (.int 4) h106)) fun h105 => (nilA h105))))) fun e92 h93 =>
    (nxS e92 h93)))))))))
def c__law_right (call : CallF) (v_pot : MV) (h : MH) : Option Out := endS (b__law_right call [some v_pot, none, none, none, none, none, none, none] h)
theorem u__law_right (d : Nat) (v_pot : MV) (h : MH) : callD G (d + 1) "_law_right" [v_pot] h = c__law_right (callD G d) v_pot h := by kernel_rfl
/-- law: 0 script 1 place -/
def b_law (call : CallF) (e : MEnv) (h : MH) : Option OutS := (seqS (retS e (bltC bAll (consA (lcC (iterC (funC call "_law_cells" (consA (locC e 0 h) fun h7 => (consA (valC (.int 2) h7) fun h8 => (nilA h8))))) (fun x6 _ => some (setE (wipeE e [1]) 1 x6)) (fun _ h5 => trueT h5) fun e4 h5 => (funC call "_law_right" (consA (funC call "_law_pot" (consA (locC e4 0 h5) fun h10 => (consA (locC e4 1 h10) fun h11 => (nilA h11)))) fun h9 => (nilA h9)))) fun h3 => (nilA h3)))) fun e1 h2 =>
    (nxS e1 h2))
def c_law (call : CallF) (v_script : MV) (h : MH) : Option Out := endS (b_law call [some v_script, none] h)
theorem u_law (d : Nat) (v_script : MV) (h : MH) : callD G (d + 1) "law" [v_script] h = c_law (callD G d) v_script h := by kernel_rfl
end K82
end T_Sh82
section T_L1
set_option linter.all false
set_option maxRecDepth 100000
/-! L1: the program's defs on lines: what they tell. -/
namespace Ev
open PySem L2
theorem ext_tl_eq {a b : Str} : a = b ↔ tl a = tl b := ⟨fun h => by rw [h], str_of_tl⟩
theorem starts_minus (w : Str) : Txt.startswith w "-" = decide ((tl w).head? = some 45) := by
  have hm : ("-" : Str) = ⟨#[45]⟩ := by decide +kernel
  rw [hm]
  have hl1 : Str.length ⟨#[45]⟩ = 1 := rfl
  unfold Txt.startswith Builtin.Str.subAt
  rw [hl1]
  cases e : tl w with
  | nil =>
    have : w.length = 0 := by rw [len_tl, e]; rfl
    rw [this]
    rfl
  | cons c r =>
    have hl : w.length = r.length + 1 := by rw [len_tl, e]; rfl
    have hw : w.cps = (c :: r).toArray := by rw [← e] <;> rfl
    rw [hw, hl]
    have : (c :: r).toArray.extract 0 (0 + 1) = #[c] := by simp
    rw [this, decide_eq_true (by omega)]
    show (#[c] == #[45]) = decide (some c = some 45)
    by_cases hc : c = 45
    · subst hc; rfl
    · rw [decide_eq_false (by simpa using hc)]
      exact beq_eq_false_iff_ne.mpr (by simpa using hc)
def digsS (w : Str) : Str := ⟨(digs (tl w)).toArray⟩
theorem tl_digsS (w : Str) : tl (digsS w) = digs (tl w) := rfl
theorem cut1_minus {w : Str} (h : (tl w).head? = some 45) : cutS w (some 1) none = digsS w := by
  refine str_of_tl ?_
  have : tl (cutS w (some 1) none) = cutM (tl w) (some ((1 : Nat) : Int)) none := by
    unfold cutS cutM
    rw [len_tl] <;> rfl
  rw [this, cutM_from, tl_digsS]
  cases e : tl w with
  | nil => rw [e] at h; simp at h
  | cons c r =>
    rw [e] at h
    have : c = 45 := by simpa using h
    subst this
    rfl
theorem digsS_same {w : Str} (h : ¬ (tl w).head? = some 45) : digsS w = w := by
  refine str_of_tl ?_
  rw [tl_digsS]
  cases e : tl w with
  | nil => rfl
  | cons c r =>
    rw [e] at h
    exact digs_cons fun z => h (by rw [z]; rfl)
theorem digsS_len (w : Str) : (digsS w).length ≤ w.length := by
  rw [len_tl, len_tl, tl_digsS]
  cases e : tl w with
  | nil => simp [digs]
  | cons c r =>
    by_cases hc : c = 45
    · subst hc; simp [digs]
    · rw [digs_cons hc]; exact Nat.le_refl _
theorem digsS_asc {w : Str} (h : Asc w) : Asc (digsS w) := by
  intro c hc
  rw [tl_digsS] at hc
  refine h c ?_
  cases e : tl w with
  | nil => rw [e] at hc; simp [digs] at hc
  | cons a r =>
    rw [e] at hc
    by_cases ha : a = 45
    · subst ha; simp only [digs] at hc; exact List.mem_cons_of_mem _ hc
    · rw [digs_cons ha] at hc; exact hc
def low : List Nat := tl "abcdefghijklmnopqrstuvwxyz"
def dgt : List Nat := tl "0123456789"
theorem mem_dgt (c : Nat) : dgt.contains c = isDg c := by
  have : dgt = [48, 49, 50, 51, 52, 53, 54, 55, 56, 57] := by decide +kernel
  rw [this]
  unfold isDg
  cases q : List.contains [48, 49, 50, 51, 52, 53, 54, 55, 56, 57] c with
  | true =>
    have := List.contains_iff_mem.mp q
    simp at this
    rw [decide_eq_true (by omega), decide_eq_true (by omega)]; rfl
  | false =>
    have h : ¬ c ∈ [48, 49, 50, 51, 52, 53, 54, 55, 56, 57] := fun z => by rw [List.contains_iff_mem.mpr z] at q; cases q
    simp at h
    by_cases h1 : 48 ≤ c
    · rw [decide_eq_true h1, decide_eq_false (by omega)]; rfl
    · rw [decide_eq_false h1]; rfl
/-- a name -/
def nameB (w : Str) : Bool := decide (1 ≤ w.length) && (decide (w.length ≤ 8) && (tl w).all fun c => low.contains c)
def optI : Option Int → MV
  | none => .non
  | some i => .int i
theorem all_map_id {α : Type} (xs : List α) (f : α → Bool) : (xs.map f).all id = xs.all f := by rw [List.all_map]; rfl
theorem any_map_id {α : Type} (xs : List α) (f : α → Bool) : (xs.map f).any id = xs.any f := by rw [List.any_map]; rfl
theorem natAbs_log (i : Int) (h : i.natAbs < 2 ^ 64) : i.natAbs.log2 < 100 := by
  by_cases h0 : i.natAbs = 0
  · rw [h0]; decide
  · exact Nat.lt_of_lt_of_le ((Nat.log2_lt h0).mpr h) (by decide)
end Ev
namespace K82
open PySem L2 Ev
section
variable {d : Nat} {h : MH}
theorem is_integer_int (i : Int) : callD G (d + 1) "is_integer" [.int i] h = some (.ok (.bl true) h) := by rw [u_is_integer]; kernel_rfl
theorem is_name_ok (w : Str) (hw : w.length ≤ 100000) : wE (callD G (d + 1) "is_name" [.str w] h) (fun v h' => v = .bl (nameB w) ∧ Keep [] h h') no := by
  rw [u_is_name]
  simp [c_is_name, b_is_name]
  refine ⟨by omega, wB.mk (fun h1 => ?_) (fun h1 => ?_)⟩
  · have h1 : 1 ≤ w.length := by have := of_decide_eq_true h1; omega
    refine wB.mk (fun h2 => ?_) (fun h2 => ?_)
    · have h2 : w.length ≤ 8 := by have := of_decide_eq_true h2; omega
      refine w_map (ms := []) (tl w) (fun c => .str ⟨#[c]⟩) (fun c => .bl (low.contains c)) Its.str (by rw [← len_tl]; omega) (fun c h' hc kp => ?_) fun h' kp => ?_
      · exact ⟨_, rfl, by simp [in_chr, low, Keep.refl]⟩
      · refine ⟨by rw [List.length_map, ← len_tl]; omega, ?_⟩
        rw [bAll_lst (bs := (tl w).map fun c => low.contains c) (by simp), all_map_id]
        refine ⟨?_, kp.push _⟩
        unfold nameB
        rw [decide_eq_true h1, decide_eq_true h2]
        rfl
    · have h2 : ¬ w.length ≤ 8 := by have := of_decide_eq_false h2; omega
      refine ⟨?_, Keep.refl⟩
      unfold nameB
      rw [decide_eq_false h2, Bool.false_and, Bool.and_false]; exact decide_eq_false (by omega)
  · have h1 : ¬ 1 ≤ w.length := by have := of_decide_eq_false h1; omega
    refine ⟨?_, Keep.refl⟩
    unfold nameB
    rw [decide_eq_false h1, Bool.false_and]
theorem number_in_ok (w : Str) (hw : w.length ≤ 100000) (ha : Asc w) : wE (callD G (d + 1) "number_in" [.str w] h) (fun v h' => v = optI (numS w) ∧ Keep [] h h') no := by
  rw [u_number_in]
  simp [c_number_in, b_number_in]
  have hdl := digsS_len w
  have hl := len_tl (digsS w)
  rw [tl_digsS] at hl
  refine wS_mid (fun e h' => e = [some (.str w), some (.str (digsS w)), none] ∧ h' = h) ?_ ?_
  · simp [starts_minus]
    refine wB.mk (fun h1 => ?_) (fun h1 => ?_)
    · have h1 := of_decide_eq_true h1
      rw [slice_str (by omega)]
      simp [cut1_minus h1]
    · have h1 := of_decide_eq_false h1
      simp [digsS_same h1]
  intro e h' z; obtain ⟨rfl, e2⟩ := z; rw [e2]; clear e2 h'
  refine wS_mid (fun e h' => e = [some (.str w), some (.str (digsS w)), none] ∧ Keep [] h h' ∧ numOk (tl w) = true) ?_ ?_
  · simp
    refine ⟨by omega, wB.mk (fun h1 => ?_) (fun h1 => ?_)⟩
    · have h1 : 1 ≤ (digs (tl w)).length := by have := of_decide_eq_true h1; omega
      refine wB.mk (fun h2 => ?_) (fun h2 => ?_)
      · have h2 : ¬ (digs (tl w)).length ≤ 9 := by simp at h2; omega
        refine ⟨?_, Keep.refl⟩
        unfold numS
        rw [if_neg (fun z => ?_)]
        · rfl
        · have := z.1
          unfold numOk at this
          rw [decide_eq_false h2, Bool.false_and, Bool.and_false] at this
          cases this
      · have h2 : (digs (tl w)).length ≤ 9 := by simp at h2; omega
        refine w_map (ms := []) (tl (digsS w)) (fun c => .str ⟨#[c]⟩) (fun c => .bl (dgt.contains c)) Its.str (by rw [← len_tl]; omega) (fun c h' hc kp => ?_) fun h' kp => ?_
        · exact ⟨_, rfl, by simp [in_chr, dgt, Keep.refl]⟩
        · refine ⟨by rw [List.length_map, ← len_tl]; omega, ?_⟩
          rw [bAll_lst (bs := (tl (digsS w)).map fun c => dgt.contains c) (by simp), all_map_id]
          simp only [mem_dgt, tl_digsS]
          have hno : numOk (tl w) = (digs (tl w)).all isDg := by
            unfold numOk
            rw [decide_eq_true h1, decide_eq_true h2]
            rfl
          simp only [wO_some, truth_bl]
          refine wB.mk (fun h3 => ?_) (fun h3 => ?_)
          · have h3 : (digs (tl w)).all isDg = false := by simpa using h3
            refine ⟨?_, kp.push _⟩
            unfold numS
            rw [hno, h3, if_neg (fun z => Bool.false_ne_true z.1)]
            rfl
          · have h3 : (digs (tl w)).all isDg = true := by simpa using h3
            exact ⟨kp.push _, by rw [hno, h3]⟩
    · have h1 : ¬ 1 ≤ (digs (tl w)).length := by have := of_decide_eq_false h1; omega
      refine ⟨?_, Keep.refl⟩
      unfold numS
      rw [if_neg (fun z => ?_)]
      · rfl
      · have := z.1
        unfold numOk at this
        rw [decide_eq_false h1, Bool.false_and] at this
        cases this
  intro e h' z; obtain ⟨rfl, kp, ho⟩ := z
  have ho2 := ho
  unfold numOk at ho2
  simp only [Bool.and_eq_true, decide_eq_true_eq] at ho2
  obtain ⟨q1, q2, q3⟩ := ho2
  obtain ⟨c, r, e⟩ : ∃ c r, digs (tl w) = c :: r := by
    cases q : digs (tl w) with
    | nil => rw [q] at q1; simp at q1
    | cons c r => exact ⟨c, r, rfl⟩
  have hc : c ∈ digs (tl w) := by rw [e]; simp
  have h1 : item (.str (digsS w)) (.int 0) h' = some (.str ⟨#[c]⟩) := by
    rw [item_str (by omega), tl_digsS, e, atI_0]; rfl
  have hk0 : Asc (⟨#[c]⟩ : Str) := fun x hx => by
    have hx : x = c := by simpa [tl] using hx
    subst hx
    exact digsS_asc ha x (by rw [tl_digsS]; exact hc)
  have hz : Asc "0" := asc_of (by decide +kernel)
  have hz2 : tl "0" = [48] := by decide +kernel
  have hz3 : tl (⟨#[c]⟩ : Str) = [c] := rfl
  simp [h1, eqD_str hk0.okc hz.okc, eqD_str ha.okc hz.okc, beq_tl, hz2, hz3]
  have hw10 := numOk_le ho
  have bi : bInt [.str w] h' = some (.int (valL (tl w)), h') := bInt_str (by rw [len_tl]; omega) (int_ok ho)
  refine wB.mk (fun h2 => ?_) (fun h2 => ?_)
  · have h2 : ¬ c = 48 := by simpa using h2
    simp [bi, numS, ho, e, h2, kp, optI]
  · have h2 : c = 48 := by simpa using h2
    refine wB.mk (fun h3 => ?_) (fun h3 => ?_)
    · have h3 := of_decide_eq_true h3
      rw [h3] at ho bi
      simp [bi, numS, ho, h3, kp, optI]
    · have h3 := of_decide_eq_false h3
      simp [numS, ho, e, h2, h3, kp, optI]
end
end K82
end T_L1
section T_L2
set_option linter.all false
set_option maxRecDepth 100000
/-! L2: data that lie plainly; shares, steps. -/
namespace Ev
open PySem L2
/-- plain data, at most n deep -/
structure Lay (n : Nat) (x : MV) : Prop where
  p : vP x = true
  s : vS x ≤ 100 * (n + 1)
  c : (vD x).canLay0 = true
  d : (vD x).depth ≤ n
  w : (vD x).showable = true
theorem Lay.mono {n m : Nat} {x : MV} (l : Lay n x) (h : n ≤ m) : Lay m x := ⟨l.p, Nat.le_trans l.s (by omega), l.c, Nat.le_trans l.d h, l.w⟩
theorem Lay.non {n : Nat} : Lay n .non := ⟨by simp [vP], by simp [vS]; omega, by simp [vD, PyData.canLay0], by simp [vD, PyData.depth], by simp [vD, PyData.showable]⟩
theorem Lay.bl {n : Nat} {b : Bool} : Lay n (.bl b) := ⟨by simp [vP], by simp [vS]; omega, by simp [vD, PyData.canLay0], by simp [vD, PyData.depth], by simp [vD, PyData.showable]⟩
theorem Lay.int {n : Nat} {i : Int} (h : i.natAbs < 2 ^ 64) : Lay n (.int i) := ⟨by simp [vP], by simp [vS]; omega, by simp [vD, PyData.canLay0], by simp [vD, PyData.depth], by
  have := natAbs_log i h
  simp only [vD, PyData.showable, decide_eq_true_eq]; omega⟩
theorem Lay.str {n : Nat} {x : Str} (h : Okc x) : Lay n (.str x) := ⟨by simp [vP], by simp [vS]; omega, by simp only [vD, PyData.canLay0]; exact h, by simp [vD, PyData.depth], by simp [vD, PyData.showable]⟩
theorem lays {n : Nat} : ∀ {xs : List MV}, (∀ x ∈ xs, Lay n x) → vPs xs = true ∧ vSs xs ≤ 100 * (n + 1) + xs.length + 1 ∧ PyData.canLayAll0 (vDs xs) = true ∧ PyData.depthAll (vDs xs) ≤ n ∧ PyData.showableAll (vDs xs) = true
  | [], _ => ⟨by simp [vPs], by simp [vSs], by simp [vDs, PyData.canLayAll0], by simp [vDs, PyData.depthAll], by simp [vDs, PyData.showableAll]⟩
  | x :: xs, h => by
    obtain ⟨h1, h2, h3, h4, h5⟩ := lays (xs := xs) fun y hy => h y (List.mem_cons_of_mem _ hy)
    have q := h x List.mem_cons_self
    have q2 := q.s
    have q4 := q.d
    refine ⟨by simp [vPs, q.p, h1], ?_, by simp [vDs, PyData.canLayAll0, q.c, h3], ?_, by simp [vDs, PyData.showableAll, q.w, h5]⟩
    · simp only [vSs, List.length_cons]; omega
    · simp only [vDs, PyData.depthAll]; omega
theorem Lay.tup {n : Nat} {xs : List MV} (h : ∀ x ∈ xs, Lay n x) (hl : xs.length ≤ 90) : Lay (n + 1) (.tup xs) := by
  obtain ⟨h1, h2, h3, h4, h5⟩ := lays h
  exact ⟨by simp [vP, h1], by simp only [vS]; omega, by simp [vD, PyData.canLay0, h3], by simp only [vD, PyData.depth]; omega, by simp [vD, PyData.showable, h5]⟩
section
variable {h : MH} {n m k : Nat} {x y : MV} {xs ys : List MV}
theorem Lay.toD (l : Lay n x) (hn : n ≤ 60) : Ev.toD h DF x = some (vD x) := toD_v h DF x l.p (by have := l.s; rw [DF_is]; omega)
theorem Lay.shaped (l : Lay n x) (hn : n ≤ 60) : SeqAt.shaped (vD x) = true := by
  have := l.d
  simp only [SeqAt.shaped, l.c, Bool.true_and, decide_eq_true_eq]; omega
theorem lay_lst (l : ∀ x ∈ xs, Lay n x) (hn : n ≤ 60) (hl : xs.length ≤ 90000) (e : h[k]? = some (.lst xs)) : toD h DF (.ref k) = some (.list (vDs xs)) ∧ toDs h DF xs = some (vDs xs) ∧ SeqAt.shaped (.list (vDs xs)) = true ∧ PyData.showable (.list (vDs xs)) = true ∧ PyData.depth (.list (vDs xs)) ≤ n + 1 := by
  obtain ⟨h1, h2, h3, h4, h5⟩ := lays l
  have hs : 100 * (n + 1) ≤ 6100 := by omega
  have hs2 : vSs xs + 1 ≤ 100000 := by omega
  have hs3 : vSs xs ≤ DF := Nat.le_trans (Nat.le_succ _) hs2
  refine ⟨toD_lst h DF k xs e h1 hs2, toDs_v h DF xs h1 hs3, ?_, by simp [PyData.showable, h5], by simp only [PyData.depth]; omega⟩
  simp only [SeqAt.shaped, PyData.canLay0, h3, PyData.depth, Bool.true_and, decide_eq_true_eq]; exact decide_eq_true (by omega)
theorem vDs_map : ∀ (xs : List MV), vDs xs = xs.map vD
  | [] => by simp [vDs]
  | x :: xs => by simp [vDs, vDs_map xs]
theorem inD_lst (l : ∀ x ∈ xs, Lay n x) (hn : n ≤ 60) (hl : xs.length ≤ 90000) (e : h[k]? = some (.lst xs)) (ly : Lay m y) (hm : m ≤ 60) : inD h y (.ref k) = some (xs.any fun z => PyData.eqv (vD z) (vD y)) := by
  obtain ⟨h1, h2, h3, h4, h5⟩ := lay_lst (h := h) l hn hl e
  have hc : SeqAt.shaped (vD y) && SeqAt.shaped (.list (vDs xs)) := by rw [ly.shaped hm, h3]; rfl
  unfold inD
  simp only [e, ly.toD hm, h2, hc, if_true]
  rw [vDs_map, List.any_map]
  rfl
theorem inD_tup (l : ∀ x ∈ xs, Lay n x) (hn : n ≤ 60) (hl : xs.length ≤ 90) (ly : Lay m y) (hm : m ≤ 60) : inD h y (.tup xs) = some (xs.any fun z => PyData.eqv (vD z) (vD y)) := by
  obtain ⟨h1, h2, h3, h4, h5⟩ := lays l
  have hc : SeqAt.shaped (vD y) && SeqAt.shaped (.tuple (vDs xs)) := by
    rw [ly.shaped hm]
    simp only [SeqAt.shaped, PyData.canLay0, h3, PyData.depth, Bool.true_and, decide_eq_true_eq]; exact decide_eq_true (by omega)
  have hs : 100 * (n + 1) ≤ 6100 := by omega
  have hs2 : vSs xs ≤ 100000 := by omega
  have ht := toDs_v h DF xs h1 hs2
  unfold inD
  simp only [ly.toD hm, ht, hc, if_true]
  rw [vDs_map, List.any_map]
  rfl
theorem eqD_lay (lx : Lay n x) (hn : n ≤ 60) (ly : Lay m y) (hm : m ≤ 60) : eqD h x y = some (PyData.eqv (vD x) (vD y)) := by
  unfold eqD
  rw [lx.toD hn, ly.toD hm]
  simp [lx.shaped hn, ly.shaped hm]
theorem eqD_lst {j : Nat} (l : ∀ x ∈ xs, Lay n x) (hn : n ≤ 60) (hl : xs.length ≤ 90000) (e : h[k]? = some (.lst xs)) (l' : ∀ x ∈ ys, Lay m x) (hm : m ≤ 60) (hl' : ys.length ≤ 90000) (e' : h[j]? = some (.lst ys)) : eqD h (.ref k) (.ref j) = some (PyData.eqvAll (vDs xs) (vDs ys)) := by
  obtain ⟨h1, h2, h3, h4, h5⟩ := lay_lst (h := h) l hn hl e
  obtain ⟨g1, g2, g3, g4, g5⟩ := lay_lst (h := h) l' hm hl' e'
  unfold eqD
  rw [h1, g1]
  simp [h3, g3, PyData.eqv]
end
/-! ### shares -/
def optT : Option (Int × Int) → MV
  | none => .non
  | some p => .tup [.int p.1, .int p.2]
/-- a share's form -/
def stepB (p q : Int) : Bool := decide (1 ≤ q) && (decide (q ≤ 12) && (decide (-q ≤ p) && (decide (p ≤ q) && !((List.range (q + 1 - 2).toNat).any fun (i : Nat) => (p.fmod (2 + (i : Int)) == 0) && (q.fmod (2 + (i : Int)) == 0)))))
def slashS (w : Str) : List (Option Int) := (Txt.split w "/").map numS
def shareS (w : Str) : Option (Int × Int) :=
  if (slashS w).any Option.isNone = true ∨ 2 < (slashS w).length ∨ ((slashS w).length = 2 ∧ (slashS w)[1]? = some (some 1)) then none
  else (match slashS w with
    | [some p] => if stepB p 1 = true then some (p, 1) else none
    | [some p, some q] => if stepB p q = true then some (p, q) else none
    | _ => none)
theorem lay_optI {n : Nat} {o : Option Int} (h : ∀ i, o = some i → i.natAbs < 2 ^ 64) : Lay n (optI o) := by
  cases o with
  | none => exact Lay.non
  | some i => exact Lay.int (h i rfl)
theorem numS_lt {w : Str} {i : Int} (h : numS w = some i) : i.natAbs < 2 ^ 64 := by
  unfold numS at h
  split at h
  · rename_i hc
    have := valL_lt hc.1
    injection h with h
    rw [← h]
    exact Nat.lt_trans this (by decide)
  · cases h
theorem isnone_optI (o : Option Int) : PyData.eqv (vD (optI o)) (vD .non) = o.isNone := by cases o <;> simp [optI, vD, PyData.eqv]
theorem isnone_optT (o : Option (Int × Int)) : PyData.eqv (vD (optT o)) (vD .non) = o.isNone := by cases o <;> simp [optT, vD, PyData.eqv]
theorem split_len (w y : Str) (hy : 1 ≤ y.length) : (Txt.split w y).length ≤ w.length + 1 := by
  have := PyProof.Rows.split_weight w y hy
  omega
theorem split_part {w y a : Str} (h : a ∈ Txt.split w y) : a.length ≤ w.length := PyProof.Rows.part_short h
theorem split_join_tl (w y : Str) : TL.joinL (tl y) ((Txt.split w y).map tl) = tl w := by
  have := StrLaws.join_split w y
  have h2 := TL.tl_join y (Txt.split w y)
  rw [this] at h2
  exact h2.symm
theorem mem_joinL {S : List Nat} : ∀ {ps : List (List Nat)} {p : List Nat} {c : Nat}, p ∈ ps → c ∈ p → c ∈ TL.joinL S ps
  | [], _, _, h, _ => by simp at h
  | [q], p, c, h, hc => by
    rw [List.mem_singleton] at h
    subst h
    exact hc
  | q :: r :: s, p, c, h, hc => by
    unfold TL.joinL
    rcases List.mem_cons.mp h with e | h
    · subst e; exact List.mem_append_left _ hc
    · exact List.mem_append_right _ (List.mem_append_right _ (mem_joinL h hc))
theorem split_asc {w y a : Str} (hw : Asc w) (h : a ∈ Txt.split w y) : Asc a := fun c hc => hw c (by
  rw [← split_join_tl w y]
  exact mem_joinL (List.mem_map_of_mem h) hc)
theorem split_ne (w y : Str) (hy : y.cps.all (· < 256) = true) (hl : 1 ≤ y.length) : Txt.split w y ≠ [] := by
  intro z
  unfold Txt.split at z
  split at z
  · cases z
  · split at z
    · cases z
    · have := StrLaws.partsFrom_ne w y.length 0 (Builtin.Str.occurrences w y 0 w.length (w.length + 1))
      rw [StrLaws.partsBetween_eq] at z
      obtain ⟨p, r, e⟩ := this
      rw [e] at z
      cases z
end Ev
namespace K82
open PySem L2 Ev
section
variable {d : Nat} {h : MH}
theorem is_step_ok (p q : Int) : wE (callD G (d + 2) "is_step" [.tup [.int p, .int q]] h) (fun v h' => v = .bl (stepB p q) ∧ Keep [] h h') no := by
  rw [u_is_step]
  simp [c_is_step, b_is_step]
  refine wS_mid (fun e h' => e = [some (.tup [.int p, .int q]), none, none, none] ∧ Keep [] h h') ?_ ?_
  · simp
    refine w_map (ms := []) [p, q] MV.int (fun _ => .bl true) Its.tup (by simp) (fun x h' hx kp => ?_) fun h' kp => ?_
    · exact ⟨_, rfl, by simp [is_integer_int, Keep.refl]⟩
    · simp
      rw [bAll_lst (bs := [true, true]) (by simp)]
      simp [kp.push]
  intro e h' z; obtain ⟨rfl, kp⟩ := z
  refine wS_mid (fun e h1 => e = [some (.tup [.int p, .int q]), none, some (.int p), some (.int q)] ∧ h' = h1) ?_ ?_
  · simp
  intro e h1 z; obtain ⟨rfl, rfl⟩ := z
  refine wS_mid (fun e h1 => e = [some (.tup [.int p, .int q]), none, some (.int p), some (.int q)] ∧ h' = h1 ∧ 1 ≤ q ∧ q ≤ 12 ∧ -q ≤ p ∧ p ≤ q) ?_ ?_
  · have no1 : ¬ (1 ≤ q ∧ q ≤ 12 ∧ -q ≤ p ∧ p ≤ q) → stepB p q = false := fun z => by
      unfold stepB
      by_cases a1 : 1 ≤ q
      · by_cases a2 : q ≤ 12
        · by_cases a3 : -q ≤ p
          · by_cases a4 : p ≤ q
            · exact absurd ⟨a1, a2, a3, a4⟩ z
            · simp [a4]
          · simp [a3]
        · simp [a2]
      · simp [a1]
    simp
    refine wB.mk (fun h1 => ?_) (fun h1 => ?_)
    · refine wB.mk (fun h2 => ?_) (fun h2 => ?_)
      · exact ⟨no1 fun z => by simp at h2; omega, kp⟩
      · refine wB.mk (fun h3 => ?_) (fun h3 => ?_)
        · refine wB.mk (fun h4 => ?_) (fun h4 => ?_)
          · exact ⟨no1 fun z => by simp at h4; omega, kp⟩
          · simp at h1 h2 h3 h4
            exact ⟨by omega, by omega, by omega, by omega⟩
        · exact ⟨no1 fun z => by simp at h3; omega, kp⟩
    · exact ⟨no1 fun z => by simp at h1; omega, kp⟩
  intro e h1 z; obtain ⟨rfl, rfl, q1, q2, q3, q4⟩ := z
  simp [rangeOf]
  refine ⟨by omega, ?_⟩
  refine w_map (ms := []) (List.range (q + 1 - 2).toNat) (fun (i : Nat) => MV.int (2 + (i : Int))) (fun i => .bl ((p.fmod (2 + (i : Int)) == 0) && (q.fmod (2 + (i : Int)) == 0))) Its.rng (by simp; omega) (fun i h2 hi kp2 => ?_) fun h2 kp2 => ?_
  · refine ⟨_, rfl, ?_⟩
    have hne : (2 + (i : Int)) ≠ 0 := by omega
    simp [bin_mod_int hne]
    refine wB.mk (fun g1 => ?_) (fun g1 => ?_)
    · simp at g1
      simp [g1, Keep.refl]
    · simp at g1
      simp [g1, Keep.refl]
  · simp
    refine ⟨by omega, ?_⟩
    rw [bAny_lst (bs := (List.range (q + 1 - 2).toNat).map fun (i : Nat) => (p.fmod (2 + (i : Int)) == 0) && (q.fmod (2 + (i : Int)) == 0)) (by simp), any_map_id]
    simp
    refine ⟨?_, (kp.trans kp2).push _⟩
    unfold stepB
    rw [decide_eq_true q1, decide_eq_true q2, decide_eq_true q3, decide_eq_true q4]
    simp
theorem share_in_ok (w : Str) (hw : w.length ≤ 50000) (ha : Asc w) : wE (callD G (d + 3) "share_in" [.str w] h) (fun v h' => v = optT (shareS w) ∧ Keep [] h h') no := by
  rw [u_share_in]
  simp [c_share_in, b_share_in]
  have hs : Str.length "/" = 1 := by decide +kernel
  refine wS_mid (fun e h' => ∃ k, e = [some (.str w), some (.ref k), none, none] ∧ Keep [] h h' ∧ h'[k]? = some (.lst ((slashS w).map optI))) ?_ ?_
  · simp
    rw [m_split (by rw [hs]; rfl) (by omega)]
    simp [iterOf]
    refine w_map (ms := []) (Txt.split w "/") MV.str (fun x => optI (numS x)) (Its.lst (by simp) (by simp)) (by have := split_len w "/" (by omega); omega) (fun x h' hx kp => ?_) fun h' kp => ?_
    · refine ⟨_, rfl, ?_⟩
      simp
      exact number_in_ok x (Nat.le_trans (split_part hx) (by omega)) (split_asc ha hx)
    · simp
      refine ⟨by have := split_len w "/" (by omega); omega, ?_, ?_⟩
      · exact ((Keep.app _).trans kp).push _
      · simp [slashS, Function.comp_def]
  intro e h' z; obtain ⟨k, rfl, kp, hk⟩ := z
  have hl : (slashS w).length ≤ 50001 := by
    have := split_len w "/" (by omega)
    unfold slashS
    rw [List.length_map]
    omega
  have lay : ∀ x ∈ (slashS w).map optI, Lay 0 x := fun x hx => by
    obtain ⟨o, ho, rfl⟩ := List.mem_map.mp hx
    refine lay_optI fun i hi => ?_
    subst hi
    obtain ⟨a, _, e⟩ := List.mem_map.mp ho
    exact numS_lt e
  have hin : inD h' .non (.ref k) = some ((slashS w).any Option.isNone) := by
    rw [inD_lst lay (by omega) (by rw [List.length_map]; omega) hk (Lay.non (n := 0)) (by omega), List.any_map]
    congr 2
    funext o
    exact isnone_optI o
  refine wS_mid (fun e h1 => e = [some (.str w), some (.ref k), none, none] ∧ h' = h1 ∧ ¬ ((slashS w).any Option.isNone = true ∨ 2 < (slashS w).length ∨ ((slashS w).length = 2 ∧ (slashS w)[1]? = some (some 1)))) ?_ ?_
  · have nope : ((slashS w).any Option.isNone = true ∨ 2 < (slashS w).length ∨ ((slashS w).length = 2 ∧ (slashS w)[1]? = some (some 1))) → shareS w = none := fun z => by unfold shareS; rw [if_pos z]
    simp only [w_iteS, w_orT, w_tstC, w_cmpC, w_valC, w_locC, envGet_zero, envGet_succ, wO_some, hin, cmp_in, truth_bl]
    refine wB.mk (fun h1 => ?_) (fun h1 => ?_)
    · simp
      exact ⟨by rw [nope (.inl h1)]; rfl, kp⟩
    · simp [lenX_lst hk]
      refine wB.mk (fun h2 => ?_) (fun h2 => ?_)
      · exact ⟨by rw [nope (.inr (.inl (by simp at h2; omega)))]; rfl, kp⟩
      · simp at h2
        refine wB.mk (fun h3 => ?_) (fun h3 => ?_)
        · have h3 : (slashS w).length = 2 := by simp at h3; omega
          match q : slashS w, h3 with
          | [a, b], _ =>
            rw [q] at h1 nope hk
            have hb : ∃ i, b = some i := by cases b <;> simp at h1 ⊢
            obtain ⟨i, rfl⟩ := hb
            simp [item_lst hk, optI]
            refine wB.mk (fun h4 => ?_) (fun h4 => ?_)
            · simp at h4
              exact ⟨by rw [nope (.inr (.inr ⟨rfl, by simp [h4]⟩))]; rfl, kp⟩
            · simp at h4
              refine ⟨?_, h4⟩
              cases a <;> simp at h1 ⊢
        · refine ⟨fun z => by have := List.any_eq_false.mp h1 _ z; simp at this, by omega, fun z => absurd z (by simp at h3; omega)⟩
  intro e h1 z; obtain ⟨rfl, rfl, hno⟩ := z
  have sp : (∃ p, slashS w = [some p] ∧ shareS w = if stepB p 1 = true then some (p, 1) else none) ∨ (∃ p q, slashS w = [some p, some q] ∧ shareS w = if stepB p q = true then some (p, q) else none) := by
    have h1 : ¬ 2 < (slashS w).length := fun z => hno (.inr (.inl z))
    have h2 : (slashS w).any Option.isNone = false := by
      cases q : (slashS w).any Option.isNone with
      | false => rfl
      | true => exact absurd (.inl q) hno
    have h0 : slashS w ≠ [] := fun z => split_ne w "/" (by decide +kernel) (by omega) (List.map_eq_nil_iff.mp z)
    unfold shareS
    rw [if_neg hno]
    match qq : slashS w, h0, h1, h2 with
    | [none], _, _, h2 => simp at h2
    | [some p], _, _, _ => exact .inl ⟨p, rfl, rfl⟩
    | [some p, some q], _, _, _ => exact .inr ⟨p, q, rfl, rfl⟩
    | [none, _], _, _, h2 => simp at h2
    | [some _, none], _, _, h2 => simp at h2
    | _ :: _ :: _ :: _, _, h1, _ => simp at h1
  obtain ⟨p, q, hpq⟩ : ∃ p q, ((slashS w = [some p] ∧ q = 1) ∨ slashS w = [some p, some q]) ∧ shareS w = if stepB p q = true then some (p, q) else none := by
    rcases sp with ⟨p, a, b⟩ | ⟨p, q, a, b⟩
    · exact ⟨p, 1, .inl ⟨a, rfl⟩, b⟩
    · exact ⟨p, q, .inr a, b⟩
  refine wS_mid (fun e h1 => e = [some (.str w), some (.ref k), none, some (.tup [.int p, .int q])] ∧ h' = h1) ?_ ?_
  · rcases hpq.1 with ⟨a, b⟩ | a
    · rw [a] at hk
      subst b
      simp [lenX_lst hk, item_lst hk, optI]
    · rw [a] at hk
      simp [lenX_lst hk, optI, bTuple_lst hk]
  intro e h1 z; obtain ⟨rfl, rfl⟩ := z
  simp
  refine (is_step_ok p q).to fun v h1 hv => ?_
  obtain ⟨rfl, kp1⟩ := hv
  rw [hpq.2]
  simp
  refine wB.mk (fun g => ?_) (fun g => ?_)
  · simp [g, optT, kp.trans kp1]
  · simp [g, optT, kp.trans kp1]
end
end K82
end T_L2
section T_L3
set_option linter.all false
set_option maxRecDepth 100000
/-! L3: a line's step, as the program reads it. -/
namespace Ev
open PySem L2
/-- a list of texts at k -/
structure Wd (h : MH) (k : Nat) (ws : List Str) : Prop where
  at_ : h[k]? = some (.lst (ws.map .str))
  ok : ∀ x ∈ ws, Asc x ∧ x.length ≤ 40000
  len : ws.length ≤ 40001
theorem Wd.keep {h h' : MH} {k : Nat} {ws : List Str} {ms : List Nat} (w : Wd h k ws) (kp : Keep ms h h') (hm : k ∉ ms) : Wd h' k ws := ⟨kp.at w.at_ hm, w.ok, w.len⟩
theorem Wd.keep0 {h h' : MH} {k : Nat} {ws : List Str} (w : Wd h k ws) (kp : Keep [] h h') : Wd h' k ws := w.keep kp (by simp)
theorem str_eqv (a b : Str) : PyData.eqv (vD (.str a)) (vD (.str b)) = (a == b) := by simp [vD, PyData.eqv]
/-- joined, met -/
def pairB (w : Str) : Bool := ("joined" : Str) == w || ("met" : Str) == w
def sizeB (w : Str) : Bool := ("lesser" : Str) == w || ("zoomed" : Str) == w
theorem asc_lit {w : Str} (h : (tl w).all (· < 128) = true) : Asc w := asc_of h
theorem in_two {h : MH} {a b w : Str} (ha : Asc a) (hb : Asc b) (hw : Asc w) : inD h (.str w) (.tup [.str a, .str b]) = some (a == w || b == w) := by
  rw [inD_tup (n := 0) (m := 0) (fun x hx => by
    simp at hx
    rcases hx with e | e
    · subst e; exact Lay.str ha.okc
    · subst e; exact Lay.str hb.okc) (by omega) (by simp) (Lay.str hw.okc) (by omega)]
  simp [str_eqv]
theorem lay_strs {ws : List Str} (ok : ∀ x ∈ ws, Asc x) : ∀ x ∈ ws.map MV.str, Lay 0 x := fun x hx => by
  obtain ⟨a, ha, rfl⟩ := List.mem_map.mp hx
  exact Lay.str (ok a ha).okc
/-- xs == [] -/
theorem eq_nil {h : MH} {k j : Nat} {ws : List Str} (e : h[k]? = some (.lst (ws.map .str))) (ok : ∀ x ∈ ws, Asc x) (hl : ws.length ≤ 90000) (e' : h[j]? = some (.lst [])) : eqD h (.ref k) (.ref j) = some ws.isEmpty := by
  rw [eqD_lst (n := 0) (m := 0) (lay_strs ok) (by omega) (by simpa using hl) e (by simp) (by omega) (by simp) e']
  cases ws <;> simp [vDs, PyData.eqvAll]
def optL : Option (List MV) → MV
  | none => .non
  | some xs => .tup xs
def nz (o : Option Int) : Int := o.getD 0
/-- rest_in, as it stands -/
def restQ (w a : Str) (r : List Str) : Option (List MV) :=
  if nameB a = false then none
  else if w = "moved" then (if r.length = 2 ∧ (r.map shareS).any Option.isNone = false then some (.str a :: r.map fun x => optT (shareS x)) else none)
  else if (r.map numS).any Option.isNone = true then none
  else if w = "turned" then (if r.length = 1 ∧ (0 ≤ nz ((r.map numS).getD 0 none) ∧ nz ((r.map numS).getD 0 none) ≤ 7) then some (.str a :: r.map fun x => optI (numS x)) else none)
  else if sizeB w = false ∨ r.length ≠ 3 ∨ ¬ (1 ≤ nz ((r.map numS).getD 0 none) ∧ nz ((r.map numS).getD 0 none) ≤ 4) then none
  else if ((r.map numS).drop 1).all (fun o => decide (0 ≤ nz o) && decide (nz o < nz ((r.map numS).getD 0 none))) = true then some (.str a :: r.map fun x => optI (numS x)) else none
def restP (w : Str) (ws : List Str) : Option (List MV) :=
  if pairB w = true then (if ws.length = 2 ∧ ws.all nameB = true then some (ws.map .str) else none)
  else match ws with
    | [] => none
    | a :: r => restQ w a r
def stepP (ws : List Str) : Option (List MV) := match ws with
  | n :: e :: w :: r => if r = [] ∨ nameB n = false ∨ ¬ e = "=" then none else (restP w r).map fun xs => .str n :: .str w :: xs
  | _ => none
theorem asc_eq : Asc "=" := asc_of (by decide +kernel)
theorem asc_joined : Asc "joined" := asc_of (by decide +kernel)
theorem asc_met : Asc "met" := asc_of (by decide +kernel)
theorem asc_moved : Asc "moved" := asc_of (by decide +kernel)
theorem asc_turned : Asc "turned" := asc_of (by decide +kernel)
theorem asc_lesser : Asc "lesser" := asc_of (by decide +kernel)
theorem asc_zoomed : Asc "zoomed" := asc_of (by decide +kernel)
theorem optI_some {os : List (Option Int)} (h : os.any Option.isNone = false) : os.map optI = (os.map nz).map MV.int := by
  induction os with
  | nil => rfl
  | cons o os ih =>
    simp only [List.any_cons, Bool.or_eq_false_iff] at h
    cases o with
    | none => simp at h
    | some i =>
      have := ih h.2
      simp [optI, nz] at this ⊢
      exact this
end Ev
namespace K82
open PySem L2 Ev
section
variable {d : Nat} {h : MH}
theorem rest_in_ok (w : Str) (hw : Asc w) (k : Nat) (ws : List Str) (W : Wd h k ws) : wE (callD G (d + 4) "rest_in" [.str w, .ref k] h) (fun v h' => v = optL (restP w ws) ∧ Keep [] h h') no := by
  have hl := W.len
  rw [u_rest_in]
  simp [c_rest_in, b_rest_in]
  refine wS_mid (fun e h' => e = [some (.str w), some (.ref k), none, none] ∧ h = h' ∧ pairB w = false) ?_ ?_
  · simp [in_two asc_joined asc_met hw]
    refine wB.mk (fun h1 => ?_) (fun h1 => ?_)
    · have h1 : pairB w = true := h1
      simp [lenX_lst W.at_]
      refine wB.mk (fun h2 => ?_) (fun h2 => ?_)
      · have h2 : ws.length = 2 := by simp at h2; omega
        simp [iterOf_lst W.at_]
        refine w_map (ms := []) ws MV.str (fun x => .bl (nameB x)) (Its.lst W.at_ (by simp)) (by omega) (fun x h' hx kp => ?_) fun h' kp => ?_
        · refine ⟨_, rfl, ?_⟩
          simp
          exact is_name_ok x (by have := (W.ok x hx).2; omega)
        · simp [h2]
          rw [bAll_lst (bs := ws.map nameB) (by simp), all_map_id]
          simp
          refine wB.mk (fun h3 => ?_) (fun h3 => ?_)
          · simp [bTuple_lst ((kp.push _).at W.at_ (by simp))]
            unfold restP
            rw [if_pos h1, if_pos ⟨h2, h3⟩]
            exact ⟨rfl, kp.push _⟩
          · unfold restP
            rw [if_pos h1, if_neg (fun z => by rw [h3] at z; exact Bool.false_ne_true z.2)]
            exact ⟨rfl, kp.push _⟩
      · have h2 : ¬ ws.length = 2 := by simp at h2; omega
        unfold restP
        rw [if_pos h1, if_neg (fun z => h2 z.1)]
        exact ⟨rfl, Keep.refl⟩
    · exact h1
  intro e h' z; obtain ⟨rfl, rfl, hp⟩ := z
  have W1 := W.keep0 (Keep.app [.lst []])
  have hen := eq_nil W1.at_ (fun x hx => (W.ok x hx).1) (by omega) List.getElem?_concat_length
  rcases ws with _ | ⟨a, r⟩
  · have rp : restP w [] = none := by unfold restP; rw [if_neg (by rw [hp]; exact Bool.false_ne_true)]
    rw [rp]
    refine wS_seq fun nx hn => ?_
    simp [eqC_lst W1.at_, hen, optL, Keep.app]
  have rp : restP w (a :: r) = restQ w a r := by unfold restP; rw [if_neg (by rw [hp]; exact Bool.false_ne_true)]
  rw [rp]
  generalize hR : restQ w a r = R
  unfold restQ at hR
  refine wS_mid (fun e h' => e = [some (.str w), some (.ref k), none, none] ∧ Keep [] h h' ∧ nameB a = true) ?_ ?_
  · simp [eqC_lst W1.at_, hen, item_lst W1.at_]
    refine (is_name_ok a (by have := (W.ok a (by simp)).2; omega)).to fun v h' hv => ?_
    obtain ⟨rfl, kp⟩ := hv
    simp
    refine wB.mk (fun h2 => ?_) (fun h2 => ?_)
    · have h2 : nameB a = false := by simpa using h2
      rw [if_pos h2] at hR
      simp [← hR, optL, (Keep.app _).trans kp]
    · have h2 : nameB a = true := by simpa using h2
      exact ⟨(Keep.app _).trans kp, h2⟩
  intro e h' z; obtain ⟨rfl, kp0, ha⟩ := z
  have W2 := W.keep0 kp0
  simp only [ha, Bool.true_eq_false, if_false] at hR
  have hr : r.length ≤ 40000 := by simp at hl; omega
  have okr : ∀ x ∈ r, Asc x ∧ x.length ≤ 40000 := fun x hx => W.ok x (List.mem_cons_of_mem _ hx)
  refine wS_mid (fun e h1 => e = [some (.str w), some (.ref k), none, none] ∧ h' = h1 ∧ ¬ w = "moved") ?_ ?_
  · simp [eqD_str hw.okc asc_moved.okc]
    refine wB.mk (fun h1 => ?_) (fun h1 => ?_)
    · have h1 : w = "moved" := by simpa using h1
      rw [if_pos h1] at hR
      refine wS_mid (fun e h1 => ∃ m, e = [some (.str w), some (.ref k), none, some (.ref m)] ∧ Keep [] h' h1 ∧ h1[m]? = some (.lst (r.map fun x => optT (shareS x)))) ?_ ?_
      · simp [slice_lst W2.at_, iterOf]
        refine w_map (ms := []) r MV.str (fun x => optT (shareS x)) (Its.lst (by simp; exact cutM_from (n := 1)) (by simp)) (by omega) (fun x h2 hx kp => ?_) fun h2 kp => ?_
        · refine ⟨_, rfl, ?_⟩
          simp
          exact share_in_ok x (by have := (okr x hx).2; omega) (okr x hx).1
        · simp
          exact ⟨by omega, ((Keep.app _).trans kp).push _⟩
      intro e h1 z; obtain ⟨m, rfl, kp, hm⟩ := z
      have W3 := W2.keep0 kp
      have lay : ∀ x ∈ r.map (fun x => optT (shareS x)), Lay 1 x := fun x hx => by
        obtain ⟨y, hy, rfl⟩ := List.mem_map.mp hx
        cases q : shareS y with
        | none => exact Lay.non
        | some p =>
          unfold shareS at q
          split at q
          · cases q
          · have num : ∀ j, some j ∈ slashS y → j.natAbs < 2 ^ 64 := fun j hj => by
              obtain ⟨a, _, e⟩ := List.mem_map.mp hj
              exact numS_lt e
            split at q
            · rename_i p' he
              split at q
              · injection q with q
                subst q
                refine Lay.tup (fun x hx => ?_) (by simp)
                simp at hx
                rcases hx with e | e
                · subst e; exact Lay.int (num _ (by rw [he]; simp))
                · subst e; exact Lay.int (by decide)
              · cases q
            · rename_i p' q' he
              split at q
              · injection q with q
                subst q
                refine Lay.tup (fun x hx => ?_) (by simp)
                simp at hx
                rcases hx with e | e
                · subst e; exact Lay.int (num _ (by rw [he]; simp))
                · subst e; exact Lay.int (num _ (by rw [he]; simp))
              · cases q
            · cases q
      have hin : inD h1 .non (.ref m) = some ((r.map shareS).any Option.isNone) := by
        rw [inD_lst lay (by omega) (by rw [List.length_map]; omega) hm (Lay.non (n := 0)) (by omega), List.any_map, List.any_map]
        congr 2
        funext o
        exact isnone_optT (shareS o)
      simp [lenX_lst hm]
      refine wB.mk (fun h2 => ?_) (fun h2 => ?_)
      · have h2 : r.length = 2 := by simp at h2; omega
        simp only [w_tstC, w_cmpC, w_valC, w_locC, envGet_zero, envGet_succ, wO_some, hin, cmp_nin, Option.map_some, truth_bl]
        refine wB.mk (fun h3 => ?_) (fun h3 => ?_)
        · have h3 : (r.map shareS).any Option.isNone = false := by simpa using h3
          rw [if_pos ⟨h2, h3⟩] at hR
          simp [← hR, item_lst W3.at_, seq_lst hm, h2, optL, kp0.trans kp]
        · have h3 : (r.map shareS).any Option.isNone = true := by simpa using h3
          rw [if_neg (fun z => by rw [h3] at z; exact Bool.noConfusion z.2)] at hR
          simp [← hR, optL, kp0.trans kp]
      · have h2 : ¬ r.length = 2 := by simp at h2; omega
        rw [if_neg (fun z => h2 z.1)] at hR
        exact ⟨by rw [← hR]; rfl, kp0.trans kp⟩
    · simpa using h1
  intro e h1 z; obtain ⟨rfl, rfl, hmv⟩ := z
  rw [if_neg hmv] at hR
  refine wS_mid (fun e h1 => ∃ m, e = [some (.str w), some (.ref k), none, some (.ref m)] ∧ Keep [] h' h1 ∧ h1[m]? = some (.lst (r.map fun x => optI (numS x)))) ?_ ?_
  · simp [slice_lst W2.at_, iterOf]
    refine w_map (ms := []) r MV.str (fun x => optI (numS x)) (Its.lst (by simp; exact cutM_from (n := 1)) (by simp)) (by omega) (fun x h2 hx kp => ?_) fun h2 kp => ?_
    · refine ⟨_, rfl, ?_⟩
      simp
      exact number_in_ok x (by have := (okr x hx).2; omega) (okr x hx).1
    · simp
      exact ⟨by omega, ((Keep.app _).trans kp).push _⟩
  intro e h1 z; obtain ⟨m, rfl, kp, hm⟩ := z
  have W3 := W2.keep0 kp
  have kp' := kp0.trans kp
  have hmo : (r.map fun x => optI (numS x)) = (r.map numS).map optI := by rw [List.map_map]; rfl
  have lay : ∀ x ∈ (r.map numS).map optI, Lay 0 x := fun x hx => by
    obtain ⟨o, ho, rfl⟩ := List.mem_map.mp hx
    refine lay_optI fun i hi => ?_
    subst hi
    obtain ⟨a, _, e⟩ := List.mem_map.mp ho
    exact numS_lt e
  rw [hmo] at hm hR
  have hin : inD h1 .non (.ref m) = some ((r.map numS).any Option.isNone) := by
    rw [inD_lst lay (by omega) (by rw [List.length_map, List.length_map]; omega) hm (Lay.non (n := 0)) (by omega), List.any_map]
    congr 2
    funext o
    exact isnone_optI o
  have hol : (r.map numS).length = r.length := List.length_map _
  generalize r.map numS = os at *
  refine wS_mid (fun e h2 => e = [some (.str w), some (.ref k), none, some (.ref m)] ∧ h1 = h2 ∧ os.any Option.isNone = false) ?_ ?_
  · simp only [w_iteS, w_tstC, w_cmpC, w_valC, w_locC, envGet_zero, envGet_succ, wO_some, hin, cmp_in, truth_bl]
    refine wB.mk (fun h2 => ?_) (fun h2 => ?_)
    · rw [if_pos h2] at hR
      exact ⟨by rw [← hR]; rfl, kp'⟩
    · exact ⟨rfl, rfl, h2⟩
  intro e h2 z; obtain ⟨rfl, rfl, hno⟩ := z
  rw [if_neg (by rw [hno]; exact Bool.false_ne_true)] at hR
  have hos := optI_some hno
  generalize hz0 : nz (os.getD 0 none) = z0 at hR
  have h00 : ∀ h3 : MH, h3[m]? = some (.lst (os.map optI)) → 0 < os.length → item (.ref m) (.int 0) h3 = some (.int z0) := fun h3 e hn => by
    rw [item_lst e, atI_0, hos, List.getElem?_map, List.getElem?_map, List.getElem?_eq_getElem hn, ← hz0, List.getD_eq_getElem?_getD, List.getElem?_eq_getElem hn]
    rfl
  refine wS_mid (fun e h2 => e = [some (.str w), some (.ref k), none, some (.ref m)] ∧ h1 = h2 ∧ ¬ w = "turned") ?_ ?_
  · simp [eqD_str hw.okc asc_turned.okc]
    refine wB.mk (fun g1 => ?_) (fun g1 => ?_)
    · have g1 : w = "turned" := by simpa using g1
      rw [if_pos g1] at hR
      simp [lenX_lst hm]
      refine wB.mk (fun g2 => ?_) (fun g2 => ?_)
      · have g2 : os.length = 1 := by simp at g2; omega
        simp only [w_tstC, w_chnC, w_valC, w_itemC, w_locC, envGet_zero, envGet_succ, wO_some, h00 _ hm (by omega), cmp_le_int, truth_bl]
        refine wB.mk (fun g3 => ?_) (fun g3 => ?_)
        · have g3 := of_decide_eq_true g3
          refine wB.mk (fun g4 => ?_) (fun g4 => ?_)
          · have g4 := of_decide_eq_true g4
            rw [if_pos ⟨by omega, g3, g4⟩] at hR
            simp [← hR, item_lst W3.at_, seq_lst hm, g2, optL, kp']
          · have g4 := of_decide_eq_false g4
            rw [if_neg (fun z => g4 z.2.2)] at hR
            simp [← hR, optL, kp']
        · have g3 := of_decide_eq_false g3
          rw [if_neg (fun z => g3 z.2.1)] at hR
          simp [← hR, optL, kp']
      · have g2 : ¬ os.length = 1 := by simp at g2; omega
        rw [if_neg (fun z => g2 (by omega))] at hR
        exact ⟨by rw [← hR]; rfl, kp'⟩
    · simpa using g1
  intro e h2 z; obtain ⟨rfl, rfl, htu⟩ := z
  rw [if_neg htu] at hR
  refine wS_mid (fun e h2 => e = [some (.str w), some (.ref k), none, some (.ref m)] ∧ h1 = h2 ∧ sizeB w = true ∧ r.length = 3 ∧ 1 ≤ z0 ∧ z0 ≤ 4) ?_ ?_
  · have nope : (sizeB w = false ∨ r.length ≠ 3 ∨ ¬ (1 ≤ z0 ∧ z0 ≤ 4)) → (MV.non = optL R ∧ Keep [] h h1) := fun z => by rw [if_pos z] at hR; rw [← hR]; exact ⟨rfl, kp'⟩
    simp only [w_iteS, w_orT, w_notT, w_tstC, w_cmpC, w_valC, w_locC, envGet_zero, envGet_succ, wO_some, cmp_nin, w_tupC, w_consA, w_nilA, in_two asc_lesser asc_zoomed hw, Option.map_some, truth_bl]
    refine ⟨by decide, wB.mk (fun g1 => ?_) (fun g1 => ?_)⟩
    · simp only [w_seq_ret, w_valC]
      exact nope (.inl (by simp [sizeB] at g1 ⊢; exact g1))
    · simp [lenX_lst hm]
      have g1 : sizeB w = true := by
        unfold sizeB
        cases q : ("lesser" : Str) == w || ("zoomed" : Str) == w with
        | true => rfl
        | false => rw [q] at g1; cases g1
      refine wB.mk (fun g2 => ?_) (fun g2 => ?_)
      · have g2 : ¬ os.length = 3 := by simp at g2; omega
        exact nope (.inr (.inl (by omega)))
      · have g2 : os.length = 3 := by simp at g2; omega
        simp only [w_tstC, w_chnC, w_valC, w_itemC, w_locC, envGet_zero, envGet_succ, wO_some, h00 _ hm (by omega), cmp_le_int, truth_bl]
        refine wB.mk (fun g3 => ?_) (fun g3 => ?_)
        · have g3 := of_decide_eq_true g3
          refine wB.mk (fun g4 => ?_) (fun g4 => ?_)
          · have g4 : ¬ z0 ≤ 4 := by simpa using g4
            exact nope (.inr (.inr fun z => g4 z.2))
          · have g4 : z0 ≤ 4 := by simpa using g4
            exact ⟨g1, by omega, g3, g4⟩
        · have g3 := of_decide_eq_false g3
          exact nope (.inr (.inr fun z => g3 z.1))
  intro e h2 z; obtain ⟨rfl, rfl, s1, s2, s3, s4⟩ := z
  rw [if_neg (fun z => by
    rcases z with z | z | z
    · rw [s1] at z; cases z
    · exact z s2
    · exact z ⟨s3, s4⟩)] at hR
  have hr3 : os.length = 3 := by omega
  simp [slice_lst hm, iterOf]
  have hc : cutM (os.map optI) (some 1) none = ((os.drop 1).map nz).map MV.int := by
    rw [hos]
    have := cutM_from (xs := (os.map nz).map MV.int) (n := 1)
    rw [← List.map_drop, ← List.map_drop] at this
    exact this
  refine w_map (ms := []) ((os.drop 1).map nz) MV.int (fun i => .bl (decide (0 ≤ i) && decide (i < z0))) (Its.lst (by simp [hc]) (by simp)) (by simp; omega) (fun i h2 hi kp2 => ?_) fun h2 kp2 => ?_
  · refine ⟨_, rfl, ?_⟩
    have hm2 := kp2.at ((Keep.app (ms := []) [.lst (cutM (os.map optI) (some 1) none)]).at hm (by simp)) (by simp)
    simp [h00 _ hm2 (by omega)]
    refine wB.mk (fun g3 => ?_) (fun g3 => ?_)
    · have := of_decide_eq_true g3
      simp [this, Keep.refl]
    · have := of_decide_eq_false g3
      simp [this, Keep.refl]
  · have kp3 := ((Keep.app (ms := []) (h := h1) [.lst (cutM (os.map optI) (some 1) none)]).trans kp2)
    have hLb : (((os.drop 1).map nz).map fun i => MV.bl (decide (0 ≤ i) && decide (i < z0))) = ((os.drop 1).map fun o => decide (0 ≤ nz o) && decide (nz o < z0)).map MV.bl := by simp [Function.comp_def]
    have hLl : (((os.drop 1).map nz).map fun i => MV.bl (decide (0 ≤ i) && decide (i < z0))).length = 2 := by simp; omega
    generalize (((os.drop 1).map nz).map fun i => MV.bl (decide (0 ≤ i) && decide (i < z0))) = L at hLb hLl ⊢
    have W4 := W3.keep0 (kp3.push [.lst L])
    have hm4 := (kp3.push [.lst L]).at hm (by simp)
    refine ⟨by omega, ?_⟩
    rw [bAll_lst (bs := (os.drop 1).map fun o => decide (0 ≤ nz o) && decide (nz o < z0)) (by rw [List.getElem?_concat_length, hLb]), all_map_id]
    simp only [wO_some, truth_bl]
    refine wB.mk (fun g3 => ?_) (fun g3 => ?_)
    · have g3 : ((os.drop 1).all fun o => decide (0 ≤ nz o) && decide (nz o < z0)) = true := by simpa using g3
      rw [if_pos g3] at hR
      simp [item_lst W4.at_, seq_lst hm4, hr3, optL, ← hR, kp'.trans (kp3.push _)]
    · have g3 : ¬ ((os.drop 1).all fun o => decide (0 ≤ nz o) && decide (nz o < z0)) = true := by simpa using g3
      rw [if_neg g3] at hR
      exact ⟨by rw [← hR]; rfl, kp'.trans (kp3.push _)⟩
end
end K82
end T_L3
section T_L4
set_option linter.all false
set_option maxRecDepth 100000
/-! L4: step_in, names_in; the law's own reading: words, shares. -/
namespace Ev
open PySem L2
theorem head1_minus {w : Str} (h : w.length ≤ 16777216) : tl (cutS w none (some 1)) = (tl w).take 1 := by
  have : tl (cutS w none (some 1)) = cutM (tl w) none (some ((1 : Nat) : Int)) := by
    unfold cutS cutM
    rw [len_tl] <;> rfl
  rw [this, cutM_to]
theorem asc_minus : Asc "-" := asc_of (by decide +kernel)
theorem asc_take {w x : Str} {n : Nat} (h : Asc w) (e : tl x = (tl w).take n) : Asc x := fun c hc => h c (by rw [e] at hc; exact List.mem_of_mem_take hc)
theorem str_len_le {i : Int} (h : i.natAbs < 2 ^ 64) : Asc (Str.ofString (toString i)) := by
  intro c hc
  by_cases hi : 128 ≤ c
  · exact absurd hc (PyProof.Rows.int_text_free' c ⟨by omega, by omega⟩ i)
  · omega
/-- a line's words -/
theorem wd_split {w y : Str} (hw : Asc w) (hl : w.length ≤ 40000) (hy : 1 ≤ y.length) {h : MH} {k : Nat} (e : h[k]? = some (.lst ((Txt.split w y).map .str))) : Wd h k (Txt.split w y) :=
  ⟨e, fun x hx => ⟨split_asc hw hx, Nat.le_trans (split_part hx) hl⟩, by have := split_len w y hy; omega⟩
theorem Wd.drop {h : MH} {k j : Nat} {ws : List Str} (w : Wd h k ws) (n : Nat) (e : h[j]? = some (.lst ((ws.drop n).map .str))) : Wd h j (ws.drop n) :=
  ⟨e, fun x hx => w.ok x (List.mem_of_mem_drop hx), by have := w.len; simp; omega⟩
end Ev
namespace K82
open PySem L2 Ev
section
variable {d : Nat} {h : MH}
theorem step_in_ok (w : Str) (hw : Asc w) (hwl : w.length ≤ 40000) : wE (callD G (d + 5) "step_in" [.str w] h) (fun v h' => v = optL (stepP (Txt.split w " ")) ∧ Keep [] h h') no := by
  have hs : Str.length " " = 1 := by decide +kernel
  rw [u_step_in]
  simp [c_step_in, b_step_in]
  refine wS_mid (fun e h' => e = [some (.str w), some (.ref h.length), none] ∧ h' = h ++ [.lst ((Txt.split w " ").map .str)]) ?_ ?_
  · simp
    rw [m_split (by rw [hs]; rfl) (by omega)]
    simp
  intro e h' z; obtain ⟨rfl, hh⟩ := z
  have W : Wd h' h.length (Txt.split w " ") := wd_split hw hwl (by omega) (by rw [hh]; exact List.getElem?_concat_length)
  have kp : Keep [] h h' := by rw [hh]; exact Keep.app _
  generalize h.length = k at *
  generalize Txt.split w " " = ws at *
  clear hh
  generalize hR : stepP ws = R
  refine wS_mid (fun e h1 => e = [some (.str w), some (.ref k), none] ∧ Keep [] h' h1 ∧ ∃ n u r, ws = n :: ("=" : Str) :: u :: r ∧ r ≠ [] ∧ nameB n = true) ?_ ?_
  · simp [lenX_lst W.at_]
    refine wB.mk (fun h1 => ?_) (fun h1 => ?_)
    · have h1 : ws.length ≤ 3 := by have := of_decide_eq_true h1; omega
      have : R = none := by
        rw [← hR]
        match ws, h1 with
        | [], _ => rfl
        | [_], _ => rfl
        | [_, _], _ => rfl
        | [_, _, _], _ => simp [stepP]
      rw [this]
      exact ⟨rfl, kp⟩
    · have h1 : ¬ ws.length ≤ 3 := by have := of_decide_eq_false h1; omega
      obtain ⟨n, e, u, v, r, rfl⟩ : ∃ n e u v r, ws = n :: e :: u :: v :: r := by
        match ws, h1 with
        | n :: e :: u :: v :: r, _ => exact ⟨n, e, u, v, r, rfl⟩
        | [], h1 => simp at h1
        | [_], h1 => simp at h1
        | [_, _], h1 => simp at h1
        | [_, _, _], h1 => simp at h1
      simp [item_lst W.at_]
      refine (is_name_ok n (by have := (W.ok n (by simp)).2; omega)).to fun v1 h2 hv => ?_
      obtain ⟨rfl, kp2⟩ := hv
      have W2 := W.keep0 kp2
      simp
      refine wB.mk (fun g1 => ?_) (fun g1 => ?_)
      · have g1 : nameB n = false := by simpa using g1
        have : R = none := by rw [← hR]; simp [stepP, g1]
        rw [this]
        exact ⟨rfl, kp.trans kp2⟩
      · have g1 : nameB n = true := by simpa using g1
        simp [item_lst W2.at_, eqD_str (W.ok e (by simp)).1.okc asc_eq.okc]
        refine wB.mk (fun g2 => ?_) (fun g2 => ?_)
        · have g2 : ¬ e = "=" := by simpa using g2
          have : R = none := by rw [← hR]; simp [stepP, g2]
          rw [this]
          exact ⟨rfl, kp.trans kp2⟩
        · have g2 : e = "=" := by simpa using g2
          subst g2
          exact ⟨kp2, n, u, v :: r, by simp, by simp, g1⟩
  intro e h1 z; obtain ⟨rfl, kp1, n, u, r, rfl, hr, hn⟩ := z
  have W1 := W.keep0 kp1
  have hR : (restP u r).map (fun xs => MV.str n :: .str u :: xs) = R := by
    rw [← hR]
    simp [stepP, hr, hn]
  have kp' := kp.trans kp1
  refine wS_mid (fun e h2 => e = [some (.str w), some (.ref k), some (optL (restP u r))] ∧ Keep [] h1 h2) ?_ ?_
  · simp [item_lst W1.at_, slice_lst W1.at_]
    have hcut : cutM (List.map MV.str (n :: ("=" : Str) :: u :: r)) (some 3) none = r.map .str := cutM_from (n := 3)
    have W2 : Wd (h1 ++ [.lst (cutM (List.map MV.str (n :: ("=" : Str) :: u :: r)) (some 3) none)]) h1.length r := W1.keep0 (Keep.app _) |>.drop 3 (by rw [List.getElem?_concat_length, hcut]; rfl)
    refine (rest_in_ok u (W.ok u (by simp)).1 h1.length r W2).to fun v h2 hv => ?_
    obtain ⟨rfl, kp2⟩ := hv
    simp [(Keep.app _).trans kp2]
  intro e h2 z; obtain ⟨rfl, kp2⟩ := z
  have W2 := W1.keep0 kp2
  cases q : restP u r with
  | none =>
    rw [q] at hR
    simp [optL, ← hR, kp'.trans kp2]
  | some xs =>
    rw [q] at hR
    have hx : xs.length ≤ 40003 := by
      have hw2 := W.len
      simp at hw2
      unfold restP at q
      split at q
      · split at q
        · injection q with q; rw [← q]; simp; omega
        · cases q
      · split at q
        · cases q
        · simp at hw2
          unfold restQ at q
          repeat' split at q
          all_goals first | (injection q with q; rw [← q]; simp; omega) | cases q
    simp [optL, item_lst W2.at_, ← hR, kp'.trans kp2]
    omega
theorem names_in_ok (n w : Str) (hw : Asc w) (xs : List MV) : callD G (d + 1) "names_in" [.tup (.str n :: .str w :: xs)] h = some (.ok (.tup (if pairB w = true then xs.take 2 else xs.take 1)) h) := by
  rw [u_names_in]
  have h1 : wE (c_names_in (callD G d) (.tup (.str n :: .str w :: xs)) h) (fun v h' => v = .tup (if pairB w = true then xs.take 2 else xs.take 1) ∧ h' = h) no := by
    simp [c_names_in, b_names_in, in_two asc_joined asc_met hw]
    have c1 : cutM (MV.str n :: .str w :: xs) (some 2) (some 4) = xs.take 2 := cutM_mid (m := 2) (n := 4)
    have c2 : cutM (MV.str n :: .str w :: xs) (some 2) (some 3) = xs.take 1 := cutM_mid (m := 2) (n := 3)
    refine wB.mk (fun g => ?_) (fun g => ?_)
    · have g : pairB w = true := g
      simp [g, c1]
    · have g : pairB w = false := g
      simp [g, c2]
  obtain ⟨v, h', e, rfl, rfl⟩ := h1.get
  exact e
/-! ### the law's -/
theorem is_word_ok (w : Str) (hw : w.length ≤ 100000) : wE (callD G (d + 1) "_law_is_word" [.str w] h) (fun v h' => v = .bl (nameB w) ∧ Keep [] h h') no := by
  rw [u__law_is_word]
  have := is_name_ok (d := d) (h := h) w hw
  rw [u_is_name] at this
  exact this
theorem whole_ok (w : Str) (hw : w.length ≤ 100000) (ha : Asc w) : wE (callD G (d + 1) "_law_whole" [.str w] h) (fun v h' => v = optI (numS w) ∧ Keep [] h h') no := by
  rw [u__law_whole]
  simp [c__law_whole, b__law_whole]
  have hdl := digsS_len w
  have hl := len_tl (digsS w)
  rw [tl_digsS] at hl
  refine wS_mid (fun e h' => e = [some (.str w), some (.str (digsS w)), none] ∧ h' = h) ?_ ?_
  · have h1m := head1_minus (w := w) (by omega)
    have tm : tl "-" = [45] := by decide +kernel
    have hq : decide ((tl w).take 1 = [45]) = decide ((tl w).head? = some 45) := by
      cases tl w with
      | nil => rfl
      | cons c r => by_cases hc : c = 45 <;> simp [hc]
    simp [slice_str (show w.length ≤ 16777216 by omega), eqD_str (asc_take ha h1m).okc asc_minus.okc, beq_tl, h1m, tm, hq]
    refine wB.mk (fun h1 => ?_) (fun h1 => ?_)
    · have h1 := of_decide_eq_true h1
      simp [cut1_minus h1]
    · have h1 := of_decide_eq_false h1
      simp [digsS_same h1]
  intro e h' z; obtain ⟨rfl, e2⟩ := z; rw [e2]; clear e2 h'
  refine wS_mid (fun e h' => e = [some (.str w), some (.str (digsS w)), none] ∧ Keep [] h h' ∧ numOk (tl w) = true) ?_ ?_
  · simp
    refine ⟨by omega, wB.mk (fun h1 => ?_) (fun h1 => ?_)⟩
    · have h1 : 1 ≤ (digs (tl w)).length := by have := of_decide_eq_true h1; omega
      refine wB.mk (fun h2 => ?_) (fun h2 => ?_)
      · have h2 : ¬ (digs (tl w)).length ≤ 9 := by simp at h2; omega
        refine ⟨?_, Keep.refl⟩
        unfold numS
        rw [if_neg (fun z => ?_)]
        · rfl
        · have := z.1
          unfold numOk at this
          rw [decide_eq_false h2, Bool.false_and, Bool.and_false] at this
          cases this
      · have h2 : (digs (tl w)).length ≤ 9 := by simp at h2; omega
        refine w_map (ms := []) (tl (digsS w)) (fun c => .str ⟨#[c]⟩) (fun c => .bl (dgt.contains c)) Its.str (by rw [← len_tl]; omega) (fun c h' hc kp => ?_) fun h' kp => ?_
        · exact ⟨_, rfl, by simp [in_chr, dgt, Keep.refl]⟩
        · refine ⟨by rw [List.length_map, ← len_tl]; omega, ?_⟩
          rw [bAll_lst (bs := (tl (digsS w)).map fun c => dgt.contains c) (by simp), all_map_id]
          simp only [mem_dgt, tl_digsS]
          have hno : numOk (tl w) = (digs (tl w)).all isDg := by
            unfold numOk
            rw [decide_eq_true h1, decide_eq_true h2]
            rfl
          simp only [wO_some, truth_bl]
          refine wB.mk (fun h3 => ?_) (fun h3 => ?_)
          · have h3 : (digs (tl w)).all isDg = false := by simpa using h3
            refine ⟨?_, kp.push _⟩
            unfold numS
            rw [hno, h3, if_neg (fun z => Bool.false_ne_true z.1)]
            rfl
          · have h3 : (digs (tl w)).all isDg = true := by simpa using h3
            exact ⟨kp.push _, by rw [hno, h3]⟩
    · have h1 : ¬ 1 ≤ (digs (tl w)).length := by have := of_decide_eq_false h1; omega
      refine ⟨?_, Keep.refl⟩
      unfold numS
      rw [if_neg (fun z => ?_)]
      · rfl
      · have := z.1
        unfold numOk at this
        rw [decide_eq_false h1, Bool.false_and] at this
        cases this
  intro e h' z; obtain ⟨rfl, kp, ho⟩ := z
  have hw10 := numOk_le ho
  have bi : bInt [.str w] h' = some (.int (valL (tl w)), h') := bInt_str (by rw [len_tl]; omega) (int_ok ho)
  have hv : (valL (tl w)).natAbs < 2 ^ 64 := Nat.lt_trans (valL_lt ho) (by decide)
  have bs : bStr [.int (valL (tl w))] h' = some (.str (Str.ofString (toString (valL (tl w)))), h') := bStr_int (by have := natAbs_log _ hv; omega)
  have cn := canon ho
  have ok := (str_len_le hv).okc
  generalize Str.ofString (toString (valL (tl w))) = T at bs cn ok
  simp [bi, bs, eqD_str ok ha.okc, beq_tl]
  refine wB.mk (fun h2 => ?_) (fun h2 => ?_)
  · have h2 := cn.mp (of_decide_eq_true h2)
    refine ⟨?_, kp⟩
    unfold numS
    rw [if_pos ⟨ho, h2⟩]
    rfl
  · have h2 := fun z => of_decide_eq_false h2 (cn.mpr z)
    refine ⟨?_, kp⟩
    unfold numS
    rw [if_neg (fun z => h2 z.2)]
    rfl
end
end K82
end T_L4
section T_L5
set_option linter.all false
set_option maxRecDepth 100000
/-! L5: the law's fractions, shares, steps. -/
namespace Ev
open PySem L2
/-- in lowest terms -/
def gcdI (p q : Int) : Int := (Nat.gcd p.natAbs q.natAbs : Nat)
def frac (p q : Int) : Int × Int := (p.fdiv (gcdI p q), q.fdiv (gcdI p q))
theorem frac_step : ∀ i : Fin 11, ∀ j : Fin 25, stepB ((j.val : Int) - 12) ((i.val : Int) + 2) = (decide (-((i.val : Int) + 2) < (j.val : Int) - 12) && (decide ((j.val : Int) - 12 < (i.val : Int) + 2) && decide (frac ((j.val : Int) - 12) ((i.val : Int) + 2) = ((j.val : Int) - 12, (i.val : Int) + 2)))) := by decide +kernel
theorem stepB_frac {p q : Int} (h1 : 2 ≤ q) (h2 : q ≤ 12) : stepB p q = (decide (-q < p) && (decide (p < q) && decide (frac p q = (p, q)))) := by
  by_cases hp : -12 ≤ p ∧ p ≤ 12
  · have := frac_step ⟨(q - 2).toNat, by omega⟩ ⟨(p + 12).toNat, by omega⟩
    have e1 : (((q - 2).toNat : Nat) : Int) + 2 = q := by omega
    have e2 : (((p + 12).toNat : Nat) : Int) - 12 = p := by omega
    simp only [e1, e2] at this
    exact this
  · have e1 : stepB p q = false := by
      unfold stepB
      by_cases a3 : -q ≤ p
      · rw [decide_eq_false (show ¬ p ≤ q by omega)]; simp
      · rw [decide_eq_false a3]; simp
    rw [e1]
    by_cases a3 : -q < p
    · rw [decide_eq_false (show ¬ p < q by omega)]; simp
    · rw [decide_eq_false a3]; simp
theorem fdiv_le (p g : Int) (hg : 1 ≤ g) : (p.fdiv g).natAbs ≤ p.natAbs + 1 := by
  rw [Int.fdiv_eq_ediv_of_nonneg _ (by omega)]
  have h1 := Int.ediv_mul_le p (show g ≠ 0 by omega)
  have h2 := Int.lt_ediv_add_one_mul_self p (show 0 < g by omega)
  rcases Int.lt_or_le (p / g) 0 with h | h
  · have : (p / g + 1) * g ≤ (p / g + 1) := by
      have := Int.mul_le_mul_of_nonpos_left (a := p / g + 1) (b := g) (c := 1) (by omega) hg
      omega
    omega
  · have : (p / g) * 1 ≤ (p / g) * g := Int.mul_le_mul_of_nonneg_left hg h
    omega
theorem frac_bd (p q : Int) : (1 ≤ q) → (frac p q).1.natAbs ≤ p.natAbs + 1 ∧ (frac p q).2.natAbs ≤ q.natAbs + 1 := fun hq => by
  have hg0 : 1 ≤ gcdI p q := by
    unfold gcdI
    have : 0 < Nat.gcd p.natAbs q.natAbs := Nat.gcd_pos_of_pos_right _ (by omega)
    omega
  exact ⟨fdiv_le p _ hg0, fdiv_le q _ hg0⟩
theorem gcd_step (a b : Nat) : Nat.gcd (b % a) a = Nat.gcd a b := (Nat.gcd_rec a b).symm
end Ev
namespace K82
open PySem L2 Ev
section
variable {d : Nat} {h : MH}
theorem fraction_ok (p q : Int) (hp : p.natAbs < 2 ^ 1000) (hq : 1 ≤ q) (hg : gcdI p q < 1073741824) : wE (callD G (d + 1) "_law_fraction" [.int p, .int q] h) (fun v h' => v = .tup [.int (frac p q).1, .int (frac p q).2] ∧ h' = h) no := by
  rw [u__law_fraction]
  simp [c__law_fraction, b__law_fraction]
  refine wS_mid (fun e h' => e = [some (.int p), some (.int q), some (.int (p.natAbs : Nat)), some (.int (q.natAbs : Nat))] ∧ h' = h) ?_ ?_
  · simp
    refine ⟨?_, ?_⟩ <;> (try split) <;> omega
  intro e h' z; obtain ⟨rfl, rfl⟩ := z
  refine wS_mid (fun e h1 => e = [some (.int p), some (.int q), some (.int 0), some (.int (gcdI p q))] ∧ h1 = h') ?_ ?_
  · rw [w_whlC]
    refine w_while (fun n e h1 => h1 = h' ∧ ∃ a b : Nat, e = [some (.int p), some (.int q), some (.int (a : Nat)), some (.int (b : Nat))] ∧ 1 ≤ b ∧ Nat.gcd a b = Nat.gcd p.natAbs q.natAbs ∧ ∃ k, (n = 2 * k ∧ a < 2 ^ k) ∨ (n = 2 * k + 1 ∧ b < 2 ^ (k + 1) ∧ a < b))
      2000 (by omega) (fun n e h1 hI => ?_) ⟨rfl, p.natAbs, q.natAbs, rfl, by omega, rfl, 1000, .inl ⟨rfl, hp⟩⟩
    obtain ⟨rfl, a, b, rfl, hb, hgc, k, hk⟩ := hI
    simp
    refine wB.mk (fun g => ?_) (fun g => ?_)
    · have g : 0 < a := by have := of_decide_eq_true g; omega
      have e1 : (b : Int).fmod (a : Int) = ((b % a : Nat) : Int) := by
        rw [Int.fmod_eq_emod_of_nonneg _ (by omega)]
        exact (Int.natCast_emod b a).symm
      refine wS_seq fun nx hn => ?_
      simp [bin_mod_int (show (a : Int) ≠ 0 by omega), e1]
      refine hn _ _ ?_
      simp only [w_nxS]
      have hlt : b % a < a := Nat.mod_lt _ g
      rcases hk with ⟨hk1, hk2⟩ | ⟨hk1, hk2, hk3⟩
      · have hk0 : k ≠ 0 := fun z => by subst z; simp at hk2; omega
        refine ⟨n - 1, by omega, trivial, b % a, a, rfl, g, by rw [gcd_step, hgc], k - 1, .inr ⟨by omega, ?_, hlt⟩⟩
        have : k - 1 + 1 = k := by omega
        rw [this]
        exact hk2
      · refine ⟨n - 1, by omega, trivial, b % a, a, rfl, g, by rw [gcd_step, hgc], k, .inl ⟨by omega, ?_⟩⟩
        have h2 : b % a + a ≤ b := by
          have e := Nat.div_add_mod b a
          have hd : 1 ≤ b / a := (Nat.one_le_div_iff g).mpr (Nat.le_of_lt hk3)
          have : a * 1 ≤ a * (b / a) := Nat.mul_le_mul_left _ hd
          omega
        rw [Nat.pow_succ] at hk2
        omega
    · have g : a = 0 := by have := of_decide_eq_false g; omega
      subst g
      rw [Nat.gcd_zero_left] at hgc
      simp [gcdI, hgc]
  intro e h1 z; obtain ⟨rfl, rfl⟩ := z
  have hg0 : 1 ≤ gcdI p q := by
    unfold gcdI
    have : 0 < Nat.gcd p.natAbs q.natAbs := Nat.gcd_pos_of_pos_right _ (by omega)
    omega
  have c : gcdI p q ≠ 0 ∧ (gcdI p q).natAbs < 1073741824 := ⟨by omega, by omega⟩
  simp [bin_div_int c, frac]
theorem share_read_ok (w : Str) (hw : w.length ≤ 50000) (ha : Asc w) : wE (callD G (d + 3) "_law_share_read" [.str w] h) (fun v h' => v = optT (shareS w) ∧ Keep [] h h') no := by
  rw [u__law_share_read]
  simp [c__law_share_read, b__law_share_read]
  have hs : Str.length "/" = 1 := by decide +kernel
  refine wS_mid (fun e h' => ∃ k, e = [some (.str w), some (.ref k), none, none, none] ∧ Keep [] h h' ∧ h'[k]? = some (.lst ((slashS w).map optI))) ?_ ?_
  · simp
    rw [m_split (by rw [hs]; rfl) (by omega)]
    simp [iterOf]
    refine w_map (ms := []) (Txt.split w "/") MV.str (fun x => optI (numS x)) (Its.lst (by simp) (by simp)) (by have := split_len w "/" (by omega); omega) (fun x h' hx kp => ?_) fun h' kp => ?_
    · refine ⟨_, rfl, ?_⟩
      simp
      exact whole_ok x (Nat.le_trans (split_part hx) (by omega)) (split_asc ha hx)
    · simp
      refine ⟨by have := split_len w "/" (by omega); omega, ?_, ?_⟩
      · exact ((Keep.app _).trans kp).push _
      · simp [slashS, Function.comp_def]
  intro e h' z; obtain ⟨k, rfl, kp, hk⟩ := z
  have hl : (slashS w).length ≤ 50001 := by
    have := split_len w "/" (by omega)
    unfold slashS
    rw [List.length_map]
    omega
  have num : ∀ i, some i ∈ slashS w → i.natAbs < 2 ^ 64 := fun i hi => by
    obtain ⟨a, _, e⟩ := List.mem_map.mp hi
    exact numS_lt e
  have lay : ∀ x ∈ (slashS w).map optI, Lay 0 x := fun x hx => by
    obtain ⟨o, ho, rfl⟩ := List.mem_map.mp hx
    refine lay_optI fun i hi => ?_
    subst hi
    exact num i ho
  have hin : inD h' .non (.ref k) = some ((slashS w).any Option.isNone) := by
    rw [inD_lst lay (by omega) (by rw [List.length_map]; omega) hk (Lay.non (n := 0)) (by omega), List.any_map]
    congr 2
    funext o
    exact isnone_optI o
  have h0 : slashS w ≠ [] := fun z => split_ne w "/" (by decide +kernel) (by omega) (List.map_eq_nil_iff.mp z)
  generalize hR : optT (shareS w) = R
  unfold shareS at hR
  generalize slashS w = os at *
  refine wS_mid (fun e h1 => e = [some (.str w), some (.ref k), none, none, none] ∧ h' = h1 ∧ os.any Option.isNone = false ∧ os.length ≤ 2) ?_ ?_
  · simp only [w_iteS, w_orT, w_tstC, w_cmpC, w_valC, w_locC, envGet_zero, envGet_succ, wO_some, hin, cmp_in, truth_bl]
    refine wB.mk (fun h1 => ?_) (fun h1 => ?_)
    · rw [if_pos (.inl h1)] at hR
      exact ⟨hR, kp⟩
    · simp [lenX_lst hk]
      refine wB.mk (fun h2 => ?_) (fun h2 => ?_)
      · have h2 : 2 < os.length := by have := of_decide_eq_true h2; omega
        rw [if_pos (.inr (.inl h2))] at hR
        exact ⟨hR, kp⟩
      · have h2 : os.length ≤ 2 := by have := of_decide_eq_false h2; omega
        exact ⟨by simpa using h1, h2⟩
  intro e h1 z; obtain ⟨rfl, rfl, g1, g2⟩ := z
  match os, h0, g1, g2 with
  | [some p], _, _, _ =>
    refine wS_seq fun nx hn => ?_
    have hR : optT (if stepB p 1 = true then some (p, 1) else none) = R := hR
    have e1 : stepB p 1 = (decide (-1 ≤ p) && decide (p ≤ 1)) := by simp [stepB]
    simp [lenX_lst hk, item_lst hk, optI]
    refine wB.mk (fun g3 => ?_) (fun g3 => ?_)
    · have g3 := of_decide_eq_true g3
      refine wB.mk (fun g4 => ?_) (fun g4 => ?_)
      · have g4 := of_decide_eq_true g4
        rw [e1, decide_eq_true g3, decide_eq_true g4] at hR
        exact ⟨hR, kp⟩
      · have g4 := of_decide_eq_false g4
        rw [e1, decide_eq_true g3, decide_eq_false g4] at hR
        exact ⟨hR, kp⟩
    · have g3 := of_decide_eq_false g3
      rw [e1, decide_eq_false g3] at hR
      exact ⟨hR, kp⟩
  | [some p, some q], _, _, _ =>
    have hp := num p (by simp)
    have hq := num q (by simp)
    refine wS_mid (fun e h1 => e = [some (.str w), some (.ref k), none, none, none] ∧ h' = h1) (by simp [lenX_lst hk]) ?_
    intro e h1 z; obtain ⟨rfl, rfl⟩ := z
    refine wS_mid (fun e h1 => e = [some (.str w), some (.ref k), none, some (.int p), some (.int q)] ∧ h' = h1) (by simp [seq_lst hk, optI]) ?_
    intro e h1 z; obtain ⟨rfl, rfl⟩ := z
    have nope : ¬ (2 ≤ q ∧ q ≤ 12 ∧ -q < p ∧ p < q ∧ frac p q = (p, q)) → MV.non = R ∧ Keep [] h h' := fun z => by
      refine ⟨?_, kp⟩
      rw [← hR]
      by_cases hq1 : q = 1
      · subst hq1; simp [optT]
      · have : stepB p q = false := by
          by_cases a1 : 1 ≤ q ∧ q ≤ 12
          · rw [stepB_frac (by omega) a1.2]
            cases x1 : decide (-q < p) <;> cases x2 : decide (p < q) <;> cases x3 : decide (frac p q = (p, q)) <;> try rfl
            exact absurd ⟨by omega, a1.2, of_decide_eq_true x1, of_decide_eq_true x2, of_decide_eq_true x3⟩ z
          · unfold stepB
            by_cases b1 : 1 ≤ q
            · rw [decide_eq_false (show ¬ q ≤ 12 by omega)]; simp
            · rw [decide_eq_false b1]; simp
        simp [optT, hq1, this]
    simp
    refine wB.mk (fun g3 => ?_) (fun g3 => ?_)
    · have g3 := of_decide_eq_true g3
      refine wB.mk (fun g4 => ?_) (fun g4 => ?_)
      · have g4 := of_decide_eq_true g4
        refine wB.mk (fun g5 => ?_) (fun g5 => ?_)
        · have g5 := of_decide_eq_true g5
          refine wB.mk (fun g6 => ?_) (fun g6 => ?_)
          · have g6 := of_decide_eq_true g6
            refine (fraction_ok (d := d + 1) p q (by omega) (by omega) ?_).to fun v h2 hv => ?_
            · unfold gcdI
              have : Nat.gcd p.natAbs q.natAbs ≤ q.natAbs := Nat.gcd_le_right _ (by omega)
              omega
            obtain ⟨rfl, rfl⟩ := hv
            have hf : (frac p q).1.natAbs < 2 ^ 64 ∧ (frac p q).2.natAbs < 2 ^ 64 := by
              have := frac_bd p q (by omega)
              omega
            have eq : eqD h2 (.tup [.int (frac p q).1, .int (frac p q).2]) (.tup [.int p, .int q]) = some (decide (frac p q = (p, q))) := by
              rw [eqD_lay (n := 1) (m := 1) (Lay.tup (fun x hx => by
                simp at hx
                rcases hx with e | e
                · subst e; exact Lay.int hf.1
                · subst e; exact Lay.int hf.2) (by simp)) (by omega) (Lay.tup (fun x hx => by
                simp at hx
                rcases hx with e | e
                · subst e; exact Lay.int hp
                · subst e; exact Lay.int hq) (by simp)) (by omega)]
              simp only [vD, vDs, PyData.eqv, PyData.eqvAll, Bool.and_true]
              congr 1
              by_cases z : frac p q = (p, q)
              · rw [decide_eq_true z, z]; simp
              · rw [decide_eq_false z]
                cases a1 : (frac p q).1 == p <;> cases a2 : (frac p q).2 == q <;> try rfl
                exact absurd (Prod.ext (by simpa using a1) (by simpa using a2)) z
            simp [eq]
            refine wB.mk (fun g7 => ?_) (fun g7 => ?_)
            · have g7 := of_decide_eq_true g7
              refine ⟨?_, kp⟩
              rw [← hR]
              have : stepB p q = true := by rw [stepB_frac (by omega) g4, decide_eq_true g5, decide_eq_true g6, decide_eq_true g7]; rfl
              simp [optT, this, show q ≠ 1 by omega]
            · have g7 := of_decide_eq_false g7
              exact nope fun z => g7 z.2.2.2.2
          · have g6 := of_decide_eq_false g6
            exact nope fun z => g6 z.2.2.2.1
        · have g5 := of_decide_eq_false g5
          exact nope fun z => g5 z.2.2.1
      · have g4 := of_decide_eq_false g4
        exact nope fun z => g4 z.2.1
    · have g3 := of_decide_eq_false g3
      exact nope fun z => g3 z.1
end
end K82
end T_L5
section T_L6
set_option linter.all false
set_option maxRecDepth 100000
/-! L6: the law's reading of a line. -/
namespace Ev
open PySem L2
theorem lay_shares (r : List Str) : ∀ x ∈ r.map (fun x => optT (shareS x)), Lay 1 x := fun x hx => by
  obtain ⟨y, hy, rfl⟩ := List.mem_map.mp hx
  cases q : shareS y with
  | none => exact Lay.non
  | some p =>
    unfold shareS at q
    split at q
    · cases q
    · have num : ∀ j, some j ∈ slashS y → j.natAbs < 2 ^ 64 := fun j hj => by
        obtain ⟨a, _, e⟩ := List.mem_map.mp hj
        exact numS_lt e
      split at q
      · rename_i p' he
        split at q
        · injection q with q
          subst q
          refine Lay.tup (fun x hx => ?_) (by simp)
          simp at hx
          rcases hx with e | e
          · subst e; exact Lay.int (num _ (by rw [he]; simp))
          · subst e; exact Lay.int (by decide)
        · cases q
      · rename_i p' q' he
        split at q
        · injection q with q
          subst q
          refine Lay.tup (fun x hx => ?_) (by simp)
          simp at hx
          rcases hx with e | e
          · subst e; exact Lay.int (num _ (by rw [he]; simp))
          · subst e; exact Lay.int (num _ (by rw [he]; simp))
        · cases q
      · cases q
theorem lay_nums (r : List Str) : ∀ x ∈ (r.map numS).map optI, Lay 0 x := fun x hx => by
  obtain ⟨o, ho, rfl⟩ := List.mem_map.mp hx
  refine lay_optI fun i hi => ?_
  subst hi
  obtain ⟨a, _, e⟩ := List.mem_map.mp ho
  exact numS_lt e
end Ev
namespace K82
open PySem L2 Ev
section
variable {d : Nat} {h : MH}
theorem read_ok (w : Str) (hw : Asc w) (hwl : w.length ≤ 40000) : wE (callD G (d + 4) "_law_read" [.str w] h) (fun v h' => v = optL (stepP (Txt.split w " ")) ∧ Keep [] h h') no := by
  have hs : Str.length " " = 1 := by decide +kernel
  rw [u__law_read]
  simp [c__law_read, b__law_read]
  refine wS_mid (fun e h' => e = [some (.str w), some (.ref h.length), none, none, none, none, none] ∧ h' = h ++ [.lst ((Txt.split w " ").map .str)]) ?_ ?_
  · simp
    rw [m_split (by rw [hs]; rfl) (by omega)]
    simp
  intro e h' z; obtain ⟨rfl, hh⟩ := z
  have W : Wd h' h.length (Txt.split w " ") := wd_split hw hwl (by omega) (by rw [hh]; exact List.getElem?_concat_length)
  have kp : Keep [] h h' := by rw [hh]; exact Keep.app _
  generalize h.length = k at *
  generalize Txt.split w " " = ws at *
  clear hh
  generalize hR : stepP ws = R
  refine wS_mid (fun e h1 => e = [some (.str w), some (.ref k), none, none, none, none, none] ∧ Keep [] h' h1 ∧ ∃ n u a r, ws = n :: ("=" : Str) :: u :: a :: r ∧ nameB n = true ∧ nameB a = true) ?_ ?_
  · simp [lenX_lst W.at_]
    refine wB.mk (fun h1 => ?_) (fun h1 => ?_)
    · have h1 : ws.length < 4 := by have := of_decide_eq_true h1; omega
      have : R = none := by
        rw [← hR]
        match ws, h1 with
        | [], _ => rfl
        | [_], _ => rfl
        | [_, _], _ => rfl
        | [_, _, _], _ => simp [stepP]
      rw [this]
      exact ⟨rfl, kp⟩
    · have h1 : ¬ ws.length < 4 := by have := of_decide_eq_false h1; omega
      obtain ⟨n, e, u, v, r, rfl⟩ : ∃ n e u v r, ws = n :: e :: u :: v :: r := by
        match ws, h1 with
        | n :: e :: u :: v :: r, _ => exact ⟨n, e, u, v, r, rfl⟩
        | [], h1 => simp at h1
        | [_], h1 => simp at h1
        | [_, _], h1 => simp at h1
        | [_, _, _], h1 => simp at h1
      simp [item_lst W.at_, eqD_str (W.ok e (by simp)).1.okc asc_eq.okc]
      refine wB.mk (fun g2 => ?_) (fun g2 => ?_)
      · have g2 : ¬ e = "=" := by simpa using g2
        have : R = none := by rw [← hR]; simp [stepP, g2]
        rw [this]
        exact ⟨rfl, kp⟩
      · have g2 : e = "=" := by simpa using g2
        refine (is_word_ok n (by have := (W.ok n (by simp)).2; omega)).to fun v1 h2 hv => ?_
        obtain ⟨rfl, kp2⟩ := hv
        have W2 := W.keep0 kp2
        simp
        refine wB.mk (fun g1 => ?_) (fun g1 => ?_)
        · have g1 : nameB n = false := by simpa using g1
          have : R = none := by rw [← hR]; simp [stepP, g1]
          rw [this]
          exact ⟨rfl, kp.trans kp2⟩
        · have g1 : nameB n = true := by simpa using g1
          simp [item_lst W2.at_]
          refine (is_word_ok v (by have := (W.ok v (by simp)).2; omega)).to fun v1 h3 hv => ?_
          obtain ⟨rfl, kp3⟩ := hv
          simp
          refine wB.mk (fun g3 => ?_) (fun g3 => ?_)
          · have g3 : nameB v = false := by simpa using g3
            have : R = none := by
              rw [← hR]
              simp only [stepP, restP, restQ, g3]
              split
              · rfl
              · split
                · split
                  · rename_i q1 q2 q3
                    simp [g3] at q3
                  · rfl
                · rfl
            rw [this]
            exact ⟨rfl, (kp.trans kp2).trans kp3⟩
          · have g3 : nameB v = true := by simpa using g3
            exact ⟨kp2.trans kp3, n, u, v, ⟨rfl, g2, rfl, rfl⟩, g1, g3⟩
  intro e h1 z; obtain ⟨rfl, kp1, n, u, a, r, rfl, hn, ha⟩ := z
  have W1 := W.keep0 kp1
  have hR : (restP u (a :: r)).map (fun xs => MV.str n :: .str u :: xs) = R := by
    rw [← hR]
    simp [stepP, hn]
  have kp' := kp.trans kp1
  refine wS_mid (fun e h2 => ∃ m, e = [some (.str w), some (.ref k), some (.tup [.str n, .str u, .str a]), some (.ref m), none, none, none] ∧ Keep [] h1 h2 ∧ Wd h2 m r) ?_ ?_
  · have hcut : cutM (List.map MV.str (n :: ("=" : Str) :: u :: a :: r)) (some 4) none = r.map .str := cutM_from (n := 4)
    have W2 : Wd (h1 ++ [.lst (cutM (List.map MV.str (n :: ("=" : Str) :: u :: a :: r)) (some 4) none)]) h1.length r := W1.keep0 (Keep.app _) |>.drop 4 (by rw [List.getElem?_concat_length, hcut]; rfl)
    simp [item_lst W1.at_, slice_lst W1.at_]
    exact ⟨Keep.app _, W2⟩
  intro e h2 z; obtain ⟨m, rfl, kp2, Wm⟩ := z
  have W2 := W1.keep0 kp2
  have kp'' := kp'.trans kp2
  have hu := (W.ok u (by simp)).1
  have hr : r.length ≤ 40001 := Wm.len
  refine wS_mid (fun e h3 => e = [some (.str w), some (.ref k), some (.tup [.str n, .str u, .str a]), some (.ref m), none, none, none] ∧ h2 = h3 ∧ pairB u = false) ?_ ?_
  · simp [item_lst W2.at_, in_two asc_joined asc_met hu]
    refine wB.mk (fun g1 => ?_) (fun g1 => ?_)
    · have g1 : pairB u = true := g1
      unfold restP at hR
      rw [if_pos g1] at hR
      simp [lenX_lst Wm.at_]
      refine wB.mk (fun g2 => ?_) (fun g2 => ?_)
      · have g2 : r.length = 1 := by simp at g2; omega
        obtain ⟨b, rfl⟩ : ∃ b, r = [b] := List.length_eq_one_iff.mp g2
        simp [item_lst Wm.at_]
        refine (is_word_ok b (by have := (Wm.ok b (by simp)).2; omega)).to fun v1 h3 hv => ?_
        obtain ⟨rfl, kp3⟩ := hv
        have Wm3 := Wm.keep0 kp3
        simp
        refine wB.mk (fun g3 => ?_) (fun g3 => ?_)
        · rw [if_pos (by simp [ha, g3])] at hR
          simp [item_lst Wm3.at_, bin_add_tup, ← hR, optL, kp''.trans kp3]
        · rw [if_neg (by simp [ha, g3])] at hR
          simp [← hR, optL, kp''.trans kp3]
      · have g2 : ¬ r.length = 1 := by simp at g2; omega
        rw [if_neg (fun z => g2 (by have := z.1; simp at this; exact this ▸ rfl))] at hR
        exact ⟨by rw [← hR]; rfl, kp''⟩
    · exact g1
  intro e h3 z; obtain ⟨rfl, rfl, hp⟩ := z
  have hR : (restQ u a r).map (fun xs => MV.str n :: .str u :: xs) = R := by
    unfold restP at hR
    rw [if_neg (by rw [hp]; exact Bool.false_ne_true)] at hR
    exact hR
  unfold restQ at hR
  simp only [ha, Bool.true_eq_false, if_false] at hR
  refine wS_mid (fun e h3 => e = [some (.str w), some (.ref k), some (.tup [.str n, .str u, .str a]), some (.ref m), none, none, none] ∧ h2 = h3 ∧ ¬ u = "moved") ?_ ?_
  · simp [item_lst W2.at_, eqD_str hu.okc asc_moved.okc]
    refine wB.mk (fun h1 => ?_) (fun h1 => ?_)
    · have h1 : u = "moved" := by simpa using h1
      rw [if_pos h1] at hR
      refine wS_mid (fun e h3 => ∃ l, e = [some (.str w), some (.ref k), some (.tup [.str n, .str u, .str a]), some (.ref m), some (.ref l), none, none] ∧ Keep [] h2 h3 ∧ h3[l]? = some (.lst (r.map fun x => optT (shareS x)))) ?_ ?_
      · simp [iterOf_lst Wm.at_]
        refine w_map (ms := []) r MV.str (fun x => optT (shareS x)) (Its.lst Wm.at_ (by simp)) (by omega) (fun x h3 hx kp => ?_) fun h3 kp => ?_
        · refine ⟨_, rfl, ?_⟩
          simp
          exact share_read_ok x (by have := (Wm.ok x hx).2; omega) (Wm.ok x hx).1
        · simp
          exact ⟨by omega, kp.push _⟩
      intro e h3 z; obtain ⟨l, rfl, kp3, hm⟩ := z
      have hin : inD h3 .non (.ref l) = some ((r.map shareS).any Option.isNone) := by
        rw [inD_lst (lay_shares r) (by omega) (by rw [List.length_map]; omega) hm (Lay.non (n := 0)) (by omega), List.any_map, List.any_map]
        congr 2
        funext o
        exact isnone_optT (shareS o)
      simp [lenX_lst hm]
      refine wB.mk (fun h2 => ?_) (fun h2 => ?_)
      · have h2 : r.length = 2 := by simp at h2; omega
        simp only [w_tstC, w_cmpC, w_valC, w_locC, envGet_zero, envGet_succ, wO_some, hin, cmp_nin, Option.map_some, truth_bl]
        refine wB.mk (fun h3 => ?_) (fun h3 => ?_)
        · have h3 : (r.map shareS).any Option.isNone = false := by simpa using h3
          rw [if_pos ⟨h2, h3⟩] at hR
          simp [bTuple_lst hm, bin_add_tup, h2, ← hR, optL, kp''.trans kp3]
        · have h3 : (r.map shareS).any Option.isNone = true := by simpa using h3
          rw [if_neg (fun z => by rw [h3] at z; exact Bool.noConfusion z.2)] at hR
          simp [← hR, optL, kp''.trans kp3]
      · have h2 : ¬ r.length = 2 := by simp at h2; omega
        rw [if_neg (fun z => h2 z.1)] at hR
        exact ⟨by rw [← hR]; rfl, kp''.trans kp3⟩
    · simpa using h1
  intro e h3 z; obtain ⟨rfl, rfl, hmv⟩ := z
  rw [if_neg hmv] at hR
  refine wS_mid (fun e h3 => ∃ l, e = [some (.str w), some (.ref k), some (.tup [.str n, .str u, .str a]), some (.ref m), none, none, some (.ref l)] ∧ Keep [] h2 h3 ∧ h3[l]? = some (.lst (r.map fun x => optI (numS x)))) ?_ ?_
  · simp [iterOf_lst Wm.at_]
    refine w_map (ms := []) r MV.str (fun x => optI (numS x)) (Its.lst Wm.at_ (by simp)) (by omega) (fun x h3 hx kp => ?_) fun h3 kp => ?_
    · refine ⟨_, rfl, ?_⟩
      simp
      exact whole_ok x (by have := (Wm.ok x hx).2; omega) (Wm.ok x hx).1
    · simp
      exact ⟨by omega, kp.push _⟩
  intro e h3 z; obtain ⟨l, rfl, kp3, hm⟩ := z
  have W3 := W2.keep0 kp3
  have kp3' := kp''.trans kp3
  have hmo : (r.map fun x => optI (numS x)) = (r.map numS).map optI := by rw [List.map_map]; rfl
  have lay := lay_nums r
  rw [hmo] at hm hR
  have hin : inD h3 .non (.ref l) = some ((r.map numS).any Option.isNone) := by
    rw [inD_lst lay (by omega) (by rw [List.length_map, List.length_map]; omega) hm (Lay.non (n := 0)) (by omega), List.any_map]
    congr 2
    funext o
    exact isnone_optI o
  have hol : (r.map numS).length = r.length := List.length_map _
  generalize r.map numS = os at *
  refine wS_mid (fun e h4 => e = [some (.str w), some (.ref k), some (.tup [.str n, .str u, .str a]), some (.ref m), none, none, some (.ref l)] ∧ h3 = h4 ∧ os.any Option.isNone = false) ?_ ?_
  · simp only [w_iteS, w_tstC, w_cmpC, w_valC, w_locC, envGet_zero, envGet_succ, wO_some, hin, cmp_in, truth_bl]
    refine wB.mk (fun h2 => ?_) (fun h2 => ?_)
    · rw [if_pos h2] at hR
      exact ⟨by rw [← hR]; rfl, kp3'⟩
    · exact ⟨rfl, rfl, h2⟩
  intro e h4 z; obtain ⟨rfl, rfl, hno⟩ := z
  rw [if_neg (by rw [hno]; exact Bool.false_ne_true)] at hR
  have hos := optI_some hno
  generalize hz0 : nz (os.getD 0 none) = z0 at hR
  have h00 : ∀ h5 : MH, h5[l]? = some (.lst (os.map optI)) → 0 < os.length → item (.ref l) (.int 0) h5 = some (.int z0) := fun h3 e hn => by
    rw [item_lst e, atI_0, hos, List.getElem?_map, List.getElem?_map, List.getElem?_eq_getElem hn, ← hz0, List.getD_eq_getElem?_getD, List.getElem?_eq_getElem hn]
    rfl
  refine wS_mid (fun e h4 => e = [some (.str w), some (.ref k), some (.tup [.str n, .str u, .str a]), some (.ref m), none, none, some (.ref l)] ∧ h3 = h4 ∧ ¬ u = "turned") ?_ ?_
  · simp [item_lst W3.at_, eqD_str hu.okc asc_turned.okc]
    refine wB.mk (fun g1 => ?_) (fun g1 => ?_)
    · have g1 : u = "turned" := by simpa using g1
      rw [if_pos g1] at hR
      simp [lenX_lst hm]
      refine wB.mk (fun g2 => ?_) (fun g2 => ?_)
      · have g2 : os.length = 1 := by simp at g2; omega
        simp only [w_tstC, w_chnC, w_valC, w_itemC, w_locC, envGet_zero, envGet_succ, wO_some, h00 _ hm (by omega), cmp_le_int, truth_bl]
        refine wB.mk (fun g3 => ?_) (fun g3 => ?_)
        · have g3 := of_decide_eq_true g3
          refine wB.mk (fun g4 => ?_) (fun g4 => ?_)
          · have g4 := of_decide_eq_true g4
            rw [if_pos ⟨by omega, g3, g4⟩] at hR
            simp [← hR, bTuple_lst hm, bin_add_tup, g2, optL, kp3']
          · have g4 := of_decide_eq_false g4
            rw [if_neg (fun z => g4 z.2.2)] at hR
            simp [← hR, optL, kp3']
        · have g3 := of_decide_eq_false g3
          rw [if_neg (fun z => g3 z.2.1)] at hR
          simp [← hR, optL, kp3']
      · have g2 : ¬ os.length = 1 := by simp at g2; omega
        rw [if_neg (fun z => g2 (by omega))] at hR
        exact ⟨by rw [← hR]; rfl, kp3'⟩
    · simpa using g1
  intro e h4 z; obtain ⟨rfl, rfl, htu⟩ := z
  rw [if_neg htu] at hR
  refine wS_mid (fun e h4 => e = [some (.str w), some (.ref k), some (.tup [.str n, .str u, .str a]), some (.ref m), none, none, some (.ref l)] ∧ h3 = h4 ∧ sizeB u = true ∧ r.length = 3 ∧ 1 ≤ z0 ∧ z0 ≤ 4) ?_ ?_
  · have nope : (sizeB u = false ∨ r.length ≠ 3 ∨ ¬ (1 ≤ z0 ∧ z0 ≤ 4)) → (MV.non = optL R ∧ Keep [] h h3) := fun z => by rw [if_pos z] at hR; rw [← hR]; exact ⟨rfl, kp3'⟩
    simp only [w_iteS, w_orT, w_notT, w_tstC, w_cmpC, w_valC, w_itemC, w_locC, envGet_zero, envGet_succ, wO_some, item_lst W3.at_, cmp_nin, w_tupC, w_consA, w_nilA]
    simp only [List.map_cons, atI_2, List.getElem?_cons_succ, List.getElem?_cons_zero, wO_some, in_two asc_lesser asc_zoomed hu, Option.map_some, truth_bl]
    refine ⟨by decide, wB.mk (fun g1 => ?_) (fun g1 => ?_)⟩
    · simp only [w_seq_ret, w_valC]
      exact nope (.inl (by simp [sizeB] at g1 ⊢; exact g1))
    · simp [lenX_lst hm]
      have g1 : sizeB u = true := by
        unfold sizeB
        cases q : ("lesser" : Str) == u || ("zoomed" : Str) == u with
        | true => rfl
        | false => rw [q] at g1; cases g1
      refine wB.mk (fun g2 => ?_) (fun g2 => ?_)
      · have g2 : ¬ os.length = 3 := by simp at g2; omega
        exact nope (.inr (.inl (by omega)))
      · have g2 : os.length = 3 := by simp at g2; omega
        simp only [w_tstC, w_chnC, w_valC, w_itemC, w_locC, envGet_zero, envGet_succ, wO_some, h00 _ hm (by omega), cmp_le_int, truth_bl]
        refine wB.mk (fun g3 => ?_) (fun g3 => ?_)
        · have g3 := of_decide_eq_true g3
          refine wB.mk (fun g4 => ?_) (fun g4 => ?_)
          · have g4 : ¬ z0 ≤ 4 := by simpa using g4
            exact nope (.inr (.inr fun z => g4 z.2))
          · have g4 : z0 ≤ 4 := by simpa using g4
            exact ⟨g1, by omega, g3, g4⟩
        · have g3 := of_decide_eq_false g3
          exact nope (.inr (.inr fun z => g3 z.1))
  intro e h4 z; obtain ⟨rfl, rfl, s1, s2, s3, s4⟩ := z
  rw [if_neg (fun z => by
    rcases z with z | z | z
    · rw [s1] at z; cases z
    · exact z s2
    · exact z ⟨s3, s4⟩)] at hR
  have hr3 : os.length = 3 := by omega
  simp [slice_lst hm, iterOf]
  have hc : cutM (os.map optI) (some 1) none = ((os.drop 1).map nz).map MV.int := by
    rw [hos]
    have := cutM_from (xs := (os.map nz).map MV.int) (n := 1)
    rw [← List.map_drop, ← List.map_drop] at this
    exact this
  refine w_map (ms := []) ((os.drop 1).map nz) MV.int (fun i => .bl (decide (0 ≤ i) && decide (i < z0))) (Its.lst (by simp [hc]) (by simp)) (by simp; omega) (fun i h2 hi kp2 => ?_) fun h2 kp2 => ?_
  · refine ⟨_, rfl, ?_⟩
    have hm2 := kp2.at ((Keep.app (ms := []) [.lst (cutM (os.map optI) (some 1) none)]).at hm (by simp)) (by simp)
    simp [h00 _ hm2 (by omega)]
    refine wB.mk (fun g3 => ?_) (fun g3 => ?_)
    · have := of_decide_eq_true g3
      simp [this, Keep.refl]
    · have := of_decide_eq_false g3
      simp [this, Keep.refl]
  · have kp3 := ((Keep.app (ms := []) (h := h3) [.lst (cutM (os.map optI) (some 1) none)]).trans kp2)
    have hLb : (((os.drop 1).map nz).map fun i => MV.bl (decide (0 ≤ i) && decide (i < z0))) = ((os.drop 1).map fun o => decide (0 ≤ nz o) && decide (nz o < z0)).map MV.bl := by simp [Function.comp_def]
    have hLl : (((os.drop 1).map nz).map fun i => MV.bl (decide (0 ≤ i) && decide (i < z0))).length = 2 := by simp; omega
    generalize (((os.drop 1).map nz).map fun i => MV.bl (decide (0 ≤ i) && decide (i < z0))) = L at hLb hLl ⊢
    have hm4 := (kp3.push [.lst L]).at hm (by simp)
    refine ⟨by omega, ?_⟩
    rw [bAll_lst (bs := (os.drop 1).map fun o => decide (0 ≤ nz o) && decide (nz o < z0)) (by rw [List.getElem?_concat_length, hLb]), all_map_id]
    simp only [wO_some, truth_bl]
    refine wB.mk (fun g3 => ?_) (fun g3 => ?_)
    · have g3 : ((os.drop 1).all fun o => decide (0 ≤ nz o) && decide (nz o < z0)) = true := by simpa using g3
      rw [if_pos g3] at hR
      simp [bTuple_lst hm4, bin_add_tup, hr3, optL, ← hR, kp3'.trans (kp3.push _)]
    · have g3 : ¬ ((os.drop 1).all fun o => decide (0 ≤ nz o) && decide (nz o < z0)) = true := by simpa using g3
      rw [if_neg g3] at hR
      exact ⟨by rw [← hR]; rfl, kp3'.trans (kp3.push _)⟩
end
end K82
end T_L6
section T_Sd1
set_option linter.all false
set_option maxRecDepth 100000
set_option maxHeartbeats 1000000
/-! Sd1: how the evaluator's values and heap stand to the abstract heap. -/
namespace Sd
open PySem PySem.Spec PyProof.Rows L2 Ev
/-- an exception object at a, of the class C, its own dict at d -/
def ExV (C d a : Addr) : HO := .ext fun h => ∃ (oe : Obj) (vs : Array Value), h.get? a = some oe ∧ Zc (.ref C) (some d) oe ∧ oe.data = .fields vs
/-- a list that nobody writes -/
def FrL (K : PySem.W.Frag) (H : Hp) (a : Addr) (vs : List V) : Prop := (∃ o, H a = some (.frz o (.lst vs))) ∨
  ∃ (o : Obj) (its : Array Value) (n : Nat), K.lookup a = some o ∧ o.cls = .type "list" ∧ o.dict = none ∧ o.data = .seq its n ∧ its.size ≤ sizeLine ∧ Vals vs its.toList
theorem FrL.sq {K : PySem.W.Frag} {H : Hp} {a : Addr} {vs : List V} (f : FrL K H a vs) : SqL K H a vs := by
  rcases f with ⟨o, q⟩ | q
  · exact .inl (.inr ⟨o, q⟩)
  · exact .inr q
mutual
inductive RV (K : PySem.W.Frag) (ca : Str → Addr) (ρ : List Addr) (H : Hp) : MV → V → Prop where
  | non : RV K ca ρ H .non .non
  | bl (b : Bool) : RV K ca ρ H (.bl b) (.bl b)
  | int (i : Int) : RV K ca ρ H (.int i) (.int i)
  | str (x : Str) : RV K ca ρ H (.str x) (.str x)
  | tup {xs : List MV} {vs : List V} {a : Addr} : SqT K H a vs → RVs K ca ρ H xs vs → RV K ca ρ H (.tup xs) (.ref a)
  | ref {n : Nat} {a : Addr} : ρ[n]? = some a → RV K ca ρ H (.ref n) (.ref a)
  | exc {c : Str} {x : MV} {a d : Addr} {v : V} : H a = some (ExV (ca c) d a) → H d = some (.xd [((Str.ofString "value"), v)]) → RV K ca ρ H x v → RV K ca ρ H (.exc c x) (.ref a)
  | frz {ns : List Int} {a : Addr} : FrL K H a (ns.map V.int) → RV K ca ρ H (.frz ns) (.ref a)
inductive RVs (K : PySem.W.Frag) (ca : Str → Addr) (ρ : List Addr) (H : Hp) : List MV → List V → Prop where
  | nil : RVs K ca ρ H [] []
  | cons {x : MV} {v : V} {xs : List MV} {vs : List V} : RV K ca ρ H x v → RVs K ca ρ H xs vs → RVs K ca ρ H (x :: xs) (v :: vs)
end
/-- a dict's entries -/
abbrev RKs (K : PySem.W.Frag) (ca : Str → Addr) (ρ : List Addr) (H : Hp) : List (Key × MV) → List (Key × V) → Prop :=
  Paired fun p q => p.1 = q.1 ∧ RV K ca ρ H p.2 q.2
/-- an instance's attributes -/
abbrev RFs (K : PySem.W.Frag) (ca : Str → Addr) (ρ : List Addr) (H : Hp) : List (Str × MV) → List (Str × V) → Prop :=
  Paired fun p q => p.1 = q.1 ∧ RV K ca ρ H p.2 q.2
inductive RO (K : PySem.W.Frag) (ca : Str → Addr) (ρ : List Addr) (H : Hp) : MO → HO → Prop where
  | lst {xs : List MV} {vs : List V} : RVs K ca ρ H xs vs → RO K ca ρ H (.lst xs) (.lst vs)
  | dic {ps : List (Key × MV)} {qs : List (Key × V)} : RKs K ca ρ H ps qs → RO K ca ρ H (.dic ps) (.dK qs)
  | ins {c : Str} {fs : List (Str × MV)} {gs : List (Str × V)} {dx : Addr} : RFs K ca ρ H fs gs → RO K ca ρ H (.ins c fs) (.ins (ca c) dx gs)
/-- an object that may be written by the program -/
def Kd : HO → Prop
  | .lst _ => True
  | .dK _ => True
  | .ins _ _ _ => True
  | _ => False
theorem RO.kd {K : PySem.W.Frag} {ca : Str → Addr} {ρ : List Addr} {H : Hp} {o : MO} {u : HO} (r : RO K ca ρ H o u) : Kd u := by cases r <;> trivial
structure Sim (K : PySem.W.Frag) (ca : Str → Addr) (ρ : List Addr) (h : MH) (H : Hp) : Prop where
  len : ρ.length = h.length
  nd : ρ.Nodup
  at_ : ∀ (n : Nat) (o : MO), h[n]? = some o → ∃ a u, ρ[n]? = some a ∧ H a = some u ∧ RO K ca ρ H o u
structure Grow (ρ : List Addr) (H : Hp) (ρ' : List Addr) (H' : Hp) : Prop where
  pre : ∃ e, ρ' = ρ ++ e
  keep : ∀ a o, H a = some o → a ∉ ρ → H' a = some o
  fresh : ∀ a, a ∈ ρ' → a ∉ ρ → H a = none
section
variable {K : PySem.W.Frag} {ca : Str → Addr} {ρ ρ' ρ'' : List Addr} {h h' : MH} {H H' H'' : Hp}
theorem Grow.refl : Grow ρ H ρ H := ⟨⟨[], by simp⟩, fun _ _ e _ => e, fun _ h1 h2 => absurd h1 h2⟩
theorem Grow.trans (a : Grow ρ H ρ' H') (b : Grow ρ' H' ρ'' H'') : Grow ρ H ρ'' H'' := by
  obtain ⟨e1, rfl⟩ := a.pre
  obtain ⟨e2, rfl⟩ := b.pre
  refine ⟨⟨e1 ++ e2, by simp⟩, fun p o e hn => ?_, fun p hp hn => ?_⟩
  · have h1 := a.keep p o e hn
    refine b.keep p o h1 fun hm => ?_
    have := a.fresh p hm hn
    rw [this] at e
    cases e
  · by_cases hm : p ∈ ρ ++ e1
    · exact a.fresh p hm hn
    · have h2 := b.fresh p hp hm
      cases q : H p with
      | none => rfl
      | some o =>
        have := a.keep p o q hn
        rw [this] at h2
        cases h2
theorem Grow.ix (g : Grow ρ H ρ' H') {n : Nat} {a : Addr} (e : ρ[n]? = some a) : ρ'[n]? = some a := by
  obtain ⟨e1, rfl⟩ := g.pre
  obtain ⟨hl, _⟩ := List.getElem?_eq_some_iff.mp e
  rw [List.getElem?_append_left hl]
  exact e
/-- all that is tracked stays -/
theorem Grow.ext (k : ∀ a o, H a = some o → H' a = some o) : Grow ρ H ρ H' := ⟨⟨[], by simp⟩, fun a o e _ => k a o e, fun _ h1 h2 => absurd h1 h2⟩
theorem Sim.kd (S : Sim K ca ρ h H) {a : Addr} (ha : a ∈ ρ) : ∃ u, H a = some u ∧ Kd u := by
  obtain ⟨n, hn⟩ := List.mem_iff_getElem?.mp ha
  obtain ⟨hl, _⟩ := List.getElem?_eq_some_iff.mp hn
  have hl' : n < h.length := by rw [← S.len]; exact hl
  obtain ⟨a', u, h1, h2, h3⟩ := S.at_ n h[n] (List.getElem?_eq_getElem hl')
  rw [hn] at h1
  cases h1
  exact ⟨u, h2, h3.kd⟩
theorem Sim.off (S : Sim K ca ρ h H) {a : Addr} {u : HO} (e : H a = some u) (k : ¬ Kd u) : a ∉ ρ := fun hm => by
  obtain ⟨u', h1, h2⟩ := S.kd hm
  rw [e] at h1
  cases h1
  exact k h2
theorem Sim.new (S : Sim K ca ρ h H) {p : Addr} (e : H p = none) : p ∉ ρ := fun hm => by
  obtain ⟨u', h1, h2⟩ := S.kd hm
  rw [e] at h1
  cases h1
/-- what may be read as a tuple stays so -/
theorem Grow.sqT (S : Sim K ca ρ h H) (g : Grow ρ H ρ' H') {a : Addr} {vs : List V} (q : SqT K H a vs) : SqT K H' a vs := by
  rcases q with (q | ⟨o, q⟩) | q
  · exact .inl (.inl (g.keep a _ q (S.off q fun z => z)))
  · exact .inl (.inr ⟨o, g.keep a _ q (S.off q fun z => z)⟩)
  · exact .inr q
theorem Grow.frL (S : Sim K ca ρ h H) (g : Grow ρ H ρ' H') {a : Addr} {vs : List V} (q : FrL K H a vs) : FrL K H' a vs := by
  rcases q with ⟨o, q⟩ | q
  · exact .inl ⟨o, g.keep a _ q (S.off q fun z => z)⟩
  · exact .inr q
mutual
theorem RV.mono (S : Sim K ca ρ h H) (g : Grow ρ H ρ' H') : ∀ {x : MV} {v : V}, RV K ca ρ H x v → RV K ca ρ' H' x v
  | _, _, .non => .non
  | _, _, .bl b => .bl b
  | _, _, .int i => .int i
  | _, _, .str x => .str x
  | _, _, .tup q r => .tup (g.sqT S q) (RVs.mono S g r)
  | _, _, .ref e => .ref (g.ix e)
  | _, _, .exc h1 h2 r => .exc (g.keep _ _ h1 (S.off h1 fun z => z)) (g.keep _ _ h2 (S.off h2 fun z => z)) (RV.mono S g r)
  | _, _, .frz q => .frz (g.frL S q)
theorem RVs.mono (S : Sim K ca ρ h H) (g : Grow ρ H ρ' H') : ∀ {xs : List MV} {vs : List V}, RVs K ca ρ H xs vs → RVs K ca ρ' H' xs vs
  | _, _, .nil => .nil
  | _, _, .cons r rs => .cons (RV.mono S g r) (RVs.mono S g rs)
end
theorem RKs.mono (S : Sim K ca ρ h H) (g : Grow ρ H ρ' H') {α : Type} {ps : List (α × MV)} {qs : List (α × V)} (r : Paired (fun p q => p.1 = q.1 ∧ RV K ca ρ H p.2 q.2) ps qs) :
    Paired (fun (p : α × MV) (q : α × V) => p.1 = q.1 ∧ RV K ca ρ' H' p.2 q.2) ps qs := L2.Paired.mapP r fun _ _ z => ⟨z.1, z.2.mono S g⟩
theorem RO.mono (S : Sim K ca ρ h H) (g : Grow ρ H ρ' H') {o : MO} {u : HO} (r : RO K ca ρ H o u) : RO K ca ρ' H' o u := by
  cases r with
  | lst r => exact .lst (r.mono S g)
  | dic r => exact .dic (RKs.mono S g r)
  | ins r => exact .ins (RKs.mono S g r)
/-- all that is tracked stays -/
theorem Sim.ext (S : Sim K ca ρ h H) (k : ∀ a o, H a = some o → H' a = some o) : Sim K ca ρ h H' := by
  refine ⟨S.len, S.nd, fun n o e => ?_⟩
  obtain ⟨a, u, h1, h2, h3⟩ := S.at_ n o e
  exact ⟨a, u, h1, k a u h2, h3.mono S (Grow.ext k)⟩
theorem ext_new {p : Addr} {o : HO} (hp : H p = none) : ∀ a u, H a = some u → upd H p o a = some u := fun a u e => by
  rw [upd_ne (ne_of_none e hp)]
  exact e
/-- a new object of the program's -/
theorem Sim.alloc (S : Sim K ca ρ h H) {p : Addr} {o : MO} {u : HO} (hp : H p = none) (r : RO K ca ρ H o u) : Sim K ca (ρ ++ [p]) (h ++ [o]) (upd H p u) ∧ Grow ρ H (ρ ++ [p]) (upd H p u) := by
  have hn : p ∉ ρ := S.new hp
  have g : Grow ρ H (ρ ++ [p]) (upd H p u) := ⟨⟨[p], rfl⟩, fun a x e _ => ext_new hp a x e, fun a ha hna => by
    rcases List.mem_append.mp ha with z | z
    · exact absurd z hna
    · rw [List.mem_singleton.mp z]; exact hp⟩
  refine ⟨⟨by simp [S.len], ?_, fun n x e => ?_⟩, g⟩
  · rw [List.nodup_append]
    refine ⟨S.nd, by simp, fun a ha b hb => ?_⟩
    rw [List.mem_singleton.mp hb]
    exact fun z => hn (z ▸ ha)
  · by_cases hl : n < h.length
    · rw [List.getElem?_append_left hl] at e
      obtain ⟨a, v, h1, h2, h3⟩ := S.at_ n x e
      exact ⟨a, v, g.ix h1, ext_new hp a v h2, h3.mono S g⟩
    · have hl2 : n = h.length := by
        have := (List.getElem?_eq_some_iff.mp e).1
        rw [List.length_append, List.length_singleton] at this
        omega
      subst hl2
      rw [List.getElem?_append_right (Nat.le_refl _), Nat.sub_self] at e
      have e2 : o = x := Option.some.inj e
      subst e2
      refine ⟨p, u, ?_, upd_same, r.mono S g⟩
      rw [← S.len, List.getElem?_append_right (Nat.le_refl _), Nat.sub_self]
      rfl
/-- an object of the program's is written -/
theorem Sim.write (S : Sim K ca ρ h H) {n : Nat} {a : Addr} {o : MO} {u : HO} (e : ρ[n]? = some a) (r : RO K ca ρ H o u) : Sim K ca ρ (h.set n o) (upd H a u) ∧ Grow ρ H ρ (upd H a u) := by
  have ha : a ∈ ρ := List.mem_of_getElem? e
  have g : Grow ρ H ρ (upd H a u) := ⟨⟨[], by simp⟩, fun b x e1 hb => by
    rw [upd_ne (show b ≠ a from fun z => hb (by rw [z]; exact ha))]
    exact e1, fun _ h1 h2 => absurd h1 h2⟩
  refine ⟨⟨by simp [S.len], S.nd, fun m x e1 => ?_⟩, g⟩
  by_cases hm : n = m
  · subst hm
    have hl : n < h.length := by
      have := (List.getElem?_eq_some_iff.mp e1).1
      rw [List.length_set] at this
      exact this
    rw [List.getElem?_set_self hl] at e1
    cases e1
    exact ⟨a, u, e, upd_same, r.mono S g⟩
  · rw [List.getElem?_set_ne hm] at e1
    obtain ⟨b, v, h1, h2, h3⟩ := S.at_ m x e1
    refine ⟨b, v, h1, ?_, h3.mono S g⟩
    rw [upd_ne]
    · exact h2
    · intro z
      subst z
      obtain ⟨l1, q1⟩ := List.getElem?_eq_some_iff.mp e
      obtain ⟨l2, q2⟩ := List.getElem?_eq_some_iff.mp h1
      exact hm ((List.getElem_inj S.nd).mp (q1.trans q2.symm))
/-- a tuple, laid anew -/
theorem Sim.tupd (S : Sim K ca ρ h H) {p : Addr} {u : HO} (hp : H p = none) : Sim K ca ρ h (upd H p u) ∧ Grow ρ H ρ (upd H p u) := ⟨S.ext (ext_new hp), Grow.ext (ext_new hp)⟩
theorem RVs.length : ∀ {xs : List MV} {vs : List V}, RVs K ca ρ H xs vs → xs.length = vs.length
  | _, _, .nil => rfl
  | _, _, .cons _ rs => congrArg Nat.succ (RVs.length rs)
theorem RVs.append : ∀ {xs ys : List MV} {vs us : List V}, RVs K ca ρ H xs vs → RVs K ca ρ H ys us → RVs K ca ρ H (xs ++ ys) (vs ++ us)
  | _, _, _, _, .nil, q => q
  | _, _, _, _, .cons r rs, q => .cons r (RVs.append rs q)
theorem RVs.get : ∀ {xs : List MV} {vs : List V} {i : Nat} {x : MV}, RVs K ca ρ H xs vs → xs[i]? = some x → ∃ v, vs[i]? = some v ∧ RV K ca ρ H x v
  | _, _, _, _, .nil, e => by simp at e
  | _, _, 0, _, .cons r _, e => by
    simp at e
    subst e
    exact ⟨_, rfl, r⟩
  | _, _, i + 1, _, .cons _ rs, e => by
    obtain ⟨v, h1, h2⟩ := RVs.get (i := i) rs (by simpa using e)
    exact ⟨v, by simpa using h1, h2⟩
theorem RVs.take : ∀ {xs : List MV} {vs : List V} (n : Nat), RVs K ca ρ H xs vs → RVs K ca ρ H (xs.take n) (vs.take n)
  | _, _, 0, _ => .nil
  | _, _, _ + 1, .nil => .nil
  | _, _, n + 1, .cons r rs => .cons r (RVs.take n rs)
theorem RVs.drop : ∀ {xs : List MV} {vs : List V} (n : Nat), RVs K ca ρ H xs vs → RVs K ca ρ H (xs.drop n) (vs.drop n)
  | _, _, 0, r => r
  | _, _, _ + 1, .nil => .nil
  | _, _, n + 1, .cons _ rs => RVs.drop n rs
theorem RVs.set {x : MV} {v : V} (r : RV K ca ρ H x v) : ∀ {xs : List MV} {vs : List V} (i : Nat), RVs K ca ρ H xs vs → RVs K ca ρ H (xs.set i x) (vs.set i v)
  | _, _, _, .nil => .nil
  | _, _, 0, .cons _ rs => .cons r rs
  | _, _, i + 1, .cons q rs => .cons q (RVs.set r i rs)
theorem RVs.erase : ∀ {xs : List MV} {vs : List V} (i : Nat), RVs K ca ρ H xs vs → RVs K ca ρ H (xs.eraseIdx i) (vs.eraseIdx i)
  | _, _, _, .nil => .nil
  | _, _, 0, .cons _ rs => rs
  | _, _, i + 1, .cons q rs => .cons q (RVs.erase i rs)
theorem RVs.rep {xs : List MV} {vs : List V} (r : RVs K ca ρ H xs vs) : ∀ n : Nat, RVs K ca ρ H (List.replicate n xs).flatten (List.replicate n vs).flatten
  | 0 => .nil
  | n + 1 => by
    rw [List.replicate_succ, List.replicate_succ, List.flatten_cons, List.flatten_cons]
    exact r.append (RVs.rep r n)
/-- lists of one kind of flat values -/
theorem RVs.ints : ∀ {xs : List MV} {vs : List V} {ns : List Int}, RVs K ca ρ H xs vs → allM intV xs = some ns → vs = ns.map V.int
  | _, _, ns, .nil, e => by
    cases e
    rfl
  | x :: xs, _, ns, .cons r rs, e => by
    unfold allM at e
    cases r with
    | int i =>
      cases q : allM intV xs with
      | none => rw [q] at e; cases e
      | some ms =>
        rw [q] at e
        cases e
        rw [RVs.ints rs q]
        rfl
    | _ => cases e
theorem RVs.strs : ∀ {xs : List MV} {vs : List V} {ns : List Str}, RVs K ca ρ H xs vs → allM strV xs = some ns → vs = ns.map V.str
  | _, _, ns, .nil, e => by
    cases e
    rfl
  | x :: xs, _, ns, .cons r rs, e => by
    unfold allM at e
    cases r with
    | str i =>
      cases q : allM strV xs with
      | none => rw [q] at e; cases e
      | some ms =>
        rw [q] at e
        cases e
        rw [RVs.strs rs q]
        rfl
    | _ => cases e
theorem RVs.bls : ∀ {xs : List MV} {vs : List V} {ns : List Bool}, RVs K ca ρ H xs vs → allM blV xs = some ns → vs = ns.map V.bl
  | _, _, ns, .nil, e => by
    cases e
    rfl
  | x :: xs, _, ns, .cons r rs, e => by
    unfold allM at e
    cases r with
    | bl i =>
      cases q : allM blV xs with
      | none => rw [q] at e; cases e
      | some ms =>
        rw [q] at e
        cases e
        rw [RVs.bls rs q]
        rfl
    | _ => cases e
theorem RVs.ofStrs : ∀ ns : List Str, RVs K ca ρ H (ns.map MV.str) (ns.map V.str)
  | [] => .nil
  | x :: r => .cons (.str x) (RVs.ofStrs r)
theorem RVs.ofInts : ∀ ns : List Int, RVs K ca ρ H (ns.map MV.int) (ns.map V.int)
  | [] => .nil
  | x :: r => .cons (.int x) (RVs.ofInts r)
end
end Sd
end T_Sd1
section T_Sd2
set_option linter.all false
set_option maxRecDepth 100000
set_option maxHeartbeats 1000000
/-! Sd2: operators on values. -/
namespace Sd
open PySem PySem.Spec PyProof.Rows L2 Ev
section
variable {K : PySem.W.Frag} {ca : Str → Addr} {ρ ρ' : List Addr} {h h' : MH} {H H' : Hp} {x y z : MV} {u v t : V}
theorem Sim.lst (S : Sim K ca ρ h H) {n : Nat} {xs : List MV} {a : Addr} (e : h[n]? = some (.lst xs)) (r : ρ[n]? = some a) : ∃ vs, H a = some (.lst vs) ∧ RVs K ca ρ H xs vs := by
  obtain ⟨b, w, h1, h2, h3⟩ := S.at_ n _ e
  rw [r] at h1
  cases h1
  cases h3 with
  | lst q => exact ⟨_, h2, q⟩
theorem Sim.dic (S : Sim K ca ρ h H) {n : Nat} {ps : List (Key × MV)} {a : Addr} (e : h[n]? = some (.dic ps)) (r : ρ[n]? = some a) : ∃ qs, H a = some (.dK qs) ∧ RKs K ca ρ H ps qs := by
  obtain ⟨b, w, h1, h2, h3⟩ := S.at_ n _ e
  rw [r] at h1
  cases h1
  cases h3 with
  | dic q => exact ⟨_, h2, q⟩
theorem Sim.ins (S : Sim K ca ρ h H) {n : Nat} {c : Str} {fs : List (Str × MV)} {a : Addr} (e : h[n]? = some (.ins c fs)) (r : ρ[n]? = some a) : ∃ dx gs, H a = some (.ins (ca c) dx gs) ∧ RFs K ca ρ H fs gs := by
  obtain ⟨b, w, h1, h2, h3⟩ := S.at_ n _ e
  rw [r] at h1
  cases h1
  cases h3 with
  | ins q => exact ⟨_, _, h2, q⟩
mutual
theorem toD_dp (S : Sim K ca ρ h H) : ∀ (n : Nat) {x : MV} {v : V} {d : PyData}, RV K ca ρ H x v → toD h n x = some d → Dp K H v d
  | 0, _, _, _, _, e => by simp [toD] at e
  | n + 1, _, _, d, .non, e => by simp [toD] at e; subst e; exact .non
  | n + 1, _, _, d, .bl b, e => by simp [toD] at e; subst e; exact .bl b
  | n + 1, _, _, d, .int i, e => by simp [toD] at e; subst e; exact .int i
  | n + 1, _, _, d, .str y, e => by simp [toD] at e; subst e; exact .str y
  | n + 1, _, _, d, .tup (xs := xs) q r, e => by
    simp only [toD] at e
    cases k : toDs h n xs with
    | none => rw [k] at e; cases e
    | some ds =>
      rw [k] at e
      cases e
      exact .tup q (toDs_dp S n r k)
  | n + 1, _, _, d, .ref (n := m) r, e => by
    simp only [toD] at e
    split at e
    · rename_i xs hx
      obtain ⟨vs, h1, h2⟩ := S.lst hx r
      cases k : toDs h n xs with
      | none => rw [k] at e; cases e
      | some ds =>
        rw [k] at e
        cases e
        exact .lst (SqL.of h1) (toDs_dp S n h2 k)
    · cases e
  | n + 1, _, _, d, .exc _ _ _, e => by simp [toD] at e
  | n + 1, _, _, d, .frz _, e => by simp [toD] at e
theorem toDs_dp (S : Sim K ca ρ h H) : ∀ (n : Nat) {xs : List MV} {vs : List V} {ds : List PyData}, RVs K ca ρ H xs vs → toDs h n xs = some ds → DpAll K H vs ds
  | 0, _, _, _, _, e => by simp [toDs] at e
  | n + 1, _, _, ds, .nil, e => by simp [toDs] at e; subst e; exact .nil
  | n + 1, _, _, ds, .cons (x := x) (xs := xs) r rs, e => by
    simp only [toDs] at e
    cases k : toD h n x with
    | none => rw [k] at e; cases e
    | some d =>
      rw [k] at e
      dsimp only at e
      cases k2 : toDs h n xs with
      | none => rw [k2] at e; cases e
      | some es =>
        rw [k2] at e
        cases e
        exact .cons (toD_dp S n r k) (toDs_dp S n rs k2)
end
theorem lst?_ref {h : MH} {n : Nat} {xs : List MV} (e : lst? h (.ref n) = some xs) : h[n]? = some (.lst xs) := by
  simp only [lst?] at e
  split at e
  · rename_i ys hx
    cases e
    exact hx
  · cases e
theorem lst?_ok (S : Sim K ca ρ h H) {xs : List MV} (r : RV K ca ρ H x v) (e : lst? h x = some xs) : ∃ a vs, v = .ref a ∧ H a = some (.lst vs) ∧ RVs K ca ρ H xs vs := by
  cases r with
  | ref q =>
    obtain ⟨vs, h1, h2⟩ := S.lst (lst?_ref e) q
    exact ⟨_, vs, rfl, h1, h2⟩
  | _ => simp [lst?] at e
theorem seq?_ok (S : Sim K ca ρ h H) {xs : List MV} (r : RV K ca ρ H x v) (e : seq? h x = some xs) : ∃ a vs, v = .ref a ∧ (SqL K H a vs ∨ SqT K H a vs) ∧ RVs K ca ρ H xs vs := by
  cases r with
  | ref q =>
    obtain ⟨vs, h1, h2⟩ := S.lst (lst?_ref e) q
    exact ⟨_, vs, rfl, .inl (SqL.of h1), h2⟩
  | tup q rs =>
    simp only [seq?] at e
    cases e
    exact ⟨_, _, rfl, .inr q, rs⟩
  | _ => simp [seq?] at e
/-! ### what a value's end must bear -/
/-- behind an operation that gives z in the heap h' -/
def End (K : PySem.W.Frag) (ca : Str → Addr) (ρ : List Addr) (H : Hp) (z : MV) (h' : MH) (Q : VK) : Prop :=
  ∀ ρ' H' u, Grow ρ H ρ' H' → Sim K ca ρ' h' H' → RV K ca ρ' H' z u → Q u H'
theorem End.here {Q : VK} (q : End K ca ρ H z h Q) (S : Sim K ca ρ h H) (r : RV K ca ρ H z v) : Q v H := q ρ H v Grow.refl S r
theorem End.new {Q : VK} {o : MO} {w : HO} (q : End K ca ρ H (.ref h.length) (h ++ [o]) Q) (S : Sim K ca ρ h H) (r : RO K ca ρ H o w) {p : Addr} (hp : H p = none) : Q (.ref p) (upd H p w) := by
  obtain ⟨S2, g⟩ := S.alloc hp r
  refine q _ _ _ g S2 (.ref ?_)
  rw [← S.len, List.getElem?_append_right (Nat.le_refl _), Nat.sub_self]
  rfl
theorem End.tup {Q : VK} {xs : List MV} {vs : List V} (q : End K ca ρ H (.tup xs) h Q) (S : Sim K ca ρ h H) (r : RVs K ca ρ H xs vs) {p : Addr} (hp : H p = none) : Q (.ref p) (upd H p (.tup vs)) := by
  obtain ⟨S2, g⟩ := S.tupd (u := .tup vs) hp
  exact q _ _ _ g S2 (.tup (SqT.of upd_same) (r.mono S g))
end
/-! ### a op b -/
section
variable {X : Cx}
def rPowX : R2 := rI (fun i j => 0 ≤ j ∧ (Builtin.Int.intBits i : Int) * j ≤ 2 ^ 27) fun i j => .int (i ^ j.toNat)
theorem op_powX : OpR X (binaryOp .Pow) rPowX := opI fun _ _ _ _ _ _ _ hc q => pow_int hc.1 hc.2 q
def rNo : R2 := fun _ _ _ _ => False
theorem op_no {f : Value → Value → Sem Value} : OpR X f rNo := fun _ _ _ _ _ _ _ _ _ _ _ _ z => z.elim
/-- all operators that are read -/
def rBin (K : PySem.W.Frag) : Operator → R2
  | .Add => fun x y H Q => (fun x y H Q => rI0 (fun i j => .int (i + j)) x y H Q ∨ (∃ i j : Str, x = .str i ∧ y = .str j ∧ i.length + j.length ≤ sizeLine ∧ Q (.str (i ++ j)) H)) x y H Q ∨ (fun x y H Q => rCat x y H Q ∨ rCatA K x y H Q) x y H Q
  | .Sub => rI0 fun i j => .int (i - j)
  | .Mult => fun x y H Q => rI CMulW (fun i j => .int (i * j)) x y H Q ∨ rRep x y H Q
  | .FloorDiv => rI CDivN fun i j => .int (i.fdiv j)
  | .Mod => rI (fun _ j => j ≠ 0) fun i j => .int (i.fmod j)
  | .Pow => rPowX
  | _ => rNo
theorem op_bin : ∀ op : Operator, OpR X (binaryOp op) (rBin X.K op)
  | .Add => (op_add.or op_add_str).or (op_cat.or op_catA)
  | .Sub => op_sub
  | .Mult => op_mulW.or op_rep
  | .FloorDiv => op_fdivN
  | .Mod => op_modN
  | .Pow => op_powX
  | .MatMult | .Div | .LShift | .RShift | .BitOr | .BitXor | .BitAnd => op_no
end
section
variable {K : PySem.W.Frag} {ca : Str → Addr} {ρ ρ' : List Addr} {h h' : MH} {H H' : Hp} {x y z : MV} {u v t : V}
theorem bin_ok (S : Sim K ca ρ h H) (rx : RV K ca ρ H x u) (ry : RV K ca ρ H y v) (op : Operator) (e : binop op x y h = some (z, h')) {Q : VK} (q : End K ca ρ H z h' Q) : rBin K op u v H Q := by
  unfold binop at e
  split at e
  · cases rx; cases ry; cases e
    exact .inl (.inl ⟨_, _, rfl, rfl, q.here S (.int _)⟩)
  · cases rx; cases ry; cases e
    exact ⟨_, _, rfl, rfl, q.here S (.int _)⟩
  · cases rx; cases ry
    split at e
    · rename_i hc
      cases e
      exact .inl ⟨_, _, rfl, rfl, hc, q.here S (.int _)⟩
    · cases e
  · cases rx; cases ry
    split at e
    · rename_i hc
      cases e
      exact ⟨_, _, rfl, rfl, hc, q.here S (.int _)⟩
    · cases e
  · cases rx; cases ry
    split at e
    · rename_i hc
      cases e
      exact ⟨_, _, rfl, rfl, hc, q.here S (.int _)⟩
    · cases e
  · cases rx; cases ry
    split at e
    · rename_i hc
      cases e
      exact ⟨_, _, rfl, rfl, hc, q.here S (.int _)⟩
    · cases e
  · cases rx; cases ry
    split at e
    · rename_i hc
      cases e
      exact .inl (.inr ⟨_, _, rfl, rfl, hc, q.here S (.str _)⟩)
    · cases e
  · cases rx with
    | tup qa ra =>
      cases ry with
      | tup qb rb =>
        split at e
        · rename_i a b hc
          cases e
          refine .inr (.inr ⟨_, _, _, _, rfl, rfl, qa, qb, by rw [← ra.length, ← rb.length]; exact hc, fun z => ?_, fun _ z => ?_, fun _ _ p hp => ?_⟩)
          · subst z
            cases ra
            exact q.here S (.tup qb rb)
          · subst z
            cases rb
            rw [List.append_nil] at q
            exact q.here S (.tup qa ra)
          · exact q.tup S (ra.append rb) hp
        · cases e
  · split at e
    · rename_i a b xs ys ha hb
      split at e
      · rename_i hc
        cases e
        obtain ⟨pa, va, rfl, h1, r1⟩ := lst?_ok S rx ha
        obtain ⟨pb, vb, rfl, h2, r2⟩ := lst?_ok S ry hb
        exact .inr (.inl ⟨_, _, _, _, rfl, rfl, h1, h2, by rw [← r1.length, ← r2.length]; exact hc, fun p hp => q.new S (.lst (r1.append r2)) hp⟩)
      · cases e
    · cases e
  · split at e
    · rename_i a k xs ha
      split at e
      · rename_i hc
        cases e
        obtain ⟨pa, va, rfl, h1, r1⟩ := lst?_ok S rx ha
        cases ry
        exact .inr ⟨_, _, _, rfl, rfl, h1, hc.1, hc.2.1, by rw [← r1.length]; exact hc.2.2, fun p hp => q.new S (.lst (r1.rep _)) hp⟩
      · cases e
    · cases e
  · cases e
end
end Sd
/-! ### comparisons -/
namespace Sd
open PySem PySem.Spec PyProof.Rows L2 Ev
section
variable {X : Cx}
def rDIn (n : Bool) : R2 := fun x y H Q => ∃ a o, y = .ref a ∧ DGet H a x o ∧ Q (.bl (if n then !o.isSome else o.isSome)) H
theorem op_dIn (hu : X.A.units + 1 < cLine) : OpR X (compareOp .In) (rDIn false) := by
  intro pins s σ H x y v u Q I rx ry h
  obtain ⟨a, o, e, g, q⟩ := h
  subst e
  cases ry
  exact d_in hu I g rx fun s' I' => ⟨.bl _, H, I', rfl, q⟩
theorem op_dNotIn (hu : X.A.units + 1 < cLine) : OpR X (compareOp .NotIn) (rDIn true) := by
  intro pins s σ H x y v u Q I rx ry h
  obtain ⟨a, o, e, g, q⟩ := h
  subst e
  cases ry
  exact d_notIn hu I g rx fun s' I' => ⟨.bl _, H, I', rfl, q⟩
def rInT (K : PySem.W.Frag) (n : Bool) : R2 := fun x y H Q => ∃ d ds, Dp K H x d ∧ Dp K H y (.tuple ds) ∧ SeqAt.shaped d = true ∧ SeqAt.shaped (.tuple ds) = true ∧
  Q (.bl (if n then !(ds.any fun z => PyData.eqv z d) else ds.any fun z => PyData.eqv z d)) H
theorem depth_min {d : PyData} {ds : List PyData} (sd : SeqAt.shaped d = true) {n : Nat} (hu : n + 65 < cLine) : n + 1 + min (PyData.depthAll ds) d.depth < cLine := by
  have q : d.depth ≤ 64 := by
    have z : (d.canLay0 && decide (d.depth ≤ 64)) = true := sd
    rw [Bool.and_eq_true] at z
    exact of_decide_eq_true z.2
  omega
theorem op_inT (hu : X.A.units + 65 < cLine) : OpR X (compareOp .In) (rInT X.K false) := by
  intro pins s σ H x y v u Q I rx ry h
  obtain ⟨d, ds, hd, hs, sd, ss, q⟩ := h
  obtain ⟨as, ra⟩ := Dp.reads I d x v hd rx
  obtain ⟨bs, rb⟩ := Dp.reads I (.tuple ds) y u hs ry
  refine SeqAt.in_tuple_reads rb ra ?_ (SeqAt.canLay_of_shaped sd) (depth_min sd hu) ⟨.bl _, H, I, rfl, q⟩
  exact SeqAt.canLay_of_shaped ss
theorem op_notInT (hu : X.A.units + 65 < cLine) : OpR X (compareOp .NotIn) (rInT X.K true) := by
  intro pins s σ H x y v u Q I rx ry h
  obtain ⟨d, ds, hd, hs, sd, ss, q⟩ := h
  obtain ⟨as, ra⟩ := Dp.reads I d x v hd rx
  obtain ⟨bs, rb⟩ := Dp.reads I (.tuple ds) y u hs ry
  refine SeqAt.notIn_tuple_reads rb ra ?_ (SeqAt.canLay_of_shaped sd) (depth_min sd hu) ⟨.bl _, H, I, rfl, q⟩
  exact SeqAt.canLay_of_shaped ss
def rSg (n : Bool) : R2 := fun x y H Q => ∃ (c : Nat) (z : Str), x = .str ⟨#[c]⟩ ∧ y = .str z ∧ Q (.bl (if n then !decide (c ∈ z.cps.toList) else decide (c ∈ z.cps.toList))) H
def rSt (n : Bool) : R2 := fun x y H Q => ∃ i j : Str, x = .str i ∧ y = .str j ∧ Q (.bl (if n then !(!(Builtin.Str.occurrences j i 0 j.length 1).isEmpty) else !(Builtin.Str.occurrences j i 0 j.length 1).isEmpty)) H
def rLs (K : PySem.W.Frag) (n : Bool) : R2 := fun x y H Q => ∃ d ds, Dp K H x d ∧ Dp K H y (.list ds) ∧ SeqAt.shaped d = true ∧ SeqAt.shaped (.list ds) = true ∧
  Q (.bl (if n then !(ds.any fun z => PyData.eqv z d) else ds.any fun z => PyData.eqv z d)) H
/-- in, not in -/
def rInX (K : PySem.W.Frag) (n : Bool) : R2 := fun x y H Q => (fun x y H Q => rSg n x y H Q ∨ rSt n x y H Q) x y H Q ∨ (fun x y H Q => rDIn n x y H Q ∨ (fun x y H Q => rLs K n x y H Q ∨ rInT K n x y H Q) x y H Q) x y H Q
theorem op_inX (hu : X.A.units + 65 < cLine) : OpR X (compareOp .In) (rInX X.K false) :=
  (OpR.or (r := rSg false) (r' := rSt false) op_in_sign op_in_str).or ((op_dIn (by omega)).or (OpR.or (r := rLs X.K false) (op_inD hu) (op_inT hu)))
theorem op_notInX (hu : X.A.units + 65 < cLine) : OpR X (compareOp .NotIn) (rInX X.K true) :=
  (OpR.or (r := rSg true) (r' := rSt true) op_notIn_sign op_notin_str).or ((op_dNotIn (by omega)).or (OpR.or (r := rLs X.K true) (op_notInD hu) (op_notInT hu)))
def rIsX (n : Bool) : R2 := fun x y H Q => (y = .non ∧ Q (.bl (if n then !decide (x = .non) else decide (x = .non))) H) ∨ ∃ a b : Bool, x = .bl a ∧ y = .bl b ∧ Q (.bl (if n then !decide (a = b) else decide (a = b))) H
def rOrd (f : Int → Int → Bool) (g : List Nat → List Nat → Bool) : R2 := fun x y H Q => (∃ i j, x = .int i ∧ y = .int j ∧ Q (.bl (f i j)) H) ∨ ∃ i j : Str, x = .str i ∧ y = .str j ∧ Q (.bl (g i.cps.toList j.cps.toList)) H
def rCmp (K : PySem.W.Frag) : CmpOp → R2
  | .Eq => rEqD K
  | .NotEq => rNeD K
  | .Lt => rOrd (fun i j => decide (i < j)) fun a b => decide (a < b)
  | .LtE => rOrd (fun i j => decide (i ≤ j)) fun a b => !decide (b < a)
  | .Gt => rOrd (fun i j => decide (j < i)) fun a b => decide (b < a)
  | .GtE => rOrd (fun i j => decide (j ≤ i)) fun a b => !decide (a < b)
  | .Is => rIsX false
  | .IsNot => rIsX true
  | .In => rInX K false
  | .NotIn => rInX K true
theorem op_cmp (hu : X.A.units + 65 < cLine) : ∀ op : CmpOp, OpR X (compareOp op) (rCmp X.K op)
  | .Eq => op_eqD (by omega)
  | .NotEq => op_neD (by omega)
  | .Lt => OpR.or op_lt op_lt_str
  | .LtE => OpR.or op_le op_le_str
  | .Gt => OpR.or op_gt op_gt_str
  | .GtE => OpR.or op_ge op_ge_str
  | .Is => OpR.or op_isN op_is_bl
  | .IsNot => OpR.or op_notN op_isnot_bl
  | .In => op_inX hu
  | .NotIn => op_notInX hu
end
section
variable {K : PySem.W.Frag} {ca : Str → Addr} {ρ ρ' : List Addr} {h h' : MH} {H H' : Hp} {x y z : MV} {u v t : V}
theorem key_ok {k : Key} (r : RV K ca ρ H x u) (e : key? x = some k) : u = kV k := by
  cases r with
  | int i => cases e; rfl
  | str s => cases e; rfl
  | _ => cases e
theorem look_ok {k : Key} : ∀ {ps : List (Key × MV)} {qs : List (Key × V)}, RKs K ca ρ H ps qs → (∀ m, lookK k ps = some m → ∃ w, valV qs k = some w ∧ RV K ca ρ H m w) ∧ (lookK k ps = none → valV qs k = none)
  | _, _, .nil => ⟨fun m e => (by cases e), fun _ => rfl⟩
  | (j, m) :: ps, (j', w) :: qs, .cons ⟨e, r⟩ rs => by
    obtain ⟨i1, i2⟩ := look_ok (k := k) rs
    have e : j = j' := e
    subst e
    by_cases hj : j = k
    · refine ⟨fun m' e' => ?_, fun e' => ?_⟩
      · simp only [lookK, if_pos hj] at e'
        cases e'
        exact ⟨w, by rw [valV_pos (p := (j, w)) hj], r⟩
      · simp only [lookK, if_pos hj] at e'
        cases e'
    · refine ⟨fun m' e' => ?_, fun e' => ?_⟩
      · simp only [lookK, if_neg hj] at e'
        rw [valV_neg (p := (j, w)) hj]
        exact i1 m' e'
      · simp only [lookK, if_neg hj] at e'
        rw [valV_neg (p := (j, w)) hj]
        exact i2 e'
theorem look_isSome {k : Key} {ps : List (Key × MV)} {qs : List (Key × V)} (r : RKs K ca ρ H ps qs) : (valV qs k).isSome = (lookK k ps).isSome := by
  obtain ⟨i1, i2⟩ := look_ok (k := k) r
  cases e : lookK k ps with
  | none => rw [i2 e]; rfl
  | some m =>
    obtain ⟨w, h1, _⟩ := i1 m e
    rw [h1]
    rfl
theorem eqD_ok (S : Sim K ca ρ h H) (rx : RV K ca ρ H x u) (ry : RV K ca ρ H y v) {b : Bool} (e : eqD h x y = some b) : ∃ d f, Dp K H u d ∧ Dp K H v f ∧ SeqAt.shaped d = true ∧ SeqAt.shaped f = true ∧ b = PyData.eqv d f := by
  unfold eqD at e
  split at e
  · rename_i d f h1 h2
    split at e
    · rename_i hc
      cases e
      rw [Bool.and_eq_true] at hc
      exact ⟨d, f, toD_dp S _ rx h1, toD_dp S _ ry h2, hc.1, hc.2, rfl⟩
    · cases e
  · cases e
theorem one_sign {a : Str} (h1 : a.length = 1) : a = ⟨#[a.cps.getD 0 0]⟩ := by
  obtain ⟨⟨l⟩⟩ := a
  match l, h1 with
  | [c], _ => rfl
theorem inD_ok (S : Sim K ca ρ h H) (rx : RV K ca ρ H x u) (ry : RV K ca ρ H y v) {b : Bool} (n : Bool) (e : inD h x y = some b) {Q : VK} (q : Q (.bl (if n then !b else b)) H) : rInX K n u v H Q := by
  unfold inD at e
  split at e
  · cases ry
    split at e
    · cases rx
      split at e
      · rename_i h1
        cases e
        exact .inl (.inl ⟨_, _, congrArg V.str (one_sign h1), rfl, q⟩)
      · cases e
        exact .inl (.inr ⟨_, _, rfl, rfl, q⟩)
    · cases e
  · cases ry with
    | ref qr =>
      split at e
      · rename_i kvs hk
        obtain ⟨qs, h1, h2⟩ := S.dic hk qr
        split at e
        · rename_i j hj
          cases e
          refine .inr (.inl ⟨_, valV qs j, rfl, ?_, ?_⟩)
          · rw [key_ok rx hj]
            exact DGet.k h1
          · rw [look_isSome h2]
            exact q
        · cases e
      · rename_i xs hk
        obtain ⟨vs, h1, h2⟩ := S.lst hk qr
        split at e
        · rename_i d ds hd hs
          split at e
          · rename_i hc
            cases e
            rw [Bool.and_eq_true] at hc
            exact .inr (.inr (.inl ⟨d, ds, toD_dp S _ rx hd, .lst (SqL.of h1) (toDs_dp S _ h2 hs), hc.1, hc.2, q⟩))
          · cases e
        · cases e
      · cases e
  · cases ry with
    | tup qt rs =>
      split at e
      · rename_i d ds hd hs
        split at e
        · rename_i hc
          cases e
          rw [Bool.and_eq_true] at hc
          exact .inr (.inr (.inr ⟨d, ds, toD_dp S _ rx hd, .tup qt (toDs_dp S _ rs hs), hc.1, hc.2, q⟩))
        · cases e
      · cases e
  · cases e
theorem map_some {α β : Type} {f : α → β} {o : Option α} {b : β} (e : o.map f = some b) : ∃ a, o = some a ∧ f a = b := Option.map_eq_some_iff.mp e
def isNonM : MV → Bool
  | .non => true
  | _ => false
theorem rv_non (r : RV K ca ρ H x u) : decide (u = .non) = isNonM x := by
  cases r <;> rfl
theorem cmp_ok (S : Sim K ca ρ h H) (rx : RV K ca ρ H x u) (ry : RV K ca ρ H y v) (op : CmpOp) {b : Bool} (e : cmp op x y h = some b) {Q : VK} (q : Q (.bl b) H) : rCmp K op u v H Q := by
  cases op with
  | Eq =>
    obtain ⟨d, f, h1, h2, h3, h4, h5⟩ := eqD_ok S rx ry (show eqD h x y = some b from e)
    subst h5
    exact ⟨d, f, h1, h2, h3, h4, q⟩
  | NotEq =>
    obtain ⟨c, e1, e2⟩ := map_some (show (eqD h x y).map (!·) = some b from e)
    obtain ⟨d, f, h1, h2, h3, h4, h5⟩ := eqD_ok S rx ry e1
    subst h5 e2
    exact ⟨d, f, h1, h2, h3, h4, q⟩
  | In => exact inD_ok S rx ry false (show inD h x y = some b from e) q
  | NotIn =>
    obtain ⟨c, e1, e2⟩ := map_some (show (inD h x y).map (!·) = some b from e)
    subst e2
    exact inD_ok S rx ry true e1 q
  | Is =>
    simp only [cmp] at e
    split at e
    · cases ry
      cases e
      refine .inl ⟨rfl, ?_⟩
      show Q (.bl (decide (u = .non))) H
      rw [rv_non rx]
      revert q
      cases x <;> exact fun q => q
    · cases rx; cases ry; cases e
      exact .inr ⟨_, _, rfl, rfl, q⟩
    · cases e
  | IsNot =>
    simp only [cmp] at e
    split at e
    · cases ry
      cases e
      refine .inl ⟨rfl, ?_⟩
      show Q (.bl (!decide (u = .non))) H
      rw [rv_non rx]
      revert q
      cases x <;> exact fun q => q
    · cases rx; cases ry; cases e
      exact .inr ⟨_, _, rfl, rfl, q⟩
    · cases e
  | Lt =>
    simp only [cmp] at e
    split at e
    · cases rx; cases ry; cases e
      exact .inl ⟨_, _, rfl, rfl, q⟩
    · cases rx; cases ry; cases e
      exact .inr ⟨_, _, rfl, rfl, q⟩
    · cases e
  | LtE =>
    simp only [cmp] at e
    split at e
    · cases rx; cases ry; cases e
      exact .inl ⟨_, _, rfl, rfl, q⟩
    · cases rx; cases ry; cases e
      exact .inr ⟨_, _, rfl, rfl, q⟩
    · cases e
  | Gt =>
    simp only [cmp] at e
    split at e
    · cases rx; cases ry; cases e
      exact .inl ⟨_, _, rfl, rfl, q⟩
    · cases rx; cases ry; cases e
      exact .inr ⟨_, _, rfl, rfl, q⟩
    · cases e
  | GtE =>
    simp only [cmp] at e
    split at e
    · cases rx; cases ry; cases e
      exact .inl ⟨_, _, rfl, rfl, q⟩
    · cases rx; cases ry; cases e
      exact .inr ⟨_, _, rfl, rfl, q⟩
    · cases e
/-! ### truth -/
theorem empty_RVs {xs : List MV} {vs : List V} (r : RVs K ca ρ H xs vs) : (!xs.isEmpty) = !vs.isEmpty := by cases r <;> rfl
theorem truth_ok (S : Sim K ca ρ h H) (r : RV K ca ρ H x u) {b : Bool} (e : truth h x = some b) : TruV K u H b := by
  cases r with
  | non => cases e; exact rfl
  | bl c => cases e; exact rfl
  | int i => cases e; exact rfl
  | str s =>
    simp only [truth] at e
    split at e
    · rename_i hl
      cases e
      refine ⟨hl, ?_⟩
      by_cases z : s.length = 0
      · rw [z]; rfl
      · have z2 : ((s.length : Nat) : Int) ≠ 0 := by omega
        rw [bne_iff_ne.mpr z, bne_iff_ne.mpr z2]
    · cases e
  | tup q rs =>
    cases e
    exact .inr (.inl ⟨_, q, empty_RVs rs⟩)
  | ref q =>
    simp only [truth] at e
    split at e
    · rename_i xs hx
      cases e
      obtain ⟨vs, h1, h2⟩ := S.lst hx q
      exact .inl ⟨_, SqL.of h1, empty_RVs h2⟩
    · rename_i kvs hx
      cases e
      obtain ⟨qs, h1, h2⟩ := S.dic hx q
      refine .inr (.inr ⟨_, h1, ?_⟩)
      cases h2 <;> rfl
    · cases e
  | exc _ _ _ => cases e
  | frz _ => cases e
end
end Sd
end T_Sd2
section T_Sd3
set_option linter.all false
set_option maxRecDepth 100000
set_option maxHeartbeats 1000000
/-! Sd3: built-ins, methods of built-in types, items, slices. -/
namespace Sd
open PySem PySem.Spec PyProof.Rows L2 Ev
section
variable {X : Cx}
/-! ### repr -/
mutual
theorem noDict : ∀ {K : PySem.W.Frag} {H : Hp} {v : V} {d : PyData}, Dp K H v d → d.hasDict = false
  | _, _, _, _, .non => by simp [PyData.hasDict]
  | _, _, _, _, .bl b => by simp [PyData.hasDict]
  | _, _, _, _, .int i => by simp [PyData.hasDict]
  | _, _, _, _, .str x => by simp [PyData.hasDict]
  | _, _, _, _, .lst q r => by simp [PyData.hasDict, noDicts r]
  | _, _, _, _, .tup q r => by simp [PyData.hasDict, noDicts r]
theorem noDicts : ∀ {K : PySem.W.Frag} {H : Hp} {vs : List V} {ds : List PyData}, DpAll K H vs ds → PyData.hasDictAll ds = false
  | _, _, _, _, .nil => by simp [PyData.hasDictAll]
  | _, _, _, _, .cons r rs => by simp [PyData.hasDictAll, noDict r, noDicts rs]
end
def rRepr (K : PySem.W.Frag) : List V → Hp → VK → Prop := fun xs H Q => ∃ x d, xs = [x] ∧ Dp K H x d ∧ d.showable = true ∧ d.depth ≤ 64 ∧ d.shown.length ≤ sizeLine ∧ Q (.str d.shown) H
theorem call_reprD (hg : X.A.guards = some []) (hu : X.A.units + 70 < cLine) : CallR X (.builtin "repr") (rRepr X.K) := by
  intro pins s σ H xs us Q I r h
  obtain ⟨x, d, rfl, hd, hs, hdp, hsz, q⟩ := h
  obtain ⟨u, rfl, ru⟩ := vals1 r
  have hno := noDict hd
  obtain ⟨as, rd⟩ := Dp.reads I d x u hd ru
  cases hd with
  | non =>
    cases ru
    exact PySem.P.repr_of_none ⟨.str _, H, I.tok _, ⟨_, rfl⟩, q⟩
  | bl b =>
    cases ru
    exact PySem.P.repr_of_bool ⟨.str _, H, I.tok _, ⟨_, rfl⟩, q⟩
  | int i =>
    obtain ⟨t, rfl⟩ := ru
    exact PySem.P.repr_of_int (by simpa [PyData.showable] using hs) ⟨.str _, H, I.tok _, ⟨_, rfl⟩, q⟩
  | str y =>
    obtain ⟨t, rfl⟩ := ru
    exact PySem.P.repr_of_str ⟨.str _, H, I.tok _, ⟨_, rfl⟩, q⟩ hsz
  | lst q1 q2 =>
    cases ru
    refine PySem.repr_of_reads' rd hs (fun z => by rw [hno] at z; cases z) hg (by omega) (fun _ _ e => e) (fun h' u tk k => ?_) hsz
    exact ⟨.str _, H, I.kept k, ⟨_, rfl⟩, q⟩
  | tup q1 q2 =>
    cases ru
    refine PySem.repr_of_reads' rd hs (fun z => by rw [hno] at z; cases z) hg (by omega) (fun _ _ e => e) (fun h' u tk k => ?_) hsz
    exact ⟨.str _, H, I.kept k, ⟨_, rfl⟩, q⟩
end
/-! ### sorted texts -/
theorem str_ext {a b : Str} (h : a.cps.toList = b.cps.toList) : a = b := by
  obtain ⟨⟨a⟩⟩ := a
  obtain ⟨⟨b⟩⟩ := b
  simp at h
  subst h
  rfl
theorem lt_tri (a b : List Nat) : a < b ∨ a = b ∨ b < a := by
  rcases Decidable.em (a < b) with h | h
  · exact .inl h
  · rcases Decidable.em (b < a) with h2 | h2
    · exact .inr (.inr h2)
    · exact .inr (.inl (List.le_antisymm (List.not_lt.mp h2) (List.not_lt.mp h)))
theorem insA_perm (x : Str) : ∀ l : List Str, (insA x l).Perm (x :: l)
  | [] => List.Perm.refl _
  | y :: r => by
    unfold insA
    split
    · exact List.Perm.refl _
    · exact ((insA_perm x r).cons y).trans (List.Perm.swap x y r)
def leS (a b : Str) : Prop := ¬ b.cps.toList < a.cps.toList
theorem insA_sorted (x : Str) : ∀ {l : List Str}, l.Pairwise leS → (insA x l).Pairwise leS
  | [], _ => by simp [insA]
  | y :: r, h => by
    obtain ⟨h1, h2⟩ := List.pairwise_cons.mp h
    unfold insA
    split
    · rename_i hlt
      refine List.pairwise_cons.mpr ⟨fun z hz => ?_, h⟩
      rcases List.mem_cons.mp hz with e | hz
      · subst e
        exact fun q => List.lt_irrefl _ (List.lt_trans hlt q)
      · exact fun q => h1 z hz (List.lt_trans q hlt)
    · rename_i hlt
      refine List.pairwise_cons.mpr ⟨fun z hz => ?_, insA_sorted x h2⟩
      rcases List.mem_cons.mp ((insA_perm x r).mem_iff.mp hz) with e | hz
      · subst e
        exact hlt
      · exact h1 z hz
theorem foldA (l : List Str) : ∀ acc : List Str, acc.Pairwise leS → (l.foldl (fun a x => insA x a) acc).Pairwise leS ∧ (l.foldl (fun a x => insA x a) acc).Perm (l ++ acc) := by
  induction l with
  | nil => exact fun acc h => ⟨h, List.Perm.refl _⟩
  | cons x l ih =>
    intro acc h
    obtain ⟨h1, h2⟩ := ih (insA x acc) (insA_sorted x h)
    refine ⟨h1, h2.trans ?_⟩
    exact ((insA_perm x acc).append_left l).trans (List.perm_middle)
theorem sortAll_ok (l : List Str) : (sortAll l).Pairwise leS ∧ (sortAll l).Perm l := by
  obtain ⟨h1, h2⟩ := foldA l [] List.Pairwise.nil
  rw [List.append_nil] at h2
  exact ⟨h1, h2⟩
theorem leS_antisymm {a b : Str} (h1 : leS a b) (h2 : leS b a) : a = b := by
  rcases lt_tri a.cps.toList b.cps.toList with h | h | h
  · exact absurd h h2
  · exact str_ext h
  · exact absurd h h1
theorem sorted_unique {l l' : List Str} (h1 : l.Pairwise leS) (h2 : l'.Pairwise leS) (p : l.Perm l') : l = l' :=
  p.eq_of_pairwise (fun a b _ _ h1 h2 => leS_antisymm h1 h2) h1 h2
end Sd
end T_Sd3
section T_Sd4
set_option linter.all false
set_option maxRecDepth 100000
set_option maxHeartbeats 1000000
/-! Sd4: built-ins by the evaluator's answers. -/
namespace Sd
open PySem PySem.Spec PyProof.Rows L2 Ev
/-- a built-in's reading by the evaluator's answer -/
def rB (K : PySem.W.Frag) (ca : Str → Addr) (fn : BF) : List V → Hp → VK → Prop := fun us H Q =>
  ∃ ρ h args z h', Sim K ca ρ h H ∧ RVs K ca ρ H args us ∧ fn args h = some (z, h') ∧ End K ca ρ H z h' Q
section
variable {K : PySem.W.Frag} {ca : Str → Addr} {ρ : List Addr} {h : MH} {H : Hp}
theorem RVs.one {x : MV} {us : List V} (r : RVs K ca ρ H [x] us) : ∃ u, us = [u] ∧ RV K ca ρ H x u := by
  cases r with
  | cons r rs =>
    cases rs
    exact ⟨_, rfl, r⟩
theorem RVs.two {x y : MV} {us : List V} (r : RVs K ca ρ H [x, y] us) : ∃ u v, us = [u, v] ∧ RV K ca ρ H x u ∧ RV K ca ρ H y v := by
  cases r with
  | cons r rs =>
    obtain ⟨v, rfl, rv⟩ := RVs.one rs
    exact ⟨_, _, rfl, r, rv⟩
theorem RV.int_ {i : Int} {u : V} (r : RV K ca ρ H (.int i) u) : u = .int i := by cases r; rfl
theorem RV.str_ {i : Str} {u : V} (r : RV K ca ρ H (.str i) u) : u = .str i := by cases r; rfl
theorem RV.bl_ {i : Bool} {u : V} (r : RV K ca ρ H (.bl i) u) : u = .bl i := by cases r; rfl
theorem leS_iff {a b : Str} : leS a b ↔ ltCps b.cps.toList a.cps.toList = false := by
  unfold leS
  rw [ltCps_eq]
  simp
theorem rising_leS : ∀ (l : List Str) (p : Str), risingS p l = true → ∀ x ∈ l, leS p x
  | [], _, _, x, hx => by cases hx
  | y :: r, p, h, x, hx => by
    have h : (!ltCps y.cps.toList p.cps.toList && risingS y r) = true := h
    rw [Bool.and_eq_true] at h
    have h1 : leS p y := leS_iff.mpr (by simpa using h.1)
    rcases List.mem_cons.mp hx with e | hx
    · subst e
      exact h1
    · have h2 := rising_leS r y h.2 x hx
      unfold leS at *
      intro z
      rcases lt_tri y.cps.toList p.cps.toList with q | q | q
      · exact h1 q
      · exact h2 (by rw [q]; exact z)
      · exact h2 (List.lt_trans z q)
theorem pairwise_of_rising : ∀ (l : List Str) (p : Str), risingS p l = true → l.Pairwise leS
  | [], _, _ => .nil
  | y :: r, p, h => by
    have h : (!ltCps y.cps.toList p.cps.toList && risingS y r) = true := h
    rw [Bool.and_eq_true] at h
    exact List.pairwise_cons.mpr ⟨fun x hx => rising_leS r y h.2 x hx, pairwise_of_rising r y h.2⟩
theorem pairwise_of_sortedS : ∀ (l : List Str), sortedS l = true → l.Pairwise leS
  | [], _ => .nil
  | y :: r, h => List.pairwise_cons.mpr ⟨fun x hx => rising_leS r y h x hx, pairwise_of_rising r y h⟩
theorem sortAll_is {l ys : List Str} (p : ys.Perm l) (h : sortedS ys = true) : ys = sortAll l := by
  obtain ⟨h1, h2⟩ := sortAll_ok l
  exact sorted_unique (pairwise_of_sortedS ys h) h1 (p.trans h2.symm)
end
section
variable {X : Cx} {ca : Str → Addr}
theorem b_len : CallR X (.builtin "len") (rB X.K ca bLen) := by
  intro pins s σ H xs us Q I r hq
  obtain ⟨ρ, h, args, z, h', S, ra, e, q⟩ := hq
  unfold bLen at e
  split at e
  · obtain ⟨u, rfl, ru⟩ := ra.one
    split at e
    · rename_i hl
      cases e
      cases ru
      exact call_len_str pins s σ H _ us Q I r ⟨_, rfl, hl, q.here S (.int _)⟩
    · cases e
  · obtain ⟨u, rfl, ru⟩ := ra.one
    cases e
    cases ru with
    | tup qt rs =>
      refine call_len_seq pins s σ H _ us Q I r ⟨_, _, rfl, .inr qt, ?_⟩
      rw [← rs.length]
      exact q.here S (.int _)
  · obtain ⟨u, rfl, ru⟩ := ra.one
    cases e
    cases ru with
    | frz qf =>
      refine call_len_seq pins s σ H _ us Q I r ⟨_, _, rfl, .inl qf.sq, ?_⟩
      rw [List.length_map]
      exact q.here S (.int _)
  · obtain ⟨u, rfl, ru⟩ := ra.one
    cases ru with
    | ref qr =>
      split at e
      · rename_i ys hy
        cases e
        obtain ⟨vs, h1, h2⟩ := S.lst hy qr
        refine call_len_seq pins s σ H _ us Q I r ⟨_, _, rfl, .inl (SqL.of h1), ?_⟩
        rw [← h2.length]
        exact q.here S (.int _)
      · rename_i ys hy
        cases e
        obtain ⟨vs, h1, h2⟩ := S.dic hy qr
        refine call_lenD pins s σ H _ us Q I r ⟨_, _, rfl, h1, ?_⟩
        rw [← Paired.length h2]
        exact q.here S (.int _)
      · cases e
  · cases e
theorem b_all (hc : X.calm = true) : CallR X (.builtin "all") (rB X.K ca bAll) := by
  intro pins s σ H xs us Q I r hq
  obtain ⟨ρ, h, args, z, h', S, ra, e, q⟩ := hq
  unfold bAll at e
  split at e
  · obtain ⟨u, rfl, ru⟩ := ra.one
    split at e
    · rename_i ys hy
      obtain ⟨bs, h1, h2⟩ := map_some e
      cases h2
      obtain ⟨a, vs, rfl, h3, h4⟩ := lst?_ok S ru hy
      exact cr_all hc pins s σ H _ us Q I r ⟨_, bs, rfl, SqL.of (by rw [← h4.bls h1]; exact h3), q.here S (.bl _)⟩
    · cases e
  · cases e
theorem b_any (hc : X.calm = true) : CallR X (.builtin "any") (rB X.K ca bAny) := by
  intro pins s σ H xs us Q I r hq
  obtain ⟨ρ, h, args, z, h', S, ra, e, q⟩ := hq
  unfold bAny at e
  split at e
  · obtain ⟨u, rfl, ru⟩ := ra.one
    split at e
    · rename_i ys hy
      obtain ⟨bs, h1, h2⟩ := map_some e
      cases h2
      obtain ⟨a, vs, rfl, h3, h4⟩ := lst?_ok S ru hy
      exact cr_any hc pins s σ H _ us Q I r ⟨_, bs, rfl, SqL.of (by rw [← h4.bls h1]; exact h3), q.here S (.bl _)⟩
    · cases e
  · cases e
theorem b_sum (hc : X.calm = true) : CallR X (.builtin "sum") (rB X.K ca bSum) := by
  intro pins s σ H xs us Q I r hq
  obtain ⟨ρ, h, args, z, h', S, ra, e, q⟩ := hq
  unfold bSum at e
  split at e
  · obtain ⟨u, rfl, ru⟩ := ra.one
    split at e
    · rename_i ys hy
      obtain ⟨bs, h1, h2⟩ := map_some e
      cases h2
      obtain ⟨a, vs, rfl, h3, h4⟩ := lst?_ok S ru hy
      exact cr_sum hc pins s σ H _ us Q I r ⟨_, bs, rfl, SqL.of (by rw [← h4.ints h1]; exact h3), q.here S (.int _)⟩
    · cases e
  · cases e
theorem b_tuple : CallR X (.type "tuple") (rB X.K ca bTuple) := by
  intro pins s σ H xs us Q I r hq
  obtain ⟨ρ, h, args, z, h', S, ra, e, q⟩ := hq
  unfold bTuple at e
  split at e
  · obtain ⟨u, rfl, ru⟩ := ra.one
    obtain ⟨ys, h1, h2⟩ := map_some e
    cases h2
    obtain ⟨a, vs, rfl, h3, h4⟩ := seq?_ok S ru h1
    rcases h3 with h3 | h3
    · exact call_tuple_of pins s σ H _ us Q I r ⟨_, vs, rfl, .inl ⟨h3, fun l hl => q.tup S h4 hl⟩⟩
    · exact call_tuple_of pins s σ H _ us Q I r ⟨_, vs, rfl, .inr ⟨h3, q.here S (.tup h3 h4)⟩⟩
  · cases e
theorem b_list : CallR X (.type "list") (rB X.K ca bList) := by
  intro pins s σ H xs us Q I r hq
  obtain ⟨ρ, h, args, z, h', S, ra, e, q⟩ := hq
  unfold bList at e
  split at e
  · obtain ⟨u, rfl, ru⟩ := ra.one
    obtain ⟨ys, h1, h2⟩ := map_some e
    cases h2
    obtain ⟨a, vs, rfl, h3, h4⟩ := seq?_ok S ru h1
    exact call_list_of pins s σ H _ us Q I r ⟨_, vs, rfl, h3, fun l hl => q.new S (.lst h4) hl⟩
  · cases e
theorem b_int : CallR X (.type "int") (rB X.K ca bInt) := by
  intro pins s σ H xs us Q I r hq
  obtain ⟨ρ, h, args, z, h', S, ra, e, q⟩ := hq
  unfold bInt at e
  split at e
  · obtain ⟨u, rfl, ru⟩ := ra.one
    cases e
    cases ru
    exact call_int1 pins s σ H _ us Q I r (.inl ⟨_, rfl, q.here S (.int _)⟩)
  · obtain ⟨u, rfl, ru⟩ := ra.one
    cases e
    cases ru
    exact call_int1 pins s σ H _ us Q I r (.inr ⟨_, rfl, q.here S (.int _)⟩)
  · obtain ⟨u, rfl, ru⟩ := ra.one
    split at e
    · rename_i hl
      obtain ⟨n, h1, h2⟩ := map_some e
      cases h2
      cases ru
      exact call_int_str pins s σ H _ us Q I r ⟨_, n, rfl, h1, hl, q.here S (.int _)⟩
    · cases e
  · cases e
theorem b_str : CallR X (.type "str") (rB X.K ca bStr) := by
  intro pins s σ H xs us Q I r hq
  obtain ⟨ρ, h, args, z, h', S, ra, e, q⟩ := hq
  unfold bStr at e
  split at e
  · obtain ⟨u, rfl, ru⟩ := ra.one
    split at e
    · rename_i hl
      cases e
      cases ru
      exact call_str_int pins s σ H _ us Q I r ⟨_, rfl, hl, q.here S (.str _)⟩
    · cases e
  · cases e
theorem b_abs : CallR X (.builtin "abs") (rB X.K ca bAbs) := by
  intro pins s σ H xs us Q I r hq
  obtain ⟨ρ, h, args, z, h', S, ra, e, q⟩ := hq
  unfold bAbs at e
  split at e
  · obtain ⟨u, rfl, ru⟩ := ra.one
    cases e
    cases ru
    exact call_abs pins s σ H _ us Q I r ⟨_, rfl, q.here S (.int _)⟩
  · cases e
theorem b_min (hc : X.calm = true) : CallR X (.builtin "min") (rB X.K ca bMin) := by
  intro pins s σ H xs us Q I r hq
  obtain ⟨ρ, h, args, z, h', S, ra, e, q⟩ := hq
  unfold bMin at e
  split at e
  · obtain ⟨u, v, rfl, ru, rv⟩ := ra.two
    cases e
    cases ru
    cases rv
    exact call_min2 hc pins s σ H _ us Q I r ⟨_, _, rfl, q.here S (.int _)⟩
  · cases e
theorem b_max (hc : X.calm = true) : CallR X (.builtin "max") (rB X.K ca bMax) := by
  intro pins s σ H xs us Q I r hq
  obtain ⟨ρ, h, args, z, h', S, ra, e, q⟩ := hq
  unfold bMax at e
  split at e
  · obtain ⟨u, v, rfl, ru, rv⟩ := ra.two
    cases e
    cases ru
    cases rv
    exact call_max2 hc pins s σ H _ us Q I r ⟨_, _, rfl, q.here S (.int _)⟩
  · cases e
theorem b_sorted : CallR X (.builtin "sorted") (rB X.K ca bSorted) := by
  intro pins s σ H xs us Q I r hq
  obtain ⟨ρ, h, args, z, h', S, ra, e, q⟩ := hq
  unfold bSorted at e
  split at e
  · obtain ⟨u, rfl, ru⟩ := ra.one
    split at e
    · rename_i ys hy
      split at e
      · rename_i hl
        obtain ⟨bs, h1, h2⟩ := map_some e
        cases h2
        obtain ⟨a, vs, rfl, h3, h4⟩ := lst?_ok S ru hy
        have e2 := h4.strs h1
        have hlen : bs.length < 64 := by
          have := h4.length
          rw [e2, List.length_map] at this
          omega
        refine cr_sortedS pins s σ H _ us Q I r ⟨_, bs, rfl, SqL.of (by rw [← e2]; exact h3), hlen, fun zs p h5 h6 hp => ?_⟩
        rw [sortAll_is h5 h6]
        exact q.new S (.lst (RVs.ofStrs _)) hp
      · cases e
    · cases e
  · cases e
theorem b_repr (hg : X.A.guards = some []) (hu : X.A.units + 70 < cLine) : CallR X (.builtin "repr") (rB X.K ca bRepr) := by
  intro pins s σ H xs us Q I r hq
  obtain ⟨ρ, h, args, z, h', S, ra, e, q⟩ := hq
  unfold bRepr at e
  split at e
  · obtain ⟨u, rfl, ru⟩ := ra.one
    split at e
    · rename_i d hd
      split at e
      · rename_i hl
        cases e
        rw [Bool.and_eq_true, Bool.and_eq_true, decide_eq_true_iff, decide_eq_true_iff] at hl
        exact call_reprD hg hu pins s σ H _ us Q I r ⟨_, d, rfl, toD_dp S _ ru hd, hl.1.1, hl.1.2, hl.2, q.here S (.str _)⟩
      · cases e
    · cases e
  · cases e
/-- every one of them -/
theorem blt_ok (hc : X.calm = true) (hg : X.A.guards = some []) (hu : X.A.units + 70 < cLine) {f : Str} {args : List MV} {h h' : MH} {z : MV} (e : bcall f args h = some (z, h')) :
    f ∈ bNames ∧ ∃ id : String, (bootBuiltins f = some (.builtin id) ∧ CallR X (.builtin id) (rB X.K ca (bcall f))) ∨ (bootBuiltins f = some (.type id) ∧ CallR X (.type id) (rB X.K ca (bcall f))) := by
  by_cases q0 : f = "len"
  · subst q0; exact ⟨by decide, "len", .inl ⟨by decide +kernel, b_len⟩⟩
  by_cases q1 : f = "all"
  · subst q1; exact ⟨by decide, "all", .inl ⟨by decide +kernel, b_all hc⟩⟩
  by_cases q2 : f = "any"
  · subst q2; exact ⟨by decide, "any", .inl ⟨by decide +kernel, b_any hc⟩⟩
  by_cases q3 : f = "tuple"
  · subst q3; exact ⟨by decide, "tuple", .inr ⟨by decide +kernel, b_tuple⟩⟩
  by_cases q4 : f = "list"
  · subst q4; exact ⟨by decide, "list", .inr ⟨by decide +kernel, b_list⟩⟩
  by_cases q5 : f = "int"
  · subst q5; exact ⟨by decide, "int", .inr ⟨by decide +kernel, b_int⟩⟩
  by_cases q6 : f = "str"
  · subst q6; exact ⟨by decide, "str", .inr ⟨by decide +kernel, b_str⟩⟩
  by_cases q7 : f = "abs"
  · subst q7; exact ⟨by decide, "abs", .inl ⟨by decide +kernel, b_abs⟩⟩
  by_cases q8 : f = "sum"
  · subst q8; exact ⟨by decide, "sum", .inl ⟨by decide +kernel, b_sum hc⟩⟩
  by_cases q9 : f = "min"
  · subst q9; exact ⟨by decide, "min", .inl ⟨by decide +kernel, b_min hc⟩⟩
  by_cases q10 : f = "max"
  · subst q10; exact ⟨by decide, "max", .inl ⟨by decide +kernel, b_max hc⟩⟩
  by_cases q11 : f = "sorted"
  · subst q11; exact ⟨by decide, "sorted", .inl ⟨by decide +kernel, b_sorted⟩⟩
  by_cases q12 : f = "repr"
  · subst q12; exact ⟨by decide, "repr", .inl ⟨by decide +kernel, b_repr hg hu⟩⟩
  unfold bcall at e
  rw [if_neg q0, if_neg q1, if_neg q2, if_neg q3, if_neg q4, if_neg q5, if_neg q6, if_neg q7, if_neg q8, if_neg q9, if_neg q10, if_neg q11, if_neg q12] at e
  cases e
end
end Sd
end T_Sd4
section T_Sd5
set_option linter.all false
set_option maxRecDepth 100000
set_option maxHeartbeats 1000000
/-! Sd5: items, slices, stores, methods of built-in types. -/
namespace Sd
open PySem PySem.Spec PyProof.Rows L2 Ev
section
variable {K : PySem.W.Frag} {ca : Str → Addr} {ρ : List Addr} {h h' : MH} {H : Hp} {x y z : MV} {u v t : V}
/-! ### x[i] -/
def rIxDk : R2 := fun x y H Q => ∃ a w, x = .ref a ∧ DGet H a y (some w) ∧ Q w H
def rIt (K : PySem.W.Frag) : R2 := fun x y H Q => rIx K x y H Q ∨ rIxDk x y H Q
theorem RVs.atI {xs : List MV} {vs : List V} {i : Int} (r : RVs K ca ρ H xs vs) (e : L2.atI xs i = some x) : ∃ w, L2.atI vs i = some w ∧ RV K ca ρ H x w := by
  unfold L2.atI at e ⊢
  rw [← r.length]
  cases q : ixN xs.length i with
  | none => rw [q] at e; cases e
  | some j =>
    rw [q] at e
    exact r.get e
theorem item_ok (S : Sim K ca ρ h H) (rx : RV K ca ρ H x u) (ry : RV K ca ρ H y v) (e : item x y h = some z) {Q : VK} (q : End K ca ρ H z h Q) : rIt K u v H Q := by
  unfold item at e
  split at e
  · cases rx; cases ry
    split at e
    · rename_i hl
      obtain ⟨c, h1, h2⟩ := map_some e
      cases h2
      exact .inl (.inr (.inr ⟨_, _, c, rfl, rfl, hl, h1, q.here S (.str _)⟩))
    · cases e
  · cases rx with
    | tup qt rs =>
      cases ry
      obtain ⟨w, h1, h2⟩ := rs.atI e
      exact .inl (.inr (.inl ⟨_, _, _, w, rfl, rfl, qt, h1, q.here S h2⟩))
  · cases rx with
    | frz qf =>
      cases ry
      obtain ⟨w, h1, h2⟩ := (RVs.ofInts _).atI e
      exact .inl (.inl ⟨_, _, _, w, rfl, rfl, qf.sq, h1, q.here S h2⟩)
  · cases rx with
    | ref qr =>
      split at e
      · rename_i xs hx
        obtain ⟨vs, h1, h2⟩ := S.lst hx qr
        split at e
        · cases ry
          obtain ⟨w, h3, h4⟩ := h2.atI e
          exact .inl (.inl ⟨_, _, _, w, rfl, rfl, SqL.of h1, h3, q.here S h4⟩)
        · cases e
      · rename_i kvs hx
        obtain ⟨qs, h1, h2⟩ := S.dic hx qr
        split at e
        · rename_i k hk
          obtain ⟨w, h3, h4⟩ := (look_ok (k := k) h2).1 _ e
          refine .inr ⟨_, w, rfl, ?_, q.here S h4⟩
          rw [key_ok ry hk, ← h3]
          exact DGet.k h1
        · cases e
      · cases e
  · cases e
theorem ix_dk {X : Cx} (hu : X.A.units + 1 < cLine) : IxR X rIxDk := by
  intro value slice pins s σ H x y v u Q I rx ry hq hs
  obtain ⟨a, w, rfl, g, q⟩ := hq
  cases rx
  exact tail_any (dict_typeIs I g) PySem.F.slot_dict_getitem.lookup (d_getItem hu I g ry fun w' s' I' r' => ⟨w, H, I', r', q⟩) hs
theorem ix_it {X : Cx} (hu : X.A.units + 1 < cLine) : IxR X (rIt X.K) := ix_seq.or (ix_dk hu)
/-! ### x[lo:hi] -/
def rSlc (K : PySem.W.Frag) : V → Option Int → Option Int → Hp → VK → Prop := fun x lo hi H Q => rSlL K x lo hi H Q ∨ (fun x lo hi H Q => rSlA K x lo hi H Q ∨ rSlS x lo hi H Q) x lo hi H Q
theorem sl_all {X : Cx} : SlR X (rSlc X.K) := sl_list.or (sl_tupA.or sl_str)
theorem RVs.cut {xs : List MV} {vs : List V} (r : RVs K ca ρ H xs vs) (lo hi : Option Int) : RVs K ca ρ H (cutM xs lo hi) (cutV vs lo hi) := by
  unfold cutM cutV
  rw [r.length]
  exact (r.drop _).take _
theorem slice_ok (S : Sim K ca ρ h H) (rx : RV K ca ρ H x u) (lo hi : Option Int) (e : slice x lo hi h = some (z, h')) {Q : VK} (q : End K ca ρ H z h' Q) : rSlc K u lo hi H Q := by
  unfold slice at e
  split at e
  · cases rx
    split at e
    · rename_i hl
      cases e
      exact .inr (.inr ⟨_, rfl, hl, q.here S (.str _)⟩)
    · cases e
  · cases e
    cases rx with
    | tup qt rs =>
      refine .inr (.inl ⟨_, _, rfl, qt, fun hw => ?_, fun _ p hp => q.tup S (rs.cut lo hi) hp⟩)
      refine q.here S (.tup qt ?_)
      unfold cutM
      rw [rs.length, hw.1, hw.2, List.drop_zero, Nat.sub_zero, ← rs.length, List.take_length]
      exact rs
  · cases e
    cases rx with
    | frz qf => exact .inl ⟨_, _, rfl, qf.sq, fun p hp => q.new S (.lst ((RVs.ofInts _).cut lo hi)) hp⟩
  · cases rx with
    | ref qr =>
      split at e
      · rename_i xs hx
        cases e
        obtain ⟨vs, h1, h2⟩ := S.lst hx qr
        exact .inl ⟨_, _, rfl, SqL.of h1, fun p hp => q.new S (.lst (h2.cut lo hi)) hp⟩
      · cases e
  · cases e
/-! ### x[i] = v -/
/-- behind a store -/
def EndH (K : PySem.W.Frag) (ca : Str → Addr) (ρ : List Addr) (H : Hp) (h' : MH) (Q : Hp → Prop) : Prop :=
  ∀ ρ' H', Grow ρ H ρ' H' → Sim K ca ρ' h' H' → Q H'
def rSet : V → V → V → Hp → (Hp → Prop) → Prop := fun o i v H Q => rSetL o i v H Q ∨ rSetD o i v H Q
theorem set_ok {X : Cx} (hu : X.A.units + 1 < cLine) : PSet X rSet := by
  intro pins s σ H o i v ov iv u Q I ro ri rv hq
  rcases hq with hq | hq
  · exact set_list pins s σ H o i v ov iv u Q I ro ri rv hq
  · exact set_dict hu pins s σ H o i v ov iv u Q I ro ri rv hq
theorem RKs.anyK {ps : List (Key × MV)} {qs : List (Key × V)} (k : Key) (r : RKs K ca ρ H ps qs) : (ps.any fun p => decide (p.1 = k)) = qs.any fun p => decide (p.1 = k) := by
  induction r with
  | nil => rfl
  | cons r _ ih => rw [List.any_cons, List.any_cons, ih, r.1]
theorem RKs.mapK {ps : List (Key × MV)} {qs : List (Key × V)} (k : Key) (rz : RV K ca ρ H z t) (r : RKs K ca ρ H ps qs) :
    RKs K ca ρ H (ps.map fun p => if p.1 = k then (p.1, z) else p) (qs.map fun p => if p.1 = k then (p.1, t) else p) := by
  induction r with
  | nil => exact .nil
  | @cons a b _ _ r _ ih =>
    refine .cons ?_ ih
    dsimp only
    by_cases hk : a.1 = k
    · rw [if_pos hk, if_pos (r.1 ▸ hk)]
      exact ⟨r.1, rz⟩
    · rw [if_neg hk, if_neg (fun z => hk (r.1.trans z))]
      exact r
theorem RKs.snoc {ps : List (Key × MV)} {qs : List (Key × V)} {k : Key} (rz : RV K ca ρ H z t) (r : RKs K ca ρ H ps qs) : RKs K ca ρ H (ps ++ [(k, z)]) (qs ++ [(k, t)]) := by
  induction r with
  | nil => exact .cons ⟨rfl, rz⟩ .nil
  | cons r _ ih => exact .cons r ih
theorem RKs.put {ps : List (Key × MV)} {qs : List (Key × V)} (k : Key) (rz : RV K ca ρ H z t) (r : RKs K ca ρ H ps qs) : RKs K ca ρ H (Ev.putK k z ps) (L2.putK qs k t) := by
  unfold Ev.putK L2.putK
  rw [r.anyK k]
  split
  · exact r.mapK k rz
  · exact r.snoc rz
theorem setItem_ok (S : Sim K ca ρ h H) (rx : RV K ca ρ H x u) (ry : RV K ca ρ H y v) (rz : RV K ca ρ H z t) (e : mSetI x y z h = some h') {Q : Hp → Prop} (q : EndH K ca ρ H h' Q) : rSet u v t H Q := by
  unfold mSetI at e
  split at e
  · cases rx with
    | ref qr =>
      split at e
      · rename_i xs hx
        obtain ⟨vs, h1, h2⟩ := S.lst hx qr
        split at e
        · cases ry
          split at e
          · rename_i n hn
            cases e
            obtain ⟨S2, g⟩ := S.write qr (RO.lst (h2.set rz n))
            exact .inl ⟨_, _, _, n, rfl, rfl, h1, by rw [← h2.length]; exact hn, q _ _ g S2⟩
          · cases e
        · cases e
      · rename_i kvs hx
        obtain ⟨qs, h1, h2⟩ := S.dic hx qr
        split at e
        · rename_i k hk
          split at e
          · rename_i hl
            cases e
            obtain ⟨S2, g⟩ := S.write qr (RO.dic (RKs.put k rz h2))
            refine .inr ⟨_, _, rfl, ?_, q _ _ g S2⟩
            rw [key_ok ry hk]
            exact DPut.k h1 (by rw [← Paired.length h2]; exact hl)
          · cases e
        · cases e
      · cases e
  · cases e
theorem End.write (S : Sim K ca ρ h H) {n : Nat} {a : Addr} {o : MO} {w : HO} {Q : VK} (q : End K ca ρ H z (h.set n o) Q) (e : ρ[n]? = some a) (r : RO K ca ρ H o w) (rz : RV K ca ρ H z t) : Q t (upd H a w) := by
  obtain ⟨S2, g⟩ := S.write e r
  exact q _ _ _ g S2 (rz.mono S g)
end
/-! ### methods -/
/-- a method's reading by the evaluator's answer -/
def rM (K : PySem.W.Frag) (ca : Str → Addr) (fn : MF) : V → List V → Hp → VK → Prop := fun u us H Q =>
  ∃ ρ h x args z h', Sim K ca ρ h H ∧ RV K ca ρ H x u ∧ RVs K ca ρ H args us ∧ fn x args h = some (z, h') ∧ End K ca ρ H z h' Q
theorem ixN_lt {n : Nat} {i : Int} {j : Nat} (e : ixN n i = some j) : -(n : Int) ≤ i ∧ i < n := by
  obtain ⟨_, _, h1, h2⟩ := ixN_seq e
  exact ⟨h1, h2⟩
section
variable {X : Cx} {ca : Str → Addr}
theorem m_split : MtR X "str.split" (rM X.K ca mSplit) := by
  intro pins s σ H x xs v us Q I rx rs hq
  obtain ⟨ρ, h, mx, args, z, h', S, r1, ra, e, q⟩ := hq
  unfold mSplit at e
  split at e
  · obtain ⟨u, rfl, ru⟩ := ra.one
    split at e
    · rename_i hc
      cases e
      cases r1
      cases ru
      exact mt_split pins s σ H _ _ v us Q I rx rs ⟨_, _, rfl, rfl, hc.1, hc.2, fun p hp => q.new S (.lst (RVs.ofStrs _)) hp⟩
    · cases e
  · cases e
theorem m_join : MtR X "str.join" (rM X.K ca mJoin) := by
  intro pins s σ H x xs v us Q I rx rs hq
  obtain ⟨ρ, h, mx, args, z, h', S, r1, ra, e, q⟩ := hq
  unfold mJoin at e
  split at e
  · obtain ⟨u, rfl, ru⟩ := ra.one
    split at e
    · rename_i ys hy
      split at e
      · rename_i ts ht
        split at e
        · rename_i hc
          cases e
          cases r1
          obtain ⟨a, vs, rfl, h1, h2⟩ := seq?_ok S ru hy
          have e2 := h2.strs ht
          exact mt_join pins s σ H _ _ v us Q I rx rs ⟨_, a, ts, rfl, rfl, by rw [← e2]; exact h1, hc, q.here S (.str _)⟩
        · cases e
      · cases e
    · cases e
  · cases e
theorem m_starts : MtR X "str.startswith" (rM X.K ca mStarts) := by
  intro pins s σ H x xs v us Q I rx rs hq
  obtain ⟨ρ, h, mx, args, z, h', S, r1, ra, e, q⟩ := hq
  unfold mStarts at e
  split at e
  · obtain ⟨u, rfl, ru⟩ := ra.one
    cases e
    cases r1
    cases ru
    exact mt_startswith pins s σ H _ _ v us Q I rx rs ⟨_, _, rfl, rfl, q.here S (.bl _)⟩
  · cases e
theorem m_upper : MtR X "str.upper" (rM X.K ca mUpper) := by
  intro pins s σ H x xs v us Q I rx rs hq
  obtain ⟨ρ, h, mx, args, z, h', S, r1, ra, e, q⟩ := hq
  unfold mUpper at e
  split at e
  · cases ra
    split at e
    · rename_i hc
      cases e
      cases r1
      exact mt_upper pins s σ H _ _ v us Q I rx rs ⟨_, rfl, rfl, hc, q.here S (.str _)⟩
    · cases e
  · cases e
theorem m_append : MtR X "list.append" (rM X.K ca mAppend) := by
  intro pins s σ H x xs v us Q I rx rs hq
  obtain ⟨ρ, h, mx, args, z, h', S, r1, ra, e, q⟩ := hq
  unfold mAppend at e
  split at e
  · obtain ⟨u, rfl, ru⟩ := ra.one
    split at e
    · rename_i ys hy
      split at e
      · rename_i hc
        cases e
        cases r1 with
        | ref qr =>
          obtain ⟨vs, h1, h2⟩ := S.lst (lst?_ref hy) qr
          exact mt_append pins s σ H _ _ v us Q I rx rs ⟨_, vs, u, rfl, rfl, h1, by rw [← h2.length]; exact hc, q.write S qr (.lst (h2.append (.cons ru .nil))) .non⟩
      · cases e
    · cases e
  · cases e
theorem m_extend : MtR X "list.extend" (rM X.K ca mExtend) := by
  intro pins s σ H x xs v us Q I rx rs hq
  obtain ⟨ρ, h, mx, args, z, h', S, r1, ra, e, q⟩ := hq
  unfold mExtend at e
  split at e
  · obtain ⟨u, rfl, ru⟩ := ra.one
    split at e
    · rename_i ys zs hy hz
      split at e
      · rename_i hc
        cases e
        cases r1 with
        | ref qr =>
          obtain ⟨vs, h1, h2⟩ := S.lst (lst?_ref hy) qr
          obtain ⟨a, ws, rfl, h3, h4⟩ := lst?_ok S ru hz
          exact mt_extend pins s σ H _ _ v us Q I rx rs ⟨_, a, vs, ws, rfl, rfl, h1, h3, by rw [← h2.length, ← h4.length]; exact hc, q.write S qr (.lst (h2.append h4)) .non⟩
      · cases e
    · cases e
  · cases e
theorem m_pop : MtR X "list.pop" (rM X.K ca mPop) := by
  intro pins s σ H x xs v us Q I rx rs hq
  obtain ⟨ρ, h, mx, args, z, h', S, r1, ra, e, q⟩ := hq
  unfold mPop at e
  split at e
  · obtain ⟨u, rfl, ru⟩ := ra.one
    split at e
    · rename_i ys hy
      split at e
      · rename_i j hj
        obtain ⟨m, h5, h6⟩ := map_some e
        cases h6
        cases r1 with
        | ref qr =>
          cases ru
          obtain ⟨vs, h1, h2⟩ := S.lst (lst?_ref hy) qr
          obtain ⟨w, h3, h4⟩ := h2.get h5
          obtain ⟨l1, l2⟩ := ixN_lt hj
          obtain ⟨l3, _⟩ := I.lstM h1
          have l4 := h2.length
          have l5 := line63
          rw [l4] at hj l1 l2
          exact mt_popAt pins s σ H _ _ v us Q I rx rs ⟨_, vs, _, j, w, rfl, rfl, h1, by omega, by omega, (ixN_seq hj).1, h3, q.write S qr (.lst (h2.erase j)) h4⟩
      · cases e
    · cases e
  · cases e
theorem m_get (hu : X.A.units + 1 < cLine) : MtR X "dict.get" (rM X.K ca mGet) := by
  intro pins s σ H x xs v us Q I rx rs hq
  obtain ⟨ρ, h, mx, args, z, h', S, r1, ra, e, q⟩ := hq
  unfold mGet at e
  split at e
  · rename_i k kvs y d hd
    obtain ⟨u, w, rfl, ru, rw'⟩ := ra.two
    obtain ⟨j, h5, h6⟩ := map_some e
    cases h6
    cases r1 with
    | ref qr =>
      simp only [dic?] at hd
      split at hd
      · rename_i kvs' hx
        cases hd
        obtain ⟨qs, h1, h2⟩ := S.dic hx qr
        obtain ⟨u', w', rfl, ru', rw''⟩ := Vals.two rs
        cases rx
        have g := DGet.k (k := j) h1
        rw [← key_ok ru h5] at g
        refine d_get2 hu I g ru' rw'' fun t' s' I' r' => ⟨_, H, I', r', ?_⟩
        obtain ⟨i1, i2⟩ := look_ok (k := j) h2
        cases hk : lookK j kvs with
        | none =>
          rw [i2 hk]
          rw [hk] at q
          exact q.here S rw'
        | some m =>
          obtain ⟨t, e1, e2⟩ := i1 m hk
          rw [e1]
          rw [hk] at q
          exact q.here S e2
      · cases hd
    | _ => cases hd
  · cases e
/-- every method that is read: its type, its place -/
theorem mth_ok (hu : X.A.units + 1 < cLine) {m : Str} {h : MH} {x : MV} (e : mty m h x = true) :
    ∃ T id : String, PlainAttrs T ∧ Slot T m id ∧ typeOf (.builtin id) = pure (.type "method_descriptor") ∧ MtR X id (rM X.K ca (mcall m)) ∧ ∀ ρ H u, Sim X.K ca ρ h H → RV X.K ca ρ H x u → tyV X.K T u H := by
  unfold mty at e
  split at e
  · rename_i y
    have st : ∀ (ρ : List Addr) (H : Hp) (u : V), Sim X.K ca ρ h H → RV X.K ca ρ H (.str y) u → tyV X.K "str" u H := fun ρ H u S r => by
      cases r
      rfl
    have e := of_decide_eq_true e
    rcases e with rfl | rfl | rfl | rfl
    · exact ⟨"str", _, PySem.F.plainAttrs_str, PySem.F.slot_str_split, PySem.F.type_str_split, m_split, st⟩
    · exact ⟨"str", _, PySem.F.plainAttrs_str, PySem.F.slot_str_join, PySem.F.type_str_join, m_join, st⟩
    · exact ⟨"str", _, PySem.F.plainAttrs_str, PySem.F.slot_str_startswith, PySem.F.type_str_startswith, m_starts, st⟩
    · exact ⟨"str", _, PySem.F.plainAttrs_str, PySem.F.slot_str_upper, PySem.F.type_str_upper, m_upper, st⟩
  · rename_i k0
    split at e
    · rename_i xs hx
      have st : ∀ (ρ : List Addr) (H : Hp) (u : V), Sim X.K ca ρ h H → RV X.K ca ρ H (.ref k0) u → tyV X.K "list" u H := fun ρ H u S r => by
        cases r with
        | ref qr =>
          obtain ⟨vs, h1, h2⟩ := S.lst hx qr
          exact .inl ⟨rfl, vs, SqL.of h1⟩
      have e := of_decide_eq_true e
      rcases e with rfl | rfl | rfl
      · exact ⟨"list", _, PySem.F.plainAttrs_list, PySem.F.slot_list_append, PySem.F.type_list_append, m_append, st⟩
      · exact ⟨"list", _, PySem.F.plainAttrs_list, PySem.F.slot_list_extend, PySem.F.type_list_extend, m_extend, st⟩
      · exact ⟨"list", _, PySem.F.plainAttrs_list, PySem.F.slot_list_pop, PySem.F.type_list_pop, m_pop, st⟩
    · rename_i kvs hx
      have st : ∀ (ρ : List Addr) (H : Hp) (u : V), Sim X.K ca ρ h H → RV X.K ca ρ H (.ref k0) u → tyV X.K "dict" u H := fun ρ H u S r => by
        cases r with
        | ref qr =>
          obtain ⟨qs, h1, h2⟩ := S.dic hx qr
          exact .inr (.inr (.inl ⟨rfl, .inl ⟨qs, h1⟩⟩))
      have e := of_decide_eq_true e
      subst e
      exact ⟨"dict", _, PySem.F.plainAttrs_dict, PySem.F.slot_dict_get, PySem.F.type_dict_get, m_get hu, st⟩
    · cases e
  · cases e
end
end Sd
end T_Sd5
section T_Sd6
set_option linter.all false
set_option maxRecDepth 100000
set_option maxHeartbeats 1000000
/-! Sd6: readings by the evaluator; plain expressions. -/
namespace Sd
open PySem PySem.Spec PyProof.Rows L2 Ev
/-- an exception's class and dict -/
def RX (K : PySem.W.Frag) (ca : Str → Addr) (ρ : List Addr) (H : Hp) (x : MV) (cls : Value) (d : Option Addr) : Prop :=
  ∃ c v dd u, x = .exc c v ∧ cls = .ref (ca c) ∧ d = some dd ∧ H dd = some (.xd [((Str.ofString "value"), u)]) ∧ RV K ca ρ H v u
abbrev RelR (α β : Type) := List Addr → Hp → α → β → Prop
/-- what an end bears -/
def OutK {α β : Type} (K : PySem.W.Frag) (ca : Str → Addr) (R : RelR α β) (ρ : List Addr) (H : Hp) (o : Option (Res α)) (Q : β → Hp → Prop) (E : XK) : Prop := match o with
  | some (.ok a h') => ∀ ρ' H' u, Grow ρ H ρ' H' → Sim K ca ρ' h' H' → R ρ' H' a u → Q u H'
  | some (.exc x h') => ∀ ρ' H' cls d, Grow ρ H ρ' H' → Sim K ca ρ' h' H' → RX K ca ρ' H' x cls d → E cls d H'
  | none => False
/-- the names' values -/
structure RE (K : PySem.W.Frag) (ca : Str → Addr) (ρ : List Addr) (H : Hp) (e : MEnv) (σ : L2.St) : Prop where
  len : e.length = σ.length
  at_ : ∀ (i : Nat) (v : MV), e[i]? = some (some v) → ∃ u, σ[i]? = some (some u) ∧ RV K ca ρ H v u
/-- a reading by the evaluator: at any heaps that stand so -/
def rd {α β : Type} (K : PySem.W.Frag) (ca : Str → Addr) (R : RelR α β) (f : MEnv → MH → Option (Res α)) (W : WX) : L2.St → Hp → (β → Hp → Prop) → Prop := fun σ H Q =>
  ∃ ρ h e, Sim K ca ρ h H ∧ RE K ca ρ H e σ ∧ OutK K ca R ρ H (f e h) Q (fun cls d H' => W cls d σ H')
abbrev rdE (K : PySem.W.Frag) (ca : Str → Addr) (f : MEnv → MH → Option Out) (W : WX) : TE := rd K ca (RV K ca) f W
abbrev RB : RelR Bool Bool := fun _ _ b c => b = c
abbrev rdT (K : PySem.W.Frag) (ca : Str → Addr) (f : MEnv → MH → Option OutB) (W : WX) : TT := rd K ca RB f W
abbrev rdA (K : PySem.W.Frag) (ca : Str → Addr) (f : MEnv → MH → Option OutL) (W : WX) : TA := rd K ca (RVs K ca) f W
abbrev ROi : RelR (Option Int) (Option Int) := fun _ _ b c => b = c
abbrev rdO (K : PySem.W.Frag) (ca : Str → Addr) (f : MEnv → MH → Option (Res (Option Int))) (W : WX) : TO := rd K ca ROi f W
section
variable {K : PySem.W.Frag} {ca : Str → Addr} {ρ ρ' : List Addr} {h h' : MH} {H H' : Hp} {e : MEnv} {σ : L2.St}
theorem RE.mono (S : Sim K ca ρ h H) (g : Grow ρ H ρ' H') (r : RE K ca ρ H e σ) : RE K ca ρ' H' e σ := ⟨r.len, fun i v q => by
  obtain ⟨u, h1, h2⟩ := r.at_ i v q
  exact ⟨u, h1, h2.mono S g⟩⟩
theorem RE.set (r : RE K ca ρ H e σ) (i : Nat) {x : MV} {u : V} (rx : RV K ca ρ H x u) : RE K ca ρ H (setE e i x) (σ.set i (some u)) := by
  refine ⟨by simp [setE, r.len], fun j v q => ?_⟩
  unfold setE at q
  by_cases hij : i = j
  · subst hij
    have hl : i < e.length := by
      have := (List.getElem?_eq_some_iff.mp q).1
      rwa [List.length_set] at this
    rw [List.getElem?_set_self hl] at q
    cases q
    exact ⟨u, by rw [List.getElem?_set_self (by rw [← r.len]; exact hl)], rx⟩
  · rw [List.getElem?_set_ne hij] at q
    rw [List.getElem?_set_ne hij]
    exact r.at_ j v q
theorem RE.wipe (r : RE K ca ρ H e σ) : ∀ vs : List Nat, RE K ca ρ H (wipeE e vs) (wipe σ vs)
  | [] => r
  | i :: vs => by
    have ih := RE.wipe r vs
    refine ⟨by simp [wipeE, L2.wipe, ih.len], fun j v q => ?_⟩
    unfold wipeE at q
    unfold L2.wipe
    by_cases hij : i = j
    · subst hij
      have hl : i < (wipeE e vs).length := by
        have := (List.getElem?_eq_some_iff.mp q).1
        rwa [List.length_set] at this
      rw [List.getElem?_set_self hl] at q
      cases q
    · rw [List.getElem?_set_ne hij] at q
      rw [List.getElem?_set_ne hij]
      exact ih.at_ j v q
theorem RE.none (r : RE K ca ρ H e σ) (i : Nat) : RE K ca ρ H (e.set i none) σ := by
  refine ⟨by rw [List.length_set]; exact r.len, fun j v q => ?_⟩
  by_cases hij : i = j
  · subst hij
    have hl : i < e.length := by
      have := (List.getElem?_eq_some_iff.mp q).1
      rwa [List.length_set] at this
    rw [List.getElem?_set_self hl] at q
    cases q
  · rw [List.getElem?_set_ne hij] at q
    exact r.at_ j v q
theorem OutK.mono {α β : Type} {R : RelR α β} {o : Option (Res α)} {Q : β → Hp → Prop} {E : XK} (k : OutK K ca R ρ H o Q E) (g : Grow ρ H ρ' H') : OutK K ca R ρ' H' o Q E := by
  cases o with
  | none => exact k
  | some o =>
    cases o with
    | ok a h1 => exact fun ρ2 H2 u g2 S2 r => k ρ2 H2 u (g.trans g2) S2 r
    | exc x h1 => exact fun ρ2 H2 c d g2 S2 r => k ρ2 H2 c d (g.trans g2) S2 r
theorem OutK.imp {α β : Type} {R : RelR α β} {o : Option (Res α)} {Q Q' : β → Hp → Prop} {E E' : XK} (k : OutK K ca R ρ H o Q E) (q : ∀ u H', Q u H' → Q' u H') (x : ∀ c d H', E c d H' → E' c d H') : OutK K ca R ρ H o Q' E' := by
  cases o with
  | none => exact k
  | some o =>
    cases o with
    | ok a h1 => exact fun ρ2 H2 u g2 S2 r => q _ _ (k ρ2 H2 u g2 S2 r)
    | exc y h1 => exact fun ρ2 H2 c d g2 S2 r => x _ _ _ (k ρ2 H2 c d g2 S2 r)
/-- then -/
theorem OutK.bnd {α β γ δ : Type} {R : RelR α β} {R' : RelR γ δ} {o : Option (Res α)} {f : α → MH → Option (Res γ)} {Q : δ → Hp → Prop} {Q1 : β → Hp → Prop} {E : XK} (k : OutK K ca R' ρ H (bnd o f) Q E)
    (F : ∀ a h1 ρ' H' u, o = some (.ok a h1) → Grow ρ H ρ' H' → Sim K ca ρ' h1 H' → R ρ' H' a u → OutK K ca R' ρ' H' (f a h1) Q E → Q1 u H') : OutK K ca R ρ H o Q1 E := by
  cases o with
  | none => exact k
  | some o =>
    cases o with
    | ok a h1 => exact fun ρ2 H2 u g2 S2 r => F a h1 ρ2 H2 u rfl g2 S2 r (OutK.mono (o := f a h1) k g2)
    | exc x h1 => exact k
theorem OutK.end {o : Option (MV × MH)} {Q : VK} {E : XK} (k : OutK K ca (RV K ca) ρ H (fin o) Q E) : ∃ z h', o = some (z, h') ∧ End K ca ρ H z h' Q := by
  cases o with
  | none => exact k.elim
  | some p => exact ⟨p.1, p.2, rfl, k⟩
theorem OutK.at {o : Option MV} {Q : VK} {E : XK} (k : OutK K ca (RV K ca) ρ H (at_ h o) Q E) : ∃ z, o = some z ∧ End K ca ρ H z h Q := by
  cases o with
  | none => exact k.elim
  | some p => exact ⟨p, rfl, k⟩
theorem OutK.atB {o : Option Bool} {Q : Bool → Hp → Prop} {E : XK} (S : Sim K ca ρ h H) (k : OutK K ca RB ρ H (at_ h o) Q E) : ∃ z, o = some z ∧ Q z H := by
  cases o with
  | none => exact k.elim
  | some p => exact ⟨p, rfl, k ρ H p Grow.refl S rfl⟩
end
/-! ### the place in the text -/
/-- names as the block that runs has them -/
structure ScOk (X : Cx) (sc : Scope) : Prop where
  loc : ∀ x, sc.names.lookup x = some .local → X.env.scope.names.lookup x = some .local
  cell : ∀ x, sc.names.lookup x = some .cell → X.env.scope.names.lookup x = some .cell
  free : ∀ x, sc.names.lookup x = some .free → X.env.scope.names.lookup x = some .cell ∨ X.env.scope.names.lookup x = some .free
  glo : ∀ x, sc.names.lookup x = some .globalImplicit → X.env.scope.names.lookup x = some .globalImplicit
  st : ∀ x, sc.names.lookup x = some .cell → X.fn x = true
theorem lk_lookup {α : Type} (x : Str) : ∀ l : List (Str × α), lk x l = l.lookup x
  | [] => rfl
  | (y, a) :: r => by
    rw [List.lookup_cons, lk]
    by_cases e : x = y
    · rw [if_pos e, e, beq_self_eq_true]
    · rw [if_neg e, beq_eq_false_iff_ne.mpr e]
      exact lk_lookup x r
theorem idx_at {x : Str} : ∀ {l : List Str} {i : Nat}, idx x l = some i → l[i]? = some x
  | [], i, h => by cases h
  | y :: r, i, h => by
    unfold idx at h
    by_cases e : x = y
    · rw [if_pos e] at h
      cases h
      rw [e]
      rfl
    · rw [if_neg e] at h
      obtain ⟨j, h1, h2⟩ := map_some h
      subst h2
      simpa using idx_at h1
theorem idx_none {x : Str} : ∀ {l : List Str}, idx x l = none → x ∉ l
  | [], _ => by simp
  | y :: r, h => by
    unfold idx at h
    by_cases e : x = y
    · rw [if_pos e] at h
      cases h
    · rw [if_neg e] at h
      have := idx_none (Option.map_eq_none_iff.mp h)
      simp [e, this]
/-- the names of the module, as the program's text has them -/
structure GFn (mg : Str → Option Value) (K : PySem.W.Frag) (C : Cxt) (ca : Str → Addr) : Prop where
  con : ∀ x v, lk x C.G.consts = some v → ∃ u w, mg x = some w ∧ RelV u w ∧ (∀ ρ H, RV K ca ρ H v u) ∧ x ≠ "__debug__"
  blt : ∀ x, x ∈ bNames → mg x = none
/-- all that a place must know -/
structure XG (X : Cx) (C : Cxt) (ca : Str → Addr) (sc : Scope) (W : WX) : Prop where
  nd : X.N.Nodup
  dbg : ("__debug__" : Str) ∉ X.N ∧ ("__classdict__" : Str) ∉ X.N
  calm : X.calm = true
  gd : X.A.guards = some []
  un : X.A.units + 70 < cLine
  sc : ScOk X sc
  tk : Takes X W
  gn : GFn X.mg X.K C ca
theorem nameAt_loc {sc : Scope} {N : List Str} {x : Str} {i : Nat} (h : nmAt sc N x = .loc i) : N[i]? = some x ∧ (sc.names.lookup x = some .local ∨ sc.names.lookup x = some .cell ∨ sc.names.lookup x = some .free) := by
  unfold nmAt at h
  rw [lk_lookup] at h
  split at h
  · rename_i q
    split at h
    · rename_i j hj
      cases h
      exact ⟨idx_at hj, .inl q⟩
    · cases h
  · rename_i q
    split at h
    · rename_i j hj
      cases h
      exact ⟨idx_at hj, .inr (.inl q)⟩
    · cases h
  · rename_i q
    split at h
    · rename_i j hj
      cases h
      exact ⟨idx_at hj, .inr (.inr q)⟩
    · cases h
  · cases h
  · cases h
theorem nameAt_glo {sc : Scope} {N : List Str} {x : Str} (h : nmAt sc N x = .glo) : sc.names.lookup x = some .globalImplicit := by
  unfold nmAt at h
  rw [lk_lookup] at h
  split at h
  · split at h <;> cases h
  · split at h <;> cases h
  · split at h <;> cases h
  · rename_i q
    exact q
  · cases h
section
variable {X : Cx} {C : Cxt} {ca : Str → Addr} {sc : Scope} {W : WX} {a b c : Expr} {es : List Expr} {pos : Pos}
theorem XG.gl (G : XG X C ca sc W) {x : Str} (h : nmAt sc X.N x = .glo) : Gl X x := G.sc.glo x (nameAt_glo h)
theorem XG.vis (G : XG X C ca sc W) {x : Str} {i : Nat} (h : nmAt sc X.N x = .loc i) : X.N[i]? = some x ∧ Vis X.env.scope x := by
  obtain ⟨h1, h2⟩ := nameAt_loc h
  refine ⟨h1, ?_⟩
  rcases h2 with h2 | h2 | h2
  · exact .inl (G.sc.loc x h2)
  · exact .inr (.inl (G.sc.cell x h2))
  · exact .inr (G.sc.free x h2)
theorem XG.ndb (G : XG X C ca sc W) {x : Str} {i : Nat} (h : X.N[i]? = some x) : (x == ("__debug__" : Str)) = false ∧ (x == ("__classdict__" : Str)) = false := by
  have hm := List.mem_of_getElem? h
  exact ⟨beq_eq_false_iff_ne.mpr fun z => G.dbg.1 (z ▸ hm), beq_eq_false_iff_ne.mpr fun z => G.dbg.2 (z ▸ hm)⟩
/-! ### plain expressions -/
theorem s_int {i : Int} {j : Nat} : PE X (.Constant (.int i) j pos) (rdE X.K ca (fun _ h => some (.ok (.int i) h)) W) := ⟨fun pins s σ H Q I ⟨ρ, h, e, S, re, k⟩ => pe_int.run pins s σ H Q I (k ρ H _ Grow.refl S (.int i))⟩
theorem s_str {x : Str} {j : Nat} : PE X (.Constant (.str x) j pos) (rdE X.K ca (fun _ h => some (.ok (.str x) h)) W) := ⟨fun pins s σ H Q I ⟨ρ, h, e, S, re, k⟩ => pe_str.run pins s σ H Q I (k ρ H _ Grow.refl S (.str x))⟩
theorem s_bl {x : Bool} {j : Nat} : PE X (.Constant (.bool x) j pos) (rdE X.K ca (fun _ h => some (.ok (.bl x) h)) W) := ⟨fun pins s σ H Q I ⟨ρ, h, e, S, re, k⟩ => pe_bl.run pins s σ H Q I (k ρ H _ Grow.refl S (.bl x))⟩
theorem s_non {j : Nat} : PE X (.Constant .none j pos) (rdE X.K ca (fun _ h => some (.ok .non h)) W) := ⟨fun pins s σ H Q I ⟨ρ, h, e, S, re, k⟩ => pe_non.run pins s σ H Q I (k ρ H _ Grow.refl S .non)⟩
theorem envGet_at {e : MEnv} {i : Nat} {v : MV} (h : envGet e i = some v) : e[i]? = some (some v) := by
  unfold envGet at h
  split at h
  · rename_i o q
    rw [q, h]
  · cases h
theorem s_name (G : XG X C ca sc W) {x : Str} : PE X (.Name x pos) (rdE X.K ca (fun e h => match nmAt sc X.N x with
      | .loc i => at_ h (envGet e i)
      | .glo => at_ h (lk x C.G.consts)
      | .no => none) W) := by
  refine ⟨fun pins s σ H Q I ⟨ρ, h, e, S, re, k⟩ => ?_⟩
  dsimp only at k
  split at k
  · rename_i i hi
    obtain ⟨z, h1, h2⟩ := k.at
    obtain ⟨hN, hv⟩ := G.vis hi
    obtain ⟨d1, d2⟩ := G.ndb hN
    obtain ⟨u, h3, h4⟩ := re.at_ i z (envGet_at h1)
    exact (pe_var hN hv d1 d2).run pins s σ H Q I ⟨u, h3, h2.here S h4⟩
  · rename_i hg
    obtain ⟨z, h1, h2⟩ := k.at
    obtain ⟨u, w, m1, m2, m3, m4⟩ := G.gn.con x z h1
    exact (pe_glob (G.gl hg) m1 m2 (beq_eq_false_iff_ne.mpr m4)).run pins s σ H Q I (h2.here S (m3 ρ H))
  · exact k.elim
variable {fa fb fc : MEnv → MH → Option Out} {ft fu : MEnv → MH → Option OutB}
theorem s_bin {op : Operator} (ha : PE X a (rdE X.K ca fa W)) (hb : PE X b (rdE X.K ca fb W)) :
    PE X (.BinOp a op b pos) (rdE X.K ca (fun e h => bnd (fa e h) fun x h1 => bnd (fb e h1) fun y h2 => fin (binop op x y h2)) W) := by
  refine ⟨fun pins s σ H Q I ⟨ρ, h, e, S, re, k⟩ => ?_⟩
  refine (pe_op (op_bin op) ha hb).run pins s σ H Q I ⟨ρ, h, e, S, re, k.bnd fun x h1 ρ1 H1 u _ g1 S1 r1 k1 => ?_⟩
  refine ⟨ρ1, h1, e, S1, re.mono S g1, k1.bnd fun y h2 ρ2 H2 v _ g2 S2 r2 k2 => ?_⟩
  obtain ⟨z, h3, e3, q⟩ := k2.end
  exact bin_ok S2 (r1.mono S1 g2) r2 op e3 q
theorem s_not (ha : PE X a (rdE X.K ca fa W)) : PE X (.UnaryOp .Not a pos) (rdE X.K ca (fun e h => bnd (fa e h) fun x h1 => at_ h1 ((truth h1 x).map fun b => .bl (!b))) W) := by
  refine ⟨fun pins s σ H Q I ⟨ρ, h, e, S, re, k⟩ => ?_⟩
  refine (pe_notT ha).run pins s σ H Q I ⟨ρ, h, e, S, re, k.bnd fun x h1 ρ1 H1 u _ g1 S1 r1 k1 => ?_⟩
  obtain ⟨z, e1, q⟩ := k1.at
  obtain ⟨b, e2, e3⟩ := map_some e1
  subst e3
  exact ⟨b, truth_ok S1 r1 e2, q.here S1 (.bl _)⟩
theorem s_un {op : UnaryOp} (ho : op ≠ .Not) (ha : PE X a (rdE X.K ca fa W)) : PE X (.UnaryOp op a pos) (rdE X.K ca (fun e h => bnd (fa e h) fun x h1 => at_ h1 (unop op x)) W) := by
  cases op with
  | USub =>
    refine ⟨fun pins s σ H Q I ⟨ρ, h, e, S, re, k⟩ => ?_⟩
    refine (pe_un un_neg ha).run pins s σ H Q I ⟨ρ, h, e, S, re, k.bnd fun x h1 ρ1 H1 u _ g1 S1 r1 k1 => ?_⟩
    obtain ⟨z, e1, q⟩ := k1.at
    cases r1 with
    | int i =>
      cases e1
      exact ⟨i, rfl, q.here S1 (.int _)⟩
    | _ => cases e1
  | Not => exact absurd rfl ho
  | _ =>
    refine ⟨fun pins s σ H Q I ⟨ρ, h, e, S, re, k⟩ => ?_⟩
    refine UnaryOp_ (thn (ha.run pins s σ H (fun _ _ => False) I ⟨ρ, h, e, S, re, k.bnd fun x h1 ρ1 H1 u _ g1 S1 r1 k1 => ?_⟩) fun v s1 ⟨_, _, _, _, z⟩ => z.elim)
    obtain ⟨z, e1, q⟩ := k1.at
    cases e1
end
end Sd
end T_Sd6
section T_Sd7
set_option linter.all false
set_option maxRecDepth 100000
set_option maxHeartbeats 1000000
/-! Sd7: and, or, comparisons, tests, displays, subscripts. -/
namespace Sd
open PySem PySem.Spec PyProof.Rows L2 Ev
section
variable {X : Cx} {C : Cxt} {ca : Str → Addr} {sc : Scope} {W : WX} {a b c : Expr} {es : List Expr} {pos : Pos}
variable {fa fb fc : MEnv → MH → Option Out} {ft fu fv : MEnv → MH → Option OutB}
theorem s_one {op : BoolOp} (ha : PE X a (rdE X.K ca fa W)) : PE X (.BoolOp op [a] pos) (rdE X.K ca fa W) := pe_one ha
theorem s_and {r : List Expr} (ha : PE X a (rdE X.K ca fa W)) (hb : PE X (.BoolOp .And (b :: r) pos) (rdE X.K ca fb W)) :
    PE X (.BoolOp .And (a :: b :: r) pos) (rdE X.K ca (fun e h => bnd (fa e h) fun x h1 => match truth h1 x with
      | some t => if t = true then fb e h1 else some (.ok x h1)
      | none => none) W) := by
  refine ⟨fun pins s σ H Q I ⟨ρ, h, e, S, re, k⟩ => ?_⟩
  refine (pe_andT ha hb).run pins s σ H Q I ⟨ρ, h, e, S, re, k.bnd fun x h1 ρ1 H1 u _ g1 S1 r1 k1 => ?_⟩
  split at k1
  · rename_i t ht
    refine ⟨t, truth_ok S1 r1 ht, ?_⟩
    cases t with
    | true => exact ⟨ρ1, h1, e, S1, re.mono S g1, k1⟩
    | false => exact k1 ρ1 H1 u Grow.refl S1 r1
  · exact k1.elim
theorem s_or {r : List Expr} (ha : PE X a (rdE X.K ca fa W)) (hb : PE X (.BoolOp .Or (b :: r) pos) (rdE X.K ca fb W)) :
    PE X (.BoolOp .Or (a :: b :: r) pos) (rdE X.K ca (fun e h => bnd (fa e h) fun x h1 => match truth h1 x with
      | some t => if t = true then some (.ok x h1) else fb e h1
      | none => none) W) := by
  refine ⟨fun pins s σ H Q I ⟨ρ, h, e, S, re, k⟩ => ?_⟩
  refine (pe_orT ha hb).run pins s σ H Q I ⟨ρ, h, e, S, re, k.bnd fun x h1 ρ1 H1 u _ g1 S1 r1 k1 => ?_⟩
  split at k1
  · rename_i t ht
    refine ⟨t, truth_ok S1 r1 ht, ?_⟩
    cases t with
    | false => exact ⟨ρ1, h1, e, S1, re.mono S g1, k1⟩
    | true => exact k1 ρ1 H1 u Grow.refl S1 r1
  · exact k1.elim
theorem s_if (hc : PT X c (rdT X.K ca ft W)) (ha : PE X a (rdE X.K ca fa W)) (hb : PE X b (rdE X.K ca fb W)) :
    PE X (.IfExp c a b pos) (rdE X.K ca (fun e h => bnd (ft e h) fun t h1 => if t = true then fa e h1 else fb e h1) W) := by
  refine ⟨fun pins s σ H Q I ⟨ρ, h, e, S, re, k⟩ => ?_⟩
  refine (pe_ifExp hc ha hb).run pins s σ H Q I ⟨ρ, h, e, S, re, k.bnd fun x h1 ρ1 H1 u _ g1 S1 r1 k1 => ?_⟩
  cases r1
  cases x with
  | true => exact ⟨ρ1, h1, e, S1, re.mono S g1, k1⟩
  | false => exact ⟨ρ1, h1, e, S1, re.mono S g1, k1⟩
/-! ### comparisons -/
/-- ==, .. of values, instances among them -/
def CmpG (X : Cx) (C : Cxt) (ca : Str → Addr) (W : WX) : Prop :=
  ∀ (op : CmpOp) (pins : List (Addr × Obj)) (s : Shared) (σ : L2.St) (H : Hp) (u v : V) (uu vv : Value) (Q : VK), Inv X pins σ H s → RelV u uu → RelV v vv →
    (∃ ρ h x y, Sim X.K ca ρ h H ∧ RV X.K ca ρ H x u ∧ RV X.K ca ρ H y v ∧ OutK X.K ca (RV X.K ca) ρ H (eCmp C op x y h) Q (fun cls d H' => W cls d σ H')) →
    wpAny (model X.prog X.w) X.A (compareOp op uu vv) (EP X pins σ Q) X.xe s
theorem nomarks {op : CmpOp} (h : ¬ isSetE b = true) : behindInMarks op b = false := by cases b <;> first | rfl | exact absurd rfl h
theorem s_cmp {op : CmpOp} (cg : CmpG X C ca W) (ha : PE X a (rdE X.K ca fa W)) (hb : PE X b (rdE X.K ca fb W)) :
    PE X (.Compare a [op] [b] pos) (rdE X.K ca (fun e h => if isSetE b = true then none else bnd (fa e h) fun x h1 => bnd (fb e h1) fun y h2 => eCmp C op x y h2) W) := by
  refine ⟨fun pins s σ H Q I ⟨ρ, h, e, S, re, k⟩ => ?_⟩
  dsimp only at k
  by_cases hs : isSetE b = true
  · rw [if_pos hs] at k
    exact k.elim
  rw [if_neg hs] at k
  have kk : rdE X.K ca fa W σ H (fun u H1 => rdE X.K ca fb W σ H1 fun v H2 => ∃ ρ h x y, Sim X.K ca ρ h H2 ∧ RV X.K ca ρ H2 x u ∧ RV X.K ca ρ H2 y v ∧ OutK X.K ca (RV X.K ca) ρ H2 (eCmp C op x y h) Q (fun cls d H' => W cls d σ H')) :=
    ⟨ρ, h, e, S, re, k.bnd fun x h1 ρ1 H1 u _ g1 S1 r1 k1 => ⟨ρ1, h1, e, S1, re.mono S g1, k1.bnd fun y h2 ρ2 H2 v _ g2 S2 r2 k2 => ⟨ρ2, h2, x, y, S2, r1.mono S1 g2, r2, k2⟩⟩⟩
  exact wpAny_Compare1 (binT ha hb I kk fun v u s2 x y H2 I2 rx ry q => cg op pins s2 σ H2 x y v u Q I2 rx ry q) (nomarks hs)
theorem cmp_bl (hu : X.A.units + 65 < cLine) {op : CmpOp} {pins : List (Addr × Obj)} {s : Shared} {σ : L2.St} {H : Hp} {u v : V} {uu vv : Value} {Q : VK} {ρ : List Addr} {h : MH} {x y : MV} {k : Bool} (I : Inv X pins σ H s) (ru : RelV u uu) (rv : RelV v vv)
    (S : Sim X.K ca ρ h H) (rx : RV X.K ca ρ H x u) (ry : RV X.K ca ρ H y v) (e : cmp op x y h = some k) (q : Q (.bl k) H) : wpAny (model X.prog X.w) X.A (compareOp op uu vv) (EP X pins σ Q) X.xe s :=
  op_cmp hu op pins s σ H u v uu vv Q I ru rv (cmp_ok S rx ry op e q)
theorem s_chain {op op' : CmpOp} (hu : X.A.units + 65 < cLine) (ha : PE X a (rdE X.K ca fa W)) (hb : PE X b (rdE X.K ca fb W)) (hc : PE X c (rdE X.K ca fc W)) :
    PE X (.Compare a [op, op'] [b, c] pos) (rdE X.K ca (fun e h => if isSetE c = true then none else bnd (fa e h) fun x h1 => bnd (fb e h1) fun y h2 => match cmp op x y h2 with
        | some true => bnd (fc e h2) fun z h3 => at_ h3 ((cmp op' y z h3).map .bl)
        | some false => some (.ok (.bl false) h2)
        | none => none) W) := by
  refine ⟨fun pins s σ H Q I ⟨ρ, h, e, S, re, k⟩ => ?_⟩
  dsimp only at k
  by_cases hs : isSetE c = true
  · rw [if_pos hs] at k
    exact k.elim
  rw [if_neg hs] at k
  refine (pe_chain (op_cmp hu op) (op_cmp hu op') ha hb hc (nomarks hs)).run pins s σ H Q I ⟨ρ, h, e, S, re, k.bnd fun x h1 ρ1 H1 u _ g1 S1 r1 k1 => ?_⟩
  refine ⟨ρ1, h1, e, S1, re.mono S g1, k1.bnd fun y h2 ρ2 H2 v _ g2 S2 r2 k2 => ?_⟩
  have re2 := (re.mono S g1).mono S1 g2
  split at k2
  · rename_i hq
    refine cmp_ok S2 (r1.mono S1 g2) r2 op hq ⟨true, rfl, ?_⟩
    rw [if_pos rfl]
    refine ⟨ρ2, h2, e, S2, re2, k2.bnd fun z h3 ρ3 H3 w _ g3 S3 r3 k3 => ?_⟩
    obtain ⟨z', e1, q⟩ := k3.at
    obtain ⟨b', e2, e3⟩ := map_some e1
    subst e3
    exact cmp_ok S3 (r2.mono S2 g3) r3 op' e2 (q.here S3 (.bl _))
  · rename_i hq
    refine cmp_ok S2 (r1.mono S1 g2) r2 op hq ⟨false, rfl, ?_⟩
    rw [if_neg Bool.false_ne_true]
    exact k2 ρ2 H2 _ Grow.refl S2 (.bl false)
  · exact k2.elim
/-! ### tests -/
theorem t_not (ha : PT X a (rdT X.K ca ft W)) : PT X (.UnaryOp .Not a pos) (rdT X.K ca (fun e h => bnd (ft e h) fun b h1 => some (.ok (!b) h1)) W) := by
  refine ⟨fun pins s σ H Q I ⟨ρ, h, e, S, re, k⟩ => ?_⟩
  refine (pt_not ha).run pins s σ H Q I ⟨ρ, h, e, S, re, k.bnd fun x h1 ρ1 H1 u _ g1 S1 r1 k1 => ?_⟩
  cases r1
  exact k1 ρ1 H1 _ Grow.refl S1 rfl
theorem w_one_and (ha : PT X a (rdT X.K ca ft W)) : PW X (.BoolOp .And [a] pos) (rdT X.K ca ft W) := pw_and1 ha
theorem w_one_or (ha : PT X a (rdT X.K ca ft W)) : PW X (.BoolOp .Or [a] pos) (rdT X.K ca ft W) := pw_or1 ha
theorem w_and {r : List Expr} (ha : PT X a (rdT X.K ca ft W)) (hb : PW X (.BoolOp .And (b :: r) pos) (rdT X.K ca fu W)) :
    PW X (.BoolOp .And (a :: b :: r) pos) (rdT X.K ca (fun e h => bnd (ft e h) fun t h1 => if t = true then fu e h1 else some (.ok false h1)) W) := by
  refine ⟨fun wh pins s σ H Q I ⟨ρ, h, e, S, re, k⟩ => ?_⟩
  refine (pw_and ha hb).run wh pins s σ H Q I ⟨ρ, h, e, S, re, k.bnd fun x h1 ρ1 H1 u _ g1 S1 r1 k1 => ?_⟩
  cases r1
  cases x with
  | true => exact ⟨ρ1, h1, e, S1, re.mono S g1, k1⟩
  | false => exact k1 ρ1 H1 _ Grow.refl S1 rfl
theorem w_or {r : List Expr} (ha : PT X a (rdT X.K ca ft W)) (hb : PW X (.BoolOp .Or (b :: r) pos) (rdT X.K ca fu W)) :
    PW X (.BoolOp .Or (a :: b :: r) pos) (rdT X.K ca (fun e h => bnd (ft e h) fun t h1 => if t = true then some (.ok true h1) else fu e h1) W) := by
  refine ⟨fun wh pins s σ H Q I ⟨ρ, h, e, S, re, k⟩ => ?_⟩
  refine (pw_or ha hb).run wh pins s σ H Q I ⟨ρ, h, e, S, re, k.bnd fun x h1 ρ1 H1 u _ g1 S1 r1 k1 => ?_⟩
  cases r1
  cases x with
  | false => exact ⟨ρ1, h1, e, S1, re.mono S g1, k1⟩
  | true => exact k1 ρ1 H1 _ Grow.refl S1 rfl
theorem t_if (hc : PT X c (rdT X.K ca ft W)) (ha : PT X a (rdT X.K ca fu W)) (hb : PT X b (rdT X.K ca fv W)) :
    PT X (.IfExp c a b pos) (rdT X.K ca (fun e h => bnd (ft e h) fun t h1 => if t = true then fu e h1 else fv e h1) W) := by
  refine ⟨fun pins s σ H Q I ⟨ρ, h, e, S, re, k⟩ => ?_⟩
  show wpAny _ _ (do if ← isTrue c X.env (eval c X.env) then isTrue a X.env (eval a X.env) else isTrue b X.env (eval b X.env)) _ _ _
  refine wpAny_bind (thn (hc.run pins s σ H (fun t H1 => if t = true then rdT X.K ca fu W σ H1 Q else rdT X.K ca fv W σ H1 Q) I ⟨ρ, h, e, S, re, k.bnd fun x h1 ρ1 H1 u _ g1 S1 r1 k1 => ?_⟩) fun t s1 ⟨H1, I1, q1⟩ => ?_)
  · cases r1
    cases x with
    | true => exact ⟨ρ1, h1, e, S1, re.mono S g1, k1⟩
    | false => exact ⟨ρ1, h1, e, S1, re.mono S g1, k1⟩
  · cases t with
    | true => exact ha.run pins s1 σ H1 Q I1 q1
    | false => exact hb.run pins s1 σ H1 Q I1 q1
/-- any other expression's truth -/
theorem t_val (ha : PE X a (rdE X.K ca fa W)) (he : ∀ whole, isTrue a X.env whole = (do let v ← whole; standAt a.pos; holding [v] (truthy v))) :
    PT X a (rdT X.K ca (fun e h => bnd (fa e h) fun x h1 => at_ h1 (truth h1 x)) W) := by
  refine ⟨fun pins s σ H Q I ⟨ρ, h, e, S, re, k⟩ => ?_⟩
  refine (pt_truth ha he).run pins s σ H Q I ⟨ρ, h, e, S, re, k.bnd fun x h1 ρ1 H1 u _ g1 S1 r1 k1 => ?_⟩
  obtain ⟨t, e1, q⟩ := k1.atB S1
  exact ⟨t, truth_ok S1 r1 e1, q⟩
theorem t_cmp {op : CmpOp} (cg : CmpG X C ca W) (ha : PE X a (rdE X.K ca fa W)) (hb : PE X b (rdE X.K ca fb W)) :
    PT X (.Compare a [op] [b] pos) (rdT X.K ca (fun e h => bnd (if isSetE b = true then none else bnd (fa e h) fun x h1 => bnd (fb e h1) fun y h2 => eCmp C op x y h2) fun x h1 => at_ h1 (truth h1 x)) W) := by
  refine ⟨fun pins s σ H Q I ⟨ρ, h, e, S, re, k⟩ => ?_⟩
  dsimp only at k
  by_cases hs : isSetE b = true
  · rw [if_pos hs] at k
    exact k.elim
  rw [if_neg hs] at k
  have k0 := k.bnd (Q1 := fun u H' => ∃ t, TruV X.K u H' t ∧ Q t H') (R := RV X.K ca) fun x h1 ρ1 H1 u _ g1 S1 r1 k1 => by
    obtain ⟨t, e1, q⟩ := k1.atB S1
    exact ⟨t, truth_ok S1 r1 e1, q⟩
  have kk : rdE X.K ca fa W σ H (fun u H1 => rdE X.K ca fb W σ H1 fun v H2 => ∃ ρ h x y, Sim X.K ca ρ h H2 ∧ RV X.K ca ρ H2 x u ∧ RV X.K ca ρ H2 y v ∧ OutK X.K ca (RV X.K ca) ρ H2 (eCmp C op x y h) (fun u H' => ∃ t, TruV X.K u H' t ∧ Q t H') (fun cls d H' => W cls d σ H')) :=
    ⟨ρ, h, e, S, re, k0.bnd fun x h1 ρ1 H1 u _ g1 S1 r1 k1 => ⟨ρ1, h1, e, S1, re.mono S g1, k1.bnd fun y h2 ρ2 H2 v _ g2 S2 r2 k2 => ⟨ρ2, h2, x, y, S2, r1.mono S1 g2, r2, k2⟩⟩⟩
  refine wpAny_isTrue_Compare1 (binT ha hb I kk fun v u s2 x y H2 I2 rx ry q => thn (cg op pins s2 σ H2 x y v u _ I2 rx ry q) fun cv s3 ⟨z, H3, I3, r3, t, t1, t2⟩ => ?_) (nomarks hs)
  exact tru_ok pins s3 σ H3 z cv Q I3 r3 ⟨t, t1, t2⟩
theorem t_chain {op op' : CmpOp} (hu : X.A.units + 65 < cLine) (ha : PE X a (rdE X.K ca fa W)) (hb : PE X b (rdE X.K ca fb W)) (hc : PE X c (rdE X.K ca fc W)) :
    PT X (.Compare a [op, op'] [b, c] pos) (rdT X.K ca (fun e h => bnd (if isSetE c = true then none else bnd (fa e h) fun x h1 => bnd (fb e h1) fun y h2 => match cmp op x y h2 with
        | some true => bnd (fc e h2) fun z h3 => at_ h3 ((cmp op' y z h3).map .bl)
        | some false => some (.ok (.bl false) h2)
        | none => none) fun x h1 => at_ h1 (truth h1 x)) W) := by
  refine ⟨fun pins s σ H Q I ⟨ρ, h, e, S, re, k⟩ => ?_⟩
  dsimp only at k
  by_cases hs : isSetE c = true
  · rw [if_pos hs] at k
    exact k.elim
  rw [if_neg hs] at k
  have k0 := k.bnd (Q1 := fun u H' => ∃ t, u = .bl t ∧ Q t H') (R := fun ρ H x u => RV X.K ca ρ H x u ∧ ∃ t, x = .bl t) fun x h1 ρ1 H1 u _ g1 S1 r1 k1 => by
    obtain ⟨r1, t, rfl⟩ := r1
    obtain ⟨t', e1, q⟩ := k1.atB S1
    cases e1
    cases r1
    exact ⟨_, rfl, q⟩
  refine (pt_chain (op_cmp hu op) (op_cmp hu op') ha hb hc (nomarks hs)).run pins s σ H Q I ⟨ρ, h, e, S, re, k0.bnd fun x h1 ρ1 H1 u _ g1 S1 r1 k1 => ?_⟩
  refine ⟨ρ1, h1, e, S1, re.mono S g1, k1.bnd fun y h2 ρ2 H2 v _ g2 S2 r2 k2 => ?_⟩
  have re2 := (re.mono S g1).mono S1 g2
  split at k2
  · rename_i hq
    refine cmp_ok S2 (r1.mono S1 g2) r2 op hq ⟨true, rfl, ?_⟩
    rw [if_pos rfl]
    refine ⟨ρ2, h2, e, S2, re2, k2.bnd fun z h3 ρ3 H3 w _ g3 S3 r3 k3 => ?_⟩
    cases hq' : cmp op' y z h3 with
    | none => rw [hq'] at k3; exact k3.elim
    | some b' =>
      rw [hq'] at k3
      exact cmp_ok S3 (r2.mono S2 g3) r3 op' hq' (k3 ρ3 H3 (.bl b') Grow.refl S3 ⟨.bl _, _, rfl⟩)
  · rename_i hq
    refine cmp_ok S2 (r1.mono S1 g2) r2 op hq ⟨false, rfl, ?_⟩
    rw [if_neg Bool.false_ne_true]
    exact k2 ρ2 H2 _ Grow.refl S2 ⟨.bl false, _, rfl⟩
  · exact k2.elim
end
end Sd
end T_Sd7
section T_Sd8
set_option linter.all false
set_option maxRecDepth 100000
set_option maxHeartbeats 1000000
/-! Sd8: argument lists, displays, subscripts, slices. -/
namespace Sd
open PySem PySem.Spec PyProof.Rows L2 Ev
/-! ### an object that is filled before it is the program's -/
section
variable {K : PySem.W.Frag} {ca : Str → Addr} {ρ ρ' ρ0 : List Addr} {h h' : MH} {H H' H0 : Hp} {D : Addr}
theorem sqT_kn {a : Addr} {vs : List V} (kn : ∀ a o, H a = some o → ¬ Kd o → H' a = some o) (q : SqT K H a vs) : SqT K H' a vs := by
  rcases q with (q | ⟨o, q⟩) | q
  · exact .inl (.inl (kn a _ q fun z => z))
  · exact .inl (.inr ⟨o, kn a _ q fun z => z⟩)
  · exact .inr q
theorem frL_kn {a : Addr} {vs : List V} (kn : ∀ a o, H a = some o → ¬ Kd o → H' a = some o) (q : FrL K H a vs) : FrL K H' a vs := by
  rcases q with ⟨o, q⟩ | q
  · exact .inl ⟨o, kn a _ q fun z => z⟩
  · exact .inr q
mutual
theorem RV.mono2 (pre : ∃ l, ρ' = ρ ++ l) (kn : ∀ a o, H a = some o → ¬ Kd o → H' a = some o) : ∀ {x : MV} {v : V}, RV K ca ρ H x v → RV K ca ρ' H' x v
  | _, _, .non => .non
  | _, _, .bl b => .bl b
  | _, _, .int i => .int i
  | _, _, .str x => .str x
  | _, _, .tup q r => .tup (sqT_kn kn q) (RVs.mono2 pre kn r)
  | _, _, .ref e => .ref (by
    obtain ⟨l, rfl⟩ := pre
    obtain ⟨hl, _⟩ := List.getElem?_eq_some_iff.mp e
    rw [List.getElem?_append_left hl]
    exact e)
  | _, _, .exc h1 h2 r => .exc (kn _ _ h1 fun z => z) (kn _ _ h2 fun z => z) (RV.mono2 pre kn r)
  | _, _, .frz q => .frz (frL_kn kn q)
theorem RVs.mono2 (pre : ∃ l, ρ' = ρ ++ l) (kn : ∀ a o, H a = some o → ¬ Kd o → H' a = some o) : ∀ {xs : List MV} {vs : List V}, RVs K ca ρ H xs vs → RVs K ca ρ' H' xs vs
  | _, _, .nil => .nil
  | _, _, .cons r rs => .cons (RV.mono2 pre kn r) (RVs.mono2 pre kn rs)
end
theorem RO.mono2 (pre : ∃ l, ρ' = ρ ++ l) (kn : ∀ a o, H a = some o → ¬ Kd o → H' a = some o) {o : MO} {u : HO} (r : RO K ca ρ H o u) : RO K ca ρ' H' o u := by
  cases r with
  | lst r => exact .lst (r.mono2 pre kn)
  | dic r => exact .dic (L2.Paired.mapP r fun _ _ z => ⟨z.1, z.2.mono2 pre kn⟩)
  | ins r => exact .ins (L2.Paired.mapP r fun _ _ z => ⟨z.1, z.2.mono2 pre kn⟩)
theorem kn_of (kd : ∀ o, H D = some o → Kd o) (k : ∀ a o, H a = some o → a ≠ D → H' a = some o) : ∀ a o, H a = some o → ¬ Kd o → H' a = some o := fun a o e n => k a o e fun z => n (kd o (z ▸ e))
theorem Sim.offW (S : Sim K ca ρ h H) (hD : D ∉ ρ) (kd : ∀ o, H D = some o → Kd o) (k : ∀ a o, H a = some o → a ≠ D → H' a = some o) : Sim K ca ρ h H' := by
  refine ⟨S.len, S.nd, fun n o e => ?_⟩
  obtain ⟨a, u, h1, h2, h3⟩ := S.at_ n o e
  exact ⟨a, u, h1, k a u h2 (fun z => hD (z ▸ List.mem_of_getElem? h1)), h3.mono2 ⟨[], by simp⟩ (kn_of kd k)⟩
theorem Sim.adopt (S : Sim K ca ρ h H) (hD : D ∉ ρ) {o : MO} {u : HO} (e : H D = some u) (r : RO K ca ρ H o u) : Sim K ca (ρ ++ [D]) (h ++ [o]) H := by
  have pre : ∃ l, ρ ++ [D] = ρ ++ l := ⟨[D], rfl⟩
  refine ⟨by simp [S.len], ?_, fun n x ex => ?_⟩
  · rw [List.nodup_append]
    refine ⟨S.nd, by simp, fun a ha b hb => ?_⟩
    rw [List.mem_singleton.mp hb]
    exact fun z => hD (z ▸ ha)
  · by_cases hl : n < h.length
    · rw [List.getElem?_append_left hl] at ex
      obtain ⟨a, v, h1, h2, h3⟩ := S.at_ n x ex
      refine ⟨a, v, ?_, h2, h3.mono2 pre fun _ _ e _ => e⟩
      rw [List.getElem?_append_left (by rw [S.len]; exact hl)]
      exact h1
    · have hl2 : n = h.length := by
        have := (List.getElem?_eq_some_iff.mp ex).1
        rw [List.length_append, List.length_singleton] at this
        omega
      subst hl2
      rw [List.getElem?_append_right (Nat.le_refl _), Nat.sub_self] at ex
      have e2 : o = x := Option.some.inj ex
      subst e2
      refine ⟨D, u, ?_, e, r.mono2 pre fun _ _ e _ => e⟩
      rw [← S.len, List.getElem?_append_right (Nat.le_refl _), Nat.sub_self]
      rfl
theorem Grow.adopt (g : Grow ρ0 H0 ρ H) (hp : H0 D = none) (k : ∀ a o, H a = some o → a ≠ D → H' a = some o) : Grow ρ0 H0 (ρ ++ [D]) H' := by
  obtain ⟨l, hl⟩ := g.pre
  refine ⟨⟨l ++ [D], by rw [hl, List.append_assoc]⟩, fun a o e hn => k a o (g.keep a o e hn) (ne_of_none e hp), fun a ha hn => ?_⟩
  rcases List.mem_append.mp ha with z | z
  · exact g.fresh a z hn
  · rw [List.mem_singleton.mp z]
    exact hp
theorem Grow.offW (g : Grow ρ0 H0 ρ H) (hp : H0 D = none) (k : ∀ a o, H a = some o → a ≠ D → H' a = some o) : Grow ρ0 H0 ρ H' :=
  ⟨g.pre, fun a o e hn => k a o (g.keep a o e hn) (ne_of_none e hp), g.fresh⟩
/-- an untracked object stays untracked -/
theorem Grow.off (g : Grow ρ H ρ' H') {u : HO} (e : H D = some u) (hn : D ∉ ρ) : D ∉ ρ' ∧ H' D = some u := by
  refine ⟨fun z => ?_, g.keep D u e hn⟩
  have := g.fresh D z hn
  rw [e] at this
  cases this
theorem OutK.bndG {α β γ δ : Type} {R : RelR α β} {R' : RelR γ δ} {o : Option (Res α)} {f : α → MH → Option (Res γ)} {Q : δ → Hp → Prop} {Q1 : β → Hp → Prop} {E : XK} (g0 : Grow ρ0 H0 ρ H) (k : OutK K ca R' ρ0 H0 (Ev.bnd o f) Q E)
    (F : ∀ a h1 ρ' H' u, o = some (.ok a h1) → Grow ρ H ρ' H' → Sim K ca ρ' h1 H' → R ρ' H' a u → OutK K ca R' ρ0 H0 (f a h1) Q E → Q1 u H') : OutK K ca R ρ H o Q1 E := by
  cases o with
  | none => exact k
  | some o =>
    cases o with
    | ok a h1 => exact fun ρ2 H2 u g2 S2 r => F a h1 ρ2 H2 u rfl g2 S2 r k
    | exc x h1 => exact OutK.mono (o := some (.exc x h1)) k g0
end
section
variable {X : Cx} {C : Cxt} {ca : Str → Addr} {sc : Scope} {W : WX} {a b c : Expr} {es r : List Expr} {pos : Pos}
variable {fa fb fc : MEnv → MH → Option Out} {fl fr : MEnv → MH → Option OutL}
/-! ### lists of expressions -/
theorem star_no (h : notStar a = true) : starEach (a :: r) X.env = (false, eval a X.env) :: starEach r X.env := by cases a <;> first | rfl | cases h
theorem a_nil : PA X [] (rdA X.K ca (fun _ h => some (.ok [] h)) W) := ⟨fun pos pins s σ H Q I ⟨ρ, h, e, S, re, k⟩ => pa_nil.run pos pins s σ H Q I (k ρ H _ Grow.refl S .nil)⟩
theorem a_cons (hn : notStar a = true) (ha : PE X a (rdE X.K ca fa W)) (hr : PA X r (rdA X.K ca fl W)) :
    PA X (a :: r) (rdA X.K ca (fun e h => bnd (fa e h) fun x h1 => bnd (fl e h1) fun vs h2 => some (.ok (x :: vs) h2)) W) := by
  refine ⟨fun pos pins s σ H Q I ⟨ρ, h, e, S, re, k⟩ => ?_⟩
  refine (pa_cons ha hr (star_no hn)).run pos pins s σ H Q I ⟨ρ, h, e, S, re, k.bnd fun x h1 ρ1 H1 u _ g1 S1 r1 k1 => ?_⟩
  refine ⟨ρ1, h1, e, S1, re.mono S g1, k1.bnd fun y h2 ρ2 H2 v _ g2 S2 r2 k2 => ?_⟩
  exact k2 ρ2 H2 _ Grow.refl S2 (.cons (r1.mono S1 g2) r2)
theorem a_star {p : Pos} (ha : PE X a (rdE X.K ca fa W)) (hr : PA X r (rdA X.K ca fl W)) :
    PA X (.Starred a p :: r) (rdA X.K ca (fun e h => bnd (fa e h) fun x h1 => match seq? h1 x with
        | some xs => bnd (fl e h1) fun vs h2 => some (.ok (xs ++ vs) h2)
        | none => none) W) := by
  refine ⟨fun pos pins s σ H Q I ⟨ρ, h, e, S, re, k⟩ => ?_⟩
  refine (StX.pa_star ha hr).run pos pins s σ H Q I ⟨ρ, h, e, S, re, k.bnd fun x h1 ρ1 H1 u _ g1 S1 r1 k1 => ?_⟩
  split at k1
  · rename_i xs hx
    obtain ⟨q, vs, rfl, h3, h4⟩ := seq?_ok S1 r1 hx
    refine ⟨q, vs, rfl, h3.symm, ρ1, h1, e, S1, re.mono S g1, k1.bnd fun y h2 ρ2 H2 v _ g2 S2 r2 k2 => ?_⟩
    exact k2 ρ2 H2 _ Grow.refl S2 ((h4.mono S1 g2).append r2)
  · exact k1.elim
/-- items where a text has been made before -/
structure PAt (X : Cx) (es : List Expr) (t : TA) : Prop where
  run : ∀ (pos : Pos) (pins : List (Addr × Obj)) (s : Shared) (σ : L2.St) (H : Hp) (Q : List V → Hp → Prop), s.toks ≠ 0 → Inv X pins σ H s → t σ H Q → wpAny (model X.prog X.w) X.A (spliced (backTo pos (starEach es X.env))) (AP X pins σ Q) X.xe s
theorem r_nil : PAt X [] (rdA X.K ca (fun _ h => some (.ok [] h)) W) := ⟨fun pos pins s σ H Q _ I z => a_nil.run pos pins s σ H Q I z⟩
theorem r_cons (hn : notStar a = true) (ha : PE X a (rdE X.K ca fa W)) (hr : PAt X r (rdA X.K ca fl W)) :
    PAt X (a :: r) (rdA X.K ca (fun e h => bnd (fa e h) fun x h1 => bnd (fl e h1) fun vs h2 => some (.ok (x :: vs) h2)) W) := by
  refine ⟨fun pos pins s σ H Q h0 I ⟨ρ, h, e, S, re, k⟩ => ?_⟩
  rw [star_no hn]
  show wpAny _ _ (spliced ((false, eval a X.env) :: backTo pos (starEach r X.env))) _ _ s
  refine Calls.spliced_cons (wpAny_mono (PySem.wpAny_toks (ha.run pins s σ H (fun u H1 => rdA X.K ca fl W σ H1 fun us H2 => Q (u :: us) H2) I ⟨ρ, h, e, S, re, k.bnd fun x h1 ρ1 H1 u _ g1 S1 r1 k1 => ?_⟩)) (fun u s1 q => ?_) fun _ _ z => z.2)
  · refine ⟨ρ1, h1, e, S1, re.mono S g1, k1.bnd fun y h2 ρ2 H2 v _ g2 S2 r2 k2 => ?_⟩
    exact k2 ρ2 H2 _ Grow.refl S2 (.cons (r1.mono S1 g2) r2)
  · obtain ⟨ht, x, H1, I1, r1, q1⟩ := q
    exact thn (hr.run pos pins s1 σ H1 _ (by omega) I1 q1) fun us s2 ⟨xs, H2, I2, r2, q2⟩ => ⟨x :: xs, H2, I2, .cons r1 r2, q2⟩
theorem base_no (h : plainB a = true) (f : Str) (w : Sem Value) : attributeBase a f X.env w = w := by
  unfold attributeBase
  split
  · cases h
  · rfl
theorem r_repl {y z : Str} {j0 j1 : Nat} {c0 c1 apos cpos : Pos} (hb : plainB a = true) (hl : (apos.endLine == cpos.line) = true) (hyz : (y == z) = false) (ha : PE X a (rdE X.K ca fa W)) (hr : PAt X r (rdA X.K ca fl W)) :
    PAt X (.Call (.Attribute a "replace" apos) [.Constant (.str y) j0 c0, .Constant (.str z) j1 c1] [] cpos :: r) (rdA X.K ca (fun e h => bnd (fa e h) fun x h1 => match x with
        | .str s => if s.length + (s.length + 1) * z.length ≤ 16777216 then bnd (fl e h1) fun vs h2 => some (.ok (.str (Txt.replace s y z) :: vs) h2) else none
        | _ => none) W) := by
  refine ⟨fun pos pins s σ H Q h0 I ⟨ρ, h, e, S, re, k⟩ => ?_⟩
  show wpAny _ _ (spliced ((false, eval (.Call (.Attribute a "replace" apos) [.Constant (.str y) j0 c0, .Constant (.str z) j1 c1] [] cpos) X.env) :: backTo pos (starEach r X.env))) _ _ s
  refine Calls.spliced_cons ?_
  refine PySem.Call_method2 (base_no hb _ _) rfl hl ?_
  have run := ha.run pins s σ H (fun u H1 => ∃ t : Str, u = .str t ∧ t.length + (t.length + 1) * z.length ≤ 16777216 ∧ rdA X.K ca fl W σ H1 fun us H2 => Q (.str (Txt.replace t y z) :: us) H2) I ⟨ρ, h, e, S, re, k.bnd fun x h1 ρ1 H1 u _ g1 S1 r1 k1 => by
    split at k1
    · rename_i t
      cases r1
      split at k1
      · rename_i hz
        refine ⟨_, rfl, hz, ρ1, h1, e, S1, re.mono S g1, k1.bnd fun y h2 ρ2 H2 v _ g2 S2 r2 k2 => ?_⟩
        exact k2 ρ2 H2 _ Grow.refl S2 (.cons (.str _) r2)
      · exact k1.elim
    · exact k1.elim⟩
  refine wpAny_mono (PySem.wpAny_toks run) (fun u s1 q => ?_) fun _ _ z => z.2
  obtain ⟨ht, v', H1, I1, r1, t, e1, hb', q⟩ := q
  subst e1
  obtain ⟨tx, e2⟩ := r1
  subst e2
  refine ⟨"str", _, PySem.F.plainAttrs_str, PySem.F.slot_str_replace, PySem.F.type_str_replace, typeIs_str _ _ _, (fun _ e => nomatch e), Calls.callWith_builtin rfl (Calls.evalArgs_plain (Calls.spliced_cons ?_))⟩
  refine Calls.Constant_str (Calls.spliced_cons (Calls.Constant_str (Calls.spliced_nil ?_)))
  refine wpAny_mono (PySem.wpAny_toks (PySem.SC.replace (Q := fun u s' => ∃ t' n, u = .str (Txt.replace t y z) t' ∧ s' = { s1 with toks := n }) (by show s1.toks ≠ 0; omega) (by show s1.toks + 1 ≠ 0; omega) (by show s1.toks ≠ s1.toks + 1; omega) hyz hb' fun t' n => ⟨t', n, rfl, rfl⟩)) (fun u s2 q2 => ?_) fun _ _ z => z.2
  obtain ⟨hn, t', n, rfl, rfl⟩ := q2
  have hn : s1.toks + 1 + 1 ≤ n := hn
  exact thn (hr.run pos pins { s1 with toks := n } σ H1 _ (by show n ≠ 0; omega) (I1.tok n) q) fun us s2 ⟨xs, H2, I2, r2, q2⟩ => ⟨V.str (Txt.replace t y z) :: xs, H2, I2, .cons (show ∃ t2, Value.str (Txt.replace t y z) t' = Value.str (Txt.replace t y z) t2 from ⟨t', rfl⟩) r2, q2⟩
/-- the rest of a list behind an item that surely makes a text -/
theorem a_grow {f2 : MEnv → MH → Option Out} (hn : notStar a = true) (hr : PAt X r (rdA X.K ca fl W))
    (hg : ∀ (pins : List (Addr × Obj)) (s : Shared) (σ : L2.St) (H : Hp) (Q : VK), Inv X pins σ H s → rdE X.K ca f2 W σ H Q → wpAny (model X.prog X.w) X.A (eval a X.env) (fun u s' => s'.toks ≠ 0 ∧ EP X pins σ Q u s') X.xe s) :
    PA X (a :: r) (rdA X.K ca (fun e h => bnd (f2 e h) fun x h1 => bnd (fl e h1) fun vs h2 => some (.ok (x :: vs) h2)) W) := by
  refine ⟨fun pos pins s σ H Q I ⟨ρ, h, e, S, re, k⟩ => ?_⟩
  rw [star_no hn]
  show wpAny _ _ (spliced ((false, eval a X.env) :: backTo pos (starEach r X.env))) _ _ s
  refine Calls.spliced_cons (thn (hg pins s σ H (fun u H1 => rdA X.K ca fl W σ H1 fun us H2 => Q (u :: us) H2) I ⟨ρ, h, e, S, re, k.bnd fun x h1 ρ1 H1 u _ g1 S1 r1 k1 => ?_⟩) fun u s1 q => ?_)
  · refine ⟨ρ1, h1, e, S1, re.mono S g1, k1.bnd fun y h2 ρ2 H2 v _ g2 S2 r2 k2 => ?_⟩
    exact k2 ρ2 H2 _ Grow.refl S2 (.cons (r1.mono S1 g2) r2)
  · obtain ⟨ht, x, H1, I1, r1, q1⟩ := q
    exact thn (hr.run pos pins s1 σ H1 _ ht I1 q1) fun us s2 ⟨xs, H2, I2, r2, q2⟩ => ⟨x :: xs, H2, I2, .cons r1 r2, q2⟩
theorem grow_l {x : Str} {j : Nat} {p1 : Pos} (hb : PE X b (rdE X.K ca fb W)) (pins : List (Addr × Obj)) (s : Shared) (σ : L2.St) (H : Hp) (Q : VK) (I : Inv X pins σ H s)
    (hq : rdE X.K ca (fun e h => bnd (some (.ok (.str x) h)) fun x h1 => bnd (fb e h1) fun y h2 => fin (binop .Add x y h2)) W σ H Q) :
    wpAny (model X.prog X.w) X.A (eval (.BinOp (.Constant (.str x) j p1) .Add b pos) X.env) (fun u s' => s'.toks ≠ 0 ∧ EP X pins σ Q u s') X.xe s := by
  obtain ⟨ρ, h, e, S, re, k⟩ := hq
  refine wpAny_BinOp (Calls.Constant_str ?_)
  have k1 : OutK X.K ca (RV X.K ca) ρ H (bnd (fb e h) fun y h2 => fin (binop .Add (.str x) y h2)) Q (fun cls d H' => W cls d σ H') := k
  refine wpAny_mono (PySem.wpAny_toks (hb.run pins { s with toks := s.toks + 1 } σ H (fun v H2 => rBin X.K .Add (.str x) v H2 Q) (I.tok _) ⟨ρ, h, e, S, re, k1.bnd fun y h2 ρ2 H2 v _ g2 S2 r2 k2 => ?_⟩)) (fun v s1 q => ?_) fun _ _ z => z.2
  · obtain ⟨z, h3, e3, q⟩ := k2.end
    exact bin_ok S2 (.str x) r2 .Add e3 q
  · obtain ⟨hn, y, H2, I2, r2, q⟩ := q
    have hn : s.toks + 1 ≤ s1.toks := hn
    refine wpAny_mono (PySem.wpAny_toks (op_bin .Add pins s1 σ H2 (.str x) y _ v Q I2 ⟨_, rfl⟩ r2 q)) (fun u s2 z => ⟨?_, z.2⟩) fun _ _ z => z.2
    have := z.1
    omega
theorem grow_r {x : Str} {j : Nat} {p1 : Pos} (ha : PE X a (rdE X.K ca fa W)) (pins : List (Addr × Obj)) (s : Shared) (σ : L2.St) (H : Hp) (Q : VK) (I : Inv X pins σ H s)
    (hq : rdE X.K ca (fun e h => bnd (fa e h) fun y h1 => bnd (some (.ok (.str x) h1)) fun z h2 => fin (binop .Add y z h2)) W σ H Q) :
    wpAny (model X.prog X.w) X.A (eval (.BinOp a .Add (.Constant (.str x) j p1) pos) X.env) (fun u s' => s'.toks ≠ 0 ∧ EP X pins σ Q u s') X.xe s := by
  obtain ⟨ρ, h, e, S, re, k⟩ := hq
  refine wpAny_BinOp (thn (ha.run pins s σ H (fun v H2 => rBin X.K .Add v (.str x) H2 Q) I ⟨ρ, h, e, S, re, k.bnd fun y h2 ρ2 H2 v _ g2 S2 r2 k2 => ?_⟩) fun v s1 q => ?_)
  · have k3 : OutK X.K ca (RV X.K ca) ρ2 H2 (fin (binop .Add y (.str x) h2)) Q (fun cls d H' => W cls d σ H') := k2
    obtain ⟨z, h3, e3, q⟩ := k3.end
    exact bin_ok S2 r2 (.str x) .Add e3 q
  · obtain ⟨y, H2, I2, r2, q⟩ := q
    refine Calls.Constant_str ?_
    refine wpAny_mono (PySem.wpAny_toks (op_bin .Add pins { s1 with toks := s1.toks + 1 } σ H2 y (.str x) v _ Q (I2.tok _) r2 ⟨_, rfl⟩ q)) (fun u s2 z => ⟨?_, z.2⟩) fun _ _ z => z.2
    have z1 : s1.toks + 1 ≤ s2.toks := z.1
    omega
/-! ### displays -/
theorem s_tup {j : Nat} (hr : PA X es (rdA X.K ca fl W)) : PE X (.Tuple es j pos) (rdE X.K ca (fun e h => bnd (fl e h) fun vs h1 => if vs.length ≤ sizeLine then some (.ok (.tup vs) h1) else none) W) := by
  refine ⟨fun pins s σ H Q I ⟨ρ, h, e, S, re, k⟩ => ?_⟩
  refine (pe_tup hr).run pins s σ H Q I ⟨ρ, h, e, S, re, k.bnd fun x h1 ρ1 H1 u _ g1 S1 r1 k1 => ?_⟩
  split at k1
  · rename_i hl
    exact ⟨by rw [← r1.length]; exact hl, fun p hp => End.tup (show End X.K ca ρ1 H1 _ h1 Q from k1) S1 r1 hp⟩
  · exact k1.elim
theorem s_lst (hr : PA X es (rdA X.K ca fl W)) : PE X (.List es pos) (rdE X.K ca (fun e h => bnd (fl e h) fun vs h1 => newL vs h1) W) := by
  refine ⟨fun pins s σ H Q I ⟨ρ, h, e, S, re, k⟩ => ?_⟩
  refine (pe_lst hr).run pins s σ H Q I ⟨ρ, h, e, S, re, k.bnd fun x h1 ρ1 H1 u _ g1 S1 r1 k1 => ?_⟩
  unfold newL at k1
  split at k1
  · rename_i hl
    exact ⟨by rw [← r1.length]; exact hl, fun p hp => End.new (show End X.K ca ρ1 H1 _ _ Q from k1) S1 (.lst r1) hp⟩
  · exact k1.elim
theorem s_dict0 : PE X (.Dict [] [] pos) (rdE X.K ca (fun _ h => some (.ok (.ref h.length) (h ++ [.dic []]))) W) := by
  refine ⟨fun pins s σ H Q I ⟨ρ, h, e, S, re, k⟩ => ?_⟩
  exact pe_dnewK.run pins s σ H Q I fun p hp => End.new (show End X.K ca ρ H _ _ Q from k) S (.dic .nil) hp
theorem s_dict1 (ha : PE X a (rdE X.K ca fa W)) (hb : PE X b (rdE X.K ca fb W)) :
    PE X (.Dict [some a] [b] pos) (rdE X.K ca (fun e h => bnd (fa e h) fun x h1 => bnd (fb e h1) fun y h2 => match key? x with
        | some q => some (.ok (.ref h2.length) (h2 ++ [.dic [(q, y)]]))
        | none => none) W) := by
  refine ⟨fun pins s σ H Q I ⟨ρ, h, e, S, re, k⟩ => ?_⟩
  refine (pe_disp (pps_cons ha hb pps_nil) rfl rfl (by simp) (by simp)).run pins s σ H Q I fun p hp => ?_
  have hn : p ∉ ρ := S.new hp
  obtain ⟨S0, g0⟩ := S.tupd (u := .dK []) hp
  refine ⟨ρ, h, e, S0, re.mono S g0, OutK.bndG g0 k fun x h1 ρ1 H1 u _ g1 S1 r1 k1 => ?_⟩
  obtain ⟨n1, e1⟩ := g1.off upd_same hn
  refine ⟨ρ1, h1, e, S1, (re.mono S g0).mono S0 g1, OutK.bndG (g0.trans g1) k1 fun y h2 ρ2 H2 v _ g2 S2 r2 k2 => ?_⟩
  obtain ⟨n2, e2⟩ := g2.off e1 n1
  show H2 p = some (.dK []) ∧ _
  split at k2
  · rename_i q hq
    refine ⟨e2, [(q, v)], ?_, by simp, ?_⟩
    · rw [key_ok r1 hq]
      rfl
    · have kk : ∀ a o, H2 a = some o → a ≠ p → upd H2 p (.dK [(q, v)]) a = some o := fun a o z na => by rw [upd_ne na]; exact z
      have kd : ∀ o, H2 p = some o → Kd o := fun o z => by
        rw [e2] at z
        cases z
        trivial
      have S3 := S2.offW n2 kd kk
      have S4 := S3.adopt (D := p) n2 (o := .dic [(q, y)]) upd_same (.dic (.cons ⟨rfl, (r2.mono2 ⟨[], by simp⟩ (kn_of kd kk))⟩ .nil))
      have G := ((g0.trans g1).trans g2).adopt hp kk
      refine k2 _ _ _ G S4 (.ref ?_)
      rw [← S2.len, List.getElem?_append_right (Nat.le_refl _), Nat.sub_self]
      rfl
  · exact k2.elim
/-! ### subscripts -/
theorem o_none : PO X none (rdO X.K ca (fun _ h => some (.ok none h)) W) := ⟨fun pins s σ H Q I ⟨ρ, h, e, S, re, k⟩ => po_none.run pins s σ H Q I (k ρ H _ Grow.refl S rfl)⟩
theorem o_some (ha : PE X a (rdE X.K ca fa W)) : PO X (some a) (rdO X.K ca (fun e h => bnd (fa e h) fun x h1 => match x with
      | .int i => some (.ok (some i) h1)
      | _ => none) W) := by
  refine ⟨fun pins s σ H Q I ⟨ρ, h, e, S, re, k⟩ => ?_⟩
  refine (po_some ha).run pins s σ H Q I ⟨ρ, h, e, S, re, k.bnd fun x h1 ρ1 H1 u _ g1 S1 r1 k1 => ?_⟩
  split at k1
  · cases r1
    exact ⟨_, rfl, k1 ρ1 H1 _ Grow.refl S1 rfl⟩
  · exact k1.elim
theorem s_slice {lo hi : Option Expr} {p2 : Pos} {fo fh : MEnv → MH → Option (Res (Option Int))} (ha : PE X a (rdE X.K ca fa W)) (hl : PO X lo (rdO X.K ca fo W)) (hh : PO X hi (rdO X.K ca fh W)) :
    PE X (.Subscript a (.Slice lo hi none p2) pos) (rdE X.K ca (fun e h => bnd (fa e h) fun x h1 => bnd (fo e h1) fun l h2 => bnd (fh e h2) fun r h3 => fin (slice x l r h3)) W) := by
  refine ⟨fun pins s σ H Q I ⟨ρ, h, e, S, re, k⟩ => ?_⟩
  refine (pe_slice sl_all ha hl hh).run pins s σ H Q I ⟨ρ, h, e, S, re, k.bnd fun x h1 ρ1 H1 u _ g1 S1 r1 k1 => ?_⟩
  refine ⟨ρ1, h1, e, S1, re.mono S g1, k1.bnd fun l h2 ρ2 H2 l' _ g2 S2 r2 k2 => ?_⟩
  refine ⟨ρ2, h2, e, S2, (re.mono S g1).mono S1 g2, k2.bnd fun m h3 ρ3 H3 m' _ g3 S3 r3 k3 => ?_⟩
  obtain ⟨z, h4, e4, q⟩ := k3.end
  cases r2
  cases r3
  exact slice_ok S3 ((r1.mono S1 g2).mono S2 g3) l m e4 q
theorem plainIx (h : ∀ lo hi st p, b ≠ .Slice lo hi st p) : PlainIx b := by
  intro o i
  cases b <;> first | rfl | exact absurd rfl (h _ _ _ _)
theorem s_sub (hu : X.A.units + 1 < cLine) (hp : ∀ lo hi st p, b ≠ .Slice lo hi st p) (ha : PE X a (rdE X.K ca fa W)) (hb : PE X b (rdE X.K ca fb W)) :
    PE X (.Subscript a b pos) (rdE X.K ca (fun e h => bnd (fa e h) fun x h1 => bnd (fb e h1) fun y h2 => at_ h2 (item x y h2)) W) := by
  refine ⟨fun pins s σ H Q I ⟨ρ, h, e, S, re, k⟩ => ?_⟩
  refine (pe_ix (ix_it hu) ha hb (plainIx hp)).run pins s σ H Q I ⟨ρ, h, e, S, re, k.bnd fun x h1 ρ1 H1 u _ g1 S1 r1 k1 => ?_⟩
  refine ⟨ρ1, h1, e, S1, re.mono S g1, k1.bnd fun y h2 ρ2 H2 v _ g2 S2 r2 k2 => ?_⟩
  obtain ⟨z, e3, q⟩ := k2.at
  exact item_ok S2 (r1.mono S1 g2) r2 e3 q
end
end Sd
end T_Sd8
section T_Sd9
set_option linter.all false
set_option maxRecDepth 100000
set_option maxHeartbeats 1000000
/-! Sd9: targets, what is walked, comprehensions. -/
namespace Sd
open PySem PySem.Spec PyProof.Rows L2 Ev
/-! ### targets of for and of comprehensions -/
/-- only the slots at `is` have changed -/
structure SameBut (is : List Nat) (σ σ1 : L2.St) : Prop where
  len : σ1.length = σ.length
  at_ : ∀ j, j ∉ is → σ1[j]? = σ[j]?
theorem SameBut.refl {is : List Nat} {σ : L2.St} : SameBut is σ σ := ⟨rfl, fun _ _ => rfl⟩
theorem SameBut.set {is : List Nat} {σ σ1 : L2.St} (s : SameBut is σ σ1) {i : Nat} (hi : i ∈ is) (v : Option V) : SameBut is σ (σ1.set i v) :=
  ⟨by rw [List.length_set]; exact s.len, fun j hj => by rw [List.getElem?_set_ne (fun z => hj (by rw [← z]; exact hi))]; exact s.at_ j hj⟩
theorem wipe_get (σ : L2.St) : ∀ (vs : List Nat) (j : Nat), (wipe σ vs)[j]? = if j ∈ vs ∧ j < σ.length then some none else σ[j]?
  | [], j => by
    rw [if_neg (by simp)]
    rfl
  | v :: vs, j => by
    unfold L2.wipe
    by_cases hv : v = j
    · subst hv
      by_cases hl : v < σ.length
      · rw [if_pos ⟨by simp, hl⟩, List.getElem?_set_self (by rw [wipe_length]; exact hl)]
      · rw [if_neg (fun z => hl z.2)]
        rw [List.getElem?_eq_none (by rw [List.length_set, wipe_length]; omega), List.getElem?_eq_none (by omega)]
    · rw [List.getElem?_set_ne hv, wipe_get σ vs j]
      have : (j ∈ v :: vs ∧ j < σ.length) ↔ (j ∈ vs ∧ j < σ.length) := by
        rw [List.mem_cons]
        exact ⟨fun z => ⟨z.1.resolve_left fun q => hv q.symm, z.2⟩, fun z => ⟨.inr z.1, z.2⟩⟩
      by_cases hq : j ∈ vs ∧ j < σ.length
      · rw [if_pos hq, if_pos (this.mpr hq)]
      · rw [if_neg hq, if_neg (fun z => hq (this.mp z))]
theorem SameBut.wipe {is vs : List Nat} {σ σ1 : L2.St} (s : SameBut is (L2.wipe σ vs) σ1) (h : ∀ i ∈ is, i ∈ vs) : L2.wipe σ1 vs = L2.wipe σ vs := by
  have hl : σ1.length = σ.length := by rw [s.len, wipe_length]
  refine List.ext_getElem? fun j => ?_
  rw [wipe_get, wipe_get, hl]
  by_cases hj : j ∈ vs ∧ j < σ.length
  · rw [if_pos hj, if_pos hj]
  · rw [if_neg hj, if_neg hj]
    by_cases hv : j ∈ vs
    · have h2 : ¬ j < σ.length := fun z => hj ⟨hv, z⟩
      rw [List.getElem?_eq_none (by omega), List.getElem?_eq_none (by omega)]
    · rw [s.at_ j fun z => hv (h j z), wipe_get, if_neg hj]
/-- the places of a target's names -/
def tIx (sc : Scope) (N : List Str) : Expr → List Nat
  | .Tuple ts _ _ => (tgts sc N ts).getD []
  | t => (tgt sc N t).toList
/-- a store's reading by the evaluator -/
def gB (K : PySem.W.Frag) (ca : Str → Addr) (sc : Scope) (N : List Str) (t : Expr) : TG := fun u σ H Q =>
  ∃ ρ h e x e1, Sim K ca ρ h H ∧ RE K ca ρ H e σ ∧ RV K ca ρ H x u ∧ bind1 sc N t x e h = some e1 ∧ ∀ σ1, RE K ca ρ H e1 σ1 → SameBut (tIx sc N t) σ σ1 → Q σ1 H
def gBs (K : PySem.W.Frag) (ca : Str → Addr) (is all : List Nat) : TGs := fun us σ H Q =>
  ∃ ρ h e xs e1 σ0, Sim K ca ρ h H ∧ RE K ca ρ H e σ ∧ RVs K ca ρ H xs us ∧ setEs e is xs = some e1 ∧ SameBut all σ0 σ ∧ ∀ σ1, RE K ca ρ H e1 σ1 → SameBut all σ0 σ1 → Q σ1 H
section
variable {X : Cx} {C : Cxt} {ca : Str → Addr} {sc : Scope} {W : WX} {t a b c : Expr} {es r : List Expr} {pos : Pos}
theorem tgt_at {sc : Scope} {N : List Str} {i : Nat} (h : tgt sc N t = some i) : ∃ x p, t = .Name x p ∧ N[i]? = some x ∧ (sc.names.lookup x = some .local ∨ sc.names.lookup x = some .cell) := by
  unfold tgt at h
  split at h
  · rename_i x p
    rw [lk_lookup] at h
    split at h
    · rename_i q
      exact ⟨x, p, rfl, idx_at h, .inl q⟩
    · rename_i q
      exact ⟨x, p, rfl, idx_at h, .inr q⟩
    · cases h
  · cases h
theorem XG.loc (G : XG X C ca sc W) {x : Str} (h : sc.names.lookup x = some .local ∨ sc.names.lookup x = some .cell) : Loc X.env.scope x ∧ (X.fn x = true ∨ X.env.scope.names.lookup x = some .local) := by
  rcases h with h | h
  · exact ⟨.inl (G.sc.loc x h), .inr (G.sc.loc x h)⟩
  · exact ⟨.inr (G.sc.cell x h), .inl (G.sc.st x h)⟩
theorem XG.name (G : XG X C ca sc W) {i : Nat} (h : tgt sc X.N t = some i) : PG X t (gName i) := by
  obtain ⟨x, p, rfl, h1, h2⟩ := tgt_at h
  obtain ⟨l1, l2⟩ := G.loc h2
  exact pg_name G.nd h1 l1 l2
theorem each_no {e : Expr} (h : notStar e = true) : (assignEach (e :: es) X.env).map (·.2) = assign e X.env :: (assignEach es X.env).map (·.2) := by cases e <;> first | rfl | cases h
theorem tgts_cons {sc : Scope} {N : List Str} {is : List Nat} (h : tgts sc N (t :: es) = some is) : ∃ i js, tgt sc N t = some i ∧ tgts sc N es = some js ∧ is = i :: js := by
  unfold tgts at h
  split at h
  · rename_i i hi
    split at h
    · rename_i js hj
      cases h
      exact ⟨i, js, hi, hj, rfl⟩
    · cases h
  · cases h
theorem XG.names (G : XG X C ca sc W) {all : List Nat} : ∀ {ts : List Expr} {is : List Nat}, tgts sc X.N ts = some is → (∀ i ∈ is, i ∈ all) → PGs X ts (gBs X.K ca is all)
  | [], is, h, _ => by
    cases h
    refine ⟨fun pins s σ H us uu Q I r hq => ?_⟩
    obtain ⟨ρ, h, e, xs, e1, σ0, S, re, rx, q1, sb, q⟩ := hq
    refine pgs_nil.run pins s σ H us uu Q I r ?_
    cases rx with
    | nil =>
      cases q1
      exact ⟨rfl, q σ re sb⟩
    | cons _ _ => cases q1
  | t :: ts, is, h, hall => by
    obtain ⟨i, js, h1, h2, rfl⟩ := tgts_cons h
    obtain ⟨x, p, rfl, _, _⟩ := tgt_at h1
    refine ⟨fun pins s σ H us uu Q I r hq => ?_⟩
    obtain ⟨ρ, h, e, xs, e1, σ0, S, re, rx, q1, sb, q⟩ := hq
    refine (pgs_cons (G.name h1) (G.names h2 fun j hj => hall j (List.mem_cons_of_mem _ hj)) (each_no rfl)).run pins s σ H us uu Q I r ?_
    cases rx with
    | nil => cases q1
    | cons rx rxs => exact ⟨_, _, rfl, ρ, h, _, _, e1, σ0, S, re.set i rx, rxs, q1, sb.set (hall i (List.mem_cons_self ..)) _, q⟩
theorem tgts_len (X : Cx) {sc : Scope} {N : List Str} : ∀ {ts : List Expr} {is : List Nat}, tgts sc N ts = some is → is.length = ts.length ∧ (assignEach ts X.env).length = ts.length ∧ (assignEach ts X.env).findIdx? (·.1) = none
  | [], is, h => by
    cases h
    exact ⟨rfl, rfl, rfl⟩
  | t :: ts, is, h => by
    obtain ⟨i, js, h1, h2, rfl⟩ := tgts_cons h
    obtain ⟨x, p, rfl, _, _⟩ := tgt_at h1
    obtain ⟨l1, l2, l3⟩ := tgts_len X h2
    have e : assignEach (Expr.Name x p :: ts) X.env = (false, assign (.Name x p) X.env) :: assignEach ts X.env := rfl
    refine ⟨by rw [List.length_cons, List.length_cons, l1], by rw [e, List.length_cons, List.length_cons, l2], ?_⟩
    rw [e, List.findIdx?_cons, l3]
    rfl
theorem setEs_len : ∀ {is : List Nat} {xs : List MV} {e e1 : MEnv}, setEs e is xs = some e1 → is.length = xs.length
  | [], [], _, _, _ => rfl
  | [], _ :: _, _, _, h => by cases h
  | _ :: _, [], _, _, h => by cases h
  | i :: is, x :: xs, e, e1, h => by rw [List.length_cons, List.length_cons, setEs_len (is := is) (xs := xs) h]
theorem XG.bind (G : XG X C ca sc W) : PG X t (gB X.K ca sc X.N t) := by
  refine ⟨fun pins s σ H u uu Q I r hq => ?_⟩
  obtain ⟨ρ, h, e, x, e1, S, re, rx, q1, q⟩ := hq
  unfold bind1 at q1
  split at q1
  · rename_i ts k p
    split at q1
    · rename_i vs
      split at q1
      · rename_i is hi
        have hz : tIx sc X.N (.Tuple ts k p) = is := by
          show (tgts sc X.N ts).getD [] = is
          rw [hi]
          rfl
        rw [hz] at q
        obtain ⟨l1, l2, l3⟩ := tgts_len X hi
        cases rx with
        | tup qt rs =>
          refine (pg_tup G.calm (G.names hi fun i hi => hi) (n := ts.length) l2 l3).run pins s σ H _ uu Q I r ?_
          refine ⟨_, _, rfl, qt, ?_, ρ, h, e, vs, e1, σ, S, re, rs, q1, .refl, q⟩
          rw [← rs.length, ← setEs_len q1, l1]
      · cases q1
    · cases q1
  · split at q1
    · rename_i i hi
      cases q1
      have hz : i ∈ tIx sc X.N t := by
        obtain ⟨y, p, rfl, _, _⟩ := tgt_at hi
        show i ∈ (tgt sc X.N (.Name y p)).toList
        rw [hi]
        simp
      exact (G.name hi).run pins s σ H u uu Q I r (q _ (re.set i rx) (SameBut.refl.set hz _))
    · cases q1
end
/-! ### iterators -/
inductive RI (K : PySem.W.Frag) (ρ : List Addr) (RS : List MV → List V → Prop) (H : Hp) : Ev.It → L2.It → Nat → Prop where
  | lst {k i : Nat} {a : Addr} : ρ[k]? = some a → RI K ρ RS H (.lst k i) (Itl K a) i
  | tup {xs : List MV} {vs : List V} {a : Addr} {i : Nat} : SqT K H a vs → RS xs (vs.drop i) → RI K ρ RS H (.tup xs) (Itt K a) i
  | str {x : Str} {i : Nat} : RI K ρ RS H (.str (x.cps.toList.drop i)) (Its x) i
  | rng {lo : Int} {n i : Nat} : i ≤ n → RI K ρ RS H (.rng (lo + i) (n - i)) (Itr lo n) i
  | enum {k i : Nat} {a : Addr} : ρ[k]? = some a → RI K ρ RS H (.enum k i) (Ite K a) i
  | zip {xs ys : List MV} {vs us : List V} {a b : Addr} {i : Nat} : SqT K H a vs → SqT K H b us → RS xs (vs.drop i) → RS ys (us.drop i) → RI K ρ RS H (.zip xs ys) (RZ.ItzT K a b) i
  | zipL {k m i : Nat} {a b : Addr} : ρ[k]? = some a → ρ[m]? = some b → RI K ρ RS H (.zipL k m i) (Itz K a b) i
abbrev RIt (K : PySem.W.Frag) (ca : Str → Addr) (ρ : List Addr) (H : Hp) : Ev.It → L2.It → Nat → Prop := RI K ρ (RVs K ca ρ H) H
section
variable {K : PySem.W.Frag} {ca : Str → Addr} {ρ ρ' : List Addr} {h h' : MH} {H H' : Hp} {w w' : Ev.It} {J : L2.It} {i : Nat} {x : MV}
theorem RIt.mono2 (pre : ∃ l, ρ' = ρ ++ l) (kn : ∀ a o, H a = some o → ¬ Kd o → H' a = some o) (r : RIt K ca ρ H w J i) : RIt K ca ρ' H' w J i := by
  have px : ∀ {n : Nat} {a : Addr}, ρ[n]? = some a → ρ'[n]? = some a := fun {n a} e => by
    obtain ⟨l, rfl⟩ := pre
    obtain ⟨hl, _⟩ := List.getElem?_eq_some_iff.mp e
    rw [List.getElem?_append_left hl]
    exact e
  cases r with
  | lst e => exact .lst (px e)
  | tup q r => exact .tup (sqT_kn kn q) (r.mono2 pre kn)
  | str => exact .str
  | rng e => exact .rng e
  | enum e => exact .enum (px e)
  | zip q q' r r' => exact .zip (sqT_kn kn q) (sqT_kn kn q') (r.mono2 pre kn) (r'.mono2 pre kn)
  | zipL e e' => exact .zipL (px e) (px e')
theorem Grow.kn (S : Sim K ca ρ h H) (g : Grow ρ H ρ' H') : ∀ a o, H a = some o → ¬ Kd o → H' a = some o := fun a o e n => g.keep a o e (S.off e n)
theorem RIt.mono (S : Sim K ca ρ h H) (g : Grow ρ H ρ' H') (r : RIt K ca ρ H w J i) : RIt K ca ρ' H' w J i := r.mono2 g.pre (g.kn S)
theorem drop_cons {α : Type} {l : List α} {i : Nat} {v : α} {r : List α} (h : l.drop i = v :: r) : l[i]? = some v ∧ l.drop (i + 1) = r ∧ i < l.length := by
  have hl : i < l.length := by
    rcases Nat.lt_or_ge i l.length with z | z
    · exact z
    · rw [List.drop_eq_nil_of_le z] at h
      cases h
  rw [List.drop_eq_getElem_cons hl] at h
  injection h with h1 h2
  exact ⟨by rw [List.getElem?_eq_getElem hl, h1], h2, hl⟩
theorem drop_nil_le {α : Type} {l : List α} {i : Nat} (h : l.drop i = []) : l.length ≤ i := by
  have := congrArg List.length h
  rw [List.length_drop, List.length_nil] at this
  omega
/-- the walk ends -/
theorem RIt.stop (S : Sim K ca ρ h H) (r : RIt K ca ρ H w J i) (e : w.next h = some none) : J.stop i H := by
  cases r with
  | @lst k i a q =>
    simp only [It.next] at e
    split at e
    · rename_i xs hx
      obtain ⟨vs, h1, h2⟩ := S.lst hx q
      split at e
      · cases e
      · rename_i hn
        exact ⟨vs, SqL.of h1, by rw [← h2.length]; exact List.getElem?_eq_none_iff.mp hn⟩
    · cases e
  | @tup xs vs a i q r =>
    cases xs with
    | cons _ _ => cases e
    | nil =>
      generalize hd : vs.drop i = ds at r
      cases r
      exact ⟨vs, q, drop_nil_le hd⟩
  | @str x i =>
    generalize hd : x.cps.toList.drop i = ds at e
    cases ds with
    | cons _ _ => cases e
    | nil =>
      have := drop_nil_le hd
      show x.cps.size ≤ i
      simpa using this
  | @rng lo n i q =>
    generalize hd : n - i = m at e
    cases m with
    | succ _ => cases e
    | zero =>
      show n ≤ i
      omega
  | @enum k i a q =>
    simp only [It.next] at e
    split at e
    · rename_i xs hx
      obtain ⟨vs, h1, h2⟩ := S.lst hx q
      split at e
      · cases e
      · rename_i hn
        exact ⟨vs, SqL.of h1, by rw [← h2.length]; exact List.getElem?_eq_none_iff.mp hn⟩
    · cases e
  | @zip xs ys vs us a b i q q' r r' =>
    cases xs with
    | nil =>
      generalize hd : vs.drop i = ds at r
      cases r
      exact ⟨vs, us, q, q', .inl (drop_nil_le hd)⟩
    | cons _ _ =>
      cases ys with
      | nil =>
        generalize hd : us.drop i = ds at r'
        cases r'
        exact ⟨vs, us, q, q', .inr (drop_nil_le hd)⟩
      | cons _ _ => cases e
  | @zipL k m i a b q q' =>
    simp only [It.next] at e
    split at e
    · rename_i xs ys hx hy
      obtain ⟨vs, h1, h2⟩ := S.lst hx q
      obtain ⟨us, h3, h4⟩ := S.lst hy q'
      split at e
      · cases e
      · rename_i hn
        refine ⟨vs, us, SqL.of h1, SqL.of h3, ?_⟩
        rw [← h2.length, ← h4.length]
        cases e1 : xs[i]? with
        | none => exact .inl (List.getElem?_eq_none_iff.mp e1)
        | some x =>
          cases e2 : ys[i]? with
          | none => exact .inr (List.getElem?_eq_none_iff.mp e2)
          | some y => exact absurd e2 (hn x y e1)
    · cases e
/-- one step of the walk -/
theorem RIt.step (S : Sim K ca ρ h H) (r : RIt K ca ρ H w J i) (e : w.next h = some (some (x, w'))) :
    J.go i H ∧ ∀ u H', J.yld i H u H' → Grow ρ H ρ H' ∧ Sim K ca ρ h H' ∧ RV K ca ρ H' x u ∧ RIt K ca ρ H' w' J (i + 1) := by
  cases r with
  | @lst k i a q =>
    simp only [It.next] at e
    split at e
    · rename_i xs hx
      obtain ⟨vs, h1, h2⟩ := S.lst hx q
      split at e
      · rename_i y hy
        cases e
        obtain ⟨v, h3, h4⟩ := h2.get hy
        refine ⟨⟨vs, v, SqL.of h1, h3⟩, fun u H' hu => ?_⟩
        obtain ⟨e1, e2⟩ := hu
        subst e1
        have e3 := e2 vs (SqL.of h1)
        rw [h3] at e3
        cases e3
        exact ⟨.refl, S, h4, .lst q⟩
      · cases e
    · cases e
  | @tup xs vs a i q r =>
    cases xs with
    | nil => cases e
    | cons _ _ =>
      cases e
      generalize hd : vs.drop i = ds at r
      cases r with
      | cons r rs =>
        obtain ⟨e1, e2, e3⟩ := drop_cons hd
        refine ⟨⟨vs, _, q, e1⟩, fun u H' hu => ?_⟩
        obtain ⟨z1, z2⟩ := hu
        subst z1
        have z3 := z2 vs q
        rw [e1] at z3
        cases z3
        exact ⟨.refl, S, r, .tup q (by rw [e2]; exact rs)⟩
  | @str t i =>
    generalize hd : t.cps.toList.drop i = ds at e
    cases ds with
    | nil => cases e
    | cons c cs =>
      cases e
      obtain ⟨e1, e2, e3⟩ := drop_cons hd
      refine ⟨?_, fun u H' hu => ?_⟩
      · show i < t.cps.size
        simpa using e3
      · obtain ⟨z1, c', z2, z3⟩ := hu
        subst z1
        have z4 : t.cps[i]? = some c := by rw [← Array.getElem?_toList]; exact e1
        rw [z4] at z2
        cases z2
        subst z3
        refine ⟨.refl, S, .str _, ?_⟩
        rw [← e2]
        exact .str
  | @rng lo n i q =>
    generalize hd : n - i = m at e
    cases m with
    | zero => cases e
    | succ m =>
      cases e
      refine ⟨(by show i < n; omega), fun u H' hu => ?_⟩
      obtain ⟨z1, z2⟩ := hu
      subst z1 z2
      refine ⟨.refl, S, .int _, ?_⟩
      have e1 : m = n - (i + 1) := by omega
      have e2 : lo + (i : Int) + 1 = lo + ((i + 1 : Nat) : Int) := by omega
      rw [e1, e2]
      exact .rng (by omega)
  | @enum k i a q =>
    simp only [It.next] at e
    split at e
    · rename_i xs hx
      obtain ⟨vs, h1, h2⟩ := S.lst hx q
      split at e
      · rename_i y hy
        cases e
        obtain ⟨v, h3, h4⟩ := h2.get hy
        refine ⟨⟨vs, v, SqL.of h1, h3⟩, fun u H' hu => ?_⟩
        obtain ⟨T, v', z1, z2, z3, z4⟩ := hu
        subst z1 z3
        have z5 := z4 vs (SqL.of h1)
        rw [h3] at z5
        cases z5
        obtain ⟨S2, g⟩ := S.tupd (u := .tup [V.int (i : Nat), v]) z2
        exact ⟨g, S2, .tup (SqT.of upd_same) (.cons (.int _) (.cons (h4.mono S g) .nil)), .enum q⟩
      · cases e
    · cases e
  | @zip xs ys vs us a b i q q' r r' =>
    cases xs with
    | nil => cases e
    | cons _ _ =>
      cases ys with
      | nil => cases e
      | cons _ _ =>
        cases e
        generalize hd : vs.drop i = ds at r
        generalize hd' : us.drop i = ds' at r'
        cases r with
        | @cons _ uv _ _ r rs =>
          cases r' with
          | @cons _ wv _ _ r' rs' =>
            obtain ⟨e1, e2, e3⟩ := drop_cons hd
            obtain ⟨e1', e2', e3'⟩ := drop_cons hd'
            refine ⟨⟨vs, us, _, _, q, q', e1, e1'⟩, fun u H' hu => ?_⟩
            obtain ⟨T, v', w', z1, z2, z3, z4, z5⟩ := hu
            subst z1 z3
            have z6 := z4 vs q
            have z7 := z5 us q'
            rw [e1] at z6
            rw [e1'] at z7
            cases z6
            cases z7
            have g : Grow ρ H ρ (upd H T (.tup [uv, wv])) := (S.tupd z2).2
            exact ⟨g, (S.tupd z2).1, .tup (SqT.of upd_same) (.cons (r.mono S g) (.cons (r'.mono S g) .nil)), .zip (g.sqT S q) (g.sqT S q') (by rw [e2]; exact rs.mono S g) (by rw [e2']; exact rs'.mono S g)⟩
  | @zipL k m i a b q q' =>
    simp only [It.next] at e
    split at e
    · rename_i xs ys hx hy
      obtain ⟨vs, h1, h2⟩ := S.lst hx q
      obtain ⟨us, h1', h2'⟩ := S.lst hy q'
      split at e
      · rename_i x y hx hy
        cases e
        obtain ⟨v, h3, h4⟩ := h2.get hx
        obtain ⟨v', h3', h4'⟩ := h2'.get hy
        refine ⟨⟨vs, us, v, v', SqL.of h1, SqL.of h1', h3, h3'⟩, fun u H' hu => ?_⟩
        obtain ⟨T, w1, w2, z1, z2, z3, z4, z5⟩ := hu
        subst z1 z3
        have z6 := z4 vs (SqL.of h1)
        have z7 := z5 us (SqL.of h1')
        rw [h3] at z6
        rw [h3'] at z7
        cases z6
        cases z7
        obtain ⟨S2, g⟩ := S.tupd (u := .tup [v, v']) z2
        exact ⟨g, S2, .tup (SqT.of upd_same) (.cons (h4.mono S g) (.cons (h4'.mono S g) .nil)), .zipL q q'⟩
      · cases e
    · cases e
end
end Sd
end T_Sd9
section T_Sd10
set_option linter.all false
set_option maxRecDepth 100000
set_option maxHeartbeats 1000000
/-! Sd10: what is walked; comprehensions. -/
namespace Sd
open PySem PySem.Spec PyProof.Rows L2 Ev
abbrev rdI (K : PySem.W.Frag) (ca : Str → Addr) (f : MEnv → MH → Option OutI) (W : WX) : TI := rd K ca (fun ρ H w J => RIt K ca ρ H w J 0) f W
abbrev WF : WX := fun _ _ _ _ => False
section
variable {X : Cx} {C : Cxt} {ca : Str → Addr} {sc : Scope} {W : WX} {t a b c ex : Expr} {es r : List Expr} {pos p : Pos}
variable {fa fb fc : MEnv → MH → Option Out} {fl : MEnv → MH → Option OutL} {ft : MEnv → MH → Option OutB} {fi : MEnv → MH → Option OutI}
theorem i_val (ha : PE X ex (rdE X.K ca fa W)) : PI X t ex (rdI X.K ca (fun e h => if isSetE ex = true then none else bnd (fa e h) fun x h1 => at_ h1 (iterOf x h1)) W) := by
  refine ⟨fun pins s σ H R I ⟨ρ, h, e, S, re, k⟩ => ?_⟩
  dsimp only at k
  by_cases hs : isSetE ex = true
  · rw [if_pos hs] at k
    exact k.elim
  rw [if_neg hs] at k
  cases hfa : fa e h with
  | none => rw [hfa] at k; exact k.elim
  | some o =>
    rw [hfa] at k
    cases o with
    | exc y h1 =>
      refine (pi_list ha).run pins s σ H R I ⟨ρ, h, e, S, re, ?_⟩
      rw [hfa]
      exact k
    | ok x h1 =>
      cases x with
      | tup xs =>
        refine (pi_tup ha).run pins s σ H R I ⟨ρ, h, e, S, re, ?_⟩
        rw [hfa]
        intro ρ1 H1 u g1 S1 r1
        cases r1 with
        | tup q rs => exact ⟨_, rfl, ⟨_, q⟩, k ρ1 H1 _ g1 S1 (.tup q (by rw [List.drop_zero]; exact rs))⟩
      | str y =>
        refine (pi_str ha).run pins s σ H R I ⟨ρ, h, e, S, re, ?_⟩
        rw [hfa]
        intro ρ1 H1 u g1 S1 r1
        cases r1
        exact ⟨y, rfl, k ρ1 H1 _ g1 S1 (RI.str (x := y) (i := 0))⟩
      | ref n =>
        have k : OutK X.K ca (fun ρ H w J => RIt X.K ca ρ H w J 0) ρ H (at_ h1 (iterOf (.ref n) h1)) R (fun cls d H' => W cls d σ H') := k
        simp only [iterOf] at k
        split at k
        · rename_i xs hx
          refine (pi_list ha).run pins s σ H R I ⟨ρ, h, e, S, re, ?_⟩
          rw [hfa]
          intro ρ1 H1 u g1 S1 r1
          cases r1 with
          | ref q =>
            obtain ⟨vs, h3, h4⟩ := S1.lst hx q
            exact ⟨_, rfl, ⟨vs, SqL.of h3⟩, k ρ1 H1 _ g1 S1 (.lst q)⟩
        · exact k.elim
      | _ => exact k.elim
theorem rng0 {K : PySem.W.Frag} {ρ : List Addr} {H : Hp} (lo : Int) (n : Nat) : RIt K ca ρ H (.rng lo n) (Itr lo n) 0 := by
  have := RI.rng (K := K) (ρ := ρ) (RS := RVs K ca ρ H) (H := H) (lo := lo) (n := n) (i := 0) (Nat.zero_le _)
  simpa using this
theorem star1 (h : notStar a = true) : starEach [a] X.env = [(false, eval a X.env)] := star_no h
theorem i_range (G : XG X C ca sc W) (hg : Gl X "range") (hl : PA X es (rdA X.K ca fl W)) :
    PI X t (.Call (.Name "range" p) es [] pos) (rdI X.K ca (fun e h => if (arg1 es || arg2 es) = true then bnd (fl e h) fun vs h1 => at_ h1 (if vs.length = es.length then rangeOf vs else none) else none) W) := by
  have hm : X.mg "range" = none := G.gn.blt _ (by decide)
  refine ⟨fun pins s σ H R I ⟨ρ, h, e, S, re, k⟩ => ?_⟩
  dsimp only at k
  split at k
  · rename_i hs
    match es, hs, hl, k with
    | [a], hs, hl, k =>
      have hs1 : notStar a = true := by simpa [arg1, arg2] using hs
      refine (pi_range1 hg hm hl (star1 hs1)).run pins s σ H R I ⟨ρ, h, e, S, re, k.bnd fun vs h1 ρ1 H1 us _ g1 S1 r1 k1 => ?_⟩
      split at k1
      · rename_i hlen
        unfold rangeOf at k1
        split at k1
        · split at k1
          · obtain ⟨u, rfl, ru⟩ := r1.one
            cases ru
            refine ⟨_, rfl, by omega, by omega, k1 ρ1 H1 _ Grow.refl S1 ?_⟩
            exact rng0 0 _
          · exact k1.elim
        · simp at hlen
        · exact k1.elim
      · exact k1.elim
    | [a, b], hs, hl, k =>
      have hs1 : notStar a = true ∧ notStar b = true := by simpa [arg1, arg2] using hs
      refine (pi_range2 hg hm hl (by rw [star_no hs1.1, star1 hs1.2]) (star1 hs1.2)).run pins s σ H R I ⟨ρ, h, e, S, re, k.bnd fun vs h1 ρ1 H1 us _ g1 S1 r1 k1 => ?_⟩
      split at k1
      · rename_i hlen
        unfold rangeOf at k1
        split at k1
        · simp at hlen
        · split at k1
          · obtain ⟨u, v, rfl, ru, rv⟩ := r1.two
            cases ru
            cases rv
            refine ⟨_, _, rfl, ⟨by omega, by omega, by omega, by omega⟩, k1 ρ1 H1 _ Grow.refl S1 ?_⟩
            exact rng0 _ _
          · exact k1.elim
        · exact k1.elim
      · exact k1.elim
  · exact k.elim
theorem i_enum (G : XG X C ca sc W) (hg : Gl X "enumerate") (hl : PA X es (rdA X.K ca fl W)) :
    PI X t (.Call (.Name "enumerate" p) es [] pos) (rdI X.K ca (fun e h => if (arg1 es && isTupE t) = true then bnd (fl e h) fun vs h1 => at_ h1 (if vs.length = es.length then enumOf vs h1 else none) else none) W) := by
  have hm : X.mg "enumerate" = none := G.gn.blt _ (by decide)
  refine ⟨fun pins s σ H R I ⟨ρ, h, e, S, re, k⟩ => ?_⟩
  dsimp only at k
  split at k
  · rename_i hs
    rw [Bool.and_eq_true] at hs
    match es, t, hs, hl, k with
    | [a], .Tuple ts kk tp, hs, hl, k =>
      have hs1 : notStar a = true := hs.1
      refine (pi_enum hg hm hl (star1 hs1)).run pins s σ H R I ⟨ρ, h, e, S, re, k.bnd fun vs h1 ρ1 H1 us _ g1 S1 r1 k1 => ?_⟩
      split at k1
      · unfold enumOf at k1
        split at k1
        · split at k1
          · rename_i xs hx
            obtain ⟨u, rfl, ru⟩ := r1.one
            cases ru with
            | ref q =>
              obtain ⟨vs, h3, h4⟩ := S1.lst hx q
              exact ⟨_, vs, rfl, SqL.of h3, k1 ρ1 H1 _ Grow.refl S1 (.enum q)⟩
          · exact k1.elim
        · exact k1.elim
      · exact k1.elim
  · exact k.elim
theorem i_zip (G : XG X C ca sc W) (hg : Gl X "zip") (hl : PA X es (rdA X.K ca fl W)) :
    PI X t (.Call (.Name "zip" p) es [] pos) (rdI X.K ca (fun e h => if (arg2 es && isTupE t) = true then bnd (fl e h) fun vs h1 => at_ h1 (if vs.length = es.length then zipOf vs h1 else none) else none) W) := by
  have hm : X.mg "zip" = none := G.gn.blt _ (by decide)
  refine ⟨fun pins s σ H R I ⟨ρ, h, e, S, re, k⟩ => ?_⟩
  dsimp only at k
  split at k
  · rename_i hs
    rw [Bool.and_eq_true] at hs
    match es, t, hs, hl, k with
    | [a, b], .Tuple ts kk tp, hs, hl, k =>
      have hs1 : notStar a = true ∧ notStar b = true := by simpa [arg2] using hs.1
      refine (RZ.pi_zipA hg hm hl (star_no hs1.1) (by rw [star1 hs1.2]; rfl)).run pins s σ H R I ⟨ρ, h, e, S, re, k.bnd fun vs h1 ρ1 H1 us _ g1 S1 r1 k1 => ?_⟩
      split at k1
      · unfold zipOf at k1
        split at k1
        · obtain ⟨u, v, rfl, ru, rv⟩ := r1.two
          cases ru with
          | tup q rs =>
            cases rv with
            | tup q' rs' => exact ⟨_, _, _, _, rfl, .inr ⟨q, q', k1 ρ1 H1 _ Grow.refl S1 (.zip q q' (by rw [List.drop_zero]; exact rs) (by rw [List.drop_zero]; exact rs'))⟩⟩
        · split at k1
          · rename_i xs ys hx hy
            obtain ⟨u, v, rfl, ru, rv⟩ := r1.two
            cases ru with
            | ref q =>
              cases rv with
              | ref q' =>
                obtain ⟨vs, h3, h4⟩ := S1.lst hx q
                obtain ⟨us, h5, h6⟩ := S1.lst hy q'
                exact ⟨_, _, _, _, rfl, .inl ⟨SqL.of h3, SqL.of h5, k1 ρ1 H1 _ Grow.refl S1 (.zipL q q')⟩⟩
          · exact k1.elim
        · exact k1.elim
      · exact k1.elim
  · exact k.elim
theorem no_fold (h : ¬ isSetE ex = true) (x : Value) : foldedSetIterable ex X.env x = pure x := by cases ex <;> first | rfl | exact absurd rfl h
/-! ### comprehensions -/
theorem ts_nil : PTs X [] (rdT X.K ca (fun _ h => some (.ok true h)) W) := ⟨fun pins s σ H Q I ⟨ρ, h, e, S, re, k⟩ => pts_nil.run pins s σ H Q I (k ρ H _ Grow.refl S rfl)⟩
theorem ts_one (hc : PT X c (rdT X.K ca ft W)) : PTs X [c] (rdT X.K ca ft W) := pts_one hc
theorem relS_free {sc0 : Scope} : ∀ {names : List (Str × NameKind)} {x : Str}, names.lookup x = some .free →
    (names.map fun (n, k) => if (k == NameKind.free && sc0.kind == .function && sc0.names.lookup n == some .cell) then (n, NameKind.cell) else (n, k)).lookup x = some .cell ∨
    (names.map fun (n, k) => if (k == NameKind.free && sc0.kind == .function && sc0.names.lookup n == some .cell) then (n, NameKind.cell) else (n, k)).lookup x = some .free
  | [], _, h => by simp at h
  | (n, k0) :: r, x, h => by
    have ih := @relS_free sc0 r x
    rw [List.map_cons]
    cases hx : x == n with
    | true =>
      rw [List.lookup_cons, hx] at h
      cases h
      dsimp only
      by_cases hc : (NameKind.free == NameKind.free && sc0.kind == .function && sc0.names.lookup n == some .cell) = true
      · rw [if_pos hc, List.lookup_cons, hx]
        exact .inl rfl
      · rw [if_neg hc, List.lookup_cons, hx]
        exact .inr rfl
    | false =>
      rw [List.lookup_cons, hx] at h
      dsimp only
      by_cases hc : (k0 == NameKind.free && sc0.kind == .function && sc0.names.lookup n == some .cell) = true
      · rw [if_pos hc, List.lookup_cons, hx]
        exact ih h
      · rw [if_neg hc, List.lookup_cons, hx]
        exact ih h
theorem XG.blk (G : XG X C ca sc W) {bsc : Scope} (s : Shared) (H : Hp) (Cc : Addr) (cl : List (Str × Addr)) (fp : List Addr) : XG (X.blk s H bsc (compEnvC bsc cl Cc X.env) fp) C ca bsc WF where
  nd := G.nd
  dbg := G.dbg
  calm := G.calm
  gd := G.gd
  un := G.un
  sc := ⟨fun x h => lookup_relS_keep (by simp) h, fun x h => lookup_relS_keep (by simp) h, fun x h => relS_free h, fun x h => lookup_relS_keep (by simp) h, fun x h => by
    show (bsc.names.lookup x == some NameKind.cell) = true
    rw [h]
    rfl⟩
  tk := fun u s' ⟨_, _, _, _, _, _, _, _, _, _, _, _, _, _, _, _, w⟩ => w.elim
  gn := G.gn
/-- the comprehension's own names, their places -/
def ownP (N : List Str) (b : Scope) : List (Str × Nat) := b.names.filterMap fun p => match p.2 with
  | .local => (idx p.1 N).map fun i => (p.1, i)
  | .cell => (idx p.1 N).map fun i => (p.1, i)
  | _ => none
theorem ownP_ix (N : List Str) (b : Scope) : (ownP N b).map (·.2) = Ev.ownOf N b := by
  unfold ownP Ev.ownOf
  rw [List.map_filterMap]
  congr 1
  funext p
  cases p.2 <;> first | rfl | (show Option.map _ (Option.map _ (idx p.1 N)) = idx p.1 N; cases idx p.1 N <;> rfl)
theorem mem_ownP {N : List Str} {b : Scope} {q : Str × Nat} (h : q ∈ ownP N b) : idx q.1 N = some q.2 := by
  obtain ⟨y, hy, e⟩ := List.mem_filterMap.mp h
  split at e
  · obtain ⟨i, h1, h2⟩ := map_some e
    subst h2
    exact h1
  · obtain ⟨i, h1, h2⟩ := map_some e
    subst h2
    exact h1
  · cases e
theorem ownP_mem {N : List Str} {b : Scope} {x : Str} {i : Nat} (h : (x, NameKind.local) ∈ b.names ∨ (x, NameKind.cell) ∈ b.names) (hi : idx x N = some i) : (x, i) ∈ ownP N b := by
  rcases h with h | h
  · exact List.mem_filterMap.mpr ⟨_, h, by rw [hi]; rfl⟩
  · exact List.mem_filterMap.mpr ⟨_, h, by rw [hi]; rfl⟩
theorem blk_ok (hs : ScOk X sc) {bsc : Scope} (h : blkB X.N sc bsc = true) : BlkOk X.N X.env.scope bsc (ownP X.N bsc) := by
  unfold blkB at h
  rw [Bool.and_eq_true, List.all_eq_true] at h
  have hall : ∀ y ∈ bsc.names, bsc.names.lookup y.1 = some y.2 ∧ (y.2 = .free → sc.names.lookup y.1 = some .cell ∨ sc.names.lookup y.1 = some .free) := fun y hy => by
    have := h.2 y hy
    rw [Bool.and_eq_true] at this
    refine ⟨beq_iff_eq.mp this.1, fun e => ?_⟩
    have z := this.2
    rw [e] at z
    simpa using z
  refine ⟨beq_iff_eq.mp h.1, fun y hy => (hall y hy).1, fun q hq => idx_at (mem_ownP hq), fun y hy e => ?_, fun y hy e => ?_⟩
  · rcases (hall y hy).2 e with z | z
    · exact .inl (hs.cell _ z)
    · exact hs.free _ z
  · cases hi : idx y.1 X.N with
    | none => exact .inr (idx_none hi)
    | some i =>
      refine .inl (List.mem_map.mpr ⟨(y.1, i), ownP_mem ?_ hi, rfl⟩)
      rcases e with e | e
      · exact .inl (by rw [← e]; exact hy)
      · exact .inr (by rw [← e]; exact hy)
theorem tgt_own {bsc : Scope} {N : List Str} {i : Nat} (h : tgt bsc N t = some i) : i ∈ (ownP N bsc).map (·.2) := by
  unfold tgt at h
  split at h
  · rw [lk_lookup] at h
    split at h
    · rename_i q
      exact List.mem_map.mpr ⟨_, ownP_mem (.inl (PySem.mem_of_lookup q)) h, rfl⟩
    · rename_i q
      exact List.mem_map.mpr ⟨_, ownP_mem (.inr (PySem.mem_of_lookup q)) h, rfl⟩
    · cases h
  · cases h
theorem tgts_own {bsc : Scope} {N : List Str} : ∀ {ts : List Expr} {is : List Nat}, tgts bsc N ts = some is → ∀ i ∈ is, i ∈ (ownP N bsc).map (·.2)
  | [], is, h => by
    cases h
    exact fun i hi => by cases hi
  | t :: ts, is, h => by
    obtain ⟨i, js, h1, h2, rfl⟩ := tgts_cons h
    intro j hj
    rcases List.mem_cons.mp hj with e | hj
    · subst e
      exact tgt_own h1
    · exact tgts_own h2 j hj
theorem tIx_own {bsc : Scope} {N : List Str} : ∀ i ∈ tIx bsc N t, i ∈ (ownP N bsc).map (·.2) := by
  intro i hi
  unfold tIx at hi
  split at hi
  · rename_i ts _ _
    cases h : tgts bsc N ts with
    | none => rw [h] at hi; cases hi
    | some is =>
      rw [h] at hi
      exact tgts_own h i hi
  · cases h : tgt bsc N t with
    | none => rw [h] at hi; cases hi
    | some j =>
      rw [h] at hi
      simp at hi
      subst hi
      exact tgt_own h
theorem bnN_some {α β : Type} {o : Option (Res α)} {f : α → MH → Option (Res β)} {r : Res β} (h : bnN o f = some r) : ∃ a h1, o = some (.ok a h1) ∧ f a h1 = some r := by
  cases o with
  | none => cases h
  | some o =>
    cases o with
    | ok a h1 => exact ⟨a, h1, rfl, h⟩
    | exc _ _ => cases h
theorem compL_noexc (bd : MV → MH → Option MEnv) (ts : MEnv → MH → Option OutB) (el : MEnv → MH → Option Out) : ∀ (k : Nat) (w : Ev.It) (h : MH) (y : MV) (h' : MH), compL bd ts el k w h ≠ some (.exc y h')
  | 0, _, _, _, _, z => by cases z
  | k + 1, w, h, y, h', z => by
    unfold compL at z
    split at z
    · cases z
    · cases z
    · split at z
      · cases z
      · obtain ⟨b, h1, _, z⟩ := bnN_some z
        split at z
        · obtain ⟨v, h2, _, z⟩ := bnN_some z
          obtain ⟨vs, h3, z1, z⟩ := bnN_some z
          cases z
        · exact compL_noexc bd ts el k _ _ _ _ z
theorem s_lcR (G : XG X C ca sc W) {bsc : Scope} {elt it : Expr} {ifs : List Expr} {fe : MEnv → MH → Option Out} {σ : L2.St} {H : Hp} {Q : VK} {ρ : List Addr} {h : MH} {e : MEnv}
    (S : Sim X.K ca ρ h H) (re : RE X.K ca ρ H e σ) (k : OutK X.K ca (RV X.K ca) ρ H (bnd (fi e h) fun w h1 => bnd (compL (fun x hh => bind1 bsc X.N t x (wipeE e (Ev.ownOf X.N bsc)) hh) ft fe LF w h1) newL) Q (fun cls d H' => W cls d σ H')) :
    tLc (rdI X.K ca fi W) (gB X.K ca bsc X.N t) (rdT X.K ca ft WF) (rdE X.K ca fe WF) ((ownP X.N bsc).map (·.2)) σ H Q := by
  refine ⟨ρ, h, e, S, re, k.bnd fun w h1 ρ1 H1 J _ g1 S1 r1 k1 => ?_⟩
  intro D hD
  generalize hbd : (fun x hh => bind1 bsc X.N t x (wipeE e (Ev.ownOf X.N bsc)) hh) = bd at k1
  cases hcl : compL bd ft fe LF w h1 with
  | none => rw [hcl] at k1; exact k1.elim
  | some o =>
    cases o with
    | exc y h2 => exact absurd hcl (compL_noexc _ _ _ _ _ _ _ _)
    | ok vs hf =>
      rw [hcl] at k1
      have k2 : OutK X.K ca (RV X.K ca) ρ1 H1 (newL vs hf) Q (fun cls d H' => W cls d σ H') := k1
      unfold newL at k2
      split at k2
      · rename_i hlen
        refine ⟨fun i m Hc => ∃ ρc hc wc acc accM rest, Grow ρ1 H1 ρc Hc ∧ D ∉ ρc ∧ Hc D = some (.lst acc) ∧ Sim X.K ca ρc hc Hc ∧ RIt X.K ca ρc Hc wc J i ∧ RVs X.K ca ρc Hc accM acc ∧ compL bd ft fe m wc hc = some (.ok rest hf) ∧ accM ++ rest = vs, ?_, ?_⟩
        · have hn : D ∉ ρ1 := S1.new hD
          obtain ⟨S2, g2⟩ := S1.tupd (u := .lst []) hD
          exact ⟨LF, ρ1, h1, w, [], [], vs, g2, hn, upd_same, S2, RIt.mono S1 g2 r1, .nil, hcl, rfl⟩
        · rintro i m Hc ⟨ρc, hc, wc, acc, accM, rest, gc, nD, eD, Sc, rc, ra, hl, hv⟩
          cases m with
          | zero => cases hl
          | succ m =>
            unfold compL at hl
            have kk : ∀ {Hx : Hp} {u : HO}, ∀ a o, Hx a = some o → a ≠ D → upd Hx D u a = some o := fun a o z na => by rw [upd_ne na]; exact z
            split at hl
            · cases hl
            · rename_i hnx
              cases hl
              refine .inl ⟨rc.stop Sc hnx, ?_⟩
              rw [List.append_nil] at hv
              subst hv
              refine k2 (ρc ++ [D]) Hc _ (gc.adopt hD fun a o z _ => z) (Sc.adopt nD eD (.lst ra)) (.ref ?_)
              rw [← Sc.len, List.getElem?_append_right (Nat.le_refl _), Nat.sub_self]
              rfl
            · rename_i x w' hnx
              obtain ⟨go, st⟩ := rc.step Sc hnx
              split at hl
              · cases hl
              · rename_i e1 he1
                refine .inr ⟨go, fun H' => ∃ m', m' < m + 1 ∧ ∃ ρc hc wc acc accM rest, Grow ρ1 H1 ρc H' ∧ D ∉ ρc ∧ H' D = some (.lst acc) ∧ Sim X.K ca ρc hc H' ∧ RIt X.K ca ρc H' wc J (i + 1) ∧ RVs X.K ca ρc H' accM acc ∧ compL bd ft fe m' wc hc = some (.ok rest hf) ∧ accM ++ rest = vs, fun H' z => z, fun u H' hy => ?_⟩
                obtain ⟨g3, S3, rx, r3⟩ := st u H' hy
                obtain ⟨n3, e3⟩ := g3.off eD nD
                have ra3 := ra.mono Sc g3
                have reW : RE X.K ca ρc H' (wipeE e (Ev.ownOf X.N bsc)) (wipe σ ((ownP X.N bsc).map (·.2))) := by
                  rw [ownP_ix]
                  exact (((re.mono S g1).mono S1 gc).mono Sc g3).wipe _
                rw [← hbd] at he1
                refine ⟨ρc, hc, _, x, e1, S3, reW, rx, he1, fun σ1 re1 sb => ⟨?_, ?_⟩⟩
                · have := SameBut.wipe sb tIx_own
                  exact this
                · obtain ⟨bt, h4, e4, hl⟩ := bnN_some hl
                  refine ⟨ρc, hc, e1, S3, re1, ?_⟩
                  rw [e4]
                  intro ρ5 H5 bu g5 S5 rb
                  cases rb
                  obtain ⟨n5, e5⟩ := g5.off e3 n3
                  have ra5 := ra3.mono S3 g5
                  have r5 := RIt.mono S3 g5 r3
                  have gc5 := (gc.trans g3).trans g5
                  cases bt with
                  | false =>
                    rw [if_neg Bool.false_ne_true] at hl ⊢
                    exact ⟨m, Nat.lt_succ_self m, ρ5, h4, w', acc, accM, rest, gc5, n5, e5, S5, r5, ra5, hl, hv⟩
                  | true =>
                    rw [if_pos rfl] at hl ⊢
                    obtain ⟨v, h6, e6, hl⟩ := bnN_some hl
                    obtain ⟨vs3, h7, e7, hl⟩ := bnN_some hl
                    cases hl
                    refine ⟨ρ5, h4, e1, S5, re1.mono S3 g5, ?_⟩
                    rw [e6]
                    intro ρ8 H8 vu g8 S8 rv
                    obtain ⟨n8, e8⟩ := g8.off e5 n5
                    have ra8 := ra5.mono S5 g8
                    have r8 := RIt.mono S5 g8 r5
                    have kd : ∀ o, H8 D = some o → Kd o := fun o z => by
                      rw [e8] at z
                      cases z
                      trivial
                    refine ⟨acc, e8, ?_, m, Nat.lt_succ_self m, ρ8, h6, w', acc ++ [vu], accM ++ [v], vs3, (gc5.trans g8).offW hD kk, n8, upd_same, S8.offW n8 kd kk, r8.mono2 ⟨[], by simp⟩ (kn_of kd kk), ?_, e7, ?_⟩
                    · rw [← ra8.length]
                      have := congrArg List.length hv
                      rw [List.length_append, List.length_cons] at this
                      omega
                    · exact (ra8.append (.cons rv .nil)).mono2 ⟨[], by simp⟩ (kn_of kd kk)
                    · rw [List.append_assoc]
                      exact hv
      · exact k2.elim
theorem s_lc (G : XG X C ca sc W) {bsc : Scope} {elt it : Expr} {ifs : List Expr} {fe : MEnv → MH → Option Out} (hb : blkB X.N sc bsc = true) (hs : ¬ isSetE it = true) (hi : PI X t it (rdI X.K ca fi W))
    (ht : ∀ (s : Shared) (H : Hp) (Cc : Addr) (cl : List (Str × Addr)) (fp : List Addr), PTs (X.blk s H bsc (compEnvC bsc cl Cc X.env) fp) ifs (rdT X.K ca ft WF))
    (he : ∀ (s : Shared) (H : Hp) (Cc : Addr) (cl : List (Str × Addr)) (fp : List Addr), PE (X.blk s H bsc (compEnvC bsc cl Cc X.env) fp) elt (rdE X.K ca fe WF)) :
    PE X (.ListComp elt [⟨t, it, ifs, 0⟩] bsc pos) (rdE X.K ca (fun e h => bnd (fi e h) fun w h1 => bnd (compL (fun x hh => bind1 bsc X.N t x (wipeE e (Ev.ownOf X.N bsc)) hh) ft fe LF w h1) newL) W) := by
  refine ⟨fun pins s σ H Q I ⟨ρ, h, e, S, re, k⟩ => ?_⟩
  exact (pe_lc G.calm G.nd hi (blk_ok G.sc hb) (fun s H Cc cl fp => (G.blk s H Cc cl fp).bind) ht he (no_fold hs)).run pins s σ H Q I (s_lcR (ifs := ifs) (it := it) (elt := elt) G S re k)
end
end Sd
end T_Sd10
section T_Sd11
set_option linter.all false
set_option maxRecDepth 100000
set_option maxHeartbeats 1000000
/-! Sd11: what functions and classes promise; calls. -/
namespace Sd
open PySem PySem.Spec PyProof.Rows L2 Ev
/-- a def's promise, where no repr is under way -/
structure FnG (P : Program) (w : World) (K : PySem.W.Frag) (mg : Str → Option Value) (base : Heap) (k : Nat) (f : Addr) (fd : FuncData) (ps : List Str) (sp : Sp) : Prop where
  len : ∀ vs H Q E, sp vs H Q E → vs.length = ps.length
  run : ∀ (A : Around) (outer : List PySem.Env) (s : Shared) (H : Hp) (args : Args) (us : List Value) (vs : List V) (Q : VK) (E : XK), Room k A → A.guards = some [] → Env0 P w K mg base A outer s H → BindsTo s fd args (ps.zip us) → Vals vs us → sp vs H Q E →
    codeAny (model P w) A (.call (.ref f) args) (CR (L2.CX P w) outer P w H s Q E) s
theorem FnG.mono {P : Program} {w : World} {K : PySem.W.Frag} {mg : Str → Option Value} {base : Heap} {j k : Nat} {f : Addr} {fd : FuncData} {ps : List Str} {sp : Sp} (F : FnG P w K mg base j f fd ps sp) (h : j ≤ k) : FnG P w K mg base k f fd ps sp :=
  ⟨F.len, fun A outer s H args us vs Q E hr => F.run A outer s H args us vs Q E (hr.mono h)⟩
/-- a def by its body -/
theorem fn_ofG {P : Program} {w : World} {K : PySem.W.Frag} {mg : Str → Option Value} {base : Heap} {k : Nat} {x qual : Str} {params : Arguments} {body : List Stmt} {scope : Scope} {dvs : List V} {kws : List (Str × V)} {f : Addr} {fd : FuncData}
    {N ps : List Str} {sp : Sp} (F : FunD K x qual params body scope dvs kws f fd) (S : FnScope N ps scope) (len : ∀ vs H Q E, sp vs H Q E → vs.length = ps.length)
    (hbody : ∀ (cdv : Value) (A : Around) (outer : List PySem.Env) (s : Shared) (H : Hp) (vs : List V) (Q : VK) (E : XK), Room k (A.deeper (envOfC qual scope s.heap.objs.size f cdv)) → A.guards = some [] → sp vs H Q E →
      ∃ t, PSs (cxOf (L2.CX P w) P w K mg base N qual scope f cdv A outer s H E) body t ∧ t { nx := fun _ H' => Q .non H', rt := Q } (start N vs) H) : FnG P w K mg base (k + 1) f fd ps sp := by
  obtain ⟨oc, od, dV, kV, doc, pm, an, cdv, ct, osl, rfl, lk, hcd, _, _⟩ := F.ex
  refine ⟨len, fun A outer s H args us vs Q E hr hgd e0 hb r hsp => ?_⟩
  have hl := len _ _ _ _ hsp
  have KX : K.In s.heap := e0.mod.kin.keeps fun b o e => (e0.bs b o e).1
  have lim : s.heap.NoLimit := e0.mod.nolimit.keeps fun b o e => (e0.bs b o e).1
  have hkind : ∀ y ∈ ps.zip us, scope.names.lookup y.1 = some .local ∨ (scope.names.lookup y.1 = some .cell ∧ ((cellsFrom (s.heap.objs.size + 1) scope.names []).lookup y.1).isSome = true) := fun y hy => by
    rcases S.par y.1 (List.of_mem_zip (a := y.1) (b := y.2) hy).1 with q | q
    · exact .inl q
    · exact .inr ⟨q, PySem.W.cellsFrom_some _ _ _ (.inl q)⟩
  refine codeAny_call_function hr.depth (KX _ _ lk) rfl S.co S.gen rfl (PySem.W.codeRec_of KX hcd) (hb _ _ _ _ ?_)
  refine wpAny_newFunctionEnv_cells S.kind hkind fun env he s1 x => ?_
  subst he
  refine ⟨lim.keeps x.toInCall.keep, codeAny_func ?_⟩
  obtain ⟨t, ht, hq⟩ := hbody cdv A outer s H vs Q E (hr.deeper _) hgd hsp
  have I := inv_start (CX := L2.CX P w) (E := E) S hr.hd e0 hl r x
  refine wpAny_mono (ht.run [] s1 (start N vs) H _ I hq) (fun fl s' hs => ?_) fun e s' hs => hs
  cases fl with
  | ret u =>
    obtain ⟨v, σ', H', J, rv, q⟩ := hs
    exact ⟨v, H', J.os, J.bare, J.base, J.hok, rv, q⟩
  | next =>
    obtain ⟨σ', H', J, q⟩ := hs
    exact ⟨V.non, H', J.os, J.bare, J.base, J.hok, rfl, q⟩
  | brk => exact hs.elim fun _ z => z.elim fun _ z => z.2.elim
  | cont => exact hs.elim fun _ z => z.elim fun _ z => z.2.elim
/-! ### the text's promises -/
/-- a call's promise by the evaluator -/
def spC (K : PySem.W.Frag) (ca : Str → Addr) (call : CallF) (f : Str) (ps : List Str) : Sp := fun vs H Q E =>
  vs.length = ps.length ∧ ∃ ρ h xs, Sim K ca ρ h H ∧ RVs K ca ρ H xs vs ∧ OutK K ca (RV K ca) ρ H (call f xs h) Q E
/-- behind __init__ -/
theorem XE_call {X : Cx} {W : WX} {pins : List (Addr × Obj)} {σ : L2.St} {H : Hp} {s s' : Shared} {E : XK} {u : Value} (tk : Takes X W) (I : Inv X pins σ H s) (hW : ∀ c d H', E c d H' → W c d σ H') (c : L2.CX X.prog X.w X.stack H s E u s') : X.xe u s' := tk u s' (XE.of_call I hW c)
section
variable {X : Cx} {ca : Str → Addr} {sc : Scope} {W : WX} {k : Nat} {f D : Addr} {fd : FuncData} {ps ks : List Str} {sp : Sp}
/-- a call of a def, at X's place or within a built-in's call -/
theorem run_fA {A1 : Around} {pins : List (Addr × Obj)} {σ : L2.St} {H : Hp} {s : Shared} {Q : VK} {us : List Value} {vs : List V} (F : FnG X.prog X.w X.K X.mg X.base k f fd ps sp) (hr : Room k A1) (hgd : A1.guards = some []) (hb : Binds X.K fd ps []) (tk : Takes X W)
    (I : Inv X pins σ H s) (e0 : Env0 X.prog X.w X.K X.mg X.base A1 X.stack s H) (r : Vals vs us) (hq : sp vs H Q (fun c d H' => W c d σ H')) : wpAny (model X.prog X.w) A1 (call (.ref f) us) (EP X pins σ Q) X.xe s := by
  have hl : (us ++ []).length = ps.length := by rw [List.append_nil, ← r.length]; exact F.len _ _ _ _ hq
  have hb1 := hb s us I.kIn hl
  rw [List.append_nil] at hb1
  refine wpAny_call (codeAny_mono (F.run A1 X.stack s H ⟨us, []⟩ us vs Q _ hr hgd e0 hb1 r hq) fun r s' z => ?_)
  cases r with
  | error e => exact XE_call tk I (fun _ _ _ q => q) z
  | ok fl =>
    cases fl with
    | ret u => exact I.after z
    | next => exact z.elim
    | brk => exact z.elim
    | cont => exact z.elim
theorem run_fG {pins : List (Addr × Obj)} {σ : L2.St} {H : Hp} {s : Shared} {Q : VK} {us : List Value} {vs : List V} (F : FnG X.prog X.w X.K X.mg X.base k f fd ps sp) (hr : Room k X.A) (hgd : X.A.guards = some []) (hb : Binds X.K fd ps []) (tk : Takes X W)
    (I : Inv X pins σ H s) (r : Vals vs us) (hq : sp vs H Q (fun c d H' => W c d σ H')) : wpAny (model X.prog X.w) X.A (call (.ref f) us) (EP X pins σ Q) X.xe s := run_fA F hr hgd hb tk I I.env0 r hq
/-- a new instance -/
theorem run_mG {pins : List (Addr × Obj)} {σ : L2.St} {H : Hp} {s : Shared} {Q : VK} {us ws : List Value} {vs zs : List V} (M : Mk X.K D f) (F : FnG X.prog X.w X.K X.mg X.base k f fd ps sp) (hr : Room (k + 1) X.A) (hgd : X.A.guards = some [])
    (hb : ∀ (s : Shared) (us ws : List Value), X.K.In s.heap → us.length = vs.length + 1 → ws.length = zs.length → BindsTo s fd ⟨us, ks.zip ws⟩ (ps.zip (us ++ ws))) (tk : Takes X W) (I : Inv X pins σ H s) (r : Vals vs us) (rz : Vals zs ws)
    (hq : ∀ x dx, H x = none → H dx = none → dx ≠ x → sp (.ref x :: (vs ++ zs)) (upd (upd H dx (.own x)) x (.ins D dx [])) (fun v H2 => v = .non ∧ Q (.ref x) H2) (fun c d H' => W c d σ H')) :
    wpAny (model X.prog X.w) X.A (call (.ref D) us (ks.zip ws)) (EP X pins σ Q) X.xe s := by
  have hq := hq (s.heap.objs.size + 1) s.heap.objs.size (I.hok.fresh (Nat.le_succ _)) (I.hok.fresh (Nat.le_refl _)) (Nat.ne_of_lt (Nat.lt_succ_self _))
  have I2 := Inv.made (C := D) I
  have r2 : Vals (V.ref (s.heap.objs.size + 1) :: (vs ++ zs)) ((Value.ref (s.heap.objs.size + 1) :: us) ++ ws) := .cons rfl (r.append rz)
  have l1 : (Value.ref (s.heap.objs.size + 1) :: us).length = vs.length + 1 := congrArg Nat.succ r.length.symm
  have hg2 : (X.A.under (.builtin "type.__call__" ⟨.ref D :: us, ks.zip ws⟩)).guards = some [] := by
    rw [← hgd]
    first | rfl | (simp [Around.under, pushGuards, Code.guards, Code.isGuard, hgd])
  refine wpAny_call (make_map (f := f) I.kIn M.makes M.init (beq_iff_eq.mp M.fn) (codeAny_mono (F.run _ X.stack _ _ ⟨Value.ref (s.heap.objs.size + 1) :: us, ks.zip ws⟩ _ _ _ _ (hr.make D us (ks.zip ws)) hg2
    (I2.env0.make D us (ks.zip ws)) (hb _ (Value.ref (s.heap.objs.size + 1) :: us) ws I2.kIn l1 rz.length.symm) r2 hq) fun r s' z => ?_))
  cases r with
  | error e => exact XE_call tk I2 (fun _ _ _ q => q) z
  | ok fl =>
    cases fl with
    | ret u =>
      obtain ⟨v, H', I3, rv, ev, q3⟩ := I2.after z
      subst ev
      exact ⟨rv, ⟨V.ref (s.heap.objs.size + 1), H', I3, rfl, q3⟩⟩
    | next => exact z.elim
    | brk => exact z.elim
    | cont => exact z.elim
end
end Sd
end T_Sd11
section T_Sd12
set_option linter.all false
set_option maxRecDepth 100000
set_option maxHeartbeats 1000000
/-! Sd12: the text's facts; calls of names, of methods, attributes. -/
namespace Sd
open PySem PySem.Spec PyProof.Rows L2 Ev
def fdOf (K : PySem.W.Frag) (a : Addr) : FuncData := match K.lookup a with
  | some ⟨_, _, .func fd, _⟩ => fd
  | _ => default
/-- a class whose instances the evaluator has -/
structure ClsF (K : PySem.W.Frag) (mg : Str → Option Value) (G : Glob) (ca fa : Str → Addr) (c : Str) (d : ClsD) : Prop where
  mg : mg c = some (.ref (ca c)) ∧ c ≠ "__debug__"
  cl : Cls K (ca c)
  mkr : ∀ k, findM G "__init__" d.mro = some k → Mk K (ca c) (fa k)
  me : ∀ m k, findM G m d.mro = some k → Meth K (ca c) m (fa k)
  pr : ∀ f k, findP G f d.mro = some k → ∃ p, PropOf K (ca c) f p (fa k)
  fl : ∀ f, f ∈ d.flds → NoAttr K (ca c) f
  ne : PySem.W.findIn K (.ref (ca c)) "__ne__" = some (some (.builtin "object.__ne__"))
  ob : PySem.W.mroIn K (ca c) (.type "object") = some true
  ha : PySem.W.findIn K (.ref (ca c)) "__class__" = some (some (.builtin "object.__class__"))
  kw : ∀ n ks k d', (c, n, ks) ∈ G.kws → findM G "__init__" d.mro = some k → lk k G.fns = some d' → ∀ (s : Shared) (us ws : List Value), K.In s.heap → us.length = n + 1 → ws.length = ks.length →
    BindsTo s (fdOf K (fa k)) ⟨us, ks.zip ws⟩ (d'.ps.zip (us ++ ws))
/-- an exception class -/
structure ExcF (K : PySem.W.Frag) (ca : Str → Addr) (c : Str) : Prop where
  hg : PySem.W.findIn K (.ref (ca c)) "__getattribute__" = some (some (.builtin "BaseException.__getattribute__"))
  hk : PySem.W.findIn K (.ref (ca c)) "__getattr__" = some none
  hs : PySem.W.subIn K (.ref (ca c)) (.type "BaseException") = some true
  hd : PySem.W.hasDictIn K (ca c) = true
  ha : PySem.W.findIn K (.ref (ca c)) "__class__" = some (some (.builtin "object.__class__"))
  hv : PySem.W.findIn K (.ref (ca c)) "value" = some none
  hm : PySem.W.mroIn K (ca c) (.type "object") = some true
  ty : PySem.W.typeIn K (.ref (ca c)) = some (.type "type")
/-- the built-in types' rows -/
def tyRows : List (String × List Str) := [("NoneType", ["NoneType"]), ("bool", ["bool", "int"]), ("int", ["int"]), ("str", ["str"]), ("tuple", ["tuple"]), ("list", ["list"]), ("dict", ["dict"])]
def tyS (c : Str) : String := if c = "int" then "int" else if c = "bool" then "bool" else if c = "str" then "str" else if c = "tuple" then "tuple" else if c = "list" then "list" else "dict"
/-- what a class's name stands for -/
def valC (G : Glob) (ca : Str → Addr) (c : Str) : Value := if (lk c G.clss).isSome = true then .ref (ca c) else .type (tyS c)
/-- what stands still in the text -/
structure SF (K : PySem.W.Frag) (mg : Str → Option Value) (G : Glob) (ca fa : Str → Addr) : Prop where
  fn : ∀ f d, lk f G.fns = some d → ∃ x qual params kws, FunD K x qual params d.body d.scope [] kws (fa f) (fdOf K (fa f)) ∧ FnScope d.N d.ps d.scope ∧ Binds K (fdOf K (fa f)) d.ps [] ∧ ("__debug__" : Str) ∉ d.N ∧ ("__classdict__" : Str) ∉ d.N
  top : ∀ f d, lk f G.fns = some d → d.top = true → mg f = some (.ref (fa f)) ∧ f ≠ "__debug__"
  cls : ∀ c d, lk c G.clss = some d → d.isExc = false → ClsF K mg G ca fa c d
  exc : ∀ c d, lk c G.clss = some d → d.isExc = true → ExcF K ca c
  cmg : ∀ c d, lk c G.clss = some d → mg c = some (.ref (ca c)) ∧ c ≠ "__debug__"
  hn : PySem.W.specialIn K (.builtin "object.__class__") "__get__" = some (some (.builtin "getset_descriptor.__get__"))
  ht : PySem.W.takesIn K (.builtin "object.__class__") = some true
  isT : ∀ q ∈ tyRows, ∀ c, isCN G c = true → PySem.W.kitOne K (.type q.1) (valC G ca c) = some (q.2.contains c)
  isO : ∀ c0 d0, lk c0 G.clss = some d0 → ∀ c, isCN G c = true → PySem.W.kitOne K (.ref (ca c0)) (valC G ca c) = some (d0.mro.contains c)
  exm : ∀ c0 d0, lk c0 G.clss = some d0 → d0.isExc = true → ∀ c d, lk c G.clss = some d → d.isExc = true → PySem.W.exmOne K (.ref (ca c0)) (.ref (ca c)) = some (d0.mro.contains c)
/-- the calls' facts at a place -/
structure XC (X : Cx) (C : Cxt) (ca fa : Str → Addr) (k : Nat) : Prop where
  sf : SF X.K X.mg C.G ca fa
  df : ∀ f d, lk f C.G.fns = some d → FnG X.prog X.w X.K X.mg X.base k (fa f) (fdOf X.K (fa f)) d.ps (spC X.K ca C.call f d.ps)
  rm : Room (k + 1) X.A
section
variable {X : Cx} {C : Cxt} {ca fa : Str → Addr} {kk : Nat} {sc : Scope} {W : WX} {t a b c ex : Expr} {es r : List Expr} {pos p : Pos}
variable {fe fb fc : MEnv → MH → Option Out} {fl fw : MEnv → MH → Option OutL}
/-- the call of a function by its key -/
theorem XC.run (D : XC X C ca fa kk) (G : XG X C ca sc W) {f : Str} {d : FnD} (hf : lk f C.G.fns = some d) {pins : List (Addr × Obj)} {s : Shared} {σ : L2.St} {H : Hp} {us : List Value} {vs : List V} {xs : List MV} {Q : VK} {ρ : List Addr} {h : MH}
    (I : Inv X pins σ H s) (r : Vals vs us) (S : Sim X.K ca ρ h H) (rv : RVs X.K ca ρ H xs vs) (hl : xs.length = d.ps.length) (k : OutK X.K ca (RV X.K ca) ρ H (C.call f xs h) Q (fun c d H' => W c d σ H')) :
    wpAny (model X.prog X.w) X.A (call (.ref (fa f)) us) (EP X pins σ Q) X.xe s := by
  obtain ⟨_, _, _, _, _, _, hb, _⟩ := D.sf.fn f d hf
  exact run_fG (D.df f d hf) (D.rm.mono (Nat.le_succ _)) G.gd hb G.tk I r ⟨by rw [← rv.length, hl], ρ, h, xs, S, rv, k⟩
theorem XC.keep (D : XC X C ca fa kk) {f : Str} {d : FnD} (hf : lk f C.G.fns = some d) : PySem.W.keepIn X.K (.ref (fa f)) = true := by
  obtain ⟨_, _, _, _, h, _⟩ := D.sf.fn f d hf
  exact h.kp
theorem plain_any (h : noStar es = true) (pos : Pos) : (backTo pos (starEach es X.env)).any (·.1) = false := by
  induction es with
  | nil => rfl
  | cons a r ih =>
    have h2 : (notStar a && noStar r) = true := h
    rw [Bool.and_eq_true] at h2
    rw [star_no h2.1]
    show (false || (backTo pos (starEach r X.env)).any (·.1)) = false
    rw [ih h2.2] <;> rfl
theorem noStar_cons (h : noStar (a :: r) = true) : notStar a = true ∧ noStar r = true := by
  have h2 : (notStar a && noStar r) = true := h
  rwa [Bool.and_eq_true] at h2
/-- what the evaluator's call gives, of values -/
def CallP (X : Cx) (ca : Str → Addr) (W : WX) (σ : L2.St) (f : List MV → MH → Option Out) (Q : VK) (vs : List V) (H1 : Hp) : Prop :=
  ∃ ρ h xs, Sim X.K ca ρ h H1 ∧ RVs X.K ca ρ H1 xs vs ∧ OutK X.K ca (RV X.K ca) ρ H1 (f xs h) Q (fun c d H' => W c d σ H')
theorem CallP.of {σ : L2.St} {f : List MV → MH → Option Out} {Q : VK} {H : Hp} (q : rdE X.K ca (fun e h => bnd (fl e h) fun vs h1 => f vs h1) W σ H Q) : rdA X.K ca fl W σ H (CallP X ca W σ f Q) := by
  obtain ⟨ρ, h, e, S, re, k⟩ := q
  exact ⟨ρ, h, e, S, re, k.bnd fun vs h1 ρ1 H1 us _ g1 S1 r1 k1 => ⟨ρ1, h1, vs, S1, r1, k1⟩⟩
/-- f(..), f a def of the module -/
theorem s_fn (D : XC X C ca fa kk) (G : XG X C ca sc W) {f : Str} {d : FnD} (hf : lk f C.G.fns = some d) (ht : d.top = true) (hg : Gl X f) (hs : noStar (a :: es) = true) (hl : PA X (a :: es) (rdA X.K ca fl W))
    (hlen : ∀ vs h1, vs.length ≠ d.ps.length → C.call f vs h1 = none) :
    PE X (.Call (.Name f p) (a :: es) [] pos) (rdE X.K ca (fun e h => bnd (fl e h) fun vs h1 => C.call f vs h1) W) := by
  obtain ⟨m1, m2⟩ := D.sf.top f d hf ht
  obtain ⟨h1, h2⟩ := noStar_cons hs
  refine ⟨fun pins s σ H Q I q => ?_⟩
  refine wpAny_Call_Name_kw (ld_glob I hg m1 ?_ (beq_eq_false_iff_ne.mpr m2))
  refine PySem.W.callWith_K (h₀ := X.base) I.ok.mod.kin (D.keep hf) (thn (hl.run pos pins s σ H _ I (CallP.of q)) fun us s1 q => ?_) (star_no h1) (plain_any h2 pos)
  obtain ⟨vs, H1, I1, r, ρ1, h1, xs, S1, rv, k1⟩ := q
  refine ⟨I1.kIn, D.run G hf I1 r S1 rv ?_ k1⟩
  by_cases hn : xs.length = d.ps.length
  · exact hn
  · rw [hlen xs h1 hn] at k1
    exact k1.elim
theorem s_fn0 (D : XC X C ca fa kk) (G : XG X C ca sc W) {f : Str} {d : FnD} (hf : lk f C.G.fns = some d) (ht : d.top = true) (hg : Gl X f) (hlen : ∀ vs h1, vs.length ≠ d.ps.length → C.call f vs h1 = none) :
    PE X (.Call (.Name f p) [] [] pos) (rdE X.K ca (fun _ h => C.call f [] h) W) := by
  obtain ⟨m1, m2⟩ := D.sf.top f d hf ht
  refine ⟨fun pins s σ H Q I ⟨ρ, h, e, S, re, k⟩ => ?_⟩
  refine wpAny_Call_Name_kw (ld_glob I hg m1 ?_ (beq_eq_false_iff_ne.mpr m2))
  refine PySem.W.callWith_K0 I.kIn (D.keep hf) (D.run G hf I .nil S .nil ?_ k)
  by_cases hn : ([] : List MV).length = d.ps.length
  · exact hn
  · dsimp only at k
    rw [hlen [] h hn] at k
    exact k.elim
/-! ### new instances -/
theorem Grow.mkI {K : PySem.W.Frag} {ρ : List Addr} {h : MH} {H : Hp} {x dx : Addr} {cA : Addr} (S : Sim K ca ρ h H) (hx : H x = none) (hd : H dx = none) (hne : dx ≠ x) {c : Str} (hc : cA = ca c) :
    Grow ρ H (ρ ++ [x]) (upd (upd H dx (.own x)) x (.ins cA dx [])) ∧ Sim K ca (ρ ++ [x]) (h ++ [.ins c []]) (upd (upd H dx (.own x)) x (.ins cA dx [])) := by
  subst hc
  obtain ⟨S1, g1⟩ := S.tupd (u := .own x) hd
  have hx1 : upd H dx (.own x) x = none := by rw [upd_ne (Ne.symm hne)]; exact hx
  obtain ⟨S2, g2⟩ := S1.alloc (o := .ins c []) (u := .ins (ca c) dx []) hx1 (.ins .nil)
  exact ⟨g1.trans g2, S2⟩
/-- C(..), the values known -/
theorem XC.mkI (D : XC X C ca fa kk) (G : XG X C ca sc W) {c k : Str} {cd : ClsD} {d : FnD} {ks : List Str} (hc : lk c C.G.clss = some cd) (hx : cd.isExc = false) (hi : findM C.G "__init__" cd.mro = some k) (hf : lk k C.G.fns = some d)
    {pins : List (Addr × Obj)} {s : Shared} {σ : L2.St} {H : Hp} {us ws : List Value} {vs zs : List V} {xs : List MV} {Q : VK} {ρ : List Addr} {h : MH}
    (hb : ∀ (s : Shared) (us ws : List Value), X.K.In s.heap → us.length = vs.length + 1 → ws.length = zs.length → BindsTo s (fdOf X.K (fa k)) ⟨us, ks.zip ws⟩ (d.ps.zip (us ++ ws)))
    (I : Inv X pins σ H s) (r : Vals vs us) (rz : Vals zs ws) (S : Sim X.K ca ρ h H) (rv : RVs X.K ca ρ H xs (vs ++ zs)) (hlen : ∀ vs h1, vs.length ≠ d.ps.length → C.call k vs h1 = none)
    (kq : OutK X.K ca (RV X.K ca) ρ H (make C c k xs h) Q (fun c d H' => W c d σ H')) :
    wpAny (model X.prog X.w) X.A (call (.ref (ca c)) us (ks.zip ws)) (EP X pins σ Q) X.xe s := by
  have F := D.sf.cls c cd hc hx
  refine run_mG (F.mkr k hi) (D.df k d hf) D.rm G.gd hb G.tk I r rz fun x dx hx hd hne => ?_
  obtain ⟨g, S2⟩ := Grow.mkI (c := c) S hx hd hne rfl
  unfold make at kq
  have rx : RV X.K ca (ρ ++ [x]) (upd (upd H dx (.own x)) x (.ins (ca c) dx [])) (.ref h.length) (.ref x) := .ref (by
    rw [← S.len, List.getElem?_append_right (Nat.le_refl _), Nat.sub_self]
    rfl)
  have rall := RVs.cons rx (rv.mono S g)
  refine ⟨?_, ρ ++ [x], h ++ [.ins c []], _, S2, rall, ?_⟩
  · rw [← rall.length]
    by_cases hn : (MV.ref h.length :: xs).length = d.ps.length
    · exact hn
    · rw [hlen _ _ hn] at kq
      exact kq.elim
  · cases hcall : C.call k (.ref h.length :: xs) (h ++ [.ins c []]) with
    | none => rw [hcall] at kq; exact kq.elim
    | some o =>
      rw [hcall] at kq
      cases o with
      | exc y h2 => exact OutK.mono (o := some (.exc y h2)) kq g
      | ok v h2 =>
        cases v with
        | non =>
          have kq : OutK X.K ca (RV X.K ca) ρ H (some (.ok (.ref h.length) h2)) Q (fun c d H' => W c d σ H') := kq
          intro ρ3 H3 u g3 S3 r3
          cases r3
          exact ⟨rfl, kq ρ3 H3 _ (g.trans g3) S3 (rx.mono S2 g3)⟩
        | _ => exact kq.elim
theorem s_mk (D : XC X C ca fa kk) (G : XG X C ca sc W) {c k : Str} {cd : ClsD} {d : FnD} (hc : lk c C.G.clss = some cd) (hx : cd.isExc = false) (hi : findM C.G "__init__" cd.mro = some k) (hf : lk k C.G.fns = some d) (hg : Gl X c)
    (hs : noStar (a :: es) = true) (hl : PA X (a :: es) (rdA X.K ca fl W)) (hlen : ∀ vs h1, vs.length ≠ d.ps.length → C.call k vs h1 = none) :
    PE X (.Call (.Name c p) (a :: es) [] pos) (rdE X.K ca (fun e h => bnd (fl e h) fun vs h1 => make C c k vs h1) W) := by
  have F := D.sf.cls c cd hc hx
  obtain ⟨h1, h2⟩ := noStar_cons hs
  refine ⟨fun pins s σ H Q I q => ?_⟩
  refine wpAny_Call_Name_kw (ld_glob I hg F.mg.1 ?_ (beq_eq_false_iff_ne.mpr F.mg.2))
  refine PySem.W.callWith_K (h₀ := X.base) I.ok.mod.kin (F.mkr k hi).kp (thn (hl.run pos pins s σ H _ I (CallP.of q)) fun us s1 q => ?_) (star_no h1) (plain_any h2 pos)
  obtain ⟨vs, H1, I1, r, ρ1, h1, xs, S1, rv, k1⟩ := q
  refine ⟨I1.kIn, ?_⟩
  obtain ⟨_, _, _, _, _, _, hb, _⟩ := D.sf.fn k d hf
  by_cases hn : vs.length + 1 = d.ps.length
  · refine D.mkI G hc hx hi hf (ks := []) (zs := []) (ws := []) (fun s us ws hk l1 l2 => ?_) I1 r .nil S1 (by rw [List.append_nil]; exact rv) hlen k1
    have hw : ws = [] := List.eq_nil_of_length_eq_zero l2
    subst hw
    have := hb s us hk (by rw [List.append_nil, l1, hn])
    simpa using this
  · unfold make at k1
    rw [hlen _ _ (by rw [List.length_cons, rv.length]; exact hn)] at k1
    exact k1.elim
theorem s_mk0 (D : XC X C ca fa kk) (G : XG X C ca sc W) {c k : Str} {cd : ClsD} {d : FnD} (hc : lk c C.G.clss = some cd) (hx : cd.isExc = false) (hi : findM C.G "__init__" cd.mro = some k) (hf : lk k C.G.fns = some d) (hg : Gl X c)
    (hlen : ∀ vs h1, vs.length ≠ d.ps.length → C.call k vs h1 = none) : PE X (.Call (.Name c p) [] [] pos) (rdE X.K ca (fun _ h => make C c k [] h) W) := by
  have F := D.sf.cls c cd hc hx
  refine ⟨fun pins s σ H Q I ⟨ρ, h, e, S, re, k1⟩ => ?_⟩
  dsimp only at k1
  refine wpAny_Call_Name_kw (ld_glob I hg F.mg.1 ?_ (beq_eq_false_iff_ne.mpr F.mg.2))
  refine PySem.W.callWith_K0 I.kIn (F.mkr k hi).kp ?_
  obtain ⟨_, _, _, _, _, _, hb, _⟩ := D.sf.fn k d hf
  by_cases hn : 1 = d.ps.length
  · refine D.mkI G hc hx hi hf (ks := []) (zs := []) (ws := []) (vs := []) (us := []) (fun s us ws hk l1 l2 => ?_) I .nil .nil S .nil hlen k1
    have hw : ws = [] := List.eq_nil_of_length_eq_zero l2
    subst hw
    have := hb s us hk (by rw [List.append_nil, l1]; exact hn)
    simpa using this
  · unfold make at k1
    rw [hlen [MV.ref h.length] _ hn] at k1
    exact k1.elim
/-! ### keywords -/
theorem kw_names (pos : Pos) : ∀ kws : List Keyword, (backToKw pos (keywordEach kws X.env)).filterMap (·.1) = kws.filterMap (·.arg)
  | [] => rfl
  | ⟨n, v, q⟩ :: r => by
    have ih := kw_names pos r
    show List.filterMap _ ((n, _) :: backToKw pos (keywordEach r X.env)) = _
    cases n with
    | none => exact ih
    | some y => exact congrArg (y :: ·) ih
theorem kw_all (pos : Pos) : ∀ kws : List Keyword, kws.all (·.arg.isSome) = true → (backToKw pos (keywordEach kws X.env)).all (·.1.isSome) = true ∧ (backToKw pos (keywordEach kws X.env)).any (·.1.isNone) = false
  | [], _ => ⟨rfl, rfl⟩
  | ⟨n, v, q⟩ :: r, h => by
    have h2 : (n.isSome && r.all (·.arg.isSome)) = true := h
    rw [Bool.and_eq_true] at h2
    obtain ⟨i1, i2⟩ := kw_all pos r h2.2
    cases n with
    | none => cases h2.1
    | some y =>
      refine ⟨?_, ?_⟩
      · show (true && (backToKw pos (keywordEach r X.env)).all (·.1.isSome)) = true
        rw [i1] <;> rfl
      · show (false || (backToKw pos (keywordEach r X.env)).any (·.1.isNone)) = false
        rw [i2] <;> rfl
theorem kw_len : ∀ kws : List Keyword, kws.all (·.arg.isSome) = true → (kws.filterMap (·.arg)).length = kws.length
  | [], _ => rfl
  | ⟨n, v, q⟩ :: r, h => by
    have h2 : (n.isSome && r.all (·.arg.isSome)) = true := h
    rw [Bool.and_eq_true] at h2
    cases n with
    | none => cases h2.1
    | some y =>
      show (y :: r.filterMap (·.arg)).length = _
      rw [List.length_cons, List.length_cons, kw_len r h2.2]
theorem k_nil : PK X [] (rdA X.K ca (fun _ h => some (.ok [] h)) W) := ⟨fun pos pins s σ H Q I ⟨ρ, h, e, S, re, k⟩ => pk_nil.run pos pins s σ H Q I (k ρ H _ Grow.refl S .nil)⟩
theorem k_cons {kws : List Keyword} {nm : Option Str} {kp : Pos} (ha : PE X a (rdE X.K ca fe W)) (hr : PK X kws (rdA X.K ca fl W)) :
    PK X (⟨nm, a, kp⟩ :: kws) (rdA X.K ca (fun e h => bnd (fe e h) fun x h1 => bnd (fl e h1) fun vs h2 => some (.ok (x :: vs) h2)) W) := by
  refine ⟨fun pos pins s σ H Q I ⟨ρ, h, e, S, re, k⟩ => ?_⟩
  refine (pk_cons ha hr).run pos pins s σ H Q I ⟨ρ, h, e, S, re, k.bnd fun x h1 ρ1 H1 u _ g1 S1 r1 k1 => ?_⟩
  refine ⟨ρ1, h1, e, S1, re.mono S g1, k1.bnd fun y h2 ρ2 H2 v _ g2 S2 r2 k2 => ?_⟩
  exact k2 ρ2 H2 _ Grow.refl S2 (.cons (r1.mono S1 g2) r2)
theorem s_mkw (D : XC X C ca fa kk) (G : XG X C ca sc W) {c k : Str} {cd : ClsD} {d : FnD} {kw : Keyword} {kws : List Keyword} (hc : lk c C.G.clss = some cd) (hx : cd.isExc = false) (hi : findM C.G "__init__" cd.mro = some k) (hf : lk k C.G.fns = some d) (hg : Gl X c)
    (hs : noStar es = true) (hl : PA X es (rdA X.K ca fl W)) (hw : PK X (kw :: kws) (rdA X.K ca fw W)) (hk1 : (kw :: kws).all (·.arg.isSome) = true) (hk2 : (c, es.length, (kw :: kws).filterMap (·.arg)) ∈ C.G.kws)
    (hl0 : es = [] → ∀ e h, fl e h = some (.ok [] h)) (hlen : ∀ vs h1, vs.length ≠ d.ps.length → C.call k vs h1 = none) :
    PE X (.Call (.Name c p) es (kw :: kws) pos) (rdE X.K ca (fun e h => bnd (fl e h) fun vs h1 => bnd (fw e h1) fun ws h2 => if vs.length = es.length ∧ ws.length = (kw :: kws).length then make C c k (vs ++ ws) h2 else none) W) := by
  have F := D.sf.cls c cd hc hx
  obtain ⟨a1, a2⟩ := kw_all (X := X) pos _ hk1
  refine ⟨fun pins s σ H Q I ⟨ρ, h, e, S, re, kq⟩ => ?_⟩
  refine wpAny_Call_Name_kw (ld_glob I hg F.mg.1 ?_ (beq_eq_false_iff_ne.mpr F.mg.2))
  have last : ∀ {us ws : List Value} {s2 : Shared} {vs zs : List V} {xs ys : List MV} {H2 : Hp} {ρ2 : List Addr} {h2 : MH}, Inv X pins σ H2 s2 → Vals vs us → Vals zs ws → Sim X.K ca ρ2 h2 H2 → RVs X.K ca ρ2 H2 xs vs → RVs X.K ca ρ2 H2 ys zs →
      OutK X.K ca (RV X.K ca) ρ2 H2 (if xs.length = es.length ∧ ys.length = (kw :: kws).length then make C c k (xs ++ ys) h2 else none) Q (fun c d H' => W c d σ H') →
      wpAny (model X.prog X.w) X.A (call (.ref (ca c)) us (((backToKw pos (keywordEach (kw :: kws) X.env)).filterMap (·.1)).zip ws)) (EP X pins σ Q) X.xe s2 := fun {us ws s2 vs zs xs ys H2 ρ2 h2} I2 r rz S2 rx ry k2 => by
    split at k2
    · rename_i hlens
      rw [kw_names]
      refine D.mkI G hc hx hi hf (fun s us ws hk l1 l2 => F.kw es.length _ k d hk2 hi hf s us ws hk ?_ ?_) I2 r rz S2 (rx.append ry) hlen k2
      · rw [l1, ← rx.length, hlens.1]
      · rw [l2, ← ry.length, hlens.2, kw_len _ hk1]
    · exact k2.elim
  cases es with
  | nil =>
    refine PySem.W.callWith_KW0 (h₀ := X.base) I.ok.mod.kin (F.mkr k hi).kp a1 ?_ (by rw [a2] <;> rfl)
    dsimp only at kq
    rw [hl0 rfl] at kq
    have kq : OutK X.K ca (RV X.K ca) ρ H (bnd (fw e h) fun ws h2 => if ([] : List MV).length = ([] : List Expr).length ∧ ws.length = (kw :: kws).length then make C c k ([] ++ ws) h2 else none) Q (fun c d H' => W c d σ H') := kq
    refine thn (hw.run pos pins s σ H (fun zs H2 => ∃ ρ2 h2 ys, Sim X.K ca ρ2 h2 H2 ∧ RVs X.K ca ρ2 H2 ys zs ∧ OutK X.K ca (RV X.K ca) ρ2 H2 (if ([] : List MV).length = ([] : List Expr).length ∧ ys.length = (kw :: kws).length then make C c k ([] ++ ys) h2 else none) Q (fun c d H' => W c d σ H')) I
      ⟨ρ, h, e, S, re, kq.bnd fun ys h2 ρ2 H2 zs _ g2 S2 r2 k2 => ⟨ρ2, h2, ys, S2, r2, k2⟩⟩) fun ws s2 q => ?_
    obtain ⟨zs, H2, I2, rz, ρ2, h2, ys, S2, ry, k2⟩ := q
    exact ⟨I2.kIn, last I2 .nil rz S2 .nil ry k2⟩
  | cons e0 es0 =>
    obtain ⟨n1, n2⟩ := noStar_cons hs
    refine PySem.W.callWith_KW (h₀ := X.base) I.ok.mod.kin (F.mkr k hi).kp a1 (thn (hl.run pos pins s σ H (fun vs H1 => ∃ xs, rdA X.K ca fw W σ H1 fun zs H2 => ∃ ρ2 h2 ys, Sim X.K ca ρ2 h2 H2 ∧ RVs X.K ca ρ2 H2 xs vs ∧ RVs X.K ca ρ2 H2 ys zs ∧
        OutK X.K ca (RV X.K ca) ρ2 H2 (if xs.length = (e0 :: es0).length ∧ ys.length = (kw :: kws).length then make C c k (xs ++ ys) h2 else none) Q (fun c d H' => W c d σ H')) I
      ⟨ρ, h, e, S, re, kq.bnd fun xs h1 ρ1 H1 vs _ g1 S1 r1 k1 => ⟨xs, ρ1, h1, e, S1, re.mono S g1, k1.bnd fun ys h2 ρ2 H2 zs _ g2 S2 r2 k2 => ⟨ρ2, h2, ys, S2, r1.mono S1 g2, r2, k2⟩⟩⟩) fun us s1 q => ?_) (by rw [plain_any hs pos, a2] <;> rfl) (star_no n1)
    obtain ⟨vs, H1, I1, r, xs, q⟩ := q
    refine thn (hw.run pos pins s1 σ H1 _ I1 q) fun ws s2 q => ?_
    obtain ⟨zs, H2, I2, rz, ρ2, h2, ys, S2, rx, ry, k2⟩ := q
    exact ⟨I2.kIn, last I2 r rz S2 rx ry k2⟩
end
end Sd
end T_Sd12
section T_Sd13
set_option linter.all false
set_option maxRecDepth 100000
set_option maxHeartbeats 1000000
/-! Sd13: built-ins by name, len of instances, methods, attributes. -/
namespace Sd
open PySem PySem.Spec PyProof.Rows L2 Ev
theorem bval {f : Str} (h : bPlain.contains f = true) : f ∈ bNames ∧ f ≠ "__name__" ∧ f ≠ "__debug__" ∧ ∃ id : String, bootBuiltins f = some (.builtin id) ∨ bootBuiltins f = some (.type id) := by
  have h : f ∈ bPlain := by simpa using h
  unfold bPlain at h
  simp only [List.mem_cons, List.not_mem_nil, or_false] at h
  rcases h with rfl | rfl | rfl | rfl | rfl | rfl | rfl | rfl | rfl | rfl | rfl | rfl | rfl
  · exact ⟨by decide, by decide, by decide, "len", .inl (by decide +kernel)⟩
  · exact ⟨by decide, by decide, by decide, "all", .inl (by decide +kernel)⟩
  · exact ⟨by decide, by decide, by decide, "any", .inl (by decide +kernel)⟩
  · exact ⟨by decide, by decide, by decide, "tuple", .inr (by decide +kernel)⟩
  · exact ⟨by decide, by decide, by decide, "list", .inr (by decide +kernel)⟩
  · exact ⟨by decide, by decide, by decide, "int", .inr (by decide +kernel)⟩
  · exact ⟨by decide, by decide, by decide, "str", .inr (by decide +kernel)⟩
  · exact ⟨by decide, by decide, by decide, "abs", .inl (by decide +kernel)⟩
  · exact ⟨by decide, by decide, by decide, "sum", .inl (by decide +kernel)⟩
  · exact ⟨by decide, by decide, by decide, "min", .inl (by decide +kernel)⟩
  · exact ⟨by decide, by decide, by decide, "max", .inl (by decide +kernel)⟩
  · exact ⟨by decide, by decide, by decide, "sorted", .inl (by decide +kernel)⟩
  · exact ⟨by decide, by decide, by decide, "repr", .inl (by decide +kernel)⟩
/-- the call of an own special method of an instance, within a built-in -/
theorem cspecF {prog : Program} {w : World} {A : Around} {E : Value → Shared → Prop} {s : Shared} {K : PySem.W.Frag} {x C f : Addr} {ox : Obj} {od : Option Obj} {name : Str} {args : List Value} {Q : Option Value → Shared → Prop} (X : K.In s.heap)
    (I : PySem.W.InstAt s.heap x ox C od) (hs : PySem.W.findIn K (.ref C) name = some (some (.ref f))) (hf : PySem.W.isFn K (.ref f) = true) (hc : wpAny (model prog w) A (call (.ref f) (.ref x :: args)) (fun v => Q (some v)) E s) :
    wpAny (model prog w) A (callSpecial? (.ref x) name args) Q E s := by
  have sp : PySem.W.Looks (model prog w) s.heap (specialOf (.ref x) name) (some (.ref f)) := I.type.andThen (PySem.W.looks_findIn X hs)
  have hb : PySem.W.Looks (model prog w) s.heap (bindSpecial (.ref f) (.ref x)) (.ref f, [.ref x]) := PySem.W.bind_fn X (.ref x) (beq_iff_eq.mp hf)
  simp only [callSpecial?]
  refine wpAny_bind (sp.here ?_)
  exact wpAny_holding (wpAny_bind (hb.here (wpAny_bind (wpAny_mono hc (fun v s' h' => wpAny_pure h') fun _ _ h' => h'))))
section
variable {X : Cx} {C : Cxt} {ca fa : Str → Addr} {kk : Nat} {sc : Scope} {W : WX} {t a b c ex : Expr} {es r : List Expr} {pos p : Pos}
variable {fe fb fc : MEnv → MH → Option Out} {fl fw : MEnv → MH → Option OutL}
theorem insM_some {x : MV} {m : Str} {h : MH} {o : Option Str} (e : insM C m h x = some o) : ∃ n c fs, x = .ref n ∧ h[n]? = some (.ins c fs) ∧ ∀ k, o = some k → ∃ d, lk c C.G.clss = some d ∧ d.isExc = false ∧ lk m fs = none ∧ findM C.G m d.mro = some k := by
  unfold insM at e
  split at e
  · rename_i n c fs hi
    have hx : x = .ref n ∧ h[n]? = some (.ins c fs) := by
      unfold ins? at hi
      split at hi
      · split at hi
        · rename_i hk
          cases hi
          exact ⟨rfl, hk⟩
        · cases hi
      · cases hi
    refine ⟨n, c, fs, hx.1, hx.2, fun k hk => ?_⟩
    subst hk
    split at e
    · rename_i d hd
      split at e
      · rename_i hc
        exact ⟨d, hd, hc.1, hc.2, Option.some.inj e⟩
      · cases e
    · cases e
  · cases e
theorem lookF {K : PySem.W.Frag} {ρ : List Addr} {H : Hp} {f : Str} : ∀ {fs : List (Str × MV)} {gs : List (Str × V)}, RFs K ca ρ H fs gs → (lk f fs = none → gs.lookup f = none) ∧ ∀ v, lk f fs = some v → ∃ u, gs.lookup f = some u ∧ RV K ca ρ H v u
  | _, _, .nil => ⟨fun _ => rfl, fun v e => by cases e⟩
  | (y, m) :: ps, (y', w) :: qs, .cons ⟨e, r⟩ rs => by
    obtain ⟨i1, i2⟩ := lookF (f := f) rs
    have e : y = y' := e
    subst e
    unfold lk
    rw [List.lookup_cons]
    by_cases hy : f = y
    · rw [if_pos hy, beq_iff_eq.mpr hy]
      exact ⟨fun z => (by cases z), fun v z => by cases z; exact ⟨w, rfl, r⟩⟩
    · rw [if_neg hy, beq_eq_false_iff_ne.mpr hy]
      exact ⟨i1, i2⟩
theorem XC.bindsTo (D : XC X C ca fa kk) {f : Str} {d : FnD} (hf : lk f C.G.fns = some d) : Binds X.K (fdOf X.K (fa f)) d.ps [] := by
  obtain ⟨_, _, _, _, _, _, hb, _⟩ := D.sf.fn f d hf
  exact hb
/-- the evaluator's calls know how many values a def takes -/
def LenOk (C : Cxt) : Prop := ∀ f vs h1, (∀ d, lk f C.G.fns = some d → vs.length ≠ d.ps.length) → C.call f vs h1 = none
/-- a call of a def at X's place, or within a built-in: whatever the evaluator tells -/
theorem XC.runA (D : XC X C ca fa kk) (L : LenOk C) (G : XG X C ca sc W) {A1 : Around} (hr : Room kk A1) (hgd : A1.guards = some []) {f : Str} {pins : List (Addr × Obj)} {s : Shared} {σ : L2.St} {H : Hp} {us : List Value} {vs : List V} {xs : List MV} {Q : VK} {ρ : List Addr} {h : MH}
    (I : Inv X pins σ H s) (e0 : Env0 X.prog X.w X.K X.mg X.base A1 X.stack s H) (r : Vals vs us) (S : Sim X.K ca ρ h H) (rv : RVs X.K ca ρ H xs vs) (k : OutK X.K ca (RV X.K ca) ρ H (C.call f xs h) Q (fun c d H' => W c d σ H')) :
    wpAny (model X.prog X.w) A1 (call (.ref (fa f)) us) (EP X pins σ Q) X.xe s := by
  have hex : ∃ d, lk f C.G.fns = some d ∧ xs.length = d.ps.length := by
    by_cases hn : ∃ d, lk f C.G.fns = some d ∧ xs.length = d.ps.length
    · exact hn
    · rw [L f xs h fun d hd z => hn ⟨d, hd, z⟩] at k
      exact k.elim
  obtain ⟨d, hf, hl⟩ := hex
  exact run_fA (D.df f d hf) hr hgd (D.bindsTo hf) G.tk I e0 r ⟨by rw [← rv.length, hl], ρ, h, xs, S, rv, k⟩
/-- len of an instance -/
theorem XC.lenI (D : XC X C ca fa kk) (L : LenOk C) (G : XG X C ca sc W) {k : Str} {x : MV} {u : V} {uu : Value} {pins : List (Addr × Obj)} {s : Shared} {σ : L2.St} {H : Hp} {Q : VK} {ρ : List Addr} {h : MH}
    (I : Inv X pins σ H s) (ru : RelV u uu) (S : Sim X.K ca ρ h H) (rx : RV X.K ca ρ H x u) (e : insM C "__len__" h x = some (some k))
    (kq : OutK X.K ca (RV X.K ca) ρ H (bnd (C.call k [x] h) fun v h1 => match v with
        | .int i => if 0 ≤ i ∧ i < 2 ^ 62 then some (.ok (.int i) h1) else none
        | _ => none) Q (fun c d H' => W c d σ H')) : wpAny (model X.prog X.w) X.A (call (.builtin "len") [uu]) (EP X pins σ Q) X.xe s := by
  obtain ⟨n, c, fs, rfl, hn, hk⟩ := insM_some e
  obtain ⟨d, hd, hx, hm, hf⟩ := hk k rfl
  cases rx with
  | @ref _ ad q =>
    obtain ⟨dx, gs, h1, h2⟩ := S.ins hn q
    cases ru
    have F := D.sf.cls c d hd hx
    have M := F.me "__len__" k hf
    obtain ⟨mA, O, _⟩ := ins_get I.hok h1
    obtain ⟨od, J, _⟩ := O.look
    refine Calls.call_function_entry kind_len plain_len entry_len (args_len1 _) ?_
    unfold Builtin.«len»
    refine wpAny_bind (m := oneArg "len" _) (wpAny_pure ?_)
    refine wpAny_bind (m := callSpecial? (.ref ad) (PySem.Str.ofString "__len__")) (cspecF I.kIn J M.at_ M.fn ?_)
    have kq2 := kq.bnd (Q1 := fun u H' => ∃ i : Int, u = .int i ∧ 0 ≤ i ∧ i < 2 ^ 62 ∧ Q (.int i) H') (R := RV X.K ca) fun v h3 ρ3 H3 u3 _ g3 S3 r3 k3 => by
      split at k3
      · cases r3
        split at k3
        · rename_i hi
          exact ⟨_, rfl, hi.1, hi.2, k3 ρ3 H3 _ Grow.refl S3 (.int _)⟩
        · exact k3.elim
      · exact k3.elim
    refine thn (D.runA L G (D.rm.in1) G.gd I I.env0.in1 (us := [.ref ad]) (vs := [.ref ad]) (.cons rfl .nil) S (.cons (.ref q) .nil) kq2) fun v s2 q2 => ?_
    obtain ⟨u2, H2, I2, r2, i, e2, i0, i1, q2⟩ := q2
    subst e2
    obtain ⟨tt, rfl⟩ := r2
    refine wpAny_bind (wpAny_holding (wpAny_pure ?_))
    refine wpAny_bind (wpAny_letGo ?_)
    show wpAny _ _ (if (i : Int) < 0 then _ else _) _ _ _
    rw [if_neg (by omega)]
    show wpAny _ _ (if (i : Int) ≥ 2 ^ 63 then _ else _) _ _ _
    rw [if_neg (by omega)]
    exact wpAny_bind (wpAny_mkInt (wpAny_pure ⟨_, rfl, .int i, H2, I2.tok _, ⟨_, rfl⟩, q2⟩))
theorem s_blt (D : XC X C ca fa kk) (L : LenOk C) (G : XG X C ca sc W) {f : Str} (hf : bPlain.contains f = true) (hg : Gl X f) (hs : noStar (a :: es) = true) (hl : PA X (a :: es) (rdA X.K ca fl W)) :
    PE X (.Call (.Name f p) (a :: es) [] pos) (rdE X.K ca (fun e h => bnd (fl e h) fun vs h1 => match lenI C f vs h1 with
        | some r => r
        | none => fin (bcall f vs h1)) W) := by
  obtain ⟨b1, b2, b3, id, b4⟩ := bval hf
  have hm := G.gn.blt f b1
  obtain ⟨h1, h2⟩ := noStar_cons hs
  have last : ∀ {pins : List (Addr × Obj)} {s1 : Shared} {σ : L2.St} {H1 : Hp} {us : List Value} {vs : List V} {Q : VK} {bv : Value}, bootBuiltins f = some bv → Inv X pins σ H1 s1 → Vals vs us → CallP X ca W σ (fun vs h1 => match lenI C f vs h1 with
        | some r => r
        | none => fin (bcall f vs h1)) Q vs H1 → wpAny (model X.prog X.w) X.A (call bv us) (EP X pins σ Q) X.xe s1 := fun {pins s1 σ H1 us vs Q bv} hv I1 r q => by
    obtain ⟨ρ1, h1, xs, S1, rv, k1⟩ := q
    dsimp only at k1
    split at k1
    · rename_i r0 hr0
      unfold lenI at hr0
      split at hr0
      · rename_i hlen
        subst hlen
        have hb : bv = .builtin "len" := by
          have z : bootBuiltins (Str.ofString "len") = some (.builtin "len") := boot_len
          rw [z] at hv
          exact (Option.some.inj hv).symm
        subst hb
        split at hr0
        · obtain ⟨u, rfl, ru⟩ := rv.one
          obtain ⟨uu, rfl, ruu⟩ := vals1 r
          split at hr0
          · rename_i k he
            cases hr0
            exact D.lenI L G I1 ruu S1 ru he k1
          · cases hr0
            exact k1.elim
          · cases hr0
        · cases hr0
      · cases hr0
    · obtain ⟨z, h', e1, q⟩ := k1.end
      obtain ⟨_, id2, b5⟩ := blt_ok (ca := ca) G.calm G.gd G.un e1
      rcases b5 with ⟨v1, cr⟩ | ⟨v1, cr⟩
      · rw [hv] at v1
        cases v1
        exact cr pins s1 σ H1 vs us Q I1 r ⟨ρ1, h1, xs, z, h', S1, rv, e1, q⟩
      · rw [hv] at v1
        cases v1
        exact cr pins s1 σ H1 vs us Q I1 r ⟨ρ1, h1, xs, z, h', S1, rv, e1, q⟩
  refine ⟨fun pins s σ H Q I q => ?_⟩
  rcases b4 with b4 | b4
  · refine wpAny_Call_Name_kw (ld_blt I hg hm b4 ?_ b2 (beq_eq_false_iff_ne.mpr b3))
    refine PyProof.Rows.callWith_builtin1 (thn (hl.run pos pins s σ H _ I (CallP.of q)) fun us s1 q => ?_) (star_no h1) (plain_any h2 pos)
    obtain ⟨vs, H1, I1, r, q⟩ := q
    exact last b4 I1 r q
  · refine wpAny_Call_Name_kw (ld_blt I hg hm b4 ?_ b2 (beq_eq_false_iff_ne.mpr b3))
    refine PyProof.Rows.callWith_type1 (thn (hl.run pos pins s σ H _ I (CallP.of q)) fun us s1 q => ?_) (star_no h1) (plain_any h2 pos)
    obtain ⟨vs, H1, I1, r, q⟩ := q
    exact last b4 I1 r q
/-! ### methods -/
theorem few_ok {o : Expr} {m : Str} {cpos : Pos} (hs : noStar es = true) (hl : es.length < 29) : ((backTo cpos (starEach es X.env)).all (fun x => !x.1) && (backToKw cpos (keywordEach [] X.env)).all (fun x => x.1.isSome)
    && decide (es.length + ([] : List Keyword).length + (if ([] : List Keyword).isEmpty then 0 else 1) < 30)) = true := by
  have h1 : (backTo cpos (starEach es X.env)).all (fun x => !x.1) = true := by
    have := plain_any (X := X) hs cpos
    rw [List.any_eq_false] at this
    rw [List.all_eq_true]
    intro x hx
    have := this x hx
    simpa using this
  rw [h1, Bool.true_and, show (backToKw cpos (keywordEach [] X.env)).all (fun x => x.1.isSome) = true from rfl, Bool.true_and, decide_eq_true_iff]
  show es.length + 0 + 0 < 30
  omega
theorem meth_tree {o : Expr} {m : Str} {apos cpos : Pos} (hb : plainB o = true) (hline : (apos.endLine == cpos.line) = true) (hs : noStar es = true) (hl : es.length < 29) :
    eval (.Call (.Attribute o m apos) es [] cpos) X.env = (do
      let ov ← eval o X.env
      standAt apos.atName
      let (f, first) ← holding [ov] (getMethod ov m (do return (← importBound o X.env).getD true))
      callWith cpos f first (backTo cpos (starEach es X.env)) (backToKw cpos (keywordEach [] X.env))) := by
  have hfew : methodCallForm (es.length + ([] : List Keyword).length) (backTo cpos (starEach es X.env)) (backToKw cpos (keywordEach [] X.env)) = true := few_ok (o := o) (m := m) hs hl
  have hpos : methodCallPos true o X.env apos cpos = pure cpos := by unfold methodCallPos; simp [hline]
  show (do
    let ov ← attributeBase o m X.env (eval o X.env)
    standAt apos.atName
    methodCall o m apos cpos X.env ov (es.length + ([] : List Keyword).length) (backTo cpos (starEach es X.env)) (backToKw cpos (keywordEach [] X.env))) = _
  rw [base_no hb]
  unfold methodCall calleeOf
  rw [hfew, hpos]
  rfl
end
end Sd
end T_Sd13
section T_Sd14
set_option linter.all false
set_option maxRecDepth 100000
set_option maxHeartbeats 1000000
/-! Sd14: methods, attributes, == of instances, isinstance. -/
namespace Sd
open PySem PySem.Spec PyProof.Rows L2 Ev
section
variable {X : Cx} {C : Cxt} {ca fa : Str → Addr} {kk : Nat} {sc : Scope} {W : WX} {t a b c ex o : Expr} {es r : List Expr} {pos p apos : Pos}
variable {fe fb fc : MEnv → MH → Option Out} {fl fw : MEnv → MH → Option OutL}
/-- an instance's method, the receiver known -/
theorem XC.meth (D : XC X C ca fa kk) {m k : Str} {x : MV} {u : V} {pins : List (Addr × Obj)} {s : Shared} {σ : L2.St} {H : Hp} {ρ : List Addr} {h : MH} {pl : Sem Bool} {Q : Value × List Value → Shared → Prop} {uu : Value}
    (I : Inv X pins σ H s) (ru : RelV u uu) (S : Sim X.K ca ρ h H) (rx : RV X.K ca ρ H x u) (e : insM C m h x = some (some k)) (q : Q (.ref (fa k), [uu]) s) :
    wpAny (model X.prog X.w) X.A (getMethod uu m pl) Q X.xe s := by
  obtain ⟨n, c, fs, rfl, hn, hk⟩ := insM_some e
  obtain ⟨d, hd, hx, hm, hf⟩ := hk k rfl
  cases rx with
  | ref q0 =>
    obtain ⟨dx, gs, h1, h2⟩ := S.ins hn q0
    cases ru
    have F := D.sf.cls c d hd hx
    exact getmeth_ok I h1 F.cl (F.me m k hf) ((lookF h2).1 hm) q
/-- what is told of a method call, the receiver's end known -/
def fMeth (C : Cxt) (m : Str) (fl : MEnv → MH → Option OutL) (e : MEnv) (x : MV) (h1 : MH) : Option Out := match insM C m h1 x with
  | some (some k) => bnd (fl e h1) fun vs h2 => C.call k (x :: vs) h2
  | some none => none
  | none => if mty m h1 x = true then bnd (fl e h1) fun vs h2 => fin (mcall m x vs h2) else none
/-- the arguments behind a receiver -/
def MetP (X : Cx) (ca : Str → Addr) (W : WX) (σ : L2.St) (x : MV) (f : List MV → MH → Option Out) (Q : VK) (u : V) (vs : List V) (H2 : Hp) : Prop :=
  ∃ ρ h xs, Sim X.K ca ρ h H2 ∧ RV X.K ca ρ H2 x u ∧ RVs X.K ca ρ H2 xs vs ∧ OutK X.K ca (RV X.K ca) ρ H2 (f xs h) Q (fun c d H' => W c d σ H')
theorem MetP.of {σ : L2.St} {x : MV} {u : V} {f : List MV → MH → Option Out} {Q : VK} {H : Hp} {ρ : List Addr} {h : MH} {e : MEnv} (S : Sim X.K ca ρ h H) (re : RE X.K ca ρ H e σ) (rx : RV X.K ca ρ H x u)
    (k : OutK X.K ca (RV X.K ca) ρ H (bnd (fl e h) fun vs h2 => f vs h2) Q (fun c d H' => W c d σ H')) : rdA X.K ca fl W σ H (MetP X ca W σ x f Q u) :=
  ⟨ρ, h, e, S, re, k.bnd fun vs h2 ρ2 H2 us _ g2 S2 r2 k2 => ⟨ρ2, h2, vs, S2, rx.mono S g2, r2, k2⟩⟩
theorem s_meth (D : XC X C ca fa kk) (L : LenOk C) (G : XG X C ca sc W) {m : Str} (ho : PE X o (rdE X.K ca fe W)) (hl : PA X (a :: es) (rdA X.K ca fl W)) :
    PE X (.Call (.Attribute o m apos) (a :: es) [] pos) (rdE X.K ca (fun e h => if plainB o = true ∧ (apos.endLine == pos.line) = true ∧ noStar (a :: es) = true ∧ (a :: es).length < 29 then bnd (fe e h) fun x h1 => fMeth C m fl e x h1 else none) W) := by
  refine ⟨fun pins s σ H Q I ⟨ρ, h, e, S, re, k⟩ => ?_⟩
  dsimp only at k
  split at k
  · rename_i hc
    obtain ⟨c1, c2, c3, c4⟩ := hc
    obtain ⟨n1, n2⟩ := noStar_cons c3
    cases hfe : fe e h with
    | none => rw [hfe] at k; exact k.elim
    | some oo =>
      cases oo with
      | exc y h1 =>
        refine PySem.W.methodCall_KW (thn (ho.run pins s σ H (fun _ _ => False) I ⟨ρ, h, e, S, re, ?_⟩) fun u s1 ⟨_, _, _, _, z⟩ => z.elim) (meth_tree c1 c2 c3 c4)
        rw [hfe] at k ⊢
        exact k
      | ok x h1 =>
        have kx : ∀ {ρ1 : List Addr} {H1 : Hp}, Grow ρ H ρ1 H1 → OutK X.K ca (RV X.K ca) ρ1 H1 (fMeth C m fl e x h1) Q (fun c d H' => W c d σ H') := fun {ρ1 H1} g => by
          rw [hfe] at k
          exact OutK.mono (o := fMeth C m fl e x h1) k g
        cases him : insM C m h1 x with
        | some ok_ =>
          cases ok_ with
          | none =>
            have k3 := kx Grow.refl
            unfold fMeth at k3
            rw [him] at k3
            exact k3.elim
          | some key =>
            refine PySem.W.methodCall_KW (thn (ho.run pins s σ H (fun u H1 => ∃ ρ1, Sim X.K ca ρ1 h1 H1 ∧ RV X.K ca ρ1 H1 x u ∧ rdA X.K ca fl W σ H1 (MetP X ca W σ x (fun vs h2 => C.call key (x :: vs) h2) Q u)) I ⟨ρ, h, e, S, re, ?_⟩) fun u s1 q => ?_) (meth_tree c1 c2 c3 c4)
            · rw [hfe]
              intro ρ1 H1 u g1 S1 r1
              have k1 := kx g1
              unfold fMeth at k1
              rw [him] at k1
              exact ⟨ρ1, S1, r1, MetP.of S1 (re.mono S g1) r1 k1⟩
            · obtain ⟨v, H1, I1, rv, ρ1, S1, r1, q⟩ := q
              refine D.meth I1 rv S1 r1 him ?_
              obtain ⟨nx, cx, fs, _, _, hk⟩ := insM_some him
              obtain ⟨d, hd, hx, _, hf⟩ := hk key rfl
              refine PySem.W.callWith_K (first := [u]) (h₀ := X.base) I.ok.mod.kin ((D.sf.cls cx d hd hx).me m key hf).kp (thn (hl.run pos pins s1 σ H1 _ I1 q) fun us s2 q => ?_) (star_no n1) (plain_any n2 pos)
              obtain ⟨vs, H2, I2, r, ρ2, h2, xs, S2, rx, rxs, k2⟩ := q
              exact ⟨I2.kIn, D.runA L G (D.rm.mono (Nat.le_succ _)) G.gd I2 I2.env0 (us := u :: us) (vs := v :: vs) (.cons rv r) S2 (.cons rx rxs) k2⟩
        | none =>
          by_cases hm : mty m h1 x = true
          · obtain ⟨T, id, pa, slot, hty, hmt, hty2⟩ := mth_ok (X := X) (ca := ca) (by have := G.un; omega) hm
            refine (pe_bm pa slot hty hmt ho hl (base_no c1 _ _) (few_ok (o := o) (m := m) c3 c4) c2 (star_no n1) (plain_any n2 pos)).run pins s σ H Q I ⟨ρ, h, e, S, re, ?_⟩
            rw [hfe]
            intro ρ1 H1 u g1 S1 r1
            refine ⟨hty2 ρ1 H1 u S1 r1, ?_⟩
            have k1 := kx g1
            unfold fMeth at k1
            rw [him] at k1
            have k1 : OutK X.K ca (RV X.K ca) ρ1 H1 (if mty m h1 x = true then bnd (fl e h1) fun vs h2 => fin (mcall m x vs h2) else none) Q (fun c d H' => W c d σ H') := k1
            rw [if_pos hm] at k1
            refine ⟨ρ1, h1, e, S1, re.mono S g1, k1.bnd fun vs h2 ρ2 H2 us _ g2 S2 r2 k2 => ?_⟩
            obtain ⟨z, h3, e3, q⟩ := k2.end
            exact ⟨ρ2, h2, x, vs, z, h3, S2, r1.mono S1 g2, r2, e3, q⟩
          · have k3 := kx Grow.refl
            unfold fMeth at k3
            rw [him] at k3
            have k3 : OutK X.K ca (RV X.K ca) ρ H (if mty m h1 x = true then bnd (fl e h1) fun vs h2 => fin (mcall m x vs h2) else none) Q (fun c d H' => W c d σ H') := k3
            rw [if_neg hm] at k3
            exact k3.elim
  · exact k.elim
theorem s_meth0 (D : XC X C ca fa kk) (L : LenOk C) (G : XG X C ca sc W) {m : Str} (ho : PE X o (rdE X.K ca fe W)) :
    PE X (.Call (.Attribute o m apos) [] [] pos) (rdE X.K ca (fun e h => if plainB o = true ∧ (apos.endLine == pos.line) = true ∧ noStar [] = true ∧ ([] : List Expr).length < 29 then bnd (fe e h) fun x h1 => fMeth C m (fun _ h => some (.ok [] h)) e x h1 else none) W) := by
  refine ⟨fun pins s σ H Q I ⟨ρ, h, e, S, re, k⟩ => ?_⟩
  dsimp only at k
  split at k
  · rename_i hc
    obtain ⟨c1, c2, c3, c4⟩ := hc
    cases hfe : fe e h with
    | none => rw [hfe] at k; exact k.elim
    | some oo =>
      cases oo with
      | exc y h1 =>
        refine PySem.W.methodCall_KW (thn (ho.run pins s σ H (fun _ _ => False) I ⟨ρ, h, e, S, re, ?_⟩) fun u s1 ⟨_, _, _, _, z⟩ => z.elim) (meth_tree c1 c2 c3 c4)
        rw [hfe] at k ⊢
        exact k
      | ok x h1 =>
        have kx : ∀ {ρ1 : List Addr} {H1 : Hp}, Grow ρ H ρ1 H1 → OutK X.K ca (RV X.K ca) ρ1 H1 (fMeth C m (fun _ h => some (.ok [] h)) e x h1) Q (fun c d H' => W c d σ H') := fun {ρ1 H1} g => by
          rw [hfe] at k
          exact OutK.mono (o := fMeth C m (fun _ h => some (.ok [] h)) e x h1) k g
        cases him : insM C m h1 x with
        | some ok_ =>
          cases ok_ with
          | none =>
            have k3 := kx Grow.refl
            unfold fMeth at k3
            rw [him] at k3
            exact k3.elim
          | some key =>
            refine PySem.W.methodCall_KW (thn (ho.run pins s σ H (fun u H1 => ∃ ρ1, Sim X.K ca ρ1 h1 H1 ∧ RV X.K ca ρ1 H1 x u ∧ OutK X.K ca (RV X.K ca) ρ1 H1 (C.call key [x] h1) Q (fun c d H' => W c d σ H')) I ⟨ρ, h, e, S, re, ?_⟩) fun u s1 q => ?_) (meth_tree c1 c2 c3 c4)
            · rw [hfe]
              intro ρ1 H1 u g1 S1 r1
              have k1 := kx g1
              unfold fMeth at k1
              rw [him] at k1
              exact ⟨ρ1, S1, r1, k1⟩
            · obtain ⟨v, H1, I1, rv, ρ1, S1, r1, q⟩ := q
              refine D.meth I1 rv S1 r1 him ?_
              obtain ⟨nx, cx, fs, _, _, hk⟩ := insM_some him
              obtain ⟨d, hd, hx, _, hf⟩ := hk key rfl
              exact PySem.W.callWith_K0 (first := [u]) I1.kIn ((D.sf.cls cx d hd hx).me m key hf).kp (D.runA L G (D.rm.mono (Nat.le_succ _)) G.gd I1 I1.env0 (us := [u]) (vs := [v]) (.cons rv .nil) S1 (.cons r1 .nil) q)
        | none =>
          by_cases hm : mty m h1 x = true
          · obtain ⟨T, id, pa, slot, hty, hmt, hty2⟩ := mth_ok (X := X) (ca := ca) (by have := G.un; omega) hm
            refine (pe_bm0 pa slot hty hmt ho (base_no c1 _ _) c2).run pins s σ H Q I ⟨ρ, h, e, S, re, ?_⟩
            rw [hfe]
            intro ρ1 H1 u g1 S1 r1
            refine ⟨hty2 ρ1 H1 u S1 r1, ?_⟩
            have k1 := kx g1
            unfold fMeth at k1
            rw [him] at k1
            have k1 : OutK X.K ca (RV X.K ca) ρ1 H1 (if mty m h1 x = true then fin (mcall m x [] h1) else none) Q (fun c d H' => W c d σ H') := k1
            rw [if_pos hm] at k1
            obtain ⟨z, h3, e3, q⟩ := k1.end
            exact ⟨ρ1, h1, x, [], z, h3, S1, r1, .nil, e3, q⟩
          · have k3 := kx Grow.refl
            unfold fMeth at k3
            rw [him] at k3
            have k3 : OutK X.K ca (RV X.K ca) ρ H (if mty m h1 x = true then fin (mcall m x [] h1) else none) Q (fun c d H' => W c d σ H') := k3
            rw [if_neg hm] at k3
            exact k3.elim
  · exact k.elim
/-! ### attributes -/
theorem look_xd {P : Program} {w : World} {H : Hp} {h : Heap} {d : Addr} {fs : List (Str × V)} {f : Str} {v : V} (ok : HOk P w H h) (e : H d = some (.xd fs)) (l : fs.lookup f = some v) : ∃ od u, h.get? d = some od ∧ PySem.W.lookIn f od = some (some u) ∧ RelV v u := by
  obtain ⟨mA, n, r⟩ := (show ObjOk P w H h d (.xd fs) from ok d _ e)
  obtain ⟨od, h1, h2⟩ := lookIn_ns n
  obtain ⟨u, h3, h4⟩ := RelO.some_of (v := v) (o := mA f) (by rw [← l]; exact r f)
  exact ⟨od, u, h1, by rw [h2, h3], h4⟩
theorem exv_at {P : Program} {w : World} {H : Hp} {h : Heap} {a d D : Addr} {od : Obj} (ok : HOk P w H h) (e : H a = some (ExV D d a)) (hd : h.get? d = some od) : ∃ oe, PySem.W.InstAt h a oe D (some od) := by
  obtain ⟨⟨oe, vs, h1, h2, h3⟩, _, _⟩ := (show ObjOk P w H h a (ExV D d a) from ok a _ e)
  obtain ⟨oc, od', oda, osl⟩ := oe
  obtain ⟨z1, z2⟩ := h2
  dsimp only at z1 z2 h3
  subst z1 z2 h3
  exact ⟨_, h1, rfl, rfl, hd⟩
theorem ins?_some {h : MH} {x : MV} {n : Nat} {c : Str} {fs : List (Str × MV)} (e : ins? h x = some (n, c, fs)) : x = .ref n ∧ h[n]? = some (.ins c fs) := by
  unfold ins? at e
  split at e
  · split at e
    · rename_i hk
      cases e
      exact ⟨rfl, hk⟩
    · cases e
  · cases e
theorem s_attr (D : XC X C ca fa kk) (L : LenOk C) (G : XG X C ca sc W) {f : Str} (ha : PE X a (rdE X.K ca fe W)) :
    PE X (.Attribute a f pos) (rdE X.K ca (fun e h => if plainB a = true then bnd (fe e h) fun x h1 => eAttr C x f h1 else none) W) := by
  refine ⟨fun pins s σ H Q I ⟨ρ, h, e, S, re, k⟩ => ?_⟩
  dsimp only at k
  split at k
  · rename_i hb
    refine attr_of (base_no hb _ _) (thn (ha.run pins s σ H (fun u H1 => ∃ ρ1 h1 x, Sim X.K ca ρ1 h1 H1 ∧ RV X.K ca ρ1 H1 x u ∧ OutK X.K ca (RV X.K ca) ρ1 H1 (eAttr C x f h1) Q (fun c d H' => W c d σ H')) I ⟨ρ, h, e, S, re, k.bnd fun x h1 ρ1 H1 u _ g1 S1 r1 k1 => ⟨ρ1, h1, x, S1, r1, k1⟩⟩) fun uu s1 q => ?_)
    obtain ⟨u, H1, I1, ru, ρ1, h1, x, S1, r1, k1⟩ := q
    unfold eAttr at k1
    split at k1
    · rename_i c v
      split at k1
      · rename_i d hd
        split at k1
        · rename_i hx
          obtain ⟨hx, rfl⟩ := hx
          cases r1 with
          | @exc _ _ a2 d2 v2 e1 e2 rv =>
            cases ru
            have F := D.sf.exc c d hd hx
            obtain ⟨od, w2, z1, z2, z3⟩ := look_xd (f := Str.ofString "value") (v := v2) I1.hok e2 (by simp [List.lookup])
            obtain ⟨oe, J⟩ := exv_at I1.hok e1 z1
            exact HandSPX.exc_get I1.kIn J F.hg F.hk F.hs (PySem.W.findObj_own F.hd F.hv rfl z2) (handed_of z3) ⟨v2, H1, I1.tok _, z3, k1 ρ1 H1 v2 Grow.refl S1 rv⟩
        · exact k1.elim
      · exact k1.elim
    · split at k1
      · rename_i n c fs hi
        obtain ⟨rfl, hn⟩ := ins?_some hi
        cases r1 with
        | @ref _ ad q0 =>
          obtain ⟨dx, gs, e1, e2⟩ := S1.ins hn q0
          cases ru
          split at k1
          · rename_i d hd
            split at k1
            · exact k1.elim
            · rename_i hx
              have hx : d.isExc = false := by simpa using hx
              have F := D.sf.cls c d hd hx
              split at k1
              · rename_i key hk
                obtain ⟨pp, hp⟩ := F.pr f key hk
                cases hcall : C.call key [.ref n] h1 with
                | none => rw [hcall] at k1; exact k1.elim
                | some oo =>
                  cases oo with
                  | exc _ _ => rw [hcall] at k1; exact k1.elim
                  | ok v h2 =>
                    rw [hcall] at k1
                    have k1 : OutK X.K ca (RV X.K ca) ρ1 H1 (some (.ok v h2)) Q (fun c d H' => W c d σ H') := k1
                    obtain ⟨mA, O, _, _, _, _⟩ := ins_get I1.hok e1
                    obtain ⟨od, J, _⟩ := O.look
                    obtain ⟨rest, hrec⟩ := hp.rec_
                    have I2 := I1.tok (s1.toks + 1)
                    have hc : (PySem.W.clsIn X.K (ca c)).isSome = true := by
                      obtain ⟨cd, hc, _⟩ := PySem.W.any_some F.cl.hd
                      rw [hc]
                      rfl
                    refine PySem.W.get_bind I1.kIn J (PySem.W.plainGet_of (F.cl.get f)).1 (PySem.W.findObj_data hc hp.at_ hp.get hp.tak) (PySem.W.plainGet_of (F.cl.get f)).2 (wpAny_call (PySem.W.prop_get (s := { s1 with toks := s1.toks + 1 }) I1.kIn hrec ?_))
                    have hex : ∃ dd, lk key C.G.fns = some dd ∧ ([MV.ref n]).length = dd.ps.length := by
                      by_cases hn : ∃ dd, lk key C.G.fns = some dd ∧ ([MV.ref n]).length = dd.ps.length
                      · exact hn
                      · rw [L key _ _ fun dd hdd z => hn ⟨dd, hdd, z⟩] at hcall
                        cases hcall
                    obtain ⟨dd, hf, hl⟩ := hex
                    have hb := D.bindsTo hf { s1 with toks := s1.toks + 1 } [.ref ad] I2.kIn (by simpa using hl)
                    have sp : spC X.K ca C.call key dd.ps [.ref ad] H1 Q (fun c d H' => False) := ⟨hl, ρ1, h1, [.ref n], S1, .cons (.ref q0) .nil, by rw [hcall]; exact k1⟩
                    refine codeAny_mono ((D.df key dd hf).run X.A.in1 X.stack _ H1 ⟨[.ref ad], []⟩ [.ref ad] [.ref ad] Q _ D.rm.in1 G.gd I2.env0.in1 (by simpa using hb) (.cons rfl .nil) sp) fun r s' hq => ?_
                    cases r with
                    | error er =>
                      obtain ⟨_, _, _, _, _, _, _, _, _, _, _, _, z⟩ := hq
                      exact z.elim
                    | ok fl =>
                      cases fl with
                      | ret uv =>
                        obtain ⟨v3, H', I3, rv3, q3⟩ := I2.after hq
                        show wpAny _ _ (handedOut uv) _ _ _
                        rw [PySem.W.handedOut_of (handed_of rv3)]
                        exact wpAny_pure ⟨v3, H', I3, rv3, q3⟩
                      | next => exact hq.elim
                      | brk => exact hq.elim
                      | cont => exact hq.elim
              · split at k1
                · rename_i hfl
                  obtain ⟨z, e3, q⟩ := k1.at
                  obtain ⟨v, e4, e5⟩ := (lookF e2).2 z e3
                  exact getattr_ok I1 e1 F.cl (F.fl f (by simpa using hfl)) e4 fun u' s2 I2 ru' => ⟨v, H1, I2, ru', q.here S1 e5⟩
                · exact k1.elim
          · exact k1.elim
      · exact k1.elim
  · exact k.elim
end
end Sd
end T_Sd14
section T_Sd15
set_option linter.all false
set_option maxRecDepth 100000
set_option maxHeartbeats 1000000
/-! Sd15: == of instances, isinstance, list(range(n)). -/
namespace Sd
open PySem PySem.Spec PyProof.Rows L2 Ev
/-! ### != of an instance whose class has == of its own -/
section
variable {prog : Program} {w : World} {A : Around} {E : Value → Shared → Prop} {s : Shared} {K : PySem.W.Frag} {x C f : Addr} {ox : Obj} {od : Option Obj} {b tb : Value}
theorem ne_entry {Q : Fin → Shared → Prop} (hu : A.units < cLine) (X : K.In s.heap) (I : PySem.W.InstAt s.heap x ox C od) (hs : PySem.W.findIn K (.ref C) "__eq__" = some (some (.ref f))) (hf : PySem.W.isFn K (.ref f) = true)
    (hcall : wpAny (model prog w) A (call (.ref f) [.ref x, b]) (fun v s' => ∃ k, v = .bool k ∧ Q (.done (.ret (.bool (!k)))) s') E s) : wpAny (model prog w) A (Builtin.«object.__ne__» ⟨[.ref x, b], []⟩) Q E s := by
  unfold Builtin.«object.__ne__»
  repeat (first
    | with_reducible refine wpAny_cRoomFor hu ?_
    | (refine wpAny_bind (m := callSpecialIfBound? (.ref x) (Str.ofString "__eq__") [b]) (PySem.W.ifBound_K X I hs hf (wpAny_mono hcall (fun v s' hr => by
        obtain ⟨k, rfl, hq⟩ := hr
        repeat (first | exact hq | exact wpAny_pure hq | exact wpAny_truthy_bool hq | (refine wpAny_bind (m := truthy (.bool _)) (wpAny_truthy_bool ?_)) | wp_step)) fun _ _ e => e)))
    | wp_step)
theorem ifBound_ne {M : Model} {args : List Value} {Q : Option Value → Shared → Prop} (X : K.In s.heap) (I : PySem.W.InstAt s.heap x ox C od) (hs : PySem.W.findIn K (.ref C) "__ne__" = some (some (.builtin "object.__ne__")))
    (h : wpAny M A (call (.builtin "object.__ne__") (.ref x :: args)) (fun v => Q (some v)) E s) : wpAny M A (callSpecialIfBound? (.ref x) "__ne__" args) Q E s := by
  simp only [callSpecialIfBound?, bindSpecialIfBound?]
  refine wpAny_holding (wpAny_bind (wpAny_bind (wpAny_bind (I.type.here ((PySem.W.looks_findIn X hs).here ?_)))))
  refine wpAny_bind (wpAny_askSetting (wpAny_ite ?_))
  have run : wpAny M A (call (.builtin "object.__ne__") ([.ref x] ++ args) >>= fun v => pure (some v)) Q E s := wpAny_bind (wpAny_mono h (fun v s' z => wpAny_pure z) fun _ _ z => z)
  split
  · exact wpAny_bind (wpAny_of_eq (F.cmp_object.ne.bind _) (wpAny_pure (by exact run)))
  · exact wpAny_tryCatch (wpAny_bind (wpAny_of_eq (F.cmp_object.ne.bind _) (wpAny_pure (by exact run))))
theorem ne_own {Q : Value → Shared → Prop} (hu : A.units + 1 < cLine) (X : K.In s.heap) (I : PySem.W.InstAt s.heap x ox C od) (hb : PySem.W.Looks (model prog w) s.heap (typeOf b) tb) (hn : PySem.W.notFirst K C tb = true)
    (hne : PySem.W.findIn K (.ref C) "__ne__" = some (some (.builtin "object.__ne__"))) (hs : PySem.W.findIn K (.ref C) "__eq__" = some (some (.ref f))) (hf : PySem.W.isFn K (.ref f) = true) (hm : PySem.W.mroIn K C (.type "object") = some true)
    (hcall : wpAny (model prog w) A.in1 (call (.ref f) [.ref x, b]) (fun v s' => ∃ k, v = .bool k ∧ Q (.bool (!k)) s') E s) : wpAny (model prog w) A (richCompare .NotEq (.ref x) b) Q E s := by
  have one : wpAny (model prog w) A (tryCompare (.ref x) "__ne__" b) (fun r s' => ∃ v, r = some v ∧ Q v s') E s := by
    unfold tryCompare
    refine wpAny_bind (ifBound_ne X I hne (wpAny_call (codeAny_call_builtin F.cmp_object.ne.plain F.cmpEntry_ne (PySem.W.check_slot F.cmpKind_ne F.cmpSplit_ne (I.type.andThen (PySem.W.looks_mroIn X hm)) (F.cmpArgs_ne _ _)
      (ne_entry (A := A.in1) (by show A.units + 1 < cLine; exact hu) X I hs hf (wpAny_mono hcall (fun v s' hv => ?_) fun _ _ e => e))))))
    obtain ⟨k, rfl, hq⟩ := hv
    first
      | exact ⟨k, rfl, wpAny_pure ⟨_, rfl, hq⟩⟩
      | exact ⟨k, rfl, wpAny_pure (wpAny_pure ⟨_, rfl, hq⟩)⟩
  unfold richCompare
  simp only [oneThing_ref]
  refine wpAny_holding (wpAny_bind (wpAny_cRoomFor (Nat.lt_of_succ_lt hu) ?_))
  refine wpAny_bind (I.type.here (wpAny_bind (hb.here ?_)))
  split
  · rename_i q
    have e : PySem.W.subIn K tb (.ref C) = some false := by
      rcases Bool.or_eq_true_iff.mp hn with e | e
      · rw [beq_iff_eq.mp e] at q
        simp at q
      · exact beq_iff_eq.mp e
    refine wpAny_bind ((PySem.W.looks_subIn X e).here ?_)
    simp only [Bool.false_eq_true, if_false]
    refine wpAny_bind (wpAny_mono one (fun r s' z => ?_) fun _ _ e => e)
    obtain ⟨v, rfl, hq⟩ := z
    exact wpAny_pure hq
  · refine wpAny_bind (wpAny_pure ?_)
    simp only [Bool.false_eq_true, if_false]
    refine wpAny_bind (wpAny_mono one (fun r s' z => ?_) fun _ _ e => e)
    obtain ⟨v, rfl, hq⟩ := z
    exact wpAny_pure hq
end
section
variable {K : PySem.W.Frag} {ca : Str → Addr} {ρ : List Addr} {h : MH} {H : Hp} {C : Addr}
theorem sub_ty {T : String} {l : List Value} (e : PySem.fastBuiltinMro T = some l) (hl : l.all (fun v => match v with | .ref _ => false | _ => true) = true) : PySem.W.subIn K (.type T) (.ref C) = some false := by
  show (fastBuiltinMro T).map (·.contains (.ref C)) = some false
  rw [e]
  show some (l.contains (.ref C)) = some false
  congr 1
  rw [Bool.eq_false_iff]
  intro z
  have hm : Value.ref C ∈ l := by simpa using z
  have := List.all_eq_true.mp hl _ hm
  cases this
theorem nf_ty {T : String} {l : List Value} (e : PySem.fastBuiltinMro T = some l) (hl : l.all (fun v => match v with | .ref _ => false | _ => true) = true) : PySem.W.notFirst K C (.type T) = true := by
  unfold PySem.W.notFirst
  rw [sub_ty e hl]
  simp
theorem nf_none : PySem.W.notFirst K C (.type "NoneType") = true := nf_ty (l := [.type "NoneType", .type "object"]) (by decide +kernel) (by decide)
theorem nf_bool : PySem.W.notFirst K C (.type "bool") = true := nf_ty (l := [.type "bool", .type "int", .type "object"]) (by decide +kernel) (by decide)
theorem nf_int : PySem.W.notFirst K C (.type "int") = true := nf_ty (l := [.type "int", .type "object"]) (by decide +kernel) (by decide)
theorem nf_str : PySem.W.notFirst K C (.type "str") = true := nf_ty (l := [.type "str", .type "object"]) (by decide +kernel) (by decide)
theorem nf_tuple : PySem.W.notFirst K C (.type "tuple") = true := nf_ty (l := [.type "tuple", .type "object"]) (by decide +kernel) (by decide)
theorem nf_list : PySem.W.notFirst K C (.type "list") = true := nf_ty (l := [.type "list", .type "object"]) (by decide +kernel) (by decide)
theorem nf_dict : PySem.W.notFirst K C (.type "dict") = true := nf_ty (l := [.type "dict", .type "object"]) (by decide +kernel) (by decide)
/-- the type of what an instance is compared with -/
theorem eqOk_ty {X : Cx} {pins : List (Addr × Obj)} {σ : L2.St} {s : Shared} {c : Str} {y : MV} {v : V} {vv : Value} (I : Inv X pins σ H s) (S : Sim X.K ca ρ h H) (ry : RV X.K ca ρ H y v) (rv : RelV v vv) (e : eqOk h c y = true) :
    ∃ tb, PySem.W.Looks (model X.prog X.w) s.heap (typeOf vv) tb ∧ PySem.W.notFirst X.K (ca c) tb = true := by
  have tl : ∀ {a : Addr} {o : Obj}, s.heap.get? a = some o → PySem.W.Looks (model X.prog X.w) s.heap (typeOf (.ref a)) o.cls := fun {a o} ho A Q E s k q => wpAny_typeOf_ref (k _ _ ho) q
  have ty : ∀ {T : String} {u : Value}, s.TypeIs u T → PySem.W.Looks (model X.prog X.w) s.heap (typeOf u) (.type T) := fun {T u} ht => by
    cases u with
    | ref a =>
      obtain ⟨o, h1, h2⟩ := ht
      have := tl h1
      rwa [h2] at this
    | _ => exact PySem.W.Looks.of_pure ht
  cases ry with
  | non => cases rv; exact ⟨_, ty (show s.TypeIs .none "NoneType" from rfl), nf_none⟩
  | bl b => cases rv; exact ⟨_, ty (show s.TypeIs (.bool b) "bool" from rfl), nf_bool⟩
  | int i =>
    obtain ⟨t, rfl⟩ := rv
    exact ⟨_, ty (typeIs_int s i t), nf_int⟩
  | str x =>
    obtain ⟨t, rfl⟩ := rv
    exact ⟨_, ty (typeIs_str s x t), nf_str⟩
  | tup q rs =>
    cases rv
    obtain ⟨its, _, ht, _⟩ := I.tuple q
    exact ⟨_, ty ht.typeIs, nf_tuple⟩
  | exc _ _ _ => cases e
  | frz qf =>
    cases rv
    obtain ⟨its, _, pl, _⟩ := I.list qf.sq
    exact ⟨_, ty pl.isList.typeIs, nf_list⟩
  | @ref n a q =>
    cases rv
    simp only [eqOk] at e
    split at e
    · rename_i c' fs hn
      have e := of_decide_eq_true e
      subst e
      obtain ⟨dx, gs, h1, h2⟩ := S.ins hn q
      obtain ⟨mA, O, _⟩ := ins_get I.hok h1
      refine ⟨.ref (ca c'), tl O.obj, ?_⟩
      unfold PySem.W.notFirst
      rw [beq_self_eq_true] <;> rfl
    · rename_i o hne hn
      cases o with
      | ins c' fs => exact absurd rfl (hne c' fs)
      | lst xs =>
        obtain ⟨vs, h1, h2⟩ := S.lst hn q
        obtain ⟨its, _, pl, _⟩ := I.list (SqL.of h1)
        exact ⟨_, ty pl.isList.typeIs, nf_list⟩
      | dic kvs =>
        obtain ⟨qs, h1, h2⟩ := S.dic hn q
        obtain ⟨_, _, vs, _, dd⟩ := dk_rd I.hok (.inl h1)
        exact ⟨_, ty dd.typeIs, nf_dict⟩
    · cases e
end
section
variable {X : Cx} {C : Cxt} {ca fa : Str → Addr} {kk : Nat} {sc : Scope} {W : WX} {t a b c ex o : Expr} {es r : List Expr} {pos p apos : Pos}
variable {fe fb fc : MEnv → MH → Option Out} {fl fw : MEnv → MH → Option OutL}
theorem eqM_some {x y : MV} {h : MH} {k : Str} (e : eqM C h x y = some (some k)) : ∃ n c fs d, x = .ref n ∧ h[n]? = some (.ins c fs) ∧ lk c C.G.clss = some d ∧ d.isExc = false ∧ eqOk h c y = true ∧ findM C.G "__eq__" d.mro = some k := by
  unfold eqM at e
  split at e
  · rename_i n c fs hi
    obtain ⟨rfl, hn⟩ := ins?_some hi
    split at e
    · rename_i d hd
      split at e
      · rename_i hc
        exact ⟨n, c, fs, d, rfl, hn, hd, hc.1, hc.2, Option.some.inj e⟩
      · cases e
    · cases e
  · cases e
theorem XC.cmpG (D : XC X C ca fa kk) (L : LenOk C) (G : XG X C ca sc W) : CmpG X C ca W := by
  intro op pins s σ H u v uu vv Q I ru rv hq
  obtain ⟨ρ, h, x, y, S, rx, ry, k⟩ := hq
  have plain : ∀ {op : CmpOp}, OutK X.K ca (RV X.K ca) ρ H (at_ h ((cmp op x y h).map .bl)) Q (fun cls d H' => W cls d σ H') → wpAny (model X.prog X.w) X.A (compareOp op uu vv) (EP X pins σ Q) X.xe s := fun {op} k => by
    obtain ⟨z, e1, q⟩ := k.at
    obtain ⟨b, e2, e3⟩ := map_some e1
    subst e3
    exact cmp_bl (by have := G.un; omega) I ru rv S rx ry e2 (q.here S (.bl _))
  have own : ∀ {key : Str} {g : Bool → Bool}, eqM C h x y = some (some key) → OutK X.K ca (RV X.K ca) ρ H (bnd (C.call key [x, y] h) fun v h1 => match v with
        | .bl b => some (.ok (.bl (g b)) h1)
        | _ => none) Q (fun cls d H' => W cls d σ H') → ∀ A1, Room kk A1 → A1.guards = some [] → Env0 X.prog X.w X.K X.mg X.base A1 X.stack s H → wpAny (model X.prog X.w) A1 (call (.ref (fa key)) [uu, vv]) (fun r s' => ∃ b, r = .bool b ∧ EP X pins σ Q (.bool (g b)) s') X.xe s := fun {key g} he k A1 hr hg e0 => by
    have k2 := k.bnd (Q1 := fun u H' => ∃ b, u = .bl b ∧ Q (.bl (g b)) H') (R := RV X.K ca) fun v h3 ρ3 H3 u3 _ g3 S3 r3 k3 => by
      split at k3
      · cases r3
        exact ⟨_, rfl, k3 ρ3 H3 _ Grow.refl S3 (.bl _)⟩
      · exact k3.elim
    refine thn (D.runA L G hr hg I e0 (us := [uu, vv]) (vs := [u, v]) (.cons ru (.cons rv .nil)) S (.cons rx (.cons ry .nil)) k2) fun r s2 q => ?_
    obtain ⟨z, H2, I2, rz, b, e1, q⟩ := q
    subst e1
    cases rz
    exact ⟨b, rfl, .bl (g b), H2, I2, rfl, q⟩
  have plainOp : (op ≠ .Eq ∧ op ≠ .NotEq) → wpAny (model X.prog X.w) X.A (compareOp op uu vv) (EP X pins σ Q) X.xe s := fun hop => by
    refine plain ?_
    cases op <;> first | exact k | exact absurd rfl hop.1 | exact absurd rfl hop.2
  by_cases h1 : op = .Eq
  · subst h1
    have k : OutK X.K ca (RV X.K ca) ρ H (match eqM C h x y with
      | some (some k) => bnd (C.call k [x, y] h) fun v h1 => (match v with
        | .bl b => some (.ok (.bl b) h1)
        | _ => none)
      | some none => none
      | none => at_ h ((Ev.cmp .Eq x y h).map .bl)) Q (fun cls d H' => W cls d σ H') := k
    split at k
    · rename_i key he
      obtain ⟨n, c, fs, d, rfl, hn, hd, hx, hok, hf⟩ := eqM_some he
      obtain ⟨tb, t1, t2⟩ := eqOk_ty I S ry rv hok
      have F := D.sf.cls c d hd hx
      have M := F.me "__eq__" key hf
      cases rx with
      | @ref _ ad q0 =>
        obtain ⟨dx, gs, e1, e2⟩ := S.ins hn q0
        cases ru
        obtain ⟨mA, O, _⟩ := ins_get I.hok e1
        obtain ⟨od, J, _⟩ := O.look
        obtain ⟨m, hF⟩ := I.fr
        show wpAny _ _ (richCompare .Eq _ _) _ _ _
        refine PySem.W.cmp_K (op := .Eq) D.rm.units0 hF I.ok.mod.kin J t1 t2 M.at_ M.fn (thn (own (g := fun b => b) he k X.A (D.rm.mono (Nat.le_succ _)) G.gd I.env0) fun r s' q => ?_)
        obtain ⟨b, rfl, q⟩ := q
        exact q
    · exact k.elim
    · exact plain k
  · by_cases h2 : op = .NotEq
    · subst h2
      have k : OutK X.K ca (RV X.K ca) ρ H (match eqM C h x y with
        | some (some k) => bnd (C.call k [x, y] h) fun v h1 => (match v with
          | .bl b => some (.ok (.bl (!b)) h1)
          | _ => none)
        | some none => none
        | none => at_ h ((Ev.cmp .NotEq x y h).map .bl)) Q (fun cls d H' => W cls d σ H') := k
      split at k
      · rename_i key he
        obtain ⟨n, c, fs, d, rfl, hn, hd, hx, hok, hf⟩ := eqM_some he
        obtain ⟨tb, t1, t2⟩ := eqOk_ty I S ry rv hok
        have F := D.sf.cls c d hd hx
        have M := F.me "__eq__" key hf
        cases rx with
        | @ref _ ad q0 =>
          obtain ⟨dx, gs, e1, e2⟩ := S.ins hn q0
          cases ru
          obtain ⟨mA, O, _⟩ := ins_get I.hok e1
          obtain ⟨od, J, _⟩ := O.look
          show wpAny _ _ (richCompare .NotEq _ _) _ _ _
          exact ne_own (by have := G.un; omega) I.kIn J t1 t2 F.ne M.at_ M.fn F.ob (own (g := fun b => !b) he k X.A.in1 D.rm.in1 G.gd I.env0.in1)
      · exact k.elim
      · exact plain k
    · exact plainOp ⟨h1, h2⟩
end
end Sd
end T_Sd15
section T_Sd16
set_option linter.all false
set_option maxRecDepth 100000
set_option maxHeartbeats 4000000
/-! Sd16: isinstance, list(range(n)). -/
namespace Sd
open PySem PySem.Spec PyProof.Rows L2 Ev
/-! ### the class of an exception that has a dict of its own -/
section
open PySem.W PySem.Calls
variable {prog : Program} {w : World} {A : Around} {E : Value → Shared → Prop} {s : Shared} {K : Frag} {x D : Addr} {ox od : Obj}
theorem cls_excD {Q : Option Value → Shared → Prop} (hga : findIn K (.ref D) "__getattribute__" = some (some (.builtin "BaseException.__getattribute__"))) (hgt : findIn K (.ref D) "__getattr__" = some none) (hsub : subIn K (.ref D) (.type "BaseException") = some true)
    (hdct : hasDictIn K D = true) (ha : findIn K (.ref D) "__class__" = some (some (.builtin "object.__class__")))
    (hn : specialIn K (.builtin "object.__class__") "__get__" = some (some (.builtin "getset_descriptor.__get__"))) (htk : takesIn K (.builtin "object.__class__") = some true) (hm : mroIn K D (.type "object") = some true)
    (X : K.In s.heap) (I : InstAt s.heap x ox D (some od)) (h : Q (some (.ref D)) { s with toks := s.toks + 1 }) : wpAny (model prog w) A (getAttr? (.ref x) "__class__") Q E s := by
  have hf : findObj K D (some od) "__class__" = some (.bind (.builtin "getset_descriptor.__get__") (.builtin "object.__class__")) := findObj_data (by obtain ⟨cd, hc, _⟩ := any_some hdct; rw [hc]; rfl) ha hn htk
  obtain ⟨hp, g, d, t, os⟩ := s
  have k0 := I.type (M := model prog w)
  have k1 := looks_findIn (M := model prog w) X hga
  have k2 := looks_findIn (M := model prog w) X hgt
  have k3 := looks_find (M := model prog w) X I hf
  have sub : Looks (model prog w) hp (isInstance (.ref x) (.type "BaseException")) true := k0.andThen (looks_subIn X hsub)
  have b0 : (false && onTheHeap (Value.builtin "BaseException.__getattribute__")) = false := rfl
  have b2 : (Value.builtin "BaseException.__getattribute__" == Value.builtin "object.__getattribute__") = false := by decide +kernel
  have b1 : (onTheHeap (Value.ref D) && Value.builtin "BaseException.__getattribute__" == Value.builtin "object.__getattribute__") = false := by rw [b2]; rfl
  unfold getAttr? getAttrBy? getAttrBy
  refine wpAny_bind (wpAny_mkText (wpAny_bind (wpAny_attempt (wpAny_holding (wpAny_bind (k0.at (wpAny_bind (k1.at ?_))))))))
  show wpAny _ _ (if (onTheHeap (Value.ref D) && Value.builtin "BaseException.__getattribute__" == Value.builtin "object.__getattribute__") = true then _ else _) _ _ _
  rw [b1, if_neg Bool.false_ne_true]
  unfold getAttrByItsOwn hookBefore
  refine wpAny_bind ?_
  rw [if_pos (show onTheHeap (Value.ref D) = true from rfl)]
  refine k2.at ?_
  refine wpAny_bind (wpAny_attempt (wpAny_holding ?_))
  unfold callGetattribute
  rw [b0, if_neg Bool.false_ne_true]
  unfold boundAndCalled
  rw [PySem.F.excAttr_ValueError.ga.bind (.ref x)]
  refine wpAny_bind (wpAny_pure ?_)
  show wpAny _ _ (call (.builtin "BaseException.__getattribute__") [.ref x, .str "__class__" t]) _ _ _
  refine wpAny_call (codeAny_call_builtin PySem.F.excAttr_ValueError.ga.plain PySem.F.entry_bexc_ga ?_)
  refine @check_slot (model prog w) _ _ ⟨hp, g, d, t + 1, os⟩ "BaseException.__getattribute__" "BaseException" "__getattribute__" (.ref x) [.str "__class__" t] [] _ (by decide +kernel) (by decide +kernel) sub (PySem.F.args_bexc_ga (.ref x) (.str "__class__" t)) ?_
  unfold Builtin.«object.__getattribute__»
  refine wpAny_bind (wpAny_of_eq (a := ((Value.ref x : Value), [Value.str "__class__" t])) (by first | rfl | (simp only [slotArgs]; rfl)) ?_)
  refine wpAny_bind (wpAny_pure (wpAny_bind (k0.at (wpAny_bind (k3.at ?_)))))
  show wpAny _ _ (holding [Value.builtin "object.__class__"] (call (.builtin "getset_descriptor.__get__") [.builtin "object.__class__", .ref x, .ref D]) >>= ret) _ _ _
  refine wpAny_bind (wpAny_holding (wpAny_call (class_get (s := ⟨hp, g, d, t + 1, os⟩) (ox := ox) (od := some od) X I hm ?_)))
  refine wpAny_pure ?_
  show wpAny _ _ (handedOut (.ref D)) _ _ _
  rw [handedOut_of (v := .ref D) rfl]
  first
    | exact wpAny_pure (wpAny_pure h)
    | exact wpAny_pure h
    | exact wpAny_pure (wpAny_bind (wpAny_pure (wpAny_pure h)))
theorem kitx_excD (hga : findIn K (.ref D) "__getattribute__" = some (some (.builtin "BaseException.__getattribute__"))) (hgt : findIn K (.ref D) "__getattr__" = some none) (hsub : subIn K (.ref D) (.type "BaseException") = some true) (hdct : hasDictIn K D = true)
    (ha : findIn K (.ref D) "__class__" = some (some (.builtin "object.__class__"))) (hn : specialIn K (.builtin "object.__class__") "__get__" = some (some (.builtin "getset_descriptor.__get__"))) (htk : takesIn K (.builtin "object.__class__") = some true) (hm : mroIn K D (.type "object") = some true) :
    KitX K (.ref x) (.ref D) (fun h => InstAt h x ox D (some od)) where
  ty := fun _ _ _ I => I.type
  it := fun _ _ X _ => by
    obtain ⟨cdD, hcD, _⟩ := any_some hdct
    unfold clsIn at hcD
    split at hcD
    · rename_i c' d' cd' sl' ho
      intro A' Q' E' s' k q
      unfold isType loadHead
      exact wpAny_bind (wpAny_loadPart (k _ _ (X _ _ ho)) (wpAny_pure q))
    · cases hcD
  ne := fun h tp dd its n sl X htp => by
    obtain ⟨cdD, hcD, _⟩ := any_some hdct
    refine Bool.eq_false_iff.mpr fun q => ?_
    have e : D = tp := Value.ref.inj (beq_iff_eq.mp q)
    subst e
    unfold clsIn at hcD
    split at hcD
    · rename_i c' d' cd' sl' ho
      have z := (X _ _ ho).symm.trans htp
      cases z
    · cases hcD
  ca := fun X I k => cls_excD hga hgt hsub hdct ha hn htk hm X I k
end
section
variable {X : Cx} {C : Cxt} {ca fa : Str → Addr} {kk : Nat} {sc : Scope} {W : WX} {t a b c ex o : Expr} {es r : List Expr} {pos p apos q : Pos}
variable {fe fb fc : MEnv → MH → Option Out} {fl fw : MEnv → MH → Option OutL}
theorem XC.isi (D : XC X C ca fa kk) {c : Str} {x : MV} {u : V} {uu : Value} {pins : List (Addr × Obj)} {s : Shared} {σ : L2.St} {H : Hp} {ρ : List Addr} {h : MH} {b : Bool} {Q : Value → Shared → Prop}
    (I : Inv X pins σ H s) (ru : RelV u uu) (S : Sim X.K ca ρ h H) (rx : RV X.K ca ρ H x u) (e : isI C.G h x c = some b) (hq : ∀ tk, Q (.bool b) { s with toks := tk }) :
    wpAny (model X.prog X.w) X.A (call (.builtin "isinstance") [uu, valC C.G ca c]) Q X.xe s := by
  unfold isI at e
  split at e
  · rename_i hcn
    obtain ⟨ts, e1, e2⟩ := map_some e
    subst e2
    cases rx with
    | non =>
      cases ru
      cases e1
      exact PySem.W.kia_one PySem.W.kitx_none I.kIn True.intro (D.sf.isT ("NoneType", ["NoneType"]) (by simp [tyRows]) c hcn) (fun z => nomatch z) hq
    | bl b =>
      cases ru
      cases e1
      exact PySem.W.kia_one PySem.W.kitx_bool I.kIn True.intro (D.sf.isT ("bool", ["bool", "int"]) (by simp [tyRows]) c hcn) (fun z => nomatch z) hq
    | int i =>
      obtain ⟨tk, rfl⟩ := ru
      cases e1
      exact PySem.W.kia_one PySem.W.kitx_int I.kIn True.intro (D.sf.isT ("int", ["int"]) (by simp [tyRows]) c hcn) (fun z => nomatch z) hq
    | str i =>
      obtain ⟨tk, rfl⟩ := ru
      cases e1
      exact PySem.W.kia_one PySem.W.kitx_str I.kIn True.intro (D.sf.isT ("str", ["str"]) (by simp [tyRows]) c hcn) (fun z => nomatch z) hq
    | tup qt rs =>
      cases ru
      cases e1
      obtain ⟨its, _, ht, _⟩ := I.tuple qt
      obtain ⟨o, h1, h2, _⟩ := ht
      exact PySem.W.kia_one PySem.W.kitx_tuple I.kIn ⟨o, h1, h2⟩ (D.sf.isT ("tuple", ["tuple"]) (by simp [tyRows]) c hcn) (fun z => nomatch z) hq
    | frz _ => cases e1
    | @exc c0 v0 a d v h1 h2 rv =>
      cases ru
      simp only [typesOf] at e1
      split at e1
      · rename_i d0 hd0
        split at e1
        · rename_i hx
          cases e1
          have F := D.sf.exc c0 d0 hd0 hx
          obtain ⟨od, w2, z1, z2, z3⟩ := look_xd (f := Str.ofString "value") (v := v) I.hok h2 (by simp [List.lookup])
          obtain ⟨oe, J⟩ := exv_at I.hok h1 z1
          exact PySem.W.kia_one (kitx_excD F.hg F.hk F.hs F.hd F.ha D.sf.hn D.sf.ht F.hm) I.kIn J (D.sf.isO c0 d0 hd0 c hcn) (fun z => nomatch z) hq
        · cases e1
      · cases e1
    | @ref n a q0 =>
      cases ru
      simp only [typesOf] at e1
      split at e1
      · rename_i xs hx
        cases e1
        obtain ⟨vs, h1, h2⟩ := S.lst hx q0
        obtain ⟨_, _, n, _, h3⟩ := (show ObjOk X.prog X.w H s.heap a (.lst vs) from I.hok a _ h1)
        exact PySem.W.kia_one PySem.W.kitx_list I.kIn ⟨_, h3, rfl⟩ (D.sf.isT ("list", ["list"]) (by simp [tyRows]) c hcn) (fun z => nomatch z) hq
      · rename_i xs hx
        cases e1
        obtain ⟨vs, h1, h2⟩ := S.dic hx q0
        obtain ⟨_, _, ws, _, dd⟩ := dk_rd I.hok (.inl h1)
        obtain ⟨o, es, ep, h3, h4, _⟩ := dd
        exact PySem.W.kia_one PySem.W.kitx_dict I.kIn ⟨o, h3, h4.1⟩ (D.sf.isT ("dict", ["dict"]) (by simp [tyRows]) c hcn) (fun z => nomatch z) hq
      · rename_i c0 fs hx
        split at e1
        · rename_i d0 hd0
          split at e1
          · cases e1
          · rename_i hne
            cases e1
            have hxx : d0.isExc = false := by simpa using hne
            have F := D.sf.cls c0 d0 hd0 hxx
            obtain ⟨dx, gs, h1, h2⟩ := S.ins hx q0
            obtain ⟨mA, O, _⟩ := ins_get I.hok h1
            obtain ⟨od, J, _⟩ := O.look
            exact PySem.W.kia_one (PySem.W.kitx_own (F.cl.get _) F.cl.hd F.ha D.sf.hn D.sf.ht F.ob) I.kIn J (D.sf.isO c0 d0 hd0 c hcn) (fun z => nomatch z) hq
        · cases e1
      · cases e1
  · cases e
theorem tyS_ok {c : Str} (h : bTys.contains c = true) : bootBuiltins c = some (.type (tyS c)) ∧ c ∈ bNames ∧ c ≠ "__name__" ∧ c ≠ "__debug__" := by
  have h : c ∈ bTys := by simpa using h
  unfold bTys at h
  simp only [List.mem_cons, List.not_mem_nil, or_false] at h
  rcases h with rfl | rfl | rfl | rfl | rfl | rfl
  · exact ⟨by decide +kernel, by decide, by decide, by decide⟩
  · exact ⟨by decide +kernel, by decide, by decide, by decide⟩
  · exact ⟨by decide +kernel, by decide, by decide, by decide⟩
  · exact ⟨by decide +kernel, by decide, by decide, by decide⟩
  · exact ⟨by decide +kernel, by decide, by decide, by decide⟩
  · exact ⟨by decide +kernel, by decide, by decide, by decide⟩
/-- a class's name as a value -/
theorem XC.clsName (D : XC X C ca fa kk) (G : XG X C ca sc W) {c : Str} (hg : Gl X c) (hc : isCN C.G c = true) : ∃ v, RelV v (valC C.G ca c) ∧ (∀ u, RelV v u → u = valC C.G ca c) ∧ PE X (.Name c q) (tC v) := by
  unfold isCN at hc
  cases hk : lk c C.G.clss with
  | some d =>
    obtain ⟨m1, m2⟩ := D.sf.cmg c d hk
    have e : valC C.G ca c = .ref (ca c) := by unfold valC; rw [hk] <;> rfl
    rw [e]
    exact ⟨.ref (ca c), rfl, fun u z => z, pe_glob hg m1 rfl (beq_eq_false_iff_ne.mpr m2)⟩
  | none =>
    rw [hk] at hc
    have hb : bTys.contains c = true := by simpa using hc
    obtain ⟨t1, t2, t3, t4⟩ := tyS_ok hb
    have e : valC C.G ca c = .type (tyS c) := by unfold valC; rw [hk] <;> rfl
    rw [e]
    exact ⟨.ty (tyS c), rfl, fun u z => z, pe_bltn hg (G.gn.blt c t2) t1 rfl t3 (beq_eq_false_iff_ne.mpr t4)⟩
theorem s_isi (D : XC X C ca fa kk) (G : XG X C ca sc W) {c : Str} (hg : Gl X "isinstance") (hgc : Gl X c) (ha : PE X a (rdE X.K ca fe W)) :
    PE X (.Call (.Name "isinstance" p) [a, .Name c q] [] pos) (rdE X.K ca (fun e h => if notStar a = true then bnd (fe e h) fun x h1 => at_ h1 ((isI C.G h1 x c).map .bl) else none) W) := by
  have hm : X.mg "isinstance" = none := G.gn.blt _ (by decide)
  refine ⟨fun pins s σ H Q I ⟨ρ, h, e, S, re, k⟩ => ?_⟩
  dsimp only at k
  split at k
  · rename_i hs
    by_cases hc : isCN C.G c = true
    · obtain ⟨v, v1, v2, pv⟩ := D.clsName (q := q) G hgc hc
      refine wpAny_Call_Name_kw (ld_blt I hg hm boot_isinstance ?_ (by decide) (by decide))
      have pa : PA X [a, .Name c q] (tCons (rdE X.K ca fe W) (tCons (tC v) tNil)) := pa_cons ha (pa_cons pv pa_nil (star_no rfl)) (star_no hs)
      refine PyProof.Rows.callWith_builtin1 (thn (pa.run pos pins s σ H (fun vs H1 => ∃ u ρ1 h1 x b, vs = [u, v] ∧ Sim X.K ca ρ1 h1 H1 ∧ RV X.K ca ρ1 H1 x u ∧ isI C.G h1 x c = some b ∧ Q (.bl b) H1) I
        ⟨ρ, h, e, S, re, k.bnd fun x h1 ρ1 H1 u _ g1 S1 r1 k1 => ?_⟩) fun us s1 z => ?_) (star_no hs) rfl
      · obtain ⟨z, e1, q1⟩ := k1.at
        obtain ⟨b, e2, e3⟩ := map_some e1
        subst e3
        exact ⟨u, ρ1, h1, x, b, rfl, S1, r1, e2, q1.here S1 (.bl b)⟩
      · obtain ⟨vs, H1, I1, r, u, ρ1, h1, x, b, rfl, S1, r1, e1, q1⟩ := z
        obtain ⟨uu, cv, rfl, ru, rc⟩ := vals2 r
        rw [v2 cv rc]
        exact D.isi I1 ru S1 r1 e1 fun tk => ⟨.bl b, H1, I1.tok tk, rfl, q1⟩
    · cases hfe : fe e h with
      | none => rw [hfe] at k; exact k.elim
      | some oo =>
        cases oo with
        | ok x h1 =>
          have k2 := k
          rw [hfe] at k2
          have k3 : OutK X.K ca (RV X.K ca) ρ H (at_ h1 ((isI C.G h1 x c).map .bl)) Q (fun c d H' => W c d σ H') := k2
          unfold isI at k3
          rw [if_neg hc] at k3
          exact k3.elim
        | exc y h1 =>
          refine wpAny_Call_Name_kw (ld_blt I hg hm boot_isinstance ?_ (by decide) (by decide))
          have pa : PA X [a, .Name c q] (tCons (rdE X.K ca fe W) (fun _ _ _ => False)) := by
            refine ⟨fun pos pins s σ H Q I h => ?_⟩
            rw [star_no hs]
            exact Calls.spliced_cons (thn (ha.run pins s σ H _ I h) fun u s1 ⟨_, _, _, _, z⟩ => z.elim)
          refine PyProof.Rows.callWith_builtin1 (thn (pa.run pos pins s σ H (fun _ _ => False) I ⟨ρ, h, e, S, re, ?_⟩) fun us s1 ⟨_, _, _, _, z⟩ => z.elim) (star_no hs) rfl
          rw [hfe] at k ⊢
          exact k
  · exact k.elim
/-! ### list(range(n)) -/
theorem s_lrg (G : XG X C ca sc W) {p2 q2 : Pos} (hg : Gl X "list") (hg2 : Gl X "range") (ha : PE X a (rdE X.K ca fe W)) :
    PE X (.Call (.Name "list" p) [.Call (.Name "range" p2) [a] [] q2] [] pos) (rdE X.K ca (fun e h => if notStar a = true then bnd (fe e h) fun x h1 => (match x with
        | .int k => if -(2 ^ 62) ≤ k ∧ k.toNat ≤ 100000 then newL ((List.range k.toNat).map fun (i : Nat) => MV.int (i : Int)) h1 else none
        | _ => none) else none) W) := by
  have hm : X.mg "list" = none := G.gn.blt _ (by decide)
  have hm2 : X.mg "range" = none := G.gn.blt _ (by decide)
  refine ⟨fun pins s σ H Q I ⟨ρ, h, e, S, re, k⟩ => ?_⟩
  dsimp only at k
  split at k
  · rename_i hs
    refine (pe_listRg G.calm hg hm (prg_1 hg2 hm2 ha (star_no hs)) (star_no rfl)).run pins s σ H Q I ⟨ρ, h, e, S, re, k.bnd fun x h1 ρ1 H1 u _ g1 S1 r1 k1 => ?_⟩
    cases r1 with
    | int n =>
      have k1 : OutK X.K ca (RV X.K ca) ρ1 H1 (if -(2 ^ 62) ≤ n ∧ n.toNat ≤ 100000 then newL ((List.range n.toNat).map fun (i : Nat) => MV.int (i : Int)) h1 else none) Q (fun c d H' => W c d σ H') := k1
      split at k1
      · rename_i hb
        unfold newL at k1
        split at k1
        · refine ⟨n, rfl, ⟨by omega, by omega, by omega, by omega, by omega⟩, fun q hq => ?_⟩
          have er : rgV 0 n = ((List.range n.toNat).map fun (i : Nat) => MV.int (i : Int)).map (fun m => match m with | .int j => V.int j | _ => V.non) := by
            unfold rgV
            rw [Int.sub_zero, List.map_map]
            refine List.map_congr_left fun i _ => ?_
            show V.int (0 + (i : Int)) = V.int (i : Int)
            rw [Int.zero_add]
          have rr : RVs X.K ca ρ1 H1 ((List.range n.toNat).map fun (i : Nat) => MV.int (i : Int)) (rgV 0 n) := by
            rw [er]
            generalize List.range n.toNat = l
            induction l with
            | nil => exact .nil
            | cons i l ih => exact .cons (.int _) ih
          exact End.new (show End X.K ca ρ1 H1 _ _ Q from k1) S1 (.lst rr) hq
        · exact k1.elim
      · exact k1.elim
    | _ => exact k1.elim
  · exact k.elim
end
end Sd
end T_Sd16
section T_Sd17
set_option linter.all false
set_option maxRecDepth 100000
set_option maxHeartbeats 1000000
/-! Sd17: statements. -/
namespace Sd
open PySem PySem.Spec PyProof.Rows L2 Ev
/-- what a statement's end bears -/
def OutSK (K : PySem.W.Frag) (ca : Str → Addr) (ρ : List Addr) (H : Hp) (o : Option OutS) (D : Ends) (W : WX) : Prop := match o with
  | some (.nx e h') => ∀ ρ' H' σ', Grow ρ H ρ' H' → Sim K ca ρ' h' H' → RE K ca ρ' H' e σ' → D.nx σ' H'
  | some (.bk e h') => ∀ ρ' H' σ', Grow ρ H ρ' H' → Sim K ca ρ' h' H' → RE K ca ρ' H' e σ' → D.bk σ' H'
  | some (.ct e h') => ∀ ρ' H' σ', Grow ρ H ρ' H' → Sim K ca ρ' h' H' → RE K ca ρ' H' e σ' → D.ct σ' H'
  | some (.rt v h') => ∀ ρ' H' u, Grow ρ H ρ' H' → Sim K ca ρ' h' H' → RV K ca ρ' H' v u → D.rt u H'
  | some (.exc x e h') => ∀ ρ' H' σ' cls d, Grow ρ H ρ' H' → Sim K ca ρ' h' H' → RE K ca ρ' H' e σ' → RX K ca ρ' H' x cls d → W cls d σ' H'
  | none => False
/-- a statement's reading -/
def rdS (K : PySem.W.Frag) (ca : Str → Addr) (f : MEnv → MH → Option OutS) (W : WX) : TS := fun D σ H => ∃ ρ h e, Sim K ca ρ h H ∧ RE K ca ρ H e σ ∧ OutSK K ca ρ H (f e h) D W
section
variable {K : PySem.W.Frag} {ca : Str → Addr} {ρ ρ' : List Addr} {h h' : MH} {H H' : Hp} {e : MEnv} {σ : L2.St} {D D' : Ends} {W : WX}
theorem OutSK.mono {o : Option OutS} (k : OutSK K ca ρ H o D W) (g : Grow ρ H ρ' H') : OutSK K ca ρ' H' o D W := by
  cases o with
  | none => exact k
  | some o =>
    cases o with
    | nx e1 h1 => exact fun ρ2 H2 σ2 g2 S2 r => k ρ2 H2 σ2 (g.trans g2) S2 r
    | bk e1 h1 => exact fun ρ2 H2 σ2 g2 S2 r => k ρ2 H2 σ2 (g.trans g2) S2 r
    | ct e1 h1 => exact fun ρ2 H2 σ2 g2 S2 r => k ρ2 H2 σ2 (g.trans g2) S2 r
    | rt v h1 => exact fun ρ2 H2 u g2 S2 r => k ρ2 H2 u (g.trans g2) S2 r
    | exc x e1 h1 => exact fun ρ2 H2 σ2 c d g2 S2 r => k ρ2 H2 σ2 c d (g.trans g2) S2 r
theorem OutSK.thn {α β : Type} {R : RelR α β} {o : Option (Res α)} {f : α → MH → Option OutS} {Q1 : β → Hp → Prop} (S : Sim K ca ρ h H) (re : RE K ca ρ H e σ) (k : OutSK K ca ρ H (thnS e o f) D W)
    (F : ∀ a h1 ρ' H' u, o = some (.ok a h1) → Grow ρ H ρ' H' → Sim K ca ρ' h1 H' → R ρ' H' a u → OutSK K ca ρ' H' (f a h1) D W → Q1 u H') : OutK K ca R ρ H o Q1 (fun cls d H' => W cls d σ H') := by
  cases o with
  | none => exact k
  | some o =>
    cases o with
    | ok a h1 => exact fun ρ2 H2 u g2 S2 r => F a h1 ρ2 H2 u rfl g2 S2 r (OutSK.mono (o := f a h1) k g2)
    | exc x h1 => exact fun ρ2 H2 c d g2 S2 r => k ρ2 H2 σ c d g2 S2 (re.mono S g2) r
end
/-- what a def's statements must know -/
structure XS (X : Cx) (sc : Scope) : Prop where
  eq : X.env.scope = sc
  bk : X.env.blockKind = .function
  own : PassesOwn (model X.prog X.w) X.A X.env X.xe
  ex : X.ex = []
  st : X.stack = X.env :: X.outer
  fr : X.env.frame = some X.env.locals
section
variable {X : Cx} {C : Cxt} {ca fa : Str → Addr} {kk : Nat} {sc : Scope} {W : WX} {t a b c ex o : Expr} {es : List Expr} {pos p apos : Pos} {st : Stmt} {ss : List Stmt}
variable {fe fb fc : MEnv → MH → Option Out} {ft : MEnv → MH → Option OutB} {fs gs : MEnv → MH → Option OutS} {fi : MEnv → MH → Option OutI}
theorem g_pass : PS X (.Pass pos) (rdS X.K ca (fun e h => some (.nx e h)) W) := ⟨fun pins s σ H D I ⟨ρ, h, e, S, re, k⟩ => ps_pass.run pins s σ H D I (k ρ H σ Grow.refl S re)⟩
theorem g_break : PS X (.Break pos) (rdS X.K ca (fun e h => some (.bk e h)) W) := ⟨fun pins s σ H D I ⟨ρ, h, e, S, re, k⟩ => ps_break.run pins s σ H D I (k ρ H σ Grow.refl S re)⟩
theorem g_continue : PS X (.Continue pos) (rdS X.K ca (fun e h => some (.ct e h)) W) := ⟨fun pins s σ H D I ⟨ρ, h, e, S, re, k⟩ => ps_continue.run pins s σ H D I (k ρ H σ Grow.refl S re)⟩
theorem g_doc {x : Str} {j : Nat} : PS X (.Expr (.Constant (.str x) j p) pos) (rdS X.K ca (fun e h => some (.nx e h)) W) := ⟨fun pins s σ H D I ⟨ρ, h, e, S, re, k⟩ => ps_doc.run pins s σ H D I (k ρ H σ Grow.refl S re)⟩
theorem noswap {tg : Option Expr} {l : Nat} (h : ¬ isComp a = true) : swapsWith a tg l X.env = pure false := by cases a <;> first | rfl | exact absurd rfl h
theorem g_expr (hc : ¬ isComp a = true) (ha : PE X a (rdE X.K ca fe W)) : PS X (.Expr a pos) (rdS X.K ca (fun e h => thnS e (fe e h) fun _ h1 => some (.nx e h1)) W) := by
  refine ⟨fun pins s σ H D I ⟨ρ, h, e, S, re, k⟩ => ?_⟩
  exact (ps_expr ha (noswap hc)).run pins s σ H D I ⟨ρ, h, e, S, re, k.thn S re fun x h1 ρ1 H1 u _ g1 S1 r1 k1 => k1 ρ1 H1 σ Grow.refl S1 (re.mono S g1)⟩
theorem g_ret (ha : PE X a (rdE X.K ca fe W)) : PS X (.Return (some a) pos) (rdS X.K ca (fun e h => thnS e (fe e h) fun v h1 => some (.rt v h1)) W) := by
  refine ⟨fun pins s σ H D I ⟨ρ, h, e, S, re, k⟩ => ?_⟩
  exact (ps_ret ha).run pins s σ H D I ⟨ρ, h, e, S, re, k.thn S re fun x h1 ρ1 H1 u _ g1 S1 r1 k1 => k1 ρ1 H1 u Grow.refl S1 r1⟩
theorem g_retN : PS X (.Return none pos) (rdS X.K ca (fun e h => some (.rt .non h)) W) := ⟨fun pins s σ H D I ⟨ρ, h, e, S, re, k⟩ => ps_retN.run pins s σ H D I (k ρ H _ Grow.refl S .non)⟩
theorem g_nil : PSs X [] (rdS X.K ca (fun e h => some (.nx e h)) W) := ⟨fun pins s σ H D I ⟨ρ, h, e, S, re, k⟩ => pss_nil.run pins s σ H D I (k ρ H σ Grow.refl S re)⟩
/-- one statement after another -/
def seqS (o : Option OutS) (f : MEnv → MH → Option OutS) : Option OutS := match o with
  | some (.nx e1 h1) => f e1 h1
  | r => r
theorem g_cons (h1 : PS X st (rdS X.K ca fs W)) (h2 : PSs X ss (rdS X.K ca gs W)) : PSs X (st :: ss) (rdS X.K ca (fun e h => seqS (fs e h) gs) W) := by
  refine ⟨fun pins s σ H D I ⟨ρ, h, e, S, re, k⟩ => ?_⟩
  refine (pss_cons h1 h2).run pins s σ H D I ⟨ρ, h, e, S, re, ?_⟩
  dsimp only at k
  cases hf : fs e h with
  | none => rw [hf] at k; exact k
  | some oo =>
    rw [hf] at k
    cases oo with
    | nx e1 h1 => exact fun ρ1 H1 σ1 g1 S1 r1 => ⟨ρ1, h1, e1, S1, r1, OutSK.mono (o := gs e1 h1) k g1⟩
    | _ => exact k
theorem g_if (hc : PT X c (rdT X.K ca ft W)) (ha : PSs X ss (rdS X.K ca fs W)) {ss2 : List Stmt} (hb : PSs X ss2 (rdS X.K ca gs W)) :
    PS X (.If c ss ss2 pos) (rdS X.K ca (fun e h => thnS e (ft e h) fun t h1 => if t = true then fs e h1 else gs e h1) W) := by
  refine ⟨fun pins s σ H D I ⟨ρ, h, e, S, re, k⟩ => ?_⟩
  refine (ps_if hc ha hb).run pins s σ H D I ⟨ρ, h, e, S, re, k.thn S re fun x h1 ρ1 H1 u _ g1 S1 r1 k1 => ?_⟩
  cases r1
  cases x with
  | true => exact ⟨ρ1, h1, e, S1, re.mono S g1, k1⟩
  | false => exact ⟨ρ1, h1, e, S1, re.mono S g1, k1⟩
/-! ### stores -/
theorem putF_ok {K : PySem.W.Frag} {ρ : List Addr} {H : Hp} {f : Str} {x : MV} {v : V} (rx : RV K ca ρ H x v) : ∀ {fs : List (Str × MV)} {gs : List (Str × V)}, RFs K ca ρ H fs gs → RFs K ca ρ H (setF f x fs) (putF f v gs)
  | _, _, .nil => .cons ⟨rfl, rx⟩ .nil
  | (y, m) :: ps, (y', w) :: qs, .cons ⟨e, r⟩ rs => by
    have e : y = y' := e
    subst e
    unfold setF putF
    by_cases hy : y = f
    · rw [if_pos hy, if_pos hy]
      exact .cons ⟨rfl, rx⟩ rs
    · rw [if_neg hy, if_neg hy]
      exact .cons ⟨rfl, r⟩ (putF_ok rx rs)
theorem g_fld (D0 : XC X C ca fa kk) {f : Str} (hv : PE X a (rdE X.K ca fe W)) (ho : PE X o (rdE X.K ca fb W)) :
    PS X (.Assign [.Attribute o f p] a pos) (rdS X.K ca (fun e h => thnS e (fe e h) fun v h1 => thnS e (fb e h1) fun x h2 => nxH e (setAttrM C x f v h2)) W) := by
  have hsw : swapsWith a (some (.Attribute o f p)) pos.line X.env = pure false := by cases a <;> rfl
  refine ⟨fun pins s σ H D I ⟨ρ, h, e, S, re, k⟩ => ?_⟩
  refine (ps_fld ho hv hsw).run pins s σ H D I ⟨ρ, h, e, S, re, k.thn S re fun v h1 ρ1 H1 u _ g1 S1 r1 k1 => ?_⟩
  refine ⟨ρ1, h1, e, S1, re.mono S g1, k1.thn S1 (re.mono S g1) fun x h2 ρ2 H2 w _ g2 S2 r2 k2 => ?_⟩
  unfold setAttrM at k2
  cases hi : ins? h2 x with
  | none => rw [hi] at k2; exact k2.elim
  | some q =>
    obtain ⟨n, c, fs⟩ := q
    rw [hi] at k2
    obtain ⟨rfl, hn⟩ := ins?_some hi
    dsimp only at k2
    split at k2
    · rename_i d hd
      split at k2
      · rename_i hc
        cases r2 with
        | @ref _ ad q0 =>
          obtain ⟨dx, gs, e1, e2⟩ := S2.ins hn q0
          have F := D0.sf.cls c d hd hc.1
          refine ⟨ad, ca c, dx, gs, rfl, e1, F.cl, F.fl f (by simpa using hc.2.1), by rw [← Paired.length e2]; exact hc.2.2, ?_⟩
          obtain ⟨S3, g3⟩ := S2.write q0 (.ins (putF_ok (r1.mono S1 g2) e2))
          exact k2 ρ2 _ σ g3 S3 (((re.mono S g1).mono S1 g2).mono S2 g3)
      · exact k2.elim
    · exact k2.elim
theorem sub_plain {i : Expr} (h : ∀ lo hi st p, i ≠ .Slice lo hi st p) (v : Value) : assign (.Subscript o i p) X.env v = (do
      let ov ← holding [v] (eval o X.env)
      let iv ← holding [v, ov] (eval i X.env)
      standAt p
      holding [v, ov, iv] (setItem ov iv v)
      release [v, ov, iv] []) := by
  cases i <;> first | rfl | exact absurd rfl (h _ _ _ _)
theorem g_item (G : XG X C ca sc W) {i : Expr} (hi0 : ∀ lo hi st p, i ≠ .Slice lo hi st p) (hv : PE X a (rdE X.K ca fe W)) (ho : PE X o (rdE X.K ca fb W)) (hi : PE X i (rdE X.K ca fc W)) :
    PS X (.Assign [.Subscript o i p] a pos) (rdS X.K ca (fun e h => thnS e (fe e h) fun v h1 => thnS e (fb e h1) fun x h2 => thnS e (fc e h2) fun y h3 => nxH e (mSetI x y v h3)) W) := by
  have hsw : swapsWithSole [.Subscript o i p] a pos.line X.env = pure false := by cases a <;> rfl
  have hw : swappedStores [.Subscript o i p] a X.env = pure none := by cases a <;> rfl
  refine ⟨fun pins s σ H D I ⟨ρ, h, e, S, re, k⟩ => ?_⟩
  refine (ps_asg hv (pg_sub ho hi (set_ok (by have := G.un; omega)) (sub_plain hi0)) hsw hw rfl).run pins s σ H D I ⟨ρ, h, e, S, re, k.thn S re fun v h1 ρ1 H1 u _ g1 S1 r1 k1 => ?_⟩
  refine ⟨ρ1, h1, e, S1, re.mono S g1, k1.thn S1 (re.mono S g1) fun x h2 ρ2 H2 w _ g2 S2 r2 k2 => ?_⟩
  have re2 := (re.mono S g1).mono S1 g2
  refine ⟨ρ2, h2, e, S2, re2, k2.thn S2 re2 fun y h3 ρ3 H3 z _ g3 S3 r3 k3 => ?_⟩
  cases hs : mSetI x y v h3 with
  | none => rw [hs] at k3; exact k3.elim
  | some h4 =>
    rw [hs] at k3
    exact setItem_ok S3 (r2.mono S2 g3) r3 ((r1.mono S1 g2).mono S2 g3) hs fun ρ4 H4 g4 S4 => k3 ρ4 H4 σ g4 S4 ((re2.mono S2 g3).mono S3 g4)
theorem g_name (G : XG X C ca sc W) {x : Str} {i : Nat} (hi : tgt sc X.N (.Name x p) = some i) (hc : ¬ isComp a = true) (hv : PE X a (rdE X.K ca fe W)) :
    PS X (.Assign [.Name x p] a pos) (rdS X.K ca (fun e h => thnS e (fe e h) fun v h1 => some (.nx (setE e i v) h1)) W) := by
  obtain ⟨y, p', e0, h1, h2⟩ := tgt_at hi
  cases e0
  obtain ⟨l1, l2⟩ := G.loc h2
  refine ⟨fun pins s σ H D I ⟨ρ, h, e, S, re, k⟩ => ?_⟩
  exact (ps_set G.nd h1 l1 hv (noswap hc) l2).run pins s σ H D I ⟨ρ, h, e, S, re, k.thn S re fun v h1 ρ1 H1 u _ g1 S1 r1 k1 => k1 ρ1 H1 _ Grow.refl S1 ((re.mono S g1).set i r1)⟩
theorem g_nameLc (G : XG X C ca sc W) {x : Str} {i : Nat} (hti : tgt sc X.N (.Name x p) = some i) {bsc : Scope} {elt it : Expr} {ifs : List Expr} {lpos : Pos} (hb : blkB X.N sc bsc = true) (hs : ¬ isSetE it = true) (hi : PI X t it (rdI X.K ca fi W))
    (ht : ∀ (s : Shared) (H : Hp) (Cc : Addr) (cl : List (Str × Addr)) (fp : List Addr), PTs (X.blk s H bsc (compEnvC bsc cl Cc X.env) fp) ifs (rdT X.K ca ft WF))
    (he : ∀ (s : Shared) (H : Hp) (Cc : Addr) (cl : List (Str × Addr)) (fp : List Addr), PE (X.blk s H bsc (compEnvC bsc cl Cc X.env) fp) elt (rdE X.K ca fe WF)) :
    PS X (.Assign [.Name x p] (.ListComp elt [⟨t, it, ifs, 0⟩] bsc lpos) pos) (rdS X.K ca (fun e h => thnS e (bnd (fi e h) fun w h1 => bnd (compL (fun x hh => bind1 bsc X.N t x (wipeE e (Ev.ownOf X.N bsc)) hh) ft fe LF w h1) newL) fun v h1 => some (.nx (setE e i v) h1)) W) := by
  have hsw : swapsWith (.ListComp elt [⟨t, it, ifs, 0⟩] bsc lpos) (some (.Name x p)) pos.line X.env = pure (X.env.blockKind == .function && X.env.kindOf x == some .local && p.line == lpos.line && !(bsc.names.any fun (n, k) => n == x && (k == .local || k == .cell))) := rfl
  have pv := s_lc (t := t) (pos := lpos) G hb hs hi ht he
  obtain ⟨y, p', e0, h1, h2⟩ := tgt_at hti
  cases e0
  obtain ⟨l1, l2⟩ := G.loc h2
  refine ⟨fun pins s σ H D I ⟨ρ, h, e, S, re, k⟩ => ?_⟩
  have kk : OutK X.K ca (RV X.K ca) ρ H (bnd (fi e h) fun w h1 => bnd (compL (fun x hh => bind1 bsc X.N t x (wipeE e (Ev.ownOf X.N bsc)) hh) ft fe LF w h1) newL) (fun u H1 => D.nx (σ.set i (some u)) H1) (fun cls d H' => W cls d σ H') :=
    k.thn S re fun v h1 ρ1 H1 u _ g1 S1 r1 k1 => k1 ρ1 H1 _ Grow.refl S1 ((re.mono S g1).set i r1)
  generalize hq : (X.env.blockKind == .function && X.env.kindOf x == some .local && p.line == lpos.line && !(bsc.names.any fun (n, k) => n == x && (k == .local || k == .cell))) = q at hsw
  cases q with
  | true =>
    have hl : X.env.scope.names.lookup x = some .local := by
      rw [Bool.and_eq_true, Bool.and_eq_true, Bool.and_eq_true] at hq
      exact beq_iff_eq.mp hq.1.1.2
    exact (ps_setLc G.calm G.nd h1 hl hsw hi (blk_ok G.sc hb) (fun s H Cc cl fp => (G.blk s H Cc cl fp).bind) ht he (no_fold hs)).run pins s σ H D I (s_lcR (ifs := ifs) (it := it) (elt := elt) G S re kk)
  | false => exact (ps_set G.nd h1 l1 pv hsw l2).run pins s σ H D I ⟨ρ, h, e, S, re, kk⟩
/-! ### loops -/
theorem g_for (G : XG X C ca sc W) (Z : XS X sc) {it : Expr} (hs : ¬ isSetE it = true) (hi : PI X t it (rdI X.K ca fi W)) (hb : PSs X ss (rdS X.K ca fs W)) :
    PS X (.For t it ss [] pos) (rdS X.K ca (fun e h => thnS e (fi e h) fun w h1 => forL (fun x e hh => bind1 sc X.N t x e hh) fs LF w e h1) W) := by
  refine ⟨fun pins s σ H D I ⟨ρ, h, e, S, re, k⟩ => ?_⟩
  refine (ps_for Z.own G.calm hi G.bind hb (no_fold hs)).run pins s σ H D I ⟨ρ, h, e, S, re, k.thn S re fun w h1 ρ1 H1 J _ g1 S1 r1 k1 => ?_⟩
  refine ⟨fun i m σ H => ∃ ρ h e w, Sim X.K ca ρ h H ∧ RE X.K ca ρ H e σ ∧ RIt X.K ca ρ H w J i ∧ OutSK X.K ca ρ H (forL (fun x e hh => bind1 sc X.N t x e hh) fs m w e h) D W, ⟨LF, ρ1, h1, e, w, S1, re.mono S g1, r1, k1⟩, ?_⟩
  rintro i m σ2 H2 ⟨ρ2, h2, e2, w2, S2, re2, r2, k2⟩
  cases m with
  | zero => exact k2.elim
  | succ m =>
    unfold forL at k2
    cases hn : w2.next h2 with
    | none => rw [hn] at k2; exact k2.elim
    | some o2 =>
      rw [hn] at k2
      cases o2 with
      | none => exact .inl ⟨r2.stop S2 hn, k2 ρ2 H2 σ2 Grow.refl S2 re2⟩
      | some q =>
        obtain ⟨x, w'⟩ := q
        obtain ⟨go, st⟩ := r2.step S2 hn
        dsimp only at k2
        cases hbd : bind1 sc X.N t x e2 h2 with
        | none => rw [hbd] at k2; exact k2.elim
        | some e1 =>
          rw [hbd] at k2
          refine .inr ⟨go, fun σ' H' => ∃ m', m' < m + 1 ∧ ∃ ρ h e w, Sim X.K ca ρ h H' ∧ RE X.K ca ρ H' e σ' ∧ RIt X.K ca ρ H' w J (i + 1) ∧ OutSK X.K ca ρ H' (forL (fun x e hh => bind1 sc X.N t x e hh) fs m' w e h) D W, fun σ' H' z => z, fun u H' hy => ?_⟩
          obtain ⟨g3, S3, rx, r3⟩ := st u H' hy
          refine ⟨ρ2, h2, e2, x, e1, S3, re2.mono S2 g3, rx, hbd, fun σ1 re1 _ => ?_⟩
          refine ⟨ρ2, h2, e1, S3, re1, ?_⟩
          dsimp only at k2
          cases hf : fs e1 h2 with
          | none => rw [hf] at k2; exact k2
          | some oo =>
            rw [hf] at k2
            cases oo with
            | nx e4 h4 => exact fun ρ4 H4 σ4 g4 S4 re4 => ⟨m, Nat.lt_succ_self m, ρ4, h4, e4, w', S4, re4, RIt.mono S3 g4 r3, OutSK.mono (o := forL _ fs m w' e4 h4) k2 (g3.trans g4)⟩
            | ct e4 h4 => exact fun ρ4 H4 σ4 g4 S4 re4 => ⟨m, Nat.lt_succ_self m, ρ4, h4, e4, w', S4, re4, RIt.mono S3 g4 r3, OutSK.mono (o := forL _ fs m w' e4 h4) k2 (g3.trans g4)⟩
            | bk e4 h4 => exact fun ρ4 H4 σ4 g4 S4 re4 => k2 ρ4 H4 σ4 (g3.trans g4) S4 re4
            | rt v h4 => exact fun ρ4 H4 u4 g4 S4 r4 => k2 ρ4 H4 u4 (g3.trans g4) S4 r4
            | exc y e4 h4 => exact fun ρ4 H4 σ4 c d g4 S4 re4 rx4 => k2 ρ4 H4 σ4 c d (g3.trans g4) S4 re4 rx4
theorem g_while (G : XG X C ca sc W) (Z : XS X sc) (hc : PT X c (rdT X.K ca ft W)) (hb : PSs X ss (rdS X.K ca fs W)) : PS X (.While c ss [] pos) (rdS X.K ca (fun e h => whileL ft fs LF e h) W) := by
  refine ⟨fun pins s σ H D I ⟨ρ, h, e, S, re, k⟩ => ?_⟩
  refine (ps_while Z.own hc hb).run pins s σ H D I ?_
  refine ⟨fun m σ H => ∃ ρ h e, Sim X.K ca ρ h H ∧ RE X.K ca ρ H e σ ∧ OutSK X.K ca ρ H (whileL ft fs m e h) D W, ⟨LF, ρ, h, e, S, re, k⟩, ?_⟩
  rintro m σ2 H2 ⟨ρ2, h2, e2, S2, re2, k2⟩
  cases m with
  | zero => exact k2.elim
  | succ m =>
    unfold whileL at k2
    refine ⟨ρ2, h2, e2, S2, re2, k2.thn S2 re2 fun b h3 ρ3 H3 b' _ g3 S3 r3 k3 => ?_⟩
    cases r3
    have re3 := re2.mono S2 g3
    cases b with
    | false => exact k3 ρ3 H3 σ2 Grow.refl S3 re3
    | true =>
      rw [if_pos rfl] at k3 ⊢
      refine ⟨fun σ' H' => ∃ m', m' < m + 1 ∧ ∃ ρ h e, Sim X.K ca ρ h H' ∧ RE X.K ca ρ H' e σ' ∧ OutSK X.K ca ρ H' (whileL ft fs m' e h) D W, fun σ' H' z => z, ρ3, h3, e2, S3, re3, ?_⟩
      cases hf : fs e2 h3 with
      | none => rw [hf] at k3; exact k3
      | some oo =>
        rw [hf] at k3
        cases oo with
        | nx e4 h4 => exact fun ρ4 H4 σ4 g4 S4 re4 => ⟨m, Nat.lt_succ_self m, ρ4, h4, e4, S4, re4, OutSK.mono (o := whileL ft fs m e4 h4) k3 g4⟩
        | ct e4 h4 => exact fun ρ4 H4 σ4 g4 S4 re4 => ⟨m, Nat.lt_succ_self m, ρ4, h4, e4, S4, re4, OutSK.mono (o := whileL ft fs m e4 h4) k3 g4⟩
        | bk e4 h4 => exact k3
        | rt v h4 => exact k3
        | exc y e4 h4 => exact k3
end
end Sd
end T_Sd17
section T_Sd18
set_option linter.all false
set_option maxRecDepth 100000
set_option maxHeartbeats 1000000
/-! Sd18: assignments to tuples of targets. -/
namespace Sd
open PySem PySem.Spec PyProof.Rows L2 Ev
/-- what the ends of targets bear -/
def OutTK (K : PySem.W.Frag) (ca : Str → Addr) (ρ : List Addr) (H : Hp) (o : Option OutS) (Q : L2.St → Hp → Prop) (W : WX) : Prop := match o with
  | some (.nx e h') => ∀ ρ' H' σ', Grow ρ H ρ' H' → Sim K ca ρ' h' H' → RE K ca ρ' H' e σ' → Q σ' H'
  | some (.exc x e h') => ∀ ρ' H' σ' cls d, Grow ρ H ρ' H' → Sim K ca ρ' h' H' → RE K ca ρ' H' e σ' → RX K ca ρ' H' x cls d → W cls d σ' H'
  | _ => False
/-- ends that are none of a loop's, none of a return -/
def plainS : Option OutS → Prop
  | some (.bk _ _) => False
  | some (.ct _ _) => False
  | some (.rt _ _) => False
  | _ => True
section
variable {K : PySem.W.Frag} {ca : Str → Addr} {ρ ρ' : List Addr} {h h' : MH} {H H' : Hp} {e : MEnv} {σ : L2.St} {D D' : Ends} {W : WX} {Q : L2.St → Hp → Prop}
theorem OutSK.tk {o : Option OutS} (p : plainS o) (k : OutSK K ca ρ H o D W) : OutTK K ca ρ H o D.nx W := by
  cases o with
  | none => exact k
  | some o => cases o <;> first | exact k | exact p.elim
theorem OutTK.mono {o : Option OutS} (k : OutTK K ca ρ H o Q W) (g : Grow ρ H ρ' H') : OutTK K ca ρ' H' o Q W := by
  cases o with
  | none => exact k
  | some o =>
    cases o with
    | nx e1 h1 => exact fun ρ2 H2 σ2 g2 S2 r => k ρ2 H2 σ2 (g.trans g2) S2 r
    | exc x e1 h1 => exact fun ρ2 H2 σ2 c d g2 S2 r => k ρ2 H2 σ2 c d (g.trans g2) S2 r
    | _ => exact k
theorem OutTK.thn {α β : Type} {R : RelR α β} {o : Option (Res α)} {f : α → MH → Option OutS} {Q1 : β → Hp → Prop} (S : Sim K ca ρ h H) (re : RE K ca ρ H e σ) (k : OutTK K ca ρ H (thnS e o f) Q W)
    (F : ∀ a h1 ρ' H' u, o = some (.ok a h1) → Grow ρ H ρ' H' → Sim K ca ρ' h1 H' → R ρ' H' a u → OutTK K ca ρ' H' (f a h1) Q W → Q1 u H') : OutK K ca R ρ H o Q1 (fun cls d H' => W cls d σ H') := by
  cases o with
  | none => exact k
  | some o =>
    cases o with
    | ok a h1 => exact fun ρ2 H2 u g2 S2 r => F a h1 ρ2 H2 u rfl g2 S2 r (OutTK.mono (o := f a h1) k g2)
    | exc x h1 => exact fun ρ2 H2 c d g2 S2 r => k ρ2 H2 σ c d g2 S2 (re.mono S g2) r
end
theorem plainS.thn {α : Type} {e : MEnv} {o : Option (Res α)} {f : α → MH → Option OutS} (h : ∀ a h1, plainS (f a h1)) : plainS (thnS e o f) := by
  cases o with
  | none => trivial
  | some o => cases o with
    | exc _ _ => trivial
    | ok x h1 => exact h x h1
theorem plain_eTg (C : Cxt) (N : List Str) : ∀ (n : Nat) (ts : List Expr) (vs : List MV) (sc : Scope) (e : MEnv) (h : MH), plainS (eTg C N n ts vs sc e h)
  | 0, _, _, _, _, _ => by unfold eTg; trivial
  | n + 1, ts, vs, sc, e, h => by
    unfold eTg
    split
    · trivial
    · split
      · split
        · trivial
        · refine .thn fun x h1 => .thn fun y h2 => ?_
          split
          · exact plain_eTg C N n _ _ _ _ _
          · trivial
      · split
        · exact plain_eTg C N n _ _ _ _ _
        · trivial
      · trivial
    · trivial
/-- targets' reading -/
def gT (K : PySem.W.Frag) (ca : Str → Addr) (f : List MV → MEnv → MH → Option OutS) (W : WX) : TGs := fun us σ H Q =>
  ∃ ρ h e xs, Sim K ca ρ h H ∧ RE K ca ρ H e σ ∧ RVs K ca ρ H xs us ∧ OutTK K ca ρ H (f xs e h) Q W
section
variable {X : Cx} {C : Cxt} {ca fa : Str → Addr} {kk : Nat} {sc : Scope} {W : WX} {t a b c ex o i : Expr} {es r ts : List Expr} {pos p apos : Pos} {st : Stmt} {ss : List Stmt}
variable {fe fb fc : MEnv → MH → Option Out} {fr : List MV → MEnv → MH → Option OutS} {fl : MEnv → MH → Option OutL}
theorem tg_nil : PGs X [] (gT X.K ca (fun xs e h => match xs with
    | [] => some (.nx e h)
    | _ => none) W) := by
  refine ⟨fun pins s σ H us uu Q I rr ⟨ρ, h, e, xs, S, re, rx, k⟩ => ?_⟩
  refine pgs_nil.run pins s σ H us uu Q I rr ?_
  cases rx with
  | nil => exact ⟨rfl, k ρ H σ Grow.refl S re⟩
  | cons _ _ => exact k.elim
theorem tg_name (G : XG X C ca sc W) {x : Str} {j : Nat} (hi : tgt sc X.N (.Name x p) = some j) (hr : PGs X r (gT X.K ca fr W)) :
    PGs X (.Name x p :: r) (gT X.K ca (fun xs e h => match xs with
      | v :: vs => fr vs (setE e j v) h
      | [] => none) W) := by
  refine ⟨fun pins s σ H us uu Q I rr ⟨ρ, h, e, xs, S, re, rx, k⟩ => ?_⟩
  refine (pgs_cons (G.name hi) hr (each_no rfl)).run pins s σ H us uu Q I rr ?_
  cases rx with
  | nil => exact k.elim
  | cons rx rxs => exact ⟨_, _, rfl, ρ, h, _, _, S, re.set j rx, rxs, k⟩
theorem tg_sub (G : XG X C ca sc W) (hi0 : ∀ lo hi st p, i ≠ .Slice lo hi st p) (ho : PE X o (rdE X.K ca fb W)) (hi : PE X i (rdE X.K ca fc W)) (hr : PGs X r (gT X.K ca fr W)) :
    PGs X (.Subscript o i p :: r) (gT X.K ca (fun xs e h => match xs with
      | v :: vs => thnS e (fb e h) fun x h1 => thnS e (fc e h1) fun y h2 => (match mSetI x y v h2 with
        | some h3 => fr vs e h3
        | none => none)
      | [] => none) W) := by
  refine ⟨fun pins s σ H us uu Q I rr ⟨ρ, h, e, xs, S, re, rx, k⟩ => ?_⟩
  refine (pgs_cons (pg_sub ho hi (set_ok (by have := G.un; omega)) (sub_plain hi0)) hr (each_no rfl)).run pins s σ H us uu Q I rr ?_
  cases rx with
  | nil => exact k.elim
  | cons rx rxs =>
    refine ⟨_, _, rfl, ρ, h, e, S, re, OutTK.thn S re k fun x h2 ρ2 H2 w _ g2 S2 r2 k2 => ?_⟩
    have re2 := re.mono S g2
    refine ⟨ρ2, h2, e, S2, re2, k2.thn S2 re2 fun y h3 ρ3 H3 z _ g3 S3 r3 k3 => ?_⟩
    split at k3
    · rename_i h4 hs
      exact setItem_ok S3 (r2.mono S2 g3) r3 ((rx.mono S g2).mono S2 g3) hs fun ρ4 H4 g4 S4 => ⟨ρ4, h4, e, _, S4, (re2.mono S2 g3).mono S3 g4, ((rxs.mono S g2).mono S2 g3).mono S3 g4, OutTK.mono (o := fr _ e h4) k3 g4⟩
    · exact k3.elim
theorem tgOk_star (X : Cx) {N : List Str} : ∀ {ts : List Expr}, ts.all (tgOk sc N) = true → (assignEach ts X.env).length = ts.length ∧ (assignEach ts X.env).findIdx? (·.1) = none
  | [], _ => ⟨rfl, rfl⟩
  | t :: ts, h => by
    rw [List.all_cons, Bool.and_eq_true] at h
    obtain ⟨l1, l2⟩ := tgOk_star X h.2
    have e : assignEach (t :: ts) X.env = (false, assign t X.env) :: assignEach ts X.env := by
      cases t <;> first | rfl | cases h.1
    rw [e]
    refine ⟨by rw [List.length_cons, List.length_cons, l1], ?_⟩
    rw [List.findIdx?_cons, l2]
    rfl
theorem pg_two {g1 g2 : TG} (h1 : PG X t g1) (h2 : PG X t g2) : PG X t (fun v σ H Q => g1 v σ H Q ∨ g2 v σ H Q) := ⟨fun pins s σ H v u Q I r hw => by
  rcases hw with hw | hw
  · exact h1.run pins s σ H v u Q I r hw
  · exact h2.run pins s σ H v u Q I r hw⟩
/-- stores one after another -/
theorem g_tup0 (G : XG X C ca sc W) {k : Nat} (hts : ts.all (tgOk sc X.N) = true) (hw : swappedStores [.Tuple ts k p] a X.env = pure none) (ha : PE X a (rdE X.K ca fe W)) (ht : PGs X ts (gT X.K ca fr W)) (hp : ∀ vs e h, plainS (fr vs e h)) :
    PS X (.Assign [.Tuple ts k p] a pos) (rdS X.K ca (fun e h => thnS e (fe e h) fun v h1 => match seq? h1 v with
      | some vs => if vs.length = ts.length then fr vs e h1 else none
      | none => none) W) := by
  have hsw : swapsWithSole [.Tuple ts k p] a pos.line X.env = pure false := by cases a <;> rfl
  obtain ⟨l1, l2⟩ := tgOk_star X hts
  refine ⟨fun pins s σ H D I ⟨ρ, h, e, S, re, kk⟩ => ?_⟩
  refine (ps_asg ha (pg_two (pg_tup G.calm ht (n := ts.length) l1 l2) (pg_lst G.calm ht (n := ts.length) l1 l2)) hsw hw rfl).run pins s σ H D I ⟨ρ, h, e, S, re, kk.thn S re fun v h1 ρ1 H1 u hv g1 S1 r1 k1 => ?_⟩
  split at k1
  · rename_i vs hvs
    split at k1
    · rename_i hl
      obtain ⟨ad, us, rfl, h3, rs⟩ := seq?_ok S1 r1 hvs
      rcases h3 with h3 | h3
      · exact .inr ⟨_, _, rfl, h3, by rw [← rs.length]; exact hl, ρ1, h1, e, vs, S1, re.mono S g1, rs, OutSK.tk (o := fr vs e h1) (hp _ _ _) k1⟩
      · exact .inl ⟨_, _, rfl, h3, by rw [← rs.length]; exact hl, ρ1, h1, e, vs, S1, re.mono S g1, rs, OutSK.tk (o := fr vs e h1) (hp _ _ _) k1⟩
    · exact k1.elim
  · exact k1.elim
/-! names, stored from the right -/
theorem tgt_name {N : List Str} {x : Str} {j : Nat} (h : tgt sc N (.Name x p) = some j) : N[j]? = some x := by
  obtain ⟨y, q, e, h1, _⟩ := tgt_at h
  cases e
  exact h1
theorem g_par2 (G : XG X C ca sc W) {x y : Str} {i j k k2 : Nat} {px py pt pt2 : Pos} (hi : tgt sc X.N (.Name x px) = some i) (hj : tgt sc X.N (.Name y py) = some j) (hxy : x ≠ y) (hx : X.env.scope.names.lookup x = some .local) (hy : X.env.scope.names.lookup y = some .local)
    (hw : swappedStores [.Tuple [.Name x px, .Name y py] k pt] (.Tuple [a, b] k2 pt2) X.env = pure (some [x, y])) (hl : PA X [a, b] (rdA X.K ca fl W))
    (hf : ∀ vs e h, vs.length = 2 → fr vs e h = none ∨ ∃ v w, vs = [v, w] ∧ fr vs e h = some (.nx (setE (setE e i v) j w) h)) :
    PS X (.Assign [.Tuple [.Name x px, .Name y py] k pt] (.Tuple [a, b] k2 pt2) pos) (rdS X.K ca (fun e h => thnS e (bnd (fl e h) fun vs h1 => if vs.length ≤ sizeLine then some (Res.ok (MV.tup vs) h1) else none) fun v h1 => match seq? h1 v with
      | some vs => if vs.length = 2 then fr vs e h1 else none
      | none => none) W) := by
  have n1 := tgt_name hi
  have n2 := tgt_name hj
  have hij : i ≠ j := fun z => hxy (by rw [z, n2] at n1; cases n1; rfl)
  refine ⟨fun pins s σ H D I ⟨ρ, h, e, S, re, kk⟩ => ?_⟩
  refine (ps_par G.calm G.nd n1 n2 hij hx hy hl hw rfl).run pins s σ H D I ⟨ρ, h, e, S, re, ?_⟩
  dsimp only at kk
  cases hq : fl e h with
  | none => rw [hq] at kk; exact kk
  | some q =>
    rw [hq] at kk
    cases q with
    | exc z h1 => exact fun ρ2 H2 c d g2 S2 r => kk ρ2 H2 σ c d g2 S2 (re.mono S g2) r
    | ok vs h1 =>
      intro ρ1 H1 us g1 S1 rs
      dsimp only [bnd] at kk
      by_cases hz : vs.length ≤ sizeLine
      · rw [if_pos hz] at kk
        dsimp only [thnS, seq?] at kk
        by_cases h2 : vs.length = 2
        · rw [if_pos h2] at kk
          rcases hf vs e h1 h2 with e0 | ⟨v, w, rfl, e1⟩
          · rw [e0] at kk; exact kk.elim
          · rw [e1] at kk
            cases rs with
            | cons r1 rs =>
              cases rs with
              | cons r2 rs =>
                cases rs
                exact ⟨_, _, rfl, kk ρ1 H1 _ g1 S1 (((re.mono S g1).set i r1).set j r2)⟩
        · rw [if_neg h2] at kk; exact kk.elim
      · rw [if_neg hz] at kk; exact kk.elim
theorem g_par3 (G : XG X C ca sc W) {x y z : Str} {i j l k k2 : Nat} {px py pz pt pt2 : Pos} (hi : tgt sc X.N (.Name x px) = some i) (hj : tgt sc X.N (.Name y py) = some j) (hl0 : tgt sc X.N (.Name z pz) = some l) (hxy : x ≠ y) (hxz : x ≠ z) (hyz : y ≠ z)
    (hx : X.env.scope.names.lookup x = some .local) (hy : X.env.scope.names.lookup y = some .local) (hz : X.env.scope.names.lookup z = some .local)
    (hw : swappedStores [.Tuple [.Name x px, .Name y py, .Name z pz] k pt] (.Tuple [a, b, c] k2 pt2) X.env = pure (some [x, y, z])) (hl : PA X [a, b, c] (rdA X.K ca fl W))
    (hf : ∀ vs e h, vs.length = 3 → fr vs e h = none ∨ ∃ v w u, vs = [v, w, u] ∧ fr vs e h = some (.nx (setE (setE (setE e i v) j w) l u) h)) :
    PS X (.Assign [.Tuple [.Name x px, .Name y py, .Name z pz] k pt] (.Tuple [a, b, c] k2 pt2) pos) (rdS X.K ca (fun e h => thnS e (bnd (fl e h) fun vs h1 => if vs.length ≤ sizeLine then some (Res.ok (MV.tup vs) h1) else none) fun v h1 => match seq? h1 v with
      | some vs => if vs.length = 3 then fr vs e h1 else none
      | none => none) W) := by
  have n1 := tgt_name hi
  have n2 := tgt_name hj
  have n3 := tgt_name hl0
  have hij : i ≠ j := fun q => hxy (by rw [q, n2] at n1; cases n1; rfl)
  have hil : i ≠ l := fun q => hxz (by rw [q, n3] at n1; cases n1; rfl)
  have hjl : j ≠ l := fun q => hyz (by rw [q, n3] at n2; cases n2; rfl)
  refine ⟨fun pins s σ H D I ⟨ρ, h, e, S, re, kk⟩ => ?_⟩
  refine (ps_par3 G.calm G.nd n1 n2 n3 hij hil hjl hx hy hz hl hw rfl).run pins s σ H D I ⟨ρ, h, e, S, re, ?_⟩
  dsimp only at kk
  cases hq : fl e h with
  | none => rw [hq] at kk; exact kk
  | some q =>
    rw [hq] at kk
    cases q with
    | exc z h1 => exact fun ρ2 H2 c d g2 S2 r => kk ρ2 H2 σ c d g2 S2 (re.mono S g2) r
    | ok vs h1 =>
      intro ρ1 H1 us g1 S1 rs
      dsimp only [bnd] at kk
      by_cases hz : vs.length ≤ sizeLine
      · rw [if_pos hz] at kk
        dsimp only [thnS, seq?] at kk
        by_cases h2 : vs.length = 3
        · rw [if_pos h2] at kk
          rcases hf vs e h1 h2 with e0 | ⟨v, w, u, rfl, e1⟩
          · rw [e0] at kk; exact kk.elim
          · rw [e1] at kk
            cases rs with
            | cons r1 rs =>
              cases rs with
              | cons r2 rs =>
                cases rs with
                | cons r3 rs =>
                  cases rs
                  exact ⟨_, _, _, rfl, kk ρ1 H1 _ g1 S1 ((((re.mono S g1).set i r1).set j r2).set l r3)⟩
        · rw [if_neg h2] at kk; exact kk.elim
      · rw [if_neg hz] at kk; exact kk.elim
theorem fm2 {α β : Type} {f : α → Option β} {t1 t2 : α} {nn : List β} (h : [t1, t2].filterMap f = nn) (hl : nn.length = [t1, t2].length) : ∃ x y, nn = [x, y] ∧ f t1 = some x ∧ f t2 = some y := by
  subst h
  cases h1 : f t1 <;> cases h2 : f t2 <;> simp_all [List.filterMap_cons]
theorem fm3 {α β : Type} {f : α → Option β} {t1 t2 t3 : α} {nn : List β} (h : [t1, t2, t3].filterMap f = nn) (hl : nn.length = [t1, t2, t3].length) : ∃ x y z, nn = [x, y, z] ∧ f t1 = some x ∧ f t2 = some y ∧ f t3 = some z := by
  subst h
  cases h1 : f t1 <;> cases h2 : f t2 <;> cases h3 : f t3 <;> simp_all [List.filterMap_cons]
theorem dup2 {x y : Str} (h : [x, y].eraseDups.length = [x, y].length) : x ≠ y := by
  intro e
  subst e
  simp [List.eraseDups_cons] at h
theorem dup3 {x y z : Str} (h : [x, y, z].eraseDups.length = [x, y, z].length) : x ≠ y ∧ x ≠ z ∧ y ≠ z := by
  refine ⟨fun e => ?_, fun e => ?_, fun e => ?_⟩
  · subst e
    by_cases q : z = x
    · subst q; simp [List.eraseDups_cons] at h
    · simp [List.eraseDups_cons, q] at h
  · subst e
    by_cases q : y = x
    · subst q; simp [List.eraseDups_cons] at h
    · simp [List.eraseDups_cons, q] at h
  · subst e
    by_cases q : y = x
    · subst q; simp [List.eraseDups_cons] at h
    · simp [List.eraseDups_cons, q] at h
theorem sw_name {env : Env} {t : Expr} {l : Nat} {x : Str} (h : (match t with
      | .Name id pos => if (env.kindOf id == some .local && pos.line == l) = true then some id else none
      | _ => none) = some x) : ∃ px, t = .Name x px ∧ env.scope.names.lookup x = some .local := by
  split at h
  · rename_i id pos
    split at h
    · rename_i q
      cases h
      rw [Bool.and_eq_true] at q
      exact ⟨pos, rfl, beq_iff_eq.mp q.1⟩
    · cases h
  · cases h
/-- how the stores of a tuple are taken -/
theorem sw_cases {k : Nat} {env : Env} (hf : tupOk a = true) : swappedStores [.Tuple ts k p] a env = pure none ∨
    (∃ x px y py v w k2 p2, ts = [.Name x px, .Name y py] ∧ a = .Tuple [v, w] k2 p2 ∧ x ≠ y ∧ env.scope.names.lookup x = some .local ∧ env.scope.names.lookup y = some .local ∧ swappedStores [.Tuple ts k p] a env = pure (some [x, y])) ∨
    (∃ x px y py z pz v w u k2 p2, ts = [.Name x px, .Name y py, .Name z pz] ∧ a = .Tuple [v, w, u] k2 p2 ∧ x ≠ y ∧ x ≠ z ∧ y ≠ z ∧ env.scope.names.lookup x = some .local ∧ env.scope.names.lookup y = some .local ∧ env.scope.names.lookup z = some .local ∧ swappedStores [.Tuple ts k p] a env = pure (some [x, y, z])) := by
  cases a with
  | Tuple vs k2 p2 =>
    unfold swappedStores
    dsimp only [pure_bind]
    split
    · exact .inl rfl
    rename_i c1
    split
    · exact .inl rfl
    rename_i c2
    generalize hnn : List.filterMap _ ts = nn
    split
    · exact .inl rfl
    rename_i c3
    split
    · exact .inl rfl
    rename_i c4
    have c5 : ¬ (vs.all (constantsAlone 8)) = true := by
      intro z
      unfold tupOk at hf
      dsimp only at hf
      rw [z] at hf
      rw [Bool.not_true, Bool.false_or] at hf
      exact c4 hf
    rw [if_neg c5]
    rw [Bool.or_eq_true, Bool.or_eq_true, Bool.not_eq_true', not_or, not_or] at c1
    obtain ⟨⟨c11, c12⟩, c13⟩ := c1
    rw [Bool.or_eq_true, not_or] at c3
    have hlen : nn.length = ts.length := by simpa using c3.1
    have hdup : nn.eraseDups.length = nn.length := by simpa using c3.2
    have hvl : vs.length = ts.length := by simpa using c12
    have hl2 : ts.length = 2 ∨ ts.length = 3 := by
      rcases Bool.eq_false_or_eq_true (ts.length == 2 || ts.length == 3) with z | z
      · rw [Bool.or_eq_true] at z
        exact z.imp (fun q => by simpa using q) (fun q => by simpa using q)
      · exact absurd z c11
    rcases hl2 with hl2 | hl2
    · obtain ⟨t1, t2, rfl⟩ : ∃ t1 t2, ts = [t1, t2] := by
        match ts, hl2 with
        | [t1, t2], _ => exact ⟨t1, t2, rfl⟩
      obtain ⟨v, w, rfl⟩ : ∃ v w, vs = [v, w] := by
        match vs, hvl with
        | [v, w], _ => exact ⟨v, w, rfl⟩
      obtain ⟨x, y, rfl, q1, q2⟩ := fm2 hnn hlen
      obtain ⟨px, rfl, lx⟩ := sw_name q1
      obtain ⟨py, rfl, ly⟩ := sw_name q2
      exact .inr (.inl ⟨x, px, y, py, v, w, k2, p2, rfl, rfl, dup2 hdup, lx, ly, rfl⟩)
    · obtain ⟨t1, t2, t3, rfl⟩ : ∃ t1 t2 t3, ts = [t1, t2, t3] := by
        match ts, hl2 with
        | [t1, t2, t3], _ => exact ⟨t1, t2, t3, rfl⟩
      obtain ⟨v, w, u, rfl⟩ : ∃ v w u, vs = [v, w, u] := by
        match vs, hvl with
        | [v, w, u], _ => exact ⟨v, w, u, rfl⟩
      obtain ⟨x, y, z, rfl, q1, q2, q3⟩ := fm3 hnn hlen
      obtain ⟨px, rfl, lx⟩ := sw_name q1
      obtain ⟨py, rfl, ly⟩ := sw_name q2
      obtain ⟨pz, rfl, lz⟩ := sw_name q3
      obtain ⟨d1, d2, d3⟩ := dup3 hdup
      exact .inr (.inr ⟨x, px, y, py, z, pz, v, w, u, k2, p2, rfl, rfl, d1, d2, d3, lx, ly, lz, rfl⟩)
  | _ => exact .inl rfl
end
end Sd
end T_Sd18
section T_Sd20
set_option linter.all false
set_option maxRecDepth 100000
set_option maxHeartbeats 4000000
/-! Sd20: an exception class over ValueError whose __init__ says super().__init__(value); self.value = value. -/
namespace Sd
open PySem PySem.Spec PyProof.Rows L2 Ev
/-- what the written part says of the class D that has the __init__ -/
structure SupD (P : Program) (K : PySem.W.Frag) (D fI cc cda : Addr) (x qual : Str) (scope : Scope) (body : List Stmt) (fd : FuncData) : Prop where
  fn : ∃ (oc : Value) (od : Option Addr) (params : Arguments) (dV kV doc pm : Value) (an : Option Addr) (ct : Value) (osl : Array (Option Value)) (ar : Arg),
    fd = PySem.W.fnX x qual params body scope [("__class__", cc)] dV kV doc pm an (.ref cda) ct ∧ K.lookup fI = some ⟨oc, od, .func fd, osl⟩ ∧ (params.posonlyargs ++ params.args).head? = some ar ∧ ar.arg = ("self" : Str)
  cd : PySem.W.codeIn K (.ref cda) qual = true
  code : ∃ (ccl : Value) (cdd : Option Addr) (vs : Array Value) (ccs : Array (Option Value)) (file : Str) (tf : Tok), K.lookup cda = some ⟨ccl, cdd, .fields vs, ccs⟩ ∧ vs[2]? = some (.str file tf) ∧ ((P.main.file : Str) == file) = true
  cell : ∃ (cl : Value) (cld : Option Addr) (csl : Array (Option Value)), K.lookup cc = some ⟨cl, cld, .cell (some (.ref D)), csl⟩
  cls : ∃ cdD, PySem.W.clsIn K D = some cdD
  top : (P.main.scope.names.lookup ("super" : Str)).isSome = false
  op : PySem.W.nsIn K cStatics "thirdparty.any" = some none
  sc : NdefX.nscB ["self", "value", "__class__"] ["self", "value"] ["__class__"] scope = true
  sup : scope.names.lookup ("super" : Str) = some .globalImplicit
  bd : ∃ p0 p1 p2 p3 p4 p5 p6 p7 p8 p9 : Pos, (p2.endLine == p4.line) = true ∧ body = [.Expr (.Call (.Attribute (.Call (.Name "super" p0) [] [] p1) "__init__" p2) [.Name "value" p3] [] p4) p5, .Assign [.Attribute (.Name "self" p6) "value" p7] (.Name "value" p8) p9]
/-- .. and of a class C that derives from D -/
structure SupC (K : PySem.W.Frag) (D C : Addr) : Prop where
  T : OexC K C
  sub : PySem.W.mroIn K C (.ref D) = some true
  sup : PySem.W.ks_superIn K C D "__init__" = some (some (.builtin "ValueError.__init__"))
  ve : PySem.W.subIn K (.ref C) (.type "ValueError") = some true
  val : PySem.W.findIn K (.ref C) "value" = some none
/-- ValueError.__init__ bound to an exception that is being made -/
theorem call_mw {X : Cx} {pins : List (Addr × Obj)} {σ : L2.St} {H : Hp} {s : Shared} {a C u : Addr} {us : List Value} {Q : Value → Shared → Prop} {E : Value → Shared → Prop} {A : Around} (T : OexC X.K C) (I : Inv X pins σ H s) (e : H a = some (exo a C none))
    (hu : s.heap.get? u = some (PySem.W.kxs_mw "ValueError.__init__" a)) (hl : us.length ≤ sizeLine) (h : ∀ s', Inv X pins σ H s' → Q .none s') : wpAny (model X.prog X.w) A (call (.ref u) us) Q E s := by
  obtain ⟨nm, q, N, bs, bm, sn, sub, ab, col, dd, k0, k1, k2, k3, k5, hC, hbm⟩ := T.cls
  obtain ⟨t1, ho⟩ := exo_at I.hok e
  have fin : ∀ s', Inv X pins σ (upd H a (exo a C none)) s' → Q .none s' := fun s' J => by
    have eu : upd H a (exo a C none) = H := by
      funext b
      by_cases hb : b = a
      · rw [hb, upd_same, e]
      · rw [upd_ne hb]
    rw [eu] at J
    exact h s' J
  obtain ⟨hp, g, d, t, os⟩ := s
  refine wpAny_call (codeAny_of_tree ?_)
  show wpAny _ A.in1 (callAny (.ref u) ⟨us, []⟩) _ _ _
  simp only [callAny]
  refine wpAny_bind (wpAny_load hu ?_)
  simp only [PySem.W.kxs_mw, show (Value.type "method-wrapper" == Value.type "method" || Value.type "method-wrapper" == Value.type "builtin_function_or_method" || Value.type "method-wrapper" == Value.type "method-wrapper") = true by decide, if_true]
  refine PySem.W.KFB.if_so (by decide) ?_
  refine wpAny_bind (PySem.W.check_bound_init F.excBase_ValueError.toExcCallFacts (I.kIn _ _ hC) ho rfl ?_)
  refine wpAny_bind (wpAny_pure (wpAny_pure ?_))
  refine ⟨plainId_quiet F.excBase_ValueError.init.plain _, codeAny_builtin F.excBase_ValueError.initEntry ?_⟩
  refine PySem.W.exc_init_tree (cls := .ref C) (t0 := t1) (dv := none) (c2 := .none) (c3 := .none) (b4 := .bool false) ho hl fun h' k hx _ => ?_
  exact fin _ (I.write (t' := t) (x := a) (e := a) (o := exo a C none) (by rw [e]; exact True.intro) (.inl rfl) k ⟨_, hx⟩ (exo_ok hx))
theorem meth_treeB {X : Cx} {es : List Expr} {o : Expr} {m : Str} {apos cpos : Pos} (hline : (apos.endLine == cpos.line) = true) (hs : noStar es = true) (hl : es.length < 29) :
    eval (.Call (.Attribute o m apos) es [] cpos) X.env = (do
      let ov ← attributeBase o m X.env (eval o X.env)
      standAt apos.atName
      let (f, first) ← holding [ov] (getMethod ov m (do return (← importBound o X.env).getD true))
      callWith cpos f first (backTo cpos (starEach es X.env)) []) := by
  have hfew : methodCallForm (es.length + ([] : List Keyword).length) (backTo cpos (starEach es X.env)) (backToKw cpos (keywordEach [] X.env)) = true := few_ok (o := o) (m := m) hs hl
  have hpos : methodCallPos true o X.env apos cpos = pure cpos := by unfold methodCallPos; simp [hline]
  show (do
    let ov ← attributeBase o m X.env (eval o X.env)
    standAt apos.atName
    methodCall o m apos cpos X.env ov (es.length + ([] : List Keyword).length) (backTo cpos (starEach es X.env)) (backToKw cpos (keywordEach [] X.env))) = _
  unfold methodCall calleeOf
  rw [hfew, hpos]
  rfl
/-- super().__init__(value) -/
theorem st_super {X : Cx} {pins : List (Addr × Obj)} {σ : L2.St} {H : Hp} {s : Shared} {D fI cc cda a C : Addr} {x qual : Str} {scope : Scope} {body : List Stmt} {fd : FuncData} {v : V} {p0 p1 p2 p3 p4 p5 : Pos}
    (F : SupD X.prog X.K D fI cc cda x qual scope body fd) (Y : SupC X.K D C) (hm0 : X.mg "super" = none) (hline : (p2.endLine == p4.line) = true) (henv : X.env.scope = scope) (hfu : X.env.func = some fI) (hco : X.env.code = .ref cda) (hcl : X.env.cells.lookup ("__class__" : Str) = some cc)
    (hN : X.N = (["self", "value", "__class__"] : List Str)) (I : Inv X pins σ H s) (e0 : σ[0]? = some (some (.ref a))) (e1 : σ[1]? = some (some v)) (ea : H a = some (exo a C none)) :
    PySem.wpAt (model X.prog X.w) X.A (.func body X.env) (exec (.Expr (.Call (.Attribute (.Call (.Name "super" p0) [] [] p1) "__init__" p2) [.Name "value" p3] [] p4) p5) X.env) (fun fl s' => fl = .next ∧ Inv X pins σ H s') X.xe s := by
  obtain ⟨oc, od, params, dV, kV, doc, pm, an, ct, osl, ar, efd, hf, hp, har⟩ := F.fn
  obtain ⟨ccl, cdd, vs, ccs, file, tf, hcode, hvs, hfile⟩ := F.code
  obtain ⟨cl, cld, csl, hcell⟩ := F.cell
  obtain ⟨cdD, hD⟩ := F.cls
  have NS := NdefX.nscope_by F.sc
  have hks : X.env.kindOf "super" = some .globalImplicit := by unfold Env.kindOf; rw [henv]; exact F.sup
  have hkc : X.env.kindOf "__class__" = some .free := by unfold Env.kindOf; rw [henv]; exact NS.frk _ (List.mem_cons_self ..)
  have lself : X.env.scope.names.lookup ("self" : Str) = some .local := by rw [henv]; exact NS.par _ (List.mem_cons_self ..)
  have lval : X.env.scope.names.lookup ("value" : Str) = some .local := by rw [henv]; exact NS.par _ (List.mem_cons_of_mem _ (List.mem_cons_self ..))
  obtain ⟨mb, b1, b2⟩ := I.mod.blt
  obtain ⟨m, hn, hlk⟩ := id I.loc
  obtain ⟨u0, r0, k0⟩ := hlk 0 "self" (.ref a) (by rw [hN]; rfl) e0 (.inl lself)
  cases r0
  have hself : m "self" = some (.ref a) := by
    rcases k0 with ⟨_, q⟩ | ⟨q, _⟩
    · exact q
    · rcases q with q | q
      · have q : X.env.scope.names.lookup ("self" : Str) = some .cell := q
        rw [lself] at q; cases q
      · have q : X.env.scope.names.lookup ("self" : Str) = some .free := q
        rw [lself] at q; cases q
  obtain ⟨nm, q, N, bs, bm, sn, sub, ab, col, dd, k0', k1, k2, k3, k5, hC, hbm⟩ := id Y.T.cls
  obtain ⟨t1, ho⟩ := exo_at I.hok ea
  obtain ⟨oD, hD1, hD2⟩ : ∃ oD, s.heap.get? D = some oD ∧ oD.data = .cls cdD := by
    unfold PySem.W.clsIn at hD
    split at hD
    · rename_i c d cd' sl hoD
      cases hD
      exact ⟨_, I.kIn _ _ hoD, rfl⟩
    · cases hD
  refine ks_wpAt_Expr_any ?_ (by unfold interactive; rw [I.ok.kind]; rfl) rfl
  refine ks_wpAt_MethodCall ?_ (meth_treeB hline rfl (by show 1 < 29; decide))
  have hcodeX := I.kIn _ _ hcode
  refine ks_wpAt_super_base (env := X.env) hks hkc rfl hfu (I.kIn _ _ hf) rfl (ar := ar) (by rw [efd]; exact hp) hco hcodeX rfl hvs hfile F.top ?_
  refine PySem.W.ks_loadName_global I.ok.kind hks (Calls.loadGlobal_builtin (by rw [I.ok.glob]; exact I.mod.glob.keeps I.bk) hm0 (by rw [I.ok.blt]; exact b1.keeps I.bk) ((b2 "super" (by decide)).trans (show bootBuiltins "super" = some (.type "super") by kernel_rfl)) ⟨rfl, ?_⟩)
  refine wpAny_loadName_free I.ok.kind hkc hcl ⟨_, I.kIn _ _ hcell, rfl⟩ ?_
  rw [har]
  refine wpAny_loadName_local I.ok.kind lself hn hself ?_
  refine ks_wpAny_isType_cls hD1 hD2 ⟨rfl, ?_⟩
  obtain ⟨hh, g, d, t, os⟩ := s
  refine ks_wpAny_call_super hD1 hD2 ho rfl (fun c e => by cases e) (PySem.W.looks_mroIn I.kIn Y.sub) fun h1 es kk => ?_
  have J : Inv X pins σ H ⟨h1, g, d, t, os⟩ := I.kept (t' := t) kk
  have hclC : PySem.W.clsIn X.K C = some { name := nm, bases := bs, mro := .ref C :: bm, ns := N, qualname := q, hasDict := true, slotNames := sn, subclasses := sub, abstract := ab, collection := col, hasDel := false } := by unfold PySem.W.clsIn; rw [hC] <;> rfl
  have hxC : a ≠ C := fun z => by
    have y := I.kIn _ _ hC
    rw [z] at ho
    rw [ho] at y
    cases y
  have TY : PySem.W.Looks (model X.prog X.w) h1 (typeOf (.ref a)) (.ref C) := fun A Q E s k q => wpAny_typeOf_ref (k _ _ (kk _ _ ho)) q
  have hI : PySem.W.Looks (model X.prog X.w) h1 (isInstance (.ref a) (.type "ValueError")) true := TY.andThen (PySem.W.looks_subIn J.kIn Y.ve)
  refine PySem.W.kxs_getMethod PySem.W.kxs_ValueError es (PySem.W.looks_opaque J.kIn F.op) (l₀ := .ref C :: bm) (fun A Q E s k q => wpAny_bind ((PySem.W.looks_clsIn J.kIn hclC) A _ E s k (wpAny_pure q))) rfl J.kIn
    (by have z := Y.sup; unfold PySem.W.ks_superIn at z; rw [hclC] at z; exact z) hI hxC rfl ?_
  have J2 : Inv X ((h1.objs.size, PySem.W.kxs_mw "ValueError.__init__" a) :: pins) σ H ⟨h1.push (PySem.W.kxs_mw "ValueError.__init__" a), g, d, t + 1, os⟩ :=
    ClX.pin_new (t' := t + 1) J (fun b o e => Heap.get?_push_of_some _ e) (Nat.le_refl _) (Heap.get?_push_at rfl rfl) (fun v e => by cases e)
  have pv : PA X [.Name "value" p3] (tCons (tVar 1) tNil) := pa_cons (pe_var (i := 1) (by rw [hN]; rfl) (.inl lval)) pa_nil
  refine PySem.W.kxs_callWith (i := "ValueError.__init__") (x := a) rfl (Calls.evalArgs_plain (x := eval (.Name "value" p3) X.env) (rest := []) ?_)
  refine thn (pv.run p4 _ _ σ H (fun vs H1 => vs = [v] ∧ H1 = H) J2 ⟨v, e1, ⟨rfl, rfl⟩⟩) fun us s2 ⟨vs2, H1, I2, r2, e2, e3⟩ => ?_
  subst e3
  refine ⟨ClX.pin_at I2, ?_⟩
  refine call_mw Y.T I2 ea (ClX.pin_at I2) (by show us.length ≤ sizeLine; rw [← r2.length, e2, sizeLine_eq]; show 1 ≤ _; decide) fun s' I3 => ⟨rfl, ClX.unpin I3⟩
/-- what the __init__ does -/
def spI (K : PySem.W.Frag) (D : Addr) : Sp := fun vs H Q _ => ∃ (a C : Addr) (v : V), vs = [.ref a, v] ∧ SupC K D C ∧ H a = some (exo a C none) ∧
  ∀ dx, H dx = none → dx ≠ a → Q .non (upd (upd H dx (exd dx [(Str.ofString "value", v)])) a (exo a C (some dx)))
theorem init_ok {P : Program} {w : World} {K : PySem.W.Frag} {mg : Str → Option Value} {base : Heap} {k : Nat} {D fI cc cda : Addr} {x qual : Str} {scope : Scope} {body : List Stmt} {fd : FuncData} (F : SupD P K D fI cc cda x qual scope body fd) (hm0 : mg "super" = none) :
    FnOk P w K mg base (L2.CX P w) (k + 1) fI fd ["self", "value"] (spI K D) := by
  refine ⟨fun vs H Q E ⟨a, C, v, e, _⟩ => by rw [e]; rfl, fun A outer s H args us vs Q E hr e0 hb r hsp => ?_⟩
  obtain ⟨a, C, v, rfl, Y, ea, hq⟩ := hsp
  obtain ⟨oc, od, params, dV, kV, doc, pm, an, ct, osl, ar, efd, hf, hp, har⟩ := id F.fn
  obtain ⟨cl, cld, csl, hcell⟩ := id F.cell
  obtain ⟨p0, p1, p2, p3, p4, p5, p6, p7, p8, p9, hline, hbody⟩ := id F.bd
  have NS := NdefX.nscope_by F.sc
  have KX : K.In s.heap := e0.mod.kin.keeps fun b o e => (e0.bs b o e).1
  have lim : s.heap.NoLimit := e0.mod.nolimit.keeps fun b o e => (e0.bs b o e).1
  have Cc : NdefX.CellsAt [(("__class__" : Str), cc)] ["__class__"] [none] s.heap H := by
    have hc0 : s.heap.IsCell cc (some (.ref D)) := ⟨_, KX _ _ hcell, rfl⟩
    have hn0 : H cc = none := by
      obtain ⟨o, ho⟩ : ∃ o, base.get? cc = some o := ⟨_, e0.mod.kin _ _ hcell⟩
      exact (e0.bs _ _ ho).2
    have look : ∀ y c, [(("__class__" : Str), cc)].lookup y = some c → y = "__class__" ∧ c = cc := fun y c h => by
      rw [List.lookup_cons] at h
      split at h
      · rename_i z
        cases h
        exact ⟨beq_iff_eq.mp z, rfl⟩
      · cases h
    refine ⟨rfl, fun y c h => ?_, fun y z c h1 h2 => ?_, fun i y h => ?_⟩
    · obtain ⟨_, rfl⟩ := look _ _ h
      exact ⟨hn0, _, hc0⟩
    · rw [(look _ _ h1).1, (look _ _ h2).1]
    · cases i with
      | zero =>
        cases h
        exact ⟨cc, by simp [List.lookup], fun v h => by cases h⟩
      | succ i => cases h
  subst efd
  have hcells : ∀ y ∈ scope.names, y.2 ≠ .cell := NS.nocell
  have hloc : ∀ y ∈ (["self", "value"] : List Str).zip us, scope.names.lookup y.1 = some .local := fun y hy => NS.par y.1 (List.of_mem_zip (a := y.1) (b := y.2) hy).1
  refine ks_codeAny_call_defAt (o := ⟨oc, od, .func (PySem.W.fnX x qual params body scope [("__class__", cc)] dV kV doc pm an (.ref cda) ct), osl⟩) (body := body) (binds := (["self", "value"] : List Str).zip us) hr.depth (KX _ _ hf) rfl lim (PySem.W.codeRec_of KX F.cd) rfl hb hcells hloc ?_
    NS.co NS.gen NS.kind
  intro h1 hns kp
  let X := NdefX.ncx (L2.CX P w) P w K mg base ["self", "value", "__class__"] ⟨x, qual, params, body, scope, [("__class__", cc)], cda⟩ fI A outer s H E
  have I : Inv X [] (NdefX.startF ["self", "value", "__class__"] [.ref a, v] [none]) H { s with heap := h1, toks := s.toks + ((["self", "value"] : List Str).zip us).length } :=
    NdefX.inv_startN (CX := L2.CX P w) (E := E) (N := ["self", "value", "__class__"]) (f := fI) (F := ⟨x, qual, params, body, scope, [("__class__", cc)], cda⟩) (tk := s.toks + ((["self", "value"] : List Str).zip us).length) NS hr.hd e0 rfl r Cc hns kp
  have F2 : SupD X.prog X.K D fI cc cda x qual scope body _ := F
  have hl : X.env.cells.lookup ("__class__" : Str) = some cc := by show [(("__class__" : Str), cc)].lookup _ = _; simp [List.lookup]
  have hex : execs body X.env = execs [.Expr (.Call (.Attribute (.Call (.Name "super" p0) [] [] p1) "__init__" p2) [.Name "value" p3] [] p4) p5, .Assign [.Attribute (.Name "self" p6) "value" p7] (.Name "value" p8) p9] X.env := by rw [hbody]
  have lself : X.env.scope.names.lookup ("self" : Str) = some .local := NS.par _ (List.mem_cons_self ..)
  have lval : X.env.scope.names.lookup ("value" : Str) = some .local := NS.par _ (List.mem_cons_of_mem _ (List.mem_cons_self ..))
  show PySem.wpAt (model X.prog X.w) X.A (.func body X.env) (execs body X.env) _ X.xe _
  rw [hex]
  refine ks_wpAt_execs_cons (PySem.wpAt_mono (st_super F2 Y hm0 hline rfl rfl rfl hl rfl I rfl rfl ea) (fun fl s1 z => ?_) fun _ _ z => z)
  obtain ⟨ez, I1⟩ := z
  subst ez
  refine ks_wpAt_execs_cons (PySem.wpAt_of_wpAny (wpAny_mono ((ps_ost (X := X) (f := "value") (pe_var (i := 0) rfl (.inl lself)) (pe_var (i := 1) rfl (.inl lval))).run [] s1 _ H { nx := fun _ H' => Q .non H', rt := Q } I1 ?_) (fun fl s2 hs => ?_) fun _ _ z => z))
  · exact ⟨v, rfl, .ref a, rfl, a, C, rfl, Y.T, Y.val, .inl ⟨ea, fun dx h1 h2 => hq dx h1 h2⟩⟩
  · cases fl with
    | next =>
      obtain ⟨σ', H', J, q⟩ := hs
      exact PySem.wpAt_of_wpAny (wpAny_execs_nil ⟨V.non, H', J.os, J.bare, J.base, J.hok, rfl, q⟩)
    | ret u =>
      obtain ⟨v', σ', H', J, rv, q⟩ := hs
      exact ⟨v', H', J.os, J.bare, J.base, J.hok, rv, q⟩
    | brk => exact hs.elim fun _ z => z.elim fun _ z => z.2.elim
    | cont => exact hs.elim fun _ z => z.elim fun _ z => z.2.elim
/-- an exception made: C(v) -/
theorem call_exc {X : Cx} {W : WX} {pins : List (Addr × Obj)} {σ : L2.St} {H : Hp} {s : Shared} {k : Nat} {D C fI : Addr} {fd : FuncData} {u : Value} {v : V} {Q : XK} (F1 : FnOk X.prog X.w X.K X.mg X.base (L2.CX X.prog X.w) k fI fd ["self", "value"] (spI X.K D)) (hr : Room (k + 1) X.A) (hb : Binds X.K fd ["self", "value"] [])
    (tk : Takes X W) (Y : SupC X.K D C) (iC : PySem.W.findIn X.K (.ref C) "__init__" = some (some (.ref fI))) (tI : PySem.W.typeIn X.K (.ref fI) = some (.type "function")) (I : Inv X pins σ H s) (r : RelV v u)
    (hq : ∀ dd, H dd = none → Q (.ref C) (some dd) (upd H dd (.xd [(Str.ofString "value", v)]))) : wpAny (model X.prog X.w) X.A (call (.ref C) [u]) (MkP X pins σ Q) X.xe s := by
  obtain ⟨nm, q, N, bs, bm, sn, sub, ab, col, dd, k0, k1, k2, k3, k5, hC, hbm⟩ := id Y.T.cls
  obtain ⟨hp, g, dr, tk', os⟩ := s
  have hsz : hp.objs.size ≤ hp.objs.size + 1 := Nat.le_succ _
  have hn : H (hp.objs.size + 1) = none := I.hok.fresh hsz
  have kk : ∀ b o, hp.get? b = some o → ((hp.push (PySem.W.kdv_tup [u])).push (PySem.HandSPX.excO C hp.objs.size)).get? b = some o := fun b o e => Heap.get?_push_of_some _ (Heap.get?_push_of_some _ e)
  have hget : ((hp.push (PySem.W.kdv_tup [u])).push (PySem.HandSPX.excO C hp.objs.size)).get? (hp.objs.size + 1) = some (PySem.HandSPX.excO C hp.objs.size) := by heap_get
  have I2 : Inv X pins σ (upd H (hp.objs.size + 1) (exo (hp.objs.size + 1) C none)) ⟨(hp.push (PySem.W.kdv_tup [u])).push (PySem.HandSPX.excO C hp.objs.size), g, dr, tk', os⟩ :=
    I.laid (t' := tk') (a := hp.objs.size + 1) (o := exo (hp.objs.size + 1) C none) (h' := (hp.push (PySem.W.kdv_tup [u])).push (PySem.HandSPX.excO C hp.objs.size)) kk hsz (exo_ok hget)
  have r2 : Vals [V.ref (hp.objs.size + 1), v] [Value.ref (hp.objs.size + 1), u] := .cons rfl (.cons r .nil)
  have hb1 := hb ⟨(hp.push (PySem.W.kdv_tup [u])).push (PySem.HandSPX.excO C hp.objs.size), g, dr, tk', os⟩ [Value.ref (hp.objs.size + 1), u] I2.kIn rfl
  have sp1 : spI X.K D [V.ref (hp.objs.size + 1), v] (upd H (hp.objs.size + 1) (exo (hp.objs.size + 1) C none)) (fun w H2 => w = .non ∧ ∃ (d : Addr) (fs : List (Str × V)), H2 (hp.objs.size + 1) = some (exo (hp.objs.size + 1) C (some d)) ∧ H2 d = some (exd d fs) ∧ H d = none ∧
      Q (.ref C) (some d) (upd (del H2 (hp.objs.size + 1)) d (.xd fs))) (fun _ _ _ => False) := by
    refine ⟨_, C, v, rfl, Y, upd_same, fun dx hd hne => ⟨rfl, dx, [(Str.ofString "value", v)], upd_same, by rw [upd_ne hne, upd_same], by rw [upd_ne hne] at hd; exact hd, ?_⟩⟩
    have hd0 : H dx = none := by rw [upd_ne hne] at hd; exact hd
    have e : upd (del (upd (upd (upd H (hp.objs.size + 1) (exo (hp.objs.size + 1) C none)) dx (exd dx [(Str.ofString "value", v)])) (hp.objs.size + 1) (exo (hp.objs.size + 1) C (some dx))) (hp.objs.size + 1)) dx (.xd [(Str.ofString "value", v)]) = upd H dx (.xd [(Str.ofString "value", v)]) := by
      funext b
      by_cases h1 : b = dx
      · rw [h1, upd_same, upd_same]
      · rw [upd_ne h1, upd_ne h1]
        by_cases h2 : b = hp.objs.size + 1
        · rw [h2, del_same, hn]
        · rw [del_ne h2, upd_ne h2, upd_ne h1, upd_ne h2]
    rw [e]
    exact hq dx hd0
  refine wpAny_call (PySem.HandSPX.call_own F.excBase_ValueError (fun Y => PySem.HandSPX.refsVE_contains Y bm hbm) (I.kIn _ _ hC) (PySem.W.looks_findIn I.kIn iC) (fun self => PySem.W.bind_fn I.kIn self tI) (by show 1 ≤ sizeLine; rw [sizeLine_eq]; decide)
    (codeAny_mono (F1.run _ X.stack _ _ ⟨[Value.ref (hp.objs.size + 1), u], []⟩ [Value.ref (hp.objs.size + 1), u] _ _ (fun _ _ _ => False) (hr.make C [u] []) (I2.env0.make C [u] []) (by simpa using hb1) r2 sp1) fun r s' hq' => ?_))
  cases r with
  | error er => exact XE_call tk I2 (fun _ _ _ z => z.elim) hq'
  | ok fl =>
    cases fl with
    | ret u' =>
      obtain ⟨v', H2, os2, bare2, un2, hok2, rv, ev, d, fs, ea, ed, hd1, q2⟩ := hq'
      subst ev
      obtain ⟨h2, g2, d2, t2, os'⟩ := s'
      exact ⟨rv, mk_end (raises_own Y.T.exC Y.T.tyC) I hsz kk un2 hok2 os2 bare2 ea ed hd1 q2⟩
    | next => exact False.elim hq'
    | brk => exact False.elim hq'
    | cont => exact False.elim hq'
end Sd
end T_Sd20
section T_Sd21
set_option linter.all false
set_option maxRecDepth 100000
set_option maxHeartbeats 4000000
/-! Sd21: raise, try. -/
namespace Sd
open PySem PySem.Spec PyProof.Rows L2 Ev
/-- the exception classes are made so -/
def EX (P : Program) (K : PySem.W.Frag) (mg : Str → Option Value) (G : Glob) (ca : Str → Addr) : Prop := mg "super" = none ∧ ∃ (D fI cc cda : Addr) (x qual : Str) (scope : Scope) (body : List Stmt) (fd : FuncData),
  SupD P K D fI cc cda x qual scope body fd ∧ Binds K fd ["self", "value"] [] ∧ PySem.W.typeIn K (.ref fI) = some (.type "function") ∧
    ∀ c d, lk c G.clss = some d → d.isExc = true → SupC K D (ca c) ∧ PySem.W.findIn K (.ref (ca c)) "__init__" = some (some (.ref fI))
section
variable {X : Cx} {C : Cxt} {ca fa : Str → Addr} {kk : Nat} {sc : Scope} {W : WX} {t a b c0 ex o i : Expr} {es r ts : List Expr} {pos p apos : Pos} {st : Stmt} {ss : List Stmt}
variable {fe fb fc : MEnv → MH → Option Out} {fs : MEnv → MH → Option OutS}
theorem g_raise (D : XC X C ca fa kk) (hk : 1 ≤ kk) (G : XG X C ca sc W) (Z : EX X.prog X.K X.mg C.G ca) {c : Str} {d : ClsD} (hc : lk c C.G.clss = some d) (hx : d.isExc = true) (hg : Gl X c) (hs : notStar a = true) (ha : PE X a (rdE X.K ca fe W)) :
    PS X (.Raise (some (.Call (.Name c p) [a] [] pos)) none apos) (rdS X.K ca (fun e h => thnS e (fe e h) fun v h1 => some (.exc (.exc c v) e h1)) W) := by
  obtain ⟨hm0, Da, fI, cc, cda, x, qual, scope, body, fd, F, hb, tI, hcl⟩ := Z
  obtain ⟨Y, iC⟩ := hcl c d hc hx
  obtain ⟨hmc, hdb⟩ := D.sf.cmg c d hc
  have F1 : FnOk X.prog X.w X.K X.mg X.base (L2.CX X.prog X.w) 1 fI fd ["self", "value"] (spI X.K Da) := init_ok F hm0
  have pm : PMk X (.Call (.Name c p) [a] [] pos) (fun σ H Q => rdE X.K ca fe W σ H fun u H1 => ∀ dd, H1 dd = none → Q (.ref (ca c)) (some dd) (upd H1 dd (.xd [(Str.ofString "value", u)]))) := by
    intro pins s σ H Q I q
    refine wpAny_Call_Name_kw (ld_glob I hg hmc ?_ (by simpa using hdb))
    have hse : starEach [a] X.env = (false, eval a X.env) :: starEach [] X.env := star_no hs
    refine PySem.W.callWith_K (h₀ := X.base) I.ok.mod.kin Y.T.kC (thn ((pa_cons ha pa_nil hse).run pos pins s σ H (fun vs H1 => ∃ u, vs = [u] ∧ ∀ dd, H1 dd = none → Q (.ref (ca c)) (some dd) (upd H1 dd (.xd [(Str.ofString "value", u)]))) I ?_) fun us s1 ⟨vs, H1, I1, r1, u, e1, q1⟩ => ⟨I1.kIn, ?_⟩) hse rfl
    · obtain ⟨ρ, h, e, S, re, k⟩ := q
      exact ⟨ρ, h, e, S, re, k.imp (fun _ _ z => ⟨_, rfl, z⟩) fun _ _ _ z => z⟩
    · subst e1
      cases r1 with
      | cons ru rr =>
        cases rr
        exact call_exc F1 (D.rm.mono (by omega)) hb G.tk Y iC tI I1 ru q1
  refine ⟨fun pins s σ H D2 I ⟨ρ, h, e, S, re, k⟩ => ?_⟩
  refine (ps_raise G.calm G.tk pm).run pins s σ H D2 I ⟨ρ, h, e, S, re, k.thn S re fun v h1 ρ1 H1 u _ g1 S1 r1 k1 => ?_⟩
  intro dd hd
  obtain ⟨S2, g2⟩ := S1.tupd (u := .xd [(Str.ofString "value", u)]) hd
  exact k1 ρ1 _ σ _ _ g2 S2 ((re.mono S g1).mono S1 g2) ⟨c, v, dd, u, rfl, rfl, rfl, upd_same, r1.mono S1 g2⟩
/-! ### try: .. except C as y: z = y -/
/-- an exception that was caught becomes a tracked object -/
theorem _root_.L2.Inv.track {pins : List (Addr × Obj)} {σ : L2.St} {H : Hp} {s : Shared} {a dd Ca : Addr} {oe : Obj} {vs : Array Value} (I : Inv X pins σ H s) (e : s.heap.get? a = some oe) (n : H a = none) (n0 : X.s_0.heap.get? a = none)
    (z : Zc (.ref Ca) (some dd) oe) (dt : oe.data = .fields vs) (nL : a ≠ X.env.locals) (nC : ∀ x c, X.env.cells.lookup x = some c → c ≠ a) (nP : ∀ p ∈ X.pn ++ pins, p.1 ≠ a) : Inv X pins σ (upd H a (ExV Ca dd a)) s := by
  refine ⟨I.ok, I.os, I.bare, ⟨I.base.keep, I.base.slot, fun b o q m hx => ?_, I.base.there, fun b xs q => ?_, fun b o u q => ?_, fun b ps q => ?_⟩, I.loc, I.cell, ?_, fun x c q => ?_, fun p hp => ?_, fun b o q => ?_, I.len⟩
  · rw [upd_ne (fun z => by rw [z, n0] at q; cases q)]
    exact I.base.free b o q m hx
  · have q2 := I.base.tups b xs q
    rw [upd_ne (ne_of_none q2 n)]
    exact q2
  · have q2 := I.base.frzs b o u q
    rw [upd_ne (ne_of_none q2 n)]
    exact q2
  · obtain ⟨m, q2⟩ := I.base.tbls b ps q
    exact ⟨m, by rw [upd_ne (ne_of_none q2 n)]; exact q2⟩
  · rw [upd_ne (Ne.symm nL)]
    exact I.free
  · rw [upd_ne (nC x c q)]
    exact I.freeC x c q
  · obtain ⟨e1, e2, e3, e4, e5⟩ := I.pin p hp
    exact ⟨e1, by rw [upd_ne (nP p hp)]; exact e2, e3, e4, e5⟩
  · by_cases hb : b = a
    · subst hb
      rw [upd_same] at q
      cases q
      exact ⟨⟨oe, vs, e, z, dt⟩, ⟨oe, e⟩, fun _ _ ⟨o, v, q, r⟩ k => ⟨o, v, k o q, r⟩⟩
    · rw [upd_ne hb] at q
      exact (I.hok b o q).stay (fun c v _ q => q) (fun c q => by rw [upd_ne (ne_of_none q n)]; exact q) fun c xs q => by rw [upd_ne (ne_of_none q n)]; exact q
/-- what a try wishes of an exception of the body -/
def wTry (K : PySem.W.Frag) (c : Value) (i j : Nat) (Wout : WX) (D : Ends) : WX := fun cls d σ H =>
  ∃ b, PySem.W.exmOne K cls c = some b ∧ (b = true → ∃ Ca dd, cls = .ref Ca ∧ d = some dd ∧ ∀ a, H a = none → D.nx ((σ.set j (some (.ref a))).set i none) (upd H a (ExV Ca dd a))) ∧ (b = false → Wout cls d σ H)
theorem ps_tryV {x n z : Str} {c : Value} {i j : Nat} {body : List Stmt} {np pos pos' p1 p2 p3 : Pos} {tb : WX → TS} {Wout : WX} (hs : X.stack = X.env :: X.outer) (hf : X.env.frame = some X.env.locals) (hex : X.ex = []) (hN : X.N.Nodup) (hi : X.N[i]? = some n) (hln : X.env.kindOf n = some .local)
    (hj : X.N[j]? = some z) (hlz : X.env.kindOf z = some .local) (hnz : n ≠ z) (hdn : (n == ("__debug__" : Str)) = false) (hcn : (n == ("__classdict__" : Str)) = false) (hc : Names X x c) (tk : Takes X Wout)
    (hb : ∀ (W : WX) (pn : List (Addr × Obj)) (xe : Value → Shared → Prop), Takes (X.tr pn xe) W → PassesOwn (model X.prog X.w) X.A X.env xe → PSs (X.tr pn xe) body (tb W)) :
    PS X (.Try body [.ExceptHandler (some (.Name x np)) (some n) [.Assign [.Name z p1] (.Name n p2) p3] pos'] [] [] pos) (fun D σ H => tb (wTry X.K c i j Wout D) D σ H) := by
  have hij : i ≠ j := fun q => hnz (by rw [q, hj] at hi; cases hi; rfl)
  refine ⟨fun pins s σ H D I h => ?_⟩
  have ok := I.ok
  have hfr : X.A.frames = some (X.env :: X.outer) := by rw [ok.frames, hs]
  have hloc : Loc X.env.scope n := .inl hln
  refine wpAny_Try_except ?_
  refine wpAny_mono ((hb (wTry X.K c i j Wout D) (X.pn ++ pins) (fun e s₁ => wpAny (model X.prog X.w) X.A (noteFrame e X.env) (fun _ s₂ => wpAny (model X.prog X.w) X.A (setFlight e none) (fun _ s₃ =>
    wpAny (model X.prog X.w) X.A (handleBy e X.env [.ExceptHandler (some (.Name x np)) (some n) [.Assign [.Name z p1] (.Name n p2) p3] pos']) (SP X pins D) X.xe s₃) X.xe s₂) X.xe s₁) (fun u s' xx => ?_) PassesOwn.looking).run [] s σ H D (I.toTry _) h) (fun f s1 hsp => ?_) (fun e s1 he => he)
  · obtain ⟨a, B, sI, pins', σ', H', cls, d, rfl, J', nb, up, sky, na, os, ag, b, hb1, hyes, hno⟩ := xx
    have J : Inv X pins σ' H' sI := J'.ofTry ok
    have sky' : Sky B (X.env :: X.outer) a (Zc cls d) X.env.locals s'.heap := by rw [← hs]; exact sky
    show wpAny (model X.prog X.w) X.A (noteFrame (.ref a) X.env) _ _ _
    refine Sky.land Zc.steady hfr hf sky' fun h3 fl3 up3 => ?_
    have J3 : Inv X pins σ' H' { s' with heap := h3 } := J.landed nb fl3.1 (up.trans up3) os ag
    obtain ⟨oe3, vs3, he3, hz3, hd3⟩ := fl3.there
    have notFr : ∀ {h : Heap} {o : Obj} {vs : Array Value}, h.FunFrames B (X.env :: X.outer) → h.get? a = some o → o.data = .fields vs → a ∉ frs (X.env :: X.outer) := fun {h o vs} ff e dd hm => by
      obtain ⟨_, o', e', hnf⟩ := ff.mem hm
      rw [e] at e'; cases e'
      exact hnf _ dd
    have nfr := notFr fl3.2.2.1 he3 hd3
    have nL : a ≠ X.env.locals := fun z => nfr (List.mem_filterMap.mpr ⟨X.env, List.mem_cons_self, by rw [hf, z]⟩)
    have nF : a ∉ X.fs := fun hm => by
      obtain ⟨e, he, q⟩ := List.mem_filterMap.mp hm
      exact nfr (List.mem_filterMap.mpr ⟨e, List.mem_cons_of_mem _ he, q⟩)
    have nI : sI.heap.get? a = none := by
      cases q : sI.heap.get? a with
      | none => rfl
      | some o =>
        have y := nb a o q (by rw [hs]; exact nfr)
        rw [fl3.2.1] at y
        cases y
    have n0 : X.s_0.heap.get? a = none := by
      cases q : X.s_0.heap.get? a with
      | none => rfl
      | some o =>
        obtain ⟨o', y⟩ := J.base.there a o q (by rw [hex]; exact fun z => nomatch z)
        rw [nI] at y
        cases y
    have nC : ∀ x c, X.env.cells.lookup x = some c → c ≠ a := fun x c q z => by
      obtain ⟨v, o, y, _⟩ := J.cell x c q
      rw [z, nI] at y
      cases y
    have nP : ∀ p ∈ X.pn ++ pins, p.1 ≠ a := fun p hp z => by
      have y := (J.pin p hp).1
      rw [z, nI] at y
      cases y
    have S3 := J3.suite he3 hd3 na nL nF
    refine wpAny_handleBy_cons (codeAny_handlers_test ?_) (by intro q; cases q)
    have LT : PySem.W.Looks (model X.prog X.w) h3 (typeOf (.ref a)) cls := fun A Q E s k q => wpAny_typeOf_ref (k _ _ he3) (by rw [hz3.1]; exact q)
    have LM := PySem.W.exm_one (M := model X.prog X.w) (J3.kIn) LT hb1
    have test : ∀ {Q : Value → Shared → Prop} {E : Value → Shared → Prop}, Q c { s' with heap := h3 } → wpAny (model X.prog X.w) (X.A.mark (some (.ref a))) (eval (.Name x np) X.env) Q E { s' with heap := h3 } := fun {Q E} q => by
      obtain ⟨hg, hdbg, hm | ⟨hm, hv, hnn⟩⟩ := hc
      · exact ld_glob (X := X.suite a ((a, oe3) :: (X.pn ++ pins))) S3 hg hm q hdbg
      · exact ld_blt (X := X.suite a ((a, oe3) :: (X.pn ++ pins))) S3 hg hm hv q hnn hdbg
    refine test (LM.here ?_)
    cases b with
    | true =>
      obtain ⟨Ca, dd, ec, ed, hyes2⟩ := hyes rfl
      refine codeAny_handlers_suite_as ?_
      refine HandSPX.lands_againZ fl3 fun h4 fl4 up4 => ?_
      have J4 : Inv X pins σ' H' { s' with heap := h4 } := J.landed nb fl4.1 ((up.trans up3).trans up4) os ag
      obtain ⟨oe4, vs4, he4, hz4, hd4⟩ := fl4.there
      have S4 := J4.suite he4 hd4 na nL nF
      refine store_ok (X := X.suite a ((a, oe4) :: (X.pn ++ pins))) (v := .ref a) S4 hN hi hloc rfl (fun s5 S5 => ?_) (.inr hln)
      have il : i < σ'.length := by
        rw [J.len]
        exact (List.getElem?_eq_some_iff.mp hi).1
      have pse : PSs (X.suite a ((a, oe4) :: (X.pn ++ pins))) [.Assign [.Name z p1] (.Name n p2) p3] (fun D σ H => tAsg (tVar i) (gName j) D σ H) := pss_one (ps_set (X := X.suite a ((a, oe4) :: (X.pn ++ pins))) hN hj (.inl hlz) (pe_var (i := i) hi (.inl hln) hdn hcn) rfl (.inr hlz))
      refine wpAny_mono (pse.run [] s5 _ H' { nx := fun σ6 H6 => σ6 = (σ'.set i (some (.ref a))).set j (some (.ref a)) ∧ H6 = H', rt := fun _ _ => False } S5 ⟨.ref a, by rw [List.getElem?_set_self il], ⟨rfl, rfl⟩⟩) (fun f s6 hsp => ?_) (fun _ _ z => False.elim z)
      have hfin : (((σ'.set i (some (V.ref a))).set j (some (V.ref a))).set i none) = ((σ'.set j (some (V.ref a))).set i none) := by
        rw [List.set_comm _ _ hij, List.set_set]
      cases f with
      | next =>
        obtain ⟨σ6, H6, S6, e6, e7⟩ := hsp
        subst e6 e7
        have J6 : Inv X pins _ _ s6 := S6.unsuite ok
        have e8 : s6.heap.get? a = some oe4 := (S6.pin (a, oe4) (List.mem_append_left _ (List.mem_cons_self ..))).1
        subst ec ed
        have J7 := J6.track e8 na n0 hz4 hd4 nL nC nP
        refine gone_ok J7 hN hi hln fun s7 J8 => ⟨_, _, J8, ?_⟩
        rw [hfin]
        exact hyes2 a na
      | brk =>
        obtain ⟨σ6, H6, S6, q6⟩ := hsp
        exact q6.elim
      | cont =>
        obtain ⟨σ6, H6, S6, q6⟩ := hsp
        exact q6.elim
      | ret u =>
        obtain ⟨v6, σ6, H6, S6, r6, q6⟩ := hsp
        exact q6.elim
    | false =>
      show wpAny _ X.A (handleBy (.ref a) X.env []) _ _ _
      refine wpAny_handleBy_nil ?_
      obtain ⟨k1, k2, k3, oe, vs, T, oT, ts', he, hz, hd, h1, hr⟩ := id fl3
      unfold PySem.passOn
      refine wpAny_bind (wpAny_field he hd h1 ?_)
      rw [if_neg (show ¬ ((Value.ref T == Value.none) = true) from by simp)]
      have fin : wpAny (model X.prog X.w) X.A (setFlight (.ref a) X.env.frame) (fun _ s4 => wpAny (model X.prog X.w) X.A (throw (.ref a) : Sem Flow) (SP X pins D) X.xe s4) X.xe { s' with heap := h3 } := by
        rw [hf]
        refine HandSPX.setFlight_upZ fl3 fun h4 hh4 up4 => wpAny_throw (tk _ _ ?_)
        exact ⟨a, B, sI, pins, σ', H', cls, d, rfl, J, nb, (up.trans up3).trans up4, .inr (.inr (by rw [hs]; exact hh4)), na, os, ag, hno rfl⟩
      first
        | exact wpAny_bind (wpAny_pure (wpAny_bind fin))
        | exact wpAny_bind fin
  · cases f with
    | next =>
      obtain ⟨σ', H', J', q⟩ := hsp
      exact wpAny_execs_nil ⟨σ', H', J'.ofTry ok, q⟩
    | brk =>
      obtain ⟨σ', H', J', q⟩ := hsp
      exact ⟨σ', H', J'.ofTry ok, q⟩
    | cont =>
      obtain ⟨σ', H', J', q⟩ := hsp
      exact ⟨σ', H', J'.ofTry ok, q⟩
    | ret u =>
      obtain ⟨v, σ', H', J', r, q⟩ := hsp
      exact ⟨v, σ', H', J'.ofTry ok, r, q⟩
theorem RE.gone {K : PySem.W.Frag} {ρ : List Addr} {H : Hp} {e : MEnv} {σ : L2.St} (r : RE K ca ρ H e σ) (i : Nat) : RE K ca ρ H (e.set i Option.none) (σ.set i Option.none) := ⟨by rw [List.length_set, List.length_set]; exact r.len, fun j v q => by
  by_cases hj : i = j
  · subst hj
    by_cases hl : i < e.length
    · rw [List.getElem?_set_self hl] at q
      cases q
    · rw [List.getElem?_eq_none (by rw [List.length_set]; omega)] at q
      cases q
  · rw [List.getElem?_set_ne hj] at q ⊢
    exact r.at_ j v q⟩
theorem g_try (D : XC X C ca fa kk) (G : XG X C ca sc W) (Z : XS X sc) {c y z : Str} {i j : Nat} {d : ClsD} {np pos' p1 p2 p3 : Pos} (hc : lk c C.G.clss = some d) (hg : Gl X c) (hi : X.N[i]? = some y) (hj : X.N[j]? = some z)
    (ly : sc.names.lookup y = some .local) (lz : sc.names.lookup z = some .local) (hyz : y ≠ z)
    (hb : ∀ (W : WX) (pn : List (Addr × Obj)) (xe : Value → Shared → Prop), Takes (X.tr pn xe) W → PassesOwn (model X.prog X.w) X.A X.env xe → PSs (X.tr pn xe) ss (rdS X.K ca fs W)) :
    PS X (.Try ss [.ExceptHandler (some (.Name c np)) (some y) [.Assign [.Name z p1] (.Name y p2) p3] pos'] [] [] pos) (rdS X.K ca (fun e h => tryS C.G c i j (fs e h)) W) := by
  obtain ⟨hmc, hdb⟩ := D.sf.cmg c d hc
  have hly : X.env.kindOf y = some .local := G.sc.loc y ly
  have hlz : X.env.kindOf z = some .local := G.sc.loc z lz
  have d1 : (y == ("__debug__" : Str)) = false := by
    have := G.dbg.1
    simp only [beq_eq_false_iff_ne, ne_eq]
    intro q
    rw [q] at hi
    exact this (List.mem_of_getElem? hi)
  have d2 : (y == ("__classdict__" : Str)) = false := by
    have := G.dbg.2
    simp only [beq_eq_false_iff_ne, ne_eq]
    intro q
    rw [q] at hi
    exact this (List.mem_of_getElem? hi)
  refine ⟨fun pins s σ H D2 I ⟨ρ, h, e, S, re, k⟩ => ?_⟩
  refine (ps_tryV (tb := rdS X.K ca fs) (Wout := W) Z.st Z.fr Z.ex G.nd hi hly hj hlz hyz d1 d2 ⟨hg, by simpa using hdb, .inl hmc⟩ G.tk hb).run pins s σ H D2 I ⟨ρ, h, e, S, re, ?_⟩
  dsimp only at k
  cases hf : fs e h with
  | none => rw [hf] at k; exact k
  | some oo =>
    rw [hf] at k
    cases oo with
    | exc x e1 h1 =>
      intro ρ1 H1 σ1 cls d1 g1 S1 re1 rx
      obtain ⟨c0, v, dd, u, rfl, ec, ed, hd, rv⟩ := rx
      unfold tryS at k
      cases hia : isA C.G (.exc c0 v) c with
      | none =>
        dsimp only at k
        rw [hia] at k
        exact k.elim
      | some b =>
        have hb1 : PySem.W.exmOne X.K (.ref (ca c0)) (.ref (ca c)) = some b := by
          unfold isA at hia
          dsimp only at hia
          split at hia
          · rename_i d0 dc h0 h2
            split at hia
            · rename_i hq
              cases hia
              exact D.sf.exm c0 d0 h0 hq.1 c dc h2 hq.2
            · cases hia
          · cases hia
        dsimp only at k
        rw [hia] at k
        subst ec ed
        refine ⟨b, hb1, fun hbt => ?_, fun hbf => ?_⟩
        · subst hbt
          refine ⟨ca c0, dd, rfl, rfl, fun a ha => ?_⟩
          obtain ⟨S2, g2⟩ := S1.tupd (u := ExV (ca c0) dd a) ha
          refine k ρ1 _ _ (g1.trans g2) S2 ?_
          have hda : dd ≠ a := fun q => by rw [q, ha] at hd; cases hd
          have rx : RV X.K ca ρ1 (upd H1 a (ExV (ca c0) dd a)) (.exc c0 v) (.ref a) := .exc upd_same (by rw [upd_ne hda]; exact hd) (rv.mono S1 g2)
          exact ((re1.mono S1 g2).set j rx).gone i
        · subst hbf
          exact k ρ1 H1 σ1 _ _ g1 S1 re1 ⟨c0, v, dd, u, rfl, rfl, rfl, hd, rv⟩
    | _ => exact k
end
end Sd
end T_Sd21
section T_SdT
set_option linter.all false
set_option maxRecDepth 100000
set_option maxHeartbeats 4000000
/-! SdT: sets of texts. -/
namespace Sd
open PySem PySem.Spec PyProof.Rows L2 Ev
section
variable {P : Program} {w : World} {A : Around} {E : Value → Shared → Prop} {s : Shared} {a : Addr} {D : PySem.Froz.SD} {l : List Str} {k : Str} {u : Tok}
theorem tailTx_ris (ep : Nat) (es1 : Array (Int × Value)) (t2 : SetTable) (wd : Bool) (r : Ris t2.place.toList) : Ris (PySem.Froz.tailTx ep es1 t2 wd).2.2.place.toList := by
  unfold PySem.Froz.tailTx
  split
  · exact relayAll_ris _ _ _
  · exact r
theorem tailTx_led (ep : Nat) (es1 : Array (Int × Value)) (t2 : SetTable) (wd : Bool) : (PySem.Froz.tailTx ep es1 t2 wd).2.2.led = t2.led := by
  unfold PySem.Froz.tailTx
  split
  · exact relayAll_led _ _ _
  · rfl
theorem addTx_ris (h : Int) (v : Value) (D : PySem.Froz.SD) (r : Ris D.2.2.place.toList) : Ris (PySem.Froz.addTx h v D).2.2.place.toList := by
  have r1 := layNew_ris D.2.2 D.1 h v r
  unfold PySem.Froz.addTx
  refine tailTx_ris _ _ _ _ ?_
  split <;> exact r1
theorem addTx_led (h : Int) (v : Value) (D : PySem.Froz.SD) : (PySem.Froz.addTx h v D).2.2.led = D.2.2.led := by
  have r1 := layNew_led D.2.2 D.1 h v
  unfold PySem.Froz.addTx
  rw [tailTx_led]
  split <;> exact r1
/-- a text that the set has -/
theorem old_x {T : String} {Q : Bool → Shared → Prop} (ho : s.heap.get? a = some (PySem.Froz.sObj T D)) (F : PySem.Froz.TxOk P w D l) (hk : k ∈ l) (hb : l.length < scanBound) (h : Q false s) : wpAny (model P w) A (setAddHashed a (.str k u) (hashStr w k)) Q E s := by
  obtain ⟨es, ep, t⟩ := D
  have hd : (PySem.Froz.sObj T (es, ep, t)).data = .set es ep t := rfl
  have hf : t.fits es.size = true := F.fit
  have hel : ElemsOf (strKind P w) es.toList := F.el
  have hsz : es.size = l.length := F.sz
  have hb0 : es.size < scanBound := by omega
  have hkey : (strKind P w).is k (.str k u) = true := PySem.Froz.is_str k u
  unfold setAddHashed setAddHashedIn
  refine wpAny_holding (wpAny_bind (wpAny_setState_of ho hd hf ?_))
  dsimp only
  rw [byScan_of rfl hb0 hel]
  simp only [↓reduceIte]
  unfold setAddByScan
  refine wpAny_bind ?_
  refine wpAny_bind (wpAny_rule ?_)
  refine wpAny_bind (wpAny_setScan_of (knd := strKind P w) (k := k) hkey ho hd hf hel ?_)
  cases hr : List.findIdx? (fun e => (strKind P w).is k e.2) es.toList with
  | some j => exact wpAny_pure (wpAny_pure h)
  | none =>
    obtain ⟨e, he, q⟩ := (F.mem k).mp hk
    have c := List.findIdx?_eq_none_iff.mp hr e he
    rw [q] at c
    cases c
/-- the set of texts at a: l its members, each once -/
def SetT (P : Program) (w : World) (h : Heap) (a : Addr) (l : List Str) : Prop := ∃ D : PySem.Froz.SD, h.get? a = some (PySem.Froz.sObj "set" D) ∧ PySem.Froz.TxOk P w D l ∧ Ris D.2.2.place.toList ∧ (w.params.followText "set-order" = true ∨ D.2.2.led = true)
theorem SetT.at {h h' : Heap} (R : SetT P w h a l) (k : ∀ o, h.get? a = some o → h'.get? a = some o) : SetT P w h' a l := by
  obtain ⟨D, ho, r⟩ := R
  exact ⟨D, k _ ho, r⟩
/-- behind an add -/
def addL (k : Str) (l : List Str) : List Str := if k ∈ l then l else k :: l
theorem setT_add {Q : Bool → Shared → Prop} (R : SetT P w s.heap a l) (hb : l.length + 1 < scanBound) (h : ∀ b h', Heap.SameBut a s.heap h' → SetT P w h' a (addL k l) → Q b { s with heap := h' }) :
    wpAny (model P w) A (setAddHashed a (.str k u) (hashStr w k)) Q E s := by
  obtain ⟨D, ho, F, r, hl⟩ := R
  by_cases hk : k ∈ l
  · refine old_x ho F hk (by omega) (h false s.heap (Heap.SameBut.refl a s.heap) ?_)
    unfold addL
    rw [if_pos hk]
    exact ⟨D, ho, F, r, hl⟩
  · refine PySem.Froz.add_x ho F hk hb (h true _ (Heap.SameBut.update s.heap a _) ?_)
    unfold addL
    rw [if_neg hk]
    exact ⟨_, PySem.Froz.get_upd _ ho rfl, PySem.Froz.add_ok u F, addTx_ris _ _ _ r, hl.imp id fun z => by rw [addTx_led]; exact z⟩
/-- what is seen, each once -/
def seenL (ns : List Str) : List Str := ns.foldl (fun l k => addL k l) []
theorem seen_step {ns : List Str} {i : Nat} {k : Str} (h : ns[i]? = some k) : seenL (ns.take (i + 1)) = addL k (seenL (ns.take i)) := by
  unfold seenL
  rw [List.take_add_one, h]
  simp [List.foldl_append]
theorem addL_len (k : Str) (l : List Str) : (addL k l).length ≤ l.length + 1 := by
  unfold addL
  split
  · exact Nat.le_succ _
  · exact Nat.le_refl _
theorem setT_new {h : Heap} {a : Addr} (ho : h.get? a = some { cls := .type "set", dict := none, data := .set #[] 0 (.fresh 0 0 (!w.params.followText "set-order")) }) : SetT P w h a [] := by
  refine ⟨(#[], 0, .fresh 0 0 (!w.params.followText "set-order")), ho, .nil ?_, ?_, ?_⟩
  · cases w.params.followText "set-order" <;> rfl
  · cases w.params.followText "set-order" <;> exact List.Pairwise.nil
  · cases w.params.followText "set-order"
    · exact .inr rfl
    · exact .inl rfl
theorem set_update_strs {I : Addr} {fp wr : List Addr} {G : Array GenState → Array GenState → Prop} {n : Nat} {Pv : Nat → Value → Prop} {St : Nat → Shared → Prop} {R : Result → Shared → Prop}
    (W : WalksS P w A.in1 I fp wr G n Pv St) (S : Addr) (hSf : S ∉ fp) (ns : List Str) (hn : n = ns.length) (hb : ns.length + 1 < scanBound) (hval : ∀ i v, Pv i v → ∃ k t, ns[i]? = some k ∧ v = .str k t) :
    ∀ (k i : Nat) (s : Shared), n - i = k → i ≤ n → St i s → SetT P w s.heap S (seenL (ns.take i)) → (seenL (ns.take i)).length ≤ i →
      (∀ s', Moved (S :: wr) G s s' → SetT P w s'.heap S (seenL ns) → R (.ok (.ret .none)) s') →
      codeAny (model P w) A (.builtin "set.update.loop" ⟨[.ref S, .ref I], []⟩) R s := by
  have hSw : S ∉ wr := fun h => hSf (W.sub _ h)
  have hsub : ∀ b ∈ wr, b ∈ S :: wr := fun b hb => List.mem_cons_of_mem _ hb
  intro k
  induction k with
  | zero =>
    intro i s hk' hi hst hS _ hR
    have hin : i = n := by omega
    subst hin
    refine codeAny_builtin F.entry_set_update_loop ?_
    rw [Around.under_plainId F.plain_set_update_loop _]
    show wpAny _ A.in1 (pyNext (.ref I) >>= _) _ _ s
    refine wpAny_bind (W.done s _ _ hst fun s' hm => ?_)
    show wpAny _ A.in1 (ret Value.none) _ _ s'
    rw [List.take_of_length_le (by omega)] at hS
    exact wpAny_pure (hR s' (hm.mono hsub) (hS.at fun o e => hm.heap S o hSw e))
  | succ k ih =>
    intro i s hk' hi hst hS hc hR
    have hlt : i < n := by omega
    refine codeAny_builtin F.entry_set_update_loop ?_
    rw [Around.under_plainId F.plain_set_update_loop _]
    show wpAny _ A.in1 (pyNext (.ref I) >>= _) _ _ s
    refine wpAny_bind (W.item i s _ _ hlt hst fun v s' hP hst' hm => ?_)
    obtain ⟨z, t, hz, rfl⟩ := hval i v hP
    have hS' := hS.at (h' := s'.heap) fun o e => hm.heap S o hSw e
    show wpAny _ A.in1 (holding [Value.str z t] (setAdd S (.str z t)) >>= _) _ _ s'
    refine wpAny_bind (wpAny_holding ?_)
    unfold setAdd
    refine wpAny_holding ?_
    refine wpAny_bind ((strKind P w).pyHash (k := z) (PySem.Froz.is_str z t) ?_)
    refine setT_add (s := { s' with toks := s'.toks + 1 }) hS' (by omega) fun b h' hsb hS2 => ?_
    rw [← seen_step hz] at hS2
    have hc2 : (seenL (ns.take (i + 1))).length ≤ i + 1 := by
      rw [seen_step hz]
      have := addL_len z (seenL (ns.take i))
      omega
    refine wpAny_pure ⟨plainId_quiet F.plain_set_update_loop _, ih (i + 1) _ (by omega) hlt (W.frame _ s' _ _ hst' (Nat.le_succ _) fun b hb o e => ?_) hS2 hc2 fun s'' hm'' hS'' => ?_⟩
    · rw [hsb.2 b (fun h : b = S => hSf (by rw [← h]; exact hb))]; exact e
    · refine hR s'' (Moved.trans W.gtrans ((hm.mono hsub).then_heap (Nat.le_succ _) fun b o hb e => ?_) hm'') hS''
      rw [hsb.2 b (fun h : b = S => hb (by rw [h]; exact List.mem_cons_self))]; exact e
end
end Sd
end T_SdT
section T_SdU
set_option linter.all false
set_option maxRecDepth 100000
set_option maxHeartbeats 6400000
/-! SdU: set(a tuple, a list of texts) (HandS's call_set_tupI turned to texts). -/
namespace Sd
open PySem PySem.Spec PyProof.Rows L2 Ev
section
variable {P : Program} {w : World} {A : Around} {E : Value → Shared → Prop} {s : Shared}
theorem call_set_tupT {l : Addr} {items : Array Value} (ns : List Str) {Q : Value → Shared → Prop} (hh : A.handled = none) (hl : s.heap.IsTuple l items) (hit : StrsAre items.toList ns) (hb : ns.length + 1 < scanBound)
    (h : ∀ (h' : Heap) (tk : Nat), SetT P w h' s.heap.objs.size (seenL ns) → (∀ b o, s.heap.get? b = some o → h'.get? b = some o) → Q (.ref s.heap.objs.size) { s with heap := h', toks := tk }) :
    wpAny (model P w) A (call (.type "set") [.ref l]) Q E s := by
  have hisz : items.size = ns.length := by
    have q := StrsAre.length hit
    rw [Array.length_toList] at q
    exact q
  obtain ⟨c, tl, hmro⟩ := F.called_set.mro
  have hmade := F.called_set.made
  have hsub := F.called_set.sub
  refine wpAny_call (codeAny_of_tree ?_)
  show wpAny _ _ (callAny (.type "set") _) _ _ _
  refine wpAny_pure ⟨Code.quiet_builtin _ (by decide +kernel), codeAny_builtin F.entry_type_call ?_⟩
  rw [Around.under_plain (weight_type_call_type "set" [.ref l] []) rfl]
  have h1 := F.called_set.notType
  have h2 := F.called_set.canCreate
  have hct := F.typeCall_set_1 (.ref l)
  repeat (any_goals (first | assumption | wp_step))
  refine codeAny_mono (code_set_led1 (.ref l) (E := E) (Q₁ := fun obj s₁ => obj = .ref s.heap.objs.size ∧ s₁ = { s with heap := s.heap.push { cls := .type "set", dict := none, data := .set #[] 0 (.fresh 0 0 (!w.params.followText "set-order")) } }) ⟨rfl, rfl⟩) fun r s₁ hr => ?_
  cases r with
  | error e => exact hr
  | ok fl =>
    cases fl with
    | ret obj =>
      obtain ⟨rfl, rfl⟩ := hr
      have hS : (s.heap.push { cls := .type "set", dict := none, data := .set #[] 0 (.fresh 0 0 (!w.params.followText "set-order")) }).get? s.heap.objs.size = some { cls := .type "set", dict := none, data := .set #[] 0 (.fresh 0 0 (!w.params.followText "set-order")) } := Heap.get?_push_size _ rfl
      have hT : Shared.TypeIs { s with heap := s.heap.push { cls := .type "set", dict := none, data := .set #[] 0 (.fresh 0 0 (!w.params.followText "set-order")) } } (.ref s.heap.objs.size) "set" := ⟨_, hS, rfl⟩
      have hli := F.called_set.init.lookup
      have hbi := F.called_set.init.bind (.ref s.heap.objs.size)
      repeat (any_goals (first | assumption | wp_step))
      refine codeAny_mono (codeAny_call_builtin (R := wants (fun r s₂ => r = .none ∧ ∃ h' tk, s₂ = { s with heap := h', toks := tk } ∧ SetT P w h' s.heap.objs.size (seenL ns) ∧
          (∀ b o, s.heap.get? b = some o → h'.get? b = some o)) E) F.called_set.init.plain F.entry_set_init (check_set_init_1 hT ?_)) fun r₂ s₂ hr₂ => ?_
      · obtain ⟨ol, hol, hcl, nl, hdl⟩ := hl
        obtain ⟨ocls, odict, odata, oslots⟩ := ol
        simp only at hcl hdl
        subst hcl; subst hdl
        have hol' : (s.heap.push { cls := .type "set", dict := none, data := .set #[] 0 (.fresh 0 0 (!w.params.followText "set-order")) }).get? l = some { cls := .type "tuple", dict := odict, data := .seq items nl, slots := oslots } := Heap.get?_push_of_some _ hol
        have hsls := F.sub_tuple_set
        have hslf := F.sub_tuple_frozenset
        have hne : (Value.type "tuple" == Value.type "dict") = false := by decide
        have hl1 : (s.heap.push { cls := .type "set", dict := none, data := .set #[] 0 (.fresh 0 0 (!w.params.followText "set-order")) }).IsTuple l items := ⟨_, hol', rfl, nl, rfl⟩
        unfold Builtin.«set.__init__» noKeywords Builtin.Frozenset.updateFrom
        generalize hPI : pyIter = PI
        wp_walk
        subst hPI
        refine wpAny_pyIter_tuple hl1 ?_
        refine wpAny_bind (wpAny_runValue ?_)
        have hlS : l < s.heap.objs.size := Heap.lt_size hol
        have hh3 : A.in1.in1.in1.handled = none := by simp [hh]
        have hz1 : (s.heap.push { cls := .type "set", dict := none, data := .set #[] 0 (.fresh 0 0 (!w.params.followText "set-order")) }).objs.size = s.heap.objs.size + 1 := Heap.size_push ..
        have hneI : l ≠ (s.heap.push { cls := .type "set", dict := none, data := .set #[] 0 (.fresh 0 0 (!w.params.followText "set-order")) }).objs.size := by
          rw [Heap.size_push]; exact Nat.ne_of_lt (Nat.lt_succ_of_lt hlS)
        have hSf : s.heap.objs.size ∉ [(s.heap.push { cls := .type "set", dict := none, data := .set #[] 0 (.fresh 0 0 (!w.params.followText "set-order")) }).objs.size, l] := by
          rw [Heap.size_push]; simp only [List.mem_cons, List.mem_singleton, List.not_mem_nil, or_false, not_or]
          exact ⟨Nat.ne_of_lt (Nat.lt_succ_self _), Nat.ne_of_gt hlS⟩
        have hval : ∀ (i : Nat) (v : Value), items[i]? = some v → ∃ k t, ns[i]? = some k ∧ v = .str k t := fun i v hv => by
          obtain ⟨y, t, e1, e2⟩ := StrsAre.item hit i v (by rw [Array.getElem?_toList]; exact hv)
          exact ⟨y, t, e2, e1⟩
        refine set_update_strs ((Walks.tuple hh3 _ l hneI items).toS) s.heap.objs.size
          hSf ns hisz hb hval (items.size - 0) 0 _ (by omega) (Nat.zero_le _)
          ⟨⟨_, Heap.get?_push_size _ rfl, rfl, rfl⟩, (hl1.push _)⟩ ?hS0 (Nat.le_refl 0) ?hR
        case hS0 =>
          have hget : ((s.heap.push { cls := .type "set", dict := none, data := .set #[] 0 (.fresh 0 0 (!w.params.followText "set-order")) }).push { cls := .type "tuple_iterator", data := .fields #[.ref l, .int 0 0] }).get? s.heap.objs.size
              = some { cls := .type "set", dict := none, data := .set #[] 0 (.fresh 0 0 (!w.params.followText "set-order")) } := Heap.get?_push_of_some _ hS
          exact setT_new hget
        case hR =>
          intro s' hm hS'
          obtain ⟨h', g2, d', tk', os'⟩ := s'
          have eg : g2 = s.gens := hm.gens
          have ed : d' = s.drawn := hm.drawn
          have eo : os' = s.os := hm.os
          subst eg; subst ed; subst eo
          show wpAny _ _ _ _ _ _
          refine wpAny_pure ?_
          show wpAny _ _ (ret Value.none) _ _ _
          refine wpAny_pure ⟨rfl, h', tk', rfl, hS', fun b o e => ?_⟩
          have hb0 : b < s.heap.objs.size := Heap.lt_size e
          have hb1 : b ≠ s.heap.objs.size := Nat.ne_of_lt hb0
          have hb2 : b ≠ (s.heap.push { cls := .type "set", dict := none, data := .set #[] 0 (.fresh 0 0 (!w.params.followText "set-order")) }).objs.size := by
            rw [Heap.size_push]; exact Nat.ne_of_lt (Nat.lt_succ_of_lt hb0)
          exact hm.heap b o (by simp only [List.mem_cons, List.mem_singleton, List.not_mem_nil, or_false, not_or]; exact ⟨hb1, hb2⟩) (Heap.get?_push_of_some _ (Heap.get?_push_of_some _ e))
      · cases r₂ with
        | error e => exact hr₂
        | ok fl₂ =>
          cases fl₂ with
          | ret r =>
            obtain ⟨rfl, h', tk, rfl, hS', hk'⟩ := hr₂
            repeat (any_goals (first | assumption | wp_step))
            exact h _ _ hS' hk'
          | _ => exact hr₂.elim
    | _ => exact hr.elim
theorem call_set_lstT {l : Addr} {items : Array Value} (ns : List Str) {Q : Value → Shared → Prop} (hh : A.handled = none) (hl : s.heap.IsList l items) (hit : StrsAre items.toList ns) (hb : ns.length + 1 < scanBound)
    (h : ∀ (h' : Heap) (tk : Nat), SetT P w h' s.heap.objs.size (seenL ns) → (∀ b o, s.heap.get? b = some o → h'.get? b = some o) → Q (.ref s.heap.objs.size) { s with heap := h', toks := tk }) :
    wpAny (model P w) A (call (.type "set") [.ref l]) Q E s := by
  have hisz : items.size = ns.length := by
    have q := StrsAre.length hit
    rw [Array.length_toList] at q
    exact q
  obtain ⟨c, tl, hmro⟩ := F.called_set.mro
  have hmade := F.called_set.made
  have hsub := F.called_set.sub
  refine wpAny_call (codeAny_of_tree ?_)
  show wpAny _ _ (callAny (.type "set") _) _ _ _
  refine wpAny_pure ⟨Code.quiet_builtin _ (by decide +kernel), codeAny_builtin F.entry_type_call ?_⟩
  rw [Around.under_plain (weight_type_call_type "set" [.ref l] []) rfl]
  have h1 := F.called_set.notType
  have h2 := F.called_set.canCreate
  have hct := F.typeCall_set_1 (.ref l)
  repeat (any_goals (first | assumption | wp_step))
  refine codeAny_mono (code_set_led1 (.ref l) (E := E) (Q₁ := fun obj s₁ => obj = .ref s.heap.objs.size ∧ s₁ = { s with heap := s.heap.push { cls := .type "set", dict := none, data := .set #[] 0 (.fresh 0 0 (!w.params.followText "set-order")) } }) ⟨rfl, rfl⟩) fun r s₁ hr => ?_
  cases r with
  | error e => exact hr
  | ok fl =>
    cases fl with
    | ret obj =>
      obtain ⟨rfl, rfl⟩ := hr
      have hS : (s.heap.push { cls := .type "set", dict := none, data := .set #[] 0 (.fresh 0 0 (!w.params.followText "set-order")) }).get? s.heap.objs.size = some { cls := .type "set", dict := none, data := .set #[] 0 (.fresh 0 0 (!w.params.followText "set-order")) } := Heap.get?_push_size _ rfl
      have hT : Shared.TypeIs { s with heap := s.heap.push { cls := .type "set", dict := none, data := .set #[] 0 (.fresh 0 0 (!w.params.followText "set-order")) } } (.ref s.heap.objs.size) "set" := ⟨_, hS, rfl⟩
      have hli := F.called_set.init.lookup
      have hbi := F.called_set.init.bind (.ref s.heap.objs.size)
      repeat (any_goals (first | assumption | wp_step))
      refine codeAny_mono (codeAny_call_builtin (R := wants (fun r s₂ => r = .none ∧ ∃ h' tk, s₂ = { s with heap := h', toks := tk } ∧ SetT P w h' s.heap.objs.size (seenL ns) ∧
          (∀ b o, s.heap.get? b = some o → h'.get? b = some o)) E) F.called_set.init.plain F.entry_set_init (check_set_init_1 hT ?_)) fun r₂ s₂ hr₂ => ?_
      · obtain ⟨ol, hol, hcl, nl, hdl⟩ := hl
        obtain ⟨ocls, odict, odata, oslots⟩ := ol
        simp only at hcl hdl
        subst hcl; subst hdl
        have hol' : (s.heap.push { cls := .type "set", dict := none, data := .set #[] 0 (.fresh 0 0 (!w.params.followText "set-order")) }).get? l = some { cls := .type "list", dict := odict, data := .seq items nl, slots := oslots } := Heap.get?_push_of_some _ hol
        have hsls := F.sub_list_set
        have hslf := F.sub_list_frozenset
        have hne : (Value.type "list" == Value.type "dict") = false := by decide
        have hl1 : (s.heap.push { cls := .type "set", dict := none, data := .set #[] 0 (.fresh 0 0 (!w.params.followText "set-order")) }).IsList l items := ⟨_, hol', rfl, nl, rfl⟩
        unfold Builtin.«set.__init__» noKeywords Builtin.Frozenset.updateFrom
        generalize hPI : pyIter = PI
        wp_walk
        subst hPI
        refine wpAny_pyIter_list hl1 ?_
        refine wpAny_bind (wpAny_runValue ?_)
        have hlS : l < s.heap.objs.size := Heap.lt_size hol
        have hh3 : A.in1.in1.in1.handled = none := by simp [hh]
        have hz1 : (s.heap.push { cls := .type "set", dict := none, data := .set #[] 0 (.fresh 0 0 (!w.params.followText "set-order")) }).objs.size = s.heap.objs.size + 1 := Heap.size_push ..
        have hneI : l ≠ (s.heap.push { cls := .type "set", dict := none, data := .set #[] 0 (.fresh 0 0 (!w.params.followText "set-order")) }).objs.size := by
          rw [Heap.size_push]; exact Nat.ne_of_lt (Nat.lt_succ_of_lt hlS)
        have hSf : s.heap.objs.size ∉ [(s.heap.push { cls := .type "set", dict := none, data := .set #[] 0 (.fresh 0 0 (!w.params.followText "set-order")) }).objs.size, l] := by
          rw [Heap.size_push]; simp only [List.mem_cons, List.mem_singleton, List.not_mem_nil, or_false, not_or]
          exact ⟨Nat.ne_of_lt (Nat.lt_succ_self _), Nat.ne_of_gt hlS⟩
        have hval : ∀ (i : Nat) (v : Value), items[i]? = some v → ∃ k t, ns[i]? = some k ∧ v = .str k t := fun i v hv => by
          obtain ⟨y, t, e1, e2⟩ := StrsAre.item hit i v (by rw [Array.getElem?_toList]; exact hv)
          exact ⟨y, t, e2, e1⟩
        refine set_update_strs ((Walks.list hh3 _ l hneI items).toS) s.heap.objs.size
          hSf ns hisz hb hval (items.size - 0) 0 _ (by omega) (Nat.zero_le _)
          ⟨⟨_, Heap.get?_push_size _ rfl, rfl, rfl⟩, (hl1.push _)⟩ ?hS0 (Nat.le_refl 0) ?hR
        case hS0 =>
          have hget : ((s.heap.push { cls := .type "set", dict := none, data := .set #[] 0 (.fresh 0 0 (!w.params.followText "set-order")) }).push { cls := .type "list_iterator", data := .fields #[.ref l, .int 0 0] }).get? s.heap.objs.size
              = some { cls := .type "set", dict := none, data := .set #[] 0 (.fresh 0 0 (!w.params.followText "set-order")) } := Heap.get?_push_of_some _ hS
          exact setT_new hget
        case hR =>
          intro s' hm hS'
          obtain ⟨h', g2, d', tk', os'⟩ := s'
          have eg : g2 = s.gens := hm.gens
          have ed : d' = s.drawn := hm.drawn
          have eo : os' = s.os := hm.os
          subst eg; subst ed; subst eo
          show wpAny _ _ _ _ _ _
          refine wpAny_pure ?_
          show wpAny _ _ (ret Value.none) _ _ _
          refine wpAny_pure ⟨rfl, h', tk', rfl, hS', fun b o e => ?_⟩
          have hb0 : b < s.heap.objs.size := Heap.lt_size e
          have hb1 : b ≠ s.heap.objs.size := Nat.ne_of_lt hb0
          have hb2 : b ≠ (s.heap.push { cls := .type "set", dict := none, data := .set #[] 0 (.fresh 0 0 (!w.params.followText "set-order")) }).objs.size := by
            rw [Heap.size_push]; exact Nat.ne_of_lt (Nat.lt_succ_of_lt hb0)
          exact hm.heap b o (by simp only [List.mem_cons, List.mem_singleton, List.not_mem_nil, or_false, not_or]; exact ⟨hb1, hb2⟩) (Heap.get?_push_of_some _ (Heap.get?_push_of_some _ e))
      · cases r₂ with
        | error e => exact hr₂
        | ok fl₂ =>
          cases fl₂ with
          | ret r =>
            obtain ⟨rfl, h', tk, rfl, hS', hk'⟩ := hr₂
            repeat (any_goals (first | assumption | wp_step))
            exact h _ _ hS' hk'
          | _ => exact hr₂.elim
    | _ => exact hr.elim
end
end Sd
end T_SdU
section T_SdV
set_option linter.all false
set_option maxRecDepth 100000
set_option maxHeartbeats 4000000
/-! SdV: sorted(a set of texts). -/
namespace Sd
open PySem PySem.Spec PyProof.Rows L2 Ev
/-- as many, and all of them: the same, in some order -/
theorem perm_of_sub {α : Type} [DecidableEq α] : ∀ {l m : List α}, l.Nodup → (∀ x ∈ l, x ∈ m) → m.length = l.length → m.Perm l
  | [], m, _, _, hl => by
    cases m with
    | nil => exact .nil
    | cons _ _ => cases hl
  | x :: l, m, nd, hs, hl => by
    obtain ⟨n1, n2⟩ := List.nodup_cons.mp nd
    have hx : x ∈ m := hs x (List.mem_cons_self ..)
    have p1 : m.Perm (x :: m.erase x) := List.perm_cons_erase hx
    refine p1.trans (List.Perm.cons x (perm_of_sub n2 (fun y hy => ?_) ?_))
    · have hne : y ≠ x := fun z => n1 (z ▸ hy)
      exact (List.mem_erase_of_ne hne).mpr (hs y (List.mem_cons_of_mem _ hy))
    · have := p1.length_eq
      rw [List.length_cons] at this
      rw [List.length_cons] at hl
      omega
theorem addL_nodup {k : Str} {l : List Str} (h : l.Nodup) : (addL k l).Nodup := by
  unfold addL
  split
  · exact h
  · exact List.nodup_cons.mpr ⟨by assumption, h⟩
theorem seenL_nodup (ns : List Str) : (seenL ns).Nodup := by
  have : ∀ (ns : List Str) (l : List Str), l.Nodup → (ns.foldl (fun l k => addL k l) l).Nodup := by
    intro ns
    induction ns with
    | nil => exact fun l h => h
    | cons k ns ih => exact fun l h => ih _ (addL_nodup h)
  exact this ns [] List.nodup_nil
/-- a value's text -/
def txtOf : Value → Str
  | .str x _ => x
  | _ => ⟨#[]⟩
theorem strs_of : ∀ (l : List Value), (∀ v ∈ l, ∃ k tk, v = Value.str k tk) → StrsAre l (l.map txtOf)
  | [], _ => .nil
  | v :: l, h => by
    obtain ⟨k, tk, rfl⟩ := h v List.mem_cons_self
    exact .cons k tk (strs_of l fun u hu => h u (List.mem_cons_of_mem _ hu))
section
variable {P : Program} {w : World} {A : Around} {E : Value → Shared → Prop} {s : Shared} {a : Addr} {l : List Str}
theorem sorted_setT {Q : Value → Shared → Prop} (R : SetT P w s.heap a l) (nd : l.Nodup) (hh : A.handled = none) (h64 : l.length < 64)
    (hQ : ∀ s' p (out : Array Value) (c : Nat) (ns : List Str), (∀ b o, s.heap.get? b = some o → s'.heap.get? b = some o) → s'.gens = s.gens → s'.os = s.os → s.heap.objs.size ≤ p →
      s'.heap.get? p = some (seqObj "list" out c) → StrsAre out.toList ns → ns.Perm l → sortedS ns = true → Q (.ref p) s') :
    wpAny (model P w) A (call (.builtin "sorted") [.ref a]) Q E s := by
  obtain ⟨⟨es, ep, t⟩, ho, F, hr, hl⟩ := R
  have hsz : es.size = l.length := F.sz
  have hb : es.size < scanBound := by
    have : (64 : Nat) ≤ scanBound := by decide
    omega
  have hstr : ∀ e ∈ es.toList, ∃ k tk, e.2 = Value.str k tk := fun e he => by
    obtain ⟨⟨k, hk, _⟩, _⟩ := F.el e he
    obtain ⟨tk, hk⟩ := Value.isStrOf_shape hk
    exact ⟨k, tk, hk⟩
  refine Calls.call_function_entry kind_sorted plain_sorted entry_sorted (args_sorted1 _) ?_
  unfold Builtin.«sorted»
  refine wpAny_bind (m := checkCount "sorted" 1 1 _) (wpAny_pure ?_)
  refine wpAny_bind (collect_set (A := A.in1) hh ⟨_, ho, rfl, rfl⟩ F.fit hb hr hl fun s1 vs k1 hz g1 o1 pm => ?_)
  have hvl : vs.length = l.length := by rw [pm.length_eq, List.length_map, Array.length_toList]; exact hsz
  have hI : StrsAre vs (vs.map txtOf) := strs_of vs fun v hv => by
    obtain ⟨e, he, q⟩ := List.mem_map.mp (pm.mem_iff.mp hv)
    obtain ⟨k, tk, h1⟩ := hstr e he
    exact ⟨k, tk, by rw [← q]; exact h1⟩
  have pk : (vs.map txtOf).Perm l := perm_of_sub nd (fun k hk => by
    obtain ⟨e, he, q⟩ := (F.mem k).mp hk
    obtain ⟨tk, q⟩ := Value.isStrOf_shape q
    exact List.mem_map.mpr ⟨e.2, pm.mem_iff.mpr (List.mem_map.mpr ⟨e, he, rfl⟩), by rw [q] <;> rfl⟩) (by rw [List.length_map, hvl])
  refine wpAny_bind (wpAny_newList ?_ (by rw [hvl, sizeLine_eq]; omega))
  have hoL : (s1.heap.push (seqObj "list" vs.toArray 0)).get? s1.heap.objs.size = some (seqObj "list" vs.toArray 0) := Heap.get?_push_size _ rfl
  refine wpAny_bind (wpAny_holding (wpAny_call_entry slot_list_sort ⟨_, hoL, rfl⟩ entry_list_sort (list_sort_treeK strKind_oneLt hoL hI.keysOf (fun v₁ v₂ rest e => keyKind_strs (by rw [← e]; exact hI)) (by rw [hvl]; exact h64) fun st' hp hs => ⟨_, rfl, ?_⟩) (args_list_sort _)))
  obtain ⟨ns', a1, a2, a3⟩ := sorted_out_str hI hp hs
  obtain ⟨c, hc⟩ := sortedHeap_at (vs := vs) (out := (arrOf st').map (·.2)) hoL
  refine wpAny_pure ⟨_, rfl, hQ _ s1.heap.objs.size _ c ns' (fun b u e => ?_) g1 o1 hz hc a1 (a2.trans pk) a3⟩
  have q := k1 b u e
  have hlt := Heap.lt_size q
  show (sortedHeap (s1.heap.push (seqObj "list" vs.toArray 0)) s1.heap.objs.size vs _).get? b = some u
  rw [sortedHeap_old (Nat.ne_of_lt hlt) (by rw [size_push']; exact Nat.lt_succ_of_lt hlt)]
  exact Heap.get?_push_of_some _ q
end
end Sd
end T_SdV
section T_SdW
set_option linter.all false
set_option maxRecDepth 100000
set_option maxHeartbeats 4000000
/-! SdW: sets of texts as tracked things; sortSet. -/
namespace Sd
open PySem PySem.Spec PyProof.Rows L2 Ev
/-- the set of texts at a -/
def SetTO (P : Program) (w : World) (a : Addr) (l : List Str) : HO := .ext fun h => SetT P w h a l
theorem setTO_new {P : Program} {w : World} {H : Hp} {h : Heap} {a : Addr} {l : List Str} (R : SetT P w h a l) : ObjOk P w H h a (SetTO P w a l) := by
  have ⟨D, ho, _⟩ := R
  exact ⟨R, ⟨_, ho⟩, fun h1 h2 p k => SetT.at p k⟩
section
variable {X : Cx}
def rSetT (K : PySem.W.Frag) (P : Program) (w : World) : List V → Hp → VK → Prop := fun xs H Q => ∃ (a : Addr) (ns : List Str), xs = [.ref a] ∧ (SqL K H a (ns.map V.str) ∨ SqT K H a (ns.map V.str)) ∧ ns.length < 64 ∧
  ∀ p, H p = none → Q (.ref p) (upd H p (SetTO P w p (seenL ns)))
theorem cr_setT (hc : X.calm = true) : CallR X (.type "set") (rSetT X.K X.prog X.w) := by
  intro pins s σ H xs us Q I r h
  obtain ⟨a, ns, rfl, hs, h64, q⟩ := h
  rw [Vals.ref1 r]
  have hb : ns.length + 1 < scanBound := by
    have : (65 : Nat) ≤ scanBound := by decide
    omega
  rcases hs with hs | hs
  · obtain ⟨its, rv, hl, _⟩ := I.list hs
    refine call_set_lstT ns (I.ok.hd hc) hl.isList (by simpa using rv.strs) hb fun h' tk R k => ?_
    exact ⟨.ref s.heap.objs.size, upd H s.heap.objs.size (SetTO X.prog X.w s.heap.objs.size (seenL ns)), I.laid (t' := tk) k (Nat.le_refl _) (setTO_new R), rfl, q _ (I.hok.fresh (Nat.le_refl _))⟩
  · obtain ⟨its, rv, hl, _⟩ := I.tuple hs
    refine call_set_tupT ns (I.ok.hd hc) (show s.heap.IsTuple a its.toArray from hl) (by simpa using rv.strs) hb fun h' tk R k => ?_
    exact ⟨.ref s.heap.objs.size, upd H s.heap.objs.size (SetTO X.prog X.w s.heap.objs.size (seenL ns)), I.laid (t' := tk) k (Nat.le_refl _) (setTO_new R), rfl, q _ (I.hok.fresh (Nat.le_refl _))⟩
def rSortedT (P : Program) (w : World) : List V → Hp → VK → Prop := fun xs H Q => ∃ (a : Addr) (l : List Str), xs = [.ref a] ∧ H a = some (SetTO P w a l) ∧ l.Nodup ∧ l.length < 64 ∧
  ∀ ys p, ys.Perm l → sortedS ys = true → H p = none → Q (.ref p) (upd H p (.lst (ys.map V.str)))
theorem cr_sortedT (hc : X.calm = true) : CallR X (.builtin "sorted") (rSortedT X.prog X.w) := by
  intro pins s σ H xs us Q I r h
  obtain ⟨a, l, rfl, ha, nd, h64, q⟩ := h
  rw [Vals.ref1 r]
  have R : SetT X.prog X.w s.heap a l := (I.hok a _ ha).1
  refine sorted_setT R nd (I.ok.hd hc) h64 fun s' p out c ns k hg ho hp hat hi pm hs => ?_
  have hn : H p = none := I.hok.fresh hp
  have hlen : (ns.map V.str).length ≤ sizeLine := by rw [List.length_map, pm.length_eq]; exact small64 h64
  have new : ObjOk X.prog X.w (upd H p (.lst (ns.map V.str))) s'.heap p (.lst (ns.map V.str)) := ⟨hlen, out.toList, c, vals_of_strs hi, by rw [Array.toArray_toList]; exact hat⟩
  exact ⟨.ref p, upd H p (.lst (ns.map V.str)), I.call' (ch := []) ho (Un.laid k hp hn) (I.hok.laid k hp new) (by rw [hg]; exact I.bare) (fun _ z => nomatch z), rfl, q ns p pm hs hn⟩
end
/-! ### sortSet -/
theorem insS_mem {x y : Str} : ∀ {l : List Str}, y ∈ insS x l ↔ y = x ∨ y ∈ l
  | [] => by simp [insS]
  | z :: r => by
    unfold insS
    split
    · rename_i h
      subst h
      simp
    · split
      · simp
      · rw [List.mem_cons, insS_mem (l := r), List.mem_cons]
        constructor
        · rintro (h | h | h)
          · exact .inr (.inl h)
          · exact .inl h
          · exact .inr (.inr h)
        · rintro (h | h | h)
          · exact .inr (.inl h)
          · exact .inl h
          · exact .inr (.inr h)
theorem insS_sorted (x : Str) : ∀ {l : List Str}, l.Pairwise leS → (insS x l).Pairwise leS
  | [], _ => by simp [insS]
  | y :: r, h => by
    obtain ⟨h1, h2⟩ := List.pairwise_cons.mp h
    unfold insS
    split
    · exact h
    · split
      · rename_i hlt
        refine List.pairwise_cons.mpr ⟨fun z hz => ?_, h⟩
        rcases List.mem_cons.mp hz with e | hz
        · subst e
          exact fun q => List.lt_irrefl _ (List.lt_trans hlt q)
        · exact fun q => h1 z hz (List.lt_trans q hlt)
      · rename_i hne hlt
        refine List.pairwise_cons.mpr ⟨fun z hz => ?_, insS_sorted x h2⟩
        rcases insS_mem.mp hz with e | hz
        · subst e
          exact hlt
        · exact h1 z hz
/-- in a sorted list with x: x stays once -/
theorem insS_perm {x : Str} : ∀ {l : List Str}, l.Pairwise leS → (insS x l).Perm (addL x l)
  | [], _ => by simp [insS, addL]
  | y :: r, h => by
    obtain ⟨h1, h2⟩ := List.pairwise_cons.mp h
    unfold insS
    split
    · rename_i e
      subst e
      unfold addL
      rw [if_pos List.mem_cons_self]
    · rename_i hne
      split
      · rename_i hlt
        have hni : x ∉ y :: r := fun hm => by
          rcases List.mem_cons.mp hm with e | hm
          · exact hne e
          · exact h1 x hm hlt
        unfold addL
        rw [if_neg hni]
      · have ih := insS_perm (x := x) h2
        refine (ih.cons y).trans ?_
        unfold addL
        by_cases hm : x ∈ r
        · rw [if_pos hm, if_pos (List.mem_cons_of_mem _ hm)]
        · rw [if_neg hm, if_neg (fun z => by
            rcases List.mem_cons.mp z with e | z
            · exact hne e
            · exact hm z)]
          exact List.Perm.swap x y r
theorem addL_perm {x : Str} {l m : List Str} (p : l.Perm m) : (addL x l).Perm (addL x m) := by
  unfold addL
  by_cases hm : x ∈ l
  · rw [if_pos hm, if_pos (p.mem_iff.mp hm)]
    exact p
  · rw [if_neg hm, if_neg fun z => hm (p.mem_iff.mpr z)]
    exact p.cons x
theorem sortSet_ok (ns : List Str) : (sortSet ns).Pairwise leS ∧ (sortSet ns).Perm (seenL ns) := by
  have : ∀ (ns : List Str) (l m : List Str), l.Pairwise leS → l.Perm m → (ns.foldl (fun a x => insS x a) l).Pairwise leS ∧ (ns.foldl (fun a x => insS x a) l).Perm (ns.foldl (fun l k => addL k l) m) := by
    intro ns
    induction ns with
    | nil => exact fun l m h p => ⟨h, p⟩
    | cons x ns ih => exact fun l m h p => ih _ _ (insS_sorted x h) ((insS_perm h).trans (addL_perm p))
  exact this ns [] [] .nil (.refl _)
theorem sortSet_is {l ys : List Str} (p : ys.Perm (seenL l)) (h : sortedS ys = true) : ys = sortSet l := by
  obtain ⟨h1, h2⟩ := sortSet_ok l
  exact sorted_unique (pairwise_of_sortedS ys h) h1 (p.trans h2.symm)
theorem seenL_len (ns : List Str) : (seenL ns).length ≤ ns.length := by
  have : ∀ (ns l : List Str), (ns.foldl (fun l k => addL k l) l).length ≤ ns.length + l.length := by
    intro ns
    induction ns with
    | nil => exact fun l => by simp
    | cons x ns ih =>
      intro l
      have h1 := ih (addL x l)
      have h2 := addL_len x l
      rw [List.foldl_cons, List.length_cons]
      omega
  exact this ns []
end Sd
end T_SdW
section T_L7
set_option linter.all false
set_option maxRecDepth 100000
/-! L7: steps as a whole: names, sources, inputs. -/
namespace Ev
open PySem L2
/-- a step: its name, its word, the names it is made of, all behind the word -/
structure Pst where
  n : Str
  w : Str
  ns : List Str
  xs : List MV
def Pst.mv (s : Pst) : MV := .tup (.str s.n :: .str s.w :: s.xs)
structure Pst.Ok (s : Pst) : Prop where
  n : Asc s.n
  w : Asc s.w
  ns : ∀ x ∈ s.ns, Asc x
  two : pairB s.w = true → s.xs = s.ns.map .str ∧ s.ns.length = 2
  one : pairB s.w = false → ∃ a, s.ns = [a] ∧ ∃ r, s.xs = .str a :: r
  lay : ∀ x ∈ s.xs, Lay 1 x
  len : s.xs.length ≤ 4
theorem Pst.Ok.nl {s : Pst} (o : s.Ok) : s.ns.length ≤ 2 := by
  cases q : pairB s.w with
  | true => exact Nat.le_of_eq (o.two q).2
  | false =>
    obtain ⟨a, e, _⟩ := o.one q
    rw [e]; simp
theorem Pst.Ok.layS {s : Pst} (o : s.Ok) : Lay 2 s.mv := Lay.tup (fun x hx => by
  rcases List.mem_cons.mp hx with e | hx
  · subst e; exact (Lay.str o.n.okc)
  · rcases List.mem_cons.mp hx with e | hx
    · subst e; exact (Lay.str o.w.okc)
    · exact o.lay x hx) (by have := o.len; simp; omega)
def spOf : List MV → Pst
  | .str n :: .str w :: xs => ⟨n, w, (if pairB w = true then xs else xs.take 1).filterMap isStr?, xs⟩
  | _ => ⟨⟨#[]⟩, ⟨#[]⟩, [], []⟩
theorem strs_back (l : List Str) : (l.map MV.str).filterMap isStr? = l := by
  induction l with
  | nil => rfl
  | cons a l ih => simp [isStr?, ih]
theorem step_sp {ws : List Str} {xs : List MV} (ok : ∀ x ∈ ws, Asc x) (h : stepP ws = some xs) : (spOf xs).mv = .tup xs ∧ (spOf xs).Ok := by
  unfold stepP at h
  split at h
  · rename_i n e w r
    split at h
    · cases h
    · obtain ⟨ys, hy, rfl⟩ := Option.map_eq_some_iff.mp h
      have hn := ok n (by simp)
      have hw := ok w (by simp)
      have okr : ∀ x ∈ r, Asc x := fun x hx => ok x (by simp [hx])
      refine ⟨rfl, ?_⟩
      unfold restP at hy
      split at hy
      · rename_i hp
        split at hy
        · rename_i hc
          injection hy with hy
          subst hy
          have e : (spOf (.str n :: .str w :: r.map .str)).ns = r := by simp only [spOf, hp, if_true]; exact strs_back r
          refine ⟨hn, hw, by rw [e]; exact okr, fun _ => ⟨by rw [e]; rfl, by rw [e]; exact hc.1⟩, fun q => ?_, fun x hx => ?_, ?_⟩
          · have q : pairB w = false := q
            rw [hp] at q; cases q
          · obtain ⟨a, ha, rfl⟩ := List.mem_map.mp (show x ∈ r.map .str from hx)
            exact Lay.str (okr a ha).okc
          · show (r.map MV.str).length ≤ 4
            simp; omega
        · cases hy
      · rename_i hp
        have hp : pairB w = false := by simpa using hp
        match r, hy, okr with
        | [], hy, _ => cases hy
        | a :: r', hy, okr =>
          have hy : restQ w a r' = some ys := hy
          have key : ∃ r2, ys = .str a :: r2 ∧ (∀ x ∈ r2, Lay 1 x) ∧ r2.length ≤ 3 := by
            have li : ∀ x ∈ r'.map (fun x => optI (numS x)), Lay 1 x := fun x hx => by
              refine (lay_nums r' x ?_).mono (by omega)
              rw [List.map_map]
              exact hx
            unfold restQ at hy
            repeat' split at hy
            · cases hy
            · rename_i hc; injection hy with hy; exact ⟨_, hy.symm, lay_shares r', by simp; omega⟩
            · cases hy
            · cases hy
            · rename_i hc; injection hy with hy; exact ⟨_, hy.symm, li, by simp; omega⟩
            · cases hy
            · cases hy
            · rename_i hc _; injection hy with hy
              refine ⟨_, hy.symm, li, ?_⟩
              have : ¬ r'.length ≠ 3 := fun z => hc (.inr (.inl z))
              simp; omega
            · cases hy
          obtain ⟨r2, rfl, l2, n2⟩ := key
          have e : (spOf (.str n :: .str w :: .str a :: r2)).ns = [a] := by simp [spOf, hp, isStr?]
          have ha := okr a (by simp)
          refine ⟨hn, hw, by rw [e]; simpa using ha, fun q => ?_, fun _ => ⟨a, e, r2, rfl⟩, fun x hx => ?_, ?_⟩
          · have q : pairB w = true := q
            rw [hp] at q; cases q
          · rcases List.mem_cons.mp (show x ∈ MV.str a :: r2 from hx) with z | hx
            · subst z; exact Lay.str ha.okc
            · exact l2 x hx
          · show (MV.str a :: r2).length ≤ 4
            simp; omega
  · cases h
/-- the step that a line tells -/
def lineS (l : Str) : Option Pst := (stepP (Txt.split l " ")).map spOf
theorem lineS_mv {l : Str} (ha : Asc l) : (optL (stepP (Txt.split l " ")) = match lineS l with
    | none => .non
    | some s => s.mv) ∧ ∀ s, lineS l = some s → s.Ok := by
  unfold lineS
  cases q : stepP (Txt.split l " ") with
  | none => exact ⟨rfl, fun s z => nomatch z⟩
  | some xs =>
    obtain ⟨h1, h2⟩ := step_sp (fun x hx => split_asc ha hx) q
    exact ⟨h1.symm, fun s z => by cases z; exact h2⟩
/-! ### what is made so far -/
abbrev MK := List (Key × MV)
theorem lookK_app (q : Key) (v : MV) (j : Key) : ∀ kvs : MK, lookK j (kvs ++ [(q, v)]) = (lookK j kvs).or (if q = j then some v else none)
  | [] => by
    unfold lookK
    rfl
  | (k, w) :: r => by
    have := lookK_app q v j r
    show (if k = j then some w else lookK j (r ++ [(q, v)])) = (if k = j then some w else lookK j r).or _
    split
    · rfl
    · exact this
theorem lookK_map (q : Key) (v : MV) (j : Key) : ∀ kvs : MK, lookK j (kvs.map fun p => if p.1 = q then (p.1, v) else p) = if q = j ∧ (lookK j kvs).isSome = true then some v else lookK j kvs
  | [] => by simp [lookK]
  | (k, w) :: r => by
    have ih := lookK_map q v j r
    simp only [List.map_cons]
    by_cases hk : k = q
    · subst hk
      simp only [if_true, lookK]
      by_cases hj : k = j
      · subst hj; simp
      · simp only [hj, if_false, false_and] at ih ⊢
        exact ih
    · simp only [hk, if_false, lookK]
      by_cases hj : k = j
      · subst hj; simp [Ne.symm hk]
      · simp only [hj, if_false]; exact ih
theorem lookK_any (q : Key) : ∀ kvs : MK, (kvs.any fun p => decide (p.1 = q)) = (lookK q kvs).isSome
  | [] => rfl
  | (k, w) :: r => by
    have ih := lookK_any q r
    rw [List.any_cons, ih]
    show (decide (k = q) || (lookK q r).isSome) = (if k = q then some w else lookK q r).isSome
    by_cases hk : k = q
    · subst hk; simp
    · simp [hk]
theorem lookK_put (q : Key) (v : MV) (j : Key) (kvs : MK) : lookK j (putK q v kvs) = if q = j then some v else lookK j kvs := by
  unfold putK
  rw [lookK_any]
  by_cases hs : (lookK q kvs).isSome = true
  · rw [if_pos hs, lookK_map]
    by_cases hj : q = j
    · subst hj; simp [hs]
    · simp [hj]
  · rw [if_neg hs, lookK_app]
    by_cases hj : q = j
    · subst hj
      have : lookK q kvs = none := by simpa using hs
      simp [this]
    · simp [hj]
theorem putK_len (q : Key) (v : MV) (kvs : MK) : (putK q v kvs).length ≤ kvs.length + 1 := by
  unfold putK
  split <;> simp
def srcV (kvs : MK) (x : Str) : MV := (lookK (.inr x) kvs).getD (.str x)
/-- what is made, the free names, the sources, step by step -/
structure Stt where
  made : MK
  free : List Str
  srcs : List (List MV)
def stp (q : Stt) (s : Pst) : Stt := ⟨putK (.inr s.n) (.int (q.srcs.length : Nat)) q.made, q.free ++ s.ns.filter (fun x => (lookK (.inr x) q.made).isNone), q.srcs ++ [s.ns.map (srcV q.made)]⟩
def stF (ss : List Pst) : Stt := ss.foldl stp ⟨[], [], []⟩
theorem stF_snoc (ss : List Pst) (s : Pst) : stF (ss ++ [s]) = stp (stF ss) s := by simp [stF, List.foldl_append]
theorem stF_nil : stF [] = ⟨[], [], []⟩ := rfl
structure SttOk (ss : List Pst) (q : Stt) : Prop where
  nsrc : q.srcs.length = ss.length
  nmade : q.made.length ≤ ss.length
  nfree : q.free.length ≤ 2 * ss.length
  made : ∀ x v, lookK (.inr x) q.made = some v → ∃ j : Nat, v = .int (j : Nat) ∧ j < ss.length
  free : ∀ x ∈ q.free, Asc x
  src : ∀ i s, q.srcs[i]? = some s → ∀ v ∈ s, (∃ x, v = .str x ∧ x ∈ q.free) ∨ ∃ j : Nat, v = .int (j : Nat) ∧ j < i
theorem stF_ok : ∀ {ss : List Pst}, (∀ s ∈ ss, s.Ok) → SttOk ss (stF ss) := by
  intro ss
  induction h : ss.length using Nat.strongRecOn generalizing ss with
  | _ n ih =>
    intro ok
    rcases List.eq_nil_or_concat ss with e | ⟨r, s, e⟩
    · subst e
      exact ⟨rfl, by simp [stF_nil], by simp [stF_nil], fun x v z => by simp [stF_nil, lookK] at z, by simp [stF_nil], by simp [stF_nil]⟩
    · rw [List.concat_eq_append] at e
      subst e
      have q := ih r.length (by rw [← h]; simp) rfl fun s hs => ok s (by simp [hs])
      have os := ok s (by simp)
      have hl := os.nl
      rw [stF_snoc]
      refine ⟨by simp [stp, q.nsrc], ?_, ?_, fun x v z => ?_, fun x hx => ?_, fun i t ht v hv => ?_⟩
      · have := putK_len (.inr s.n) (.int ((stF r).srcs.length : Nat)) (stF r).made
        have := q.nmade
        simp only [stp, List.length_append, List.length_singleton]; omega
      · have h1 := List.length_filter_le (fun x => (lookK (.inr x) (stF r).made).isNone) s.ns
        have := q.nfree
        simp only [stp, List.length_append, List.length_singleton]; omega
      · simp only [stp, lookK_put] at z
        split at z
        · cases z
          exact ⟨_, rfl, by rw [q.nsrc]; simp⟩
        · obtain ⟨j, e, hj⟩ := q.made x v z
          exact ⟨j, e, by simp; omega⟩
      · simp only [stp] at hx
        rcases List.mem_append.mp hx with hx | hx
        · exact q.free x hx
        · exact os.ns x (List.mem_filter.mp hx).1
      · simp only [stp] at ht ⊢
        by_cases hi : i < (stF r).srcs.length
        · rw [List.getElem?_append_left hi] at ht
          rcases q.src i t ht v hv with ⟨x, e, hx⟩ | z
          · exact .inl ⟨x, e, List.mem_append_left _ hx⟩
          · exact .inr z
        · have hi2 : i = (stF r).srcs.length := by
            have := (List.getElem?_eq_some_iff.mp ht).1
            simp at this; omega
          subst hi2
          rw [List.getElem?_concat_length] at ht
          cases ht
          obtain ⟨x, hx, rfl⟩ := List.mem_map.mp hv
          unfold srcV
          cases z : lookK (.inr x) (stF r).made with
          | none => exact .inl ⟨x, rfl, List.mem_append_right _ (List.mem_filter.mpr ⟨hx, by simp [z]⟩)⟩
          | some v =>
            obtain ⟨j, e, hj⟩ := q.made x v z
            exact .inr ⟨j, e, by rw [q.nsrc]; exact hj⟩
theorem stF_len {ss : List Pst} (ok : ∀ s ∈ ss, s.Ok) : (stF ss).srcs.length = ss.length := (stF_ok ok).nsrc
open Sd in
theorem seenL_mem (l : List Str) : ∀ x, x ∈ seenL l ↔ x ∈ l := by
  have : ∀ (l m : List Str) x, x ∈ l.foldl (fun l k => addL k l) m ↔ x ∈ m ∨ x ∈ l := by
    intro l
    induction l with
    | nil => intro m x; simp
    | cons k l ih =>
      intro m x
      rw [List.foldl_cons, ih]
      unfold addL
      split
      · rename_i hk
        constructor
        · rintro (h | h)
          · exact .inl h
          · exact .inr (List.mem_cons_of_mem _ h)
        · rintro (h | h)
          · exact .inl h
          · rcases List.mem_cons.mp h with e | h
            · subst e; exact .inl hk
            · exact .inr h
      · rw [List.mem_cons, List.mem_cons]
        constructor
        · rintro ((h | h) | h)
          · exact .inr (.inl h)
          · exact .inl h
          · exact .inr (.inr h)
        · rintro (h | h | h)
          · exact .inl (.inr h)
          · exact .inl (.inl h)
          · exact .inr h
  intro x
  have := this l [] x
  unfold seenL
  rw [this]
  simp
theorem nodup_sub {α : Type} [DecidableEq α] : ∀ {l m : List α}, l.Nodup → (∀ x ∈ l, x ∈ m) → l.length ≤ m.length
  | [], _, _, _ => Nat.zero_le _
  | x :: l, m, nd, hs => by
    obtain ⟨n1, n2⟩ := List.nodup_cons.mp nd
    have hx : x ∈ m := hs x List.mem_cons_self
    have := nodup_sub (l := l) (m := m.erase x) n2 fun y hy => (List.mem_erase_of_ne (fun z : y = x => n1 (by rw [← z]; exact hy))).mpr (hs y (List.mem_cons_of_mem _ hy))
    have e := (List.perm_cons_erase hx).length_eq
    rw [List.length_cons] at e ⊢
    omega
theorem len_eq {α : Type} [DecidableEq α] {l m : List α} (h1 : l.Nodup) (h2 : m.Nodup) (h : ∀ x, x ∈ l ↔ x ∈ m) : l.length = m.length :=
  Nat.le_antisymm (nodup_sub h1 fun x hx => (h x).mp hx) (nodup_sub h2 fun x hx => (h x).mpr hx)
/-- inputs, kept once each -/
structure InsOk (ins free : List Str) : Prop where
  nd : ins.Nodup
  mem : ∀ x, x ∈ ins ↔ x ∈ free
open Sd in
theorem InsOk.sort {ins free : List Str} (i : InsOk ins free) : sortAll ins = sortSet free := by
  obtain ⟨a1, a2⟩ := sortAll_ok ins
  obtain ⟨b1, b2⟩ := sortSet_ok free
  have sm : ∀ x, x ∈ seenL free ↔ x ∈ free := seenL_mem free
  have p : (seenL free).Perm ins := perm_of_sub i.nd (fun x hx => (sm x).mpr ((i.mem x).mp hx)) (len_eq (seenL_nodup free) i.nd fun x => (sm x).trans (i.mem x).symm)
  exact sorted_unique a1 b1 (a2.trans (p.symm.trans b2.symm))
open Sd in
theorem InsOk.len {ins free : List Str} (i : InsOk ins free) : ins.length = (sortSet free).length := by
  have := i.sort
  rw [← this]
  exact (sortAll_ok ins).2.length_eq.symm
end Ev
end T_L7
section T_L8
set_option linter.all false
set_option maxRecDepth 100000
/-! L8: names, sources, inputs by the law's defs. -/
namespace Ev
open PySem L2
/-- a list of steps at k -/
structure Sl (h : MH) (k : Nat) (ss : List Pst) : Prop where
  at_ : h[k]? = some (.lst (ss.map Pst.mv))
  ok : ∀ s ∈ ss, s.Ok
theorem Sl.keep {h h' : MH} {k : Nat} {ss : List Pst} {ms : List Nat} (w : Sl h k ss) (kp : Keep ms h h') (hm : k ∉ ms) : Sl h' k ss := ⟨kp.at w.at_ hm, w.ok⟩
theorem Sl.keep0 {h h' : MH} {k : Nat} {ss : List Pst} (w : Sl h k ss) (kp : Keep [] h h') : Sl h' k ss := w.keep kp (by simp)
theorem set_get {h : MH} {k : Nat} {o u : MO} (e : h[k]? = some o) : (h.set k u)[k]? = some u := List.getElem?_set_self (List.getElem?_eq_some_iff.mp e).1
theorem set_ne {h : MH} {k j : Nat} {u o : MO} (hk : j ≠ k) (e : h[j]? = some o) : (h.set k u)[j]? = some o := by rw [List.getElem?_set_ne (Ne.symm hk)]; exact e
theorem lt_of {h : MH} {k : Nat} {o : MO} (e : h[k]? = some o) : k < h.length := (List.getElem?_eq_some_iff.mp e).1
theorem zipIdx_len {α : Type} (xs : List α) : xs.zipIdx.length = xs.length := by simp
/-- an index and an item, in turn -/
theorem zipIdx_split {α : Type} {xs : List α} {done rest : List (α × Nat)} {x : α × Nat} (e : xs.zipIdx = done ++ x :: rest) : x.2 = done.length ∧ xs = done.map (·.1) ++ x.1 :: rest.map (·.1) := by
  constructor
  · have h1 : (xs.zipIdx)[done.length]? = some x := by rw [e]; simp
    rw [List.getElem?_zipIdx] at h1
    cases q : xs[done.length]? with
    | none => rw [q] at h1; cases h1
    | some y => rw [q] at h1; simp at h1; rw [← h1]
  · have h2 := congrArg (List.map (·.1)) e
    rw [List.map_append, List.map_cons, List.zipIdx_map_fst] at h2
    exact h2
/-- the texts among sources -/
def isTx : MV → Bool
  | .str _ => true
  | _ => false
theorem src_free (kvs : MK) (hk : ∀ x v, lookK (.inr x) kvs = some v → ∃ j : Nat, v = .int (j : Nat)) : ∀ ns : List Str, (ns.map (srcV kvs)).filter isTx = (ns.filter fun x => (lookK (.inr x) kvs).isNone).map .str
  | [] => rfl
  | x :: r => by
    have ih := src_free kvs hk r
    rw [List.map_cons, List.filter_cons, List.filter_cons, ih]
    cases q : lookK (.inr x) kvs with
    | none => simp [srcV, q, isTx]
    | some v =>
      obtain ⟨j, rfl⟩ := hk x v q
      simp [srcV, q, isTx]
theorem free_of : ∀ {ss : List Pst}, (∀ s ∈ ss, s.Ok) → (((stF ss).srcs.map fun s => s.filter isTx).flatten) = (stF ss).free.map .str := by
  intro ss
  induction h : ss.length using Nat.strongRecOn generalizing ss with
  | _ n ih =>
    intro ok
    rcases List.eq_nil_or_concat ss with e | ⟨r, s, e⟩
    · subst e; rfl
    · rw [List.concat_eq_append] at e
      subst e
      have okr : ∀ s ∈ r, s.Ok := fun s hs => ok s (by simp [hs])
      have q := stF_ok okr
      have := ih r.length (by rw [← h]; simp) rfl okr
      rw [stF_snoc]
      simp only [stp, List.map_append, List.flatten_append, this, List.map_cons, List.map_nil, List.flatten_cons, List.flatten_nil, List.append_nil]
      rw [src_free _ fun x v hv => by
        obtain ⟨j, e, _⟩ := q.made x v hv
        exact ⟨j, e⟩]
end Ev
namespace K82
open PySem L2 Ev
section
variable {d : Nat} {h : MH}
theorem names_in_sp (s : Pst) (o : s.Ok) : callD G (d + 1) "names_in" [s.mv] h = some (.ok (.tup (s.ns.map .str)) h) := by
  have := names_in_ok (d := d) (h := h) s.n s.w o.w s.xs
  rw [show callD G (d + 1) "names_in" [s.mv] h = _ from this]
  cases q : pairB s.w with
  | true =>
    obtain ⟨h1, h2⟩ := o.two q
    rw [h1]
    simp
    rw [List.take_of_length_le (by simp; omega)]
  | false =>
    obtain ⟨a, h1, r, h2⟩ := o.one q
    rw [h1, h2]
    rfl
theorem named_ok (s : Pst) (o : s.Ok) : callD G (d + 1) "_law_named" [s.mv] h = some (.ok (.ref h.length) (h ++ [.lst (s.ns.map .str)])) := by
  rw [u__law_named]
  have h1 : wE (c__law_named (callD G d) s.mv h) (fun v h' => v = .ref h.length ∧ h' = h ++ [.lst (s.ns.map .str)]) no := by
    have hm : s.mv = .tup (.str s.n :: .str s.w :: s.xs) := rfl
    simp [c__law_named, b__law_named, hm, in_two asc_joined asc_met o.w]
    have c1 : cutM (MV.str s.n :: .str s.w :: s.xs) (some 2) (some 4) = s.xs.take 2 := cutM_mid (m := 2) (n := 4)
    refine wB.mk (fun g => ?_) (fun g => ?_)
    · have g : pairB s.w = true := g
      obtain ⟨h1, h2⟩ := o.two g
      rw [h1, List.take_of_length_le (by simp; omega)] at c1
      simp [h1, c1]
    · have g : pairB s.w = false := g
      obtain ⟨a, h1, r, h2⟩ := o.one g
      simp [h1, h2]
  obtain ⟨v, h', e, rfl, rfl⟩ := h1.get
  exact e
theorem sources_ok (k : Nat) (ss : List Pst) (S : Sl h k ss) (hl : ss.length ≤ 1000) : wE (callD G (d + 2) "_law_sources" [.ref k] h) (fun v h' => Keep [] h h' ∧ ∃ f rs, v = .ref f ∧ h.length < f ∧ h'[f]? = some (.lst (rs.map MV.ref)) ∧ Paired (fun r s => h'[r]? = some (.lst s) ∧ f < r) rs (stF ss).srcs) no := by
  rw [u__law_sources]
  simp [c__law_sources, b__law_sources]
  have hk := lt_of S.at_
  refine wS_mid (fun e h' => e = [some (.ref k), some (.ref h.length), some (.ref (h.length + 1)), none, none, none] ∧ h' = h ++ [.dic [], .lst []]) ?_ ?_
  · simp
  intro e h' z; obtain ⟨rfl, hh⟩ := z
  have kp : Keep [] h h' := by rw [hh]; exact Keep.app _
  have hM : h'[h.length]? = some (.dic []) := by rw [hh]; simp
  have hF : h'[h.length + 1]? = some (.lst []) := by rw [hh, List.getElem?_append_right (by omega)]; simp
  have S1 := S.keep0 kp
  have hlen : h'.length = h.length + 2 := by rw [hh]; simp
  generalize hMd : h.length = M at *
  clear hh
  refine wS_mid (fun e h1 => ∃ a b, e = [some (.ref k), some (.ref M), some (.ref (M + 1)), a, b, none] ∧ Keep [M, M + 1] h' h1 ∧ ∃ rs, h1[M + 1]? = some (.lst (rs.map MV.ref)) ∧ Paired (fun r s => h1[r]? = some (.lst s) ∧ M + 1 < r) rs (stF ss).srcs) ?_ ?_
  · have hkM : k ∉ [M, M + 1] := by simp; omega
    simp [enumOf, S1.at_]
    refine w_for (ms := [M, M + 1]) ss.zipIdx (fun p => .tup [.int (p.2 : Nat), p.1.mv])
      (fun done e h1 => ∃ a b, e = [some (.ref k), some (.ref M), some (.ref (M + 1)), a, b, none] ∧ Keep [M, M + 1] h' h1 ∧ h1[M]? = some (.dic (stF (done.map (·.1))).made) ∧ ∃ rs, h1[M + 1]? = some (.lst (rs.map MV.ref)) ∧ Paired (fun r s => h1[r]? = some (.lst s) ∧ M + 1 < r) rs (stF (done.map (·.1))).srcs)
      ?_ (by rw [zipIdx_len]; omega) (fun _ _ _ z => by obtain ⟨_, _, _, z, _⟩ := z; exact z) (fun done x rest e h1 hx hI => ?_) ?_ (fun e h1 hI => ?_)
    · have := Its.enum S1.at_ hkM
      rw [show ss.zipIdx.map (fun p => MV.tup [.int (p.2 : Nat), p.1.mv]) = (ss.map Pst.mv).zipIdx.map (fun p => MV.tup [.int (p.2 : Nat), p.1]) by
        rw [List.zipIdx_map, List.map_map] <;> rfl]
      exact this
    · obtain ⟨a, b, rfl, kp1, hm1, rs, hf1, pr⟩ := hI
      obtain ⟨s, i⟩ := x
      obtain ⟨hi, hss⟩ := zipIdx_split hx
      simp only at hi hss
      have okd : ∀ s ∈ done.map (·.1), s.Ok := fun t ht => S.ok t (by rw [hss]; simp at ht ⊢; exact .inl ht)
      have os : s.Ok := S.ok s (by rw [hss]; simp)
      have hdl : done.length < ss.length := by rw [hss]; simp
      refine ⟨_, rfl, ?_⟩
      have q := stF_ok okd
      have hnm := q.nmade
      simp only [List.length_map] at hnm
      have hrl : rs.length = done.length := by
        have := pr.length
        rw [this, q.nsrc, List.length_map]
      rw [List.map_append, List.map_cons, List.map_nil, stF_snoc]
      generalize stF (done.map (·.1)) = st at *
      refine wS_mid (fun e h2 => e = [some (.ref k), some (.ref M), some (.ref (M + 1)), some (.int (i : Nat)), some s.mv, none] ∧ Keep [M, M + 1] h' h2 ∧ h2[M]? = some (.dic st.made) ∧ ∃ rs, rs.length = done.length + 1 ∧ h2[M + 1]? = some (.lst (rs.map MV.ref)) ∧ Paired (fun r s => h2[r]? = some (.lst s) ∧ M + 1 < r) rs (st.srcs ++ [s.ns.map (srcV st.made)])) ?_ ?_
      · simp [metX_lst hf1, named_ok s os, iterOf]
        have km := kp1.push [.lst (s.ns.map .str)]
        refine w_map (ms := []) s.ns MV.str (srcV st.made) (Its.lst (by simp) (by simp)) (by have := os.nl; omega) (fun x h3 hx3 kp3 => ?_) fun h3 kp3 => ?_
        · refine ⟨_, rfl, ?_⟩
          have hm3 := ((Keep.app (ms := []) [.lst (s.ns.map .str)]).trans kp3).at hm1 (by simp)
          simp [in_dic hm3 (key_str (a := x))]
          refine wB.mk (fun g => ?_) (fun g => ?_)
          · simp [item_dic hm3 (key_str (a := x))]
            obtain ⟨v, hv⟩ := Option.isSome_iff_exists.mp g
            simp [hv, srcV, Keep.refl]
          · have g : lookK (.inr x) st.made = none := by simpa using g
            simp [g, srcV, Keep.refl]
        · have kp4 := ((Keep.app (ms := []) (h := h1) [.lst (s.ns.map .str)]).trans kp3).push [.lst (s.ns.map (srcV st.made))]
          have hf4 := kp4.at hf1 (by simp)
          have hm4 := kp4.at hm1 (by simp)
          have hl3 : M + 1 < h3.length := by
            have := lt_of (((Keep.app (ms := []) (h := h1) [.lst (s.ns.map .str)]).trans kp3).at hf1 (by simp))
            exact this
          have hl4 : h3.length < (h3 ++ [MO.lst (s.ns.map (srcV st.made))]).length := by simp
          refine ⟨by have := os.nl; simp; omega, ?_⟩
          rw [m_append hf4 (by simp; omega)]
          simp only [wO_some]
          refine ⟨(kp1.trans kp4.all).set (.inl (by simp)), set_ne (by omega) hm4, rs ++ [h3.length], by simp [hrl], by rw [set_get hf4]; simp, ?_⟩
          refine Paired.snoc (Paired.mapP pr fun r s hr => ⟨set_ne (by omega) (kp4.at hr.1 (by simp)), hr.2⟩) ⟨?_, hl3⟩
          rw [List.getElem?_set_ne (by omega)]
          exact List.getElem?_concat_length
      intro e h2 z; obtain ⟨rfl, kp2, hm2, rs2, hrl2, hf2, pr2⟩ := z
      have hput := put_dic (x := .int (i : Nat)) hm2 (key_str (a := s.n)) (by omega)
      have hmv : s.mv = .tup (.str s.n :: .str s.w :: s.xs) := rfl
      refine wS_seq fun nx hn => ?_
      simp [hmv, hput]
      refine hn _ _ ?_
      simp only [w_nxS]
      refine ⟨_, _, rfl, kp2.set (.inl (by simp)), ?_, rs2, set_ne (by omega) hf2, Paired.mapP pr2 fun r s hr => ⟨set_ne (by omega) hr.1, hr.2⟩⟩
      rw [set_get hm2]
      simp only [stp, q.nsrc, List.length_map, hi]
    · exact ⟨_, _, rfl, Keep.refl, hM, [], hF, .nil⟩
    · obtain ⟨a, b, rfl, kp1, hm1, rs, hf1, pr⟩ := hI
      rw [List.zipIdx_map_fst] at pr
      exact ⟨⟨a, b, rfl⟩, kp1, rs, hf1, pr⟩
  intro e h1 z; obtain ⟨a, b, rfl, kp1, rs, hf, pr⟩ := z
  simp
  exact ⟨kp.inner kp1 (by simp; omega), rs, hf, pr⟩
end
end K82
end T_L8
section T_L9
set_option linter.all false
set_option maxRecDepth 100000
/-! L9: inputs, ways. -/
namespace Ev
open PySem L2
def inputsS (ss : List Pst) : List Str := sortSet (stF ss).free
theorem paired_zip {α β : Type} {F : α → β → Prop} : ∀ {l : List α} {m : List β}, Paired F l m → (l.zip m).map (·.1) = l ∧ (l.zip m).map (·.2) = m ∧ ∀ p ∈ l.zip m, F p.1 p.2
  | _, _, .nil => ⟨rfl, rfl, fun p z => by simp at z⟩
  | _, _, .cons h t => by
    obtain ⟨a, b, c⟩ := paired_zip t
    refine ⟨by simp [a], by simp [b], fun p hp => ?_⟩
    rcases List.mem_cons.mp hp with e | hp
    · subst e; exact h
    · exact c p hp
theorem src_len {ss : List Pst} (ok : ∀ s ∈ ss, s.Ok) : ∀ (i : Nat) (s : List MV), (stF ss).srcs[i]? = some s → s.length ≤ 2 := by
  induction h : ss.length using Nat.strongRecOn generalizing ss with
  | _ n ih =>
    rcases List.eq_nil_or_concat ss with e | ⟨r, t, e⟩
    · subst e; intro i s z; simp [stF_nil] at z
    · rw [List.concat_eq_append] at e
      subst e
      intro i s z
      rw [stF_snoc] at z
      simp only [stp] at z
      by_cases hi : i < (stF r).srcs.length
      · rw [List.getElem?_append_left hi] at z
        exact ih r.length (by rw [← h]; simp) (fun s hs => ok s (by simp [hs])) rfl i s z
      · have hi2 : i = (stF r).srcs.length := by
          have := (List.getElem?_eq_some_iff.mp z).1
          simp at this; omega
        subst hi2
        rw [List.getElem?_concat_length] at z
        cases z
        have := (ok t (by simp)).nl
        simpa using this
theorem flat_len : ∀ (l : List (Nat × List MV)), (∀ p ∈ l, (p.2.filter isTx).length ≤ 2) → (((l.map (·.2)).map fun s => s.filter isTx).flatten).length ≤ 2 * l.length
  | [], _ => by simp
  | p :: r, h => by
    have h1 := flat_len r fun p hp => h p (List.mem_cons_of_mem _ hp)
    have h2 := h p List.mem_cons_self
    simp only [List.map_cons, List.flatten_cons, List.length_append, List.length_cons] at h1 ⊢
    omega
theorem isI_tx {G : Glob} {h : MH} {v : MV} (hv : (∃ x, v = .str x) ∨ ∃ j : Nat, v = .int (j : Nat)) : isI G h v "str" = some (isTx v) := by
  rcases hv with ⟨x, rfl⟩ | ⟨j, rfl⟩
  · simp [isTx]
  · simp [isTx]
end Ev
namespace K82
open PySem L2 Ev
section
variable {d : Nat} {h : MH}
theorem inputs_ok (k : Nat) (ss : List Pst) (S : Sl h k ss) (hl : ss.length ≤ 31) : wE (callD G (d + 3) "_law_inputs" [.ref k] h) (fun v h' => Keep [] h h' ∧ ∃ j, v = .ref j ∧ h'[j]? = some (.lst ((inputsS ss).map .str))) no := by
  rw [u__law_inputs]
  simp [c__law_inputs, b__law_inputs]
  refine wS_mid (fun e h' => e = [some (.ref k), some (.ref h.length), none, none] ∧ h' = h ++ [.lst []]) (by simp) ?_
  intro e h' z; obtain ⟨rfl, hh⟩ := z
  have kp : Keep [] h h' := by rw [hh]; exact Keep.app _
  have hF : h'[h.length]? = some (.lst []) := by rw [hh]; simp
  have S1 := S.keep0 kp
  have hk := lt_of S.at_
  generalize hFd : h.length = F at *
  clear hh
  have q := stF_ok S.ok
  have hnf := q.nfree
  have hFl : F < h'.length := lt_of hF
  refine wS_mid (fun e h1 => ∃ a, e = [some (.ref k), some (.ref F), a, none] ∧ Keep [F] h' h1 ∧ h1[F]? = some (.lst ((stF ss).free.map .str))) ?_ ?_
  · simp
    refine (sources_ok k ss S1 (by omega)).to fun v h1 hv => ?_
    obtain ⟨kp1, f, rs, rfl, hfl, hf, pr⟩ := hv
    obtain ⟨z1, z2, z3⟩ := paired_zip pr
    have hF1 := kp1.at hF (by simp)
    simp [iterOf_lst hf]
    have hzl : (rs.zip (stF ss).srcs).length = ss.length := by
      rw [← List.length_map (f := (·.2)), z2, q.nsrc]
    refine w_for (ms := [F]) (rs.zip (stF ss).srcs) (fun p => .ref p.1)
      (fun done e h2 => ∃ a, e = [some (.ref k), some (.ref F), a, none] ∧ Keep [F] h1 h2 ∧ h2[F]? = some (.lst (((done.map (·.2)).map fun s => s.filter isTx).flatten)))
      ?_ (by omega) (fun _ _ _ z => by obtain ⟨_, _, z, _⟩ := z; exact z) (fun done x rest e h2 hx hI => ?_) ⟨_, rfl, Keep.refl, hF1⟩ (fun e h2 hI => ?_)
    · have := Its.lst hf (ms := [F]) (by simp; omega)
      rw [← z1, List.map_map] at this
      exact this
    · obtain ⟨a, rfl, kp2, hF2⟩ := hI
      obtain ⟨r, s⟩ := x
      obtain ⟨hr, hfr⟩ := z3 (r, s) (by rw [hx]; simp)
      simp only at hr hfr
      have hr2 := kp2.at hr (by simp; omega)
      refine ⟨_, rfl, ?_⟩
      have hsi : (stF ss).srcs[done.length]? = some s := by
        rw [← z2, List.getElem?_map, hx]
        simp
      have hsv : ∀ v ∈ s, (∃ x, v = .str x) ∨ ∃ j : Nat, v = .int (j : Nat) := fun v hv => by
        rcases q.src _ _ hsi v hv with ⟨x, e, _⟩ | ⟨j, e, _⟩
        · exact .inl ⟨x, e⟩
        · exact .inr ⟨j, e⟩
      have hsl : s.length ≤ 2 := src_len S.ok _ _ hsi
      have hdl : done.length < ss.length := by rw [← hzl, hx]; simp
      refine wS_seq fun nx hn => ?_
      simp [metX_lst hF2, iterOf_lst hr2]
      refine w_filter (ms := []) s id id isTx (by rw [List.map_id]; exact Its.lst hr2 (by simp)) (by omega) (fun v h3 hv kp3 => ?_) fun h3 kp3 => ?_
      · refine ⟨_, rfl, ?_⟩
        simp [isI_tx (hsv v hv), Keep.refl]
      · have hfil : (s.filter isTx).length ≤ 2 := Nat.le_trans (List.length_filter_le _ _) hsl
        have hfl3 : (((done.map (·.2)).map fun s => s.filter isTx).flatten).length ≤ 2 * done.length := by
          have : ∀ p ∈ done, (p.2.filter isTx).length ≤ 2 := fun p hp => by
            obtain ⟨i, hi, he⟩ := List.getElem_of_mem hp
            have : (stF ss).srcs[i]? = some p.2 := by
              rw [← z2, List.getElem?_map, hx, List.getElem?_append_left hi, List.getElem?_eq_getElem hi, he]
              rfl
            exact Nat.le_trans (List.length_filter_le _ _) (src_len S.ok _ _ this)
          exact flat_len done this
        have hF3 := (kp3.push [.lst (s.filter isTx)]).at hF2 (by simp)
        rw [List.map_id]
        refine ⟨by omega, ?_⟩
        rw [m_extend hF3 List.getElem?_concat_length (by omega)]
        simp only [wO_some]
        refine hn _ _ ?_
        simp only [w_nxS]
        refine ⟨_, rfl, (kp2.trans ((kp3.push _).all)).set (.inl (by simp)), ?_⟩
        rw [set_get hF3]
        simp
    · obtain ⟨a, rfl, kp2, hF2⟩ := hI
      rw [z2, free_of S.ok] at hF2
      exact ⟨⟨a, rfl⟩, kp1.all.trans kp2, hF2⟩
  intro e h1 z; obtain ⟨a, rfl, kp1, hF1⟩ := z
  simp
  rw [sset_lst hF1 (by omega)]
  simp only [wO_some]
  refine ⟨kp.inner (kp1.push _) (by simp; omega), _, rfl, List.getElem?_concat_length⟩
end
end K82
end T_L9
section T_L10
set_option linter.all false
set_option maxRecDepth 100000
/-! L10: ways; the program's own __init__. -/
namespace Ev
open PySem L2
/-- a text's lines, one after another: the number of the first bad one, or the steps -/
def goL : List Str → List Pst → Sum Nat (List Pst)
  | [], acc => .inr acc
  | l :: r, acc => match lineS l with
    | none => .inl (acc.length + 1)
    | some s => if acc.length = 8 then .inl (acc.length + 1) else if 4 < (inputsS (acc ++ [s])).length then .inl (acc.length + 1) else goL r (acc ++ [s])
def linesS (t : Str) : List Str := Txt.split t "\n"
def progS (t : Str) : Sum Nat (List Pst) := goL (linesS t) []
theorem goL_ok : ∀ {ls : List Str} {acc ss : List Pst}, (∀ l ∈ ls, Asc l) → (∀ s ∈ acc, s.Ok) → acc.length ≤ 8 → goL ls acc = .inr ss → (∀ s ∈ ss, s.Ok) ∧ ss.length ≤ 8
  | [], acc, ss, _, h, h8, e => by cases e; exact ⟨h, h8⟩
  | l :: r, acc, ss, ha, h, h8, e => by
    unfold goL at e
    split at e
    · cases e
    · rename_i s hs
      split at e
      · cases e
      · split at e
        · cases e
        · refine goL_ok (fun x hx => ha x (List.mem_cons_of_mem _ hx)) (fun t ht => ?_) (by simp; omega) e
          rcases List.mem_append.mp ht with ht | ht
          · exact h t ht
          · rw [List.mem_singleton.mp ht]
            exact (lineS_mv (ha l List.mem_cons_self)).2 s hs
theorem insOk_step {ins : List Str} {st : Stt} (i : InsOk ins st.free) (s : Pst) :
    InsOk (ins ++ (sortSet s.ns).filter fun x => (lookK (.inr x) st.made).isNone && !ins.contains x) (stp st s).free := by
  obtain ⟨b1, b2⟩ := Sd.sortSet_ok s.ns
  have nd : (sortSet s.ns).Nodup := b2.nodup_iff.mpr (Sd.seenL_nodup s.ns)
  have mem : ∀ x, x ∈ sortSet s.ns ↔ x ∈ s.ns := fun x => b2.mem_iff.trans (seenL_mem s.ns x)
  refine ⟨List.nodup_append.mpr ⟨i.nd, nd.filter _, fun a ha b hb => ?_⟩, fun x => ?_⟩
  · intro e
    subst e
    have := (List.mem_filter.mp hb).2
    simp [ha] at this
  · simp only [stp, List.mem_append, List.mem_filter, mem, i.mem, Bool.and_eq_true, Bool.not_eq_true']
    constructor
    · rintro (h | ⟨h1, h2, h3⟩)
      · exact .inl h
      · exact .inr ⟨h1, h2⟩
    · rintro (h | ⟨h1, h2⟩)
      · exact .inl h
      · by_cases hx : x ∈ st.free
        · exact .inl hx
        · refine .inr ⟨h1, h2, ?_⟩
          cases q : ins.contains x with
          | false => rfl
          | true => exact absurd ((i.mem x).mp (List.contains_iff_mem.mp q)) hx
end Ev
namespace K82
open PySem L2 Ev
section
variable {d : Nat} {h : MH}
theorem ways_ok (k : Nat) (ss : List Pst) (S : Sl h k ss) (hl : ss.length ≤ 31) (hne : ss ≠ []) : wE (callD G (d + 3) "_law_ways" [.ref k] h) (fun v h' => Keep [] h h' ∧ ∃ n : Int, v = .int n) no := by
  rw [u__law_ways]
  simp [c__law_ways, b__law_ways]
  refine wS_mid (fun e h' => e = [some (.ref k), some (.ref h.length), none, none] ∧ h' = h ++ [.lst []]) (by simp) ?_
  intro e h' z; obtain ⟨rfl, hh⟩ := z
  have kp : Keep [] h h' := by rw [hh]; exact Keep.app _
  have hF : h'[h.length]? = some (.lst []) := by rw [hh]; simp
  have S1 := S.keep0 kp
  have hk := lt_of S.at_
  generalize hFd : h.length = F at *
  clear hh
  have q := stF_ok S.ok
  have hFl : F < h'.length := lt_of hF
  refine wS_mid (fun e h1 => ∃ a, e = [some (.ref k), some (.ref F), a, none] ∧ Keep [F] h' h1 ∧ ∃ ns : List Int, ns ≠ [] ∧ h1[F]? = some (.lst (ns.map .int))) ?_ ?_
  · simp
    refine (sources_ok k ss S1 (by omega)).to fun v h1 hv => ?_
    obtain ⟨kp1, f, rs, rfl, hfl, hf, pr⟩ := hv
    obtain ⟨z1, z2, z3⟩ := paired_zip pr
    have hF1 := kp1.at hF (by simp)
    simp [iterOf_lst hf]
    have hzl : (rs.zip (stF ss).srcs).length = ss.length := by
      rw [← List.length_map (f := (·.2)), z2, q.nsrc]
    refine w_for (ms := [F]) (rs.zip (stF ss).srcs) (fun p => .ref p.1)
      (fun done e h2 => ∃ a, e = [some (.ref k), some (.ref F), a, none] ∧ Keep [F] h1 h2 ∧ ∃ ns : List Int, ns.length = done.length ∧ h2[F]? = some (.lst (ns.map .int)))
      ?_ (by omega) (fun _ _ _ z => by obtain ⟨_, _, z, _⟩ := z; exact z) (fun done x rest e h2 hx hI => ?_) ⟨_, rfl, Keep.refl, [], rfl, hF1⟩ (fun e h2 hI => ?_)
    · have := Its.lst hf (ms := [F]) (by simp; omega)
      rw [← z1, List.map_map] at this
      exact this
    · obtain ⟨a, rfl, kp2, ns, hnl, hF2⟩ := hI
      obtain ⟨r, s⟩ := x
      obtain ⟨hr, hfr⟩ := z3 (r, s) (by rw [hx]; simp)
      simp only at hr hfr
      have hr2 := kp2.at hr (by simp; omega)
      refine ⟨_, rfl, ?_⟩
      have hsi : (stF ss).srcs[done.length]? = some s := by
        rw [← z2, List.getElem?_map, hx]
        simp
      have hsl : s.length ≤ 2 := src_len S.ok _ _ hsi
      have hdl : done.length < ss.length := by rw [← hzl, hx]; simp
      refine wS_seq fun nx hn => ?_
      simp [metX_lst hF2, iterOf_lst hr2]
      refine w_map (ms := []) s id (fun v => .int (match v with | .int j => ns.getD j.toNat 0 | _ => 1)) (by rw [List.map_id]; exact Its.lst hr2 (by simp)) (by omega) (fun v h3 hv kp3 => ?_) fun h3 kp3 => ?_
      · refine ⟨_, rfl, ?_⟩
        have hF3 := kp3.at hF2 (by simp)
        rcases q.src _ _ hsi v hv with ⟨x, rfl, _⟩ | ⟨j, rfl, hj⟩
        · simp [Keep.refl]
        · simp [item_lst hF3, Ev.atI_nat]
          rw [List.getElem?_eq_getElem (show j < ns.length by omega)]
          simp [Keep.refl]
      · have hF3 := (kp3.push [.lst (s.map fun v => MV.int (match v with | .int j => ns.getD j.toNat 0 | _ => 1))]).at hF2 (by simp)
        refine ⟨by simp; omega, ?_⟩
        rw [bSum_lst (ns := s.map fun v => (match v with | .int j => ns.getD j.toNat 0 | _ => 1)) (by simp)]
        simp only [wO_some]
        rw [m_append hF3 (by simp; omega)]
        simp only [wO_some]
        refine hn _ _ ?_
        simp only [w_nxS]
        refine ⟨_, rfl, (kp2.trans ((kp3.push _).all)).set (.inl (by simp)), ns ++ [(s.map fun v => (match v with | .int j => ns.getD j.toNat 0 | _ => 1)).sum], by simp [hnl], ?_⟩
        rw [set_get hF3]
        simp
    · obtain ⟨a, rfl, kp2, ns, hnl, hF2⟩ := hI
      refine ⟨⟨a, rfl⟩, kp1.all.trans kp2, ns, fun z => ?_, hF2⟩
      rw [hzl] at hnl
      subst z
      exact hne (List.length_eq_zero_iff.mp hnl.symm)
  intro e h1 z; obtain ⟨a, rfl, kp1, ns, hnn, hF1⟩ := z
  obtain ⟨n, hn⟩ : ∃ n, ns.getLast? = some n := by
    cases q : ns.getLast? with
    | none => exact absurd (List.getLast?_eq_none_iff.mp q) hnn
    | some n => exact ⟨n, rfl⟩
  simp [item_lst hF1, hn]
  exact kp.inner kp1 (by simp; omega)
/-- the instance behind __init__ -/
def flds (t : Str) (ss : List Pst) : List (Str × MV) := [(Str.ofString "own_text", .str t), (Str.ofString "own_inputs", .tup ((inputsS ss).map .str)), (Str.ofString "own_steps", .tup (ss.map Pst.mv)), (Str.ofString "own_sources", .tup ((stF ss).srcs.map .tup))]
theorem isA_bad : isA G (.exc "BadProgram" (.int 0)) "DrawError" = some true := by kernel_rfl
theorem setAttr1 {call : CallF} {p : Nat} {v : MV} (e : h[p]? = some (.ins "Program" [])) : setAttrM ⟨G, call⟩ (.ref p) "own_text" v h = some (h.set p (.ins "Program" [(Str.ofString "own_text", v)])) := by
  unfold setAttrM ins?
  simp only [e]
  kernel_rfl
end
end K82
end T_L10
section T_L11
set_option linter.all false
set_option maxRecDepth 100000
/-! L11: the program's own __init__. -/
namespace Ev
open PySem L2
theorem in_strs {h : MH} {k : Nat} {ns : List Str} (e : h[k]? = some (.lst (ns.map .str))) (ok : ∀ x ∈ ns, Asc x) (hl : ns.length ≤ 90000) {x : Str} (hx : Asc x) : inD h (.str x) (.ref k) = some (ns.contains x) := by
  rw [inD_lst (n := 0) (m := 0) (lay_strs ok) (by omega) (by simpa using hl) e (Lay.str hx.okc) (by omega), List.any_map]
  congr 1
  rw [← List.any_beq']
  congr 1
theorem sortSet_mem (l : List Str) (x : Str) : x ∈ sortSet l ↔ x ∈ l := (Sd.sortSet_ok l).2.mem_iff.trans (seenL_mem l x)
theorem sortSet_len (l : List Str) : (sortSet l).length ≤ l.length := by
  rw [(Sd.sortSet_ok l).2.length_eq]
  exact Sd.seenL_len l
theorem lines_asc {t : Str} (ha : Asc t) : ∀ l ∈ linesS t, Asc l := fun l hl => split_asc ha hl
end Ev
namespace K82
open PySem L2 Ev
section
variable {d : Nat} {h : MH}
theorem setAttr2 {call : CallF} {p : Nat} {v a : MV} (e : h[p]? = some (.ins "Program" [(Str.ofString "own_text", a)])) : setAttrM ⟨G, call⟩ (.ref p) "own_inputs" v h = some (h.set p (.ins "Program" [(Str.ofString "own_text", a), (Str.ofString "own_inputs", v)])) := by
  unfold setAttrM ins?
  simp only [e]
  kernel_rfl
theorem setAttr3 {call : CallF} {p : Nat} {v a b : MV} (e : h[p]? = some (.ins "Program" [(Str.ofString "own_text", a), (Str.ofString "own_inputs", b)])) : setAttrM ⟨G, call⟩ (.ref p) "own_steps" v h = some (h.set p (.ins "Program" [(Str.ofString "own_text", a), (Str.ofString "own_inputs", b), (Str.ofString "own_steps", v)])) := by
  unfold setAttrM ins?
  simp only [e]
  kernel_rfl
theorem setAttr4 {call : CallF} {p : Nat} {v a b c : MV} (e : h[p]? = some (.ins "Program" [(Str.ofString "own_text", a), (Str.ofString "own_inputs", b), (Str.ofString "own_steps", c)])) : setAttrM ⟨G, call⟩ (.ref p) "own_sources" v h = some (h.set p (.ins "Program" [(Str.ofString "own_text", a), (Str.ofString "own_inputs", b), (Str.ofString "own_steps", c), (Str.ofString "own_sources", v)])) := by
  unfold setAttrM ins?
  simp only [e]
  kernel_rfl
theorem init_ok (p : Nat) (t : Str) (ha : Asc t) (hl : t.length ≤ 40000) (hp : h[p]? = some (.ins "Program" [])) : wE (callD G (d + 6) "Program.__init__" [.ref p, .str t] h)
    (fun v h' => v = .non ∧ Keep [p] h h' ∧ ∃ ss, progS t = .inr ss ∧ h'[p]? = some (.ins "Program" (flds t ss)))
    (fun x h' => Keep [p] h h' ∧ ∃ i : Nat, progS t = .inl i ∧ x = .exc "BadProgram" (.int (i : Nat))) := by
  have hs : Str.length "\n" = 1 := by decide +kernel
  rw [u_Program___init__]
  simp [c_Program___init__, b_Program___init__]
  refine wS_mid (fun e h' => e = [some (.ref p), some (.str t), none, none, none, none, none, none, none, none] ∧ h' = h) (by simp) ?_
  intro e h' z; obtain ⟨rfl, hh⟩ := z; subst hh
  have hpl := lt_of hp
  refine wS_mid (fun e h1 => e = [some (.ref p), some (.str t), some (.ref h'.length), some (.ref (h'.length + 1)), some (.ref (h'.length + 2)), some (.ref (h'.length + 3)), none, none, none, none] ∧ h1 = h' ++ [.dic [], .lst [], .lst [], .lst []]) (by simp) ?_
  intro e h1 z; obtain ⟨rfl, hh⟩ := z
  have kp : Keep [] h' h1 := by rw [hh]; exact Keep.app _
  have g0 : h1[h'.length]? = some (.dic []) := by rw [hh]; simp
  have g1 : h1[h'.length + 1]? = some (.lst []) := by rw [hh, List.getElem?_append_right (by omega)]; simp
  have g2 : h1[h'.length + 2]? = some (.lst []) := by rw [hh, List.getElem?_append_right (by omega)]; simp
  have g3 : h1[h'.length + 3]? = some (.lst []) := by rw [hh, List.getElem?_append_right (by omega)]; simp
  have hpl1 := kp.at hp (by simp)
  have hln : h1.length = h'.length + 4 := by rw [hh]; simp
  generalize hB : h'.length = B at *
  clear hh
  have kx : ∀ h2, Keep [B, B + 1, B + 2, B + 3] h1 h2 → Keep [p] h' h2 := fun h2 k2 => (kp.inner k2 (by simp; omega)).all
  refine wS_mid (fun e h2 => ∃ a b c, e = [some (.ref p), some (.str t), some (.ref B), some (.ref (B + 1)), some (.ref (B + 2)), some (.ref (B + 3)), a, b, c, none] ∧ Keep [B, B + 1, B + 2, B + 3] h1 h2 ∧ ∃ ss, progS t = .inr ss ∧ (∀ s ∈ ss, s.Ok) ∧ ss.length ≤ 8 ∧
    (∃ ins, InsOk ins (stF ss).free ∧ h2[B + 1]? = some (.lst (ins.map .str))) ∧ h2[B + 2]? = some (.lst (ss.map Pst.mv)) ∧ h2[B + 3]? = some (.lst ((stF ss).srcs.map .tup))) ?_ ?_
  · simp
    rw [m_split (by rw [hs]; rfl) (by omega)]
    simp [enumOf]
    have hll : (linesS t).length ≤ 40001 := by have := split_len t "\n" (by omega); unfold linesS; omega
    have lasc := lines_asc ha
    have llen : ∀ l ∈ linesS t, l.length ≤ 40000 := fun l hl' => Nat.le_trans (split_part hl') hl
    change wS (forL _ _ LF (It.enum h1.length 0) _ (h1 ++ [.lst ((linesS t).map .str)])) _
    have hps : progS t = goL (linesS t) [] := rfl
    rw [hps]
    generalize linesS t = ls at *
    have kL : Keep [B, B + 1, B + 2, B + 3] h1 (h1 ++ [.lst (ls.map .str)]) := Keep.app _
    refine w_for (ms := [B, B + 1, B + 2, B + 3]) ls.zipIdx (fun p => .tup [.int (p.2 : Nat), .str p.1])
      (fun done e h2 => ∃ a b c, e = [some (.ref p), some (.str t), some (.ref B), some (.ref (B + 1)), some (.ref (B + 2)), some (.ref (B + 3)), a, b, c, none] ∧ Keep [B, B + 1, B + 2, B + 3] (h1 ++ [.lst (ls.map .str)]) h2 ∧
        ∃ ss, ss.length = done.length ∧ goL ls [] = goL (ls.drop done.length) ss ∧ (∀ s ∈ ss, s.Ok) ∧ ss.length ≤ 8 ∧ h2[B]? = some (.dic (stF ss).made) ∧ (∃ ins, InsOk ins (stF ss).free ∧ h2[B + 1]? = some (.lst (ins.map .str))) ∧ h2[B + 2]? = some (.lst (ss.map Pst.mv)) ∧ h2[B + 3]? = some (.lst ((stF ss).srcs.map .tup)))
      ?_ (by rw [zipIdx_len]; omega) (fun _ _ _ z => by obtain ⟨_, _, _, _, z, _⟩ := z; exact z) (fun done x rest e h2 hx hI => ?_) ?_ (fun e h2 hI => ?_)
    · have := Its.enum (ms := [B, B + 1, B + 2, B + 3]) (h := h1 ++ [.lst (ls.map .str)]) List.getElem?_concat_length (by simp; omega)
      rw [show ls.zipIdx.map (fun p => MV.tup [.int (p.2 : Nat), .str p.1]) = (ls.map MV.str).zipIdx.map (fun p => MV.tup [.int (p.2 : Nat), p.1]) by
        rw [List.zipIdx_map, List.map_map] <;> rfl]
      exact this
    · obtain ⟨a, b, c, rfl, k2, ss, hsl, hgo, oks, h8, m0, ⟨ins, io, m1⟩, m2, m3⟩ := hI
      obtain ⟨l, i⟩ := x
      obtain ⟨hi, hls⟩ := zipIdx_split hx
      simp only at hi hls
      have hal := lasc l (by rw [hls]; simp)
      have hlll := llen l (by rw [hls]; simp)
      have hdr : ls.drop done.length = l :: rest.map (·.1) := by
        rw [hls, List.drop_left' (by simp)]
      rw [hdr] at hgo
      have q := stF_ok oks
      have hdrop2 : ls.drop (done ++ [(l, i)]).length = rest.map (·.1) := by
        rw [List.length_append, List.length_singleton, ← List.drop_drop, hdr]; rfl
      refine ⟨_, rfl, ?_⟩
      have hst := lineS_mv hal
      have bad : (lineS l = none ∨ ss.length = 8) → goL ls [] = .inl (i + 1) := fun z => by
        rw [hgo]
        unfold goL
        cases hq : lineS l with
        | none => simp [hsl, hi]
        | some s => rcases z with z | z
                    · rw [z] at hq; cases hq
                    · simp only [z, if_true, hi, ← hsl]
      have bad2 : ∀ s, lineS l = some s → 4 < (inputsS (ss ++ [s])).length → goL ls [] = .inl (i + 1) := fun s hq z => by
        rw [hgo]
        unfold goL
        rw [hq]
        by_cases z8 : ss.length = 8
        · simp only [z8, if_true, hi, ← hsl]
        · simp only [z8, if_false, z, if_true, hi, ← hsl]
      refine wS_mid (fun e h3 => e = [some (.ref p), some (.str t), some (.ref B), some (.ref (B + 1)), some (.ref (B + 2)), some (.ref (B + 3)), some (.int (i : Nat)), some (.str l), some (optL (stepP (Txt.split l " "))), none] ∧ Keep [] h2 h3) ?_ ?_
      · rw [w_asgN]
        simp
        refine wE.to (step_in_ok l hal hlll) fun v h3 hv => ?_
        obtain ⟨rfl, k3⟩ := hv
        exact ⟨rfl, k3⟩
      intro e h3 z; obtain ⟨rfl, k3⟩ := z
      rw [hst.1]
      have k3p := kx h3 ((kL.trans k2).trans k3.all)
      have oks' := hst.2
      generalize hq : lineS l = o at *
      refine wS_mid (fun e h4 => e = [some (.ref p), some (.str t), some (.ref B), some (.ref (B + 1)), some (.ref (B + 2)), some (.ref (B + 3)), some (.int (i : Nat)), some (.str l), some (match o with | none => .non | some s => s.mv), none] ∧ h4 = h3 ∧ ∃ s, o = some s ∧ ¬ ss.length = 8) ?_ ?_
      · cases o with
        | none =>
          simp
          exact ⟨k3p, _, bad (.inl rfl), by simp⟩
        | some s =>
          have hmv : s.mv = .tup (.str s.n :: .str s.w :: s.xs) := rfl
          simp [hmv]
          refine wB.mk (fun g => ?_) (fun g => ?_)
          · have g : i = 8 := by simp at g; omega
            exact ⟨k3p, _, bad (.inr (by omega)), by simp⟩
          · have g : ¬ i = 8 := by simp at g; omega
            simp
            omega
      intro e h4 z; obtain ⟨rfl, rfl, s, rfl, hn8⟩ := z
      have os := oks' s rfl
      simp only
      have q2 : ∀ t ∈ ss ++ [s], t.Ok := fun t ht => by
        rcases List.mem_append.mp ht with ht | ht
        · exact oks t ht
        · rw [List.mem_singleton.mp ht]; exact os
      have m0' := k3.at m0 (by simp)
      have m1' := k3.at m1 (by simp)
      have m2' := k3.at m2 (by simp)
      have m3' := k3.at m3 (by simp)
      have kk := k2.trans k3.all
      have iasc : ∀ x ∈ ins, Asc x := fun x hx => q.free x ((io.mem x).mp hx)
      have il : ins.length ≤ 20 := by rw [io.len]; have := sortSet_len (stF ss).free; have := q.nfree; omega
      have hB3 : B + 3 < h4.length := lt_of m3'
      clear m0 m1 m2 m3 k3 k2 h2
      have io' := insOk_step io s
      have hins' : ((sortSet s.ns).filter fun x => (lookK (.inr x) (stF ss).made).isNone && !ins.contains x).length ≤ 2 := by
        have h1 := List.length_filter_le (fun x => (lookK (.inr x) (stF ss).made).isNone && !ins.contains x) (sortSet s.ns)
        have h2 := sortSet_len s.ns
        have := os.nl
        omega
      refine wS_st (fun e h5 => e = [some (.ref p), some (.str t), some (.ref B), some (.ref (B + 1)), some (.ref (B + 2)), some (.ref (B + 3)), some (.int (i : Nat)), some (.str l), some s.mv, none] ∧ Keep [B, B + 1, B + 2, B + 3] h4 h5 ∧ h5[B]? = some (.dic (stF ss).made) ∧ h5[B + 1]? = some (.lst ((ins ++ (sortSet s.ns).filter fun x => (lookK (.inr x) (stF ss).made).isNone && !ins.contains x).map .str)) ∧ h5[B + 2]? = some (.lst (ss.map Pst.mv)) ∧ h5[B + 3]? = some (.lst ((stF ss).srcs.map .tup))) (fun nx hn => ?_) ?_
      · simp [metX_lst m1', names_in_sp s os, sset_tup (show s.ns.length < 64 by have := os.nl; omega), iterOf]
        refine w_filter (ms := []) (sortSet s.ns) MV.str MV.str (fun x => (lookK (.inr x) (stF ss).made).isNone && !ins.contains x) (Its.lst (by simp) (by simp)) (by have := sortSet_len s.ns; have := os.nl; omega) (fun x h5 hx5 k5 => ?_) fun h5 k5 => ?_
        · have k6 := (Keep.app (ms := []) (h := h4) [.lst ((sortSet s.ns).map .str)]).trans k5
          have n0 := k6.at m0' (by simp)
          have n1 := k6.at m1' (by simp)
          refine ⟨_, rfl, ?_⟩
          have hc := in_strs n1 iasc (by omega) (os.ns x ((sortSet_mem s.ns x).mp hx5))
          cases hz : lookK (.inr x) (stF ss).made <;> simp [in_dic n0 (key_str (a := x)), hz, hc, Keep.refl]
        · have k6 := ((Keep.app (ms := []) (h := h4) [.lst ((sortSet s.ns).map .str)]).trans k5).push [.lst (((sortSet s.ns).filter fun x => (lookK (.inr x) (stF ss).made).isNone && !ins.contains x).map .str)]
          have n0 := k6.at m0' (by simp)
          have n1 := k6.at m1' (by simp)
          have n2 := k6.at m2' (by simp)
          have n3 := k6.at m3' (by simp)
          refine ⟨by simp only [List.length_map]; omega, ?_⟩
          rw [m_extend n1 List.getElem?_concat_length (by simp only [List.length_map]; omega)]
          simp only [wO_some]
          exact hn _ _ ⟨rfl, k6.all.set (.inl (by simp)), set_ne (by omega) n0, by rw [set_get n1, List.map_append], set_ne (by omega) n2, set_ne (by omega) n3⟩
      intro e h5 z; obtain ⟨rfl, k5, m0, m1, m2, m3⟩ := z
      have kk5 := kk.trans k5
      have hil : (ins ++ (sortSet s.ns).filter fun x => (lookK (.inr x) (stF ss).made).isNone && !ins.contains x).length = (inputsS (ss ++ [s])).length := by
        rw [io'.len]
        unfold inputsS
        rw [stF_snoc]
      generalize (ins ++ (sortSet s.ns).filter fun x => (lookK (.inr x) (stF ss).made).isNone && !ins.contains x) = ins2 at *
      refine wS_st (fun e h6 => e = [some (.ref p), some (.str t), some (.ref B), some (.ref (B + 1)), some (.ref (B + 2)), some (.ref (B + 3)), some (.int (i : Nat)), some (.str l), some s.mv, none] ∧ h6 = h5 ∧ ¬ 4 < (inputsS (ss ++ [s])).length) (fun nx hn => ?_) ?_
      · simp [lenX_lst m1]
        refine wB.mk (fun g => ?_) (fun g => ?_)
        · have g : 4 < (inputsS (ss ++ [s])).length := by have := of_decide_eq_true g; omega
          exact ⟨kx h5 (kL.trans kk5), _, bad2 s rfl g, by simp⟩
        · have g : ¬ 4 < (inputsS (ss ++ [s])).length := by have := of_decide_eq_false g; omega
          exact hn _ _ ⟨rfl, rfl, g⟩
      intro e h6 z; obtain ⟨rfl, hh, hn4⟩ := z; subst hh
      have hgo2 : goL ls [] = goL (rest.map (·.1)) (ss ++ [s]) := by
        rw [hgo, goL, hq]
        simp [hn8, hn4]
      refine wS_st (fun e h7 => e = [some (.ref p), some (.str t), some (.ref B), some (.ref (B + 1)), some (.ref (B + 2)), some (.ref (B + 3)), some (.int (i : Nat)), some (.str l), some s.mv, none] ∧ Keep [B, B + 1, B + 2, B + 3] h6 h7 ∧ h7[B]? = some (.dic (stF ss).made) ∧ h7[B + 1]? = some (.lst (ins2.map .str)) ∧ h7[B + 2]? = some (.lst (ss.map Pst.mv)) ∧ h7[B + 3]? = some (.lst ((stF (ss ++ [s])).srcs.map .tup))) (fun nx hn => ?_) ?_
      · simp [metX_lst m3, names_in_sp s os]
        refine w_map (ms := []) s.ns MV.str (srcV (stF ss).made) Its.tup (by have := os.nl; omega) (fun x h7 hx7 k7 => ?_) fun h7 k7 => ?_
        · have n0 := k7.at m0 (by simp)
          refine ⟨_, rfl, ?_⟩
          simp [metX_dic n0, m_get n0 (key_str (a := x)), srcV, Keep.refl]
        · have k8 := k7.push [.lst (s.ns.map (srcV (stF ss).made))]
          have n0 := k8.at m0 (by simp)
          have n1 := k8.at m1 (by simp)
          have n2 := k8.at m2 (by simp)
          have n3 := k8.at m3 (by simp)
          refine ⟨by have := os.nl; simp; omega, ?_⟩
          rw [bTuple_lst List.getElem?_concat_length]
          simp only [wO_some]
          rw [m_append n3 (by have := q.nsrc; simp; omega)]
          simp only [wO_some]
          refine hn _ _ ⟨rfl, k8.all.set (.inl (by simp)), set_ne (by omega) n0, set_ne (by omega) n1, set_ne (by omega) n2, ?_⟩
          rw [set_get n3, stF_snoc]
          simp [stp]
      intro e h7 z; obtain ⟨rfl, k7, n0, n1, n2, n3⟩ := z
      have hmv : s.mv = .tup (.str s.n :: .str s.w :: s.xs) := rfl
      have kk7 := kk5.trans k7
      refine wS_mid (fun e h8 => e = [some (.ref p), some (.str t), some (.ref B), some (.ref (B + 1)), some (.ref (B + 2)), some (.ref (B + 3)), some (.int (i : Nat)), some (.str l), some s.mv, none] ∧ h8 = h7.set B (.dic (stF (ss ++ [s])).made)) ?_ ?_
      · have hput := put_dic (x := .int (i : Nat)) n0 (key_str (a := s.n)) (by have := q.nmade; omega)
        simp [hmv, hput]
        rw [stF_snoc]
        simp only [stp, q.nsrc, hsl, hi]
      intro e h8 z; obtain ⟨rfl, rfl⟩ := z
      have k8 : Keep [B, B + 1, B + 2, B + 3] h7 (h7.set B (.dic (stF (ss ++ [s])).made)) := Keep.refl.set (.inl (by simp))
      have o0 := set_get (u := .dic (stF (ss ++ [s])).made) n0
      have o1 := set_ne (u := .dic (stF (ss ++ [s])).made) (k := B) (by omega) n1
      have o2 := set_ne (u := .dic (stF (ss ++ [s])).made) (k := B) (by omega) n2
      have o3 := set_ne (u := .dic (stF (ss ++ [s])).made) (k := B) (by omega) n3
      have kk8 := kk7.trans k8
      generalize h7.set B (.dic (stF (ss ++ [s])).made) = h8 at *
      refine wS_seq fun nx hn => ?_
      simp [metX_lst o2, m_append o2 (show (ss.map Pst.mv).length < 16777216 by simp; omega)]
      refine hn _ _ ?_
      simp only [w_nxS]
      refine ⟨_, _, _, rfl, kk8.set (.inl (by simp)), ss ++ [s], by simp [hsl], ?_, q2, by simp; omega, set_ne (by omega) o0, ⟨ins2, ?_, set_ne (by omega) o1⟩, ?_, set_ne (by omega) o3⟩
      · rw [hgo2, hdrop2]
      · rw [stF_snoc]; exact io'
      · rw [set_get o2, List.map_append]; rfl
    · exact ⟨_, _, _, rfl, Keep.refl, [], rfl, rfl, by simp, by simp, by rw [List.getElem?_append_left (by omega)]; exact g0, ⟨[], ⟨List.nodup_nil, by simp [stF_nil]⟩, by rw [List.getElem?_append_left (by omega)]; exact g1⟩, by rw [List.getElem?_append_left (by omega)]; exact g2, by rw [List.getElem?_append_left (by omega)]; exact g3⟩
    · obtain ⟨a, b, c, rfl, k2, ss, hsl, hgo, oks, h8, m0, m1, m2, m3⟩ := hI
      refine ⟨⟨a, b, c, rfl⟩, kL.trans k2, ss, ?_, oks, h8, m1, m2, m3⟩
      rw [hgo, zipIdx_len, List.drop_length]
      rfl
  intro e h2 z; obtain ⟨a, b, c, rfl, k2, ss, hps, oks, h8, ⟨ins, io, m1⟩, m2, m3⟩ := z
  have q := stF_ok oks
  have iasc : ∀ x ∈ ins, Asc x := fun x hx => q.free x ((io.mem x).mp hx)
  have il : ins.length ≤ 20 := by rw [io.len]; have := sortSet_len (stF ss).free; have := q.nfree; omega
  have p2 := k2.at hpl1 (by simp; omega)
  have kp2 : Keep [p] h' h2 := kx h2 k2
  refine wS_mid (fun e h3 => e = [some (.ref p), some (.str t), some (.ref B), some (.ref (B + 1)), some (.ref (B + 2)), some (.ref (B + 3)), a, b, c, none] ∧ h3 = h2.set p (.ins "Program" [(Str.ofString "own_text", .str t)])) (by simp [setAttr1 p2]) ?_
  intro e h3 z; obtain ⟨rfl, rfl⟩ := z
  have p3 := set_get (u := .ins "Program" [(Str.ofString "own_text", .str t)]) p2
  have q1 := set_ne (u := .ins "Program" [(Str.ofString "own_text", .str t)]) (k := p) (by omega) m1
  have q2 := set_ne (u := .ins "Program" [(Str.ofString "own_text", .str t)]) (k := p) (by omega) m2
  have q3 := set_ne (u := .ins "Program" [(Str.ofString "own_text", .str t)]) (k := p) (by omega) m3
  have kp3 : Keep [p] h' (h2.set p (.ins "Program" [(Str.ofString "own_text", .str t)])) := kp2.set (.inl (by simp))
  generalize h2.set p (.ins "Program" [(Str.ofString "own_text", .str t)]) = h3 at *
  have hsort : ((sortAll ins).map MV.str) = (inputsS ss).map .str := by rw [io.sort]; rfl
  refine wS_mid (fun e h4 => e = [some (.ref p), some (.str t), some (.ref B), some (.ref (B + 1)), some (.ref (B + 2)), some (.ref (B + 3)), a, b, c, none] ∧ h4 = (h3 ++ [MO.lst ((inputsS ss).map .str)]).set p (MO.ins "Program" [(Str.ofString "own_text", .str t), (Str.ofString "own_inputs", .tup ((inputsS ss).map .str))])) ?_ ?_
  · simp [bSorted_lst q1 (show ins.length < 64 by omega), hsort]
    rw [bTuple_lst List.getElem?_concat_length]
    simp [setAttr2 ((Keep.app (ms := []) [.lst ((inputsS ss).map .str)]).at p3 (by simp))]
  intro e h4 z; obtain ⟨rfl, rfl⟩ := z
  have p3' := (Keep.app (ms := []) [.lst ((inputsS ss).map .str)]).at p3 (by simp)
  have q2' := (Keep.app (ms := []) [.lst ((inputsS ss).map .str)]).at q2 (by simp)
  have q3' := (Keep.app (ms := []) [.lst ((inputsS ss).map .str)]).at q3 (by simp)
  have p4 := set_get (u := .ins "Program" [(Str.ofString "own_text", .str t), (Str.ofString "own_inputs", .tup ((inputsS ss).map .str))]) p3'
  have r2 := set_ne (u := .ins "Program" [(Str.ofString "own_text", .str t), (Str.ofString "own_inputs", .tup ((inputsS ss).map .str))]) (k := p) (by omega) q2'
  have r3 := set_ne (u := .ins "Program" [(Str.ofString "own_text", .str t), (Str.ofString "own_inputs", .tup ((inputsS ss).map .str))]) (k := p) (by omega) q3'
  have kp4 := (kp3.push [.lst ((inputsS ss).map .str)]).set (k := p) (o := .ins "Program" [(Str.ofString "own_text", .str t), (Str.ofString "own_inputs", .tup ((inputsS ss).map .str))]) (.inl (by simp))
  generalize (h3 ++ [MO.lst ((inputsS ss).map .str)]).set p (MO.ins "Program" [(Str.ofString "own_text", .str t), (Str.ofString "own_inputs", .tup ((inputsS ss).map .str))]) = h4 at *
  refine wS_mid (fun e h5 => e = [some (.ref p), some (.str t), some (.ref B), some (.ref (B + 1)), some (.ref (B + 2)), some (.ref (B + 3)), a, b, c, none] ∧ h5 = h4.set p (.ins "Program" [(Str.ofString "own_text", .str t), (Str.ofString "own_inputs", .tup ((inputsS ss).map .str)), (Str.ofString "own_steps", .tup (ss.map Pst.mv))])) ?_ ?_
  · simp [bTuple_lst r2, setAttr3 p4]
  intro e h5 z; obtain ⟨rfl, rfl⟩ := z
  have p5 := set_get (u := .ins "Program" [(Str.ofString "own_text", .str t), (Str.ofString "own_inputs", .tup ((inputsS ss).map .str)), (Str.ofString "own_steps", .tup (ss.map Pst.mv))]) p4
  have s3 := set_ne (u := .ins "Program" [(Str.ofString "own_text", .str t), (Str.ofString "own_inputs", .tup ((inputsS ss).map .str)), (Str.ofString "own_steps", .tup (ss.map Pst.mv))]) (k := p) (by omega) r3
  have kp5 := kp4.set (k := p) (o := .ins "Program" [(Str.ofString "own_text", .str t), (Str.ofString "own_inputs", .tup ((inputsS ss).map .str)), (Str.ofString "own_steps", .tup (ss.map Pst.mv))]) (.inl (by simp))
  generalize h4.set p (.ins "Program" [(Str.ofString "own_text", .str t), (Str.ofString "own_inputs", .tup ((inputsS ss).map .str)), (Str.ofString "own_steps", .tup (ss.map Pst.mv))]) = h5 at *
  refine wS_seq fun nx hn => ?_
  simp [bTuple_lst s3, setAttr4 p5]
  refine hn _ _ ?_
  simp only [w_nxS]
  exact ⟨kp5.set (.inl (by simp)), ss, hps, by rw [set_get p5]; rfl⟩
end
end K82
end T_L11
section T_L12
set_option linter.all false
set_option maxRecDepth 100000
/-! L12: the law's own refusal; what a program tells. -/
namespace K82
open PySem L2 Ev
section
variable {d : Nat} {h : MH}
def badV : Sum Nat (List Pst) → MV
  | .inl i => .int (i : Nat)
  | .inr _ => .non
theorem bad_line_ok (t : Str) (ha : Asc t) (hl : t.length ≤ 40000) : wE (callD G (d + 5) "_law_bad_line" [.str t] h) (fun v h' => v = badV (progS t) ∧ Keep [] h h') no := by
  have hs : Str.length "\n" = 1 := by decide +kernel
  rw [u__law_bad_line]
  simp [c__law_bad_line, b__law_bad_line]
  refine wS_st (fun e h' => e = [some (.str t), none, none, none, none] ∧ h' = h) (fun nx hn => by simp; exact hn _ _ ⟨rfl, rfl⟩) ?_
  intro e h' z; obtain ⟨rfl, hh⟩ := z; subst hh
  refine wS_st (fun e h1 => e = [some (.str t), some (.ref h'.length), none, none, none] ∧ h1 = h' ++ [.lst []]) (fun nx hn => by simp; exact hn _ _ ⟨rfl, rfl⟩) ?_
  intro e h1 z; obtain ⟨rfl, hh⟩ := z
  have kp : Keep [] h' h1 := by rw [hh]; exact Keep.app _
  have g0 : h1[h'.length]? = some (.lst []) := by rw [hh]; simp
  have hln : h1.length = h'.length + 1 := by rw [hh]; simp
  generalize hB : h'.length = B at *
  clear hh
  generalize hV : badV (progS t) = V
  have kx : ∀ h2, Keep [B] h1 h2 → Keep [] h' h2 := fun h2 k2 => kp.inner k2 (by simp; omega)
  refine wS_st (fun e h2 => (∃ a b c, e = [some (.str t), some (.ref B), a, b, c]) ∧ Keep [] h' h2 ∧ V = .non) (fun nx hn => ?_) ?_
  · simp
    rw [m_split (by rw [hs]; rfl) (by omega)]
    simp [enumOf]
    have hll : (linesS t).length ≤ 40001 := by have := split_len t "\n" (by omega); unfold linesS; omega
    have lasc := lines_asc ha
    have llen : ∀ l ∈ linesS t, l.length ≤ 40000 := fun l hl' => Nat.le_trans (split_part hl') hl
    change wS (forL _ _ LF (It.enum h1.length 0) _ (h1 ++ [.lst ((linesS t).map .str)])) _
    have hps : progS t = goL (linesS t) [] := rfl
    rw [hps] at hV
    generalize linesS t = ls at *
    have kL : Keep [B] h1 (h1 ++ [.lst (ls.map .str)]) := Keep.app _
    refine w_for (ms := [B]) ls.zipIdx (fun p => .tup [.int (p.2 : Nat), .str p.1])
      (fun done e h2 => ∃ a b c, e = [some (.str t), some (.ref B), a, b, c] ∧ Keep [B] (h1 ++ [.lst (ls.map .str)]) h2 ∧
        ∃ ss, ss.length = done.length ∧ goL ls [] = goL (ls.drop done.length) ss ∧ Sl h2 B ss ∧ ss.length ≤ 8)
      ?_ (by rw [zipIdx_len]; omega) (fun _ _ _ z => by obtain ⟨_, _, _, _, z, _⟩ := z; exact z) (fun done x rest e h2 hx hI => ?_) ?_ (fun e h2 hI => ?_)
    · have := Its.enum (ms := [B]) (h := h1 ++ [.lst (ls.map .str)]) List.getElem?_concat_length (by simp; omega)
      rw [show ls.zipIdx.map (fun p => MV.tup [.int (p.2 : Nat), .str p.1]) = (ls.map MV.str).zipIdx.map (fun p => MV.tup [.int (p.2 : Nat), p.1]) by
        rw [List.zipIdx_map, List.map_map] <;> rfl]
      exact this
    · obtain ⟨a, b, c, rfl, k2, ss, hsl, hgo, S, h8⟩ := hI
      obtain ⟨l, i⟩ := x
      obtain ⟨hi, hls⟩ := zipIdx_split hx
      simp only at hi hls
      have hal := lasc l (by rw [hls]; simp)
      have hlll := llen l (by rw [hls]; simp)
      have hdr : ls.drop done.length = l :: rest.map (·.1) := by
        rw [hls, List.drop_left' (by simp)]
      rw [hdr] at hgo
      have hdrop2 : ls.drop (done ++ [(l, i)]).length = rest.map (·.1) := by
        rw [List.length_append, List.length_singleton, ← List.drop_drop, hdr]; rfl
      refine ⟨_, rfl, ?_⟩
      have hst := lineS_mv hal
      have bad : (lineS l = none ∨ ss.length = 8) → V = .int ((i + 1 : Nat) : Int) := fun z => by
        rw [← hV, hgo]
        unfold goL
        cases hq : lineS l with
        | none => simp [hsl, hi, badV]
        | some s => rcases z with z | z
                    · rw [z] at hq; cases hq
                    · simp only [z, if_true, hi, ← hsl, badV]
      have bad2 : ∀ s, lineS l = some s → 4 < (inputsS (ss ++ [s])).length → V = .int ((i + 1 : Nat) : Int) := fun s hq z => by
        rw [← hV, hgo]
        unfold goL
        rw [hq]
        by_cases z8 : ss.length = 8
        · simp only [z8, if_true, hi, ← hsl, badV]
        · simp only [z8, if_false, z, if_true, hi, ← hsl, badV]
      refine wS_st (fun e h3 => e = [some (.str t), some (.ref B), some (.int (i : Nat)), some (.str l), some (optL (stepP (Txt.split l " ")))] ∧ Keep [] h2 h3) (fun nx hn => ?_) ?_
      · rw [w_asgN]
        simp
        refine wE.to (read_ok l hal hlll) fun v h3 hv => ?_
        obtain ⟨rfl, k3⟩ := hv
        exact hn _ _ ⟨rfl, k3⟩
      intro e h3 z; obtain ⟨rfl, k3⟩ := z
      rw [hst.1]
      have k3p := kx h3 ((kL.trans k2).trans k3.all)
      have oks' := hst.2
      generalize hq : lineS l = o at *
      refine wS_st (fun e h4 => e = [some (.str t), some (.ref B), some (.int (i : Nat)), some (.str l), some (match o with | none => .non | some s => s.mv)] ∧ h4 = h3 ∧ ∃ s, o = some s ∧ ¬ ss.length = 8) (fun nx hn => ?_) ?_
      · cases o with
        | none =>
          simp
          exact ⟨by rw [bad (.inl rfl)]; simp, k3p⟩
        | some s =>
          have hmv : s.mv = .tup (.str s.n :: .str s.w :: s.xs) := rfl
          simp [hmv]
          refine wB.mk (fun g => ?_) (fun g => ?_)
          · have g : i = 8 := by simp at g; omega
            exact ⟨by rw [bad (.inr (by omega))]; simp, k3p⟩
          · have g : ¬ i = 8 := by simp at g; omega
            exact hn _ _ ⟨rfl, rfl, s, rfl, by omega⟩
      intro e h4 z; obtain ⟨rfl, rfl, s, rfl, hn8⟩ := z
      have os := oks' s rfl
      simp only
      have S3 := S.keep0 k3
      have kk := k2.trans k3.all
      have q2 : ∀ t ∈ ss ++ [s], t.Ok := fun t ht => by
        rcases List.mem_append.mp ht with ht | ht
        · exact S.ok t ht
        · rw [List.mem_singleton.mp ht]; exact os
      refine wS_st (fun e h5 => e = [some (.str t), some (.ref B), some (.int (i : Nat)), some (.str l), some s.mv] ∧ Keep [B] h4 h5 ∧ Sl h5 B (ss ++ [s])) (fun nx hn => ?_) ?_
      · simp [metX_lst S3.at_, m_append S3.at_ (show (ss.map Pst.mv).length < 16777216 by simp; omega)]
        refine hn _ _ ⟨rfl, Keep.refl.set (.inl (by simp)), by rw [set_get S3.at_, List.map_append]; rfl, q2⟩
      intro e h5 z; obtain ⟨rfl, k5, S5⟩ := z
      refine wS_seq fun nx hn => ?_
      simp
      refine wE.to (inputs_ok B (ss ++ [s]) S5 (by simp; omega)) fun v h6 hv => ?_
      obtain ⟨k6, j, rfl, hj⟩ := hv
      have kk6 := (kk.trans k5).trans k6.all
      simp [lenX_lst hj]
      refine wB.mk (fun g => ?_) (fun g => ?_)
      · have g : 4 < (inputsS (ss ++ [s])).length := by have := of_decide_eq_true g; omega
        exact ⟨by rw [bad2 s rfl g]; simp, kx _ (kL.trans kk6)⟩
      · have g : ¬ 4 < (inputsS (ss ++ [s])).length := by have := of_decide_eq_false g; omega
        refine hn _ _ ?_
        simp only [w_nxS]
        refine ⟨_, _, _, rfl, kk6, ss ++ [s], by simp [hsl], ?_, S5.keep0 k6, by simp; omega⟩
        rw [hgo, goL, hq, hdrop2]
        simp [hn8, g]
    · exact ⟨_, _, _, rfl, Keep.refl, [], rfl, rfl, ⟨by rw [List.getElem?_append_left (by omega)]; exact g0, by simp⟩, by simp⟩
    · obtain ⟨a, b, c, rfl, k2, ss, hsl, hgo, S, h8⟩ := hI
      refine hn _ _ ⟨⟨a, b, c, rfl⟩, kx _ (kL.trans k2), ?_⟩
      rw [← hV, hgo, zipIdx_len, List.drop_length]
      rfl
  intro e h2 z; obtain ⟨_, k2, hv⟩ := z
  simp
  exact ⟨hv.symm, k2⟩
theorem bad_line_no (v : MV) (hv : isI G h v "str" = some false) : callD G (d + 1) "_law_bad_line" [v] h = some (.ok (.int 0) h) := by
  rw [u__law_bad_line]
  have h1 : wE (c__law_bad_line (callD G d) v h) (fun v h' => v = .int 0 ∧ h' = h) no := by
    simp [c__law_bad_line, b__law_bad_line]
    refine wS_seq fun nx hn => ?_
    simp [hv]
  obtain ⟨v, h', e, rfl, rfl⟩ := h1.get
  exact e
theorem init_no (p : Nat) (v : MV) (hv : isI G h v "str" = some false) : callD G (d + 1) "Program.__init__" [.ref p, v] h = some (.exc (.exc "BadProgram" (.int 0)) h) := by
  rw [u_Program___init__]
  have h1 : wE (c_Program___init__ (callD G d) (.ref p) v h) no (fun x h' => x = .exc "BadProgram" (.int 0) ∧ h' = h) := by
    simp [c_Program___init__, b_Program___init__]
    refine wS_seq fun nx hn => ?_
    simp [hv]
  generalize c_Program___init__ (callD G d) (.ref p) v h = o at h1
  rcases o with _ | ⟨_, _⟩ | ⟨x, h'⟩
  · exact h1.elim
  · exact h1.elim
  · obtain ⟨rfl, rfl⟩ := h1
    rfl
end
end K82
end T_L12
section T_L13
set_option linter.all false
set_option maxRecDepth 100000
/-! L13: what repr shows: its signs, its length. -/
namespace Ev
open PySem L2
mutual
/-- all texts are of signs below 128 -/
def ascD : PyData → Prop
  | .none | .bool _ | .int _ => True
  | .str x => Asc x
  | .list xs | .tuple xs => ascDs xs
  | .dict _ => False
def ascDs : List PyData → Prop
  | [] => True
  | x :: xs => ascD x ∧ ascDs xs
end
theorem asc_lit' {s : String} (h : (tl (Str.ofString s)).all (· < 128) = true) : Asc (Str.ofString s) := asc_of h
theorem asc_textFrom : ∀ (ts : List Str) (k : Nat) (acc : Str), Asc acc → (∀ t ∈ ts, Asc t) → Asc (textFrom k acc ts)
  | [], _, acc, ha, _ => ha
  | t :: ts, k, acc, ha, h => by
    unfold textFrom
    refine asc_textFrom ts (k + 1) _ ((ha.app ?_).app (h t List.mem_cons_self)) fun u hu => h u (List.mem_cons_of_mem _ hu)
    split
    · exact asc_lit' (by decide +kernel)
    · exact asc_lit' (by decide +kernel)
theorem asc_join (y : Str) (hy : Asc y) : ∀ (ts : List Str), (∀ t ∈ ts, Asc t) → Asc (Str.join y ts)
  | [], _ => fun c hc => by simp [tl, Str.join, Str.empty] at hc
  | [x], h => h x (by simp)
  | x :: z :: r, h => by
    show Asc (x ++ y ++ Str.join y (z :: r))
    exact ((h x (by simp)).app hy).app (asc_join y hy (z :: r) fun t ht => h t (List.mem_cons_of_mem _ ht))
theorem asc_char : ∀ c : Fin 128, (Builtin.Str.reprChar 34 c.val).all (· < 128) = true ∧ (Builtin.Str.reprChar 39 c.val).all (· < 128) = true := by decide +kernel
theorem asc_repr {x : Str} (hx : Asc x) : Asc (reprText x) := by
  have hq : reprQuote x = 34 ∨ reprQuote x = 39 := by unfold reprQuote; split <;> simp
  have hc : ∀ c ∈ tl x, ∀ b ∈ Builtin.Str.reprChar (reprQuote x) c, b < 128 := fun c hc b hb => by
    have := asc_char ⟨c, hx c hc⟩
    rcases hq with q | q
    · rw [q] at hb; exact of_decide_eq_true (List.all_eq_true.mp this.1 b hb)
    · rw [q] at hb; exact of_decide_eq_true (List.all_eq_true.mp this.2 b hb)
  have hq2 : reprQuote x < 128 := by rcases hq with q | q <;> omega
  have key : ∀ (l : List Nat) (acc : Array Nat), (∀ b ∈ acc.toList, b < 128) → (∀ c ∈ l, ∀ b ∈ Builtin.Str.reprChar (reprQuote x) c, b < 128) → ∀ b ∈ (l.foldl (fun out c => out ++ (Builtin.Str.reprChar (reprQuote x) c).toArray) acc).toList, b < 128 := by
    intro l
    induction l with
    | nil => exact fun acc h _ => h
    | cons c l ih =>
      intro acc h h2
      refine ih _ (fun b hb => ?_) fun c hc => h2 c (List.mem_cons_of_mem _ hc)
      simp at hb
      rcases hb with hb | hb
      · exact h b (by simpa using hb)
      · exact h2 c List.mem_cons_self b hb
  intro b hb
  unfold reprText tl at hb
  rw [← Array.foldl_toList] at hb
  simp only [Array.toList_push, List.mem_append, List.mem_singleton] at hb
  rcases hb with hb | hb
  · exact key _ _ (by simp; exact hq2) hc b hb
  · omega
mutual
theorem shown_asc : ∀ {d : PyData}, ascD d → Asc d.shown
  | .none, _ => by simp only [PyData.shown]; exact asc_lit' (by decide +kernel)
  | .bool b, _ => by
    simp only [PyData.shown]
    cases b
    · exact asc_lit' (by decide +kernel)
    · exact asc_lit' (by decide +kernel)
  | .int i, _ => by
    simp only [PyData.shown]
    intro c hc
    by_cases hi : 128 ≤ c
    · exact absurd hc (PyProof.Rows.int_text_free' c ⟨by omega, by omega⟩ i)
    · omega
  | .str x, h => by simp only [PyData.shown]; exact asc_repr (by simpa [ascD] using h)
  | .list xs, h => by
    simp only [PyData.shown, listText]
    exact (asc_textFrom _ _ _ (asc_lit' (by decide +kernel)) (shownAll_asc (by simpa [ascD] using h))).app (asc_lit' (by decide +kernel))
  | .tuple xs, h => by
    simp only [PyData.shown, tupleText]
    refine ((asc_lit' (by decide +kernel)).app (asc_join _ (asc_lit' (by decide +kernel)) _ (shownAll_asc (by simpa [ascD] using h)))).app ?_
    split
    · exact asc_lit' (by decide +kernel)
    · exact asc_lit' (by decide +kernel)
  | .dict _, h => by simp [ascD] at h
theorem shownAll_asc : ∀ {ds : List PyData}, ascDs ds → ∀ t ∈ PyData.shownAll ds, Asc t
  | [], _, t, ht => by simp [PyData.shownAll] at ht
  | d :: ds, h, t, ht => by
    simp only [ascDs] at h
    simp only [PyData.shownAll] at ht
    rcases List.mem_cons.mp ht with e | ht
    · rw [e]; exact shown_asc h.1
    · exact shownAll_asc h.2 t ht
end
/-- small: signs, numbers, size -/
structure Sm (w : Nat) (x : MV) : Prop where
  a : ascD (vD x)
  i : PyData.intsShort 13 (vD x) = true
  w : PyData.weight (vD x) ≤ w
theorem Sm.mono {w w' : Nat} {x : MV} (s : Sm w x) (h : w ≤ w') : Sm w' x := ⟨s.a, s.i, Nat.le_trans s.w h⟩
theorem Sm.non {w : Nat} : Sm w .non := ⟨by simp [vD, ascD], by simp [vD, PyData.intsShort], by simp [vD, PyData.weight]⟩
theorem Sm.str {w : Nat} {x : Str} (h : Asc x) (hl : x.length ≤ w) : Sm w (.str x) := ⟨by simpa [vD, ascD] using h, by simp [vD, PyData.intsShort], by simp only [vD, PyData.weight]; exact hl⟩
theorem Sm.int {w : Nat} {i : Int} (h : i.natAbs < 10 ^ 12) (hw : 64 ≤ w) : Sm w (.int i) := ⟨by simp [vD, ascD], by
    simp only [vD, PyData.intsShort]
    refine decide_eq_true ?_
    have := int_text_length_le10 (k := 12) (by omega) h
    show (PyData.int i).shown.length ≤ 13
    simp only [PyData.shown]
    rw [PyProof.Rows.ofString_len]; exact this, by
    simp only [vD, PyData.weight]
    split
    · omega
    · rename_i hn
      have h0 : i.natAbs ≠ 0 := by simp at hn; omega
      have := (Nat.log2_lt h0).mpr (show i.natAbs < 2 ^ 63 by omega)
      omega⟩
theorem sms {w : Nat} : ∀ {xs : List MV}, (∀ x ∈ xs, Sm w x) → ascDs (vDs xs) ∧ PyData.intsShortAll 13 (vDs xs) = true ∧ PyData.weightAll (vDs xs) ≤ xs.length * (w + 1)
  | [], _ => ⟨by simp [vDs, ascDs], by simp [vDs, PyData.intsShortAll], by simp [vDs, PyData.weightAll]⟩
  | x :: xs, h => by
    obtain ⟨h1, h2, h3⟩ := sms (xs := xs) fun y hy => h y (List.mem_cons_of_mem _ hy)
    have q := h x List.mem_cons_self
    have qw := q.w
    refine ⟨by simp only [vDs, ascDs]; exact ⟨q.a, h1⟩, by simp [vDs, PyData.intsShortAll, q.i, h2], ?_⟩
    simp only [vDs, PyData.weightAll, List.length_cons, Nat.succ_mul]
    omega
theorem Sm.tup {w n : Nat} {xs : List MV} (h : ∀ x ∈ xs, Sm w x) (hl : xs.length ≤ n) : Sm (n * (w + 1)) (.tup xs) := by
  obtain ⟨h1, h2, h3⟩ := sms h
  exact ⟨by simp only [vD, ascD]; exact h1, by simp only [vD, PyData.intsShort]; exact h2, by simp only [vD, PyData.weight]; exact Nat.le_trans h3 (Nat.mul_le_mul_right _ hl)⟩
/-- repr of a list of plain data -/
theorem repr_lst {h : MH} {k n w : Nat} {xs : List MV} (l : ∀ x ∈ xs, Lay n x) (hn : n ≤ 50) (hl : xs.length ≤ 1000) (e : h[k]? = some (.lst xs)) (s : ∀ x ∈ xs, Sm w x) (hw : xs.length * (w + 1) ≤ 1048576) :
    bRepr [.ref k] h = some (.str (PyData.shown (.list (vDs xs))), h) ∧ Asc (PyData.shown (.list (vDs xs))) := by
  obtain ⟨h1, h2, h3, h4, h5⟩ := lay_lst (h := h) l (by omega) (by omega) e
  obtain ⟨g1, g2, g3⟩ := sms s
  have hs : (PyData.shown (.list (vDs xs))).length ≤ 15728653 := by
    refine PyProof.Rows.shown_le13 ?_ (by simp only [PyData.intsShort]; exact g2)
    have hc : PyData.canLay0 (.list (vDs xs)) = true := SeqAt.canLay_of_shaped h3
    have hd := SeqAt.depth_of_shaped h3
    have hw' : PyData.weight (.list (vDs xs)) ≤ 2 ^ 20 := by
      simp only [PyData.weight]
      exact Nat.le_trans g3 hw
    simp only [PyData.layable0, hc, Bool.true_and, Bool.and_eq_true, decide_eq_true_eq]
    exact ⟨hd, hw'⟩
  exact ⟨bRepr_d h1 h4 (by omega) (by omega), shown_asc (by simp only [ascD]; exact g1)⟩
theorem repr_v {h : MH} {n w : Nat} {x : MV} (l : Lay n x) (hn : n ≤ 50) (s : Sm w x) (hw : w ≤ 1048576) : bRepr [x] h = some (.str (PyData.shown (vD x)), h) ∧ Asc (PyData.shown (vD x)) := by
  have hs : (PyData.shown (vD x)).length ≤ 15728653 := by
    refine PyProof.Rows.shown_le13 ?_ s.i
    have := s.w
    have := l.d
    simp only [PyData.layable0, l.c, Bool.true_and, Bool.and_eq_true, decide_eq_true_eq]
    exact ⟨by omega, Nat.le_trans (by omega) hw⟩
  exact ⟨bRepr_d (l.toD (by omega)) l.w (Nat.le_trans l.d (by omega)) (by omega), shown_asc s.a⟩
end Ev
end T_L13
section T_L14
set_option linter.all false
set_option maxRecDepth 100000
/-! L14: is a text read right? -/
namespace Ev
open PySem L2
theorem numS_lt9 {w : Str} {i : Int} (h : numS w = some i) : i.natAbs < 10 ^ 9 := by
  unfold numS at h
  split at h
  · rename_i hc
    have := valL_lt hc.1
    injection h with h
    rw [← h]
    exact this
  · cases h
theorem sm_optI (w : Str) : Sm 5000 (optI (numS w)) := by
  cases q : numS w with
  | none => exact Sm.non
  | some i => exact Sm.int (Nat.lt_trans (numS_lt9 q) (by decide)) (by omega)
theorem sm_optT (y : Str) : Sm 5000 (optT (shareS y)) := by
  cases q : shareS y with
  | none => exact Sm.non
  | some p =>
    unfold shareS at q
    split at q
    · cases q
    · have num : ∀ j, some j ∈ slashS y → Sm 64 (.int j) := fun j hj => by
        obtain ⟨a, _, e⟩ := List.mem_map.mp hj
        exact Sm.int (Nat.lt_trans (numS_lt9 e) (by decide)) (by omega)
      split at q
      · rename_i p' he
        split at q
        · injection q with q
          subst q
          refine (Sm.tup (w := 64) (n := 2) (fun x hx => ?_) (by simp)).mono (by omega)
          simp at hx
          rcases hx with e | e
          · subst e; exact num _ (by rw [he]; simp)
          · subst e; exact Sm.int (by decide) (by omega)
        · cases q
      · rename_i p' q' he
        split at q
        · injection q with q
          subst q
          refine (Sm.tup (w := 64) (n := 2) (fun x hx => ?_) (by simp)).mono (by omega)
          simp at hx
          rcases hx with e | e
          · subst e; exact num _ (by rw [he]; simp)
          · subst e; exact num _ (by rw [he]; simp)
        · cases q
      · cases q
theorem name_len {x : Str} (h : nameB x = true) : x.length ≤ 8 := by
  unfold nameB at h
  simp only [Bool.and_eq_true, decide_eq_true_eq] at h
  exact h.2.1
theorem pair_len {w : Str} (h : pairB w = true) : w.length ≤ 8 := by
  unfold pairB at h
  rw [Bool.or_eq_true, beq_iff_eq, beq_iff_eq] at h
  rcases h with rfl | rfl <;> decide +kernel
theorem size_len {w : Str} (h : sizeB w = true) : w.length ≤ 8 := by
  unfold sizeB at h
  rw [Bool.or_eq_true, beq_iff_eq, beq_iff_eq] at h
  rcases h with rfl | rfl <;> decide +kernel
theorem step_sm {ws : List Str} {xs : List MV} (ok : ∀ x ∈ ws, Asc x) (h : stepP ws = some xs) : ∀ y ∈ xs, Sm 5000 y := by
  unfold stepP at h
  split at h
  · rename_i n e w r
    split at h
    · cases h
    · rename_i hc
      obtain ⟨ys, hy, rfl⟩ := Option.map_eq_some_iff.mp h
      have hnb : nameB n = true := by
        cases q : nameB n with
        | true => rfl
        | false => exact absurd (.inr (.inl q)) hc
      have hn := ok n (by simp)
      have hw := ok w (by simp)
      have okr : ∀ x ∈ r, Asc x := fun x hx => ok x (by simp [hx])
      have key : (∀ y ∈ ys, Sm 5000 y) ∧ w.length ≤ 8 := by
        unfold restP at hy
        split at hy
        · rename_i hp
          split at hy
          · rename_i h2
            injection hy with hy
            subst hy
            refine ⟨fun y hy => ?_, pair_len hp⟩
            obtain ⟨a, ha, rfl⟩ := List.mem_map.mp hy
            have := name_len (List.all_eq_true.mp h2.2 a ha)
            exact Sm.str (okr a ha) (by omega)
          · cases hy
        · match r, hy, okr with
          | [], hy, _ => cases hy
          | a :: r', hy, okr =>
            have hy : restQ w a r' = some ys := hy
            have ha := okr a (by simp)
            have hab : nameB a = true := by
              cases q : nameB a with
              | true => rfl
              | false => simp [restQ, q] at hy
            have hal := name_len hab
            have sa : Sm 5000 (.str a) := Sm.str ha (by omega)
            have li : ∀ x ∈ MV.str a :: r'.map (fun x => optI (numS x)), Sm 5000 x := fun x hx => by
              rcases List.mem_cons.mp hx with e | hx
              · subst e; exact sa
              · obtain ⟨z, _, rfl⟩ := List.mem_map.mp hx
                exact sm_optI z
            have lt : ∀ x ∈ MV.str a :: r'.map (fun x => optT (shareS x)), Sm 5000 x := fun x hx => by
              rcases List.mem_cons.mp hx with e | hx
              · subst e; exact sa
              · obtain ⟨z, _, rfl⟩ := List.mem_map.mp hx
                exact sm_optT z
            unfold restQ at hy
            rw [if_neg (by rw [hab]; exact Bool.noConfusion)] at hy
            split at hy
            · rename_i hm
              have hml : w.length ≤ 8 := by rw [hm]; decide +kernel
              split at hy
              · injection hy with hy; subst hy; exact ⟨lt, hml⟩
              · cases hy
            · split at hy
              · cases hy
              · split at hy
                · rename_i hm
                  have hml : w.length ≤ 8 := by rw [hm]; decide +kernel
                  split at hy
                  · injection hy with hy; subst hy; exact ⟨li, hml⟩
                  · cases hy
                · split at hy
                  · cases hy
                  · rename_i hz
                    have hml : w.length ≤ 8 := size_len (by
                      cases q : sizeB w with
                      | true => rfl
                      | false => exact absurd (.inl q) hz)
                    split at hy
                    · injection hy with hy; subst hy; exact ⟨li, hml⟩
                    · cases hy
      intro y hy
      rcases List.mem_cons.mp hy with e | hy
      · subst e; exact Sm.str hn (by have := name_len hnb; omega)
      · rcases List.mem_cons.mp hy with e | hy
        · subst e; exact Sm.str hw (by have := key.2; omega)
        · exact key.1 y hy
  · cases h
/-- a small step -/
structure Pst.Fit (s : Pst) : Prop where
  ok : s.Ok
  sm : ∀ y ∈ MV.str s.n :: .str s.w :: s.xs, Sm 5000 y
theorem Pst.Fit.mv {s : Pst} (f : s.Fit) : Sm 30006 s.mv := Sm.tup (n := 6) f.sm (by have := f.ok.len; simp; omega)
theorem Pst.Fit.ns {s : Pst} (f : s.Fit) : ∀ x ∈ s.ns, Sm 5000 (.str x) := fun x hx => by
  cases q : pairB s.w with
  | true =>
    have := (f.ok.two q).1
    exact f.sm _ (by rw [this]; simp [hx])
  | false =>
    obtain ⟨a, e, r, e2⟩ := f.ok.one q
    rw [e] at hx
    simp at hx
    subst hx
    exact f.sm _ (by rw [e2]; simp)
theorem line_fit {l : Str} (ha : Asc l) {s : Pst} (h : lineS l = some s) : s.Fit := by
  refine ⟨(lineS_mv ha).2 s h, ?_⟩
  unfold lineS at h
  obtain ⟨xs, hx, rfl⟩ := Option.map_eq_some_iff.mp h
  have := step_sm (fun x hx => split_asc ha hx) hx
  have e := (step_sp (fun x hx => split_asc ha hx) hx).1
  unfold Pst.mv at e
  injection e with e
  rw [e]
  exact this
theorem goL_lines : ∀ {ls : List Str} {acc ss : List Pst}, goL ls acc = .inr ss → ∃ new, ss = acc ++ new ∧ ls.map lineS = new.map some
  | [], acc, ss, e => by cases e; exact ⟨[], by simp, rfl⟩
  | l :: r, acc, ss, e => by
    unfold goL at e
    split at e
    · cases e
    · rename_i s hs
      split at e
      · cases e
      · split at e
        · cases e
        · obtain ⟨new, h1, h2⟩ := goL_lines e
          exact ⟨s :: new, by rw [h1]; simp, by simp [hs, h2]⟩
theorem free_mem : ∀ {ss : List Pst} {x : Str}, x ∈ (stF ss).free → ∃ s ∈ ss, x ∈ s.ns := by
  intro ss
  induction h : ss.length using Nat.strongRecOn generalizing ss with
  | _ n ih =>
    intro x hx
    rcases List.eq_nil_or_concat ss with e | ⟨r, t, e⟩
    · subst e; simp [stF_nil] at hx
    · rw [List.concat_eq_append] at e
      subst e
      rw [stF_snoc] at hx
      simp only [stp] at hx
      rcases List.mem_append.mp hx with hx | hx
      · obtain ⟨s, hs, hxs⟩ := ih r.length (by rw [← h]; simp) rfl hx
        exact ⟨s, by simp [hs], hxs⟩
      · exact ⟨t, by simp, (List.mem_filter.mp hx).1⟩
/-- what a good text tells -/
def toldS (t : Str) (ss : List Pst) : List MV := [.str t, .tup ((inputsS ss).map .str), .tup (ss.map Pst.mv), .int (ss.length : Nat)]
theorem told_ok {t : Str} {ss : List Pst} (ha : Asc t) (hl : t.length ≤ 40000) (f : ∀ s ∈ ss, s.Fit) (h8 : ss.length ≤ 8) : (∀ x ∈ toldS t ss, Lay 3 x) ∧ (∀ x ∈ toldS t ss, Sm 250000 x) := by
  have q := stF_ok fun s hs => (f s hs).ok
  have hi : (inputsS ss).length ≤ 16 := by
    have := sortSet_len (stF ss).free
    have := q.nfree
    unfold inputsS; omega
  have hin : ∀ x ∈ inputsS ss, Asc x ∧ Sm 5000 (.str x) := fun x hx => by
    have hx := (sortSet_mem _ x).mp hx
    obtain ⟨s, hs, hxs⟩ := free_mem hx
    exact ⟨q.free x hx, (f s hs).ns x hxs⟩
  constructor
  · intro x hx
    simp only [toldS, List.mem_cons, List.not_mem_nil, or_false] at hx
    rcases hx with rfl | rfl | rfl | rfl
    · exact Lay.str ha.okc
    · exact (Lay.tup (n := 0) (fun y hy => by
        obtain ⟨z, hz, rfl⟩ := List.mem_map.mp hy
        exact Lay.str (hin z hz).1.okc) (by simp; omega)).mono (by omega)
    · exact Lay.tup (fun y hy => by
        obtain ⟨z, hz, rfl⟩ := List.mem_map.mp hy
        exact (f z hz).ok.layS) (by simp; omega)
    · exact Lay.int (by omega)
  · intro x hx
    simp only [toldS, List.mem_cons, List.not_mem_nil, or_false] at hx
    rcases hx with rfl | rfl | rfl | rfl
    · exact Sm.str ha (by omega)
    · exact (Sm.tup (n := 16) (fun y hy => by
        obtain ⟨z, hz, rfl⟩ := List.mem_map.mp hy
        exact (hin z hz).2) (by simp; omega)).mono (by omega)
    · exact (Sm.tup (n := 8) (fun y hy => by
        obtain ⟨z, hz, rfl⟩ := List.mem_map.mp hy
        exact (f z hz).mv) (by simp; omega)).mono (by omega)
    · exact Sm.int (by omega) (by omega)
end Ev
namespace K82
open PySem L2 Ev
section
variable {d : Nat} {h : MH}
/-! ### what a program tells -/
theorem own_at {call : CallF} {p : Nat} {t : Str} {ss : List Pst} (e : h[p]? = some (.ins "Program" (flds t ss))) :
    eAttr ⟨G, call⟩ (.ref p) "own_text" h = some (.ok (.str t) h) ∧ eAttr ⟨G, call⟩ (.ref p) "own_inputs" h = some (.ok (.tup ((inputsS ss).map .str)) h) ∧ eAttr ⟨G, call⟩ (.ref p) "own_steps" h = some (.ok (.tup (ss.map Pst.mv)) h) := by
  unfold eAttr ins?
  simp only [e]
  exact ⟨by kernel_rfl, by kernel_rfl, by kernel_rfl⟩
theorem prop_at {call : CallF} {p : Nat} {t : Str} {ss : List Pst} (e : h[p]? = some (.ins "Program" (flds t ss))) :
    eAttr ⟨G, call⟩ (.ref p) "text" h = bnN (call "Program.text" [.ref p] h) (fun v h1 => some (.ok v h1)) ∧ eAttr ⟨G, call⟩ (.ref p) "inputs" h = bnN (call "Program.inputs" [.ref p] h) (fun v h1 => some (.ok v h1)) ∧ eAttr ⟨G, call⟩ (.ref p) "steps" h = bnN (call "Program.steps" [.ref p] h) (fun v h1 => some (.ok v h1)) ∧
    lenX ⟨G, call⟩ (.ref p) h = bnd (call "Program.__len__" [.ref p] h) (fun v h1 => match v with
      | .int i => if 0 ≤ i ∧ i < 2 ^ 62 then some (.ok (.int i) h1) else none
      | _ => none) := by
  unfold eAttr lenX lenI insM ins?
  simp only [e]
  exact ⟨by kernel_rfl, by kernel_rfl, by kernel_rfl, by kernel_rfl⟩
theorem text_ok {p : Nat} {t : Str} {ss : List Pst} (e : h[p]? = some (.ins "Program" (flds t ss))) {Q X : MV → MH → Prop} : wE (eAttr ⟨G, callD G (d + 1)⟩ (.ref p) "text" h) Q X = Q (.str t) h := by
  rw [(prop_at e).1, u_Program_text]
  simp [c_Program_text, b_Program_text, (own_at e).1]
theorem inputsP_ok {p : Nat} {t : Str} {ss : List Pst} (e : h[p]? = some (.ins "Program" (flds t ss))) {Q X : MV → MH → Prop} : wE (eAttr ⟨G, callD G (d + 1)⟩ (.ref p) "inputs" h) Q X = Q (.tup ((inputsS ss).map .str)) h := by
  rw [(prop_at e).2.1, u_Program_inputs]
  simp [c_Program_inputs, b_Program_inputs, (own_at e).2.1]
theorem stepsP_ok {p : Nat} {t : Str} {ss : List Pst} (e : h[p]? = some (.ins "Program" (flds t ss))) {Q X : MV → MH → Prop} : wE (eAttr ⟨G, callD G (d + 1)⟩ (.ref p) "steps" h) Q X = Q (.tup (ss.map Pst.mv)) h := by
  rw [(prop_at e).2.2.1, u_Program_steps]
  simp [c_Program_steps, b_Program_steps, (own_at e).2.2]
theorem lenM_ok {p : Nat} {t : Str} {ss : List Pst} (e : h[p]? = some (.ins "Program" (flds t ss))) : callD G (d + 1) "Program.__len__" [.ref p] h = some (.ok (.int (ss.length : Nat)) h) := by
  rw [u_Program___len__]
  have h1 : wE (c_Program___len__ (callD G d) (.ref p) h) (fun v h' => v = .int (ss.length : Nat) ∧ h' = h) no := by
    simp [c_Program___len__, b_Program___len__, (own_at e).2.2]
  obtain ⟨v, h', e, rfl, rfl⟩ := h1.get
  exact e
theorem lenP_ok {p : Nat} {t : Str} {ss : List Pst} (e : h[p]? = some (.ins "Program" (flds t ss))) (hl : ss.length ≤ 1000) {Q X : MV → MH → Prop} : wE (lenX ⟨G, callD G (d + 1)⟩ (.ref p) h) Q X = Q (.int (ss.length : Nat)) h := by
  rw [(prop_at e).2.2.2, lenM_ok e, wE_bnd, wE_ok]
  have c : 0 ≤ ((ss.length : Nat) : Int) ∧ ((ss.length : Nat) : Int) < 2 ^ 62 := ⟨by omega, by
    have : (1001 : Int) < 2 ^ 62 := by decide
    omega⟩
  simp only []
  rw [if_pos c, wE_ok]
end
end K82
end T_L14
section T_L15
set_option linter.all false
set_option maxRecDepth 100000
/-! L15: is a text read right? == of programs. -/
namespace K82
open PySem L2 Ev
section
variable {d : Nat} {h : MH}
theorem isA_bd (v : MV) : isA G (.exc "BadProgram" v) "DrawError" = some true := by kernel_rfl
theorem isI_bad (v : MV) : isI G h (.exc "BadProgram" v) "BadProgram" = some true := by kernel_rfl
theorem value_bad {call : CallF} (v : MV) : eAttr ⟨G, call⟩ (.exc "BadProgram" v) "value" h = some (.ok v h) := by kernel_rfl
theorem make_ok (t : Str) (ha : Asc t) (hl : t.length ≤ 40000) : wE (callD G (d + 6) "Program.__init__" [.ref h.length, .str t] (h ++ [.ins "Program" []]))
    (fun v h' => v = .non ∧ Keep [] h h' ∧ ∃ ss, progS t = .inr ss ∧ h'[h.length]? = some (.ins "Program" (flds t ss)))
    (fun x h' => Keep [] h h' ∧ ∃ i : Nat, progS t = .inl i ∧ x = .exc "BadProgram" (.int (i : Nat))) := by
  have := init_ok (d := d) (h := h ++ [.ins "Program" []]) h.length t ha hl List.getElem?_concat_length
  have k0 : Keep [] h (h ++ [MO.ins (Str.ofString "Program") []]) := Keep.app _
  exact wE_mono this (fun v h' ⟨a, b, c⟩ => ⟨a, k0.inner b (by simp), c⟩) fun x h' ⟨b, c⟩ => ⟨k0.inner b (by simp), c⟩
theorem bad_le {ls : List Str} : ∀ {acc : List Pst} {i : Nat}, acc.length ≤ 8 → goL ls acc = .inl i → i ≤ 9 := by
  induction ls with
  | nil => intro acc i _ e; cases e
  | cons l r ih =>
    intro acc i h8 e
    unfold goL at e
    split at e
    · injection e with e; omega
    · split at e
      · injection e with e; omega
      · split at e
        · injection e with e; omega
        · exact ih (by simp; omega) e
theorem is_right_ok (t : Str) (ha : Asc t) (hl : t.length ≤ 40000) : wE (callD G (d + 8) "_law_is_right" [.str t] h) (fun v h' => v = .bl true ∧ Keep [] h h') no := by
  have hs : Str.length "\n" = 1 := by decide +kernel
  rw [u__law_is_right]
  simp [c__law_is_right, b__law_is_right]
  refine wS_st (fun e h' => e = [some (.str t), some (badV (progS t)), some .non, some .non, none, none, none, none] ∧ Keep [] h h') (fun nx hn => ?_) ?_
  · simp
    refine wE.to (bad_line_ok t ha (by omega)) fun v h' hv => ?_
    obtain ⟨rfl, kp⟩ := hv
    exact hn _ _ ⟨rfl, kp⟩
  intro e h1 z; obtain ⟨rfl, k1⟩ := z
  refine wS_st (fun e h2 => Keep [] h h2 ∧ ((∃ i, progS t = .inl i ∧ e = [some (.str t), some (.int (i : Nat)), some (.exc "BadProgram" (.int (i : Nat))), some .non, none, none, none, none]) ∨
    ∃ p ss, progS t = .inr ss ∧ e = [some (.str t), some .non, some .non, some (.ref p), none, none, none, none] ∧ h2[p]? = some (.ins "Program" (flds t ss)))) (fun nx hn => ?_) ?_
  · rw [w_tryS]
    refine wS_seq fun nx2 hn2 => ?_
    simp
    refine wE_mono (make_ok t ha (by omega)) (fun v h2 hv => ?_) fun x h2 hx => ?_
    · obtain ⟨rfl, k2, ss, hp, e⟩ := hv
      refine ⟨rfl, hn2 _ _ ?_⟩
      simp only [w_nxS]
      exact hn _ _ ⟨k1.trans k2, .inr ⟨_, ss, hp, by rw [hp]; rfl, e⟩⟩
    · obtain ⟨k2, i, hp, rfl⟩ := hx
      simp [isA_bd]
      exact hn _ _ ⟨k1.trans k2, .inl ⟨i, hp, by rw [hp]; rfl⟩⟩
  intro e h2 z; obtain ⟨k2, z⟩ := z
  rcases z with ⟨i, hp, rfl⟩ | ⟨p, ss, hp, rfl, hat⟩
  · refine wS_seq fun nx hn => ?_
    have hi : i ≤ 9 := bad_le (by simp) hp
    obtain ⟨r1, r2⟩ := repr_v (h := h2) (Lay.int (n := 0) (i := (i : Nat)) (by omega)) (by omega) (Sm.int (w := 64) (by omega) (by omega)) (by omega)
    simp [isI_bad, value_bad, r1, eqD_str r2.okc r2.okc, k2]
  · refine wS_st (fun e h3 => e = [some (.str t), some .non, some .non, some (.ref p), none, none, none, none] ∧ h3 = h2) (fun nx hn => by simp; exact hn _ _ ⟨rfl, rfl⟩) ?_
    intro e h3 z; obtain ⟨rfl, hh⟩ := z; subst hh
    refine wS_st (fun e h4 => e = [some (.str t), some .non, some .non, some (.ref p), none, none, none, none] ∧ h4 = h3) (fun nx hn => by simp; exact hn _ _ ⟨rfl, rfl⟩) ?_
    intro e h4 z; obtain ⟨rfl, hh⟩ := z; subst hh
    have lasc := lines_asc ha
    have llen : ∀ l ∈ linesS t, l.length ≤ 40000 := fun l hl' => Nat.le_trans (split_part hl') hl
    have hll : (linesS t).length ≤ 40001 := by have := split_len t "\n" (by omega); unfold linesS; omega
    obtain ⟨new, hnew, hls⟩ := goL_lines (show goL (linesS t) [] = .inr ss from hp)
    rw [List.nil_append] at hnew
    subst hnew
    have fit : ∀ s ∈ ss, s.Fit := fun s hs => by
      have hs2 : some s ∈ (linesS t).map lineS := by rw [hls]; exact List.mem_map_of_mem hs
      obtain ⟨l, hl1, hl2⟩ := List.mem_map.mp hs2
      exact line_fit (lasc l hl1) hl2
    have h8 : ss.length ≤ 8 := (goL_ok lasc (by simp) (by simp) (show goL (linesS t) [] = .inr ss from hp)).2
    refine wS_st (fun e h5 => ∃ q, e = [some (.str t), some .non, some .non, some (.ref p), none, some (.ref q), none, none] ∧ Keep [] h4 h5 ∧ Sl h5 q ss) (fun nx hn => ?_) ?_
    · simp
      rw [m_split (by rw [hs]; rfl) (by omega)]
      simp [iterOf]
      have hmv : (linesS t).map (fun l => optL (stepP (Txt.split l " "))) = ss.map Pst.mv := by
        have e1 : (linesS t).map (fun l => optL (stepP (Txt.split l " "))) = ((linesS t).map lineS).map (fun o => match o with | none => .non | some s => s.mv) := by
          rw [List.map_map]
          exact List.map_congr_left fun l hl1 => (lineS_mv (lasc l hl1)).1
        rw [e1, hls, List.map_map]
        rfl
      refine w_map (ms := []) (linesS t) MV.str (fun l => optL (stepP (Txt.split l " "))) (Its.lst (by simp [linesS]) (by simp)) (by omega) (fun l h5 hx5 k5 => ?_) fun h5 k5 => ?_
      · refine ⟨_, rfl, ?_⟩
        simp
        exact read_ok l (lasc l hx5) (by have := llen l hx5; omega)
      · refine ⟨by rw [List.length_map]; omega, hn _ _ ⟨_, rfl, ((Keep.app _).trans k5).push _, ?_, fun s hs => (fit s hs).ok⟩⟩
        rw [List.getElem?_concat_length, hmv]
    intro e h5 z; obtain ⟨q, rfl, k5, S5⟩ := z
    have hat5 := k5.at hat (by simp)
    refine wS_st (fun e h6 => ∃ r, e = [some (.str t), some .non, some .non, some (.ref p), none, some (.ref q), none, some (.ref r)] ∧ Keep [] h5 h6 ∧ h6[r]? = some (.lst (toldS t ss))) (fun nx hn => ?_) ?_
    · simp [text_ok hat5, inputsP_ok hat5, stepsP_ok hat5, lenP_ok hat5 (show ss.length ≤ 1000 by omega)]
      exact hn _ _ ⟨_, rfl, Keep.app _, List.getElem?_concat_length⟩
    intro e h6 z; obtain ⟨r, rfl, k6, hr⟩ := z
    have S6 := S5.keep0 k6
    obtain ⟨lay, sm⟩ := told_ok ha hl fit h8
    have hsz : (toldS t ss).length * (250000 + 1) ≤ 1048576 := by simp [toldS]
    obtain ⟨r1, r2⟩ := repr_lst (h := h6) lay (by omega) (by simp [toldS]) hr sm hsz
    refine wS_seq fun nx hn => ?_
    simp [r1]
    refine wE.to (inputs_ok q ss S6 (by omega)) fun v h7 hv => ?_
    obtain ⟨k7, j, rfl, hj⟩ := hv
    have S7 := S6.keep0 k7
    simp [bTuple_lst hj, bTuple_lst S7.at_, lenX_lst S7.at_]
    obtain ⟨g1, g2⟩ := repr_lst (h := h7 ++ [.lst (toldS t ss)]) (k := h7.length) lay (by omega) (by simp [toldS]) List.getElem?_concat_length sm hsz
    have g1 : bRepr [MV.ref h7.length] (h7 ++ [MO.lst [MV.str t, MV.tup ((inputsS ss).map MV.str), MV.tup (ss.map Pst.mv), MV.int (ss.length : Nat)]]) = _ := g1
    simp [g1, eqD_str r2.okc g2.okc]
    exact (((k2.trans k5).trans k6).trans k7).push _
theorem isI_app {v : MV} {o : MH} (hv : isI G h v "str" = some false) : isI G (h ++ o) v "str" = some false := by
  rw [isI_bt (by decide +kernel)] at hv ⊢
  cases v with
  | ref k =>
    have hk : k < h.length := by
      rcases Nat.lt_or_ge k h.length with z | z
      · exact z
      · have : h[k]? = none := List.getElem?_eq_none z
        simp [typesOf, this] at hv
    simp only [typesOf] at hv ⊢
    rw [List.getElem?_append_left hk]
    exact hv
  | _ => exact hv
theorem is_right_no (v : MV) (hv : isI G h v "str" = some false) : wE (callD G (d + 8) "_law_is_right" [v] h) (fun v h' => v = .bl true ∧ Keep [] h h') no := by
  rw [u__law_is_right]
  simp [c__law_is_right, b__law_is_right]
  refine wS_st (fun e h' => e = [some v, some (.int 0), some .non, some .non, none, none, none, none] ∧ h' = h) (fun nx hn => ?_) ?_
  · simp [bad_line_no v hv]
    exact hn _ _ ⟨rfl, rfl⟩
  intro e h1 z; obtain ⟨rfl, hh⟩ := z; subst hh
  refine wS_st (fun e h2 => e = [some v, some (.int 0), some (.exc "BadProgram" (.int 0)), some .non, none, none, none, none] ∧ Keep [] h1 h2) (fun nx hn => ?_) ?_
  · rw [w_tryS]
    refine wS_seq fun nx2 hn2 => ?_
    have hv2 : isI G (h1 ++ [.ins "Program" []]) v "str" = some false := isI_app hv
    simp [init_no _ v hv2, isA_bd]
    exact hn _ _ ⟨rfl, Keep.app _⟩
  intro e h2 z; obtain ⟨rfl, k2⟩ := z
  refine wS_seq fun nx hn => ?_
  obtain ⟨r1, r2⟩ := repr_v (h := h2) (Lay.int (n := 0) (i := 0) (by omega)) (by omega) (Sm.int (w := 64) (by omega) (by omega)) (by omega)
  simp [isI_bad, value_bad, r1, eqD_str r2.okc r2.okc, k2]
/-! ### == -/
theorem eq_at {call : CallF} {p : Nat} {t : Str} {ss : List Pst} (e : h[p]? = some (.ins "Program" (flds t ss))) (y : MV) (hy : eqOk h "Program" y = true) :
    eCmp ⟨G, call⟩ .Eq (.ref p) y h = bnd (call "Program.__eq__" [.ref p, y] h) (fun v h1 => (match v with
      | .bl b => some (.ok (.bl b) h1)
      | _ => none)) ∧
    eCmp ⟨G, call⟩ .NotEq (.ref p) y h = bnd (call "Program.__eq__" [.ref p, y] h) (fun v h1 => (match v with
      | .bl b => some (.ok (.bl (!b)) h1)
      | _ => none)) := by
  have hm : eqM ⟨G, call⟩ h (.ref p) y = some (some ("Program.__eq__" : Str)) := by
    unfold eqM ins?
    simp only [e]
    have hc : lk "Program" G.clss = some (clT[2]'(by decide)).2 := by kernel_rfl
    simp only [hc]
    have hx : (clT[2]'(by decide)).2.isExc = false := by kernel_rfl
    rw [if_pos ⟨hx, hy⟩]
    kernel_rfl
  unfold eCmp
  simp only [hm]
  refine ⟨?_, ?_⟩ <;> first | trivial | rfl
theorem eqP_ok (p : Nat) (t : Str) (ss : List Pst) (e : h[p]? = some (.ins "Program" (flds t ss))) (p' : Nat) (t' : Str) (ss' : List Pst) (e' : h[p']? = some (.ins "Program" (flds t' ss'))) (ha : Asc t) (ha' : Asc t') :
    callD G (d + 1) "Program.__eq__" [.ref p, .ref p'] h = some (.ok (.bl (t == t')) h) := by
  rw [u_Program___eq__]
  have hi : isI G h (.ref p') "Program" = some true := by
    unfold isI typesOf
    simp only [e']
    kernel_rfl
  have h1 : wE (c_Program___eq__ (callD G d) (.ref p) (.ref p') h) (fun v h' => v = .bl (t == t') ∧ h' = h) no := by
    simp [c_Program___eq__, b_Program___eq__, hi, (own_at e).1, (own_at e').1, eqD_str ha.okc ha'.okc]
  obtain ⟨v, h', e, rfl, rfl⟩ := h1.get
  exact e
theorem eqP_no (p : Nat) (t : Str) (ss : List Pst) (e : h[p]? = some (.ins "Program" (flds t ss))) (y : MV) (hi : isI G h y "Program" = some false) :
    callD G (d + 1) "Program.__eq__" [.ref p, y] h = some (.ok (.bl false) h) := by
  rw [u_Program___eq__]
  have h1 : wE (c_Program___eq__ (callD G d) (.ref p) y h) (fun v h' => v = .bl false ∧ h' = h) no := by
    simp [c_Program___eq__, b_Program___eq__, hi]
  obtain ⟨v, h', e, rfl, rfl⟩ := h1.get
  exact e
end
end K82
end T_L15
section T_L16
set_option linter.all false
set_option maxRecDepth 100000
/-! L16: what is drawn: the pot, choices. -/
namespace Ev
open PySem L2
/-- below 2 ^ k -/
def Bd (k : Nat) (i : Int) : Prop := i.natAbs < 2 ^ k
instance (k : Nat) (i : Int) : Decidable (Bd k i) := inferInstanceAs (Decidable (i.natAbs < 2 ^ k))
theorem Bd.mono {k m : Nat} {i : Int} (h : Bd k i) (hk : k ≤ m) : Bd m i := Nat.lt_of_lt_of_le h (Nat.pow_le_pow_right (by decide) hk)
theorem Bd.mul {k m : Nat} {i j : Int} (h : Bd k i) (h' : Bd m j) : Bd (k + m) (i * j) := by
  unfold Bd at *
  rw [Int.natAbs_mul, Nat.pow_add]
  exact Nat.mul_lt_mul'' h h'
theorem Bd.add {k : Nat} {i j : Int} (h : Bd k i) (h' : Bd k j) : Bd (k + 1) (i + j) := by
  unfold Bd at *
  have := Int.natAbs_add_le i j
  rw [Nat.pow_succ]; omega
theorem Bd.log {k : Nat} {i : Int} (h : Bd k i) : i.natAbs.log2 ≤ k := by
  by_cases h0 : i.natAbs = 0
  · rw [h0]; simp
  · exact Nat.le_of_lt ((Nat.log2_lt h0).mpr h)
theorem Bd.mulOk {k m : Nat} {i j : Int} (h : Bd k i) (h' : Bd m j) (hk : k + m < 1000000) : i.natAbs.log2 + j.natAbs.log2 < 1000000 := by
  have := h.log
  have := h'.log
  omega
theorem Bd.of {k : Nat} {i : Int} (h : i.natAbs < 2 ^ k) : Bd k i := h
theorem fmod_rng {i j : Int} (h : 0 < j) : 0 ≤ i.fmod j ∧ i.fmod j < j := by
  rw [Int.fmod_eq_emod_of_nonneg _ (Int.le_of_lt h)]
  exact ⟨Int.emod_nonneg _ (by omega), Int.emod_lt_of_pos _ h⟩
theorem fdiv_rng {i j : Int} (h : 0 < j) (hi : 0 ≤ i) : 0 ≤ i.fdiv j ∧ i.fdiv j ≤ i := by
  rw [Int.fdiv_eq_ediv_of_nonneg _ (Int.le_of_lt h)]
  exact ⟨Int.ediv_nonneg hi (Int.le_of_lt h), Int.ediv_le_self _ hi⟩
/-- a pot at p: at most n numbers were drawn -/
structure Pot (h : MH) (p n : Nat) : Prop where
  ex : ∃ a b c : Int, h[p]? = some (.lst [.int a, .int b, .int c]) ∧ 0 ≤ a ∧ Bd 1000 a ∧ 0 ≤ b ∧ Bd 64 b ∧ 0 ≤ c ∧ c ≤ n
theorem Pot.keep {h h' : MH} {p n : Nat} {ms : List Nat} (q : Pot h p n) (k : Keep ms h h') (hm : p ∉ ms) : Pot h' p n := by
  obtain ⟨a, b, c, e, r⟩ := q.ex
  exact ⟨a, b, c, k.at e hm, r⟩
theorem Pot.keep0 {h h' : MH} {p n : Nat} (q : Pot h p n) (k : Keep [] h h') : Pot h' p n := q.keep k (by simp)
theorem Pot.mono {h : MH} {p n m : Nat} (q : Pot h p n) (k : n ≤ m) : Pot h p m := by
  obtain ⟨a, b, c, e, r1, r2, r3, r4, r5, r6⟩ := q.ex
  exact ⟨a, b, c, e, r1, r2, r3, r4, r5, by omega⟩
theorem Pot.lt {h : MH} {p n : Nat} (q : Pot h p n) : p < h.length := by
  obtain ⟨a, b, c, e, _⟩ := q.ex
  exact (List.getElem?_eq_some_iff.mp e).1
theorem powOk {k : Nat} {i j : Int} (h : Bd k i) (hj : 0 ≤ j) (hk : ((k : Int) + 1) * j ≤ 2 ^ 27) : 0 ≤ j ∧ (Builtin.Int.intBits i : Int) * j ≤ 2 ^ 27 := by
  refine ⟨hj, ?_⟩
  have hb : (Builtin.Int.intBits i : Int) ≤ (k : Int) + 1 := by
    have := h.log
    unfold Builtin.Int.intBits
    split
    · omega
    · omega
  exact Int.le_trans (Int.mul_le_mul_of_nonneg_right hb hj) hk
theorem Bd.pow3 {k : Nat} {i : Int} (h : Bd k i) : Bd (k + k + k) (i ^ 3) := by
  have e : i ^ 3 = i * i * i := by rw [show (3 : Nat) = 2 + 1 from rfl, Int.pow_succ, show (2 : Nat) = 1 + 1 from rfl, Int.pow_succ, Int.pow_succ, Int.pow_zero, Int.one_mul]
  rw [e]
  exact (h.mul h).mul h
end Ev
namespace K82
open PySem L2 Ev
section
variable {d : Nat} {h : MH}
theorem take_ok (p n : Nat) (u : Int) (P : Pot h p n) (hn : n ≤ 1000000) (hu : 1 ≤ u) (hu2 : u < 1000000) : wE (callD G (d + 1) "_law_take" [.ref p, .int u] h) (fun v h' => ∃ i : Nat, v = .int (i : Nat) ∧ (i : Int) < u ∧ Keep [p] h h' ∧ Pot h' p (n + 1)) no := by
  obtain ⟨a, b, c, e, a1, a2, b1, b2, c1, c2⟩ := P.ex
  rw [u__law_take]
  simp [c__law_take, b__law_take]
  have hu0 : u ≠ 0 := by omega
  refine wS_st (fun e1 h1 => e1 = [some (.ref p), some (.int u), none, none, none] ∧ h1 = h ∧ a = 0) (fun nx hn => ?_) ?_
  · simp [item_lst e]
    refine wB.mk (fun g => ?_) (fun g => ?_)
    · have g := of_decide_eq_true g
      refine wS_mid (fun e1 h1 => e1 = [some (.ref p), some (.int u), some (.int (a.fmod u)), none, none] ∧ h1 = h) (by simp [item_lst e, bin_mod_int hu0]) ?_
      intro e1 h1 z; obtain ⟨rfl, rfl⟩ := z
      have hput := put_lst (n := 0) (x := .int (a.fdiv u)) e (by simp)
      refine wS_mid (fun e1 h2 => e1 = [some (.ref p), some (.int u), some (.int (a.fmod u)), none, none] ∧ h2 = h1.set p (.lst [.int (a.fdiv u), .int b, .int c])) ?_ ?_
      · have hput : mSetI (.ref p) (.int 0) (.int (a.fdiv u)) h1 = some (h1.set p (.lst [.int (a.fdiv u), .int b, .int c])) := hput
        simp [item_lst e, bin_div_int (show u ≠ 0 ∧ u.natAbs < 1073741824 by omega), hput]
      intro e1 h2 z; obtain ⟨rfl, rfl⟩ := z
      obtain ⟨m1, m2⟩ := fmod_rng (i := a) (show 0 < u by omega)
      obtain ⟨q1, q2⟩ := fdiv_rng (i := a) (show 0 < u by omega) a1
      simp
      refine ⟨(a.fmod u).toNat, by omega, by omega, Keep.refl.set (.inl (by simp)), ⟨a.fdiv u, b, c, set_get e, q1, ?_, b1, b2, c1, by omega⟩⟩
      exact Nat.lt_of_le_of_lt (by omega) a2
    · have g := of_decide_eq_false g
      exact hn _ _ ⟨rfl, rfl, by omega⟩
  intro e1 h1 z; obtain ⟨rfl, rfl, rfl⟩ := z
  refine wS_st (fun e1 h2 => e1 = [some (.ref p), some (.int u), none, none, none] ∧ h2 = h1.set p (.lst [.int 0, .int b, .int (c + 1)])) (fun nx hn => ?_) ?_
  · have hput : mSetI (.ref p) (.int 2) (.int (c + 1)) h1 = some (h1.set p (.lst [.int 0, .int b, .int (c + 1)])) := put_lst (n := 2) (x := .int (c + 1)) e (by simp)
    simp [item_lst e, hput]
    exact hn _ _ ⟨rfl, rfl⟩
  intro e1 h2 z; obtain ⟨rfl, rfl⟩ := z
  have e2 := set_get (u := .lst [.int 0, .int b, .int (c + 1)]) e
  have k2 : Keep [p] h1 (h1.set p (.lst [.int 0, .int b, .int (c + 1)])) := Keep.refl.set (.inl (by simp))
  generalize h1.set p (.lst [.int 0, .int b, .int (c + 1)]) = h2 at *
  have hc : Bd 21 (c + 1) := by unfold Bd; omega
  obtain ⟨f1, f2⟩ := fmod_rng (i := c + 1) (show (0 : Int) < 5 by omega)
  refine wS_st (fun e1 h3 => ∃ pr : Int, e1 = [some (.ref p), some (.int u), none, some (.int pr), none] ∧ Keep [] h2 h3 ∧ 0 < pr ∧ Bd 31 pr) (fun nx hn => ?_) ?_
  · simp [item_lst e2, bin_mod_int (show (5 : Int) ≠ 0 by decide)]
    have e3 := (Keep.app (ms := []) (h := h2) [.lst [.int 2147483647, .int 2147483629, .int 2147483587, .int 2147483579, .int 2147483563]]).at e2 (by simp)
    simp [item_lst e3, bin_mod_int (show (5 : Int) ≠ 0 by decide)]
    obtain ⟨i, hi⟩ : ∃ i : Nat, (c + 1).fmod 5 = (i : Int) ∧ i < 5 := ⟨((c + 1).fmod 5).toNat, by omega, by omega⟩
    rw [hi.1, item_lst List.getElem?_concat_length, Ev.atI_nat]
    obtain ⟨x, hx⟩ : ∃ x : Int, ([.int 2147483647, .int 2147483629, .int 2147483587, .int 2147483579, .int 2147483563] : List MV)[i]? = some (.int x) ∧ 0 < x ∧ Bd 31 x := by
      match i, hi.2 with
      | 0, _ => exact ⟨_, rfl, by decide, by decide⟩
      | 1, _ => exact ⟨_, rfl, by decide, by decide⟩
      | 2, _ => exact ⟨_, rfl, by decide, by decide⟩
      | 3, _ => exact ⟨_, rfl, by decide, by decide⟩
      | 4, _ => exact ⟨_, rfl, by decide, by decide⟩
    rw [hx.1]
    exact hn _ _ ⟨x, rfl, Keep.app _, hx.2⟩
  intro e1 h3 z; obtain ⟨pr, rfl, k3, pr1, pr2⟩ := z
  have e3 := k3.at e2 (by simp)
  refine wS_st (fun e1 h4 => ∃ bl : Int, e1 = [some (.ref p), some (.int u), none, some (.int pr), some (.int bl)] ∧ h4 = h3 ∧ 0 ≤ bl ∧ Bd 31 bl) (fun nx hn => ?_) ?_
  · have lit1 : ∀ m : Int, m.natAbs < 2 ^ 30 → Bd 30 m := fun m hm => hm
    have x1 := (lit1 98295 (by decide)).mul hc
    have x2 := x1.mul hc
    have x3 := (Bd.add (b2.mono (show 64 ≤ 72 by omega)) (x2.mono (show _ ≤ 72 by omega))).add ((lit1 477 (by decide)).mono (show 30 ≤ 73 by omega))
    simp [item_lst e3, bin_mul_int (Bd.mulOk (lit1 98295 (by decide)) hc (by omega)), bin_mul_int (Bd.mulOk x1 hc (by omega)), bin_pow_int (powOk x3 (show (0 : Int) ≤ 3 by omega) (by decide)), bin_mod_int (show pr ≠ 0 by omega)]
    obtain ⟨m1, m2⟩ := fmod_rng (i := (b + 98295 * (c + 1) * (c + 1) + 477) ^ 3) pr1
    exact hn _ _ ⟨_, rfl, rfl, m1, by unfold Bd at *; omega⟩
  intro e1 h4 z; obtain ⟨bl, rfl, rfl, bl1, bl2⟩ := z
  refine wS_st (fun e1 h5 => ∃ bm : Int, e1 = [some (.ref p), some (.int u), none, some (.int pr), some (.int bm)] ∧ h5 = h4 ∧ 0 ≤ bm) (fun nx hn => ?_) ?_
  · obtain ⟨m1, m2⟩ := fmod_rng (i := bl) (show (0 : Int) < 10009 by decide)
    have y1 := (show Bd 30 87 by decide).mul hc
    have y2 : Bd 52 (bl.fmod 10009 + 87 * (c + 1)) := Bd.add (k := 51) (by unfold Bd; omega) y1
    simp [item_lst e3, bin_mod_int (show (10009 : Int) ≠ 0 by decide), bin_mul_int (Bd.mulOk (show Bd 30 87 by decide) hc (by omega)), bin_mul_int (Bd.mulOk bl2 y2 (by omega)), bin_mod_int (show (2305843009213693907 : Int) ≠ 0 by decide)]
    obtain ⟨m3, m4⟩ := fmod_rng (i := bl * (bl.fmod 10009 + 87 * (c + 1))) (show (0 : Int) < 2305843009213693907 by decide)
    exact hn _ _ ⟨_, rfl, rfl, m3⟩
  intro e1 h5 z; obtain ⟨bm, rfl, rfl, bm1⟩ := z
  simp [bin_div_int (show (167 : Int) ≠ 0 ∧ (167 : Int).natAbs < 1073741824 by decide), bin_mod_int hu0]
  obtain ⟨m1, m2⟩ := fmod_rng (i := bm.fdiv 167) (show 0 < u by omega)
  exact ⟨((bm.fdiv 167).fmod u).toNat, by omega, by omega, k2.trans k3.all, ⟨0, b, c + 1, e3, by omega, by unfold Bd; exact Nat.two_pow_pos _, b1, b2, by omega, by omega⟩⟩
end
end K82
end T_L16
section T_L17
set_option linter.all false
set_option maxRecDepth 100000
/-! L17: what is written is read back. -/
namespace Ev
open PySem L2
def numT (i : Int) : Str := Str.ofString (toString i)
def shareT (a b : Int) : Str := numT a ++ (if 1 < b then ("/" : Str) ++ numT b else "")
theorem num_back : ∀ k : Fin 13, numS (numT (k.val : Int)) = some (k.val : Int) ∧ ((tl (numT (k.val : Int))).all fun c => decide (33 ≤ c) && decide (c < 128)) = true ∧ (numT (k.val : Int)).length ≤ 12 := by decide +kernel
def lowF (i : Fin 12) : Int := (i.val : Int) + 1
def topF (i : Fin 12) (j : Fin 25) : Int := if (j.val : Int) - 12 < -(lowF i) then -(lowF i) else if lowF i < (j.val : Int) - 12 then lowF i else (j.val : Int) - 12
theorem share_back : ∀ i : Fin 12, ∀ j : Fin 25, shareS (shareT (frac (topF i j) (lowF i)).1 (frac (topF i j) (lowF i)).2) = some (frac (topF i j) (lowF i)) ∧
    ((tl (shareT (frac (topF i j) (lowF i)).1 (frac (topF i j) (lowF i)).2)).all fun c => decide (33 ≤ c) && decide (c < 128)) = true ∧ (shareT (frac (topF i j) (lowF i)).1 (frac (topF i j) (lowF i)).2).length ≤ 12 ∧ (frac (topF i j) (lowF i)).1.natAbs < 100 ∧ (frac (topF i j) (lowF i)).2.natAbs < 100 := by decide +kernel
def GoodSh (a b : Int) : Prop := ∃ p q : Int, 1 ≤ q ∧ q ≤ 12 ∧ -q ≤ p ∧ p ≤ q ∧ frac p q = (a, b)
/-- a word without blanks -/
structure Wok (w : Str) : Prop where
  c : ∀ c ∈ tl w, 33 ≤ c ∧ c < 128
  l : w.length ≤ 12
theorem Wok.asc {w : Str} (h : Wok w) : Asc w := fun c hc => (h.c c hc).2
theorem wok_of {w : Str} (h1 : ((tl w).all fun c => decide (33 ≤ c) && decide (c < 128)) = true) (h2 : w.length ≤ 12) : Wok w := ⟨fun c hc => by
  have := List.all_eq_true.mp h1 c hc
  simpa using this, h2⟩
theorem goodSh {a b : Int} (g : GoodSh a b) : shareS (shareT a b) = some (a, b) ∧ Wok (shareT a b) ∧ a.natAbs < 100 ∧ b.natAbs < 100 := by
  obtain ⟨p, q, h1, h2, h3, h4, e⟩ := g
  have := share_back ⟨(q - 1).toNat, by omega⟩ ⟨(p + 12).toNat, by omega⟩
  have e1 : lowF ⟨(q - 1).toNat, by omega⟩ = q := by unfold lowF; simp; omega
  have e2 : topF ⟨(q - 1).toNat, by omega⟩ ⟨(p + 12).toNat, by omega⟩ = p := by
    unfold topF
    rw [e1]
    have : (((p + 12).toNat : Nat) : Int) - 12 = p := by omega
    simp only [this]
    rw [if_neg (by omega), if_neg (by omega)]
  rw [e1, e2, e] at this
  obtain ⟨q1, q2, q3, q4, q5⟩ := this
  exact ⟨q1, wok_of q2 q3, q4, q5⟩
theorem num_ok {i : Int} (h0 : 0 ≤ i) (h1 : i ≤ 12) : numS (numT i) = some i ∧ Wok (numT i) := by
  have := num_back ⟨i.toNat, by omega⟩
  have e : ((i.toNat : Nat) : Int) = i := by omega
  simp only [e] at this
  exact ⟨this.1, wok_of this.2.1 this.2.2⟩
theorem name_wok {x : Str} (h : nameB x = true) : Wok x := by
  refine ⟨fun c hc => ?_, by have := name_len h; omega⟩
  unfold nameB at h
  simp only [Bool.and_eq_true, decide_eq_true_eq] at h
  have hm := List.contains_iff_mem.mp (List.all_eq_true.mp h.2.2 c hc)
  have : low.all (fun c => decide (33 ≤ c) && decide (c < 128)) = true := by decide +kernel
  have := List.all_eq_true.mp this c hm
  simpa using this
def partT : MV → Str
  | .str x => x
  | .int i => numT i
  | .tup [.int a, .int b] => shareT a b
  | _ => ⟨#[]⟩
/-- a part of a step that may be drawn -/
def PtOk (x : MV) : Prop := (∃ y, x = .str y ∧ nameB y = true) ∨ (∃ i : Int, x = .int i ∧ 0 ≤ i ∧ i ≤ 12) ∨ ∃ a b : Int, x = .tup [.int a, .int b] ∧ GoodSh a b
theorem PtOk.wok {x : MV} (h : PtOk x) : Wok (partT x) := by
  rcases h with ⟨y, rfl, h⟩ | ⟨i, rfl, h1, h2⟩ | ⟨a, b, rfl, h⟩
  · exact name_wok h
  · exact (num_ok h1 h2).2
  · exact (goodSh h).2.1
def wordsT (s : Pst) : List Str := s.n :: "=" :: s.w :: s.xs.map partT
def textT (s : Pst) : Str := Txt.join " " (wordsT s)
/-- a step that may be drawn -/
structure Drawn (s : Pst) : Prop where
  st : stepP (wordsT s) = some (.str s.n :: .str s.w :: s.xs)
  n : nameB s.n = true
  w : Wok s.w
  pts : ∀ x ∈ s.xs, PtOk x
  len : s.xs.length ≤ 4
  sp : spOf (.str s.n :: .str s.w :: s.xs) = s
theorem wok_eq : Wok "=" := wok_of (by decide +kernel) (by decide +kernel)
theorem Drawn.words {s : Pst} (q : Drawn s) : ∀ x ∈ wordsT s, Wok x := fun x hx => by
  simp only [wordsT, List.mem_cons] at hx
  rcases hx with rfl | rfl | rfl | hx
  · exact name_wok q.n
  · exact wok_eq
  · exact q.w
  · obtain ⟨y, hy, rfl⟩ := List.mem_map.mp hx
    exact (q.pts y hy).wok
theorem Drawn.ok {s : Pst} (q : Drawn s) : s.Ok := by
  have := (step_sp (fun x hx => (q.words x hx).asc) q.st).2
  rwa [q.sp] at this
theorem Drawn.line {s : Pst} (q : Drawn s) : lineS (textT s) = some s := by
  unfold lineS textT
  have : Txt.split (Txt.join " " (wordsT s)) " " = wordsT s := TL.split_join (s := 32) (S := []) (by decide +kernel) (by decide +kernel) (by simp [wordsT]) fun p hp => by
    intro z
    have := ((q.words p hp).c 32 z).1
    omega
  rw [this, q.st]
  simp [q.sp]
theorem join_len (y : Str) : ∀ (ls : List Str), (Txt.join y ls).length ≤ (ls.map (·.length)).sum + ls.length * y.length := fun ls => by
  rw [TL.join_eq]
  exact StrLaws.join_length_le y ls
theorem join_asc {y : Str} (hy : Asc y) {ls : List Str} (h : ∀ l ∈ ls, Asc l) : Asc (Txt.join y ls) := by
  rw [TL.join_eq]
  exact asc_join y hy ls h
theorem sum_le {c : Nat} : ∀ {ls : List Str}, (∀ l ∈ ls, l.length ≤ c) → (ls.map (·.length)).sum ≤ ls.length * c
  | [], _ => by simp
  | l :: r, h => by
    have := sum_le (ls := r) fun x hx => h x (List.mem_cons_of_mem _ hx)
    have := h l List.mem_cons_self
    simp only [List.map_cons, List.sum_cons, List.length_cons, Nat.succ_mul]
    omega
theorem joinL_free {S : List Nat} {c : Nat} (hS : c ∉ S) : ∀ {ps : List (List Nat)}, (∀ p ∈ ps, c ∉ p) → c ∉ TL.joinL S ps
  | [], _ => by simp [TL.joinL]
  | [p], h => h p (by simp)
  | p :: q :: r, h => by
    unfold TL.joinL
    intro z
    rcases List.mem_append.mp z with z | z
    · exact h p (by simp) z
    · rcases List.mem_append.mp z with z | z
      · exact hS z
      · exact joinL_free hS (fun x hx => h x (List.mem_cons_of_mem _ hx)) z
theorem join_free {y : Str} {c : Nat} (hy : c ∉ tl y) {ls : List Str} (h : ∀ l ∈ ls, c ∉ tl l) : c ∉ tl (Txt.join y ls) := by
  have : tl (Txt.join y ls) = TL.joinL (tl y) (ls.map tl) := by
    rw [TL.join_eq]
    exact TL.tl_join y ls
  rw [this]
  refine joinL_free hy fun p hp => ?_
  obtain ⟨l, hl, rfl⟩ := List.mem_map.mp hp
  exact h l hl
theorem Drawn.text {s : Pst} (q : Drawn s) : 10 ∉ tl (textT s) ∧ Asc (textT s) ∧ (textT s).length ≤ 98 := by
  refine ⟨join_free (by decide +kernel) fun l hl z => ?_, join_asc (asc_of (by decide +kernel)) fun l hl => (q.words l hl).asc, ?_⟩
  · have := ((q.words l hl).c 10 z).1
    omega
  · have h1 := join_len " " (wordsT s)
    have h2 := sum_le (ls := wordsT s) fun l hl => (q.words l hl).l
    have h3 : (wordsT s).length ≤ 7 := by have := q.len; simp [wordsT]; omega
    have h4 : Str.length " " = 1 := by decide +kernel
    rw [h4] at h1
    unfold textT
    omega
/-! ### the four kinds -/
theorem pair_cases {w : Str} (h : w = "joined" ∨ w = "met") : pairB w = true ∧ Wok w := by
  rcases h with rfl | rfl
  · exact ⟨by decide +kernel, wok_of (by decide +kernel) (by decide +kernel)⟩
  · exact ⟨by decide +kernel, wok_of (by decide +kernel) (by decide +kernel)⟩
theorem size_cases {w : Str} (h : w = "lesser" ∨ w = "zoomed") : pairB w = false ∧ Wok w ∧ ¬ w = "moved" ∧ ¬ w = "turned" ∧ sizeB w = true := by
  rcases h with rfl | rfl
  · exact ⟨by decide +kernel, wok_of (by decide +kernel) (by decide +kernel), by decide +kernel, by decide +kernel, by decide +kernel⟩
  · exact ⟨by decide +kernel, wok_of (by decide +kernel) (by decide +kernel), by decide +kernel, by decide +kernel, by decide +kernel⟩
theorem mk_pair {n w a b : Str} (hn : nameB n = true) (hw : w = "joined" ∨ w = "met") (ha : nameB a = true) (hb : nameB b = true) : Drawn ⟨n, w, [a, b], [.str a, .str b]⟩ := by
  obtain ⟨w1, w2⟩ := pair_cases hw
  refine ⟨?_, hn, w2, fun x hx => ?_, by simp, ?_⟩
  · simp [wordsT, stepP, restP, hn, w1, partT, ha, hb]
  · simp at hx
    rcases hx with rfl | rfl
    · exact .inl ⟨a, rfl, ha⟩
    · exact .inl ⟨b, rfl, hb⟩
  · simp [spOf, w1, isStr?]
theorem wok_turned : Wok "turned" := wok_of (by decide +kernel) (by decide +kernel)
theorem wok_moved : Wok "moved" := wok_of (by decide +kernel) (by decide +kernel)
theorem mk_turn {n a : Str} {k : Int} (hn : nameB n = true) (ha : nameB a = true) (h0 : 0 ≤ k) (h1 : k ≤ 7) : Drawn ⟨n, "turned", [a], [.str a, .int k]⟩ := by
  have w1 : pairB "turned" = false := by decide +kernel
  have w2 : ¬ ("turned" : Str) = "moved" := by decide +kernel
  obtain ⟨k1, k2⟩ := num_ok h0 (show k ≤ 12 by omega)
  refine ⟨?_, hn, wok_turned, fun x hx => ?_, by simp, ?_⟩
  · simp [wordsT, stepP, restP, restQ, hn, w1, w2, partT, ha, k1, nz, h0, h1, optI]
  · simp at hx
    rcases hx with rfl | rfl
    · exact .inl ⟨a, rfl, ha⟩
    · exact .inr (.inl ⟨k, rfl, h0, by omega⟩)
  · simp [spOf, w1, isStr?]
theorem mk_move {n a : Str} {p q r s : Int} (hn : nameB n = true) (ha : nameB a = true) (h0 : GoodSh p q) (h1 : GoodSh r s) : Drawn ⟨n, "moved", [a], [.str a, .tup [.int p, .int q], .tup [.int r, .int s]]⟩ := by
  have w1 : pairB "moved" = false := by decide +kernel
  have k1 := (goodSh h0).1
  have k2 := (goodSh h1).1
  refine ⟨?_, hn, wok_moved, fun x hx => ?_, by simp, ?_⟩
  · simp [wordsT, stepP, restP, restQ, hn, w1, partT, ha, k1, k2, optT]
  · simp at hx
    rcases hx with rfl | rfl | rfl
    · exact .inl ⟨a, rfl, ha⟩
    · exact .inr (.inr ⟨p, q, rfl, h0⟩)
    · exact .inr (.inr ⟨r, s, rfl, h1⟩)
  · simp [spOf, w1, isStr?]
theorem mk_size {n w a : Str} {m x y : Int} (hn : nameB n = true) (hw : w = "lesser" ∨ w = "zoomed") (ha : nameB a = true) (m1 : 1 ≤ m) (m4 : m ≤ 4) (x0 : 0 ≤ x) (x1 : x < m) (y0 : 0 ≤ y) (y1 : y < m) : Drawn ⟨n, w, [a], [.str a, .int m, .int x, .int y]⟩ := by
  obtain ⟨w1, w2, w3, w4, w5⟩ := size_cases hw
  have k1 := (num_ok (show 0 ≤ m by omega) (show m ≤ 12 by omega)).1
  have k2 := (num_ok x0 (show x ≤ 12 by omega)).1
  have k3 := (num_ok y0 (show y ≤ 12 by omega)).1
  refine ⟨?_, hn, w2, fun z hz => ?_, by simp, ?_⟩
  · simp [wordsT, stepP, restP, restQ, hn, w1, w3, w4, w5, partT, ha, k1, k2, k3, nz, optI, m1, m4, x0, x1, y0, y1]
  · simp at hz
    rcases hz with rfl | rfl | rfl | rfl
    · exact .inl ⟨a, rfl, ha⟩
    · exact .inr (.inl ⟨m, rfl, by omega, by omega⟩)
    · exact .inr (.inl ⟨x, rfl, x0, by omega⟩)
    · exact .inr (.inl ⟨y, rfl, y0, by omega⟩)
  · simp [spOf, w1, isStr?]
end Ev
namespace K82
open PySem L2 Ev
section
variable {d : Nat} {h : MH}
theorem bStrS {i : Int} (hi : i.natAbs < 100) : bStr [.int i] h = some (.str (numT i), h) := bStr_int (by have := natAbs_log i (by omega); omega)
theorem numT_len {i : Int} (hi : i.natAbs < 100) : (numT i).length ≤ 3 := by
  have := int_text_length_le10 (a := i) (k := 2) (by omega) hi
  unfold numT
  rw [PyProof.Rows.ofString_len]
  exact this
theorem share_text_ok (a b : Int) (ha : a.natAbs < 100) (hb : b.natAbs < 100) : callD G (d + 1) "_law_share_text" [.tup [.int a, .int b]] h = some (.ok (.str (shareT a b)) h) := by
  rw [u__law_share_text]
  have la := numT_len ha
  have lb := numT_len hb
  have ls : Str.length "/" = 1 := by decide +kernel
  have le : Str.length "" = 0 := by decide +kernel
  have h1 : wE (c__law_share_text (callD G d) (.tup [.int a, .int b]) h) (fun v h' => v = .str (shareT a b) ∧ h' = h) no := by
    simp [c__law_share_text, b__law_share_text, bStrS ha, bStrS hb]
    refine wB.mk (fun g => ?_) (fun g => ?_)
    · have g := of_decide_eq_true g
      rw [bin_add_str (by omega)]
      simp only [wO_some]
      rw [bin_add_str (by rw [Str.length_append]; omega)]
      simp [shareT, g]
    · have g := of_decide_eq_false g
      rw [bin_add_str (by omega)]
      simp [shareT, g]
  obtain ⟨v, h', e, rfl, rfl⟩ := h1.get
  exact e
theorem step_text_ok (s : Pst) (q : Drawn s) : wE (callD G (d + 2) "_law_step_text" [s.mv] h) (fun v h' => v = .str (textT s) ∧ Keep [] h h') no := by
  rw [u__law_step_text]
  have hmv : s.mv = .tup (.str s.n :: .str s.w :: s.xs) := rfl
  have hql := q.len
  simp [c__law_step_text, b__law_step_text]
  refine wS_mid (fun e h' => e = [some s.mv, some (.ref h.length), none] ∧ h' = h ++ [.lst [.str s.n, .str "=", .str s.w]]) (by simp [hmv]) ?_
  intro e h' z; obtain ⟨rfl, hh⟩ := z
  have kp : Keep [] h h' := by rw [hh]; exact Keep.app _
  have hW : h'[h.length]? = some (.lst [.str s.n, .str "=", .str s.w]) := by rw [hh]; exact List.getElem?_concat_length
  have hl' : h'.length = h.length + 1 := by rw [hh]; simp
  generalize hB : h.length = B at *
  clear hh
  refine wS_st (fun e h1 => (∃ a, e = [some s.mv, some (.ref B), a]) ∧ Keep [B] h' h1 ∧ h1[B]? = some (.lst ((wordsT s).map .str))) (fun nx hn => ?_) ?_
  · have hc : cutM (MV.str s.n :: .str s.w :: s.xs) (some 2) none = s.xs := cutM_from (n := 2)
    simp [hmv, hc]
    refine w_for (ms := [B]) s.xs id (fun done e h1 => ∃ a, e = [some (.tup (.str s.n :: .str s.w :: s.xs)), some (.ref B), a] ∧ Keep [B] h' h1 ∧ h1[B]? = some (.lst ((s.n :: "=" :: s.w :: done.map partT).map .str)))
      (by rw [List.map_id]; exact Its.tup) (by omega) (fun _ _ _ z => by obtain ⟨_, _, z, _⟩ := z; exact z) (fun done x rest e h1 hx hI => ?_) ⟨_, rfl, Keep.refl, hW⟩ (fun e h1 hI => ?_)
    · obtain ⟨a, rfl, k1, hb⟩ := hI
      refine ⟨_, rfl, ?_⟩
      have hdl : done.length < 5 := by rw [hx] at hql; simp at hql; omega
      have hlen : ((s.n :: ("=" : Str) :: s.w :: done.map partT).map MV.str).length < 16777216 := by simp; omega
      have fin : ∀ nx : MEnv → MH → Prop, (∀ e h2, (∃ a, e = [some (MV.tup (.str s.n :: .str s.w :: s.xs)), some (.ref B), a] ∧ Keep [B] h' h2 ∧ h2[B]? = some (.lst ((s.n :: "=" :: s.w :: (done ++ [x]).map partT).map .str))) → nx e h2) →
          nx [some (MV.tup (.str s.n :: .str s.w :: s.xs)), some (.ref B), some x] (h1.set B (.lst ((s.n :: ("=" : Str) :: s.w :: done.map partT).map .str ++ [.str (partT x)]))) := fun nx hnx => by
        refine hnx _ _ ⟨_, rfl, k1.set (.inl (by simp)), ?_⟩
        rw [set_get hb]
        simp
      refine wS_seq fun nx2 hn2 => ?_
      rcases q.pts x (by rw [hx]; simp) with ⟨y, rfl, hy⟩ | ⟨i, rfl, i0, i1⟩ | ⟨a1, b1, rfl, g⟩
      · simp
        refine wS_seq fun nx3 hn3 => ?_
        have ha := m_append (x := .str y) hb hlen
        simp only [w_expS, w_metC, w_locC, envGet_zero, envGet_succ, wO_some, id, metX_lst hb, w_consA, w_nilA, ha]
        refine ⟨.inl trivial, hn3 _ _ ?_⟩
        simp only [w_nxS]
        exact fin nx2 fun e h2 z => hn2 e h2 z
      · simp
        refine wS_seq fun nx3 hn3 => ?_
        have ha := m_append (x := .str (numT i)) hb hlen
        simp only [w_expS, w_metC, w_locC, envGet_zero, envGet_succ, wO_some, id, metX_lst hb, w_consA, w_nilA, w_iteE, w_tstC, w_isiC, isI_int_tuple, truth_bl, wB_f, w_bltC, bInt_int, bStrS (show i.natAbs < 100 by omega), ha]
        refine ⟨.inl trivial, hn3 _ _ ?_⟩
        simp only [w_nxS]
        exact fin nx2 fun e h2 z => hn2 e h2 z
      · simp
        refine wS_seq fun nx3 hn3 => ?_
        have ha := m_append (x := .str (shareT a1 b1)) hb hlen
        obtain ⟨_, _, g3, g4⟩ := goodSh g
        simp only [w_expS, w_metC, w_locC, envGet_zero, envGet_succ, wO_some, id, metX_lst hb, w_consA, w_nilA, w_iteE, w_tstC, w_isiC, isI_tup_tuple, truth_bl, wB_t, w_funC, share_text_ok a1 b1 g3 g4, wE_ok, ha]
        refine ⟨.inl trivial, hn3 _ _ ?_⟩
        simp only [w_nxS]
        exact fin nx2 fun e h2 z => hn2 e h2 z
    · obtain ⟨a, rfl, k1, hb⟩ := hI
      exact hn _ _ ⟨⟨a, rfl⟩, k1, hb⟩
  intro e h1 z; obtain ⟨⟨a, rfl⟩, k1, hb⟩ := z
  simp
  have h2 := sum_le (ls := wordsT s) fun l hl => (q.words l hl).l
  have h3 : (wordsT s).length ≤ 7 := by simp [wordsT]; omega
  have h4 : Str.length " " = 1 := by decide +kernel
  rw [m_join_lst hb (by rw [h4]; omega)]
  exact ⟨rfl, kp.inner k1 (by simp; omega)⟩
theorem program_text_ok (k : Nat) (ss : List Pst) (S : Sl h k ss) (q : ∀ s ∈ ss, Drawn s) (hl : ss.length ≤ 1000) : wE (callD G (d + 3) "_law_program_text" [.ref k] h) (fun v h' => v = .str (Txt.join "
" (ss.map textT)) ∧ Keep [] h h') no := by
  rw [u__law_program_text]
  simp [c__law_program_text, b__law_program_text, iterOf_lst S.at_]
  refine w_map (ms := []) ss Pst.mv (fun s => .str (textT s)) (Its.lst S.at_ (by simp)) (by omega) (fun s h1 hs k1 => ?_) fun h1 k1 => ?_
  · refine ⟨_, rfl, ?_⟩
    simp
    exact step_text_ok s (q s hs)
  · have h2 := sum_le (c := 98) (ls := ss.map textT) fun l hl => by
      obtain ⟨s, hs, rfl⟩ := List.mem_map.mp hl
      exact (q s hs).text.2.2
    rw [List.length_map] at h2
    have h4 : Str.length "\n" = 1 := by decide +kernel
    refine ⟨by rw [List.length_map]; omega, ?_⟩
    rw [m_join_lst (ts := ss.map textT) (by simp) (by rw [h4, List.length_map]; omega)]
    exact ⟨rfl, k1.push _⟩
end
end K82
end T_L17
section T_L18
set_option linter.all false
set_option maxRecDepth 100000
/-! L18: pots, choices, drawn shares. -/
namespace K82
open PySem L2 Ev
section
variable {d : Nat} {h : MH}
theorem of_ok (p n k : Nat) (xs : List MV) (P : Pot h p n) (hn : n ≤ 1000000) (e : h[k]? = some (.lst xs)) (hk : k ≠ p) (hx : xs ≠ []) (hl : xs.length < 1000000) :
    wE (callD G (d + 2) "_law_of" [.ref p, .ref k] h) (fun v h' => v ∈ xs ∧ Keep [p] h h' ∧ Pot h' p (n + 1)) no := by
  rw [u__law_of]
  simp [c__law_of, b__law_of, lenX_lst e]
  have h1 : 1 ≤ xs.length := by
    cases xs with
    | nil => exact absurd rfl hx
    | cons _ _ => simp
  refine wE.to (take_ok p n (xs.length : Nat) P hn (by omega) (by omega)) fun v h' hv => ?_
  obtain ⟨i, rfl, hi, k1, P1⟩ := hv
  have e' := k1.at e (by simpa using hk)
  rw [item_lst e', Ev.atI_nat, List.getElem?_eq_getElem (show i < xs.length by omega)]
  exact ⟨List.getElem_mem _, k1, P1⟩
theorem pot_ok (ns : List Int) (k : Nat) (hk : k ≤ 10) : wE (callD G (d + 1) "_law_pot" [.frz ns, .int (k : Nat)] h) (fun v h' => Keep [] h h' ∧ ∃ j, v = .ref j ∧ h.length ≤ j ∧ Pot h' j 0) no := by
  rw [u__law_pot]
  simp [c__law_pot, b__law_pot]
  have bk : Bd 10 (k : Int) := by unfold Bd; omega
  have lit : ∀ m : Int, m.natAbs < 2 ^ 30 → Bd 30 m := fun m hm => hm
  refine wS_st (fun e h' => ∃ c : Int, e = [some (.frz ns), some (.int (k : Nat)), some (.int c), none, none] ∧ Keep [] h h') (fun nx hn => ?_) ?_
  · simp
    refine wB.mk (fun g => ?_) (fun g => ?_)
    · have g : k < ns.length := by have := of_decide_eq_true g; omega
      rw [Ev.atI_nat, List.getElem?_map, List.getElem?_eq_getElem g]
      exact hn _ _ ⟨_, rfl, Keep.refl⟩
    · rw [show cutM (ns.map MV.int) none (some 1) = (ns.take 1).map MV.int from by rw [List.map_take]; exact cutM_to (n := 1)]
      rw [bSum_lst List.getElem?_concat_length]
      simp only [wO_some, bin_mod_int (show (1000003 : Int) ≠ 0 by decide), bin_mul_int (Bd.mulOk (lit 1259 (by decide)) bk (by omega)), bin_add_int]
      exact hn _ _ ⟨_, rfl, Keep.app _⟩
  intro e h1 z; obtain ⟨c, rfl, k1⟩ := z
  refine wS_st (fun e h' => ∃ a : Int, e = [some (.frz ns), some (.int (k : Nat)), some (.int c), some (.int a), none] ∧ h' = h1 ∧ 0 ≤ a ∧ Bd 1000 a) (fun nx hn => ?_) ?_
  · have p1 := bin_pow_int (h := h1) (i := 10) (j := 60) (powOk (k := 4) (by decide) (by decide) (by decide))
    have p2 := bin_pow_int (h := h1) (i := 10 ^ 60) (j := 5) (powOk (k := 200) (by decide) (by decide) (by decide))
    have p3 := bin_pow_int (h := h1) (i := 10) (j := 18) (powOk (k := 4) (by decide) (by decide) (by decide))
    have e1 : (10 : Int) ^ (60 : Int).toNat = 10 ^ 60 := rfl
    have e2 : ((10 : Int) ^ 60) ^ (5 : Int).toNat = 10 ^ 300 := by decide +kernel
    have e3 : (10 : Int) ^ (18 : Int).toNat = 10 ^ 18 := rfl
    rw [e1] at p1
    rw [e2] at p2
    rw [e3] at p3
    have hpos : (0 : Int) < 10 ^ 300 := by decide +kernel
    have hlt : (10 ^ 300 : Int).natAbs < 2 ^ 999 := by decide +kernel
    generalize (10 : Int) ^ 300 = M at p2 hpos hlt
    generalize (10 : Int) ^ 60 = N at p1 p2
    generalize (10 : Int) ^ 18 = O at p3
    simp only [w_asgN, w_binC, w_bltC, w_consA, w_nilA, w_locC, envGet_zero, envGet_succ, wO_some, bAbs_int, bInt_int, w_valC, p1, p2, bin_mod_int (show M ≠ 0 by omega), w_cmpC, p3, cmp_ge_int, bInt_bl]
    obtain ⟨m1, m2⟩ := fmod_rng (i := if c < 0 then -c else c) hpos
    generalize (if c < 0 then -c else c).fmod M = r at m1 m2
    have br : Bd 999 r := Nat.lt_of_le_of_lt (by omega) hlt
    generalize decide (O ≤ if c < 0 then -c else c) = t
    have bt : Bd 0 0 := by decide
    cases t with
    | true =>
      rw [bin_mul_int (Bd.mulOk br (show Bd 1 (if true = true then (1 : Int) else 0) by decide) (by omega))]
      refine hn _ _ ⟨_, rfl, rfl, ?_, ?_⟩
      · simp; exact m1
      · simp; exact br.mono (by omega)
    | false =>
      rw [bin_mul_int (Bd.mulOk br (show Bd 1 (if false = true then (1 : Int) else 0) by decide) (by omega))]
      refine hn _ _ ⟨_, rfl, rfl, ?_, ?_⟩
      · simp
      · simp; unfold Bd; exact Nat.two_pow_pos _
  intro e h2 z; obtain ⟨a, rfl, rfl, a1, a2⟩ := z
  refine wS_st (fun e h' => ∃ s : Int, e = [some (.frz ns), some (.int (k : Nat)), some (.int c), some (.int a), some (.int s)] ∧ h' = h2 ∧ Bd 61 s) (fun nx hn => ?_) ?_
  · simp [bin_mod_int (show (2305843009213693951 : Int) ≠ 0 by decide)]
    obtain ⟨m1, m2⟩ := fmod_rng (i := c) (show (0 : Int) < 2305843009213693951 by decide)
    exact hn _ _ ⟨_, rfl, rfl, by unfold Bd; omega⟩
  intro e h3 z; obtain ⟨s, rfl, rfl, hs⟩ := z
  have y1 := (lit 8083 (by decide)).mul bk
  simp [bin_mul_int (Bd.mulOk hs (lit 73217 (by decide)) (by omega)), bin_mul_int (Bd.mulOk (lit 8083 (by decide)) bk (by omega)), bin_mul_int (Bd.mulOk y1 bk (by omega)), bin_mod_int (show (2305843009213693921 : Int) ≠ 0 by decide)]
  obtain ⟨m1, m2⟩ := fmod_rng (i := s * 73217 + 8083 * (k : Int) * k + 466) (show (0 : Int) < 2305843009213693921 by decide)
  exact ⟨k1.push _, k1.1, ⟨_, _, _, List.getElem?_concat_length, a1, a2, m1, by unfold Bd; omega, by omega, by omega⟩⟩
theorem cells_ok (ns : List Int) : wE (callD G (d + 1) "_law_cells" [.frz ns, .int 2] h) (fun v h' => v = .ref h.length ∧ ∃ m : Nat, m ≤ 2 ∧ h' = h ++ [.lst ((List.range m).map fun (i : Nat) => MV.int (i : Int))]) no := by
  rw [u__law_cells]
  simp [c__law_cells, b__law_cells]
  split
  · split
    · refine ⟨by omega, by omega, _, ?_, rfl⟩; omega
    · refine ⟨by omega, by omega, _, ?_, rfl⟩; omega
  · split
    · refine ⟨by omega, by omega, _, ?_, rfl⟩; omega
    · refine ⟨by omega, by omega, _, ?_, rfl⟩; omega
theorem share_ok (p n k : Nat) (ls : List Int) (P : Pot h p n) (hn : n ≤ 999999) (e : h[k]? = some (.lst (ls.map .int))) (hk : k ≠ p) (hx : ls ≠ []) (hl : ls.length < 1000) (hr : ∀ q ∈ ls, 1 ≤ q ∧ q ≤ 12) :
    wE (callD G (d + 3) "_law_share" [.ref p, .ref k] h) (fun v h' => (∃ a b : Int, v = .tup [.int a, .int b] ∧ GoodSh a b) ∧ Keep [p] h h' ∧ Pot h' p (n + 2)) no := by
  rw [u__law_share]
  simp [c__law_share, b__law_share]
  refine wS_st (fun e h' => ∃ q : Int, e = [some (.ref p), some (.ref k), some (.int q)] ∧ 1 ≤ q ∧ q ≤ 12 ∧ Keep [p] h h' ∧ Pot h' p (n + 1)) (fun nx hnx => ?_) ?_
  · simp
    refine wE.to (of_ok p n k _ P (by omega) e hk (by simpa using hx) (by simp; omega)) fun v h' hv => ?_
    obtain ⟨hm, k1, P1⟩ := hv
    obtain ⟨q, hq, rfl⟩ := List.mem_map.mp hm
    exact hnx _ _ ⟨q, rfl, (hr q hq).1, (hr q hq).2, k1, P1⟩
  intro e1 h1 z; obtain ⟨q, rfl, q1, q2, k1, P1⟩ := z
  simp [bin_mul_int (Bd.mulOk (show Bd 2 2 by decide) (show Bd 4 q by unfold Bd; omega) (by omega))]
  refine wE.to (take_ok p (n + 1) (2 * q + 1) P1 (by omega) (by omega) (by omega)) fun v h2 hv => ?_
  obtain ⟨i, rfl, hi, k2, P2⟩ := hv
  simp
  refine wE.to (fraction_ok ((i : Int) - q) q ?_ q1 ?_) fun v h3 hv => ?_
  · exact Nat.lt_of_lt_of_le (show ((i : Int) - q).natAbs < 2 ^ 10 by omega) (Nat.pow_le_pow_right (by decide) (by omega))
  · unfold gcdI
    have : Nat.gcd ((i : Int) - q).natAbs q.natAbs ≤ q.natAbs := Nat.gcd_le_right _ (by omega)
    omega
  obtain ⟨rfl, rfl⟩ := hv
  exact ⟨⟨_, _, rfl, (i : Int) - q, q, q1, q2, by omega, by omega, rfl⟩, k1.trans k2, P2⟩
end
end K82
end T_L18
section T_L19
set_option linter.all false
set_option maxRecDepth 100000
/-! L19: drawn steps. -/
namespace Ev
open PySem L2
/-- names at k -/
structure Nm (h : MH) (k : Nat) (ns : List Str) : Prop where
  at_ : h[k]? = some (.lst (ns.map .str))
  ok : ∀ x ∈ ns, nameB x = true
  ne : ns ≠ []
  len : ns.length ≤ 40
theorem Nm.keep {h h' : MH} {k : Nat} {ns : List Str} {ms : List Nat} (w : Nm h k ns) (kp : Keep ms h h') (hm : k ∉ ms) : Nm h' k ns := ⟨kp.at w.at_ hm, w.ok, w.ne, w.len⟩
theorem Nm.keep0 {h h' : MH} {k : Nat} {ns : List Str} (w : Nm h k ns) (kp : Keep [] h h') : Nm h' k ns := w.keep kp (by simp)
/-- lows at k -/
structure Lw (h : MH) (k : Nat) (ls : List Int) : Prop where
  at_ : h[k]? = some (.lst (ls.map .int))
  ok : ∀ q ∈ ls, 1 ≤ q ∧ q ≤ 12
  ne : ls ≠ []
  len : ls.length ≤ 40
theorem Lw.keep {h h' : MH} {k : Nat} {ns : List Int} {ms : List Nat} (w : Lw h k ns) (kp : Keep ms h h') (hm : k ∉ ms) : Lw h' k ns := ⟨kp.at w.at_ hm, w.ok, w.ne, w.len⟩
theorem Lw.keep0 {h h' : MH} {k : Nat} {ns : List Int} (w : Lw h k ns) (kp : Keep [] h h') : Lw h' k ns := w.keep kp (by simp)
theorem name_r : nameB "r" = true := by decide +kernel
theorem name_s : nameB "s" = true := by decide +kernel
end Ev
namespace K82
open PySem L2 Ev
section
variable {d : Nat} {h : MH}
theorem step_ok (p n kn kl : Nat) (ns : List Str) (ls : List Int) (P : Pot h p n) (hn : n ≤ 900000) (N : Nm h kn ns) (L : Lw h kl ls) (hkn : kn ≠ p) (hkl : kl ≠ p) :
    wE (callD G (d + 4) "_law_step" [.ref p, .ref kn, .ref kl] h) (fun v h' => (∃ s : Pst, v = s.mv ∧ Drawn s) ∧ Keep [p] h h' ∧ Pot h' p (n + 10)) no := by
  rw [u__law_step]
  simp [c__law_step, b__law_step]
  have hNl := N.len
  refine wS_st (fun e h' => ∃ (nm one : Str) (w : Nat), e = [some (.ref p), some (.ref kn), some (.ref kl), some (.str nm), some (.str one), some (.int (w : Nat)), none] ∧ nameB nm = true ∧ nameB one = true ∧ w < 7 ∧ Keep [p] h h' ∧ Pot h' p (n + 3)) (fun nx hnx => ?_) ?_
  · have k0 : Keep [] h (h ++ [.lst [.str "r", .str "s"]]) := Keep.app _
    simp [bin_add_lst (k0.at N.at_ (by simp)) List.getElem?_concat_length (show (ns.map MV.str).length + [MV.str "r", MV.str "s"].length ≤ 16777216 by simp; omega)]
    have k1 : Keep [] h (h ++ [.lst [.str "r", .str "s"]] ++ [.lst (ns.map .str ++ [.str "r", .str "s"])]) := k0.push _
    have e1 : (h ++ [.lst [.str "r", .str "s"]] ++ [.lst (ns.map .str ++ [.str "r", .str "s"])])[(h ++ [MO.lst [MV.str "r", MV.str "s"]]).length]? = some (.lst (ns.map .str ++ [.str "r", .str "s"])) := List.getElem?_concat_length
    have hpl := P.lt
    have e2 : (h ++ [.lst [.str "r", .str "s"]] ++ [.lst (ns.map .str ++ [.str "r", .str "s"])])[h.length + 1]? = some (.lst (ns.map .str ++ [.str "r", .str "s"])) := by rw [← e1]; simp
    have P1 := P.keep0 k1
    have N1 := N.keep0 k1
    simp only [List.append_assoc, List.cons_append, List.nil_append] at e2 P1 N1 k1
    refine wE.to (of_ok p n (h.length + 1) _ P1 (by omega) e2 (by omega) (by simp) (by simp; omega)) fun v h2 hv => ?_
    obtain ⟨hm, k2, P2⟩ := hv
    have N2 := N1.keep k2 (by simpa using hkn)
    obtain ⟨nm, rfl, hnm⟩ : ∃ nm, v = .str nm ∧ nameB nm = true := by
      rcases List.mem_append.mp hm with hm | hm
      · obtain ⟨x, hx, rfl⟩ := List.mem_map.mp hm
        exact ⟨x, rfl, N.ok x hx⟩
      · simp at hm
        rcases hm with rfl | rfl
        · exact ⟨_, rfl, name_r⟩
        · exact ⟨_, rfl, name_s⟩
    refine wE.to (of_ok p (n + 1) kn _ P2 (by omega) N2.at_ hkn (by simpa using N.ne) (by simp; omega)) fun v h3 hv => ?_
    obtain ⟨hm, k3, P3⟩ := hv
    obtain ⟨one, hone, rfl⟩ := List.mem_map.mp hm
    refine wE.to (take_ok p (n + 1 + 1) 7 P3 (by omega) (by omega) (by omega)) fun v h4 hv => ?_
    obtain ⟨w, rfl, hw, k4, P4⟩ := hv
    exact hnx _ _ ⟨nm, one, w, rfl, hnm, N.ok one hone, by omega, ((k1.all.trans k2).trans k3).trans k4, P4⟩
  intro e h1 z; obtain ⟨nm, one, w, rfl, hnm, hone, hw, k1, P1⟩ := z
  have N1 := N.keep k1 (by simpa using hkn)
  have L1 := L.keep k1 (by simpa using hkl)
  have hpl := P1.lt
  refine wS_st (fun e h2 => e = [some (.ref p), some (.ref kn), some (.ref kl), some (.str nm), some (.str one), some (.int (w : Nat)), none] ∧ h2 = h1) (fun nx hnx => ?_) ?_
  · simp
    refine wB.mk (fun g => ?_) (fun g => ?_)
    · have k2 : Keep [] h1 (h1 ++ [.lst [.str "joined", .str "met"]]) := Keep.app _
      refine wE.to (of_ok p (n + 3) h1.length _ (P1.keep0 k2) (by omega) List.getElem?_concat_length (by omega) (by simp) (by simp)) fun v h3 hv => ?_
      obtain ⟨hm, k3, P3⟩ := hv
      obtain ⟨ww, rfl, hww⟩ : ∃ ww : Str, v = .str ww ∧ (ww = "joined" ∨ ww = "met") := by
        simp at hm
        rcases hm with rfl | rfl
        · exact ⟨_, rfl, .inl rfl⟩
        · exact ⟨_, rfl, .inr rfl⟩
      have N3 := N1.keep (k2.all.trans k3) (by simpa using hkn)
      refine wE.to (of_ok p (n + 3 + 1) kn _ P3 (by omega) N3.at_ hkn (by simpa using N.ne) (by simp; omega)) fun v h4 hv => ?_
      obtain ⟨hm, k4, P4⟩ := hv
      obtain ⟨b, hb, rfl⟩ := List.mem_map.mp hm
      exact ⟨⟨⟨nm, ww, [one, b], [.str one, .str b]⟩, rfl, mk_pair hnm hww hone (N.ok b hb)⟩, (k1.trans (k2.all.trans k3)).trans k4, P4.mono (by omega)⟩
    · exact hnx _ _ ⟨rfl, rfl⟩
  intro e h2 z; obtain ⟨rfl, hh⟩ := z; subst hh
  refine wS_st (fun e h3 => e = [some (.ref p), some (.ref kn), some (.ref kl), some (.str nm), some (.str one), some (.int (w : Nat)), none] ∧ h3 = h2) (fun nx hnx => ?_) ?_
  · simp
    refine wB.mk (fun g => ?_) (fun g => ?_)
    · refine wE.to (take_ok p (n + 3) 8 P1 (by omega) (by omega) (by omega)) fun v h4 hv => ?_
      obtain ⟨i, rfl, hi, k4, P4⟩ := hv
      exact ⟨⟨⟨nm, "turned", [one], [.str one, .int (i : Nat)]⟩, rfl, mk_turn hnm hone (by omega) (by omega)⟩, k1.trans k4, P4.mono (by omega)⟩
    · exact hnx _ _ ⟨rfl, rfl⟩
  intro e h3 z; obtain ⟨rfl, hh⟩ := z; subst hh
  refine wS_st (fun e h4 => e = [some (.ref p), some (.ref kn), some (.ref kl), some (.str nm), some (.str one), some (.int (w : Nat)), none] ∧ h4 = h3) (fun nx hnx => ?_) ?_
  · simp
    refine wB.mk (fun g => ?_) (fun g => ?_)
    · have hLl := L.len
      refine wE.to (share_ok p (n + 3) kl ls P1 (by omega) L1.at_ hkl L.ne (by omega) L.ok) fun v h4 hv => ?_
      obtain ⟨⟨a, b, rfl, g1⟩, k4, P4⟩ := hv
      refine wE.to (share_ok p (n + 3 + 2) kl ls P4 (by omega) (L1.keep k4 (by simpa using hkl)).at_ hkl L.ne (by omega) L.ok) fun v h5 hv => ?_
      obtain ⟨⟨a2, b2, rfl, g2⟩, k5, P5⟩ := hv
      exact ⟨⟨⟨nm, "moved", [one], [.str one, .tup [.int a, .int b], .tup [.int a2, .int b2]]⟩, rfl, mk_move hnm hone g1 g2⟩, (k1.trans k4).trans k5, P5.mono (by omega)⟩
    · exact hnx _ _ ⟨rfl, rfl⟩
  intro e h4 z; obtain ⟨rfl, hh⟩ := z; subst hh
  refine wS_st (fun e h5 => ∃ m : Int, e = [some (.ref p), some (.ref kn), some (.ref kl), some (.str nm), some (.str one), some (.int (w : Nat)), some (.int m)] ∧ 1 ≤ m ∧ m ≤ 4 ∧ Keep [p] h4 h5 ∧ Pot h5 p (n + 4)) (fun nx hnx => ?_) ?_
  · have k2 : Keep [] h4 (h4 ++ [.lst [.int 1, .int 2, .int 2, .int 2, .int 3, .int 4]]) := Keep.app _
    simp
    refine wE.to (of_ok p (n + 3) h4.length _ (P1.keep0 k2) (by omega) List.getElem?_concat_length (by omega) (by simp) (by simp)) fun v h5 hv => ?_
    obtain ⟨hm, k3, P3⟩ := hv
    obtain ⟨m, rfl, m1, m4⟩ : ∃ m : Int, v = .int m ∧ 1 ≤ m ∧ m ≤ 4 := by
      simp at hm
      rcases hm with rfl | rfl | rfl | rfl
      · exact ⟨1, rfl, by omega, by omega⟩
      · exact ⟨2, rfl, by omega, by omega⟩
      · exact ⟨3, rfl, by omega, by omega⟩
      · exact ⟨4, rfl, by omega, by omega⟩
    exact hnx _ _ ⟨m, rfl, m1, m4, k2.all.trans k3, P3⟩
  intro e h5 z; obtain ⟨m, rfl, m1, m4, k5, P5⟩ := z
  have k6 : Keep [] h5 (h5 ++ [.lst [.str "lesser", .str "zoomed"]]) := Keep.app _
  have hpl5 := P5.lt
  simp
  refine wE.to (of_ok p (n + 4) h5.length _ (P5.keep0 k6) (by omega) List.getElem?_concat_length (by omega) (by simp) (by simp)) fun v h7 hv => ?_
  obtain ⟨hm, k7, P7⟩ := hv
  obtain ⟨ww, rfl, hww⟩ : ∃ ww : Str, v = .str ww ∧ (ww = "lesser" ∨ ww = "zoomed") := by
    simp at hm
    rcases hm with rfl | rfl
    · exact ⟨_, rfl, .inl rfl⟩
    · exact ⟨_, rfl, .inr rfl⟩
  refine wE.to (take_ok p (n + 4 + 1) m P7 (by omega) (by omega) (by omega)) fun v h8 hv => ?_
  obtain ⟨x, rfl, hx, k8, P8⟩ := hv
  refine wE.to (take_ok p (n + 4 + 1 + 1) m P8 (by omega) (by omega) (by omega)) fun v h9 hv => ?_
  obtain ⟨y, rfl, hy, k9, P9⟩ := hv
  exact ⟨⟨⟨nm, ww, [one], [.str one, .int m, .int (x : Nat), .int (y : Nat)]⟩, rfl, mk_size hnm hww hone m1 m4 (by omega) hx (by omega) hy⟩, (((k1.trans k5).trans (k6.all.trans k7)).trans k8).trans k9, P9.mono (by omega)⟩
end
end K82
end T_L19
section T_L20
set_option linter.all false
set_option maxRecDepth 100000
/-! L20: drawn programs. -/
namespace Ev
open PySem L2
structure GoodP (ss : List Pst) : Prop where
  len : ss.length ≤ 8
  dr : ∀ s ∈ ss, Drawn s
  ins : ∀ m, (inputsS (ss.take m)).length ≤ 4
theorem inputs_nil : inputsS [] = [] := rfl
theorem GoodP.nil : GoodP [] := ⟨by simp, by simp, fun m => by rw [List.take_nil, inputs_nil]; simp⟩
theorem GoodP.snoc {ss : List Pst} {s : Pst} (g : GoodP ss) (q : Drawn s) (hl : ss.length < 8) (hi : (inputsS (ss ++ [s])).length ≤ 4) : GoodP (ss ++ [s]) := by
  refine ⟨by simp; omega, fun t ht => ?_, fun m => ?_⟩
  · rcases List.mem_append.mp ht with ht | ht
    · exact g.dr t ht
    · rw [List.mem_singleton.mp ht]; exact q
  · by_cases hm : m ≤ ss.length
    · rw [List.take_append_of_le_length hm]; exact g.ins m
    · rw [List.take_of_length_le (by simp; omega)]; exact hi
/-- the text of a drawn program is one of a program -/
theorem good_prog : ∀ (rest acc : List Pst), (acc ++ rest).length ≤ 8 → (∀ s ∈ rest, Drawn s) → (∀ m, (inputsS ((acc ++ rest).take m)).length ≤ 4) → goL (rest.map textT) acc = .inr (acc ++ rest)
  | [], acc, _, _, _ => by simp [goL]
  | s :: r, acc, hl, hd, hi => by
    have ih := good_prog r (acc ++ [s]) (by simpa using hl) (fun t ht => hd t (List.mem_cons_of_mem _ ht)) (by simpa using hi)
    have e := (hd s List.mem_cons_self).line
    have h8 : ¬ acc.length = 8 := by simp at hl; omega
    have h4 : ¬ 4 < (inputsS (acc ++ [s])).length := by
      have := hi (acc.length + 1)
      rw [show acc ++ s :: r = (acc ++ [s]) ++ r by simp, List.take_left' (by simp)] at this
      omega
    simp only [List.map_cons, goL, e, h8, h4, if_false]
    rw [ih]
    simp
theorem GoodP.prog {ss : List Pst} (g : GoodP ss) (hne : ss ≠ []) : progS (Txt.join "\n" (ss.map textT)) = .inr ss := by
  unfold progS linesS
  have : Txt.split (Txt.join "\n" (ss.map textT)) "\n" = ss.map textT := TL.split_join (s := 10) (S := []) (by decide +kernel) (by decide +kernel) (by simpa using hne) fun p hp => by
    obtain ⟨s, hs, rfl⟩ := List.mem_map.mp hp
    exact (g.dr s hs).text.1
  rw [this]
  exact good_prog ss [] (by simpa using g.len) g.dr (by simpa using g.ins)
end Ev
namespace K82
open PySem L2 Ev
section
variable {d : Nat} {h : MH}
theorem name_lits : nameB "a" = true ∧ nameB "b" = true ∧ nameB "c" = true ∧ nameB "met" = true ∧ nameB "x" = true ∧ nameB "q" = true ∧ nameB "zz" = true ∧ nameB "joined" = true ∧ nameB "plane" = true := by decide +kernel
theorem eqv_len {xs ys : List PyData} (h : xs.length ≠ ys.length) : PyData.eqvAll xs ys = false := by
  induction xs generalizing ys with
  | nil => cases ys with
    | nil => exact absurd rfl h
    | cons _ _ => simp [PyData.eqvAll]
  | cons x xs ih => cases ys with
    | nil => simp [PyData.eqvAll]
    | cons y ys => simp [PyData.eqvAll, ih (ys := ys) (by simpa using h)]
theorem eq_nilP {k j : Nat} {ss : List Pst} (S : Sl h k ss) (hl : ss.length ≤ 1000) (e' : h[j]? = some (.lst [])) : eqD h (.ref k) (.ref j) = some ss.isEmpty := by
  rw [eqD_lst (n := 2) (m := 0) (fun x hx => by
    obtain ⟨s, hs, rfl⟩ := List.mem_map.mp hx
    exact (S.ok s hs).layS) (by omega) (by simp; omega) S.at_ (by simp) (by omega) (by simp) e']
  cases ss with
  | nil => simp [vDs, PyData.eqvAll]
  | cons s r => simp [vDs, PyData.eqvAll]
theorem steps_ok (p n kl mo : Nat) (ls : List Int) (P : Pot h p n) (hn : n ≤ 500000) (L : Lw h kl ls) (hkl : kl ≠ p) (hm1 : 1 ≤ mo) (hm : mo ≤ 8) :
    wE (callD G (d + 5) "_law_steps" [.ref p, .int (mo : Nat), .ref kl] h) (fun v h' => Keep [p] h h' ∧ Pot h' p (n + 200) ∧ ∃ j ss, v = .ref j ∧ h.length ≤ j ∧ Sl h' j ss ∧ GoodP ss ∧ ss ≠ []) no := by
  rw [u__law_steps]
  simp [c__law_steps, b__law_steps]
  have hpl := P.lt
  refine wS_st (fun e h' => ∃ kn ns, e = [some (.ref p), some (.int (mo : Nat)), some (.ref kl), some (.ref kn), none, none, none, none] ∧ h.length ≤ kn ∧ Nm h' kn ns ∧ ns.length ≤ 4 ∧ Keep [p] h h' ∧ Pot h' p (n + 1)) (fun nx hnx => ?_) ?_
  · simp
    obtain ⟨na, nb, nc, nm, nX, nq, nz, nj, npl⟩ := name_lits
    generalize hH : h ++ [MO.lst [MV.str "a"], MO.lst [MV.str "a", MV.str "b"], MO.lst [MV.str "b", MV.str "a", MV.str "c"], MO.lst [MV.str "met", MV.str "x", MV.str "q", MV.str "zz"], MO.lst [MV.str "joined", MV.str "plane"], MO.lst [MV.ref h.length, MV.ref (h.length + 1), MV.ref (h.length + 2), MV.ref (h.length + 3), MV.ref (h.length + 4)]] = H
    have k0 : Keep [] h H := by rw [← hH]; exact Keep.app _
    have f0 : H[h.length]? = some (.lst ([("a" : Str)].map .str)) := by rw [← hH]; simp
    have f1 : H[h.length + 1]? = some (.lst ([("a" : Str), "b"].map .str)) := by rw [← hH, List.getElem?_append_right (by omega)]; simp
    have f2 : H[h.length + 2]? = some (.lst ([("b" : Str), "a", "c"].map .str)) := by rw [← hH, List.getElem?_append_right (by omega)]; simp
    have f3 : H[h.length + 3]? = some (.lst ([("met" : Str), "x", "q", "zz"].map .str)) := by rw [← hH, List.getElem?_append_right (by omega)]; simp
    have f4 : H[h.length + 4]? = some (.lst ([("joined" : Str), "plane"].map .str)) := by rw [← hH, List.getElem?_append_right (by omega)]; simp
    have f5 : H[h.length + 5]? = some (.lst [.ref h.length, .ref (h.length + 1), .ref (h.length + 2), .ref (h.length + 3), .ref (h.length + 4)]) := by rw [← hH, List.getElem?_append_right (by omega)]; simp
    refine wE.to (of_ok p n (h.length + 5) _ (P.keep0 k0) (by omega) f5 (by omega) (by simp) (by simp)) fun v h2 hv => ?_
    obtain ⟨hm, k2, P2⟩ := hv
    have mk : ∀ (i : Nat) (ns : List Str), H[h.length + i]? = some (.lst (ns.map .str)) → (∀ x ∈ ns, nameB x = true) → ns ≠ [] → ns.length ≤ 4 → nx [some (.ref p), some (.int (mo : Nat)), some (.ref kl), some (.ref (h.length + i)), none, none, none, none] h2 := fun i ns e ok ne hl =>
      hnx _ _ ⟨h.length + i, ns, rfl, by omega, ⟨k2.at e (by simp; omega), ok, ne, by omega⟩, hl, k0.all.trans k2, P2⟩
    simp at hm
    rcases hm with rfl | rfl | rfl | rfl | rfl
    · exact mk 0 _ f0 (by simp [na]) (by simp) (by simp)
    · exact mk 1 _ f1 (by simp [na, nb]) (by simp) (by simp)
    · exact mk 2 _ f2 (by simp [na, nb, nc]) (by simp) (by simp)
    · exact mk 3 _ f3 (by simp [nm, nX, nq, nz]) (by simp) (by simp)
    · exact mk 4 _ f4 (by simp [nj, npl]) (by simp) (by simp)
  intro e h1 z; obtain ⟨kn, ns, rfl, hkn, N, hns4, k1, P1⟩ := z
  have L1 := L.keep k1 (by simpa using hkl)
  have hpl1 := P1.lt
  refine wS_st (fun e h2 => e = [some (.ref p), some (.int (mo : Nat)), some (.ref kl), some (.ref kn), some (.ref h1.length), none, none, none] ∧ h2 = h1 ++ [.lst []]) (fun nx hnx => by simp; exact hnx _ _ ⟨rfl, rfl⟩) ?_
  intro e h2 z; obtain ⟨rfl, hh⟩ := z
  have k2 : Keep [] h1 h2 := by rw [hh]; exact Keep.app _
  have S2 : Sl h2 h1.length [] := ⟨by rw [hh]; exact List.getElem?_concat_length, by simp⟩
  have hk1l := k1.1
  have hknl := lt_of N.at_
  have hkll := lt_of L1.at_
  generalize hB : h1.length = B at *
  clear hh
  have P2 := P1.keep0 k2
  have N2 := N.keep0 k2
  have L2' := L1.keep0 k2
  refine wS_st (fun e h3 => (∃ a b c, e = [some (.ref p), some (.int (mo : Nat)), some (.ref kl), some (.ref kn), some (.ref B), a, b, c]) ∧ Keep [p, B] h2 h3 ∧ Pot h3 p (n + 190) ∧ ∃ ss, Sl h3 B ss ∧ GoodP ss) (fun nx hnx => ?_) ?_
  · simp
    refine wE.to (take_ok p (n + 1) (mo : Nat) P2 (by omega) (by omega) (by omega)) fun v h3 hv => ?_
    obtain ⟨i, rfl, hi, k3, P3⟩ := hv
    simp [rangeOf]
    refine ⟨by omega, ?_⟩
    have e1 : ((1 : Int) + (i : Int)).toNat = 1 + i := by omega
    rw [e1]
    refine w_for (ms := [p, B]) (List.range (1 + i)) (fun (j : Nat) => MV.int (0 + (j : Int)))
      (fun done e h4 => ∃ a b c, e = [some (.ref p), some (.int (mo : Nat)), some (.ref kl), some (.ref kn), some (.ref B), a, b, c] ∧ Keep [p, B] h3 h4 ∧ Pot h4 p (n + 2 + 12 * done.length) ∧ ∃ ss, Sl h4 B ss ∧ GoodP ss ∧ ss.length ≤ done.length)
      Its.rng (by simp; omega) (fun _ _ _ z => by obtain ⟨_, _, _, _, z, _⟩ := z; exact z) (fun done x rest e h4 hx hI => ?_) ⟨_, _, _, rfl, Keep.refl, P3, [], S2.keep k3 (by simp; omega), GoodP.nil, by simp⟩ (fun e h4 hI => ?_)
    · obtain ⟨a, b, c, rfl, k4, P4, ss, S4, gp, hsl⟩ := hI
      have hdl : done.length < 1 + i := by
        have := congrArg List.length hx
        simp at this
        omega
      refine ⟨_, rfl, ?_⟩
      have kk4 := (k3.mono (ms' := [p, B]) (by simp)).trans k4
      have N4 := N2.keep kk4 (by simp; omega)
      have L4 := L2'.keep kk4 (by simp; omega)
      have hpl4 := P4.lt
      have hBl := lt_of S4.at_
      have hssl : ss.length ≤ 7 := by omega
      refine wS_st (fun e h5 => ∃ ks ks', e = [some (.ref p), some (.int (mo : Nat)), some (.ref kl), some (.ref kn), some (.ref B), some (.int (x : Int)), some (.ref ks), c] ∧ Keep [] h4 h5 ∧ h4.length ≤ ks ∧ Nm h5 ks ks') (fun nx2 hn2 => ?_) ?_
      · simp [iterOf_lst S4.at_]
        refine w_map (ms := []) ss Pst.mv (fun s => .str s.n) (Its.lst S4.at_ (by simp)) (by omega) (fun s h5 hs k5 => ?_) fun h5 k5 => ?_
        · refine ⟨_, rfl, ?_⟩
          simp [Pst.mv, Keep.refl]
        · have k6 := k5.push [.lst (ss.map fun s => MV.str s.n)]
          refine ⟨by simp; omega, ?_⟩
          rw [bin_add_lst (k6.at N4.at_ (by simp)) List.getElem?_concat_length (by simp; omega)]
          have hc : (ns.map MV.str ++ ss.map fun s => MV.str s.n) = (ns ++ ss.map (·.n)).map .str := by simp [Function.comp_def]
          rw [hc]
          simp only [wO_some]
          rw [sset_lst List.getElem?_concat_length (by simp; omega)]
          simp only [wO_some]
          refine hn2 _ _ ⟨_, _, rfl, (k6.push _).push _, ?_, ⟨List.getElem?_concat_length, fun y hy => ?_, fun z => ?_, ?_⟩⟩
          · have := k5.1; simp; omega
          · have hy := (sortSet_mem _ y).mp hy
            rcases List.mem_append.mp hy with hy | hy
            · exact N.ok y hy
            · obtain ⟨s, hs, rfl⟩ := List.mem_map.mp hy
              exact (gp.dr s hs).n
          · obtain ⟨y, r, e⟩ := List.exists_cons_of_ne_nil N.ne
            have : y ∈ sortSet (ns ++ ss.map (·.n)) := (sortSet_mem _ y).mpr (by rw [e]; simp)
            rw [z] at this
            simp at this
          · have := sortSet_len (ns ++ ss.map (·.n))
            simp at this; omega
      intro e h5 z; obtain ⟨ks, ks', rfl, k5, hks, Nk⟩ := z
      have N5 := N4.keep0 k5
      have L5 := L4.keep0 k5
      have S5 := S4.keep0 k5
      have P5 := P4.keep0 k5
      have hksl := lt_of Nk.at_
      have k5l := k5.1
      refine wS_st (fun e h6 => ∃ s, e = [some (.ref p), some (.int (mo : Nat)), some (.ref kl), some (.ref kn), some (.ref B), some (.int (x : Int)), some (.ref ks), some s.mv] ∧ Drawn s ∧ Keep [p] h5 h6 ∧ Pot h6 p (n + 2 + 12 * done.length + 11)) (fun nx2 hn2 => ?_) ?_
      · simp
        refine wE.to (take_ok p (n + 2 + 12 * done.length) 2 P5 (by omega) (by omega) (by omega)) fun v h6 hv => ?_
        obtain ⟨t, rfl, ht, k6, P6⟩ := hv
        have go : ∀ (k : Nat) (xs : List Str) (h7 : MH), Nm h7 k xs → k ≠ p → Keep [] h6 h7 → wE (callD G (d + 4) "_law_step" [.ref p, .ref k, .ref kl] h7) (fun v h1 => nx2 [some (.ref p), some (.int (mo : Nat)), some (.ref kl), some (.ref kn), some (.ref B), some (.int (x : Int)), some (.ref ks), some v] h1) no := fun k xs h7 Nx hkp k7 => by
          refine wE.to (step_ok p (n + 2 + 12 * done.length + 1) k kl xs ls (P6.keep0 k7) (by omega) Nx ((L5.keep k6 (by simpa using hkl)).keep0 k7) hkp hkl) fun v h8 hv => ?_
          obtain ⟨⟨s, rfl, q⟩, k8, P8⟩ := hv
          exact hn2 _ _ ⟨s, rfl, q, (k6.trans k7.all).trans k8, P8⟩
        have S6 := S5.keep k6 (by simp; omega)
        have N6 := N5.keep k6 (by simp; omega)
        have Nk6 := Nk.keep k6 (by simp; omega)
        have no0 : ∀ x : Int, x = 0 + x := by omega
        simp only [eqC_int, wE_at, wO_map, eqD_int, wO_some, truth_bl]
        refine wB.mk (fun g => ?_) (fun g => ?_)
        · have := go ks ks' h6 Nk6 (by omega) Keep.refl
          simpa using this
        · have S7 := S6.keep0 (Keep.app (ms := []) [.lst []])
          simp [eqC_lst S7.at_, eq_nilP S7 (by omega) List.getElem?_concat_length]
          refine wB.mk (fun g2 => ?_) (fun g2 => ?_)
          · have := go ks ks' (h6 ++ [.lst []]) (Nk6.keep0 (Keep.app _)) (by omega) (Keep.app _)
            simpa using this
          · obtain ⟨s, hs⟩ : ∃ s, ss.getLast? = some s := by
              cases q : ss.getLast? with
              | none => rw [List.getLast?_eq_none_iff] at q; subst q; simp at g2
              | some s => exact ⟨s, rfl⟩
            have hsm : s ∈ ss := List.mem_of_getLast? hs
            have hmv : s.mv = .tup (.str s.n :: .str s.w :: s.xs) := rfl
            simp [item_lst S7.at_, hs, hmv]
            have k8 : Keep [] h6 (h6 ++ [.lst []] ++ [.lst [.str s.n]]) := (Keep.app _).push _
            have N8 := N6.keep0 k8
            have eA : (h6 ++ [.lst []] ++ [.lst [.str s.n]])[h6.length + 1]? = some (.lst [.str s.n]) := by
              rw [List.getElem?_append_right (by simp)]; simp
            have N8a := N8.at_
            simp only [List.append_assoc, List.cons_append, List.nil_append] at eA N8a k8
            rw [bin_add_lst eA N8a (by simp; omega)]
            simp only [wO_some]
            have := go (h6 ++ [MO.lst [], MO.lst [MV.str s.n]]).length (s.n :: ns) (h6 ++ [MO.lst [], MO.lst [MV.str s.n]] ++ [.lst ([MV.str s.n] ++ ns.map .str)]) ⟨List.getElem?_concat_length, fun y hy => by
              rcases List.mem_cons.mp hy with e | hy
              · rw [e]; exact (gp.dr s hsm).n
              · exact N.ok y hy, by simp, by simp; omega⟩ (by have := k6.1; simp; omega) (k8.push _)
            simpa using this
      intro e h6 z; obtain ⟨s, rfl, q, k6, P6⟩ := z
      have S6 := S5.keep k6 (by simp; omega)
      have hB6 := lt_of S6.at_
      have kk6 : Keep [p, B] h4 h6 := k5.all.trans (k6.mono (by simp))
      refine wS_seq fun nx2 hn2 => ?_
      have okss : ∀ t ∈ ss ++ [s], t.Ok := fun t ht => by
        rcases List.mem_append.mp ht with ht | ht
        · exact S6.ok t ht
        · rw [List.mem_singleton.mp ht]; exact q.ok
      have skip : ∀ h7, Keep [] h6 h7 → nx2 [some (.ref p), some (.int (mo : Nat)), some (.ref kl), some (.ref kn), some (.ref B), some (.int (x : Int)), some (.ref ks), some s.mv] h7 := fun h7 k7 => by
        refine hn2 _ _ ?_
        simp only [w_nxS]
        exact ⟨_, _, _, rfl, k4.trans (kk6.trans k7.all), (P6.keep0 k7).mono (by simp; omega), ss, S6.keep0 k7, gp, by simp; omega⟩
      have k7 : Keep [] h6 (h6 ++ [.lst [s.mv]]) := Keep.app _
      simp
      rw [bin_add_lst (k7.at S6.at_ (by simp)) List.getElem?_concat_length (by simp; omega)]
      simp only [wO_some]
      have S8 : Sl (h6 ++ [MO.lst [s.mv]] ++ [.lst (ss.map Pst.mv ++ [s.mv])]) (h6 ++ [MO.lst [s.mv]]).length (ss ++ [s]) := ⟨by rw [List.getElem?_concat_length, List.map_append]; rfl, okss⟩
      have k8 : Keep [] h6 (h6 ++ [MO.lst [s.mv]] ++ [.lst (ss.map Pst.mv ++ [s.mv])]) := k7.push _
      refine wE.to (inputs_ok _ (ss ++ [s]) S8 (by simp; omega)) fun v h9 hv => ?_
      obtain ⟨k9, j, rfl, hj⟩ := hv
      have kk9 := k8.trans k9
      simp [lenX_lst hj]
      refine wB.mk (fun g => ?_) (fun g => ?_)
      · have g : (inputsS (ss ++ [s])).length ≤ 4 := by have := of_decide_eq_true g; omega
        have S9 := S6.keep0 kk9
        have k10 : Keep [] h9 (h9 ++ [.lst [s.mv]]) := Keep.app _
        rw [bin_add_lst (k10.at S9.at_ (by simp)) List.getElem?_concat_length (by simp; omega)]
        simp only [wO_some]
        have S10 : Sl (h9 ++ [MO.lst [s.mv]] ++ [.lst (ss.map Pst.mv ++ [s.mv])]) (h9 ++ [MO.lst [s.mv]]).length (ss ++ [s]) := ⟨by rw [List.getElem?_concat_length, List.map_append]; rfl, okss⟩
        refine wE.to (ways_ok _ (ss ++ [s]) S10 (by simp; omega) (by simp)) fun v h11 hv => ?_
        obtain ⟨k11, w, rfl⟩ := hv
        have kk11 := kk9.trans ((k10.push _).trans k11)
        have S11 := S6.keep0 kk11
        simp
        refine wB.mk (fun g2 => ?_) (fun g2 => ?_)
        · refine wS_seq fun nx3 hn3 => ?_
          simp [metX_lst S11.at_, m_append S11.at_ (show (ss.map Pst.mv).length < 16777216 by simp; omega)]
          refine hn3 _ _ ?_
          simp only [w_nxS]
          refine hn2 _ _ ?_
          simp only [w_nxS]
          refine ⟨_, _, _, rfl, (k4.trans (kk6.trans kk11.all)).set (.inl (by simp)), ?_, ss ++ [s], ⟨by rw [set_get S11.at_, List.map_append]; rfl, okss⟩, gp.snoc q (by omega) g, by simp; omega⟩
          exact ((P6.keep0 kk11).keep (ms := [B]) (Keep.refl.set (.inl (by simp))) (by simp; omega)).mono (by simp; omega)
        · have := skip h11 kk11
          simpa using this
      · have := skip h9 kk9
        simpa using this
    · obtain ⟨a, b, c, rfl, k4, P4, ss, S4, gp, hsl⟩ := hI
      exact hnx _ _ ⟨⟨a, b, c, rfl⟩, (k3.mono (by simp)).trans k4, P4.mono (by simp; omega), ss, S4, gp⟩
  intro e h3 z; obtain ⟨⟨a, b, c, rfl⟩, k3, P3, ss, S3, gp⟩ := z
  have kk : Keep [p] h h3 := k1.trans (k2.all.inner k3 (by simp; omega))
  have N3 := N2.keep k3 (by simp; omega)
  have S4 := S3.keep0 (Keep.app (ms := []) [.lst []])
  have hssl := gp.len
  simp [neC_lst S4.at_, eq_nilP S4 (by omega) List.getElem?_concat_length]
  refine wB.mk (fun g => ?_) (fun g => ?_)
  · have hne : ss ≠ [] := by
      intro z
      subst z
      simp at g
    exact ⟨kk.push _, (P3.mono (by omega)).keep0 (Keep.app _), by omega, ss, S4, gp, hne⟩
  · have N4 := N3.keep0 (Keep.app (ms := []) [.lst []])
    obtain ⟨y, r, e⟩ := List.exists_cons_of_ne_nil N.ne
    have N4a := N4.at_
    rw [e] at N4a
    simp [item_lst N4a]
    have q : Drawn ⟨"r", "turned", [y], [.str y, .int 0]⟩ := mk_turn name_r (N.ok y (by rw [e]; simp)) (by omega) (by omega)
    have hi : (inputsS [⟨"r", "turned", [y], [.str y, .int 0]⟩]).length ≤ 4 := by
      have := sortSet_len (stF [⟨"r", "turned", [y], [.str y, .int 0]⟩]).free
      have h2 := (stF_ok (ss := [⟨"r", "turned", [y], [.str y, .int 0]⟩]) (by simpa using q.ok)).nfree
      simp at h2
      unfold inputsS
      omega
    have k4 : Keep [] h3 (h3 ++ [MO.lst [], MO.lst [MV.tup [MV.str "r", MV.str "turned", MV.str y, MV.int 0]]]) := Keep.app _
    refine ⟨kk.trans k4.all, (P3.mono (by omega)).keep0 k4, by have := k3.1; have := k2.1; omega, [⟨"r", "turned", [y], [.str y, .int 0]⟩], ⟨?_, by simpa using q.ok⟩, ?_, by simp⟩
    · rw [List.getElem?_append_right (by omega)]
      simp [Pst.mv]
    · exact GoodP.nil.snoc q (by simp) hi
end
end K82
end T_L20
section T_L21
set_option linter.all false
set_option maxRecDepth 100000
/-! L21: lines spoilt. -/
namespace Ev
open PySem L2
/-- a line of at most c signs -/
structure Lc (c : Nat) (l : Str) : Prop where
  a : Asc l
  n : 10 ∉ tl l
  l : l.length ≤ c
theorem Lc.mono {c c' : Nat} {l : Str} (h : Lc c l) (k : c ≤ c') : Lc c' l := ⟨h.a, h.n, Nat.le_trans h.l k⟩
theorem Lc.app {c c' : Nat} {a b : Str} (h : Lc c a) (h' : Lc c' b) : Lc (c + c') (a ++ b) := ⟨h.a.app h'.a, fun z => by
  rw [tl_app] at z
  rcases List.mem_append.mp z with z | z
  · exact h.n z
  · exact h'.n z, by rw [Str.length_append]; exact Nat.add_le_add h.l h'.l⟩
def lcB (c : Nat) (l : Str) : Bool := (tl l).all (fun x => decide (x < 128) && decide (x ≠ 10)) && decide (l.length ≤ c)
theorem lc_of {c : Nat} {l : Str} (h : lcB c l = true) : Lc c l := by
  unfold lcB at h
  simp only [Bool.and_eq_true, decide_eq_true_eq, List.all_eq_true] at h
  exact ⟨fun x hx => (h.1 x hx).1, fun z => (h.1 10 z).2 rfl, h.2⟩
def wt (ls : List Str) : Nat := (ls.map (·.length)).sum + ls.length
theorem wt_app (a b : List Str) : wt (a ++ b) = wt a + wt b := by simp [wt]; omega
theorem wt_cons (x : Str) (r : List Str) : wt (x :: r) = x.length + 1 + wt r := by simp [wt]; omega
theorem wt_cut (i : Nat) (ls : List Str) : wt (ls.take i) + wt (ls.drop i) = wt ls := by rw [← wt_app, List.take_append_drop]
theorem wt_drop (i : Nat) (ls : List Str) : wt (ls.drop (i + 1)) ≤ wt (ls.drop i) := by
  have := wt_cut 1 (ls.drop i)
  rw [List.drop_drop] at this
  omega
theorem wt_set : ∀ (ls : List Str) (i : Nat) (v : Str), wt (ls.set i v) ≤ wt ls + v.length
  | [], _, _ => by simp [wt]
  | x :: r, 0, v => by rw [List.set_cons_zero, wt_cons, wt_cons]; omega
  | x :: r, i + 1, v => by
    have := wt_set r i v
    rw [List.set_cons_succ, wt_cons, wt_cons]; omega
theorem wt_mem {x : Str} : ∀ {ls : List Str}, x ∈ ls → x.length + 1 ≤ wt ls
  | [], h => by simp at h
  | y :: r, h => by
    rw [wt_cons]
    rcases List.mem_cons.mp h with e | h
    · subst e; omega
    · have := wt_mem h; omega
theorem wt_le {c : Nat} {ls : List Str} (h : ∀ l ∈ ls, l.length ≤ c) : wt ls ≤ ls.length * (c + 1) := by
  have := sum_le h
  unfold wt
  rw [Nat.mul_succ]; omega
theorem join_wt {y : Str} (hy : y.length = 1) (ls : List Str) : (Txt.join y ls).length ≤ wt ls := by
  have := join_len y ls
  rw [hy] at this
  unfold wt; omega
theorem wt_join {y : Str} (hy : y.length = 1) {ls : List Str} (hne : ls ≠ []) : wt ls = (Txt.join y ls).length + 1 := by
  cases ls with
  | nil => exact absurd rfl hne
  | cons a r =>
    rw [TL.join_eq, PyProof.Rows.len_join_cons, hy]
    simp [wt]
    omega
theorem split_wt {x y : Str} (hy : 1 ≤ y.length) : wt (Txt.split x y) ≤ x.length + 1 := PyProof.Rows.split_weight x y hy
theorem len_sp : Str.length " " = 1 := by decide +kernel
theorem len_nl : Str.length "\n" = 1 := by decide +kernel
theorem lc_join {c : Nat} {ws : List Str} (h : ∀ w ∈ ws, Asc w ∧ 10 ∉ tl w) (hw : wt ws ≤ c) : Lc c (Txt.join " " ws) :=
  ⟨join_asc (asc_of (by decide +kernel)) fun l hl => (h l hl).1, join_free (by decide +kernel) fun l hl => (h l hl).2, Nat.le_trans (join_wt len_sp ws) hw⟩
theorem lc_words {c : Nat} {l : Str} (h : Lc c l) : (∀ w ∈ Txt.split l " ", Asc w ∧ 10 ∉ tl w) ∧ wt (Txt.split l " ") ≤ c + 1 ∧ Txt.split l " " ≠ [] := by
  refine ⟨fun w hw => ⟨split_asc h.a hw, fun z => h.n ?_⟩, Nat.le_trans (split_wt (by rw [len_sp]; omega)) (by have := h.l; omega), split_ne l " " (by decide +kernel) (by rw [len_sp]; omega)⟩
  rw [← split_join_tl l " "]
  exact mem_joinL (List.mem_map_of_mem hw) z
/-- one sign replaced -/
theorem rep_one (x z : Str) (c : Nat) : Txt.replace x ⟨#[c]⟩ z = Str.join z (Txt.split x ⟨#[c]⟩) := StrLaws.replace_one x z c
theorem sp_is : (" " : Str) = ⟨#[32]⟩ := by decide +kernel
theorem nl_is : ("\n" : Str) = ⟨#[10]⟩ := by decide +kernel
theorem rep_sp {c : Nat} {l : Str} (h : Lc c l) : Lc (2 * c + 2) (Txt.replace l " " "  ") := by
  have e : Txt.replace l " " "  " = Txt.join "  " (Txt.split l " ") := by
    rw [TL.join_eq, sp_is]; exact rep_one l "  " 32
  obtain ⟨h1, h2, h3⟩ := lc_words h
  rw [e]
  refine ⟨join_asc (asc_of (by decide +kernel)) fun l hl => (h1 l hl).1, join_free (by decide +kernel) fun l hl => (h1 l hl).2, ?_⟩
  have := join_len "  " (Txt.split l " ")
  have h4 : Str.length "  " = 2 := by decide +kernel
  rw [h4] at this
  unfold wt at h2
  omega
theorem up_lc {c : Nat} {l : Str} (h : Lc c l) : Lc c (Txt.upper l) := by
  have hl : (tl l).all (· < 128) = true := List.all_eq_true.mpr fun x hx => decide_eq_true (h.a x hx)
  have e : Txt.upper l = SX.S ((tl l).map PyProof.Rows.up1) := by
    have := SX.upper_S (a := tl l) hl
    rw [← this]
    congr 1
  have fin : ∀ x : Fin 128, x.val ≠ 10 → PyProof.Rows.up1 x.val < 128 ∧ PyProof.Rows.up1 x.val ≠ 10 := by decide +kernel
  rw [e]
  have et : tl (SX.S ((tl l).map PyProof.Rows.up1)) = (tl l).map PyProof.Rows.up1 := rfl
  refine ⟨fun x hx => ?_, fun z => ?_, ?_⟩
  · rw [et] at hx
    obtain ⟨y, hy, rfl⟩ := List.mem_map.mp hx
    exact (fin ⟨y, h.a y hy⟩ (fun z => h.n (by rw [← z]; exact hy))).1
  · rw [et] at z
    obtain ⟨y, hy, e⟩ := List.mem_map.mp z
    exact (fin ⟨y, h.a y hy⟩ (fun z => h.n (by rw [← z]; exact hy))).2 e
  · rw [len_tl, et, List.length_map, ← len_tl]; exact h.l
theorem erase_map : ∀ (ls : List Str) (i : Nat), (ls.map MV.str).eraseIdx i = (ls.eraseIdx i).map MV.str
  | [], _ => rfl
  | _ :: _, 0 => rfl
  | x :: r, i + 1 => by
    have := erase_map r i
    simp [this]
theorem cut_to (ls : List Str) (i : Nat) : cutM (ls.map MV.str) none (some (i : Int)) = (ls.take i).map .str := by rw [List.map_take]; exact cutM_to
theorem cut_from (ls : List Str) (i : Nat) : cutM (ls.map MV.str) (some (i : Int)) none = (ls.drop i).map .str := by rw [List.map_drop]; exact cutM_from
theorem cut_from1 (ls : List Str) (i : Nat) : cutM (ls.map MV.str) (some ((i : Int) + 1)) none = (ls.drop (i + 1)).map .str := cut_from ls (i + 1)
end Ev
namespace K82
open PySem L2 Ev
section
variable {d : Nat} {h : MH}
def oddL : List String := ["a", "q", "joined", "met", "turned", "moved", "lesser", "zoomed", "=", "0", "1", "2", "5", "8", "-1"] ++ ["1/2", "-1/2", "2/4", "3/2", "1/13", "0/1", "1/1", "-0", "01", "1/-2", "", "A", "abcdefgh", "7"] ++ ["abcdefghi", "+1", "1.5", "a1", "1/2/3", "11/12", "-11/12", "1000000000", "/", "1/"]
def odds : List Str := oddL.map Str.ofString
theorem odds_ok : odds.all (lcB 12) = true := by decide +kernel
theorem odd_word_ok (p n : Nat) (P : Pot h p n) (hn : n ≤ 900000) : wE (callD G (d + 3) "_law_odd_word" [.ref p] h) (fun v h' => (∃ w, v = .str w ∧ Lc 12 w) ∧ Keep [p] h h' ∧ Pot h' p (n + 1)) no := by
  rw [u__law_odd_word]
  simp [c__law_odd_word, b__law_odd_word]
  have hpl := P.lt
  refine wS_st (fun e h' => ∃ k, e = [some (.ref p), some (.ref k)] ∧ Keep [] h h' ∧ h.length ≤ k ∧ h'[k]? = some (.lst (["a", "q", "joined", "met", "turned", "moved", "lesser", "zoomed", "=", "0", "1", "2", "5", "8", "-1"].map fun s => MV.str (Str.ofString s)))) (fun nx hnx => ?_) ?_
  · simp
    exact hnx _ _ ⟨_, rfl, Keep.app _, Nat.le_refl _, List.getElem?_concat_length⟩
  intro e h1 z; obtain ⟨k, rfl, k1, hk, e1⟩ := z
  refine wS_st (fun e h' => ∃ k, e = [some (.ref p), some (.ref k)] ∧ Keep [] h h' ∧ h.length ≤ k ∧ h'[k]? = some (.lst ((["a", "q", "joined", "met", "turned", "moved", "lesser", "zoomed", "=", "0", "1", "2", "5", "8", "-1"] ++ ["1/2", "-1/2", "2/4", "3/2", "1/13", "0/1", "1/1", "-0", "01", "1/-2", "", "A", "abcdefgh", "7"]).map fun s => MV.str (Str.ofString s)))) (fun nx hnx => ?_) ?_
  · simp
    rw [bin_add_lst ((Keep.app (ms := []) _).at e1 (by simp)) List.getElem?_concat_length (by simp)]
    simp only [wO_some]
    exact hnx _ _ ⟨_, rfl, (k1.push _).push _, by have := k1.1; simp; omega, List.getElem?_concat_length⟩
  intro e h2 z; obtain ⟨k, rfl, k2, hk, e2⟩ := z
  simp
  rw [bin_add_lst ((Keep.app (ms := []) _).at e2 (by simp)) List.getElem?_concat_length (by simp)]
  simp only [wO_some]
  refine wE.to (of_ok p n _ (odds.map .str) (P.keep0 ((k2.push _).push _)) (by omega) (by rw [List.getElem?_concat_length]; rfl) (by have := k2.1; simp; omega) (by simp [odds, oddL]) (by simp [odds, oddL])) fun v h4 hv => ?_
  obtain ⟨hm, k4, P4⟩ := hv
  obtain ⟨w, hw, rfl⟩ := List.mem_map.mp hm
  exact ⟨⟨w, rfl, lc_of (List.all_eq_true.mp odds_ok w hw)⟩, ((k2.push _).push _).all.trans k4, P4⟩
theorem some_ok (p n k : Nat) (ws : List Str) (P : Pot h p n) (hn : n ≤ 900000) (e : h[k]? = some (.lst (ws.map .str))) (hk : k ≠ p) (h4 : ws.length = 4) : wE (callD G (d + 2) "_law_some" [.ref p, .ref k, .int 3] h) (fun v h' => Keep [p] h h' ∧ Pot h' p (n + 3) ∧ ∃ (j : Nat) (fs : List Str), v = .ref j ∧ h.length ≤ j ∧ h'[j]? = some (.lst (fs.map .str)) ∧ fs.length = 3 ∧ ∀ x ∈ fs, x ∈ ws) no := by
  rw [u__law_some]
  simp [c__law_some, b__law_some]
  have hpl := P.lt
  refine wS_st (fun e h' => e = [some (.ref p), some (.ref k), some (.int 3), some (.ref h.length), some (.ref (h.length + 1)), none] ∧ h' = h ++ [.lst (ws.map .str), .lst []]) (fun nx hnx => ?_) ?_
  · simp [bList_lst e]
    exact hnx _ _ ⟨rfl, rfl⟩
  intro e1 h1 z; obtain ⟨rfl, hh⟩ := z
  have k1 : Keep [] h h1 := by rw [hh]; exact Keep.app _
  have f0 : h1[h.length]? = some (.lst (ws.map .str)) := by rw [hh]; simp
  have f1 : h1[h.length + 1]? = some (.lst []) := by rw [hh, List.getElem?_append_right (by omega)]; simp
  have P1 := P.keep0 k1
  generalize hB : h.length = B at *
  clear hh
  refine wS_st (fun e h2 => (∃ a, e = [some (.ref p), some (.ref k), some (.int 3), some (.ref B), some (.ref (B + 1)), a]) ∧ Keep [p, B, B + 1] h1 h2 ∧ Pot h2 p (n + 3) ∧ ∃ fs : List Str, h2[B + 1]? = some (.lst (fs.map .str)) ∧ fs.length = 3 ∧ ∀ x ∈ fs, x ∈ ws) (fun nx hnx => ?_) ?_
  · simp [rangeOf]
    refine w_for (ms := [p, B, B + 1]) (List.range 3) (fun (j : Nat) => MV.int (0 + (j : Int)))
      (fun done e h2 => ∃ a, e = [some (.ref p), some (.ref k), some (.int 3), some (.ref B), some (.ref (B + 1)), a] ∧ Keep [p, B, B + 1] h1 h2 ∧ Pot h2 p (n + done.length) ∧ ∃ fs ls : List Str, h2[B + 1]? = some (.lst (fs.map .str)) ∧ fs.length = done.length ∧ (∀ x ∈ fs, x ∈ ws) ∧ h2[B]? = some (.lst (ls.map .str)) ∧ ls.length = 4 - done.length ∧ ∀ x ∈ ls, x ∈ ws)
      Its.rng (by simp) (fun _ _ _ z => by obtain ⟨_, _, z, _⟩ := z; exact z) (fun done x rest e h2 hx hI => ?_) ⟨_, rfl, Keep.refl, P1, [], ws, f1, rfl, by simp, f0, by simp [h4], fun _ z => z⟩ (fun e h2 hI => ?_)
    · obtain ⟨a, rfl, k2, P2, fs, ls, e1, l1, m1, e0, l0, m0⟩ := hI
      have hdl : done.length < 3 := by
        have := congrArg List.length hx
        simp at this
        omega
      refine ⟨_, rfl, ?_⟩
      refine wS_seq fun nx2 hn2 => ?_
      simp [metX_lst e1, metX_lst e0, lenX_lst e0]
      refine wE.to (take_ok p (n + done.length) (ls.length : Nat) P2 (by omega) (by omega) (by omega)) fun v h3 hv => ?_
      obtain ⟨i, rfl, hi, k3, P3⟩ := hv
      have e0' := k3.at e0 (by simp; omega)
      have e1' := k3.at e1 (by simp; omega)
      have hil : i < ls.length := by omega
      have hget : (ls.map MV.str)[i]? = some (.str ls[i]) := by rw [List.getElem?_map, List.getElem?_eq_getElem hil]; rfl
      rw [m_pop e0' hget]
      simp only [wO_some]
      have e1'' := set_ne (u := .lst ((ls.map MV.str).eraseIdx i)) (k := B) (j := B + 1) (by omega) e1'
      rw [m_append e1'' (by simp; omega)]
      simp only [wO_some]
      refine hn2 _ _ ?_
      simp only [w_nxS]
      refine ⟨_, rfl, k2.trans ((k3.mono (by simp)).trans ((Keep.refl.set (.inl (by simp))).set (.inl (by simp)))), ?_, fs ++ [ls[i]], ls.eraseIdx i, ?_, by simp [l1], ?_, ?_, ?_, ?_⟩
      · exact (P3.keep (ms := [B, B + 1]) ((Keep.refl.set (.inl (by simp))).set (.inl (by simp))) (by simp; omega)).mono (by simp; omega)
      · rw [set_get e1'']; simp
      · intro y hy
        rcases List.mem_append.mp hy with hy | hy
        · exact m1 y hy
        · rw [List.mem_singleton.mp hy]; exact m0 _ (List.getElem_mem _)
      · rw [List.getElem?_set_ne (by omega), set_get e0']
        congr 2
        exact erase_map ls i
      · rw [List.length_eraseIdx_of_lt hil]; simp; omega
      · intro y hy; exact m0 y (List.mem_of_mem_eraseIdx hy)
    · obtain ⟨a, rfl, k2, P2, fs, ls, e1, l1, m1, e0, l0, m0⟩ := hI
      refine hnx _ _ ⟨⟨a, rfl⟩, k2, by simpa using P2, fs, e1, by simpa using l1, m1⟩
  intro e1 h2 z; obtain ⟨⟨a, rfl⟩, k2, P2, fs, e1, l1, m1⟩ := z
  simp
  have k1p : Keep [p] h h1 := k1.all
  exact ⟨k1p.inner k2 (by simp; omega), P2, fs, e1, l1, m1⟩
theorem line_spoilt_ok (p n c : Nat) (l : Str) (P : Pot h p n) (hn : n ≤ 800000) (q : Lc c l) (hc : c ≤ 100000) : wE (callD G (d + 4) "_law_line_spoilt" [.ref p, .str l] h) (fun v h' => (∃ w, v = .str w ∧ Lc (3 * c + 60) w) ∧ Keep [p] h h' ∧ Pot h' p (n + 5)) no := by
  rw [u__law_line_spoilt]
  simp [c__law_line_spoilt, b__law_line_spoilt]
  have hpl := P.lt
  have hll := q.l
  obtain ⟨wok, wwt, wne⟩ := lc_words q
  refine wS_st (fun e h' => ∃ w : Nat, e = [some (.ref p), some (.str l), some (.ref h.length), some (.int (w : Nat)), none] ∧ Keep [p] h h' ∧ Pot h' p (n + 1) ∧ h'[h.length]? = some (.lst ((Txt.split l " ").map .str))) (fun nx hnx => ?_) ?_
  · simp
    rw [m_split (by rw [len_sp]; rfl) (by omega)]
    simp
    refine wE.to (take_ok p n 7 (P.keep0 (Keep.app _)) (by omega) (by omega) (by omega)) fun v h1 hv => ?_
    obtain ⟨w, rfl, hw, k1, P1⟩ := hv
    exact hnx _ _ ⟨w, rfl, (Keep.app _).trans k1, P1, k1.at List.getElem?_concat_length (by simp; omega)⟩
  intro e h1 z; obtain ⟨w, rfl, k1, P1, e1⟩ := z
  generalize hK : h.length = k at *
  generalize Txt.split l " " = ws at *
  have hwl : ws.length ≤ 100001 := by unfold wt at wwt; omega
  have hws1 : 1 ≤ ws.length := by
    cases ws with
    | nil => exact absurd rfl wne
    | cons _ _ => simp
  refine wS_st (fun e h' => ∃ a : Nat, e = [some (.ref p), some (.str l), some (.ref k), some (.int (w : Nat)), some (.int (a : Nat))] ∧ a < ws.length ∧ Keep [p] h h' ∧ Pot h' p (n + 2) ∧ h'[k]? = some (.lst (ws.map .str))) (fun nx hnx => ?_) ?_
  · simp [lenX_lst e1]
    refine wE.to (take_ok p (n + 1) (ws.length : Nat) P1 (by omega) (by omega) (by omega)) fun v h2 hv => ?_
    obtain ⟨a, rfl, ha, k2, P2⟩ := hv
    exact hnx _ _ ⟨a, rfl, by omega, k1.trans k2, P2, k2.at e1 (by simp; omega)⟩
  intro e h2 z; obtain ⟨a, rfl, ha, k2, P2, e2⟩ := z
  have hpl2 := P2.lt
  have okT : ∀ i, ∀ x ∈ ws.take i, Asc x ∧ 10 ∉ tl x := fun i x hx => wok x (List.mem_of_mem_take hx)
  have okD : ∀ i, ∀ x ∈ ws.drop i, Asc x ∧ 10 ∉ tl x := fun i x hx => wok x (List.mem_of_mem_drop hx)
  have cut := wt_cut a ws
  have drp := wt_drop a ws
  -- a joined list
  have joined : ∀ (xs : List Str) (j m : Nat) (h3 : MH), h3[j]? = some (.lst (xs.map .str)) → (∀ x ∈ xs, Asc x ∧ 10 ∉ tl x) → wt xs ≤ 3 * c + 60 → Keep [p] h h3 → Pot h3 p m → m ≤ n + 5 →
      wO (mcall "join" (.str " ") [.ref j] h3) fun r => (∃ w, r.1 = .str w ∧ Lc (3 * c + 60) w) ∧ Keep [p] h r.2 ∧ Pot r.2 p (n + 5) := fun xs j m h3 e ok hw k P hm => by
    rw [m_join_lst e (by rw [len_sp]; unfold wt at hw; omega)]
    exact ⟨⟨_, rfl, lc_join ok hw⟩, k, P.mono hm⟩
  refine wS_st (fun e h' => e = [some (.ref p), some (.str l), some (.ref k), some (.int (w : Nat)), some (.int (a : Nat))] ∧ h' = h2) (fun nx hnx => ?_) ?_
  · simp
    refine wB.mk (fun g => ?_) (fun g => ?_)
    · simp [-List.map_take, -List.map_drop, slice_lst e2, cut_to]
      rw [slice_lst ((Keep.app (ms := []) _).at e2 (by simp)), cut_from1]
      simp only [wO_some]
      rw [bin_add_lst ((Keep.app (ms := []) _).at List.getElem?_concat_length (by simp)) List.getElem?_concat_length (by simp; omega), ← List.map_append]
      simp only [wO_some]
      refine joined (ws.take a ++ ws.drop (a + 1)) _ (n + 2) _ List.getElem?_concat_length (fun x hx => ?_) (by rw [wt_app]; omega) (((k2.push _).push _).push _) (P2.keep0 (((Keep.app _).push _).push _)) (by omega)
      rcases List.mem_append.mp hx with hx | hx
      · exact okT a x hx
      · exact okD _ x hx
    · exact hnx _ _ ⟨rfl, rfl⟩
  intro e h3 z; obtain ⟨rfl, hh⟩ := z; subst hh
  refine wS_st (fun e h' => e = [some (.ref p), some (.str l), some (.ref k), some (.int (w : Nat)), some (.int (a : Nat))] ∧ h' = h3) (fun nx hnx => ?_) ?_
  · simp
    refine wB.mk (fun g => ?_) (fun g => ?_)
    · simp [-List.map_take, -List.map_drop, slice_lst e2, cut_to]
      have kA : Keep [] h3 (h3 ++ [.lst ((ws.take a).map .str)]) := Keep.app _
      refine wE.to (odd_word_ok p (n + 2) (P2.keep0 kA) (by omega)) fun v h4 hv => ?_
      obtain ⟨⟨o, rfl, ho⟩, k4, P4⟩ := hv
      have e4 := k4.at (kA.at e2 (by simp)) (by simp; omega)
      have t4 := k4.at (h := h3 ++ [.lst ((ws.take a).map .str)]) (n := h3.length) List.getElem?_concat_length (by simp; omega)
      have ho' := ho.l
      rw [bin_add_lst ((Keep.app (ms := []) _).at t4 (by simp)) List.getElem?_concat_length (by simp; omega)]
      simp only [wO_some]
      rw [slice_lst (((Keep.app (ms := []) (h := h4) _).push _).at e4 (by simp)), cut_from]
      simp only [wO_some]
      rw [bin_add_lst ((Keep.app (ms := []) _).at List.getElem?_concat_length (by simp)) List.getElem?_concat_length (by simp; omega)]
      simp only [wO_some]
      refine joined (ws.take a ++ [o] ++ ws.drop a) _ (n + 3) _ (by rw [List.getElem?_concat_length]; simp) (fun x hx => ?_) (by rw [wt_app, wt_app, wt_cons]; simp [wt] at *; omega) ((((k2.trans (kA.all.trans k4)).push _).push _).push _ |>.push _) (P4.keep0 ((((Keep.app _).push _).push _).push _)) (by omega)
      rcases List.mem_append.mp hx with hx | hx
      · rcases List.mem_append.mp hx with hx | hx
        · exact okT a x hx
        · rw [List.mem_singleton.mp hx]; exact ⟨ho.a, ho.n⟩
      · exact okD _ x hx
    · exact hnx _ _ ⟨rfl, rfl⟩
  intro e h4 z; obtain ⟨rfl, hh⟩ := z; subst hh
  refine wS_st (fun e h' => e = [some (.ref p), some (.str l), some (.ref k), some (.int (w : Nat)), some (.int (a : Nat))] ∧ h' = h4) (fun nx hnx => ?_) ?_
  · simp
    refine wB.mk (fun g => ?_) (fun g => ?_)
    · have ld : Str.length "." = 1 := by decide +kernel
      have l2 : Str.length "  " = 2 := by decide +kernel
      simp [bin_add_str (show Str.length " " + l.length ≤ 16777216 by rw [len_sp]; omega), bin_add_str (show l.length + Str.length " " ≤ 16777216 by rw [len_sp]; omega), bin_add_str (show l.length + Str.length "." ≤ 16777216 by rw [ld]; omega), m_upper (show l.length ≤ 5592405 by omega)]
      refine ⟨by rw [l2]; omega, ?_⟩
      refine wE.to (of_ok p (n + 2) h4.length _ (P2.keep0 (Keep.app _)) (by omega) List.getElem?_concat_length (by omega) (by simp) (by simp)) fun v h5 hv => ?_
      obtain ⟨hm, k5, P5⟩ := hv
      refine ⟨?_, k2.trans ((Keep.app _).trans k5), P5.mono (by omega)⟩
      have sp : Lc 1 (" " : Str) := lc_of (by decide +kernel)
      have dt : Lc 1 ("." : Str) := lc_of (by decide +kernel)
      have em : Lc 0 ("" : Str) := lc_of (by decide +kernel)
      simp at hm
      rcases hm with rfl | rfl | rfl | rfl | rfl | rfl
      · exact ⟨_, rfl, (sp.app q).mono (by omega)⟩
      · exact ⟨_, rfl, (q.app sp).mono (by omega)⟩
      · exact ⟨_, rfl, (rep_sp q).mono (by omega)⟩
      · exact ⟨_, rfl, em.mono (by omega)⟩
      · exact ⟨_, rfl, (q.app dt).mono (by omega)⟩
      · exact ⟨_, rfl, (up_lc q).mono (by omega)⟩
    · exact hnx _ _ ⟨rfl, rfl⟩
  intro e h5 z; obtain ⟨rfl, hh⟩ := z; subst hh
  refine wS_st (fun e h' => e = [some (.ref p), some (.str l), some (.ref k), some (.int (w : Nat)), some (.int (a : Nat))] ∧ h' = h5) (fun nx hnx => ?_) ?_
  · simp
    refine wB.mk (fun g => ?_) (fun g => ?_)
    · obtain ⟨z, hz⟩ : ∃ z, ws.getLast? = some z := by
        cases q : ws.getLast? with
        | none => exact absurd (List.getLast?_eq_none_iff.mp q) wne
        | some z => exact ⟨z, rfl⟩
      have hzm : z ∈ ws := List.mem_of_getLast? hz
      have hxa : (ws.map MV.str)[a]? = some (.str ws[a]) := by rw [List.getElem?_map, List.getElem?_eq_getElem ha]; rfl
      refine wS_st (fun e h' => e = [some (.ref p), some (.str l), some (.ref k), some (.int (w : Nat)), some (.int (a : Nat))] ∧ h' = (h5.set k (.lst ((ws.set a z).map .str))).set k (.lst (((ws.set a z).set (ws.length - 1) ws[a]).map .str))) (fun nx2 hnx2 => ?_) ?_
      · simp [item_lst e2, hz, Ev.atI_nat, hxa, List.getElem?_eq_getElem ha, seq_tup]
        rw [put_lst e2 (by simpa using ha)]
        simp only [wO_some]
        have e3 := set_get (u := .lst ((ws.map MV.str).set a (.str z))) e2
        have hp : mSetI (.ref k) (.int (-1)) (.str ws[a]) (h5.set k (.lst ((ws.map MV.str).set a (.str z)))) = some ((h5.set k (.lst ((ws.map MV.str).set a (.str z)))).set k (.lst (((ws.map MV.str).set a (.str z)).set (ws.length - 1) (.str ws[a])))) := by
          have : ixN ((ws.map MV.str).set a (.str z)).length (-1) = some (ws.length - 1) := by
            unfold ixN
            rw [if_neg (by omega), if_pos (by simp; omega)]
            simp
            omega
          simp only [mSetI, e3, this]
        rw [hp]
        simp only [wO_some]
        exact hnx2 _ _ ⟨rfl, by rw [List.map_set, List.map_set, List.map_set]⟩
      intro e h6 z'; obtain ⟨rfl, hh⟩ := z'
      have e6 : h6[k]? = some (.lst (((ws.set a z).set (ws.length - 1) ws[a]).map .str)) := by rw [hh]; exact set_get (set_get e2)
      have k6 : Keep [k] h5 h6 := by rw [hh]; exact (Keep.refl.set (.inl (by simp))).set (.inl (by simp))
      simp
      refine joined _ k (n + 2) h6 e6 (fun x hx => ?_) ?_ (k2.inner k6 (by simp; omega)) (P2.keep k6 (by simp; omega)) (by omega)
      · rcases List.mem_or_eq_of_mem_set hx with hx | hx
        · rcases List.mem_or_eq_of_mem_set hx with hx | hx
          · exact wok x hx
          · rw [hx]; exact wok z hzm
        · rw [hx]; exact wok _ (List.getElem_mem _)
      · have w1 := wt_set (ws.set a z) (ws.length - 1) ws[a]
        have w2 := wt_set ws a z
        have w3 := wt_mem hzm
        have w4 := wt_mem (List.getElem_mem ha)
        omega
    · exact hnx _ _ ⟨rfl, rfl⟩
  intro e h6 z; obtain ⟨rfl, hh⟩ := z; subst hh
  simp [-List.map_take, -List.map_drop, slice_lst e2, cut_to]
  have kA : Keep [] h6 (h6 ++ [.lst ((ws.take a).map .str)]) := Keep.app _
  refine wE.to (odd_word_ok p (n + 2) (P2.keep0 kA) (by omega)) fun v h7 hv => ?_
  obtain ⟨⟨o, rfl, ho⟩, k7, P7⟩ := hv
  have e7 := k7.at (kA.at e2 (by simp)) (by simp; omega)
  have t7 := k7.at (h := h6 ++ [.lst ((ws.take a).map .str)]) (n := h6.length) List.getElem?_concat_length (by simp; omega)
  have ho' := ho.l
  rw [bin_add_lst ((Keep.app (ms := []) _).at t7 (by simp)) List.getElem?_concat_length (by simp; omega)]
  simp only [wO_some]
  rw [slice_lst (((Keep.app (ms := []) (h := h7) _).push _).at e7 (by simp)), cut_from1]
  simp only [wO_some]
  rw [bin_add_lst ((Keep.app (ms := []) _).at List.getElem?_concat_length (by simp)) List.getElem?_concat_length (by simp; omega)]
  simp only [wO_some]
  refine joined (ws.take a ++ [o] ++ ws.drop (a + 1)) _ (n + 3) _ (by rw [List.getElem?_concat_length]; simp) (fun x hx => ?_) (by rw [wt_app, wt_app, wt_cons]; simp [wt] at *; omega) ((((k2.trans (kA.all.trans k7)).push _).push _).push _ |>.push _) (P7.keep0 ((((Keep.app _).push _).push _).push _)) (by omega)
  rcases List.mem_append.mp hx with hx | hx
  · rcases List.mem_append.mp hx with hx | hx
    · exact okT a x hx
    · rw [List.mem_singleton.mp hx]; exact ⟨ho.a, ho.n⟩
  · exact okD _ x hx
end
end K82
end T_L21
section T_L22
set_option linter.all false
set_option maxRecDepth 100000
/-! L22: texts spoilt. -/
namespace Ev
open PySem L2
/-- a text of lines of at most c signs, of at most L -/
def Tx (t : Str) (c L : Nat) : Prop := ∃ ls : List Str, ls ≠ [] ∧ t = Txt.join "\n" ls ∧ (∀ l ∈ ls, Lc c l) ∧ t.length ≤ L
theorem Tx.lines {t : Str} {c L : Nat} (h : Tx t c L) : Txt.split t "\n" ≠ [] ∧ t = Txt.join "\n" (Txt.split t "\n") ∧ (∀ l ∈ Txt.split t "\n", Lc c l) ∧ t.length ≤ L ∧ wt (Txt.split t "\n") = t.length + 1 ∧ Asc t := by
  obtain ⟨ls, h1, rfl, h2, h3⟩ := h
  have : Txt.split (Txt.join "\n" ls) "\n" = ls := TL.split_join (s := 10) (S := []) (by decide +kernel) (by decide +kernel) h1 fun p hp => (h2 p hp).n
  rw [this]
  exact ⟨h1, rfl, h2, h3, wt_join len_nl h1, join_asc (asc_of (by decide +kernel)) fun l hl => (h2 l hl).a⟩
theorem lc_empty (c : Nat) : Lc c ("" : Str) := (lc_of (c := 0) (by decide +kernel)).mono (Nat.zero_le _)
theorem Tx.mk {c L : Nat} {xs : List Str} (h : ∀ x ∈ xs, Lc c x) (hw : wt xs ≤ L) : Tx (Txt.join "\n" xs) c L := by
  by_cases hx : xs = []
  · subst hx
    refine ⟨([""] : List Str), by simp, by decide +kernel, by simpa using lc_empty c, ?_⟩
    have : (Txt.join "\n" []).length = 0 := by decide +kernel
    omega
  · exact ⟨xs, hx, rfl, h, Nat.le_trans (join_wt len_nl xs) hw⟩
theorem Tx.one {c L : Nat} {x : Str} (h : Lc c x) (hw : x.length ≤ L) : Tx x c L := ⟨[x], by simp, by rw [TL.join_eq]; rfl, by simpa using h, hw⟩
theorem str_nil (x : Str) : x ++ ("" : Str) = x ∧ ("" : Str) ++ x = x := by
  have e : tl "" = [] := by decide +kernel
  exact ⟨str_of_tl (by rw [tl_app, e, List.append_nil]), str_of_tl (by rw [tl_app, e, List.nil_append])⟩
theorem str_assoc (x y z : Str) : x ++ y ++ z = x ++ (y ++ z) := str_of_tl (by simp [tl_app])
theorem sjoin_app (y : Str) : ∀ (a b : List Str), a ≠ [] → b ≠ [] → Str.join y (a ++ b) = Str.join y a ++ y ++ Str.join y b
  | [], _, h, _ => absurd rfl h
  | [x], [], _, h => absurd rfl h
  | [x], z :: r, _, _ => rfl
  | x :: u :: r, b, _, hb => by
    have ih := sjoin_app y (u :: r) b (by simp) hb
    show x ++ y ++ Str.join y ((u :: r) ++ b) = (x ++ y ++ Str.join y (u :: r)) ++ y ++ Str.join y b
    rw [ih]
    simp only [str_assoc]
theorem join_app {a b : List Str} (ha : a ≠ []) (hb : b ≠ []) : Txt.join "\n" (a ++ b) = Txt.join "\n" a ++ "\n" ++ Txt.join "\n" b := by
  rw [TL.join_eq, TL.join_eq, TL.join_eq]
  exact sjoin_app "\n" a b ha hb
theorem join_e : Txt.join "\n" ([""] : List Str) = "" := by decide +kernel
/-- the five others of a text -/
theorem five {t : Str} {c L : Nat} (h : Tx t c L) : Tx (t ++ "\n") (c + L + 1) (2 * L + 1) ∧ Tx ("\n" ++ t) (c + L + 1) (2 * L + 1) ∧ Tx (Txt.replace t "\n" " ") (c + L + 1) (2 * L + 1) ∧ Tx "" (c + L + 1) (2 * L + 1) ∧ Tx (t ++ "\n" ++ t) (c + L + 1) (2 * L + 1) := by
  obtain ⟨h1, h2, h3, h4, h5, h6⟩ := h.lines
  have len : ∀ a b : Str, (a ++ b).length = a.length + b.length := Str.length_append
  have h3' : ∀ l ∈ Txt.split t "\n", Lc (c + L + 1) l := fun l hl => (h3 l hl).mono (by omega)
  have ln := len_nl
  by_cases hL : L = 0
  · subst hL
    have ht : t = "" := str_of_tl (List.length_eq_zero_iff.mp (by rw [← len_tl]; omega))
    subst ht
    have e1 : ("" : Str) ++ "\n" = Txt.join "\n" (["", ""] : List Str) := by decide +kernel
    have e2 : ("\n" : Str) ++ "" = Txt.join "\n" (["", ""] : List Str) := by decide +kernel
    have e3 : Txt.replace "" "\n" " " = "" := by decide +kernel
    have e4 : ("" : Str) ++ "\n" ++ "" = Txt.join "\n" (["", ""] : List Str) := by decide +kernel
    have hj : (Txt.join "\n" (["", ""] : List Str)).length ≤ 2 * 0 + 1 := by decide +kernel
    have hh : ∀ l ∈ (["", ""] : List Str), Lc (c + 0 + 1) l := by simpa using lc_empty (c + 0 + 1)
    exact ⟨⟨(["", ""] : List Str), by simp, e1, hh, by rw [e1]; exact hj⟩, ⟨(["", ""] : List Str), by simp, e2, hh, by rw [e2]; exact hj⟩, by rw [e3]; exact .one (lc_empty _) (by decide +kernel), .one (lc_empty _) (by decide +kernel), ⟨(["", ""] : List Str), by simp, e4, hh, by rw [e4]; exact hj⟩⟩
  refine ⟨⟨Txt.split t "\n" ++ ([""] : List Str), by simp, ?_, ?_, ?_⟩, ⟨([""] : List Str) ++ Txt.split t "\n", by simp, ?_, ?_, ?_⟩, ?_, .one (lc_empty _) ?_, ⟨Txt.split t "\n" ++ Txt.split t "\n", by simp [h1], ?_, ?_, ?_⟩⟩
  · rw [join_app h1 (by simp), ← h2, join_e, (str_nil _).1]
  · intro l hl
    rcases List.mem_append.mp hl with hl | hl
    · exact h3' l hl
    · rw [List.mem_singleton.mp hl]; exact lc_empty _
  · rw [len, ln]; omega
  · rw [join_app (by simp) h1, ← h2, join_e, str_assoc, (str_nil _).2]
  · intro l hl
    rcases List.mem_append.mp hl with hl | hl
    · rw [List.mem_singleton.mp hl]; exact lc_empty _
    · exact h3' l hl
  · rw [len, ln]; omega
  · have e : Txt.replace t "\n" " " = Txt.join " " (Txt.split t "\n") := by
      rw [TL.join_eq]
      have := rep_one t " " 10
      rw [← nl_is] at this
      exact this
    have hj : (Txt.replace t "\n" " ").length ≤ L + 1 := by
      rw [e]
      have := join_wt len_sp (Txt.split t "\n")
      omega
    refine .one ⟨?_, ?_, by omega⟩ (by omega)
    · rw [e]; exact join_asc (asc_of (by decide +kernel)) fun l hl => (h3 l hl).a
    · rw [e]; exact join_free (by decide +kernel) fun l hl => (h3 l hl).n
  · have : Str.length "" = 0 := by decide +kernel
    omega
  · rw [join_app h1 h1, ← h2]
  · intro l hl
    rcases List.mem_append.mp hl with hl | hl
    · exact h3' l hl
    · exact h3' l hl
  · rw [len, len, ln]; omega
theorem Tx.mono {t : Str} {c L c' L' : Nat} (h : Tx t c L) (h1 : c ≤ c') (h2 : L ≤ L') : Tx t c' L' := by
  obtain ⟨ls, a, b, d, e⟩ := h
  exact ⟨ls, a, b, fun l hl => (d l hl).mono h1, Nat.le_trans e h2⟩
theorem bin_mul_lst {h : MH} {a : Nat} {xs : List MV} {k : Int} (e : h[a]? = some (.lst xs)) (c : -(2 ^ 63) ≤ k ∧ k < 2 ^ 63 ∧ xs.length * k.toNat ≤ 16777216) : binop .Mult (.ref a) (.int k) h = some (.ref h.length, h ++ [.lst (List.replicate k.toNat xs).flatten]) := by
  unfold binop lst?
  simp only [e]
  exact if_pos c
end Ev
namespace K82
open PySem L2 Ev
section
variable {d : Nat} {h : MH}
theorem spoilt_ok (p n c L : Nat) (t : Str) (P : Pot h p n) (hn : n ≤ 700000) (q : Tx t c L) (hc : c ≤ 20000) (hL : L ≤ 100000) : wE (callD G (d + 5) "_law_spoilt" [.ref p, .str t] h) (fun v h' => (∃ r, v = .str r ∧ Tx r (L + 3 * c + 60) (2 * L + 10 * c + 200)) ∧ Keep [p] h h' ∧ Pot h' p (n + 10)) no := by
  rw [u__law_spoilt]
  simp [c__law_spoilt, b__law_spoilt]
  have hpl := P.lt
  obtain ⟨q1, q2, q3, q4, q5, q6⟩ := q.lines
  have f5 := five q
  refine wS_st (fun e h' => ∃ w : Nat, e = [some (.ref p), some (.str t), some (.ref h.length), some (.int (w : Nat)), none, none, none, none] ∧ Keep [p] h h' ∧ Pot h' p (n + 1) ∧ h'[h.length]? = some (.lst ((Txt.split t "\n").map .str))) (fun nx hnx => ?_) ?_
  · simp
    rw [m_split (by rw [len_nl]; rfl) (by omega)]
    simp
    refine wE.to (take_ok p n 8 (P.keep0 (Keep.app _)) (by omega) (by omega) (by omega)) fun v h1 hv => ?_
    obtain ⟨w, rfl, hw, k1, P1⟩ := hv
    exact hnx _ _ ⟨w, rfl, (Keep.app _).trans k1, P1, k1.at List.getElem?_concat_length (by simp; omega)⟩
  intro e h1 z; obtain ⟨w, rfl, k1, P1, e1⟩ := z
  generalize hK : h.length = k at *
  generalize Txt.split t "\n" = ls at *
  have hwl : ls.length ≤ 100001 := by unfold wt at q5; omega
  have hws1 : 1 ≤ ls.length := by
    cases ls with
    | nil => exact absurd rfl q1
    | cons _ _ => simp
  refine wS_st (fun e h' => ∃ a : Nat, e = [some (.ref p), some (.str t), some (.ref k), some (.int (w : Nat)), some (.int (a : Nat)), none, none, none] ∧ a < ls.length ∧ Keep [p] h h' ∧ Pot h' p (n + 2) ∧ h'[k]? = some (.lst (ls.map .str))) (fun nx hnx => ?_) ?_
  · simp [lenX_lst e1]
    refine wE.to (take_ok p (n + 1) (ls.length : Nat) P1 (by omega) (by omega) (by omega)) fun v h2 hv => ?_
    obtain ⟨a, rfl, ha, k2, P2⟩ := hv
    exact hnx _ _ ⟨a, rfl, by omega, k1.trans k2, P2, k2.at e1 (by simp; omega)⟩
  intro e h2 z; obtain ⟨a, rfl, ha, k2, P2, e2⟩ := z
  have hpl2 := P2.lt
  have cut := wt_cut a ls
  have drp := wt_drop a ls
  have joined : ∀ (xs : List Str) (j m : Nat) (h3 : MH), h3[j]? = some (.lst (xs.map .str)) → (∀ x ∈ xs, Lc (L + 3 * c + 60) x) → wt xs ≤ 2 * L + 10 * c + 200 → Keep [p] h h3 → Pot h3 p m → m ≤ n + 10 →
      wO (mcall "join" (.str "\n") [.ref j] h3) fun r => (∃ s, r.1 = .str s ∧ Tx s (L + 3 * c + 60) (2 * L + 10 * c + 200)) ∧ Keep [p] h r.2 ∧ Pot r.2 p (n + 10) := fun xs j m h3 e ok hw k P hm => by
    rw [m_join_lst e (by rw [len_nl]; unfold wt at hw; omega)]
    exact ⟨⟨_, rfl, .mk ok hw⟩, k, P.mono hm⟩
  refine wS_st (fun e h' => e = [some (.ref p), some (.str t), some (.ref k), some (.int (w : Nat)), some (.int (a : Nat)), none, none, none] ∧ h' = h2) (fun nx hnx => ?_) ?_
  · simp
    refine wB.mk (fun g => ?_) (fun g => ?_)
    · simp [-List.map_take, -List.map_drop, slice_lst e2, cut_to]
      rw [slice_lst ((Keep.app (ms := []) _).at e2 (by simp)), cut_from1]
      simp only [wO_some]
      rw [bin_add_lst ((Keep.app (ms := []) _).at List.getElem?_concat_length (by simp)) List.getElem?_concat_length (by simp; omega), ← List.map_append]
      simp only [wO_some]
      refine joined (ls.take a ++ ls.drop (a + 1)) _ (n + 2) _ List.getElem?_concat_length (fun x hx => ?_) (by rw [wt_app]; omega) (((k2.push _).push _).push _) (P2.keep0 (((Keep.app _).push _).push _)) (by omega)
      rcases List.mem_append.mp hx with hx | hx
      · exact (q3 x (List.mem_of_mem_take hx)).mono (by omega)
      · exact (q3 x (List.mem_of_mem_drop hx)).mono (by omega)
    · exact hnx _ _ ⟨rfl, rfl⟩
  intro e h3 z; obtain ⟨rfl, hh⟩ := z; subst hh
  refine wS_st (fun e h' => e = [some (.ref p), some (.str t), some (.ref k), some (.int (w : Nat)), some (.int (a : Nat)), none, none, none] ∧ h' = h3) (fun nx hnx => ?_) ?_
  · simp
    refine wB.mk (fun g => ?_) (fun g => ?_)
    · simp [bin_add_str (show t.length + Str.length "\n" ≤ 16777216 by rw [len_nl]; omega), bin_add_str (show Str.length "\n" + t.length ≤ 16777216 by rw [len_nl]; omega), bin_add_str (a := t ++ "\n") (b := t) (by rw [Str.length_append, len_nl]; omega)]
      refine ⟨by rw [len_sp]; omega, ?_⟩
      refine wE.to (of_ok p (n + 2) h3.length _ (P2.keep0 (Keep.app _)) (by omega) List.getElem?_concat_length (by omega) (by simp) (by simp)) fun v h5 hv => ?_
      obtain ⟨hm, k5, P5⟩ := hv
      refine ⟨?_, k2.trans ((Keep.app _).trans k5), P5.mono (by omega)⟩
      obtain ⟨g1, g2, g3, g4, g5⟩ := f5
      simp at hm
      rcases hm with rfl | rfl | rfl | rfl | rfl
      · exact ⟨_, rfl, g1.mono (by omega) (by omega)⟩
      · exact ⟨_, rfl, g2.mono (by omega) (by omega)⟩
      · exact ⟨_, rfl, g3.mono (by omega) (by omega)⟩
      · exact ⟨_, rfl, g4.mono (by omega) (by omega)⟩
      · exact ⟨_, rfl, g5.mono (by omega) (by omega)⟩
    · exact hnx _ _ ⟨rfl, rfl⟩
  intro e h4 z; obtain ⟨rfl, hh⟩ := z; subst hh
  refine wS_st (fun e h' => e = [some (.ref p), some (.str t), some (.ref k), some (.int (w : Nat)), some (.int (a : Nat)), none, none, none] ∧ h' = h4) (fun nx hnx => ?_) ?_
  · simp
    refine wB.mk (fun g => ?_) (fun g => ?_)
    · refine wS_st (fun e h' => ∃ (j : Nat) (fs : List Str), e = [some (.ref p), some (.str t), some (.ref k), some (.int (w : Nat)), some (.int (a : Nat)), some (.ref j), none, none] ∧ Keep [p] h4 h' ∧ Pot h' p (n + 5) ∧ h4.length < j ∧ h'[j]? = some (.lst (fs.map .str)) ∧ fs.length = 3 ∧ ∀ x ∈ fs, x ∈ (["g", "h", "i", "a"] : List Str)) (fun nx2 hnx2 => ?_) ?_
      · simp
        have kA : Keep [] h4 (h4 ++ [.lst [.str "g", .str "h", .str "i", .str "a"]]) := Keep.app _
        refine wE.to (some_ok p (n + 2) h4.length ["g", "h", "i", "a"] (P2.keep0 kA) (by omega) List.getElem?_concat_length (by omega) rfl) fun v h5 hv => ?_
        obtain ⟨k5, P5, j, fs, rfl, hj, ej, l3, m3⟩ := hv
        exact hnx2 _ _ ⟨j, fs, rfl, kA.all.trans k5, P5, by simp at hj; omega, ej, l3, m3⟩
      intro e h5 z; obtain ⟨j, fs, rfl, k5, P5, hj, ej, l3, m3⟩ := z
      have e5 := k5.at e2 (by simp; omega)
      have bl : (["g", "h", "i", "a", "e", "f"] : List String).all (fun s => lcB 1 (Str.ofString s)) = true := by decide +kernel
      have bx : ∀ x ∈ (["g", "h", "i", "a"] : List Str), Lc 1 x := fun x hx => by
        simp at hx
        rcases hx with rfl | rfl | rfl | rfl
        · exact lc_of (List.all_eq_true.mp bl "g" (by simp))
        · exact lc_of (List.all_eq_true.mp bl "h" (by simp))
        · exact lc_of (List.all_eq_true.mp bl "i" (by simp))
        · exact lc_of (List.all_eq_true.mp bl "a" (by simp))
      refine wS_st (fun e h' => ∃ (m : Nat) (gs : List Str), e = [some (.ref p), some (.str t), some (.ref k), some (.int (w : Nat)), some (.int (a : Nat)), some (.ref j), some (.ref m), none] ∧ Keep [p] h5 h' ∧ Pot h' p (n + 8) ∧ h'[m]? = some (.lst (gs.map MV.str)) ∧ gs.length = 3 ∧ ∀ x ∈ gs, Lc 20 x) (fun nx2 hnx2 => ?_) ?_
      · simp [iterOf_lst ej]
        have hjp : j ∉ [p] := by simp; omega
        refine w_comp (ms := [p]) fs MV.str (fun done acc h' => ∃ gs : List Str, acc = gs.map .str ∧ gs.length = done.length ∧ (∀ x ∈ gs, Lc 20 x) ∧ Keep [p] h5 h' ∧ Pot h' p (n + 5 + done.length)) (Its.lst ej hjp) (by omega) (fun _ _ _ z => by obtain ⟨_, _, _, _, z, _⟩ := z; exact z)
          (fun done x rest acc h6 hx hI => ?_) ⟨[], rfl, rfl, by simp, Keep.refl, P5⟩ fun acc h6 hI => ?_
        · obtain ⟨gs, rfl, gl, gm, k6, P6⟩ := hI
          have hdl : done.length < 3 := by rw [← l3, hx]; simp
          refine ⟨_, rfl, ?_⟩
          have kB : Keep [] h6 (h6 ++ [.lst [.str "e", .str "f", .str "a"]]) := Keep.app _
          have hxl := bx x (m3 x (by rw [hx]; simp))
          have hp6 := P6.lt
          simp
          refine wE.to (of_ok p (n + 5 + done.length) h6.length _ (P6.keep0 kB) (by omega) List.getElem?_concat_length (by omega) (by simp) (by simp)) fun v h7 hv => ?_
          obtain ⟨hm, k7, P7⟩ := hv
          obtain ⟨y, rfl, hy⟩ : ∃ y, v = .str y ∧ Lc 1 y := by
            simp at hm
            rcases hm with rfl | rfl | rfl
            · exact ⟨_, rfl, lc_of (List.all_eq_true.mp bl "e" (by simp))⟩
            · exact ⟨_, rfl, lc_of (List.all_eq_true.mp bl "f" (by simp))⟩
            · exact ⟨_, rfl, lc_of (List.all_eq_true.mp bl "a" (by simp))⟩
          have hr : Lc 11 ("r = joined " : Str) := lc_of (by decide +kernel)
          have hsp : Lc 1 (" " : Str) := lc_of (by decide +kernel)
          have h01 := hr.app hy
          have h02 := h01.app hsp
          have h03 := h02.app hxl
          have b1 := hr.l
          have b2 := hy.l
          have b3 := hsp.l
          have b4 := hxl.l
          have b5 := h01.l
          have b6 := h02.l
          rw [bin_add_str (by omega)]
          simp only [wO_some]
          rw [bin_add_str (by omega)]
          simp only [wO_some]
          rw [bin_add_str (by omega)]
          simp only [wO_some]
          refine ⟨gs ++ ["r = joined " ++ y ++ " " ++ x], by simp, by simp [gl], fun z hz => ?_, k6.trans (kB.all.trans k7), P7⟩
          rcases List.mem_append.mp hz with hz | hz
          · exact gm z hz
          · rw [List.mem_singleton.mp hz]; exact h03.mono (by omega)
        · obtain ⟨gs, rfl, gl, gm, k6, P6⟩ := hI
          refine ⟨by simp; omega, hnx2 _ _ ⟨_, gs, rfl, k6.push _, (P6.keep0 (Keep.app _)).mono (by omega), List.getElem?_concat_length, by omega, gm⟩⟩
      intro e h6 z; obtain ⟨m, gs, rfl, k6, P6, e6, gl, gm⟩ := z
      have e7 := k6.at e5 (by simp; omega)
      simp
      rw [bin_add_lst e7 e6 (by simp; omega), ← List.map_append]
      simp only [wO_some]
      refine joined (ls ++ gs) _ (n + 8) _ List.getElem?_concat_length (fun x hx => ?_) ?_ (((k2.trans k5).trans k6).push _) (P6.keep0 (Keep.app _)) (by omega)
      · rcases List.mem_append.mp hx with hx | hx
        · exact (q3 x hx).mono (by omega)
        · exact (gm x hx).mono (by omega)
      · have := wt_le (ls := gs) (c := 20) fun l hl => (gm l hl).l
        rw [gl] at this
        rw [wt_app]; omega
    · exact hnx _ _ ⟨rfl, rfl⟩
  intro e h5 z; obtain ⟨rfl, hh⟩ := z; subst hh
  refine wS_st (fun e h' => e = [some (.ref p), some (.str t), some (.ref k), some (.int (w : Nat)), some (.int (a : Nat)), none, none, none] ∧ h' = h5) (fun nx hnx => ?_) ?_
  · simp
    refine wB.mk (fun g => ?_) (fun g => ?_)
    · have hb : binop .Mult (.ref k) (.int 9) h5 = some (.ref h5.length, h5 ++ [.lst (((List.replicate 9 ls).flatten).map .str)]) := by
        rw [bin_mul_lst e2 ⟨by decide, by decide, by simp; omega⟩]
        congr 3
        simp
      have hB : ∀ l ∈ (List.replicate 9 ls).flatten, Lc c l := fun x hx => by
        obtain ⟨l, hl, hxl⟩ := List.mem_flatten.mp hx
        rw [(List.mem_replicate.mp hl).2] at hxl
        exact q3 x hxl
      generalize (List.replicate 9 ls).flatten = B at hb hB
      simp [hb]
      have kA : Keep [] h5 (h5 ++ [.lst (B.map .str)]) := Keep.app _
      have kB : Keep [] h5 (h5 ++ [.lst (B.map .str), .lst [.int 8, .int 9, .int 10]]) := Keep.app _
      have eB : (h5 ++ [MO.lst (B.map MV.str), MO.lst [MV.int 8, MV.int 9, MV.int 10]])[h5.length + 1]? = some (.lst [.int 8, .int 9, .int 10]) := by rw [List.getElem?_append_right (by omega)]; simp
      have eA : (h5 ++ [MO.lst (B.map MV.str), MO.lst [MV.int 8, MV.int 9, MV.int 10]])[h5.length]? = some (.lst (B.map .str)) := by simp
      refine wE.to (of_ok p (n + 2) (h5.length + 1) _ (P2.keep0 kB) (by omega) eB (by omega) (by simp) (by simp)) fun v h7 hv => ?_
      obtain ⟨hm, k7, P7⟩ := hv
      obtain ⟨m, rfl, hm10⟩ : ∃ m : Nat, v = .int (m : Nat) ∧ m ≤ 10 := by
        simp at hm
        rcases hm with rfl | rfl | rfl
        · exact ⟨8, rfl, by omega⟩
        · exact ⟨9, rfl, by omega⟩
        · exact ⟨10, rfl, by omega⟩
      have eA7 := k7.at eA (by simp; omega)
      simp [-List.map_take, slice_lst eA7, cut_to]
      refine joined (B.take m) _ (n + 3) _ List.getElem?_concat_length (fun x hx => (hB x (List.mem_of_mem_take hx)).mono (by omega)) ?_ ((k2.trans (kB.all.trans k7)).push _) (P7.keep0 (Keep.app _)) (by omega)
      · have := wt_le (ls := B.take m) (c := c) fun l hl => (hB l (List.mem_of_mem_take hl)).l
        have h2 : (B.take m).length ≤ 10 := Nat.le_trans (List.length_take_le _ _) hm10
        have h3 := Nat.mul_le_mul_right (c + 1) h2
        omega
    · exact hnx _ _ ⟨rfl, rfl⟩
  intro e h6 z; obtain ⟨rfl, hh⟩ := z; subst hh
  refine wS_st (fun e h' => ∃ r : Str, e = [some (.ref p), some (.str t), some (.ref k), some (.int (w : Nat)), some (.int (a : Nat)), none, none, none] ∧ Keep [p] h h' ∧ Pot h' p (n + 7) ∧ h'[k]? = some (.lst ((ls.set a r).map .str)) ∧ Lc (3 * c + 60) r) (fun nx hnx => ?_) ?_
  · simp [item_lst e2, Ev.atI_nat, List.getElem?_eq_getElem ha]
    refine wE.to (line_spoilt_ok p (n + 2) c ls[a] P2 (by omega) (q3 _ (List.getElem_mem ha)) (by omega)) fun v h7 hv => ?_
    obtain ⟨⟨r, rfl, hr⟩, k7, P7⟩ := hv
    have e7 := k7.at e2 (by simp; omega)
    rw [put_lst e7 (by simpa using ha)]
    simp only [wO_some]
    have kS : Keep [k] h7 (h7.set k (.lst ((ls.map MV.str).set a (.str r)))) := Keep.refl.set (.inl (by simp))
    exact hnx _ _ ⟨r, rfl, (k2.trans k7).inner kS (by simp; omega), P7.keep kS (by simp; omega), by rw [set_get e7, List.map_set], hr⟩
  intro e h7 z; obtain ⟨r, rfl, k7, P7, e7, hr⟩ := z
  simp
  refine joined _ k (n + 7) h7 e7 (fun x hx => ?_) ?_ k7 P7 (by omega)
  · rcases List.mem_or_eq_of_mem_set hx with hx | hx
    · exact (q3 x hx).mono (by omega)
    · rw [hx]; exact hr.mono (by omega)
  · have := wt_set ls a r
    have := hr.l
    omega
end
end K82
end T_L22
section T_L23
set_option linter.all false
set_option maxRecDepth 100000
/-! L23: is a pot right? -/
namespace Ev
open PySem L2
theorem Sm.bl {w : Nat} {b : Bool} (hw : 64 ≤ w) : Sm w (.bl b) := ⟨by simp [vD, ascD], by simp [vD, PyData.intsShort], by simp [vD, PyData.weight]⟩
theorem Tx.asc {t : Str} {c L : Nat} (h : Tx t c L) : Asc t := h.lines.2.2.2.2.2
theorem Tx.len {t : Str} {c L : Nat} (h : Tx t c L) : t.length ≤ L := h.lines.2.2.2.1
theorem GoodP.tx {ss : List Pst} (g : GoodP ss) : Tx (Txt.join "\n" (ss.map textT)) 98 792 := by
  have hl : ∀ l ∈ ss.map textT, Lc 98 l := fun l hl => by
    obtain ⟨s, hs, rfl⟩ := List.mem_map.mp hl
    obtain ⟨a, b, c⟩ := (g.dr s hs).text
    exact ⟨b, a, c⟩
  refine .mk hl ?_
  have := wt_le (c := 98) fun l h => (hl l h).l
  have h8 := Nat.mul_le_mul_right (98 + 1) g.len
  rw [List.length_map] at this
  omega
end Ev
namespace K82
open PySem L2 Ev
section
variable {d : Nat} {h : MH}
/-- steps and their text -/
theorem drawn_ok (p n kl mo : Nat) (ls : List Int) (P : Pot h p n) (hn : n ≤ 500000) (L : Lw h kl ls) (hkl : kl ≠ p) (hm1 : 1 ≤ mo) (hm : mo ≤ 8) {X : MV → MH → Prop} {Q : MV → MH → Prop}
    (hQ : ∀ ss h', GoodP ss → ss ≠ [] → Keep [p] h h' → Pot h' p (n + 200) → Q (.str (Txt.join "\n" (ss.map textT))) h') :
    wE (callD G (d + 5) "_law_steps" [.ref p, .int (mo : Nat), .ref kl] h) (fun v h1 => wE (callD G (d + 5) "_law_program_text" [v] h1) Q X) X := by
  refine wE.to (steps_ok p n kl mo ls P hn L hkl hm1 hm) fun v h1 hv => ?_
  obtain ⟨k1, P1, j, ss, rfl, hj, S, g, ne⟩ := hv
  refine wE.to (program_text_ok (d := d + 2) j ss S g.dr (by have := g.len; omega)) fun v h2 hv => ?_
  obtain ⟨rfl, k2⟩ := hv
  exact hQ ss h2 g ne (k1.trans k2.all) (P1.keep0 k2)
/-- a program of a good text -/
theorem good_made (ss : List Pst) (g : GoodP ss) (ne : ss ≠ []) {X : MV → MH → Prop} {Q : MV → MH → Prop}
    (hQ : ∀ h', Keep [] h h' → h'[h.length]? = some (.ins "Program" (flds (Txt.join "\n" (ss.map textT)) ss)) → Q .non h') :
    wE (callD G (d + 6) "Program.__init__" [.ref h.length, .str (Txt.join "\n" (ss.map textT))] (h ++ [.ins "Program" []])) Q X := by
  have t := g.tx
  refine wE_mono (make_ok _ t.asc (by have := t.len; omega)) (fun v h1 hv => ?_) fun x h1 hx => ?_
  · obtain ⟨rfl, k1, ss', hp, e⟩ := hv
    rw [g.prog ne] at hp
    injection hp with hp
    subst hp
    exact hQ _ k1 e
  · obtain ⟨k1, i, hp, _⟩ := hx
    rw [g.prog ne] at hp
    cases hp
theorem isI_lst {k : Nat} {o : List MV} (e : h[k]? = some (.lst o)) : isI G h (.ref k) "str" = some false := by
  unfold isI typesOf
  simp only [e]
  kernel_rfl
theorem isI_dic {k : Nat} {o : List (Key × MV)} (e : h[k]? = some (.dic o)) : isI G h (.ref k) "str" = some false := by
  unfold isI typesOf
  simp only [e]
  kernel_rfl
theorem eqO_ok {p : Nat} {t : Str} {ss : List Pst} (e : h[p]? = some (.ins "Program" (flds t ss))) {p' : Nat} {t' : Str} {ss' : List Pst} (e' : h[p']? = some (.ins "Program" (flds t' ss'))) (ha : Asc t) (ha' : Asc t') :
    eCmp ⟨G, callD G (d + 1)⟩ .Eq (.ref p) (.ref p') h = some (.ok (.bl (t == t')) h) ∧ eCmp ⟨G, callD G (d + 1)⟩ .NotEq (.ref p) (.ref p') h = some (.ok (.bl (!(t == t'))) h) := by
  obtain ⟨h1, h2⟩ := eq_at (call := callD G (d + 1)) e (.ref p') (by simp [eqOk, e'])
  rw [h1, h2, eqP_ok p t ss e p' t' ss' e' ha ha']
  exact ⟨rfl, rfl⟩
theorem eqO_no {p : Nat} {t : Str} {ss : List Pst} (e : h[p]? = some (.ins "Program" (flds t ss))) (y : MV) (hy : eqOk h "Program" y = true) (hi : isI G h y "Program" = some false) :
    eCmp ⟨G, callD G (d + 1)⟩ .Eq (.ref p) y h = some (.ok (.bl false) h) := by
  obtain ⟨h1, h2⟩ := eq_at (call := callD G (d + 1)) e y hy
  rw [h1, eqP_no p t ss e y hi]
  rfl
theorem right_ok (p : Nat) (P : Pot h p 0) : wE (callD G (d + 9) "_law_right" [.ref p] h) (fun v h' => v = .bl true ∧ Keep [p] h h') no := by
  rw [u__law_right]
  simp [c__law_right, b__law_right]
  have hpl := P.lt
  refine wS_st (fun e h' => ∃ ss, e = [some (.ref p), some (.str (Txt.join "\n" (ss.map textT))), none, none, none, none, none, none] ∧ Keep [p] h h' ∧ Pot h' p 200 ∧ GoodP ss ∧ ss ≠ []) (fun nx hnx => ?_) ?_
  · simp
    have kA : Keep [] h (h ++ [.lst [.int 1, .int 2, .int 3, .int 4, .int 5, .int 12]]) := Keep.app _
    refine drawn_ok (d := d + 3) p 0 h.length 8 [1, 2, 3, 4, 5, 12] (P.keep0 kA) (by omega) ⟨List.getElem?_concat_length, by simp, by simp, by simp⟩ (by omega) (by omega) (by omega) fun ss h1 g ne k1 P1 => ?_
    exact hnx _ _ ⟨ss, rfl, kA.all.trans k1, P1, g, ne⟩
  intro e h1 z; obtain ⟨ss, rfl, k1, P1, g, ne⟩ := z
  have tx := g.tx
  have gm : ∀ {d : Nat} {h : MH} {X Q : MV → MH → Prop}, (∀ h', Keep [] h h' → h'[h.length]? = some (.ins "Program" (flds (Txt.join "\n" (ss.map textT)) ss)) → Q .non h') →
    wE (callD G (d + 6) "Program.__init__" [.ref h.length, .str (Txt.join "\n" (ss.map textT))] (h ++ [.ins "Program" []])) Q X := fun hQ => good_made ss g ne hQ
  generalize Txt.join "\n" (ss.map textT) = t at *
  refine wS_st (fun e h' => ∃ (B : Nat) (rs : List Str), e = [some (.ref p), some (.str t), some (.ref B), none, none, none, none, none] ∧ Keep [p] h1 h' ∧ Pot h' p 260 ∧ h1.length ≤ B ∧ h'[B]? = some (.lst (rs.map .str)) ∧ rs.length = 6 ∧ ∀ r ∈ rs, Tx r 1146 2764) (fun nx hnx => ?_) ?_
  · simp
    refine w_comp (ms := [p]) (List.range 6) (fun (i : Nat) => MV.int (0 + (i : Int))) (fun done acc h' => ∃ rs : List Str, acc = rs.map .str ∧ rs.length = done.length ∧ (∀ r ∈ rs, Tx r 1146 2764) ∧ Keep [p] h1 h' ∧ Pot h' p (200 + 10 * done.length)) Its.rng (by simp) (fun _ _ _ z => by obtain ⟨_, _, _, _, z, _⟩ := z; exact z)
      (fun done x rest acc h2 hx hI => ?_) ⟨[], rfl, rfl, by simp, Keep.refl, P1⟩ fun acc h2 hI => ?_
    · obtain ⟨rs, rfl, rl, rm, k2, P2⟩ := hI
      have hdl : done.length < 6 := by have := congrArg List.length hx; simp at this; omega
      refine ⟨_, rfl, ?_⟩
      simp
      refine wE.to (spoilt_ok (d := d + 3) p (200 + 10 * done.length) 98 792 t P2 (by omega) tx (by omega) (by omega)) fun v h3 hv => ?_
      obtain ⟨⟨r, rfl, hr⟩, k3, P3⟩ := hv
      refine ⟨rs ++ [r], by simp, by simp [rl], fun z hz => ?_, k2.trans k3, P3.mono (by omega)⟩
      rcases List.mem_append.mp hz with hz | hz
      · exact rm z hz
      · rw [List.mem_singleton.mp hz]; exact hr
    · obtain ⟨rs, rfl, rl, rm, k2, P2⟩ := hI
      refine ⟨by simp at rl ⊢; omega, ?_⟩
      exact hnx _ _ ⟨_, rs, rfl, k2.push _, P2.keep0 (Keep.app _), k2.1, List.getElem?_concat_length, by simpa using rl, rm⟩
  intro e h2 z; obtain ⟨B, rs, rfl, k2, P2, hB, e2, rl, rm⟩ := z
  have hpl1 := P1.lt
  refine wS_st (fun e h' => ∃ (rs : List Str), e = [some (.ref p), some (.str t), some (.ref B), none, none, none, none, none] ∧ Keep [p] h1 h' ∧ Pot h' p 270 ∧ h'[B]? = some (.lst (rs.map .str)) ∧ rs.length = 7 ∧ ∀ r ∈ rs, Tx r 6262 17188) (fun nx hnx => ?_) ?_
  · obtain ⟨r0, rr, rfl⟩ : ∃ r0 rr, rs = r0 :: rr := by
      cases rs with
      | nil => simp at rl
      | cons a b => exact ⟨_, _, rfl⟩
    simp [metX_lst e2, item_lst e2]
    refine wE.to (spoilt_ok (d := d + 3) p 260 1146 2764 r0 P2 (by omega) (rm _ (by simp)) (by omega) (by omega)) fun v h3 hv => ?_
    obtain ⟨⟨r, rfl, hr⟩, k3, P3⟩ := hv
    have e3 := k3.at e2 (by simp; omega)
    rw [m_append e3 (by simp at rl ⊢; omega)]
    simp only [wO_some]
    have kS : Keep [B] h3 (h3.set B (.lst ((r0 :: rr).map MV.str ++ [.str r]))) := Keep.refl.set (.inl (by simp))
    refine hnx _ _ ⟨r0 :: rr ++ [r], rfl, (k2.trans k3).inner kS (by simp; omega), P3.keep kS (by simp; omega), by rw [set_get e3, List.map_append]; rfl, by simp at rl ⊢; omega, fun z hz => ?_⟩
    rcases List.mem_append.mp hz with hz | hz
    · exact (rm z hz).mono (by omega) (by omega)
    · rw [List.mem_singleton.mp hz]; exact hr.mono (by omega) (by omega)
  intro e h3 z; obtain ⟨rs2, rfl, k3, P3, e3, sl, sm⟩ := z
  have hpl3 := P3.lt
  refine wS_st (fun e h' => ∃ V : Nat, e = [some (.ref p), some (.str t), some (.ref B), none, some (.ref V), none, none, none] ∧ Keep [] h3 h' ∧ V ≠ p ∧ ∃ a b c : Nat, h'[V]? = some (.lst [.non, .bl true, .int 0, .tup [], .ref a, .tup [.str t], .ref b, .ref c]) ∧ a ∉ [p] ∧ b ∉ [p] ∧ c ∉ [p] ∧ (∃ o, h'[a]? = some (.lst o)) ∧ (∃ o, h'[b]? = some (.dic o)) ∧ ∃ o, h'[c]? = some (.dic o)) (fun nx hnx => ?_) ?_
  · simp
    exact hnx _ _ ⟨_, rfl, Keep.app _, by omega, h3.length, h3.length + 1, h3.length + 2, by rw [List.getElem?_append_right (by omega)]; simp, by simp; omega, by simp; omega, by simp; omega,
      ⟨_, by rw [List.getElem?_append_right (by omega)]; simp; rfl⟩, ⟨_, by rw [List.getElem?_append_right (by omega)]; simp; rfl⟩, ⟨_, by rw [List.getElem?_append_right (by omega)]; simp; rfl⟩⟩
  intro e h4 z; obtain ⟨V, rfl, k4, hV, a, b, c, eV, ha, hb, hc, ea, eb, ec⟩ := z
  have P4 := P3.keep0 k4
  have hpl4 := P4.lt
  have e4 := k4.at e3 (by simp)
  refine wS_st (fun e h' => e = [some (.ref p), some (.str t), some (.ref B), none, some (.ref V), none, none, none] ∧ Keep [p] h4 h' ∧ Pot h' p 271) (fun nx hnx => ?_) ?_
  · simp
    have kA : Keep [] h4 (h4 ++ [.lst [.str t]]) := Keep.app _
    rw [bin_add_lst List.getElem?_concat_length (kA.at e4 (by simp)) (by simp; omega)]
    simp only [wO_some]
    have kB := kA.push [.lst ([.str t] ++ rs2.map MV.str)]
    have eV5 := kB.at eV (by simp)
    refine wE.to (of_ok p 270 V _ (P4.keep0 kB) (by omega) eV5 hV (by simp) (by simp)) fun v h6 hv => ?_
    obtain ⟨hm, k6, P6⟩ := hv
    have e6 := k6.at (show (h4 ++ [MO.lst [.str t]] ++ [.lst ([.str t] ++ rs2.map MV.str)])[(h4 ++ [MO.lst [.str t]]).length]? = some (.lst ([.str t] ++ rs2.map MV.str)) from List.getElem?_concat_length) (by simp; omega)
    have kk : Keep [p] h4 h6 := kB.all.trans k6
    have ea6 := kk.at ea.choose_spec ha
    have eb6 := kk.at eb.choose_spec hb
    have ec6 := kk.at ec.choose_spec hc
    have kC : Keep [] h6 (h6 ++ [.lst [v]]) := Keep.app _
    rw [bin_add_lst (kC.at e6 (by simp)) List.getElem?_concat_length (by simp; omega)]
    simp only [wO_some]
    rw [iterOf_lst List.getElem?_concat_length]
    simp only [wO_some]
    have kD := kC.push [.lst ([.str t] ++ rs2.map MV.str ++ [v])]
    have all : ∀ x ∈ [.str t] ++ rs2.map MV.str ++ [v], ∀ h', Keep [] (h6 ++ [MO.lst [v]] ++ [.lst ([.str t] ++ rs2.map MV.str ++ [v])]) h' → wE (callD G (d + 8) "_law_is_right" [x] h') (fun v h'' => v = .bl true ∧ Keep [] h' h'') no := fun x hx h' k' => by
      have kk' := kD.trans k'
      have tt : ∀ u c L, Tx u c L → L ≤ 40000 → wE (callD G (d + 8) "_law_is_right" [.str u] h') (fun v h'' => v = .bl true ∧ Keep [] h' h'') no := fun u c L hu hL => is_right_ok u hu.asc (by have := hu.len; omega)
      rcases List.mem_append.mp hx with hx | hx
      · rcases List.mem_append.mp hx with hx | hx
        · rw [List.mem_singleton.mp hx]; exact tt _ _ _ tx (by omega)
        · obtain ⟨u, hu, rfl⟩ := List.mem_map.mp hx
          exact tt _ _ _ (sm u hu) (by omega)
      · rw [List.mem_singleton.mp hx]
        simp at hm
        rcases hm with rfl | rfl | rfl | rfl | rfl | rfl | rfl | rfl
        · exact is_right_no _ (by kernel_rfl)
        · exact is_right_no _ (by kernel_rfl)
        · exact is_right_no _ (by kernel_rfl)
        · exact is_right_no _ (by kernel_rfl)
        · exact is_right_no _ (isI_lst (kk'.at ea6 (by simp)))
        · exact is_right_no _ (by kernel_rfl)
        · exact is_right_no _ (isI_dic (kk'.at eb6 (by simp)))
        · exact is_right_no _ (isI_dic (kk'.at ec6 (by simp)))
    refine w_map (ms := []) ([.str t] ++ rs2.map MV.str ++ [v]) (fun x => x) (fun _ => .bl true) (by rw [List.map_id']; exact Its.lst List.getElem?_concat_length (by simp)) (by simp; omega) (fun x h7 hx k7 => ?_) fun h7 k7 => ?_
    · refine ⟨_, rfl, ?_⟩
      simp
      exact all x hx h7 k7
    · refine ⟨by simp; omega, ?_⟩
      rw [bAll_lst (bs := ([MV.str t] ++ rs2.map MV.str ++ [v]).map fun _ => true) (by rw [List.getElem?_concat_length, List.map_map]; rfl)]
      have : (List.map (fun _ => true) ([MV.str t] ++ List.map MV.str rs2 ++ [v])).all id = true := List.all_eq_true.mpr fun x hx => by
        obtain ⟨_, _, rfl⟩ := List.mem_map.mp hx
        rfl
      rw [this]
      simp only [wO_some, truth_bl, Bool.not_true, wB_f]
      exact hnx _ _ ⟨rfl, kk.trans (kD.trans (k7.push _)).all, P6.keep0 (kD.trans (k7.push _))⟩
  intro e h5 z; obtain ⟨rfl, k5, P5⟩ := z
  have hpl5 := P5.lt
  refine wS_st (fun e h' => ∃ (p1 p2 : Nat) (t2 : Str) (ss2 : List Pst), e = [some (.ref p), some (.str t), some (.ref B), none, some (.ref V), none, some (.ref p1), some (.ref p2)] ∧ Keep [p] h5 h' ∧ h'[p1]? = some (.ins "Program" (flds t ss)) ∧ h'[p2]? = some (.ins "Program" (flds t2 ss2)) ∧ Asc t2) (fun nx hnx => ?_) ?_
  · simp
    refine gm fun h6 k6 e6 => ?_
    have P6 := P5.keep0 k6
    have hpl6 := P6.lt
    have kA : Keep [] h6 (h6 ++ [.lst [.int 1, .int 2]]) := Keep.app _
    refine ⟨rfl, ?_⟩
    refine drawn_ok (d := d + 3) p 271 h6.length 3 [1, 2] (P6.keep0 kA) (by omega) ⟨List.getElem?_concat_length, by simp, by simp, by simp⟩ (by omega) (by omega) (by omega) fun ss2 h7 g2 ne2 k7 P7 => ?_
    refine good_made (d := d + 2) ss2 g2 ne2 fun h8 k8 e8 => ?_
    exact ⟨rfl, hnx _ _ ⟨_, _, _, ss2, rfl, k6.all.trans (kA.all.trans (k7.trans k8.all)), (kA.all.trans (k7.trans k8.all)).at e6 (by simp; omega), e8, g2.tx.asc⟩⟩
  intro e h6 z; obtain ⟨p1, p2, t2, ss2, rfl, k6, e1, e2', a2⟩ := z
  have kk : Keep [p] h h6 := k1.trans (k3.trans (k4.all.trans (k5.trans k6)))
  have at1 : ∀ {h' : MH}, Keep [] h6 h' → h'[p1]? = some (.ins "Program" (flds t ss)) := fun k => k.at e1 (by simp)
  have at2 : ∀ {h' : MH}, Keep [] h6 h' → h'[p2]? = some (.ins "Program" (flds t2 ss2)) := fun k => k.at e2' (by simp)
  have ta := tx.asc
  have rb : ∀ (b : Bool) (h : MH), bRepr [.bl b] h = some (.str (PyData.shown (vD (.bl b))), h) ∧ Asc (PyData.shown (vD (.bl b))) := fun b h => repr_v (Lay.bl (n := 0)) (by omega) (Sm.bl (w := 64) (by omega)) (by omega)
  refine wS_st (fun e h' => e = [some (.ref p), some (.str t), some (.ref B), none, some (.ref V), none, some (.ref p1), some (.ref p2)] ∧ Keep [] h6 h') (fun nx hnx => ?_) ?_
  · simp
    refine gm fun h7 k7 e7 => ?_
    have n1 : ∀ (b : Bool) (h : MH), eqD h (.str (PyData.shown (vD (.bl b)))) (.str (PyData.shown (vD (.bl b)))) = some true := fun b h => by rw [eqD_str (rb b h).2.okc (rb b h).2.okc]; simp
    refine ⟨rfl, ?_⟩
    rw [(eqO_ok (d := d + 7) (at1 k7) e7 ta ta).1]
    simp [(rb true h7).1, n1, (eqO_ok (d := d + 7) (at1 k7) (at2 k7) ta a2).1, (rb _ h7).1, text_ok (d := d + 7) (at2 k7), eqD_str ta.okc a2.okc]
    exact hnx _ _ ⟨rfl, k7⟩
  intro e h7 z; obtain ⟨rfl, k7⟩ := z
  have o1 := at1 k7
  have f4 : ∀ x ∈ List.replicate 4 (MV.bl false), Lay 0 x ∧ Sm 64 x := fun x hx => by rw [(List.mem_replicate.mp hx).2]; exact ⟨Lay.bl, Sm.bl (by omega)⟩
  obtain ⟨r1, r2⟩ := repr_lst (h := h7 ++ [.lst (List.replicate 4 (.bl false))]) (k := h7.length) (fun x hx => (f4 x hx).1) (by omega) (by simp) List.getElem?_concat_length (fun x hx => (f4 x hx).2) (by simp)
  have hb : binop .Mult (.ref (h7 ++ [MO.lst (List.replicate 4 (.bl false))]).length) (.int 4) (h7 ++ [MO.lst (List.replicate 4 (.bl false))] ++ [.lst [.bl false]]) = some (.ref (h7 ++ [MO.lst (List.replicate 4 (.bl false))] ++ [MO.lst [MV.bl false]]).length, h7 ++ [MO.lst (List.replicate 4 (.bl false))] ++ [.lst [.bl false]] ++ [.lst (List.replicate 4 (.bl false))]) := by
    rw [bin_mul_lst List.getElem?_concat_length ⟨by decide, by decide, by decide⟩]
    rfl
  obtain ⟨s1, s2⟩ := repr_lst (h := h7 ++ [MO.lst (List.replicate 4 (.bl false))] ++ [.lst [.bl false]] ++ [.lst (List.replicate 4 (.bl false))]) (fun x hx => (f4 x hx).1) (by omega) (by simp) List.getElem?_concat_length (fun x hx => (f4 x hx).2) (by simp)
  simp only [show List.replicate 4 (MV.bl false) = [.bl false, .bl false, .bl false, .bl false] from rfl] at r1 r2 hb s1 s2
  refine wS_seq fun nx hnx => ?_
  simp
  rw [eqO_no (d := d + 7) o1 (.str t) rfl (by kernel_rfl)]
  simp only [wE_ok]
  rw [eqO_no (d := d + 7) o1 (.tup [.str t]) rfl (by kernel_rfl)]
  simp only [wE_ok]
  rw [(eqO_ok (d := d + 7) o1 o1 ta ta).2]
  simp only [wE_ok, beq_self_eq_true, Bool.not_true]
  rw [eqO_no (d := d + 7) o1 (.int 0) rfl (by kernel_rfl)]
  simp only [wE_ok]
  rw [r1]
  simp only [wO_some]
  rw [hb]
  simp only [wO_some]
  rw [s1]
  simp [eqD_str r2.okc r2.okc]
  exact (kk.trans k7.all).trans (Keep.app _)
end
end K82
end T_L23
section T_SdS
set_option linter.all false
set_option maxRecDepth 100000
set_option maxHeartbeats 4000000
/-! SdS: sorted(set(texts)). -/
namespace Sd
open PySem PySem.Spec PyProof.Rows L2 Ev
section
variable {X : Cx} {C : Cxt} {ca fa : Str → Addr} {kk : Nat} {sc : Scope} {W : WX} {a : Expr} {p p2 pos q2 : Pos} {fe : MEnv → MH → Option Out}
theorem s_sset (G : XG X C ca sc W) (hg : Gl X "sorted") (hg2 : Gl X "set") (ha : PE X a (rdE X.K ca fe W)) :
    PE X (.Call (.Name "sorted" p) [.Call (.Name "set" p2) [a] [] q2] [] pos) (rdE X.K ca (fun e h => if notStar a = true then bnd (fe e h) fun x h1 => fin (sortedSet x h1) else none) W) := by
  have hm : X.mg "sorted" = none := G.gn.blt _ (by decide)
  have hm2 : X.mg "set" = none := G.gn.blt _ (by decide)
  refine ⟨fun pins s σ H Q I ⟨ρ, h, e, S, re, k⟩ => ?_⟩
  dsimp only at k
  split at k
  · rename_i hs
    have pa : PA X [a] (tCons (rdE X.K ca fe W) tNil) := pa_cons ha pa_nil (star_no hs)
    have pS : PE X (.Call (.Name "set" p2) [a] [] q2) (tCB (rSetT X.K X.prog X.w) (tCons (rdE X.K ca fe W) tNil)) := pe_callTy (cr_setT G.calm) hg2 hm2 (by decide +kernel) pa (he := star_no hs)
    have pa2 : PA X [.Call (.Name "set" p2) [a] [] q2] (tCons (tCB (rSetT X.K X.prog X.w) (tCons (rdE X.K ca fe W) tNil)) tNil) := pa_cons pS pa_nil (star_no rfl)
    refine (pe_callB (cr_sortedT G.calm) hg hm (by decide +kernel) pa2).run pins s σ H Q I ?_
    refine ⟨ρ, h, e, S, re, k.bnd fun x h1 ρ1 H1 u _ g1 S1 r1 k1 => ?_⟩
    cases hx : sortedSet x h1 with
    | none => rw [hx] at k1; exact k1.elim
    | some zz =>
      obtain ⟨z, h2⟩ := zz
      rw [hx] at k1
      have k2 : End X.K ca ρ1 H1 z h2 Q := k1
      unfold sortedSet at hx
      split at hx
      · rename_i xs hxs
        split at hx
        · rename_i ns hns
          split at hx
          · rename_i h64
            cases hx
            obtain ⟨a', vs, rfl, h3, h4⟩ := seq?_ok S1 r1 hxs
            have ev := h4.strs hns
            subst ev
            refine ⟨a', ns, rfl, h3, h64, fun p hp => ?_⟩
            refine ⟨p, seenL ns, rfl, upd_same, seenL_nodup ns, Nat.lt_of_le_of_lt (seenL_len ns) h64, fun ys q pm hso hq => ?_⟩
            rw [sortSet_is pm hso]
            obtain ⟨S2, g2⟩ := S1.tupd (u := SetTO X.prog X.w p (seenL ns)) hp
            have k3 : End X.K ca ρ1 (upd H1 p (SetTO X.prog X.w p (seenL ns))) (.ref h1.length) (h1 ++ [.lst ((sortSet ns).map .str)]) Q := fun ρ' H' u g S' r' => k2 ρ' H' u (g2.trans g) S' r'
            exact k3.new S2 (.lst (RVs.ofStrs _)) hq
          · cases hx
        · cases hx
      · cases hx
  · exact k.elim
end
end Sd
end T_SdS
section T_Sd22
set_option linter.all false
set_option maxRecDepth 100000
set_option maxHeartbeats 4000000
/-! Sd22: every expression is as the evaluator tells. -/
namespace Sd
open PySem PySem.Spec PyProof.Rows L2 Ev
section
variable {X : Cx} {K : PySem.W.Frag} {ca : Str → Addr} {W : WX} {ex : Expr}
theorem pe_no : PE X ex (rdE K ca (fun _ _ => none) W) := ⟨fun pins s σ H Q I ⟨_, _, _, _, _, k⟩ => k.elim⟩
theorem pt_no : PT X ex (rdT K ca (fun _ _ => none) W) := ⟨fun pins s σ H Q I ⟨_, _, _, _, _, k⟩ => k.elim⟩
theorem pe_of {f g : MEnv → MH → Option Out} (h : PE X ex (rdE K ca g W)) (e : ∀ e h, f e h = g e h) : PE X ex (rdE K ca f W) := by
  have : f = g := funext fun a => funext fun b => e a b
  rw [this]
  exact h
theorem pe_iff {c : Prop} [Decidable c] {f : MEnv → MH → Option Out} (h : c → PE X ex (rdE K ca f W)) : PE X ex (rdE K ca (fun e h => if c then f e h else none) W) := by
  by_cases hc : c
  · exact pe_of (h hc) fun e h => if_pos hc
  · exact pe_of pe_no fun e h => if_neg hc
end
theorem eI_set {C : Cxt} {N : List Str} {n : Nat} {t it : Expr} {sc : Scope} {e : MEnv} {h : MH} (hs : isSetE it = true) : eI C N n t it sc e h = none := by
  cases it with
  | Set es k p =>
    cases n with
    | zero => rfl
    | succ n =>
      cases n with
      | zero => rfl
      | succ n => rfl
  | _ => cases hs
theorem pi_of {X : Cx} {K : PySem.W.Frag} {ca : Str → Addr} {W : WX} {t ex : Expr} {f g : MEnv → MH → Option OutI} (h : PI X t ex (rdI K ca g W)) (e : ∀ e h, f e h = g e h) : PI X t ex (rdI K ca f W) := by
  have : f = g := funext fun a => funext fun b => e a b
  rw [this]
  exact h
theorem pi_no {X : Cx} {K : PySem.W.Frag} {ca : Str → Addr} {W : WX} {t ex : Expr} : PI X t ex (rdI K ca (fun _ _ => none) W) := ⟨fun pins s σ H R I ⟨_, _, _, _, _, k⟩ => k.elim⟩
theorem spK_isi {f c : Str} {args : List Expr} {kws : List Keyword} {a : Expr} (h : spK f args kws = .isi a c) : f = "isinstance" ∧ ∃ q, args = [a, .Name c q] ∧ kws = [] := by
  unfold spK at h
  split at h
  · rename_i hk
    have hk : kws = [] := by cases kws <;> first | rfl | cases hk
    split at h
    · rename_i hf
      split at h
      · cases h
        exact ⟨hf, _, rfl, hk⟩
      · cases h
    · split at h
      · split at h
        · split at h <;> cases h
        · cases h
      · split at h
        · split at h
          · split at h <;> cases h
          · cases h
        · cases h
  · cases h
theorem spK_sset {f : Str} {args : List Expr} {kws : List Keyword} {a : Expr} (h : spK f args kws = .sset a) : f = "sorted" ∧ ∃ p2 q2, args = [.Call (.Name "set" p2) [a] [] q2] ∧ kws = [] := by
  unfold spK at h
  split at h
  · rename_i hk
    have hk : kws = [] := by cases kws <;> first | rfl | cases hk
    split at h
    · split at h <;> cases h
    · split at h
      · rename_i hf
        split at h
        · split at h
          · rename_i hg
            cases h
            subst hg
            exact ⟨hf, _, _, rfl, hk⟩
          · cases h
        · cases h
      · split at h
        · split at h
          · split at h <;> cases h
          · cases h
        · cases h
  · cases h
theorem spK_lrg {f : Str} {args : List Expr} {kws : List Keyword} {a : Expr} (h : spK f args kws = .lrg a) : f = "list" ∧ ∃ p2 q2, args = [.Call (.Name "range" p2) [a] [] q2] ∧ kws = [] := by
  unfold spK at h
  split at h
  · rename_i hk
    have hk : kws = [] := by cases kws <;> first | rfl | cases hk
    split at h
    · split at h <;> cases h
    · split at h
      · split at h
        · split at h <;> cases h
        · cases h
      · split at h
        · rename_i hf
          split at h
          · split at h
            · rename_i hg
              cases h
              subst hg
              exact ⟨hf, _, _, rfl, hk⟩
            · cases h
          · cases h
        · cases h
  · cases h
theorem kindC_fn {C : Cxt} {f : Str} (h : kindC C f = .fn) : ∃ d, lk f C.G.fns = some d ∧ d.top = true := by
  unfold kindC at h
  split at h
  · rename_i d hd
    split at h
    · exact ⟨d, hd, by assumption⟩
    · cases h
  · split at h
    · split at h <;> cases h
    · split at h <;> cases h
theorem kindC_mk {C : Cxt} {f k : Str} {d : FnD} (h : kindC C f = .mk k d) : ∃ cd, lk f C.G.clss = some cd ∧ cd.isExc = false ∧ findM C.G "__init__" cd.mro = some k ∧ lk k C.G.fns = some d := by
  unfold kindC at h
  split at h
  · split at h <;> cases h
  · split at h
    · rename_i cd hc
      split at h
      · rename_i k' d' hi
        cases h
        unfold initOf at hi
        rw [hc] at hi
        dsimp only at hi
        split at hi
        · cases hi
        · rename_i hx
          split at hi
          · rename_i k2 h2
            cases h3 : lk k2 C.G.fns with
            | none => rw [h3] at hi; cases hi
            | some g =>
              rw [h3] at hi
              cases hi
              exact ⟨cd, hc, by simpa using hx, h2, h3⟩
          · cases hi
      · cases h
    · split at h <;> cases h
theorem kindC_blt {C : Cxt} {f : Str} (h : kindC C f = .blt) : bPlain.contains f = true := by
  unfold kindC at h
  split at h
  · split at h <;> cases h
  · split at h
    · split at h <;> cases h
    · split at h
      · assumption
      · cases h
/-- the evaluator is sound for trees of depth n -/
structure AS (C : Cxt) (ca fa : Str → Addr) (kk : Nat) (n : Nat) : Prop where
  e : ∀ (X : Cx) (sc : Scope) (W : WX), XC X C ca fa kk → XG X C ca sc W → ∀ ex, PE X ex (rdE X.K ca (fun e h => eE C X.N n ex sc e h) W)
  bo : ∀ (X : Cx) (sc : Scope) (W : WX), XC X C ca fa kk → XG X C ca sc W → ∀ op es pos, PE X (.BoolOp op es pos) (rdE X.K ca (fun e h => eBool C X.N n op es sc e h) W)
  t : ∀ (X : Cx) (sc : Scope) (W : WX), XC X C ca fa kk → XG X C ca sc W → ∀ ex, PT X ex (rdT X.K ca (fun e h => eT C X.N n ex sc e h) W)
  ts : ∀ (X : Cx) (sc : Scope) (W : WX), XC X C ca fa kk → XG X C ca sc W → ∀ op es pos, PW X (.BoolOp op es pos) (rdT X.K ca (fun e h => eTs C X.N n op es sc e h) W)
  if_ : ∀ (X : Cx) (sc : Scope) (W : WX), XC X C ca fa kk → XG X C ca sc W → ∀ cs, PTs X cs (rdT X.K ca (fun e h => eIf C X.N n cs sc e h) W)
  a : ∀ (X : Cx) (sc : Scope) (W : WX), XC X C ca fa kk → XG X C ca sc W → ∀ es, PA X es (rdA X.K ca (fun e h => eA C X.N n es sc e h) W)
  ar : ∀ (X : Cx) (sc : Scope) (W : WX), XC X C ca fa kk → XG X C ca sc W → ∀ es, PAt X es (rdA X.K ca (fun e h => eAR C X.N n es sc e h) W)
  k : ∀ (X : Cx) (sc : Scope) (W : WX), XC X C ca fa kk → XG X C ca sc W → ∀ kws, PK X kws (rdA X.K ca (fun e h => eK C X.N n kws sc e h) W)
  o : ∀ (X : Cx) (sc : Scope) (W : WX), XC X C ca fa kk → XG X C ca sc W → ∀ oo, PO X oo (rdO X.K ca (fun e h => eO C X.N n oo sc e h) W)
  i : ∀ (X : Cx) (sc : Scope) (W : WX), XC X C ca fa kk → XG X C ca sc W → ∀ t ex, PI X t ex (rdI X.K ca (fun e h => eI C X.N n t ex sc e h) W)
section
variable {C : Cxt} {ca fa : Str → Addr} {kk : Nat}
theorem as_zero : AS C ca fa kk 0 where
  e := fun X sc W D G ex => ⟨fun pins s σ H Q I ⟨_, _, _, _, _, k⟩ => k.elim⟩
  bo := fun X sc W D G op es pos => ⟨fun pins s σ H Q I ⟨_, _, _, _, _, k⟩ => k.elim⟩
  t := fun X sc W D G ex => ⟨fun pins s σ H Q I ⟨_, _, _, _, _, k⟩ => k.elim⟩
  ts := fun X sc W D G op es pos => ⟨fun whole pins s σ H Q I ⟨_, _, _, _, _, k⟩ => k.elim⟩
  if_ := fun X sc W D G cs => ⟨fun pins s σ H Q I ⟨_, _, _, _, _, k⟩ => k.elim⟩
  a := fun X sc W D G es => ⟨fun pos pins s σ H Q I ⟨_, _, _, _, _, k⟩ => k.elim⟩
  ar := fun X sc W D G es => ⟨fun pos pins s σ H Q _ I ⟨_, _, _, _, _, k⟩ => k.elim⟩
  k := fun X sc W D G kws => ⟨fun pos pins s σ H Q I ⟨_, _, _, _, _, k⟩ => k.elim⟩
  o := fun X sc W D G oo => ⟨fun pins s σ H Q I ⟨_, _, _, _, _, k⟩ => k.elim⟩
  i := fun X sc W D G t ex => ⟨fun pins s σ H R I ⟨_, _, _, _, _, k⟩ => k.elim⟩
theorem XC.blk {X : Cx} (D : XC X C ca fa kk) (s : Shared) (H : Hp) (scope : Scope) (cenv : PySem.Env) (fp : List Addr) : XC (X.blk s H scope cenv fp) C ca fa kk := ⟨D.sf, D.df, D.rm⟩
section
variable {n : Nat} (A : AS C ca fa kk n) (A' : ∀ m, m < n → AS C ca fa kk m) (L : LenOk C) {X : Cx} {sc : Scope} {W : WX} (D : XC X C ca fa kk) (G : XG X C ca sc W)
include A A' L D G
theorem st_bo (op : BoolOp) (es : List Expr) (pos : Pos) : PE X (.BoolOp op es pos) (rdE X.K ca (fun e h => eBool C X.N (n + 1) op es sc e h) W) := by
  match es with
  | [] => exact pe_no
  | [a] => exact s_one (A.e X sc W D G a)
  | a :: b :: r =>
    cases op with
    | And => exact s_and (A.e X sc W D G a) (A.bo X sc W D G .And (b :: r) pos)
    | Or => exact s_or (A.e X sc W D G a) (A.bo X sc W D G .Or (b :: r) pos)
theorem st_ts (op : BoolOp) (es : List Expr) (pos : Pos) : PW X (.BoolOp op es pos) (rdT X.K ca (fun e h => eTs C X.N (n + 1) op es sc e h) W) := by
  match es with
  | [] => exact ⟨fun whole pins s σ H Q I ⟨_, _, _, _, _, k⟩ => k.elim⟩
  | [a] =>
    cases op with
    | And => exact w_one_and (A.t X sc W D G a)
    | Or => exact w_one_or (A.t X sc W D G a)
  | a :: b :: r =>
    cases op with
    | And => exact w_and (A.t X sc W D G a) (A.ts X sc W D G .And (b :: r) pos)
    | Or => exact w_or (A.t X sc W D G a) (A.ts X sc W D G .Or (b :: r) pos)
theorem st_if (cs : List Expr) : PTs X cs (rdT X.K ca (fun e h => eIf C X.N (n + 1) cs sc e h) W) := by
  match cs with
  | [] => exact ts_nil
  | [c] => exact ts_one (A.t X sc W D G c)
  | _ :: _ :: _ => exact ⟨fun pins s σ H Q I ⟨_, _, _, _, _, k⟩ => k.elim⟩
theorem st_k (kws : List Keyword) : PK X kws (rdA X.K ca (fun e h => eK C X.N (n + 1) kws sc e h) W) := by
  match kws with
  | [] => exact k_nil
  | ⟨nm, a, p⟩ :: r => exact k_cons (A.e X sc W D G a) (A.k X sc W D G r)
theorem st_o (oo : Option Expr) : PO X oo (rdO X.K ca (fun e h => eO C X.N (n + 1) oo sc e h) W) := by
  match oo with
  | none => exact o_none
  | some a => exact o_some (A.e X sc W D G a)
/-- a list's items -/
theorem st_a (es : List Expr) : PA X es (rdA X.K ca (fun e h => eA C X.N (n + 1) es sc e h) W) := by
  match es with
  | [] => exact a_nil
  | a :: r =>
    cases hs : notStar a with
    | false =>
      cases a with
      | Starred b p => exact a_star (A.e X sc W D G b) (A.a X sc W D G r)
      | _ => cases hs
    | true =>
      have e0 : ∀ e h, eA C X.N (n + 1) (a :: r) sc e h = bnd (eE C X.N n a sc e h) fun x h1 => bnd (if growsE a = true then eAR C X.N n r sc e h1 else eA C X.N n r sc e h1) fun vs h2 => some (.ok (x :: vs) h2) := fun e h => by
        cases a <;> first | rfl | cases hs
      have e1 : (fun e h => eA C X.N (n + 1) (a :: r) sc e h) = fun e h => bnd (eE C X.N n a sc e h) fun x h1 => bnd (if growsE a = true then eAR C X.N n r sc e h1 else eA C X.N n r sc e h1) fun vs h2 => some (.ok (x :: vs) h2) := funext fun e => funext fun h => e0 e h
      rw [e1]
      cases hg : growsE a with
      | false => exact a_cons hs (A.e X sc W D G a) (A.a X sc W D G r)
      | true =>
        refine a_grow hs (A.ar X sc W D G r) ?_
        intro pins s σ H Q I hq
        cases n with
        | zero =>
          obtain ⟨_, _, _, _, _, k⟩ := hq
          exact k.elim
        | succ m =>
          cases m with
          | zero =>
            obtain ⟨_, _, _, _, _, k⟩ := hq
            unfold growsE at hg
            split at hg
            · exact k.elim
            · exact k.elim
            · cases hg
          | succ m =>
            unfold growsE at hg
            split at hg
            · exact grow_l ((A' (m + 1) (Nat.lt_succ_self _)).e X sc W D G _) pins s σ H Q I hq
            · exact grow_r ((A' (m + 1) (Nat.lt_succ_self _)).e X sc W D G _) pins s σ H Q I hq
            · cases hg
theorem st_ar (es : List Expr) : PAt X es (rdA X.K ca (fun e h => eAR C X.N (n + 1) es sc e h) W) := by
  match es with
  | [] => exact r_nil
  | a :: r =>
    cases hr : repE a with
    | none =>
      have e0 : ∀ e h, eAR C X.N (n + 1) (a :: r) sc e h = if notStar a = true then bnd (eE C X.N n a sc e h) fun x h1 => bnd (eAR C X.N n r sc e h1) fun vs h2 => some (.ok (x :: vs) h2) else none := fun e h => by
        show (match repE a with
          | some (o, y, z) => _
          | none => _) = _
        rw [hr]
      have e1 : (fun e h => eAR C X.N (n + 1) (a :: r) sc e h) = _ := funext fun e => funext fun h => e0 e h
      rw [e1]
      by_cases hs : notStar a = true
      · have := r_cons hs (A.e X sc W D G a) (A.ar X sc W D G r)
        simpa only [if_pos hs] using this
      · exact ⟨fun pos pins s σ H Q _ I ⟨_, _, _, _, _, k⟩ => by
          dsimp only at k
          rw [if_neg hs] at k
          exact k.elim⟩
    | some q =>
      obtain ⟨o, y, z⟩ := q
      have hr0 := hr
      unfold repE at hr
      split at hr
      · rename_i o' m apos y' j0 c0 z' j1 c1 pos
        split at hr
        · rename_i hc
          cases hr
          obtain ⟨rfl, h1, h2, h3⟩ := hc
          have e0 : ∀ e h, eAR C X.N (n + 1) (.Call (.Attribute o "replace" apos) [.Constant (.str y) j0 c0, .Constant (.str z) j1 c1] [] pos :: r) sc e h = bnd (eE C X.N n o sc e h) fun x h1 => (match x with
              | .str s => if s.length + (s.length + 1) * z.length ≤ 16777216 then bnd (eAR C X.N n r sc e h1) fun vs h2 => some (.ok (.str (Txt.replace s y z) :: vs) h2) else none
              | _ => none) := fun e h => by
            show (match repE _ with
              | some (o, y, z) => _
              | none => _) = _
            rw [hr0]
            try rfl
          have e1 : (fun e h => eAR C X.N (n + 1) (.Call (.Attribute o "replace" apos) [.Constant (.str y) j0 c0, .Constant (.str z) j1 c1] [] pos :: r) sc e h) = _ := funext fun e => funext fun h => e0 e h
          rw [e1]
          exact r_repl h2 h3 h1 (A.e X sc W D G o) (A.ar X sc W D G r)
        · cases hr
      · cases hr
/-- a test -/
theorem st_t (ex : Expr) : PT X ex (rdT X.K ca (fun e h => eT C X.N (n + 1) ex sc e h) W) := by
  cases ex with
  | BoolOp op es pos => exact (A.ts X sc W D G op es pos).pt
  | IfExp c a b pos => exact t_if (A.t X sc W D G c) (A.t X sc W D G a) (A.t X sc W D G b)
  | UnaryOp op a pos =>
    cases op with
    | Not => exact t_not (A.t X sc W D G a)
    | _ => exact t_val (A.e X sc W D G _) fun _ => rfl
  | Compare a ops bs pos =>
    cases n with
    | zero => exact pt_no
    | succ m =>
      have A1 := A' m (Nat.lt_succ_self m)
      match ops, bs with
      | [op], [b] => exact t_cmp (D.cmpG L G) (A1.e X sc W D G a) (A1.e X sc W D G b)
      | [op, op'], [b, c] => exact t_chain (by have := G.un; omega) (A1.e X sc W D G a) (A1.e X sc W D G b) (A1.e X sc W D G c)
      | [], _ => exact pt_no
      | [_], [] => exact pt_no
      | [_], _ :: _ :: _ => exact pt_no
      | [_, _], [] => exact pt_no
      | [_, _], [_] => exact pt_no
      | [_, _], _ :: _ :: _ :: _ => exact pt_no
      | _ :: _ :: _ :: _, _ => exact pt_no
  | _ => exact t_val (A.e X sc W D G _) fun _ => rfl
/-- plain expressions -/
theorem st_e (hc : ∀ fe args kws pos, PE X (.Call fe args kws pos) (rdE X.K ca (fun e h => eE C X.N (n + 1) (.Call fe args kws pos) sc e h) W)) (ex : Expr) : PE X ex (rdE X.K ca (fun e h => eE C X.N (n + 1) ex sc e h) W) := by
  cases ex with
  | Constant v j pos =>
    cases v with
    | int i => exact s_int
    | str x => exact s_str
    | bool b => exact s_bl
    | none => exact s_non
    | _ => exact pe_no
  | Name x pos => exact s_name G
  | BinOp a op b pos => exact s_bin (A.e X sc W D G a) (A.e X sc W D G b)
  | UnaryOp op a pos =>
    cases op with
    | Not => exact s_not (A.e X sc W D G a)
    | _ => exact s_un (by intro z; cases z) (A.e X sc W D G a)
  | BoolOp op es pos => exact A.bo X sc W D G op es pos
  | IfExp c a b pos => exact s_if (A.t X sc W D G c) (A.e X sc W D G a) (A.e X sc W D G b)
  | Compare a ops bs pos =>
    match ops, bs with
    | [op], [b] => exact s_cmp (D.cmpG L G) (A.e X sc W D G a) (A.e X sc W D G b)
    | [op, op'], [b, c] => exact s_chain (by have := G.un; omega) (A.e X sc W D G a) (A.e X sc W D G b) (A.e X sc W D G c)
    | [], _ => exact pe_no
    | [_], [] => exact pe_no
    | [_], _ :: _ :: _ => exact pe_no
    | [_, _], [] => exact pe_no
    | [_, _], [_] => exact pe_no
    | [_, _], _ :: _ :: _ :: _ => exact pe_no
    | _ :: _ :: _ :: _, _ => exact pe_no
  | Tuple es k pos => exact s_tup (A.a X sc W D G es)
  | List es pos => exact s_lst (A.a X sc W D G es)
  | Dict ks vs pos =>
    match ks, vs with
    | [], [] => exact s_dict0
    | [some k], [v] => exact s_dict1 (A.e X sc W D G k) (A.e X sc W D G v)
    | [], _ :: _ => exact pe_no
    | [none], _ => exact pe_no
    | [some _], [] => exact pe_no
    | [some _], _ :: _ :: _ => exact pe_no
    | none :: _ :: _, _ => exact pe_no
    | some _ :: _ :: _, _ => exact pe_no
  | Subscript a i pos =>
    cases i with
    | Slice lo hi st p2 =>
      cases st with
      | none => exact s_slice (A.e X sc W D G a) (A.o X sc W D G lo) (A.o X sc W D G hi)
      | some _ => exact pe_no
    | _ => exact s_sub (by have := G.un; omega) (fun _ _ _ _ z => by cases z) (A.e X sc W D G a) (A.e X sc W D G _)
  | Attribute a f pos => exact s_attr D L G (A.e X sc W D G a)
  | ListComp elt gs bsc pos =>
    match gs with
    | [] => exact pe_no
    | ⟨_, _, _, ia⟩ :: _ :: _ =>
      refine pe_of pe_no fun e h => ?_
      unfold eE
      dsimp only
      split
      · rename_i heq
        cases heq
      · rfl
    | [⟨t, it, ifs, ia⟩] =>
      by_cases h0 : ia = 0
      · subst h0
        refine pe_iff fun hb => ?_
        by_cases hs : isSetE it = true
        · refine pe_of pe_no fun e h => ?_
          rw [eI_set hs]
          rfl
        · exact s_lc G hb hs (A.i X sc W D G t it) (fun s H Cc cl fp => A.if_ _ bsc WF (D.blk s H bsc _ fp) (G.blk s H Cc cl fp) ifs) (fun s H Cc cl fp => A.e _ bsc WF (D.blk s H bsc _ fp) (G.blk s H Cc cl fp) elt)
      · refine pe_of pe_no fun e h => ?_
        unfold eE
        dsimp only
        split
        · rename_i heq
          cases heq
          exact absurd rfl h0
        · rfl
  | Call fe args kws pos => exact hc fe args kws pos
  | _ => exact pe_no
/-- what is walked -/
theorem st_i (t ex : Expr) : PI X t ex (rdI X.K ca (fun e h => eI C X.N (n + 1) t ex sc e h) W) := by
  cases n with
  | zero => exact pi_no
  | succ m =>
    have A1 := A' m (Nat.lt_succ_self m)
    have base : (∀ e h, eIS C X.N (m + 1) t ex sc e h = none) → PI X t ex (rdI X.K ca (fun e h => eI C X.N (m + 1 + 1) t ex sc e h) W) := fun h0 => by
      refine pi_of (i_val (A.e X sc W D G ex)) fun e h => ?_
      show (match eIS C X.N (m + 1) t ex sc e h with
        | some r => r
        | none => _) = _
      rw [h0]
    have own : ∀ (g : MEnv → MH → Option OutI), (∀ e h, eIS C X.N (m + 1) t ex sc e h = some (g e h)) → PI X t ex (rdI X.K ca g W) → PI X t ex (rdI X.K ca (fun e h => eI C X.N (m + 1 + 1) t ex sc e h) W) := fun g h0 hp => by
      refine pi_of hp fun e h => ?_
      show (match eIS C X.N (m + 1) t ex sc e h with
        | some r => r
        | none => _) = _
      rw [h0]
    have eq1 : ∀ e h, eIS C X.N (m + 1) t ex sc e h = (match walkE ex with
      | some (f, args) => (match nmAt sc X.N f with
        | .glo => if f = "range" then some (if (arg1 args || arg2 args) = true then bnd (eA C X.N m args sc e h) fun vs h1 => at_ h1 (if vs.length = args.length then rangeOf vs else none) else none)
          else if f = "enumerate" then some (if (arg1 args && isTupE t) = true then bnd (eA C X.N m args sc e h) fun vs h1 => at_ h1 (if vs.length = args.length then enumOf vs h1 else none) else none)
          else if f = "zip" then some (if (arg2 args && isTupE t) = true then bnd (eA C X.N m args sc e h) fun vs h1 => at_ h1 (if vs.length = args.length then zipOf vs h1 else none) else none)
          else none
        | _ => none)
      | none => none) := fun e h => rfl
    cases hw : walkE ex with
    | none =>
      refine base fun e h => ?_
      rw [eq1, hw]
    | some q =>
      obtain ⟨f, args⟩ := q
      obtain ⟨p, pos, rfl⟩ : ∃ p pos, ex = .Call (.Name f p) args [] pos := by
        unfold walkE at hw
        split at hw
        · cases hw
          exact ⟨_, _, rfl⟩
        · cases hw
      cases hn : nmAt sc X.N f with
      | glo =>
        have hg := G.gl hn
        by_cases h1 : f = "range"
        · subst h1
          refine own _ (fun e h => ?_) (i_range G hg (A1.a X sc W D G args))
          rw [eq1, hw]
          dsimp only
          rw [hn]
          dsimp only
          rw [if_pos rfl]
        by_cases h2 : f = "enumerate"
        · subst h2
          refine own _ (fun e h => ?_) (i_enum G hg (A1.a X sc W D G args))
          rw [eq1, hw]
          dsimp only
          rw [hn]
          dsimp only
          rw [if_neg h1, if_pos rfl]
        by_cases h3 : f = "zip"
        · subst h3
          refine own _ (fun e h => ?_) (i_zip G hg (A1.a X sc W D G args))
          rw [eq1, hw]
          dsimp only
          rw [hn]
          dsimp only
          rw [if_neg h1, if_neg h2, if_pos rfl]
        refine base fun e h => ?_
        rw [eq1, hw]
        dsimp only
        rw [hn]
        dsimp only
        rw [if_neg h1, if_neg h2, if_neg h3]
      | loc i =>
        refine base fun e h => ?_
        rw [eq1, hw]
        dsimp only
        rw [hn]
      | no =>
        refine base fun e h => ?_
        rw [eq1, hw]
        dsimp only
        rw [hn]
/-- calls that are taken as a whole -/
theorem st_sp {f : Str} (args : List Expr) (kws : List Keyword) (p pos : Pos) (hn : nmAt sc X.N f = .glo) : (∀ e h, eSpecial C X.N n f args kws sc e h = none) ∨
    ∃ g, (∀ e h, eSpecial C X.N n f args kws sc e h = some (g e h)) ∧ PE X (.Call (.Name f p) args kws pos) (rdE X.K ca g W) := by
  cases n with
  | zero => exact .inl fun e h => rfl
  | succ m =>
    have A1 := A' m (Nat.lt_succ_self m)
    have hg := G.gl hn
    have eq1 : ∀ e h, eSpecial C X.N (m + 1) f args kws sc e h = (match spK f args kws with
      | .no => none
      | .bad => some none
      | .isi a c => some (match nmAt sc X.N c with
        | .glo => if notStar a = true then bnd (eE C X.N m a sc e h) fun x h1 => at_ h1 ((isI C.G h1 x c).map .bl) else none
        | _ => none)
      | .sset a => some (match nmAt sc X.N "set" with
        | .glo => if notStar a = true then bnd (eE C X.N m a sc e h) fun x h1 => fin (sortedSet x h1) else none
        | _ => none)
      | .lrg a => some (match nmAt sc X.N "range" with
        | .glo => if notStar a = true then bnd (eE C X.N m a sc e h) fun x h1 => (match x with
          | .int k => if -(2 ^ 62) ≤ k ∧ k.toNat ≤ 100000 then newL ((List.range k.toNat).map fun (i : Nat) => MV.int (i : Int)) h1 else none
          | _ => none) else none
        | _ => none)) := fun e h => rfl
    cases hk : spK f args kws with
    | no =>
      refine .inl fun e h => ?_
      rw [eq1, hk]
    | bad =>
      refine .inr ⟨_, fun e h => ?_, pe_no⟩
      rw [eq1, hk]
    | isi a c =>
      obtain ⟨rfl, q, rfl, rfl⟩ := spK_isi hk
      cases hc : nmAt sc X.N c with
      | glo =>
        refine .inr ⟨_, fun e h => ?_, s_isi D G hg (G.gl hc) (A1.e X sc W D G a)⟩
        rw [eq1, hk]
        dsimp only
        rw [hc]
      | loc i =>
        refine .inr ⟨_, fun e h => ?_, pe_no⟩
        rw [eq1, hk]
        dsimp only
        rw [hc]
      | no =>
        refine .inr ⟨_, fun e h => ?_, pe_no⟩
        rw [eq1, hk]
        dsimp only
        rw [hc]
    | sset a =>
      obtain ⟨rfl, p2, q2, rfl, rfl⟩ := spK_sset hk
      cases hc : nmAt sc X.N "set" with
      | glo =>
        refine .inr ⟨_, fun e h => ?_, s_sset G hg (G.gl hc) (A1.e X sc W D G a)⟩
        rw [eq1, hk]
        dsimp only
        rw [hc]
      | loc i =>
        refine .inr ⟨_, fun e h => ?_, pe_no⟩
        rw [eq1, hk]
        dsimp only
        rw [hc]
      | no =>
        refine .inr ⟨_, fun e h => ?_, pe_no⟩
        rw [eq1, hk]
        dsimp only
        rw [hc]
    | lrg a =>
      obtain ⟨rfl, p2, q2, rfl, rfl⟩ := spK_lrg hk
      cases hc : nmAt sc X.N "range" with
      | glo =>
        refine .inr ⟨_, fun e h => ?_, s_lrg G hg (G.gl hc) (A1.e X sc W D G a)⟩
        rw [eq1, hk]
        dsimp only
        rw [hc]
        try rfl
      | loc i =>
        refine .inr ⟨_, fun e h => ?_, pe_no⟩
        rw [eq1, hk]
        dsimp only
        rw [hc]
      | no =>
        refine .inr ⟨_, fun e h => ?_, pe_no⟩
        rw [eq1, hk]
        dsimp only
        rw [hc]
/-- calls of a name -/
theorem st_cn {f : Str} (args : List Expr) (kws : List Keyword) (p pos : Pos) : PE X (.Call (.Name f p) args kws pos) (rdE X.K ca (fun e h => eE C X.N (n + 1) (.Call (.Name f p) args kws pos) sc e h) W) := by
  have eq1 : ∀ e h, eE C X.N (n + 1) (.Call (.Name f p) args kws pos) sc e h = if noStar args = true then (match nmAt sc X.N f with
        | .glo => (match eSpecial C X.N n f args kws sc e h with
          | some r => r
          | none => (match (generalizing := false) kindC C f, kws with
            | .fn, [] => bnd (eA C X.N n args sc e h) fun vs h1 => C.call f vs h1
            | .mk k _, [] => bnd (eA C X.N n args sc e h) fun vs h1 => make C f k vs h1
            | .mk k d, kw :: kws => if (C.G.kws.contains (f, args.length, (kw :: kws).filterMap (·.arg)) && (kw :: kws).all (·.arg.isSome) && d.ps.drop (args.length + 1) == (kw :: kws).filterMap (·.arg)) = true then
                bnd (eA C X.N n args sc e h) fun vs h1 => bnd (eK C X.N n (kw :: kws) sc e h1) fun ws h2 => if vs.length = args.length ∧ ws.length = (kw :: kws).length then make C f k (vs ++ ws) h2 else none else none
            | .blt, [] => if args.isEmpty = true then none else bnd (eA C X.N n args sc e h) fun vs h1 => (match lenI C f vs h1 with
              | some r => r
              | none => fin (bcall f vs h1))
            | _, _ => none))
        | _ => none) else none := fun e h => rfl
  by_cases hs : noStar args = true
  · cases hn : nmAt sc X.N f with
    | loc i =>
      refine pe_of pe_no fun e h => ?_
      rw [eq1, if_pos hs, hn]
    | no =>
      refine pe_of pe_no fun e h => ?_
      rw [eq1, if_pos hs, hn]
    | glo =>
      have hg := G.gl hn
      rcases st_sp A A' L D G args kws p pos hn with h0 | ⟨g, h0, hp⟩
      · have eq2 : ∀ e h, eE C X.N (n + 1) (.Call (.Name f p) args kws pos) sc e h = (match (generalizing := false) kindC C f, kws with
            | .fn, [] => bnd (eA C X.N n args sc e h) fun vs h1 => C.call f vs h1
            | .mk k _, [] => bnd (eA C X.N n args sc e h) fun vs h1 => make C f k vs h1
            | .mk k d, kw :: kws => if (C.G.kws.contains (f, args.length, (kw :: kws).filterMap (·.arg)) && (kw :: kws).all (·.arg.isSome) && d.ps.drop (args.length + 1) == (kw :: kws).filterMap (·.arg)) = true then
                bnd (eA C X.N n args sc e h) fun vs h1 => bnd (eK C X.N n (kw :: kws) sc e h1) fun ws h2 => if vs.length = args.length ∧ ws.length = (kw :: kws).length then make C f k (vs ++ ws) h2 else none else none
            | .blt, [] => if args.isEmpty = true then none else bnd (eA C X.N n args sc e h) fun vs h1 => (match lenI C f vs h1 with
              | some r => r
              | none => fin (bcall f vs h1))
            | _, _ => none) := fun e h => by
          rw [eq1, if_pos hs, hn]
          dsimp only
          rw [h0]
        have nilN : ∀ {g : List MV → MH → Option Out}, args = [] → n = 0 → ∀ e h, bnd (eA C X.N n args sc e h) g = none := fun ha h0 e h => by
          subst h0
          rfl
        cases hk : kindC C f with
        | no =>
          refine pe_of pe_no fun e h => ?_
          rw [eq2, hk]
        | fn =>
          cases kws with
          | cons _ _ =>
            refine pe_of pe_no fun e h => ?_
            rw [eq2, hk]
          | nil =>
            obtain ⟨d, hf, ht⟩ := kindC_fn hk
            have hlen : ∀ vs h1, vs.length ≠ d.ps.length → C.call f vs h1 = none := fun vs h1 hl => L f vs h1 fun d' hf' => by rw [hf] at hf'; cases hf'; exact hl
            cases args with
            | nil =>
              cases n with
              | zero =>
                refine pe_of pe_no fun e h => ?_
                rw [eq2, hk]
                rfl
              | succ m =>
                refine pe_of (s_fn0 D G hf ht hg hlen) fun e h => ?_
                rw [eq2, hk]
                rfl
            | cons a es =>
              refine pe_of (s_fn D G hf ht hg hs (A.a X sc W D G (a :: es)) hlen) fun e h => ?_
              rw [eq2, hk]
        | mk k d =>
          obtain ⟨cd, hc, hx, hi, hf⟩ := kindC_mk hk
          have hlen : ∀ vs h1, vs.length ≠ d.ps.length → C.call k vs h1 = none := fun vs h1 hl => L k vs h1 fun d' hf' => by rw [hf] at hf'; cases hf'; exact hl
          cases kws with
          | nil =>
            cases args with
            | nil =>
              cases n with
              | zero =>
                refine pe_of pe_no fun e h => ?_
                rw [eq2, hk]
                rfl
              | succ m =>
                refine pe_of (s_mk0 D G hc hx hi hf hg hlen) fun e h => ?_
                rw [eq2, hk]
                rfl
            | cons a es =>
              refine pe_of (s_mk D G hc hx hi hf hg hs (A.a X sc W D G (a :: es)) hlen) fun e h => ?_
              rw [eq2, hk]
          | cons kw kws =>
            cases n with
            | zero =>
              refine pe_of pe_no fun e h => ?_
              rw [eq2, hk]
              dsimp only
              split <;> rfl
            | succ m =>
              by_cases hq : (C.G.kws.contains (f, args.length, (kw :: kws).filterMap (·.arg)) && (kw :: kws).all (·.arg.isSome) && d.ps.drop (args.length + 1) == (kw :: kws).filterMap (·.arg)) = true
              · have hq2 := hq
                rw [Bool.and_eq_true, Bool.and_eq_true] at hq2
                refine pe_of (s_mkw D G hc hx hi hf hg hs (A.a X sc W D G args) (A.k X sc W D G (kw :: kws)) hq2.1.2 (List.contains_iff_mem.mp hq2.1.1) (fun ha e h => by subst ha; rfl) hlen) fun e h => ?_
                rw [eq2, hk]
                dsimp only
                rw [if_pos hq]
              · refine pe_of pe_no fun e h => ?_
                rw [eq2, hk]
                dsimp only
                rw [if_neg hq]
        | blt =>
          cases kws with
          | cons _ _ =>
            refine pe_of pe_no fun e h => ?_
            rw [eq2, hk]
          | nil =>
            cases args with
            | nil =>
              refine pe_of pe_no fun e h => ?_
              rw [eq2, hk]
              rfl
            | cons a es =>
              refine pe_of (s_blt D L G (kindC_blt hk) hg hs (A.a X sc W D G (a :: es))) fun e h => ?_
              rw [eq2, hk]
              rfl
      · refine pe_of hp fun e h => ?_
        rw [eq1, if_pos hs, hn]
        dsimp only
        rw [h0]
  · refine pe_of pe_no fun e h => ?_
    rw [eq1, if_neg hs]
/-- calls -/
theorem st_c (fe : Expr) (args : List Expr) (kws : List Keyword) (pos : Pos) : PE X (.Call fe args kws pos) (rdE X.K ca (fun e h => eE C X.N (n + 1) (.Call fe args kws pos) sc e h) W) := by
  cases fe with
  | Name f p => exact st_cn A A' L D G args kws p pos
  | Attribute o m apos =>
    cases kws with
    | cons _ _ => exact pe_no
    | nil =>
      cases args with
      | nil =>
        cases n with
        | zero =>
          refine pe_of pe_no fun e h => ?_
          show (if _ then bnd none _ else none) = none
          split <;> rfl
        | succ k => exact s_meth0 D L G (A.e X sc W D G o)
      | cons a es => exact s_meth D L G (A.e X sc W D G o) (A.a X sc W D G (a :: es))
  | _ => exact pe_no
end
theorem as_succ (L : LenOk C) {n : Nat} (A : AS C ca fa kk n) (A' : ∀ m, m < n → AS C ca fa kk m) : AS C ca fa kk (n + 1) where
  e := fun X sc W D G ex => st_e A A' L D G (st_c A A' L D G) ex
  bo := fun X sc W D G op es pos => st_bo A A' L D G op es pos
  t := fun X sc W D G ex => st_t A A' L D G ex
  ts := fun X sc W D G op es pos => st_ts A A' L D G op es pos
  if_ := fun X sc W D G cs => st_if A A' L D G cs
  a := fun X sc W D G es => st_a A A' L D G es
  ar := fun X sc W D G es => st_ar A A' L D G es
  k := fun X sc W D G kws => st_k A A' L D G kws
  o := fun X sc W D G oo => st_o A A' L D G oo
  i := fun X sc W D G t ex => st_i A A' L D G t ex
theorem as_all (L : LenOk C) (n : Nat) : AS C ca fa kk n := by
  induction n using Nat.strongRecOn with
  | ind n ih =>
    cases n with
    | zero => exact as_zero
    | succ n => exact as_succ L (ih n (Nat.lt_succ_self n)) fun m hm => ih m (Nat.lt_succ_of_lt hm)
end
end Sd
end T_Sd22
section T_Sd23
set_option linter.all false
set_option maxRecDepth 100000
set_option maxHeartbeats 4000000
/-! Sd23: every statement is as the evaluator tells. -/
namespace Sd
open PySem PySem.Spec PyProof.Rows L2 Ev
section
variable {X : Cx} {K : PySem.W.Frag} {ca : Str → Addr} {W : WX} {st : Stmt}
theorem ps_no : PS X st (rdS K ca (fun _ _ => none) W) := ⟨fun pins s σ H D I ⟨_, _, _, _, _, k⟩ => k.elim⟩
theorem ps_of {f g : MEnv → MH → Option OutS} (h : PS X st (rdS K ca g W)) (e : ∀ e h, f e h = g e h) : PS X st (rdS K ca f W) := by
  have : f = g := funext fun a => funext fun b => e a b
  rw [this]
  exact h
end
theorem raiseP_some {a b : Option Expr} {c : Str} {x : Expr} (h : raiseP a b = some (c, x)) : ∃ p q, a = some (.Call (.Name c p) [x] [] q) ∧ b = none := by
  unfold raiseP at h
  split at h
  · cases h
    exact ⟨_, _, rfl, rfl⟩
  · cases h
theorem tryP_some {hs : List ExceptHandler} {els fs : List Stmt} {c y z y' : Str} (h : tryP hs els fs = some (c, y, z, y')) : ∃ np p1 p2 p3 pos', hs = [.ExceptHandler (some (.Name c np)) (some y) [.Assign [.Name z p1] (.Name y' p2) p3] pos'] ∧ els = [] ∧ fs = [] := by
  unfold tryP at h
  split at h
  · cases h
    exact ⟨_, _, _, _, _, rfl, rfl, rfl⟩
  · cases h
/-- the evaluator is sound for statements of depth n -/
structure BS (C : Cxt) (ca fa : Str → Addr) (kk : Nat) (n : Nat) : Prop where
  s : ∀ (X : Cx) (sc : Scope) (W : WX), XC X C ca fa kk → XG X C ca sc W → XS X sc → EX X.prog X.K X.mg C.G ca → ∀ st, PS X st (rdS X.K ca (fun e h => eS C X.N n st sc e h) W)
  ss : ∀ (X : Cx) (sc : Scope) (W : WX), XC X C ca fa kk → XG X C ca sc W → XS X sc → EX X.prog X.K X.mg C.G ca → ∀ ss, PSs X ss (rdS X.K ca (fun e h => eSs C X.N n ss sc e h) W)
  tg : ∀ (X : Cx) (sc : Scope) (W : WX), XC X C ca fa kk → XG X C ca sc W → ∀ ts, PGs X ts (gT X.K ca (fun vs e h => eTg C X.N n ts vs sc e h) W)
section
variable {C : Cxt} {ca fa : Str → Addr} {kk : Nat}
theorem bs_zero : BS C ca fa kk 0 where
  s := fun X sc W D G Z E st => ps_no
  ss := fun X sc W D G Z E ss => ⟨fun pins s σ H D I ⟨_, _, _, _, _, k⟩ => k.elim⟩
  tg := fun X sc W D G ts => ⟨fun pins s σ H us uu Q I rr ⟨_, _, _, _, _, _, _, k⟩ => k.elim⟩
section
variable (L : LenOk C) (hk : 1 ≤ kk) {n : Nat} (B : BS C ca fa kk n) {X : Cx} {sc : Scope} {W : WX} (D : XC X C ca fa kk) (G : XG X C ca sc W)
include L hk B D G
theorem gt_no {ts : List Expr} : PGs X ts (gT X.K ca (fun _ _ _ => none) W) := ⟨fun pins s σ H us uu Q I rr ⟨_, _, _, _, _, _, _, k⟩ => k.elim⟩
theorem gt_of {ts : List Expr} {f g : List MV → MEnv → MH → Option OutS} (h : PGs X ts (gT X.K ca g W)) (e : ∀ vs e h, f vs e h = g vs e h) : PGs X ts (gT X.K ca f W) := by
  have : f = g := funext fun a => funext fun b => funext fun c => e a b c
  rw [this]
  exact h
theorem sb_tg (ts : List Expr) : PGs X ts (gT X.K ca (fun vs e h => eTg C X.N (n + 1) ts vs sc e h) W) := by
  have A : AS C ca fa kk n := as_all L n
  match ts with
  | [] =>
    refine gt_of L hk B D G tg_nil fun vs e h => ?_
    cases vs <;> rfl
  | t :: r =>
    have no : (∀ v vs e h, eTg C X.N (n + 1) (t :: r) (v :: vs) sc e h = none) → PGs X (t :: r) (gT X.K ca (fun vs e h => eTg C X.N (n + 1) (t :: r) vs sc e h) W) := fun h0 => by
      refine gt_of L hk B D G (gt_no L hk B D G) fun vs e h => ?_
      cases vs with
      | nil => rfl
      | cons v vs => exact h0 v vs e h
    cases t with
    | Name x p =>
      cases hi : tgt sc X.N (.Name x p) with
      | none =>
        refine no fun v vs e h => ?_
        show (match tgt sc X.N (.Name x p) with
          | some i => _
          | none => none) = none
        rw [hi]
      | some i =>
        refine gt_of L hk B D G (tg_name G hi (B.tg X sc W D G r)) fun vs e h => ?_
        cases vs with
        | nil => rfl
        | cons v vs =>
          show (match tgt sc X.N (.Name x p) with
            | some i => _
            | none => none) = _
          rw [hi]
    | Subscript o i p =>
      cases i with
      | Slice _ _ _ _ => exact no fun v vs e h => rfl
      | _ =>
        refine gt_of L hk B D G (tg_sub G (fun _ _ _ _ z => by cases z) (A.e X sc W D G o) (A.e X sc W D G _) (B.tg X sc W D G r)) fun vs e h => ?_
        cases vs <;> rfl
    | _ => exact no fun v vs e h => rfl
end
section
variable {sc : Scope}
theorem eTg2 {N : List Str} {x y : Str} {px py : Pos} {i j : Nat} (hi : tgt sc N (.Name x px) = some i) (hj : tgt sc N (.Name y py) = some j) (n : Nat) : ∀ vs e h, vs.length = 2 →
    eTg C N n [.Name x px, .Name y py] vs sc e h = none ∨ ∃ v w, vs = [v, w] ∧ eTg C N n [.Name x px, .Name y py] vs sc e h = some (.nx (setE (setE e i v) j w) h) := by
  intro vs e h hl
  match vs, hl with
  | [v, w], _ =>
    match n with
    | 0 => exact .inl rfl
    | 1 =>
      refine .inl ?_
      show (match tgt sc N (.Name x px) with
        | some i => none
        | none => none) = none
      rw [hi]
    | 2 =>
      refine .inl ?_
      show (match tgt sc N (.Name x px) with
        | some i => (match tgt sc N (.Name y py) with
          | some j => none
          | none => none)
        | none => none) = none
      rw [hi]
      dsimp only
      rw [hj]
    | m + 3 =>
      refine .inr ⟨v, w, rfl, ?_⟩
      show (match tgt sc N (.Name x px) with
        | some i => (match tgt sc N (.Name y py) with
          | some j => some (OutS.nx (setE (setE e i v) j w) h)
          | none => none)
        | none => none) = _
      rw [hi]
      dsimp only
      rw [hj]
theorem eTg3 {N : List Str} {x y z : Str} {px py pz : Pos} {i j l : Nat} (hi : tgt sc N (.Name x px) = some i) (hj : tgt sc N (.Name y py) = some j) (hl0 : tgt sc N (.Name z pz) = some l) (n : Nat) : ∀ vs e h, vs.length = 3 →
    eTg C N n [.Name x px, .Name y py, .Name z pz] vs sc e h = none ∨ ∃ v w u, vs = [v, w, u] ∧ eTg C N n [.Name x px, .Name y py, .Name z pz] vs sc e h = some (.nx (setE (setE (setE e i v) j w) l u) h) := by
  intro vs e h hl
  match vs, hl with
  | [v, w, u], _ =>
    match n with
    | 0 => exact .inl rfl
    | 1 =>
      refine .inl ?_
      show (match tgt sc N (.Name x px) with
        | some i => none
        | none => none) = none
      rw [hi]
    | m + 2 =>
      have e2 : eTg C N (m + 2) [.Name x px, .Name y py, .Name z pz] [v, w, u] sc e h = eTg C N (m + 1) [.Name y py, .Name z pz] [w, u] sc (setE e i v) h := by
        show (match tgt sc N (.Name x px) with
          | some i => eTg C N (m + 1) [.Name y py, .Name z pz] [w, u] sc (setE e i v) h
          | none => none) = _
        rw [hi]
      rw [e2]
      rcases eTg2 (C := C) (sc := sc) hj hl0 (m + 1) [w, u] (setE e i v) h rfl with e3 | ⟨v', w', e4, e5⟩
      · exact .inl e3
      · cases e4
        exact .inr ⟨v, w, u, rfl, e5⟩
theorem tgOk_name {N : List Str} {x : Str} {p : Pos} (h : tgOk sc N (.Name x p) = true) : ∃ i, tgt sc N (.Name x p) = some i := by
  unfold tgOk at h
  exact Option.isSome_iff_exists.mp h
end
section
variable (L : LenOk C) (hk : 1 ≤ kk) {n : Nat} (B : BS C ca fa kk n) {X : Cx} {sc : Scope} {W : WX} (D : XC X C ca fa kk) (G : XG X C ca sc W) (Z : XS X sc) (E : EX X.prog X.K X.mg C.G ca)
include L hk B D G Z E
theorem sb_ss (ss : List Stmt) : PSs X ss (rdS X.K ca (fun e h => eSs C X.N (n + 1) ss sc e h) W) := by
  match ss with
  | [] => exact g_nil
  | s :: r => exact g_cons (B.s X sc W D G Z E s) (B.ss X sc W D G Z E r)
theorem sb_tup (ts : List Expr) (k : Nat) (p : Pos) (a : Expr) (pos : Pos) (hq : (tupOk a && ts.all (tgOk sc X.N)) = true) : PS X (.Assign [.Tuple ts k p] a pos) (rdS X.K ca (fun e h => thnS e (eE C X.N n a sc e h) fun v h1 => match seq? h1 v with
      | some vs => if vs.length = ts.length then eTg C X.N n ts vs sc e h1 else none
      | none => none) W) := by
  have A : AS C ca fa kk n := as_all L n
  rw [Bool.and_eq_true] at hq
  rcases sw_cases (ts := ts) (a := a) (p := p) (k := k) (env := X.env) hq.1 with hw | ⟨x, px, y, py, v, w, k2, p2, rfl, rfl, hxy, hx, hy, hw⟩ | ⟨x, px, y, py, z, pz, v, w, u, k2, p2, rfl, rfl, h1, h2, h3, hx, hy, hz, hw⟩
  · exact g_tup0 G hq.2 hw (A.e X sc W D G a) (B.tg X sc W D G ts) fun vs e h => plain_eTg C X.N n ts vs sc e h
  · cases n with
    | zero => exact ps_no
    | succ m =>
      have A1 : AS C ca fa kk m := as_all L m
      have hq2 := hq.2
      simp only [List.all_cons, List.all_nil, Bool.and_true, Bool.and_eq_true] at hq2
      obtain ⟨i, hi⟩ := tgOk_name hq2.1
      obtain ⟨j, hj⟩ := tgOk_name hq2.2
      exact g_par2 (fr := fun vs e h => eTg C X.N (m + 1) [.Name x px, .Name y py] vs sc e h) G hi hj hxy hx hy hw (A1.a X sc W D G [v, w]) (eTg2 hi hj (m + 1))
  · cases n with
    | zero => exact ps_no
    | succ m =>
      have A1 : AS C ca fa kk m := as_all L m
      have hq2 := hq.2
      simp only [List.all_cons, List.all_nil, Bool.and_true, Bool.and_eq_true] at hq2
      obtain ⟨i, hi⟩ := tgOk_name hq2.1
      obtain ⟨j, hj⟩ := tgOk_name hq2.2.1
      obtain ⟨l, hl⟩ := tgOk_name hq2.2.2
      exact g_par3 (fr := fun vs e h => eTg C X.N (m + 1) [.Name x px, .Name y py, .Name z pz] vs sc e h) G hi hj hl h1 h2 h3 hx hy hz hw (A1.a X sc W D G [v, w, u]) (eTg3 hi hj hl (m + 1))
theorem sb_name (x : Str) (p : Pos) (a : Expr) (pos : Pos) : PS X (.Assign [.Name x p] a pos) (rdS X.K ca (fun e h => eS C X.N (n + 1) (.Assign [.Name x p] a pos) sc e h) W) := by
  have A : AS C ca fa kk n := as_all L n
  have eq1 : ∀ e h, eS C X.N (n + 1) (.Assign [.Name x p] a pos) sc e h = (match tgt sc X.N (.Name x p) with
      | some i => thnS e (eE C X.N n a sc e h) fun v h1 => some (.nx (setE e i v) h1)
      | none => none) := fun e h => rfl
  cases hi : tgt sc X.N (.Name x p) with
  | none =>
    refine ps_of ps_no fun e h => ?_
    rw [eq1, hi]
  | some i =>
    have eq2 : ∀ e h, eS C X.N (n + 1) (.Assign [.Name x p] a pos) sc e h = thnS e (eE C X.N n a sc e h) fun v h1 => some (.nx (setE e i v) h1) := fun e h => by
      rw [eq1, hi]
    by_cases hc : isComp a = true
    · cases n with
      | zero =>
        refine ps_of ps_no fun e h => ?_
        rw [eq2]
        rfl
      | succ m =>
        have A1 : AS C ca fa kk m := as_all L m
        have bad : (∀ e h, eE C X.N (m + 1) a sc e h = none) → PS X (.Assign [.Name x p] a pos) (rdS X.K ca (fun e h => eS C X.N (m + 1 + 1) (.Assign [.Name x p] a pos) sc e h) W) := fun h0 => by
          refine ps_of ps_no fun e h => ?_
          rw [eq2, h0]
          rfl
        cases a with
        | ListComp elt gs bsc lpos =>
          match gs with
          | [] => exact bad fun e h => rfl
          | ⟨_, _, _, ia⟩ :: _ :: _ =>
            refine bad fun e h => ?_
            unfold eE
            dsimp only
            split
            · rename_i heq
              cases heq
            · rfl
          | [⟨t, it, ifs, ia⟩] =>
            by_cases h0 : ia = 0
            · subst h0
              by_cases hb : blkB X.N sc bsc = true
              · by_cases hs : isSetE it = true
                · refine bad fun e h => ?_
                  show (if blkB X.N sc bsc = true then _ else none) = none
                  rw [if_pos hb, eI_set hs]
                  rfl
                · refine ps_of (g_nameLc (ft := fun e h => eIf C X.N m ifs bsc e h) (fe := fun e h => eE C X.N m elt bsc e h) G hi hb hs (A1.i X sc W D G t it) (fun s H Cc cl fp => A1.if_ _ bsc WF (D.blk s H bsc _ fp) (G.blk s H Cc cl fp) ifs) (fun s H Cc cl fp => A1.e _ bsc WF (D.blk s H bsc _ fp) (G.blk s H Cc cl fp) elt)) fun e h => ?_
                  rw [eq2]
                  show thnS e (if blkB X.N sc bsc = true then _ else none) _ = _
                  rw [if_pos hb]
              · refine bad fun e h => ?_
                show (if blkB X.N sc bsc = true then _ else none) = none
                rw [if_neg hb]
            · refine bad fun e h => ?_
              unfold eE
              dsimp only
              split
              · rename_i heq
                cases heq
                exact absurd rfl h0
              · rfl
        | SetComp _ _ _ _ => exact bad fun e h => rfl
        | DictComp _ _ _ _ _ => exact bad fun e h => rfl
        | _ => cases hc
    · refine ps_of (g_name G hi hc (A.e X sc W D G a)) fun e h => ?_
      rw [eq2]
theorem sb_s (st : Stmt) : PS X st (rdS X.K ca (fun e h => eS C X.N (n + 1) st sc e h) W) := by
  have A : AS C ca fa kk n := as_all L n
  cases st with
  | Pass pos => exact g_pass
  | Break pos => exact g_break
  | Continue pos => exact g_continue
  | Expr a pos =>
    by_cases hc : isComp a = true
    · have : ∀ e h, eS C X.N (n + 1) (.Expr a pos) sc e h = none := fun e h => by
        cases a <;> first | rfl | cases hc
      exact ps_of ps_no this
    · by_cases hd : ∃ x j p, a = .Constant (.str x) j p
      · obtain ⟨x, j, p, rfl⟩ := hd
        exact g_doc
      · refine ps_of (g_expr hc (A.e X sc W D G a)) fun e h => ?_
        have hc2 : ∀ {α : Type} (x y : α), (if isComp a = true then x else y) = y := fun x y => if_neg hc
        cases a with
        | Constant v j p =>
          cases v with
          | str x => exact absurd ⟨_, _, _, rfl⟩ hd
          | _ => rfl
        | _ => first | rfl | exact absurd rfl hc
  | Return a pos =>
    cases a with
    | none => exact g_retN
    | some a => exact g_ret (A.e X sc W D G a)
  | If c a b pos => exact g_if (A.t X sc W D G c) (B.ss X sc W D G Z E a) (B.ss X sc W D G Z E b)
  | While c body els pos =>
    cases els with
    | nil => exact g_while G Z (A.t X sc W D G c) (B.ss X sc W D G Z E body)
    | cons _ _ => exact ps_no
  | For t it body els pos =>
    cases els with
    | cons _ _ => exact ps_no
    | nil =>
      by_cases hs : isSetE it = true
      · refine ps_of ps_no fun e h => ?_
        show thnS e (eI C X.N n t it sc e h) _ = none
        rw [eI_set hs]
        rfl
      · exact g_for G Z hs (A.i X sc W D G t it) (B.ss X sc W D G Z E body)
  | Assign ts a pos =>
    match ts with
    | [] => exact ps_no
    | _ :: _ :: _ => exact ps_no
    | [t] =>
      cases t with
      | Attribute o f p => exact g_fld D (A.e X sc W D G a) (A.e X sc W D G o)
      | Subscript o i p =>
        cases i with
        | Slice _ _ _ _ => exact ps_no
        | _ => exact g_item G (fun _ _ _ _ z => by cases z) (A.e X sc W D G a) (A.e X sc W D G o) (A.e X sc W D G _)
      | Tuple ts k p =>
        by_cases hq : (tupOk a && ts.all (tgOk sc X.N)) = true
        · refine ps_of (sb_tup L hk B D G Z E ts k p a pos hq) fun e h => ?_
          show (if (tupOk a && ts.all (tgOk sc X.N)) = true then _ else none) = _
          rw [if_pos hq]
          try rfl
        · refine ps_of ps_no fun e h => ?_
          show (if (tupOk a && ts.all (tgOk sc X.N)) = true then _ else none) = _
          rw [if_neg hq]
      | Name x p => exact sb_name L hk B D G Z E x p a pos
      | _ => exact ps_no
  | Raise a b pos =>
    have eq1 : ∀ e h, eS C X.N (n + 1) (.Raise a b pos) sc e h = (match raiseP a b with
      | some (c, a) => (match nmAt sc X.N c, lk c C.G.clss with
        | .glo, some d => if d.isExc = true ∧ notStar a = true then thnS e (eE C X.N n a sc e h) fun v h1 => some (.exc (.exc c v) e h1) else none
        | _, _ => none)
      | none => none) := fun e h => rfl
    cases hr : raiseP a b with
    | none =>
      refine ps_of ps_no fun e h => ?_
      rw [eq1, hr]
    | some q =>
      obtain ⟨c, x⟩ := q
      obtain ⟨p, q, rfl, rfl⟩ := raiseP_some hr
      cases hn : nmAt sc X.N c with
      | glo =>
        cases hd : lk c C.G.clss with
        | none =>
          refine ps_of ps_no fun e h => ?_
          rw [eq1, hr]
          dsimp only
          rw [hn, hd]
        | some d =>
          by_cases hx : d.isExc = true ∧ notStar x = true
          · refine ps_of (g_raise D hk G E hd hx.1 (G.gl hn) hx.2 (A.e X sc W D G x)) fun e h => ?_
            rw [eq1, hr]
            dsimp only
            rw [hn, hd]
            dsimp only
            rw [if_pos hx]
          · refine ps_of ps_no fun e h => ?_
            rw [eq1, hr]
            dsimp only
            rw [hn, hd]
            dsimp only
            rw [if_neg hx]
      | loc i =>
        refine ps_of ps_no fun e h => ?_
        rw [eq1, hr]
        dsimp only
        rw [hn]
      | no =>
        refine ps_of ps_no fun e h => ?_
        rw [eq1, hr]
        dsimp only
        rw [hn]
  | Try body hs els fs pos =>
    have eq1 : ∀ e h, eS C X.N (n + 1) (.Try body hs els fs pos) sc e h = (match tryP hs els fs with
      | some (c, y, z, y') => (match nmAt sc X.N c, idx y X.N, idx z X.N with
        | .glo, some i, some j => if y = y' ∧ lk y sc.names = some .local ∧ lk z sc.names = some .local ∧ y ≠ z ∧ (lk c C.G.clss).isSome = true then tryS C.G c i j (eSs C X.N n body sc e h) else none
        | _, _, _ => none)
      | none => none) := fun e h => rfl
    cases ht : tryP hs els fs with
    | none =>
      refine ps_of ps_no fun e h => ?_
      rw [eq1, ht]
    | some q =>
      obtain ⟨c, y, z, y'⟩ := q
      obtain ⟨np, p1, p2, p3, pos', rfl, rfl, rfl⟩ := tryP_some ht
      cases hn : nmAt sc X.N c with
      | glo =>
        cases hi : idx y X.N with
        | none =>
          refine ps_of ps_no fun e h => ?_
          rw [eq1, ht]
          dsimp only
          rw [hn, hi]
        | some i =>
          cases hj : idx z X.N with
          | none =>
            refine ps_of ps_no fun e h => ?_
            rw [eq1, ht]
            dsimp only
            rw [hn, hi, hj]
          | some j =>
            by_cases hq : y = y' ∧ lk y sc.names = some .local ∧ lk z sc.names = some .local ∧ y ≠ z ∧ (lk c C.G.clss).isSome = true
            · obtain ⟨rfl, ly, lz, hyz, hd⟩ := id hq
              obtain ⟨d, hd⟩ := Option.isSome_iff_exists.mp hd
              refine ps_of (g_try (fs := fun e h => eSs C X.N n body sc e h) D G Z hd (G.gl hn) (idx_at hi) (idx_at hj) (by rw [← lk_lookup]; exact ly) (by rw [← lk_lookup]; exact lz) hyz fun W' pn xe tk own => ?_) fun e h => ?_
              · exact B.ss (X.tr pn xe) sc W' ⟨D.sf, D.df, D.rm⟩ ⟨G.nd, G.dbg, G.calm, G.gd, G.un, ⟨G.sc.loc, G.sc.cell, G.sc.free, G.sc.glo, G.sc.st⟩, tk, G.gn⟩ ⟨Z.eq, Z.bk, own, Z.ex, Z.st, Z.fr⟩ E body
              · rw [eq1, ht]
                dsimp only
                rw [hn, hi, hj]
                dsimp only
                rw [if_pos hq]
            · refine ps_of ps_no fun e h => ?_
              rw [eq1, ht]
              dsimp only
              rw [hn, hi, hj]
              dsimp only
              rw [if_neg hq]
      | loc i =>
        refine ps_of ps_no fun e h => ?_
        rw [eq1, ht]
        dsimp only
        rw [hn]
      | no =>
        refine ps_of ps_no fun e h => ?_
        rw [eq1, ht]
        dsimp only
        rw [hn]
  | _ => exact ps_no
end
theorem bs_succ (L : LenOk C) (hk : 1 ≤ kk) {n : Nat} (B : BS C ca fa kk n) : BS C ca fa kk (n + 1) where
  s := fun X sc W D G Z E st => sb_s L hk B D G Z E st
  ss := fun X sc W D G Z E ss => sb_ss L hk B D G Z E ss
  tg := fun X sc W D G ts => sb_tg L hk B D G ts
theorem bs_all (L : LenOk C) (hk : 1 ≤ kk) : ∀ n, BS C ca fa kk n
  | 0 => bs_zero
  | n + 1 => bs_succ L hk (bs_all L hk n)
end
end Sd
end T_Sd23
section T_Sd24
set_option linter.all false
set_option maxRecDepth 100000
set_option maxHeartbeats 4000000
/-! Sd24: a def is as the evaluator tells. -/
namespace Sd
open PySem PySem.Spec PyProof.Rows L2 Ev
/-- the evaluator's text -/
structure TXT (P : Program) (K : PySem.W.Frag) (mg : Str → Option Value) (G : Glob) (ca fa : Str → Addr) : Prop where
  sf : SF K mg G ca fa
  ex : EX P K mg G ca
  gn : ∀ call, GFn mg K ⟨G, call⟩ ca
theorem callD_len (G : Glob) (d : Nat) : LenOk ⟨G, callD G d⟩ := by
  intro f vs h1 hl
  cases d with
  | zero => rfl
  | succ d =>
    show (match lk f G.fns with
      | none => none
      | some fd => if vs.length = fd.ps.length then endS (eSs ⟨G, callD G d⟩ fd.N TF fd.body fd.scope (startE fd.N vs) h1) else none) = none
    cases hf : lk f G.fns with
    | none => rfl
    | some fd => exact if_neg (hl fd hf)
theorem RE.start {K : PySem.W.Frag} {ca : Str → Addr} {ρ : List Addr} {H : Hp} {N : List Str} {xs : List MV} {vs : List V} (r : RVs K ca ρ H xs vs) : RE K ca ρ H (startE N xs) (L2.start N vs) := by
  have hl := r.length
  refine ⟨?_, fun i v q => ?_⟩
  · unfold startE L2.start
    rw [List.length_append, List.length_append, List.length_map, List.length_map, List.length_replicate, List.length_replicate, hl]
  · unfold startE at q
    unfold L2.start
    by_cases hi : i < xs.length
    · rw [List.getElem?_append_left (by rw [List.length_map]; exact hi), List.getElem?_map] at q
      cases hx : xs[i]? with
      | none => rw [hx] at q; cases q
      | some x =>
        rw [hx] at q
        cases q
        obtain ⟨w, h1, h2⟩ := r.get hx
        exact ⟨w, by rw [List.getElem?_append_left (by rw [List.length_map, ← hl]; exact hi), List.getElem?_map, h1]; rfl, h2⟩
    · rw [List.getElem?_append_right (by rw [List.length_map]; omega), List.getElem?_replicate] at q
      split at q <;> cases q
theorem OutSK.ofEnd {K : PySem.W.Frag} {ca : Str → Addr} {ρ : List Addr} {H : Hp} {o : Option OutS} {Q : VK} {E : XK} (k : OutK K ca (RV K ca) ρ H (endS o) Q E) : OutSK K ca ρ H o { nx := fun _ H' => Q .non H', rt := Q } (fun c d _ H' => E c d H') := by
  cases o with
  | none => exact k
  | some o =>
    cases o with
    | nx e1 h1 => exact fun ρ' H' σ' g S re => k ρ' H' .non g S .non
    | rt v h1 => exact fun ρ' H' u g S rv => k ρ' H' u g S rv
    | bk e1 h1 => exact k.elim
    | ct e1 h1 => exact k.elim
    | exc x e1 h1 => exact fun ρ' H' σ' c d g S re rx => k ρ' H' c d g S rx
/-- the depth that a def may take -/
def kD (d : Nat) : Nat := 2 * d + 1
theorem fns_ok {P : Program} {w : World} {K : PySem.W.Frag} {mg : Str → Option Value} {base : Heap} {G : Glob} {ca fa : Str → Addr} (T : TXT P K mg G ca fa) : ∀ (d : Nat) (f : Str) (fd : FnD), lk f G.fns = some fd →
    FnG P w K mg base (kD d) (fa f) (fdOf K (fa f)) fd.ps (spC K ca (callD G d) f fd.ps)
  | 0, f, fd, hf => ⟨fun vs H Q E h => h.1, fun A outer s H args us vs Q E hr hgd e0 hb r ⟨_, ρ, h, xs, S, rv, k⟩ => k.elim⟩
  | d + 1, f, fd, hf => by
    obtain ⟨x, qual, params, kws, hF, hS, hB, hd1, hd2⟩ := T.sf.fn f fd hf
    refine FnG.mono (fn_ofG (k := kD d + 1) hF hS (fun vs H Q E h => h.1) fun cdv A outer s H vs Q E hr hgd hsp => ?_) (by unfold kD; omega)
    obtain ⟨hl, ρ, h, xs, S, rv, k⟩ := hsp
    let X := cxOf (L2.CX P w) P w K mg base fd.N qual fd.scope (fa f) cdv A outer s H E
    let C : Cxt := ⟨G, callD G d⟩
    have L : LenOk C := callD_len G d
    have D : XC X C ca fa (kD d) := ⟨T.sf, fun f' fd' hf' => fns_ok T d f' fd' hf', hr⟩
    have tk : Takes X (fun c d _ H' => E c d H') := takes_of (X := X) rfl rfl rfl rfl
    have Gx : XG X C ca fd.scope (fun c d _ H' => E c d H') := {
      nd := hS.nd
      dbg := ⟨hd1, hd2⟩
      calm := rfl
      gd := hgd
      un := by
        have := hr.un
        show (A.deeper _).units + 70 < cLine
        omega
      sc := ⟨fun y z => z, fun y z => z, fun y z => .inr z, fun y z => z, fun y z => rfl⟩
      tk := tk
      gn := T.gn _ }
    have bk : X.env.blockKind = .function := by
      have hk : X.env.scope.kind = .function := hS.kind
      simp only [Env.blockKind, hk, ScopeKind.isAnnotationScope, Bool.false_eq_true, if_false]
    have Zx : XS X fd.scope := ⟨rfl, bk, passes_of (X := X) rfl, rfl, rfl, rfl⟩
    have B : BS C ca fa (kD d) TF := bs_all L (by unfold kD; omega) TF
    refine ⟨_, B.ss X fd.scope _ D Gx Zx T.ex fd.body, ρ, h, startE fd.N xs, S, RE.start rv, ?_⟩
    refine OutSK.ofEnd ?_
    have hc : callD G (d + 1) f xs h = endS (eSs C fd.N TF fd.body fd.scope (startE fd.N xs) h) := by
      show (match lk f G.fns with
        | none => none
        | some fd => if xs.length = fd.ps.length then endS (eSs ⟨G, callD G d⟩ fd.N TF fd.body fd.scope (startE fd.N xs) h) else none) = _
      rw [hf]
      exact if_pos (by rw [rv.length, hl])
    rw [hc] at k
    exact k
end Sd
end T_Sd24
section T_Hd
set_option linter.all false
set_option maxRecDepth 100000
set_option maxHeartbeats 4000000
/-! Hd: parameters bound. -/
namespace Sd
open PySem PySem.Spec PyProof.Rows L2 Ev
theorem zip_look1 : ∀ {ps : List Str} {us : List Value}, ps.Nodup → us.length = ps.length → ∀ n ∈ ps, ((ps.zip us).lookup n).isSome = true
  | [], _, _, _, n, h => nomatch h
  | p :: ps, [], _, hl, n, h => by cases hl
  | p :: ps, u :: us, nd, hl, n, h => by
    rw [List.zip_cons_cons, List.lookup_cons]
    by_cases e : n = p
    · subst e
      simp
    · have e2 : (n == p) = false := by simpa using e
      rw [e2]
      exact zip_look1 (List.nodup_cons.mp nd).2 (by simpa using hl) n ((List.mem_cons.mp h).resolve_left e)
theorem zip_fm (z : List (Str × Value)) : ∀ {ps : List Str} {us : List Value}, ps.Nodup → us.length = ps.length → (∀ n v, (n, v) ∈ ps.zip us → z.lookup n = some v) → (ps.filterMap fun n => (z.lookup n).map fun v => (n, v)) = ps.zip us
  | [], us, _, _, _ => rfl
  | p :: ps, [], _, hl, _ => by cases hl
  | p :: ps, u :: us, nd, hl, h => by
    have h1 := h p u (by rw [List.zip_cons_cons]; exact List.mem_cons_self ..)
    rw [List.filterMap_cons, h1, List.zip_cons_cons]
    show (p, u) :: _ = _
    rw [zip_fm z (List.nodup_cons.mp nd).2 (by simpa using hl) fun n v hm => h n v (by rw [List.zip_cons_cons]; exact List.mem_cons_of_mem _ hm)]
theorem zip_look2 : ∀ {ps : List Str} {us : List Value}, ps.Nodup → ∀ n v, (n, v) ∈ ps.zip us → (ps.zip us).lookup n = some v
  | [], us, _, n, v, h => by simp at h
  | p :: ps, [], _, n, v, h => by simp at h
  | p :: ps, u :: us, nd, n, v, h => by
    rw [List.zip_cons_cons] at h ⊢
    rw [List.lookup_cons]
    rcases List.mem_cons.mp h with e | h
    · cases e
      simp
    · have e : n ≠ p := fun z => (List.nodup_cons.mp nd).1 (by rw [← z]; exact (List.of_mem_zip h).1)
      have e2 : (n == p) = false := by simpa using e
      rw [e2]
      exact zip_look2 (List.nodup_cons.mp nd).2 n v h
/-- plain parameters -/
def parB (a : Arguments) (ps : List Str) : Bool := a.posonlyargs.isEmpty && a.vararg.isNone && a.kwonlyargs.isEmpty && a.kwarg.isNone && decide (a.args.map (·.arg) = ps) && decide ps.Nodup
theorem binds_par {x qual : Str} {a : Arguments} {ps : List Str} {body : List Stmt} {scope : Scope} {kV doc pm : Value} {an : Option Addr} {cdv ct : Value} {us : List Value} (h : parB a ps = true) (hl : us.length = ps.length) :
    bindArgs (PySem.W.fnOf x qual a body scope .none kV doc pm an cdv ct) ⟨us, []⟩ = pure (ps.zip us) := by
  obtain ⟨po, ar, va, ko, kd, kw, df⟩ := a
  unfold parB at h
  simp only [Bool.and_eq_true, decide_eq_true_eq, List.isEmpty_iff, Option.isNone_iff_eq_none] at h
  obtain ⟨⟨⟨⟨⟨rfl, rfl⟩, rfl⟩, rfl⟩, rfl⟩, nd⟩ := h
  have nd : (ar.map (·.arg)).Nodup := nd
  have hl : us.length = (ar.map (·.arg)).length := hl
  have hs : seqItems? Value.none = pure none := rfl
  have hm : (ar.map (·.arg)).filter (fun n => (((ar.map (·.arg)).zip us).lookup n).isNone) = [] := List.filter_eq_nil_iff.mpr fun n hn => by
    have := zip_look1 nd hl n hn
    rw [Option.isNone_iff_eq_none]
    intro z
    rw [z] at this
    cases this
  have hf := zip_fm ((ar.map (·.arg)).zip us) nd hl (zip_look2 nd)
  unfold bindArgs
  generalize hps : ar.map (·.arg) = ps at *
  simp only [hps, List.map_nil, List.nil_append, List.append_nil, List.forIn_nil, pure_bind, hs, Option.getD_none, List.length_nil, List.drop_nil, Nat.sub_zero, List.take_length, List.zip_nil_right, hl, gt_iff_lt, Nat.lt_irrefl, decide_false, Bool.false_and, Bool.false_eq_true, if_false, hm, List.isEmpty_nil, Bool.not_true, List.drop_length]
  rw [hf]
end Sd
end T_Hd
section T_Hd2
set_option linter.all false
set_option maxRecDepth 100000
set_option maxHeartbeats 4000000
/-! Hd2: the text's facts by one Boolean. -/
namespace Sd
open PySem PySem.Spec PyProof.Rows L2 Ev
/-- where a def's object stands -/
def adAt (K : PySem.W.Frag) : Ad → Addr
  | .glo x => He.ga K x
  | .me c m => He.ma K (He.ga K c) m
  | .pr c p => (match PySem.W.recIn K (He.ma K (He.ga K c) p) "property" with
    | some (.ref g :: _) => g
    | _ => 0)
def dsLk (f : Str) : List DfE → Option DfE
  | [] => none
  | d :: r => if f = d.key then some d else dsLk f r
def faOf (K : PySem.W.Frag) (DS : List DfE) (f : Str) : Addr := match dsLk f DS with
  | some d => adAt K d.ad
  | none => 0
theorem lk_ds {f : Str} {fd : Ev.FnD} : ∀ {DS : List DfE}, lk f (DS.map DfE.fn) = some fd → ∃ d ∈ DS, dsLk f DS = some d ∧ d.key = f ∧ fd = d.fn.2
  | [], h => by cases h
  | d :: r, h => by
    have h : (if f = d.key then some d.fn.2 else lk f (r.map DfE.fn)) = some fd := h
    unfold dsLk
    by_cases e : f = d.key
    · rw [if_pos e] at h ⊢
      cases h
      exact ⟨d, List.mem_cons_self .., rfl, e.symm, rfl⟩
    · rw [if_neg e] at h ⊢
      obtain ⟨d', h1, h2, h3, h4⟩ := lk_ds h
      exact ⟨d', List.mem_cons_of_mem _ h1, h2, h3, h4⟩
theorem lk_mem {α : Type} {x : Str} {a : α} : ∀ {l : List (Str × α)}, lk x l = some a → (x, a) ∈ l
  | [], h => by cases h
  | (y, b) :: r, h => by
    have h : (if x = y then some b else lk x r) = some a := h
    by_cases e : x = y
    · rw [if_pos e] at h
      cases h
      rw [e]
      exact List.mem_cons_self ..
    · rw [if_neg e] at h
      exact List.mem_cons_of_mem _ (lk_mem h)
abbrev FnQ : Type := Option (Str × Str × Arguments × FuncBody × Scope × Addr × List Str × Addr)
def fnQ (K : PySem.W.Frag) (a : Addr) : FnQ := match K.lookup a with
  | some ⟨_, _, .func fd, _⟩ => some (fd.name, fd.qualname, fd.params, fd.body, fd.scope, fd.globals, fd.closure.map (·.1), fd.builtins)
  | _ => none
def valQ (d : DfE) : FnQ := some (d.name, d.qual, defArgs d.st, .stmts (defBody d.st), defScope d.st, mainGlobals, [], builtinsNs)
def fnB (K : PySem.W.Frag) (d : DfE) : Bool := PySem.W.keepIn K (.ref (adAt K d.ad)) && (match K.lookup (adAt K d.ad) with
  | some ⟨_, _, .func fd, _⟩ => PySem.W.codeIn K fd.code d.qual && (He.dflB K fd.defaults [] && He.kwdB K fd.kwdefaults [])
  | _ => false)
theorem fn_d {K : PySem.W.Frag} {d : DfE} (e : fnQ K (adAt K d.ad) = valQ d) (c : fnB K d = true) : FunD K d.name d.qual (defArgs d.st) (defBody d.st) (defScope d.st) [] [] (adAt K d.ad) (fdOf K (adAt K d.ad)) := by
  obtain ⟨kp, c2⟩ := He.ba c
  unfold fnQ at e
  unfold fdOf
  cases q : K.lookup (adAt K d.ad) with
  | none =>
    rw [q] at c2
    cases c2
  | some o =>
    obtain ⟨oc, od, dt, osl⟩ := o
    rw [q] at c2 e
    cases dt with
    | func fd =>
      obtain ⟨n1, n2, n3, n4, n5, n6, n7, n8, n9, n10, n11, n12, n13, n14, n15⟩ := fd
      have e2 : (some (n1, n2, n3, n4, n5, n6, n7.map (·.1), n15) : FnQ) = some (d.name, d.qual, defArgs d.st, .stmts (defBody d.st), defScope d.st, mainGlobals, [], builtinsNs) := e
      simp only [Option.some.injEq, Prod.mk.injEq, List.map_eq_nil_iff] at e2
      obtain ⟨h1, h2, h3, h4, h5, h6, h7, h8⟩ := e2
      subst h1 h2 h3 h4 h5 h6 h7 h8
      have c3 : (PySem.W.codeIn K n13 d.qual && (He.dflB K n8 [] && He.kwdB K n9 [])) = true := c2
      obtain ⟨k1, k2⟩ := He.ba c3
      obtain ⟨k3, k4⟩ := He.ba k2
      exact ⟨⟨oc, od, n8, n9, n10, n11, n12, n13, n14, osl, rfl, q, k1, He.dflB_ok k3, He.kwdB_ok k4⟩, kp⟩
    | _ => cases c2
/-- what is decided of a def without the heap -/
def scB (N ps : List Str) (sc : Scope) : Bool :=
  decide (sc.kind = .function) && !sc.isCoroutine && !sc.isGenerator && decide N.Nodup && decide (N.take ps.length = ps) && ps.all (fun x => decide (sc.names.lookup x = some .local ∨ sc.names.lookup x = some .cell)) && sc.names.all (fun y => !decide (y.2 = .free))
theorem scope_by {N ps : List Str} {sc : Scope} (h : scB N ps sc = true) : FnScope N ps sc := by
  unfold scB at h
  simp only [Bool.and_eq_true, Bool.not_eq_true', decide_eq_true_eq, List.all_eq_true, decide_eq_false_iff_not] at h
  obtain ⟨⟨⟨⟨⟨⟨h1, h2⟩, h3⟩, h4⟩, h5⟩, h6⟩, h7⟩ := h
  exact ⟨h1, h2, h3, h4, h5, h6, h7⟩
def stB (d : DfE) : Bool := scB d.N d.ps (defScope d.st) && parB (defArgs d.st) d.ps && !d.N.contains "__debug__" && !d.N.contains "__classdict__" && !(d.key == ("__debug__" : Str))
def gloB (K : PySem.W.Frag) (x : Str) (a : Addr) : Bool := He.eqO (PySem.W.nsIn K mainGlobals x) (some (some (.ref a))) && decide (x ≠ ("__debug__" : Str))
/-- all names of methods, of properties, along a class's line -/
def mNames (G : Glob) (mro : List Str) : List Str := mro.flatMap fun c => match lk c G.clss with
  | some d => d.meths.map (·.1)
  | none => []
def pNames (G : Glob) (mro : List Str) : List Str := mro.flatMap fun c => match lk c G.clss with
  | some d => d.props.map (·.1)
  | none => []
theorem findM_mem {G : Glob} {m k : Str} : ∀ {mro : List Str}, findM G m mro = some k → m ∈ mNames G mro
  | [], h => by cases h
  | c :: r, h => by
    unfold findM at h
    unfold mNames
    rw [List.flatMap_cons, List.mem_append]
    split at h
    · rename_i d hd
      split at h
      · rename_i k' hk
        left
        try rw [hd]
        exact List.mem_map.mpr ⟨_, lk_mem hk, rfl⟩
      · exact .inr (findM_mem h)
    · exact .inr (findM_mem h)
theorem findP_mem {G : Glob} {m k : Str} : ∀ {mro : List Str}, findP G m mro = some k → m ∈ pNames G mro
  | [], h => by cases h
  | c :: r, h => by
    unfold findP at h
    unfold pNames
    rw [List.flatMap_cons, List.mem_append]
    split at h
    · rename_i d hd
      split at h
      · rename_i k' hk
        left
        try rw [hd]
        exact List.mem_map.mpr ⟨_, lk_mem hk, rfl⟩
      · exact .inr (findP_mem h)
    · exact .inr (findP_mem h)
def methB (K : PySem.W.Frag) (C : Addr) (m : Str) (f : Addr) : Bool := He.eqO (PySem.W.findIn K (.ref C) m) (some (some (.ref f))) && (PySem.W.isFn K (.ref f) && PySem.W.keepIn K (.ref f))
theorem methB_ok {K : PySem.W.Frag} {C : Addr} {m : Str} {f : Addr} (h : methB K C m f = true) : Meth K C m f := by
  obtain ⟨h1, h⟩ := He.ba h
  obtain ⟨h2, h3⟩ := He.ba h
  exact ⟨He.eqO_ok h1, h2, h3⟩
def propB (K : PySem.W.Frag) (C : Addr) (f : Str) (g : Addr) : Bool := match PySem.W.findIn K (.ref C) f with
  | some (some (.ref p)) => He.eqO (PySem.W.specialIn K (.ref p) "__get__") (some (some (.builtin "property.__get__"))) && (decide (PySem.W.takesIn K (.ref p) = some true) && (match PySem.W.recIn K p "property" with
    | some (.ref g' :: _) => decide (g' = g)
    | _ => false))
  | _ => false
theorem propB_ok {K : PySem.W.Frag} {C : Addr} {f : Str} {g : Addr} (h : propB K C f g = true) : ∃ p, PropOf K C f p g := by
  unfold propB at h
  split at h
  · rename_i p hp
    obtain ⟨h1, h⟩ := He.ba h
    obtain ⟨h2, h3⟩ := He.ba h
    split at h3
    · rename_i g' rest hr
      have := of_decide_eq_true h3
      subst this
      exact ⟨p, hp, He.eqO_ok h1, of_decide_eq_true h2, rest, hr⟩
    · cases h3
  · cases h
def mkrB (K : PySem.W.Frag) (C f : Addr) : Bool := PySem.W.makesIn K C && (He.eqO (PySem.W.findIn K (.ref C) "__init__") (some (some (.ref f))) && (PySem.W.isFn K (.ref f) && PySem.W.keepIn K (.ref C)))
theorem mkrB_ok {K : PySem.W.Frag} {C f : Addr} (h : mkrB K C f = true) : Mk K C f := by
  obtain ⟨h1, h⟩ := He.ba h
  obtain ⟨h2, h⟩ := He.ba h
  obtain ⟨h3, h4⟩ := He.ba h
  exact ⟨h1, He.eqO_ok h2, h3, h4⟩
def clsB (K : PySem.W.Frag) (G : Glob) (DS : List DfE) (c : Str) (d : ClsD) : Bool :=
  (He.Fa.cls c).ok K &&
  ((match findM G "__init__" d.mro with
    | some k => mkrB K (He.ga K c) (faOf K DS k)
    | none => true) &&
  ((mNames G d.mro).all (fun m => match findM G m d.mro with
    | some k => methB K (He.ga K c) m (faOf K DS k)
    | none => true) &&
  ((pNames G d.mro).all (fun m => match findP G m d.mro with
    | some k => propB K (He.ga K c) m (faOf K DS k)
    | none => true) &&
  (d.flds.all (fun f => He.eqO (PySem.W.findIn K (.ref (He.ga K c)) f) (some none)) &&
  (He.eqO (PySem.W.findIn K (.ref (He.ga K c)) "__ne__") (some (some (.builtin "object.__ne__"))) &&
  (decide (PySem.W.mroIn K (He.ga K c) (.type "object") = some true) &&
  He.eqO (PySem.W.findIn K (.ref (He.ga K c)) "__class__") (some (some (.builtin "object.__class__")))))))))
theorem clsB_ok {K : PySem.W.Frag} {G : Glob} {DS : List DfE} {mg : Str → Option Value} {c : Str} {d : ClsD} (h : clsB K G DS c d = true) (hm : mg c = some (.ref (He.ga K c)) ∧ c ≠ "__debug__")
    (kw : ∀ n ks k d', (c, n, ks) ∈ G.kws → findM G "__init__" d.mro = some k → lk k G.fns = some d' → ∀ (s : Shared) (us ws : List Value), K.In s.heap → us.length = n + 1 → ws.length = ks.length →
      BindsTo s (fdOf K (faOf K DS k)) ⟨us, ks.zip ws⟩ (d'.ps.zip (us ++ ws))) : ClsF K mg G (He.ga K) (faOf K DS) c d := by
  obtain ⟨h1, h⟩ := He.ba h
  obtain ⟨h2, h⟩ := He.ba h
  obtain ⟨h3, h⟩ := He.ba h
  obtain ⟨h4, h⟩ := He.ba h
  obtain ⟨h5, h⟩ := He.ba h
  obtain ⟨h6, h⟩ := He.ba h
  obtain ⟨h7, h8⟩ := He.ba h
  refine ⟨hm, He.cls_ok h1, fun k hk => ?_, fun m k hk => ?_, fun f k hk => ?_, fun f hf => He.eqO_ok (List.all_eq_true.mp h5 f hf), He.eqO_ok h6, of_decide_eq_true h7, He.eqO_ok h8, kw⟩
  · rw [hk] at h2
    exact mkrB_ok h2
  · have z := List.all_eq_true.mp h3 m (findM_mem hk)
    rw [hk] at z
    exact methB_ok z
  · have z := List.all_eq_true.mp h4 f (findP_mem hk)
    rw [hk] at z
    exact propB_ok z
def excB (K : PySem.W.Frag) (C : Addr) : Bool :=
  He.eqO (PySem.W.findIn K (.ref C) "__getattribute__") (some (some (.builtin "BaseException.__getattribute__"))) && (He.eqO (PySem.W.findIn K (.ref C) "__getattr__") (some none) &&
  (decide (PySem.W.subIn K (.ref C) (.type "BaseException") = some true) && (PySem.W.hasDictIn K C && (He.eqO (PySem.W.findIn K (.ref C) "__class__") (some (some (.builtin "object.__class__"))) &&
  (He.eqO (PySem.W.findIn K (.ref C) "value") (some none) && (decide (PySem.W.mroIn K C (.type "object") = some true) && decide (PySem.W.typeIn K (.ref C) = some (.type "type"))))))))
theorem excB_ok {K : PySem.W.Frag} {ca : Str → Addr} {c : Str} (h : excB K (ca c) = true) : ExcF K ca c := by
  obtain ⟨h1, h⟩ := He.ba h
  obtain ⟨h2, h⟩ := He.ba h
  obtain ⟨h3, h⟩ := He.ba h
  obtain ⟨h4, h⟩ := He.ba h
  obtain ⟨h5, h⟩ := He.ba h
  obtain ⟨h6, h⟩ := He.ba h
  obtain ⟨h7, h8⟩ := He.ba h
  exact ⟨He.eqO_ok h1, He.eqO_ok h2, of_decide_eq_true h3, h4, He.eqO_ok h5, He.eqO_ok h6, of_decide_eq_true h7, of_decide_eq_true h8⟩
def cNames (G : Glob) : List Str := G.clss.map (·.1) ++ bTys
theorem isCN_mem {G : Glob} {c : Str} (h : isCN G c = true) : c ∈ cNames G := by
  unfold isCN at h
  unfold cNames
  rw [List.mem_append]
  rw [Bool.or_eq_true] at h
  rcases h with h | h
  · obtain ⟨d, hd⟩ := Option.isSome_iff_exists.mp h
    exact .inl (List.mem_map.mpr ⟨_, lk_mem hd, rfl⟩)
  · exact .inr (List.contains_iff_mem.mp h)
/-- the text's Boolean -/
def sfB (K : PySem.W.Frag) (G : Glob) (DS : List DfE) : Bool :=
  DS.all (fun d => fnB K d) &&
  (DS.all (fun d => !d.top || gloB K d.key (adAt K d.ad)) &&
  (G.clss.all (fun q => if q.2.isExc = true then excB K (He.ga K q.1) else clsB K G DS q.1 q.2) &&
  (G.clss.all (fun q => gloB K q.1 (He.ga K q.1)) &&
  (He.eqO (PySem.W.specialIn K (.builtin "object.__class__") "__get__") (some (some (.builtin "getset_descriptor.__get__"))) &&
  (decide (PySem.W.takesIn K (.builtin "object.__class__") = some true) &&
  (tyRows.all (fun q => (cNames G).all fun c => decide (PySem.W.kitOne K (.type q.1) (valC G (He.ga K) c) = some (q.2.contains c))) &&
  (G.clss.all (fun q => (cNames G).all fun c => decide (PySem.W.kitOne K (.ref (He.ga K q.1)) (valC G (He.ga K) c) = some (q.2.mro.contains c))) &&
  G.clss.all (fun q => G.clss.all fun r => !q.2.isExc || (!r.2.isExc || decide (PySem.W.exmOne K (.ref (He.ga K q.1)) (.ref (He.ga K r.1)) = some (q.2.mro.contains r.1)))))))))))
theorem sf_of {K : PySem.W.Frag} {h : Heap} {mg : Str → Option Value} {G : Glob} {DS : List DfE} (X : K.In h) (Gm : h.Ns mainGlobals mg) (hG : G.fns = DS.map DfE.fn) (hst : DS.all stB = true)
    (ho : DS.map (fun d => fnQ K (adAt K d.ad)) = DS.map valQ) (hb : sfB K G DS = true)
    (kw : ∀ c n ks k d', (c, n, ks) ∈ G.kws → (∃ d, lk c G.clss = some d ∧ findM G "__init__" d.mro = some k) → lk k G.fns = some d' → ∀ (s : Shared) (us ws : List Value), K.In s.heap → us.length = n + 1 → ws.length = ks.length →
      BindsTo s (fdOf K (faOf K DS k)) ⟨us, ks.zip ws⟩ (d'.ps.zip (us ++ ws))) : SF K mg G (He.ga K) (faOf K DS) := by
  obtain ⟨b1, hb⟩ := He.ba hb
  obtain ⟨b2, hb⟩ := He.ba hb
  obtain ⟨b3, hb⟩ := He.ba hb
  obtain ⟨b4, hb⟩ := He.ba hb
  obtain ⟨b5, hb⟩ := He.ba hb
  obtain ⟨b6, hb⟩ := He.ba hb
  obtain ⟨b7, hb⟩ := He.ba hb
  obtain ⟨b8, b9⟩ := He.ba hb
  have fa_at : ∀ {f : Str} {d : DfE}, dsLk f DS = some d → faOf K DS f = adAt K d.ad := fun {f d} e => by
    unfold faOf
    rw [e]
  have val : ∀ d ∈ DS, fnQ K (adAt K d.ad) = valQ d := fun d hd => by
    obtain ⟨i, hi⟩ := List.mem_iff_getElem?.mp hd
    have e2 : (DS.map fun d => fnQ K (adAt K d.ad))[i]? = (DS.map valQ)[i]? := by rw [ho]
    rw [List.getElem?_map, List.getElem?_map, hi] at e2
    exact Option.some.inj e2
  have glo : ∀ {x : Str} {a : Addr}, gloB K x a = true → mg x = some (.ref a) ∧ x ≠ "__debug__" := fun {x a} e => by
    obtain ⟨e1, e2⟩ := He.ba e
    exact ⟨PySem.W.mg_of X Gm (He.eqO_ok e1), of_decide_eq_true e2⟩
  refine ⟨fun f d hf => ?_, fun f d hf ht => ?_, fun c d hc hx => ?_, fun c d hc hx => ?_, fun c d hc => ?_, He.eqO_ok b5, of_decide_eq_true b6, fun q hq c hc => ?_, fun c0 d0 h0 c hc => ?_, fun c0 d0 h0 hx0 c d hc hx => ?_⟩
  · rw [hG] at hf
    obtain ⟨e, hm, hl, rfl, rfl⟩ := lk_ds hf
    have st := List.all_eq_true.mp hst e hm
    unfold stB at st
    simp only [Bool.and_eq_true, Bool.not_eq_true'] at st
    obtain ⟨⟨⟨⟨s1, s2⟩, s3⟩, s4⟩, s5⟩ := st
    have FD := fn_d (val e hm) (List.all_eq_true.mp b1 e hm)
    rw [fa_at hl]
    refine ⟨_, _, _, _, FD, scope_by s1, FD.bindsN fun kV doc pm an cdv ct us hl => binds_par s2 hl, fun z => ?_, fun z => ?_⟩
    · have z : ("__debug__" : Str) ∈ e.N := z
      rw [List.contains_iff_mem.mpr z] at s3
      cases s3
    · have z : ("__classdict__" : Str) ∈ e.N := z
      rw [List.contains_iff_mem.mpr z] at s4
      cases s4
  · rw [hG] at hf
    obtain ⟨e, hm, hl, rfl, rfl⟩ := lk_ds hf
    rw [fa_at hl]
    have z := List.all_eq_true.mp b2 e hm
    have ht : e.top = true := ht
    rw [ht] at z
    exact glo (by simpa using z)
  · have z := List.all_eq_true.mp b3 _ (lk_mem hc)
    dsimp only at z
    rw [if_neg (by rw [hx]; decide)] at z
    exact clsB_ok z (glo (List.all_eq_true.mp b4 _ (lk_mem hc))) fun n ks k d' h1 h2 h3 => kw c n ks k d' h1 ⟨d, hc, h2⟩ h3
  · have z := List.all_eq_true.mp b3 _ (lk_mem hc)
    dsimp only at z
    rw [if_pos hx] at z
    exact excB_ok z
  · exact glo (List.all_eq_true.mp b4 _ (lk_mem hc))
  · exact of_decide_eq_true (List.all_eq_true.mp (List.all_eq_true.mp b7 q hq) c (isCN_mem hc))
  · exact of_decide_eq_true (List.all_eq_true.mp (List.all_eq_true.mp b8 _ (lk_mem h0)) c (isCN_mem hc))
  · have z := List.all_eq_true.mp (List.all_eq_true.mp b9 _ (lk_mem h0)) _ (lk_mem hc)
    dsimp only at z
    rw [hx0, hx] at z
    simpa using z
end Sd
end T_Hd2
section T_Hd3
set_option linter.all false
set_option maxRecDepth 100000
set_option maxHeartbeats 4000000
/-! Hd3: the exceptions' facts, the constants; the Hook; the end. -/
namespace Sd
open PySem PySem.Spec PyProof.Rows L2 Ev
/-- the exceptions' base: its name, its __init__ -/
structure XB where
  c : Str
  qual : Str
  st : Stmt
def xI (K : PySem.W.Frag) (x : XB) : Addr := He.ma K (He.ga K x.c) "__init__"
def xCell (K : PySem.W.Frag) (a : Addr) : Addr := match K.lookup a with
  | some ⟨_, _, .func fd, _⟩ => (match fd.closure with
    | [(_, c)] => c
    | _ => 0)
  | _ => 0
def xCode (K : PySem.W.Frag) (a : Addr) : Addr := match K.lookup a with
  | some ⟨_, _, .func fd, _⟩ => (match fd.code with
    | .ref c => c
    | _ => 0)
  | _ => 0
def valX (x : XB) : FnQ := some ("__init__", x.qual, defArgs x.st, .stmts (defBody x.st), defScope x.st, mainGlobals, ["__class__"], builtinsNs)
/-- what is decided of the base without the heap -/
def xStB (P : Program) (x : XB) : Bool := decide (((defArgs x.st).posonlyargs ++ (defArgs x.st).args).head?.map (·.arg) = some ("self" : Str)) && (parB (defArgs x.st) ["self", "value"] &&
  (!(P.main.scope.names.lookup ("super" : Str)).isSome && (NdefX.nscB ["self", "value", "__class__"] ["self", "value"] ["__class__"] (defScope x.st) && decide ((defScope x.st).names.lookup ("super" : Str) = some .globalImplicit))))
def oexB (K : PySem.W.Frag) (C : Addr) : Bool := (match K.lookup C with
  | some ⟨.type "type", _, .cls cd, sl⟩ => (match cd.mro, sl.toList with
    | .ref C' :: bm, [_, _, _, _, some (.builtin n), _] => decide (C' = C) && (decide (n = "ValueError.__new__") && (!cd.hasDel && (cd.hasDict && PySem.HandSPX.refsVE bm)))
    | _, _ => false)
  | _ => false) && (He.eqO (PySem.W.findIn K (.ref C) "__setattr__") (some (some (.builtin "object.__setattr__"))) && (decide (PySem.W.subIn K (.ref C) (.type "BaseException") = some true) &&
    (decide (PySem.W.typeIn K (.ref C) = some (.type "type")) && PySem.W.keepIn K (.ref C))))
theorem oexB_ok {K : PySem.W.Frag} {C : Addr} (h : oexB K C = true) : OexC K C := by
  obtain ⟨h1, h⟩ := He.ba h
  obtain ⟨h2, h⟩ := He.ba h
  obtain ⟨h3, h⟩ := He.ba h
  obtain ⟨h4, h5⟩ := He.ba h
  refine ⟨?_, He.eqO_ok h2, of_decide_eq_true h3, of_decide_eq_true h4, h5⟩
  split at h1
  · rename_i dd cd sl hl
    split at h1
    · rename_i C' bm k0 k1 k2 k3 n k5 hm hs
      obtain ⟨e2, h1⟩ := He.ba h1
      obtain ⟨e3, h1⟩ := He.ba h1
      obtain ⟨e4, h1⟩ := He.ba h1
      obtain ⟨e5, e6⟩ := He.ba h1
      have e2 := of_decide_eq_true e2
      have e3 := of_decide_eq_true e3
      subst e3
      obtain ⟨nm, bs, mro, ns, qn, hd, sn, sb, ab, col, del⟩ := cd
      dsimp only at hm e4 e5
      subst hm e5 e2
      have e4 : del = false := by simpa using e4
      subst e4
      refine ⟨nm, qn, ns, bs, bm, sn, sb, ab, col, dd, k0, k1, k2, k3, k5, ?_, e6⟩
      rw [hl]
      obtain ⟨sl⟩ := sl
      have hs : sl = _ := hs
      rw [hs]
    · cases h1
  · cases h1
def supB (K : PySem.W.Frag) (D C fI : Addr) : Bool := oexB K C && (decide (PySem.W.mroIn K C (.ref D) = some true) && (He.eqO (PySem.W.ks_superIn K C D "__init__") (some (some (.builtin "ValueError.__init__"))) &&
    (decide (PySem.W.subIn K (.ref C) (.type "ValueError") = some true) && (He.eqO (PySem.W.findIn K (.ref C) "value") (some none) && He.eqO (PySem.W.findIn K (.ref C) "__init__") (some (some (.ref fI)))))))
theorem supB_ok {K : PySem.W.Frag} {D C fI : Addr} (h : supB K D C fI = true) : SupC K D C ∧ PySem.W.findIn K (.ref C) "__init__" = some (some (.ref fI)) := by
  obtain ⟨h1, h⟩ := He.ba h
  obtain ⟨h2, h⟩ := He.ba h
  obtain ⟨h3, h⟩ := He.ba h
  obtain ⟨h4, h⟩ := He.ba h
  obtain ⟨h5, h6⟩ := He.ba h
  exact ⟨⟨oexB_ok h1, of_decide_eq_true h2, He.eqO_ok h3, of_decide_eq_true h4, He.eqO_ok h5⟩, He.eqO_ok h6⟩
def xFn (K : PySem.W.Frag) (x : XB) : Bool := match K.lookup (xI K x) with
  | some ⟨_, _, .func fd, _⟩ => PySem.W.codeIn K fd.code x.qual && He.dflB K fd.defaults []
  | _ => false
def xFile (P : Program) (K : PySem.W.Frag) (x : XB) : Bool := match K.lookup (xCode K (xI K x)) with
  | some ⟨_, _, .fields vs, _⟩ => (match vs[2]? with
    | some (Value.str file _) => (P.main.file : Str) == file
    | _ => false)
  | _ => false
def xCl (K : PySem.W.Frag) (x : XB) : Bool := match K.lookup (xCell K (xI K x)) with
  | some ⟨_, _, .cell (some (.ref D)), _⟩ => decide (D = He.ga K x.c)
  | _ => false
def xB (P : Program) (K : PySem.W.Frag) (G : Glob) (x : XB) : Bool :=
  xFn K x && (xFile P K x && (xCl K x && ((PySem.W.clsIn K (He.ga K x.c)).isSome && (He.eqO (PySem.W.nsIn K cStatics "thirdparty.any") (some none) && (He.eqO (PySem.W.nsIn K mainGlobals "super") (some none) &&
  (decide (PySem.W.typeIn K (.ref (xI K x)) = some (.type "function")) && G.clss.all fun q => !q.2.isExc || supB K (He.ga K x.c) (He.ga K q.1) (xI K x)))))))
/-- the body of the base's __init__ -/
def SupBody (body : List Stmt) : Prop := ∃ p0 p1 p2 p3 p4 p5 p6 p7 p8 p9 : Pos, (p2.endLine == p4.line) = true ∧ body = [.Expr (.Call (.Attribute (.Call (.Name "super" p0) [] [] p1) "__init__" p2) [.Name "value" p3] [] p4) p5, .Assign [.Attribute (.Name "self" p6) "value" p7] (.Name "value" p8) p9]
theorem ex_of {P : Program} {K : PySem.W.Frag} {h : Heap} {mg : Str → Option Value} {G : Glob} {x : XB} (X : K.In h) (Gm : h.Ns mainGlobals mg) (hs : xStB P x = true) (hbd : SupBody (defBody x.st)) (ho : fnQ K (xI K x) = valX x) (hb : xB P K G x = true) : EX P K mg G (He.ga K) := by
  obtain ⟨b1, hb⟩ := He.ba hb
  obtain ⟨b2, hb⟩ := He.ba hb
  obtain ⟨b3, hb⟩ := He.ba hb
  obtain ⟨b4, hb⟩ := He.ba hb
  obtain ⟨b5, hb⟩ := He.ba hb
  obtain ⟨b6, hb⟩ := He.ba hb
  obtain ⟨b7, b8⟩ := He.ba hb
  obtain ⟨s1, hs⟩ := He.ba hs
  obtain ⟨s2, hs⟩ := He.ba hs
  obtain ⟨s3, hs⟩ := He.ba hs
  obtain ⟨s4, s5⟩ := He.ba hs
  have s1 := of_decide_eq_true s1
  have key : SupD P K (He.ga K x.c) (xI K x) (xCell K (xI K x)) (xCode K (xI K x)) "__init__" x.qual (defScope x.st) (defBody x.st) (fdOf K (xI K x)) ∧ Binds K (fdOf K (xI K x)) ["self", "value"] [] := by
    unfold fnQ valX at ho
    unfold xFn at b1
    cases q : K.lookup (xI K x) with
    | none =>
      rw [q] at ho
      cases ho
    | some o =>
      obtain ⟨oc, od, dt, osl⟩ := o
      rw [q] at ho b1
      cases dt with
      | func fd =>
        have ec : xCell K (xI K x) = (match fd.closure with
          | [(_, c)] => c
          | _ => 0) := by unfold xCell; rw [q] <;> rfl
        have ek : xCode K (xI K x) = (match fd.code with
          | .ref c => c
          | _ => 0) := by unfold xCode; rw [q] <;> rfl
        have ef : fdOf K (xI K x) = fd := by unfold fdOf; rw [q] <;> rfl
        obtain ⟨n1, n2, n3, n4, n5, n6, n7, n8, n9, n10, n11, n12, n13, n14, n15⟩ := fd
        have e2 : (some (n1, n2, n3, n4, n5, n6, n7.map (·.1), n15) : FnQ) = some (Str.ofString "__init__", x.qual, defArgs x.st, FuncBody.stmts (defBody x.st), defScope x.st, mainGlobals, [Str.ofString "__class__"], builtinsNs) := ho
        simp only [Option.some.injEq, Prod.mk.injEq] at e2
        obtain ⟨h1, h2, h3, h4, h5, h6, h7, h8⟩ := e2
        have c3 : (PySem.W.codeIn K n13 x.qual && He.dflB K n8 []) = true := b1
        obtain ⟨k1, k2⟩ := He.ba c3
        obtain ⟨c, rfl⟩ : ∃ c, n7 = [(("__class__" : Str), c)] := by
          match n7, h7 with
          | [(y, c)], h7 =>
            have h7 : y = "__class__" := by
              injection h7
            exact ⟨c, by rw [h7]⟩
        obtain ⟨cd, rfl⟩ : ∃ cd, n13 = .ref cd := by
          cases n13 with
          | ref cd => exact ⟨cd, rfl⟩
          | _ => cases k1
        dsimp only at ec ek
        rw [ec, ek, ef]
        subst h1 h2 h3 h4 h5 h6 h8
        have hd : n8 = .none := by
          cases n8 <;> first | rfl | cases k2
        subst hd
        cases hh : ((defArgs x.st).posonlyargs ++ (defArgs x.st).args).head? with
        | none =>
          rw [hh] at s1
          cases s1
        | some ar =>
          rw [hh] at s1
          have s1 : ar.arg = "self" := Option.some.inj s1
          refine ⟨⟨⟨oc, od, _, .none, n9, n10, n11, n12, n14, osl, ar, rfl, q, hh, s1⟩, k1, ?_, ?_, Option.isSome_iff_exists.mp b4, by simpa using s3, He.eqO_ok b5, s4, of_decide_eq_true s5, hbd⟩, ?_⟩
          · unfold xFile at b2
            rw [ek] at b2
            split at b2
            · rename_i ccl cdd vs ccs hl
              split at b2
              · rename_i file tf hv
                exact ⟨ccl, cdd, vs, ccs, file, tf, hl, hv, b2⟩
              · cases b2
            · cases b2
          · unfold xCl at b3
            rw [ec] at b3
            split at b3
            · rename_i cl cld D csl hl
              have e3 := of_decide_eq_true b3
              subst e3
              exact ⟨cl, cld, csl, hl⟩
            · cases b3
          · exact Binds.all fun us hl => binds_par (x := "__init__") (qual := x.qual) (body := defBody x.st) (scope := defScope x.st) (kV := n9) (doc := n10) (pm := n11) (an := n12) (cdv := .ref cd) (ct := n14) s2 hl
      | _ => cases ho
  refine ⟨PySem.W.mg_none_of X Gm (He.eqO_ok b6), He.ga K x.c, xI K x, xCell K (xI K x), xCode K (xI K x), "__init__", x.qual, defScope x.st, defBody x.st, fdOf K (xI K x), ?_, ?_, of_decide_eq_true b7, fun c d hc hx => ?_⟩
  · exact key.1
  · exact key.2
  · have z := List.all_eq_true.mp b8 _ (lk_mem hc)
    dsimp only at z
    rw [hx] at z
    exact supB_ok (by simpa using z)
end Sd
end T_Hd3
section T_Hd4
set_option linter.all false
set_option maxRecDepth 100000
set_option maxHeartbeats 4000000
/-! Hd4: the Hook. -/
namespace Sd
open PySem PySem.Spec PyProof.Rows L2 Ev
def conB (K : PySem.W.Frag) (q : Str × MV) : Bool := decide (q.1 ≠ ("__debug__" : Str)) && (match q.2 with
  | .int i => (match PySem.W.nsIn K mainGlobals q.1 with
    | some (some (Value.int j _)) => decide (j = i)
    | _ => false)
  | .str x => (match PySem.W.nsIn K mainGlobals q.1 with
    | some (some (Value.str y _)) => decide (y = x)
    | _ => false)
  | _ => false)
theorem conB_ok {K : PySem.W.Frag} {h : Heap} {mg : Str → Option Value} {ca : Str → Addr} {x : Str} {v : MV} (X : K.In h) (Gm : h.Ns mainGlobals mg) (c : conB K (x, v) = true) : ∃ u w, mg x = some w ∧ RelV u w ∧ (∀ ρ H, RV K ca ρ H v u) ∧ x ≠ "__debug__" := by
  obtain ⟨c1, c2⟩ := He.ba c
  have c1 := of_decide_eq_true c1
  cases v with
  | int i =>
    dsimp only at c2
    split at c2
    · rename_i j t hq
      have e := of_decide_eq_true c2
      subst e
      exact ⟨.int j, _, PySem.W.mg_of X Gm hq, ⟨t, rfl⟩, fun ρ H => .int j, c1⟩
    · cases c2
  | str y =>
    dsimp only at c2
    split at c2
    · rename_i j t hq
      have e := of_decide_eq_true c2
      subst e
      exact ⟨.str j, _, PySem.W.mg_of X Gm hq, ⟨t, rfl⟩, fun ρ H => .str j, c1⟩
    · cases c2
  | _ => cases c2
def gfB (K : PySem.W.Frag) (G : Glob) : Bool := G.consts.all (conB K) && bNames.all fun x => He.eqO (PySem.W.nsIn K mainGlobals x) (some none)
theorem gf_of {K : PySem.W.Frag} {h : Heap} {mg : Str → Option Value} {ca : Str → Addr} {G : Glob} (X : K.In h) (Gm : h.Ns mainGlobals mg) (c : gfB K G = true) (call : CallF) : GFn mg K ⟨G, call⟩ ca := by
  obtain ⟨c1, c2⟩ := He.ba c
  exact ⟨fun x v hx => conB_ok X Gm (List.all_eq_true.mp c1 _ (lk_mem hx)), fun x hx => PySem.W.mg_none_of X Gm (He.eqO_ok (List.all_eq_true.mp c2 x hx))⟩
/-! ### the Hook -/
abbrev AlT : Type := Bool × List FnQ × FnQ
def obsT (P : Program) (G : Glob) (DS : List DfE) (x : XB) (K : PySem.W.Frag) : AlT := (sfB K G DS && (xB P K G x && gfB K G), DS.map (fun d => fnQ K (adAt K d.ad)), fnQ K (xI K x))
def valT (DS : List DfE) (x : XB) : AlT := (true, DS.map valQ, valX x)
def frT (g : Addr → Option Obj) : PySem.W.Frag := He.frG g (cStatics :: He.asD g 7)
def hookT (P : Program) (G : Glob) (DS : List DfE) (x : XB) : PySem.W.Hook where
  α := AlT
  obs := fun s => obsT P G DS x (frT s.heap.get?)
  val := fun _ => valT DS x
  says := fun _ h => ∃ K : PySem.W.Frag, K.In h ∧ obsT P G DS x K = valT DS x
  of := fun _ _ e => ⟨_, He.frG_in, e⟩
  keeps := fun _ _ _ ⟨K, hK, c⟩ k => ⟨K, PySem.W.Frag.In.keeps hK k, c⟩
theorem obsT_eq {P : Program} {G : Glob} {DS : List DfE} {x : XB} {g : Addr → Option Obj} {s : Shared} (h : ∀ a, g a = s.heap.get? a) : obsT P G DS x (frT g) = (hookT P G DS x).obs s := by
  have e : g = s.heap.get? := funext h
  rw [e] <;> rfl
theorem txt_of {P : Program} {K : PySem.W.Frag} {h : Heap} {mg : Str → Option Value} {G : Glob} {DS : List DfE} {x : XB} (X : K.In h) (Gm : h.Ns mainGlobals mg) (hG : G.fns = DS.map DfE.fn) (hst : DS.all stB = true) (hs : xStB P x = true) (hbd : SupBody (defBody x.st))
    (e : obsT P G DS x K = valT DS x)
    (kw : ∀ c n ks k d', (c, n, ks) ∈ G.kws → (∃ d, lk c G.clss = some d ∧ findM G "__init__" d.mro = some k) → lk k G.fns = some d' → ∀ (s : Shared) (us ws : List Value), K.In s.heap → us.length = n + 1 → ws.length = ks.length →
      BindsTo s (fdOf K (faOf K DS k)) ⟨us, ks.zip ws⟩ (d'.ps.zip (us ++ ws))) : TXT P K mg G (He.ga K) (faOf K DS) := by
  have e1 : (sfB K G DS && (xB P K G x && gfB K G)) = true := congrArg (fun z : AlT => z.1) e
  have e2 : DS.map (fun d => fnQ K (adAt K d.ad)) = DS.map valQ := congrArg (fun z : AlT => z.2.1) e
  have e3 : fnQ K (xI K x) = valX x := congrArg (fun z : AlT => z.2.2) e
  obtain ⟨b1, b2⟩ := He.ba e1
  obtain ⟨b2, b3⟩ := He.ba b2
  exact ⟨sf_of X Gm hG hst e2 b1 kw, ex_of X Gm hs hbd e3 b2, gf_of X Gm b3⟩
end Sd
end T_Hd4
section T_Hd5
set_option linter.all false
set_option maxRecDepth 100000
set_option maxHeartbeats 4000000
/-! Hd5: the law's call, from FnG. -/
namespace Sd
open PySem PySem.Spec PyProof.Rows L2 Ev
/-- an abstract heap that has the script alone, or nothing -/
theorem script_hp {P : Program} {w : World} {K : PySem.W.Frag} {h : Heap} {a : Addr} {vs : List Value} {ns : List Int} (KX : K.In h) (ha : h.get? a = some { cls := .type "list", data := .seq vs.toArray }) (hi : IntsAre vs ns) (hl : ns.length ≤ sizeLine) :
    ∃ H : Hp, FrL K H a (ns.map V.int) ∧ HOk P w H h ∧ (∀ b u, H b = some u → b = a ∧ K.lookup a = none ∧ u = .frz { cls := .type "list", data := .seq vs.toArray } (.lst (ns.map V.int))) := by
  have rv := vals_ints hi
  have lenV := hi.length
  cases hk : K.lookup a with
  | some o =>
    have e := KX a o hk
    rw [ha] at e
    cases e
    exact ⟨fun _ => none, .inr ⟨_, vs.toArray, _, hk, rfl, rfl, rfl, by rw [List.size_toArray, lenV]; exact hl, by simpa using rv⟩, fun b u z => (nomatch z), fun b u z => (nomatch z)⟩
  | none =>
    have look : ∀ b u, (if b = a then some (HO.frz { cls := .type "list", data := .seq vs.toArray } (.lst (ns.map V.int))) else none) = some u → b = a ∧ u = .frz { cls := .type "list", data := .seq vs.toArray } (.lst (ns.map V.int)) := fun b u z => by
      by_cases hb : b = a
      · rw [if_pos hb] at z
        cases z
        exact ⟨hb, rfl⟩
      · rw [if_neg hb] at z
        cases z
    refine ⟨fun b => if b = a then some (.frz { cls := .type "list", data := .seq vs.toArray } (.lst (ns.map V.int))) else none, .inl ⟨_, if_pos rfl⟩, fun b u z => ?_, fun b u z => ⟨(look b u z).1, rfl, (look b u z).2⟩⟩
    obtain ⟨e1, e2⟩ := look b u z
    subst e1 e2
    exact ⟨ha, by rw [List.length_map]; exact hl, vs, _, rv, ha⟩
theorem law_callG {P : Program} {w : World} {K : PySem.W.Frag} {mg mb : Str → Option Value} {k : Nat} {fa a : Addr} {fd : FuncData} {x : Str} {sp : Sp} {s₁ : Shared} {vs : List Value} {ns : List Int}
    (KX : K.In s₁.heap) (hns : s₁.heap.Ns mainGlobals mg) (hb : s₁.heap.Ns builtinsNs mb) (hbb : ∀ x : Str, x ≠ "__name__" → mb x = bootBuiltins x) (hlim : s₁.heap.NoLimit) (hg : s₁.gens = #[])
    (ha : s₁.heap.get? a = some { cls := .type "list", data := .seq vs.toArray }) (hi : IntsAre vs ns) (hl : ns.length ≤ sizeLine) (hr : Room k callerA)
    (F : ∀ base : Heap, K.In base → base.Ns mainGlobals mg → FnG P w K mg base k fa fd [x] sp) (hbind : BindsTo s₁ fd ⟨[.ref a], []⟩ [(x, .ref a)])
    (hsp : ∀ H : Hp, FrL K H a (ns.map V.int) → sp [.ref a] H (fun v _ => v = .bl true) fun _ _ _ => False)
    (hCX : ∀ H e s', L2.CX P w [] H s₁ (fun _ _ _ => False) e s' → False) :
    codeAny (model P w) callerA (.call (.ref fa) ⟨[.ref a], []⟩) (fun r s' => r = .ok (.ret (.bool true)) ∧ OldK s₁.heap s'.heap ∧ s'.os = s₁.os ∧ AllBare s'.gens) s₁ := by
  obtain ⟨H, hS, hok, hA⟩ := script_hp (P := P) (w := w) KX ha hi hl
  -- what is not the script lies in the ground
  have off : ∀ {b : Addr} {o : Obj}, s₁.heap.get? b = some o → (b = a → K.lookup a = none → False) → (hidT s₁.heap H).get? b = some o := fun {b o} e n => hidT_get e (by
    cases q : H b with
    | none => rfl
    | some u => exact (n (hA b u q).1 (hA b u q).2.1).elim)
  have nsK : ∀ {b : Addr} {m : Str → Option Value}, s₁.heap.Ns b m → (hidT s₁.heap H).Ns b m := fun {b m} ⟨o, es, ep, e, d, r⟩ => ⟨o, es, ep, off e (fun z _ => by
    rw [z, ha] at e
    cases e
    cases d), d, r⟩
  have hKb : K.In (hidT s₁.heap H) := fun b o e => off (KX b o e) fun z n => by
    rw [z, n] at e
    cases e
  have hM : Mod K mg (hidT s₁.heap H) := ⟨hKb, nsK hns, ⟨mb, nsK hb, hbb⟩, hlim.elim fun mc h => ⟨mc, nsK h.1, h.2⟩⟩
  have e0 : Env0 P w K mg (hidT s₁.heap H) callerA [] s₁ H := ⟨rfl, hM, fun b o e => of_hidT e, Nat.le_of_eq (hidT_size _ _), trivial, fun b hb => (nomatch (show b ∈ ([] : List Addr) from hb)), hok, .of_eq hg⟩
  refine codeAny_mono ((F _ hKb (nsK hns)).run callerA [] s₁ H ⟨[.ref a], []⟩ [.ref a] [.ref a] _ _ hr rfl e0 hbind (.cons rfl .nil) (hsp H hS)) fun r s' h => ?_
  cases r with
  | error e => exact (hCX H e s' h).elim
  | ok fl =>
    cases fl with
    | ret u =>
      obtain ⟨v, H', os, bare, un, hok', r', q⟩ := h
      have q : v = .bl true := q
      subst q
      obtain rfl : u = Value.bool true := r'
      refine ⟨rfl, OldK.of_keep fun b o e => ?_, os, bare⟩
      cases q : H b with
      | none => exact un.keep b o e q (fun z => (nomatch (show b ∈ ([] : List Addr) from z))) (fun z => nomatch z)
      | some z =>
        obtain ⟨_, _, rfl⟩ := hA b z q
        have z1 := (hok b _ q).1
        have z2 := (hok' b _ (un.frzs b _ _ q)).1
        rw [e] at z1
        cases z1
        exact z2
    | next => exact False.elim h
    | brk => exact False.elim h
    | cont => exact False.elim h
/-- the end, from the evaluator -/
theorem walk_ofG {l : PySem.W.OpenLaw} {n d0 : Nat} {q : Program} {loose : List Str} {XP : (Str → Option Value) → Heap → Prop} {d : DefRec} {G : Glob} {DS : List DfE} {xb : XB} {f x : Str} {fdE : FnD}
    (hn : l.most = some n) (hn2 : n ≤ sizeLine) (hdf : d.params.defaults = []) (hr : Room (kD d0) callerA) (hG : G.fns = DS.map DfE.fn) (hst : DS.all stB = true) (hs : xStB l.prog xb = true) (hbd : SupBody (defBody xb.st))
    (kw : ∀ K : PySem.W.Frag, obsT l.prog G DS xb K = valT DS xb → ∀ c n ks k d', (c, n, ks) ∈ G.kws → (∃ d, lk c G.clss = some d ∧ findM G "__init__" d.mro = some k) → lk k G.fns = some d' → ∀ (s : Shared) (us ws : List Value), K.In s.heap → us.length = n + 1 → ws.length = ks.length →
      BindsTo s (fdOf K (faOf K DS k)) ⟨us, ks.zip ws⟩ (d'.ps.zip (us ++ ws)))
    (hf : lk f G.fns = some fdE) (ht : fdE.top = true) (hps : fdE.ps = [x]) (hname : d.name = f)
    (law : ∀ ns : List Int, ns.length ≤ n → ∃ h', callD G d0 f [.frz ns] [] = some (.ok (.bl true) h')) :
    PySem.W.WalkO q loose XP (hookT l.prog G DS xb).says l.row.toRowW d [] (fun f vs => PySem.call f vs) := by
  refine Att.attach_callB hn hdf fun w s₀ s₁ mg mb fa o pm cd doc a vs ns Gr Y ho hd hcd hmg hobj hints hlen hbits hg => ?_
  obtain ⟨K, KX, e⟩ := Y
  have T : TXT l.prog K mg G (He.ga K) (faOf K DS) := txt_of KX Gr.T.g hG hst hs hbd e (kw K e)
  have ef : fa = faOf K DS f := by
    have := (T.sf.top f fdE hf ht).1
    rw [← hname, hmg] at this
    cases this
    rw [hname]
  subst ef
  refine law_callG (x := x) (fd := fdOf K (faOf K DS f)) KX Gr.T.g Gr.T.b Gr.T.builtins Gr.T.nolimit hg hobj hints (Nat.le_trans hlen hn2) hr (fun base _ _ => by
    have := fns_ok (P := l.prog) (w := w) (base := base) T d0 f fdE hf
    rw [hps] at this
    exact this) ?_ (fun H hS => ?_) fun H e s' hh => ?_
  · obtain ⟨_, _, _, _, _, _, hB, _⟩ := T.sf.fn f fdE hf
    rw [hps] at hB
    exact hB s₁ [.ref a] KX rfl
  · obtain ⟨h', hq⟩ := law ns hlen
    refine ⟨rfl, [], [], [.frz ns], ⟨rfl, List.nodup_nil, fun n o z => by simp at z⟩, .cons (.frz hS) .nil, ?_⟩
    rw [hq]
    intro ρ' H' u g S rv
    cases rv
    rfl
  · obtain ⟨_, _, _, _, _, _, _, _, _, _, _, _, _, z⟩ := hh
end Sd
end T_Hd5
section T_Hd82
set_option linter.all false
set_option maxRecDepth 100000
set_option maxHeartbeats 0
/-! Hd82: the head of law k82. -/
namespace K82
open PySem PySem.Spec PyProof.Rows L2 Ev Sd
def loose0 : List Str := ["DrawError", "BadProgram", "is_integer", "MOST_LOW", "is_step", "JOINED", "MET", "TURNED", "MOVED", "LESSER", "ZOOMED", "MOST_LINES", "MOST_INPUTS", "MOST_MANY", "MOST_MOTION", "MOST_DIGITS", "MOST_LETTERS", "HEAD_WORDS", "IS", "MINUS", "SLASH", "DIGITS", "LETTERS", "is_name", "number_in", "share_in", "rest_in", "step_in", "names_in", "Program"]
def loose1 : List Str := ["_law_pot", "_law_take", "_law_of", "_law_some", "_law_cells", "_law_fraction", "_law_share", "_law_share_text", "_law_step_text", "_law_program_text", "_law_named", "_law_sources", "_law_inputs", "_law_ways", "_law_step", "_law_steps", "_law_whole", "_law_share_read", "_law_is_word", "_law_read", "_law_bad_line", "_law_odd_word", "_law_line_spoilt", "_law_spoilt", "_law_is_right", "_law_right"]
def loose : List Str := loose0 ++ loose1
def xb : XB := ⟨"DrawError", "DrawError.__init__", inClass (topS 1) 0⟩
abbrev R : PySem.W.OpenRow := PySem.W.OpenLaw.row PySem.Challenge.rw_selfdrawn_k82_texts_of_programs
abbrev hk : PySem.W.Hook := hookT R.prog G dsT xb
def ob (s : PySem.W.SharedT) : AlT := obsT R.prog G dsT xb (frT (HandSHeadRun.getT s))
theorem ob_eq (s : PySem.W.SharedT) : ob s = hk.obs s.abs := obsT_eq (HandSHeadRun.getT_eq s)
theorem st1 : dsT.all stB = true := by kernel_rfl
theorem st2 : xStB R.prog xb = true := by kernel_rfl
theorem st3 : SupBody (defBody xb.st) := ⟨_, _, _, _, _, _, _, _, _, _, rfl, rfl⟩
end K82
end T_Hd82
section T_Hr82
set_option linter.all false
set_option maxRecDepth 100000
set_option maxHeartbeats 0
namespace K82
open PySem PySem.Spec PyProof.Rows L2 Ev Sd
theorem run (w : World) : HandSHeadRun.RunEq R (PySem.W.view R.prog [61]) hk ob 4000 loose w := by
  intro os
  kernel_rfl
end K82
end T_Hr82
section T_He82
set_option linter.all false
set_option maxRecDepth 100000
set_option maxHeartbeats 4000000
/-! He82: law k82 from the evaluator's answer (law82: NOT PROVED YET). -/
namespace Sd
open PySem PySem.Spec PyProof.Rows L2 Ev
theorem fun_at {P : Program} {G : Glob} {DS : List DfE} {x : XB} {K : PySem.W.Frag} (e : obsT P G DS x K = valT DS x) {d : DfE} (hd : d ∈ DS) : FunD K d.name d.qual (defArgs d.st) (defBody d.st) (defScope d.st) [] [] (adAt K d.ad) (fdOf K (adAt K d.ad)) := by
  have e1 : (sfB K G DS && (xB P K G x && gfB K G)) = true := congrArg (fun z : AlT => z.1) e
  have e2 : DS.map (fun d => fnQ K (adAt K d.ad)) = DS.map valQ := congrArg (fun z : AlT => z.2.1) e
  obtain ⟨b1, _⟩ := He.ba e1
  obtain ⟨b1, _⟩ := He.ba b1
  obtain ⟨i, hi⟩ := List.mem_iff_getElem?.mp hd
  have e3 : (DS.map fun d => fnQ K (adAt K d.ad))[i]? = (DS.map valQ)[i]? := by rw [e2]
  rw [List.getElem?_map, List.getElem?_map, hi] at e3
  exact fn_d (Option.some.inj e3) (List.all_eq_true.mp b1 d hd)
end Sd
namespace K82
open PySem PySem.Spec PyProof.Rows L2 Ev Sd
/-- the evaluator's answer -/
def Law82 : Prop := ∀ ns : List Int, ns.length ≤ 63 → ∃ h', callD G 40 "law" [.frz ns] [] = some (.ok (.bl true) h')
def dInit : DfE := (dsLk "Program.__init__" dsT).getD (dfE "" (.glo "") "" "" false [] [] (.Pass ⟨0, 0, 0, 0⟩))
theorem kw82 (K : PySem.W.Frag) (e : obsT R.prog G dsT xb K = valT dsT xb) : ∀ c n ks k d', (c, n, ks) ∈ G.kws → (∃ d, lk c G.clss = some d ∧ findM G "__init__" d.mro = some k) → lk k G.fns = some d' → ∀ (s : Shared) (us ws : List Value), K.In s.heap → us.length = n + 1 → ws.length = ks.length →
    BindsTo s (fdOf K (faOf K dsT k)) ⟨us, ks.zip ws⟩ (d'.ps.zip (us ++ ws)) := by
  intro c n ks k d' h1 h2 h3 s us ws X l1 l2
  have h1 : (c, n, ks) ∈ [((Str.ofString "Program", 0, [Str.ofString "text"]) : Str × Nat × List Str)] := h1
  rw [List.mem_singleton] at h1
  cases h1
  obtain ⟨d, hd, hk⟩ := h2
  have hd0 : lk (Str.ofString "Program") G.clss = some (clT[2]'(by decide)).2 := by kernel_rfl
  rw [hd0] at hd
  cases hd
  have hk0 : findM G "__init__" (clT[2]'(by decide)).2.mro = some "Program.__init__" := by kernel_rfl
  rw [hk0] at hk
  cases hk
  have hd1 : dsLk "Program.__init__" dsT = some dInit := by kernel_rfl
  have hm : dInit ∈ dsT := by
    rw [hG0] at h3
    obtain ⟨e, hm, hl, _, _⟩ := lk_ds h3
    rw [hd1] at hl
    cases hl
    exact hm
  have FD := Sd.fun_at e hm
  have ef : faOf K dsT "Program.__init__" = adAt K dInit.ad := by
    unfold faOf
    rw [hd1]
  rw [ef]
  have hp : d'.ps = ([Str.ofString "self", Str.ofString "text"] : List Str) := by
    have h4 : lk "Program.__init__" G.fns = some dInit.fn.2 := by kernel_rfl
    rw [h4] at h3
    cases h3
    kernel_rfl
  rw [hp]
  generalize fdOf K (adAt K dInit.ad) = fd at FD
  obtain ⟨oc, od, dV, kV, doc, pm, an, cdv, ct, osl, rfl, lk, hcd, hD, _⟩ := FD.ex
  rcases hD with ⟨_, rfl⟩ | ⟨z, _⟩
  · match us, ws, l1, l2 with
    | [u], [v], _, _ => exact BindsTo.of_eq (by first | rfl | kernel_rfl)
  · exact absurd rfl z
where
  hG0 : G.fns = dsT.map DfE.fn := rfl
end K82
open PySem PySem.W PySem.Calls PyProof.Rows
theorem PySem.Challenge.k82_of (hlaw : K82.Law82) : PySem.Challenge.rw_selfdrawn_k82_texts_of_programs.Holds := by
  w_on; o_law
  refine HandSHeadRun.head_any (r := OpenLaw.row PySem.Challenge.rw_selfdrawn_k82_texts_of_programs) (q := view (OpenLaw.row PySem.Challenge.rw_selfdrawn_k82_texts_of_programs).prog [61]) (H := K82.hk) (ob := K82.ob) (M := 4000) (loose := K82.loose) (d := HandSHeadRun.topDef (OpenLaw.row PySem.Challenge.rw_selfdrawn_k82_texts_of_programs).prog 61) (kwd := []) K82.ob_eq
    (by kernel_rfl) (fun s => by kernel_rfl) K82.run (by kernel_rfl) (by kernel_rfl) (by kernel_rfl) (by rfl) (by first | assumption | decide +kernel) (by decide +kernel) ⟨rfl, rfl, rfl, rfl, rfl, by decide +kernel⟩ ?hw ?hc
  case hw => w_witness2
  case hc =>
    exact Sd.walk_ofG (l := PySem.Challenge.rw_selfdrawn_k82_texts_of_programs) (n := 63) (d0 := 40) (f := "law") (x := "script") (G := K82.G) (DS := K82.dsT) (xb := K82.xb) (fdE := ((K82.dsT.getLast?.map Ev.DfE.fn).getD default).2) rfl (by decide) (by kernel_rfl) ⟨rfl, by decide, by decide⟩ rfl K82.st1 K82.st2 K82.st3 K82.kw82 (by kernel_rfl) (by kernel_rfl) (by kernel_rfl) (by kernel_rfl) hlaw
end T_He82
set_option linter.all false
set_option maxRecDepth 100000
/-! L24: the law. -/
namespace K82
open PySem L2 Ev
theorem law_ok {d : Nat} {h : MH} (ns : List Int) : wE (callD G (d + 10 + 1) "law" [.frz ns] h) (fun v h' => v = .bl true) no := by
  rw [u_law]
  simp [c_law, b_law]
  refine wE.to (cells_ok ns) fun v h1 hv => ?_
  obtain ⟨rfl, m, hm, rfl⟩ := hv
  rw [iterOf_lst List.getElem?_concat_length]
  simp only [wO_some]
  refine w_map (ms := []) (List.range m) (fun (i : Nat) => MV.int (i : Int)) (fun _ => .bl true) (Its.lst List.getElem?_concat_length (by simp)) (by simp; omega) (fun i h2 hi k2 => ?_) fun h2 k2 => ?_
  · have hi := List.mem_range.mp hi
    refine ⟨_, rfl, ?_⟩
    simp
    refine wE.to (pot_ok ns i (by omega)) fun v h3 hv => ?_
    obtain ⟨k3, p, rfl, hp, P⟩ := hv
    refine wE.to (right_ok (d := d + 1) p P) fun v h4 hv => ?_
    obtain ⟨rfl, k4⟩ := hv
    exact ⟨rfl, k3.inner k4 (by simp; omega)⟩
  · refine ⟨by simp; omega, ?_⟩
    rw [bAll_lst (bs := (List.range m).map fun _ => true) (by rw [List.getElem?_concat_length, List.map_map]; rfl)]
    have : (List.map (fun _ => true) (List.range m)).all id = true := List.all_eq_true.mpr fun x hx => by
      obtain ⟨_, _, rfl⟩ := List.mem_map.mp hx
      rfl
    rw [this]
    rfl
theorem law82 : Law82 := fun ns _ => by
  obtain ⟨v, h', e, rfl⟩ := (law_ok (d := 29) (h := []) ns).get
  exact ⟨h', e⟩
end K82
theorem PySem.Challenge.cw_selfdrawn_k82_texts_of_programs_holds : PySem.Challenge.rw_selfdrawn_k82_texts_of_programs.Holds :=
  PySem.Challenge.k82_of K82.law82
