import PyProof.Rows.All
import Wide.All
import OpenK.AllK
import Wide.FinOn
import HandS.ForMost
import HandS.Exc
import HandS.ForExc
import HandS.TupAny
import HandS.More
import HandS.Flow
import HandS.ExcField
import KE.KExcIs
import HandS.Star
import HandS.WordsDict
import HandS.RaiseMore
import HandS.Text
import HandS.Conv
import HandS.Style
import HandS.IsInst
import HandS.Iter
import HandS.Zip
import HandS.Comp
import HandS.NoneIn
import HandS.Small
import HandS.Defaults
import KE.KSuper
import HandS.ExcInit
import HandS.ExcSuper
import HandS.ExcValue
import PyProof.ReprRoads
import PyProof.ReprBulk
import HandS.ExcOwn
import HandS.Ends
import HandS.HeadEnd
import HandS.HeadHook4
import HandS.Head2
import PySem.Challenge.RW_deepasdrawn_k00_errors_keep_their_fields
set_option Elab.async false
set_option maxRecDepth 100000
set_option maxHeartbeats 4000000
set_option linter.all false
/-! V1: the evaluator over trees -/
namespace PV
open PySem L2

inductive T where
  | pin (v : V) | hole | non | bl (b : Bool) | int (i : Int) | str (x : Str) | fn (f : Str)
  | tup (xs : List T) | lst (o : Bool) (xs : List T) | dct (o : Bool) (ks : List Key) (vs : List T)
  | ins (o : Bool) (C : Str) (ks : List Str) (vs : List T)
  | err (C : Str) (ks : List Str) (vs : List T)
  deriving Inhabited

mutual
def T.pureT : T → Bool
  | .pin _ => false | .hole => false | .non => true | .bl _ => true | .int _ => true | .str _ => true | .fn _ => true
  | .tup xs => T.pureL xs
  | .lst o xs => !o && T.pureL xs
  | .dct o _ vs => !o && T.pureL vs
  | .ins o _ _ vs => !o && T.pureL vs
  | .err _ _ vs => T.pureL vs
def T.pureL : List T → Bool
  | [] => true
  | t :: ts => T.pureT t && T.pureL ts
end
mutual
def T.frz : T → T
  | .tup xs => .tup (T.frzL xs)
  | .lst _ xs => .lst false (T.frzL xs)
  | .dct _ ks vs => .dct false ks (T.frzL vs)
  | .ins _ C ks vs => .ins false C ks (T.frzL vs)
  | .err C ks vs => .err C ks (T.frzL vs)
  | t => t
def T.frzL : List T → List T
  | [] => []
  | t :: ts => T.frz t :: T.frzL ts
end
/-! no frozen list, dict, instance -/
mutual
def T.noFrz : T → Bool
  | .tup xs => T.noFrzL xs
  | .lst o xs => o && T.noFrzL xs
  | .dct o _ vs => o && T.noFrzL vs
  | .ins o _ _ vs => o && T.noFrzL vs
  | .err _ _ _ => false
  | _ => true
def T.noFrzL : List T → Bool
  | [] => true
  | t :: ts => T.noFrz t && T.noFrzL ts
end

/-- shared from now on -/
def T.fz (t : T) : T := if t.pureT = true then t else t.frz
/-- its own object kept, what stands in it shared -/
def T.fz1 : T → T
  | .lst o xs => .lst o (if T.pureL xs = true then xs else T.frzL xs)
  | .dct o ks vs => .dct o ks (if T.pureL vs = true then vs else T.frzL vs)
  | .ins o C ks vs => .ins o C ks vs
  | t => t.fz
def lim : Nat := 100000

inductive Sel where | fld (f : Str) | idx (n : Nat) | key (k : Key)
  deriving DecidableEq

def look {κ α : Type} [DecidableEq κ] : List κ → List α → κ → Option α
  | k :: ks, v :: vs, q => if k = q then some v else look ks vs q
  | _, _, _ => none
def put {κ α : Type} [DecidableEq κ] : List κ → List α → κ → α → List κ × List α
  | k :: ks, v :: vs, q, x => if k = q then (k :: ks, x :: vs) else let r := put ks vs q x; (k :: r.1, v :: r.2)
  | _, _, q, x => ([q], [x])
def T.get : T → List Sel → Option T
  | t, [] => some t
  | .ins _ _ ks vs, .fld f :: p => (look ks vs f).bind fun t => t.get p
  | .lst _ xs, .idx n :: p => (xs[n]?).bind fun t => t.get p
  | .tup xs, .idx n :: p => (xs[n]?).bind fun t => t.get p
  | .dct _ ks vs, .key k :: p => (look ks vs k).bind fun t => t.get p
  | _, _ => none
def T.set : T → List Sel → T → T
  | _, [], u => u
  | .ins o C ks vs, .fld f :: p, u => match look ks vs f with
    | some t => let r := put ks vs f (t.set p u); .ins o C r.1 r.2
    | none => .ins o C ks vs
  | .lst o xs, .idx n :: p, u => match xs[n]? with | some t => .lst o (xs.set n (t.set p u)) | none => .lst o xs
  | .tup xs, .idx n :: p, u => match xs[n]? with | some t => .tup (xs.set n (t.set p u)) | none => .tup xs
  | .dct o ks vs, .key k :: p, u => match look ks vs k with
    | some t => let r := put ks vs k (t.set p u); .dct o r.1 r.2
    | none => .dct o ks vs
  | t, _, _ => t

abbrev Env := List T
inductive Res (α : Type) where | ok (a : α) (E : Env) | exc (x : T) (E : Env) | bad
abbrev M (α : Type) := Env → Res α
def M.pure {α : Type} (a : α) : M α := fun E => .ok a E
def M.bind {α β : Type} (m : M α) (f : α → M β) : M β := fun E => match m E with
  | .ok a E' => f a E'
  | .exc x E' => .exc x E'
  | .bad => .bad
instance : Monad M where
  pure := M.pure
  bind := M.bind
def badM {α : Type} : M α := fun _ => .bad
def get : M Env := fun E => .ok E E
def put' (E : Env) : M Unit := fun _ => .ok () E
def ofO {α : Type} : Option α → M α | some a => M.pure a | none => badM
def guardM (b : Bool) : M Unit := if b then M.pure () else badM

inductive R where | val (t : T) | plc (i : Nat) (p : List Sel)

structure FnI where
  params : List Str
  N : List Str
  mu : List Nat
  dp : List Nat
  names : List (Str × NameKind)
  body : List Stmt
  dfl : List T
  vararg : Bool
  sup : Option Str

inductive Glob where | fn (q : Str) | cls (C : Str) | const (t : T)

inductive Src where | pos (i : Nat) | kw (i : Nat) | dfl (t : T)
structure GI where
  fn : Str → Option FnI
  glob : Str → Option Glob
  meth : Str → Str → Option Str
  sup : Str → Str → Option Str
  sub : Str → Str → Bool
  isExc : Str → Bool
  flds : List Str
  /-- the fields that an exception's own __init__ stores -/
  ini : Str → Option (List Str)
  /-- an exception's class without __init__ -/
  inb : Str → Bool
  /-- a call by n values and keywords: where each parameter's value comes from -/
  ksig : Str → Nat → List Str → Option (List Src)

inductive CallRes where | ret (r : T) (as : List T) | exc (x : T) (as : List T) | bad

abbrev Calls := Str → List T → CallRes
structure Ctx where
  gi : GI
  xs : Bool
  call : Calls
  N : List Str
  mu : List Nat
  dp : List Nat
  np : Nat
  names : List (Str × NameKind)
  sup : Option Str
  cells : List Str

/-! ### values -/
def keyOf : T → Option Key | .int i => some (.inl i) | .str x => some (.inr x) | _ => none
def ofKey : Key → T | .inl i => .int i | .inr x => .str x
def chr1 (c : Nat) : T := .str ⟨#[c]⟩
def truth : T → Option Bool
  | .non => some false | .bl b => some b | .int i => some (i != 0)
  | .tup xs => some (!xs.isEmpty) | .lst _ xs => some (!xs.isEmpty)
  | _ => none
mutual
/-- a tree as plain data (no instance, no dict), at most n deep -/
def dataT : Nat → T → Option PyData
  | 0, _ => none
  | n + 1, t => match t with
    | .non => some .none | .bl b => some (.bool b) | .int i => some (.int i) | .str x => if PyData.strOk x = true then some (.str x) else none
    | .tup xs => (dataL n xs).map .tuple
    | .lst _ xs => (dataL n xs).map .list
    | _ => none
def dataL : Nat → List T → Option (List PyData)
  | _, [] => some []
  | n, t :: ts => match dataT n t, dataL n ts with | some d, some ds => some (d :: ds) | _, _ => none
end
/-- == : none where the model's word is not had; ei: an instance on the left -/
def eqT (ei : T → T → Option Bool) (t u : T) : Option Bool := match t with
  | .ins _ _ _ _ => ei t u
  | t => match dataT 60 t, dataT 60 u with | some d, some e => some (PyData.eqv d e) | _, _ => none
def keyFits (k : Key) (ks : List Key) : Bool := match k with | .inl _ => ks.all fun q => q.isLeft | .inr _ => true
def flatT : T → Bool | .non => true | .bl _ => true | .int _ => true | .str _ => true | _ => false
def eqFl : T → T → Bool
  | .non, .non => true
  | .bl a, .bl b => a == b
  | .bl a, .int b => (if a then 1 else 0) == b
  | .int a, .bl b => a == (if b then 1 else 0)
  | .int a, .int b => a == b
  | .str a, .str b => a == b
  | _, _ => false
/-- x in items -/
def inT (x : T) : T → Option Bool
  | .tup xs => if flatT x && xs.all flatT then some (xs.any fun y => eqFl y x) else none
  | .lst _ xs => if flatT x && xs.all flatT then some (xs.any fun y => eqFl y x) else none
  | .dct _ ks _ => (keyOf x).bind fun k => if keyFits k ks then some (ks.any fun q => decide (q = k)) else none
  | .str y => match x with | .str x => some (!(Builtin.Str.occurrences y x 0 y.length 1).isEmpty) | _ => none
  | _ => none
def small (i : Int) : Bool := decide (-(2 ^ 64) < i) && decide (i < 2 ^ 64)
def binop (op : Operator) (x y : T) : Option T := match op, x, y with
  | .Add, .int a, .int b => some (.int (a + b))
  | .Sub, .int a, .int b => some (.int (a - b))
  | .Mult, .int a, .int b => if small a || small b then some (.int (a * b)) else none
  | .FloorDiv, .int a, .int b => if b ≠ 0 ∧ b.natAbs < 1073741824 then some (.int (a.fdiv b)) else none
  | .Mod, .int a, .int b => if b ≠ 0 then some (.int (a.fmod b)) else none
  | .Pow, .int a, .int b => if 0 ≤ b ∧ b ≤ 1000000 ∧ a.natAbs < 2 ^ 64 then some (.int (a ^ b.toNat)) else none
  | .Add, .str a, .str b => if a.length + b.length ≤ lim then some (.str (a ++ b)) else none
  | .Add, .lst _ a, .lst _ b => if T.pureL a && T.pureL b && decide (a.length + b.length ≤ lim) then some (.lst true (a ++ b)) else none
  | .Mult, .lst _ a, .int k => if T.pureL a && decide (0 ≤ k) && decide (k ≤ 100000) && decide (a.length * k.toNat ≤ lim) then some (.lst true (List.replicate k.toNat a).flatten) else none
  | .Add, .tup a, .tup b => if T.pureL a && T.pureL b && decide (a.length + b.length ≤ lim) then some (.tup (a ++ b)) else none
  | _, _, _ => none
def isNon : T → Option Bool | .non => some true | .pin _ => none | .hole => none | _ => some false
def cmpop (ei : T → T → Option Bool) (op : CmpOp) (x y : T) : Option Bool := match op, x, y with
  | .Lt, .int a, .int b => some (decide (a < b))
  | .LtE, .int a, .int b => some (decide (a ≤ b))
  | .Gt, .int a, .int b => some (decide (b < a))
  | .GtE, .int a, .int b => some (decide (b ≤ a))
  | .Eq, a, b => eqT ei a b
  | .NotEq, a, b => (eqT ei a b).map (!·)
  | .Is, a, .non => isNon a
  | .IsNot, a, .non => (isNon a).map (!·)
  | .In, a, b => inT a b
  | .NotIn, a, b => (inT a b).map (!·)
  | _, _, _ => none
/-- isinstance with a built-in or an own class, by its name -/
def isA (gi : GI) (t : T) (c : Str) : Option Bool := match gi.glob c with
  | some (.cls D) => match t with
    | .ins _ C _ _ => some (gi.sub C D) | .err C _ _ => some (gi.sub C D)
    | .pin _ => none | .hole => none | .fn _ => none | _ => some false
  | some _ => none
  | none => match t with
    | .pin _ => none | .hole => none | .fn _ => none
    | .non => some false
    | .bl _ => some (decide (c = "bool") || decide (c = "int"))
    | .int _ => some (decide (c = "int"))
    | .str _ => some (decide (c = "str"))
    | .tup _ => some (decide (c = "tuple"))
    | .lst _ _ => some (decide (c = "list"))
    | .dct _ _ _ => some (decide (c = "dict"))
    | .ins _ _ _ _ => some false
    | .err _ _ _ => some (decide (c = "ValueError"))
def isAny (gi : GI) (t : T) : List Str → Option Bool
  | [] => some false
  | c :: cs => match isA gi t c with | some true => some true | some false => isAny gi t cs | none => none
abbrev sIx := HT.sIx
def cut {α : Type} (xs : List α) (lo hi : Option Int) : List α := (xs.drop (sIx xs.length 0 lo)).take (sIx xs.length xs.length hi - sIx xs.length 0 lo)
def slice (t : T) (lo hi st : Option Int) : Option T := match t, st with
  | .lst _ xs, none => if T.pureL xs then some (.lst true (cut xs lo hi)) else none
  | .tup xs, none => if T.pureL xs then some (.tup (cut xs lo hi)) else none
  | .str x, none => if x.length ≤ lim then some (.str ⟨(cut x.cps.toList lo hi).toArray⟩) else none
  | .lst _ xs, some (-1) => if T.pureL xs && lo.isNone && hi.isNone then some (.lst true xs.reverse) else none
  | .tup xs, some (-1) => if T.pureL xs && lo.isNone && hi.isNone then some (.tup xs.reverse) else none
  | .lst _ xs, some 1 => if T.pureL xs && lo.isNone && hi.isNone then some (.lst true xs) else none
  | _, _ => none
/-- the place of an index -/
def selOf : T → T → Option Sel
  | .lst _ xs, .int i => (ixN xs.length i).map .idx
  | .tup xs, .int i => (ixN xs.length i).map .idx
  | .dct _ ks _, k => (keyOf k).bind fun q => if keyFits q ks then some (.key q) else none
  | _, _ => none
def items : T → Option (List T)
  | .lst _ xs => some xs
  | .tup xs => some xs
  | .str x => some (x.cps.toList.map chr1)
  | .dct _ ks _ => some (ks.map ofKey)
  | _ => none
def rng (lo hi : Int) : List T := (List.range (hi - lo).toNat).map fun i => .int (lo + (i : Nat))
def small62 (i : Int) : Bool := decide (-(2 ^ 62) ≤ i) && decide (i < 2 ^ 62)
def zip2 : List T → List T → List T := fun a b => (a.zip b).map fun p => .tup [p.1, p.2]
def zip3 : List T → List T → List T → List T := fun a b c => (a.zip (b.zip c)).map fun p => .tup [p.1, p.2.1, p.2.2]
def enumL : Nat → List T → List T
  | _, [] => []
  | n, t :: ts => .tup [.int n, t] :: enumL (n + 1) ts
def bools : List T → Option (List Bool)
  | [] => some []
  | .bl b :: ts => (bools ts).map (b :: ·)
  | _ => none
def tInts : List T → Option (List Int)
  | [] => some []
  | .int b :: ts => (tInts ts).map (b :: ·)
  | _ => none
def tStrs : List T → Option (List Str)
  | [] => some []
  | .str b :: ts => (tStrs ts).map (b :: ·)
  | _ => none
def dedup {α : Type} [DecidableEq α] : List α → List α → List α
  | [], acc => acc
  | x :: xs, acc => if x ∈ acc then dedup xs acc else dedup xs (acc ++ [x])
def insS (x : Str) : List Str → List Str
  | [] => [x]
  | y :: ys => if x.cps.toList < y.cps.toList then x :: y :: ys else y :: insS x ys
def sortS : List Str → List Str
  | [] => []
  | x :: xs => insS x (sortS xs)
def lexI : List Int → List Int → Bool
  | [], [] => false
  | [], _ :: _ => true
  | _ :: _, [] => false
  | a :: as, b :: bs => if a < b then true else if b < a then false else lexI as bs
def intsT : List T → Option (List (List Int))
  | [] => some []
  | .tup xs :: ts => match tInts xs, intsT ts with | some a, some b => some (a :: b) | _, _ => none
  | _ => none
def insI (x : List Int) : List (List Int) → List (List Int)
  | [] => [x]
  | y :: ys => if lexI y x then y :: insI x ys else x :: y :: ys
def sortI : List (List Int) → List (List Int)
  | [] => []
  | x :: xs => insI x (sortI xs)
def sumL : List T → Option (List T)
  | [] => some []
  | .lst _ xs :: ts => (sumL ts).map (xs ++ ·)
  | _ => none
def pairsD : List T → Option (List Key × List T)
  | [] => some ([], [])
  | _ => none
def addPairs : List T → List Key → List T → Option (List Key × List T)
  | [], ks, vs => some (ks, vs)
  | .tup [k, v] :: ts, ks, vs => match keyOf k with
    | some q => let r := put ks vs q v; addPairs ts r.1 r.2
    | none => none
  | _ :: _, _, _ => none
mutual
/-- the same text by repr -/
def same : T → T → Bool
  | .non, .non => true
  | .bl a, .bl b => a == b
  | .int a, .int b => a == b
  | .str a, .str b => decide (a = b)
  | .tup xs, .tup ys => sameL xs ys
  | .lst _ xs, .lst _ ys => sameL xs ys
  | _, _ => false
def sameL : List T → List T → Bool
  | [], [] => true
  | x :: xs, y :: ys => same x y && sameL xs ys
  | _, _ => false
end
/-- built-in functions of values -/
def bLen (t : T) : Option T := match t with | .str x => if x.length ≤ lim then some (.int x.length) else none | .tup xs => some (.int xs.length) | .lst _ xs => some (.int xs.length) | .dct true ks _ => some (.int ks.length) | _ => none
def bInt (t : T) : Option T := match t with | .int i => some (.int i) | .bl b => some (.int (if b then 1 else 0)) | .str x => if x.length ≤ 640 then (intText? x).map .int else none | _ => none
def bBool (t : T) : Option T := match t with | .bl b => some (.bl b) | .int i => some (.bl (i != 0)) | _ => none
def bAbs (t : T) : Option T := match t with | .int i => some (.int (if i < 0 then -i else i)) | _ => none
def bStr (t : T) : Option T := match t with | .int i => if i.natAbs.log2 < 1920 then some (.str (toString i)) else none | .str x => some (.str x) | _ => none
def bAll (t : T) : Option T := match t with | .lst _ xs => (bools xs).map fun bs => .bl (bs.all id) | _ => none
def bAny (t : T) : Option T := match t with | .lst _ xs => (bools xs).map fun bs => .bl (bs.any id) | _ => none
def bTuple (t : T) : Option T := match t with | .lst _ xs => if T.pureL xs then some (.tup xs) else none | .tup xs => if T.pureL xs then some (.tup xs) else none | _ => none
def bList (t : T) : Option T := match t with | .lst _ xs => if T.pureL xs then some (.lst true xs) else none | .tup xs => if T.pureL xs then some (.lst true xs) else none | .dct true ks _ => some (.lst true (ks.map ofKey)) | _ => none
def bMax (t : T) : Option T := match t with | .lst _ xs => (tInts xs).bind fun is => (match is with | i :: is => some (.int (is.foldl (fun a b => if b > a then b else a) i)) | [] => none) | _ => none
def bSorted (t : T) : Option T := (items t).bind fun xs => match tStrs xs with
  | some ss => if ss.length < 64 then some (.lst true ((sortS ss).map .str)) else none
  | none => (intsT xs).map fun is => .lst true ((sortI is).map fun r => .tup (r.map .int))
def builtin1 (f : Str) : T → Option T :=
  if f = "len" then bLen else if f = "int" then bInt else if f = "bool" then bBool else if f = "abs" then bAbs else if f = "str" then bStr else if f = "all" then bAll
  else if f = "any" then bAny else if f = "tuple" then bTuple else if f = "list" then bList else if f = "max" then bMax else if f = "sorted" then bSorted else fun _ => none
def bMax2 (t u : T) : Option T := match t, u with | .int i, .int j => some (.int (if j > i then j else i)) | _, _ => none
def bMin2 (t u : T) : Option T := match t, u with | .int i, .int j => some (.int (if j < i then j else i)) | _, _ => none
def bSum2 (t u : T) : Option T := match t, u with | .lst _ xs, .lst _ [] => (sumL xs).bind fun ys => if T.pureL ys then some (.lst true ys) else none | _, _ => none
def builtin2 (f : Str) : T → T → Option T := if f = "max" then bMax2 else if f = "min" then bMin2 else if f = "sum" then bSum2 else fun _ _ => none

/-! ### places -/
/-- along its own objects -/
def T.getP : T → List Sel → Option T
  | t, [] => some t
  | .ins true _ ks vs, .fld f :: p => (look ks vs f).bind fun t => t.getP p
  | .lst true xs, .idx n :: p => (xs[n]?).bind fun t => t.getP p
  | .dct true ks vs, .key k :: p => (look ks vs k).bind fun t => t.getP p
  | _, _ => none
def plcGet (i : Nat) (p : List Sel) (E : Env) : Option T := (E[i]?).bind fun t => t.getP p
def plcSet (i : Nat) (p : List Sel) (u : T) (E : Env) : Env := match E[i]? with | some t => E.set i (t.set p u) | none => E
/-- the tree that is looked at -/
def view (r : R) (E : Env) : Option T := match r with
  | .val t => some t.fz
  | .plc i p => plcGet i p E
def view' (r : R) (E : Env) : Option T := match r with
  | .val t => some t
  | .plc i p => plcGet i p E
/-- the value handed on: what a place held is gone from it -/
def takeR (r : R) : M T := fun E => match r with
  | .val t => .ok t E
  | .plc i p => match plcGet i p E with
    | some t => .ok t (plcSet i p .hole E)
    | none => .bad
def viewR (r : R) : M T := fun E => match view r E with | some t => .ok t E | none => .bad
def takeAll : List R → M (List T)
  | [] => M.pure []
  | r :: rs => M.bind (takeR r) fun t => M.bind (takeAll rs) fun ts => M.pure (t :: ts)
/-- lends the arguments: first what may be changed is taken, then the rest is looked at -/
def takes : List R → List Bool → Env → Option (List T × Env)
  | [], _, E => some ([], E)
  | r :: rs, ms, E => if ms.headD false = true then (match r with
      | .val t => (takes rs (ms.drop 1) E).map fun q => (t :: q.1, q.2)
      | .plc i p => (match plcGet i p E with
        | some t => (takes rs (ms.drop 1) (plcSet i p .hole E)).map fun q => (t :: q.1, q.2)
        | none => none))
    else (takes rs (ms.drop 1) E).map fun q => (.hole :: q.1, q.2)
def looks : List R → List Bool → List T → Env → Option (List T)
  | [], _, _, _ => some []
  | r :: rs, ms, us, E => match us with
    | [] => none
    | u :: us => if ms.headD false = true then (looks rs (ms.drop 1) us E).map (u :: ·) else (match view' r E with
      | some t => (looks rs (ms.drop 1) us E).map (t.fz :: ·)
      | none => none)
/-- each place that was taken is still there, empty -/
def awayOk : List R → List Bool → Env → Bool
  | [], _, _ => true
  | .val _ :: rs, ms, E => awayOk rs (ms.drop 1) E
  | .plc i p :: rs, ms, E => (!(ms.headD false) || (match plcGet i p E with | some .hole => true | _ => false)) && awayOk rs (ms.drop 1) E
def lend (rs : List R) (ms : List Bool) (E : Env) : Option (List T × Env) := (takes rs ms E).bind fun q => if awayOk rs ms q.2 = true then (looks rs ms q.1 q.2).map fun ts => (ts, q.2) else none
/-- behind the call: what was lent stands where it stood -/
def giveBack : List R → List Bool → List T → Env → Option Env
  | [], _, _, E => some E
  | r :: rs, ms, as, E => match as with
    | [] => none
    | t :: ts => match r with
      | .val _ => giveBack rs (ms.drop 1) ts E
      | .plc i p => if ms.headD false = true then (match plcGet i p E with
          | some .hole => giveBack rs (ms.drop 1) ts (plcSet i p t E)
          | _ => none) else giveBack rs (ms.drop 1) ts E
def anyFrz : List R → List Bool → Bool
  | .plc _ _ :: rs, ms => !(ms.headD false) || anyFrz rs (ms.drop 1)
  | .val _ :: rs, ms => anyFrz rs (ms.drop 1)
  | [], _ => false
def mutFlags (d : FnI) : List Bool := (List.range d.params.length).map fun i => decide (i ∈ d.mu)

/-- the defaults of the parameters that are not given -/
def dflOf (d : FnI) (skip npos : Nat) : Option (List T) :=
  let n := d.params.length - skip
  if d.vararg || decide (npos > n) || decide (n - npos > d.dfl.length) then none else some (d.dfl.drop (d.dfl.length - (n - npos)))
/-- where a parameter's argument comes from -/
def planOf (d : FnI) (skip npos : Nat) (kws : List Str) : Option (List Src) :=
  let ps := d.params.drop skip
  if d.vararg || decide (npos > ps.length) then none
  else
    let rest := ps.drop npos
    let got := rest.map fun x => match kws.idxOf? x with
      | some j => some (Src.kw j)
      | none => (look (d.params.drop (d.params.length - d.dfl.length)) d.dfl x).map .dfl
    if kws.all (fun k => decide (k ∈ rest)) && decide (kws.Nodup) && got.all (·.isSome) then some ((List.range npos).map .pos ++ got.filterMap id) else none
def fill (rs ks : List R) : List Src → Option (List R)
  | [] => some []
  | .pos i :: l => match rs[i]?, fill rs ks l with | some r, some q => some (r :: q) | _, _ => none
  | .kw i :: l => match ks[i]?, fill rs ks l with | some r, some q => some (r :: q) | _, _ => none
  | .dfl t :: l => match fill rs ks l with | some q => some (.val t :: q) | none => none

/-! ### the pieces: what each construct does -/
def cVar (i : Nat) : M R := fun E => match E[i]? with
  | some t => match t with
    | .hole => .bad
    | .pin _ => .bad
    | t => if T.pureT t = true then .ok (.val t) E else .ok (.plc i []) E
  | none => .bad
def cVal (t : T) : M R := M.pure (.val t)
def cBool (m : M Bool) : M R := M.bind m fun b => M.pure (.val (.bl b))
def cNeg (m : M R) : M R := M.bind m fun r => M.bind (viewR r) fun t => match t with
  | .int i => M.pure (.val (.int (-i)))
  | _ => badM
def deep : R → Bool | .plc _ (_ :: _) => true | _ => false
/-- two values in a row; q: the second one changes nothing -/
def two {α : Type} (q : Bool) (a b : M R) (f : T → T → Option α) : M α := M.bind a fun r => M.bind (guardM (!(deep r) || q)) fun _ => M.bind b fun s =>
  M.bind (viewR r) fun x => M.bind (viewR s) fun y => ofO (f x y)
def cBin (op : Operator) (q : Bool) (a b : M R) : M R := M.bind (two q a b (binop op)) fun z => M.pure (.val z)
def cIf {α : Type} (t : M Bool) (a b : M α) : M α := M.bind t fun q => if q = true then a else b
/-- == of two instances: what the left one's class says -/
def eiOf (call : Calls) (meq : Str → Option Str) (t u : T) : Option Bool := match t with
  | .ins _ C _ _ => (match meq C with
    | some q => (match call q [t.fz, u.fz] with
      | .ret (.bl k) _ => some k
      | _ => none)
    | none => none)
  | _ => none
def tCmp (ei : T → T → Option Bool) (op : CmpOp) (q : Bool) (a b : M R) : M Bool := two q a b (cmpop ei op)
def intM (m : M R) : M Int := M.bind m fun r => match r with
  | .val (.int i) => M.pure i
  | _ => badM
/-- a op b op' d, of whole numbers -/
def cChain (ei : T → T → Option Bool) (op op' : CmpOp) (a b d : M R) : M R := M.bind (intM a) fun i => M.bind (intM b) fun j => M.bind (ofO (cmpop ei op (.int i) (.int j))) fun k => if k = true then
    M.bind (intM d) fun l => M.bind (ofO (cmpop ei op' (.int j) (.int l))) fun k' => M.pure (.val (.bl k'))
  else M.pure (.val (.bl false))
/-- what repr shows -/
def reprD (t : T) : Option PyData := match dataT 60 t with
  | some d => if (d.showable && !d.hasDict && d.leavesShort 13 && decide (d.bulk ≤ 1048576)) = true then some d else none
  | none => none
/-- repr(a) == repr(b), repr(a) != repr(b), of the same -/
def tRepr (op : CmpOp) (a b : M R) : M Bool := M.bind a fun r => M.bind (viewR r) fun t => M.bind (ofO (reprD t)) fun _ => M.bind b fun s => M.bind (viewR s) fun u =>
  M.bind (guardM (same t u)) fun _ => (match op with | .Eq => M.pure true | .NotEq => M.pure false | _ => badM)
def cAnd (a b : M R) : M R := M.bind a fun r => match r with
  | .val (.bl k) => if k = true then b else M.pure (.val (.bl false))
  | _ => badM
def cOr (a b : M R) : M R := M.bind a fun r => match r with
  | .val (.bl k) => if k = true then M.pure (.val (.bl true)) else b
  | _ => badM
def tTruth (m : M R) : M Bool := M.bind m fun r => M.bind (viewR r) fun t => ofO (truth t)
def tNot (m : M Bool) : M Bool := M.bind m fun b => M.pure (!b)
def tAnd (a b : M Bool) : M Bool := M.bind a fun k => if k = true then b else M.pure false
def tOr (a b : M Bool) : M Bool := M.bind a fun k => if k = true then M.pure true else b
def noFrzM : List Bool → List T → Bool
  | true :: ms, t :: ts => T.noFrz t && noFrzM ms ts
  | false :: ms, _ :: ts => noFrzM ms ts
  | _, _ => true
def doCall (xs : Bool) (call : Calls) (q : Str) (ms : List Bool) (rs : List R) : M T := fun E => if rs.length = ms.length then (match lend rs ms E with
  | none => .bad
  | some (ts, E1) => match call q ts with
    | .ret r as => if (!(anyFrz rs ms) || (T.noFrz r && noFrzM ms as)) = true then (match giveBack rs ms as E1 with | some E2 => .ok r E2 | none => .bad) else .bad
    | .exc x as => if xs = true then (match giveBack rs ms as E1 with | some E2 => .exc x E2 | none => .bad) else .bad
    | .bad => .bad) else .bad
/-- f(e, ..), the defaults behind -/
def cCall0 (xs : Bool) (call : Calls) (q : Str) (ms : List Bool) (dts : List T) (es : M (List R)) : M R := M.bind es fun rs => M.bind (doCall xs call q ms (rs ++ dts.map .val)) fun t => M.pure (.val t)
/-- f(..) -/
def cCall (xs : Bool) (call : Calls) (q : Str) (ms : List Bool) (pl : Option (List Src)) (es ks : M (List R)) : M R := M.bind es fun rs => M.bind ks fun ss =>
  M.bind (ofO (pl.bind (fill rs ss))) fun as => M.bind (doCall xs call q ms as) fun t => M.pure (.val t)
/-- f(..) with *rest, n parameters ahead of it -/
def cCallV (xs : Bool) (call : Calls) (q : Str) (ms : List Bool) (n : Nat) (es : M (List R)) : M R := M.bind es fun rs =>
  M.bind (guardM (decide (n ≤ rs.length))) fun _ => M.bind (takeAll (rs.drop n)) fun ts => M.bind (doCall xs call q ms (rs.take n ++ [.val (.tup ts)])) fun t => M.pure (.val t)
def doMake (xs : Bool) (call : Calls) (C : Str) (isE : Bool) (q : Str) (ms : List Bool) (rs : List R) : M T := fun E => if rs.length = ms.length then (match lend rs ms E with
  | none => .bad
  | some (ts, E1) => match call q ((if isE = true then T.err C [] [] else T.ins true C [] []) :: ts) with
    | .ret .non (x :: as) => if (!(anyFrz rs ms) || (T.noFrz x && noFrzM ms as)) = true then (match giveBack rs ms as E1 with | some E2 => .ok x E2 | none => .bad) else .bad
    | .exc x (_ :: as) => if xs = true then (match giveBack rs ms as E1 with | some E2 => .exc x E2 | none => .bad) else .bad
    | _ => .bad) else .bad
/-- C(e, ..), the defaults behind -/
def cMake0 (xs : Bool) (call : Calls) (C : Str) (isE : Bool) (q : Str) (ms : List Bool) (dts : List T) (es : M (List R)) : M T := M.bind es fun rs => doMake xs call C isE q ms (rs ++ dts.map .val)
/-- C(..): a new instance, its __init__ -/
def cMake (xs : Bool) (call : Calls) (C : Str) (isE : Bool) (q : Str) (ms : List Bool) (pl : Option (List Src)) (es ks : M (List R)) : M T := M.bind es fun rs => M.bind ks fun ss =>
  M.bind (ofO (pl.bind (fill rs ss))) fun as => doMake xs call C isE q ms as
def toV (m : M T) : M R := M.bind m fun t => M.pure (.val t)
def rootOwn : T → Bool | .lst o _ => o | .dct o _ _ => o | .ins o _ _ _ => o | _ => false
/-- what stands in an answer: shared, or a place further in -/
def childR (r : R) (own : Bool) (q : Sel) (u : T) : M R := if T.pureT u = true then M.pure (.val u) else if own = true then (match r with
  | .plc i p => M.pure (.plc i (p ++ [q]))
  | .val _ => badM) else badM
def attrT (r : R) (f : Str) (t : T) : M R := match t with
  | .ins o _ ks vs => (match look ks vs f with
    | some u => childR r o (.fld f) u
    | none => badM)
  | .err _ ks vs => (match look ks vs f with
    | some u => childR r false (.fld f) u
    | none => badM)
  | _ => badM
def attrR (r : R) (f : Str) : M R := M.bind (viewR r) (attrT r f)
def cAttr (m : M R) (f : Str) : M R := M.bind m fun r => attrR r f
/-- o.__class__.__name__ -/
def cClsName (m : M R) : M R := M.bind m fun r => M.bind (viewR r) fun t => match t with
  | .ins _ C _ _ => M.pure (.val (.str C))
  | _ => badM
def selR (r : R) (k t : T) : M R := match selOf t k with
    | none => badM
    | some q => (match t.get [q] with
      | none => badM
      | some u => childR r (rootOwn t) q u)
def subT (r : R) (k t : T) : M R := match t with
  | .str x => (match k with
    | .int j => (match atI x.cps.toList j with | some q => if x.length ≤ lim then M.pure (.val (chr1 q)) else badM | none => badM)
    | _ => badM)
  | t => selR r k t
def subR (r : R) (k : T) : M R := M.bind (viewR r) (subT r k)
def isPlc : R → Bool | .plc _ _ => true | .val _ => false
def cSub (q : Bool) (a b : M R) : M R := M.bind a fun r => M.bind (guardM (!(isPlc r) || q)) fun _ => M.bind b fun s => M.bind (viewR s) fun k => subR r k
def oNone : M (Option Int) := M.pure none
def oSome (m : M R) : M (Option Int) := M.bind m fun r => match r with
  | .val (.int i) => M.pure (some i)
  | _ => badM
def cSlice (a : M R) (lo hi st : M (Option Int)) : M R := M.bind a fun r => M.bind lo fun x => M.bind hi fun y => M.bind st fun z =>
  M.bind (guardM (!(deep r))) fun _ => M.bind (viewR r) fun t => M.bind (ofO (slice t x y z)) fun u => M.pure (.val u)
def cRevL (a : M R) : M R := M.bind a fun r => M.bind (viewR r) fun t => match t with
  | .lst _ xs => M.bind (guardM (T.pureL xs)) fun _ => M.pure (.val (.lst true xs.reverse))
  | _ => badM
def lNil {α : Type} : M (List α) := M.pure []
/-- arguments: places or values -/
def lArg (q : Bool) (a : M R) (l : M (List R)) : M (List R) := M.bind a fun r => M.bind (guardM (!(deep r) || q)) fun _ => M.bind l fun rs => M.pure (r :: rs)
/-- items of a display -/
def lItem (q : Bool) (a : M R) (l : M (List T)) : M (List T) := M.bind a fun r => M.bind (guardM (!(deep r) || q)) fun _ => M.bind l fun ts => M.bind (takeR r) fun t => M.pure (t :: ts)
def seqOf : T → Option (List T) | .lst _ xs => some xs | .tup xs => some xs | _ => none
def lStar (a : M R) (l : M (List T)) : M (List T) := M.bind a fun r => M.bind (viewR r) fun t => M.bind (ofO (seqOf t)) fun xs => M.bind (guardM (T.pureL xs)) fun _ => M.bind l fun ts =>
  M.bind (guardM (decide (xs.length + ts.length ≤ lim))) fun _ => M.pure (xs ++ ts)
def limL (l : M (List T)) : M (List T) := M.bind l fun ts => M.bind (guardM (decide (ts.length ≤ lim))) fun _ => M.pure ts
def cList (l : M (List T)) : M R := M.bind (limL l) fun ts => M.pure (.val (.lst true ts))
def cTup (l : M (List T)) : M R := M.bind (limL l) fun ts => M.pure (.val (.tup ts))
def pKV (k v : M R) : M T := M.bind k fun r => M.bind (viewR r) fun x => M.bind v fun s => M.bind (takeR s) fun y => M.pure (.tup [x, y])
def lPair (p : M T) (l : M (List T)) : M (List T) := M.bind p fun t => M.bind l fun ts => M.pure (t :: ts)
def cDict (l : M (List T)) : M R := M.bind l fun ps => M.bind (ofO (addPairs ps [] [])) fun q => M.pure (.val (.dct true q.1 q.2))
def wipeE (own : List Nat) (E : Env) : Env := own.foldr (fun i E => E.set i .hole) E
def restoreE (own : List Nat) (E0 E : Env) : Env := own.foldr (fun i E => match E0[i]? with | some t => E.set i t | none => E) E
def ownOk (own : List Nat) (E : Env) : Bool := own.all fun i => match E[i]? with
  | some .hole => true
  | some t => T.pureT t
  | none => false
def wipeM (own : List Nat) : M Unit := fun E => .ok () (wipeE own E)
/-- over items: what is kept, in order -/
def compL {α : Type} (own : List Nat) (step : T → M (List α)) : List T → List α → M (List α)
  | [], acc => M.pure acc
  | t :: ts, acc => M.bind (wipeM own) fun _ => M.bind (step t) fun xs => compL own step ts (acc ++ xs)
/-- one turn: target, test, what is made of it -/
def turnM {α : Type} (tg : T → M Unit) (ifs : M Bool) (f : M (List α)) (x : T) : M (List α) := M.bind (tg x) fun _ => M.bind ifs fun b => if b = true then f else M.pure []
/-- one clause -/
def clause {α : Type} (own : List Nat) (it : M (List T)) (tg : T → M Unit) (ifs : M Bool) (f : M (List α)) : M (List α) := M.bind it fun xs => compL own (turnM tg ifs f) xs []
def one {α : Type} (m : M α) : M (List α) := M.bind m fun t => M.pure [t]
def takeM (m : M R) : M T := M.bind m takeR
/-- the block of a comprehension: the walked thing outside, the rest within -/
def blkR {α β : Type} (own : List Nat) (k : M (List α)) (f : List α → Option β) : M β := fun E =>
  if ownOk own E = true then (match k (wipeE own E) with
    | .ok as E' => (match f as with | some b => .ok b (restoreE own E (wipeE own E')) | none => .bad)
    | _ => .bad) else .bad
def blk {α β : Type} (own : List Nat) (it : M (List T)) (k : List T → M (List α)) (f : List α → Option β) : M β := M.bind it fun xs => blkR own (k xs) f
/-- .. over an own list that a slot holds: it is away meanwhile -/
def blkN {α β : Type} (own : List Nat) (i : Nat) (it : M (List T)) (k : List T → M (List α)) (f : List α → Option β) : M β := fun E => match E[i]? with
  | some (.lst true xs) => if (T.pureL xs && !own.contains i) = true then (match blkR own (k xs) f (E.set i .hole) with
      | .ok b E' => .ok b (E'.set i (.lst true xs))
      | .exc x E' => .exc x E'
      | .bad => .bad) else .bad
  | _ => blk own it k f E
def mkList (two : Bool) (ts : List T) : Option R := if (!two || decide (ts.length ≤ lim)) = true then some (.val (.lst true ts)) else none
def mkDict (ps : List T) : Option R := (addPairs ps [] []).map fun q => .val (.dct true q.1 q.2)
def itemsI (t : T) : Option (List T) := match t with
  | .str x => if x.length ≤ lim then some (x.cps.toList.map chr1) else none
  | .lst _ xs => some xs
  | .tup xs => some xs
  | _ => none
def iOf (m : M R) : M (List T) := M.bind m fun r => match r with
  | .val t => M.bind (ofO (itemsI t.fz)) fun xs => M.bind (guardM (T.pureL xs)) fun _ => M.pure xs
  | .plc _ _ => badM
def iRng1 (a : M R) : M (List T) := M.bind a fun r => match r with
  | .val (.int j) => M.bind (guardM (small62 j && decide (j ≤ lim))) fun _ => M.pure (rng 0 j)
  | _ => badM
def iRng (a b : M R) : M (List T) := M.bind a fun r => M.bind b fun s => match r with
  | .val (.int i) => (match s with
    | .val (.int j) => M.bind (guardM (small62 i && small62 j && decide (j - i ≤ lim))) fun _ => M.pure (rng i j)
    | _ => badM)
  | _ => badM
def iW (ks : List Str) : M (List T) := M.pure (ks.map .str)
def iEnum (m : M (List T)) : M (List T) := M.bind m fun xs => M.pure (enumL 0 xs)
def iZip2 (a b : M (List T)) : M (List T) := M.bind a fun xs => M.bind b fun ys => M.pure (zip2 xs ys)
def iZip3 (a b d : M (List T)) : M (List T) := M.bind a fun xs => M.bind b fun ys => M.bind d fun zs => M.pure (zip3 xs ys zs)
def cIsA (gi : GI) (m : M R) (cs : List Str) : M R := M.bind m fun r => M.bind (viewR r) fun t => M.bind (ofO (isAny gi t cs)) fun q => M.pure (.val (.bl q))
def cB1 (f : T → Option T) (m : M R) : M R := M.bind m fun r => M.bind (viewR r) fun t => M.bind (ofO (f t)) fun u => M.pure (.val u)
def cB2 (f : T → T → Option T) (q : Bool) (a b : M R) : M R := M.bind (two q a b f) fun z => M.pure (.val z)
def cDictOf (it : M (List T)) : M R := M.bind it fun xs => M.bind (ofO (addPairs xs [] [])) fun q => M.pure (.val (.dct true q.1 q.2))
def cDictC (m : M R) : M R := M.bind m fun r => M.bind (takeR r) fun t => match t with
  | .lst _ xs => M.bind (ofO (addPairs xs [] [])) fun q => M.pure (.val (.dct true q.1 q.2))
  | .dct _ ks vs => if T.pureL vs = true then M.pure (.val (.dct true ks vs)) else badM
  | _ => badM
def cSeq (tup : Bool) (it : M (List T)) : M R := M.bind it fun xs => M.pure (.val (if tup = true then .tup xs else .lst true xs))
def cLenSet (it : M (List T)) : M R := M.bind it fun xs => M.bind (ofO (tStrs xs)) fun ss => M.pure (.val (.int (dedup ss []).length))
def cSortSet (it : M (List T)) : M R := M.bind it fun xs => M.bind (ofO (tStrs xs)) fun ss => M.pure (.val (.lst true ((sortS (dedup ss [])).map .str)))
/-- o.m(..) of an own class; the plan of each class's method -/
structure MPlan where
  q : Str
  ms : List Bool
  pl : Option (List Src)
def cMeth (xs : Bool) (call : Calls) (plan : Str → Option MPlan) (q : Bool) (m : M R) (es ks : M (List R)) : M R := M.bind m fun r => M.bind (guardM (!(deep r) || q)) fun _ => M.bind (viewR r) fun t => match t with
  | .ins _ C _ _ => (match plan C with
    | some p => M.bind es fun rs => M.bind ks fun ss => M.bind (ofO (p.pl.bind (fill rs ss))) fun as => M.bind (doCall xs call p.q p.ms (r :: as)) fun t => M.pure (.val t)
    | none => badM)
  | _ => badM
def atPlc (r : R) (f : T → Option (T × T)) : M R := fun E => match r with
  | .plc i p => (match plcGet i p E with
    | some t => (match f t with
      | some q => .ok (.val q.1) (plcSet i p q.2 E)
      | none => .bad)
    | none => .bad)
  | .val _ => .bad
def recv (q : Bool) (m : M R) (k : R → M R) : M R := M.bind m fun r => M.bind (guardM (!(deep r) || q)) fun _ => k r
def fAppend (t u : T) : Option (T × T) := match u with
  | .lst true xs => if xs.length < lim then some (.non, .lst true (xs ++ [t.fz])) else none
  | _ => none
def fExtend (t u : T) : Option (T × T) := match u, seqOf t with
  | .lst true xs, some ys => if T.pureL ys = true ∧ xs.length + ys.length ≤ lim then some (.non, .lst true (xs ++ ys)) else none
  | _, _ => none
def fPop (u : T) : Option (T × T) := match u with
  | .lst true xs => (match xs[xs.length - 1]? with | some t => some (t, .lst true xs.dropLast) | none => none)
  | _ => none
def fPopAt (k u : T) : Option (T × T) := match u with
  | .lst true xs => (match k with
    | .int j => (match ixN xs.length j with
      | some k => (match xs[k]? with | some t => some (t, .lst true (xs.eraseIdx k)) | none => none)
      | none => none)
    | _ => none)
  | .dct true ks vs => (match keyOf k with
    | some q => (match look ks vs q with
      | some t => let z := (ks.zip vs).filter fun y => decide (y.1 ≠ q); some (t, .dct true (z.map (·.1)) (z.map (·.2)))
      | none => none)
    | none => none)
  | _ => none
def fRemove (k u : T) : Option (T × T) := match u, k with
  | .lst true xs, .str x => (match tStrs xs with
    | some ss => (match ss.idxOf? x with | some k => some (.non, .lst true (xs.eraseIdx k)) | none => none)
    | none => none)
  | _, _ => none
def fUpdate (t u : T) : Option (T × T) := match u, t with
  | .dct true ks vs, .dct _ ks' vs' => (addPairs (zip2 (ks'.map ofKey) vs') ks vs).map fun q => (.non, .dct true q.1 q.2)
  | _, _ => none
def isLst : T → Bool | .lst true _ => true | _ => false
def recvL (q : Bool) (m : M R) (k : R → M R) : M R := M.bind m fun r => M.bind (guardM (!(deep r) || q)) fun _ => M.bind (viewR r) fun t => M.bind (guardM (isLst t)) fun _ => k r
def cAppend (q : Bool) (m a : M R) : M R := recvL q m fun r => M.bind a fun s => M.bind (takeR s) fun t => atPlc r (fAppend t)
def cExtend (q : Bool) (m a : M R) : M R := recv q m fun r => M.bind a fun s => M.bind (viewR s) fun t => atPlc r (fExtend t)
def cPop (m : M R) : M R := recv true m fun r => atPlc r fPop
def cPopAt (q : Bool) (m a : M R) : M R := recv q m fun r => M.bind a fun s => M.bind (viewR s) fun t => atPlc r (fPopAt t)
def cRemove (q : Bool) (m a : M R) : M R := recv q m fun r => M.bind a fun s => M.bind (viewR s) fun t => atPlc r (fRemove t)
def cUpdate (q : Bool) (m a : M R) : M R := recv q m fun r => M.bind a fun s => M.bind (takeR s) fun t => atPlc r (fUpdate t)
def idxT (x t : T) : Option Nat := match t with
  | .lst _ xs => (match x with
    | .str y => (tStrs xs).bind fun ss => ss.idxOf? y
    | .int y => (tInts xs).bind fun ss => ss.idxOf? y
    | _ => none)
  | .tup xs => (match x with
    | .str y => (tStrs xs).bind fun ss => ss.idxOf? y
    | _ => none)
  | _ => none
def cIndex (q : Bool) (m a : M R) : M R := recv q m fun r => M.bind a fun s => M.bind (viewR s) fun x => M.bind (viewR r) fun t => M.bind (ofO (idxT x t)) fun k => M.pure (.val (.int k))
def getT (x d t : T) : Option T := match t, keyOf x with
  | .dct _ ks vs, some q => let u := (look ks vs q).getD d; if T.pureT u.fz = true then some u.fz else none
  | _, _ => none
def cGet1 (q : Bool) (m a : M R) : M R := recv q m fun r => M.bind a fun s => M.bind (viewR s) fun x => M.bind (viewR r) fun t => M.bind (ofO (getT x .non t)) fun u => M.pure (.val u)
def cGet2 (q : Bool) (m a b : M R) : M R := recv q m fun r => M.bind a fun s => M.bind (viewR s) fun x => M.bind b fun s' => M.bind (viewR s') fun y => M.bind (viewR r) fun t => M.bind (ofO (getT x y t)) fun u => M.pure (.val u)
def cJoin (m : M R) (it : M (List T)) : M R := M.bind m fun r => M.bind (viewR r) fun t => match t with
  | .str x => M.bind it fun xs => M.bind (ofO (tStrs xs)) fun ss => M.pure (.val (.str (Txt.join x ss)))
  | _ => badM
def cSplit (q : Bool) (m a : M R) : M R := two q m a (fun t u => match t, u with
  | .str x, .str y => if y.length == 0 then none else if x.length + 2 ≤ lim then some (R.val (.lst true ((Txt.split x y).map .str))) else none
  | _, _ => none)

/-! ### targets -/
inductive Md where | sh | own | dp
def Md.fix : Md → T → T
  | .sh, t => t.fz
  | .own, t => t.fz1
  | .dp, t => t
def gSlot (md : Md) (i : Nat) (t : T) : M Unit := fun E => match E[i]? with
  | none => .bad
  | some _ => .ok () (E.set i (md.fix t))
def gNil : List T → M Unit | [] => M.pure () | _ => badM
def gCons (g : T → M Unit) (gs : List T → M Unit) : List T → M Unit
  | t :: ts => M.bind (g t) fun _ => gs ts
  | [] => badM
def gTup (n : Nat) (gs : List T → M Unit) (t : T) : M Unit := match t with
  | .tup xs => if xs.length = n then gs xs else badM
  | .lst _ xs => if T.pureL xs = true ∧ xs.length = n then gs xs else badM
  | _ => badM
def gAttr (m : M R) (f : Str) (t : T) : M Unit := M.bind m fun r => M.bind (atPlc r fun u => match u with
  | .ins true C ks vs => if ks.length < 1000 then some (.non, .ins true C (put ks vs f t).1 (put ks vs f t).2) else none
  | _ => none) fun _ => M.pure ()
def gErr (i : Nat) (f : Str) (t : T) : M Unit := fun E => match E[i]? with
  | some (.err C ks vs) => if T.pureT t = true then (let q := put ks vs f t; .ok () (E.set i (.err C q.1 q.2))) else .bad
  | _ => .bad
def gSub (q : Bool) (m k : M R) (t : T) : M Unit := M.bind m fun r => M.bind (guardM (!(deep r) || q)) fun _ => M.bind k fun s => M.bind (viewR s) fun y => M.bind (atPlc r fun u => match u with
  | .lst true xs => (match y with
    | .int j => (ixN xs.length j).map fun n => (.non, .lst true (xs.set n t))
    | _ => none)
  | .dct true ks vs => (keyOf y).bind fun k => if ks.length < lim then (let z := put ks vs k t; some (.non, .dct true z.1 z.2)) else none
  | _ => none) fun _ => M.pure ()

/-! ### statements -/
inductive Fl where | nx | ret (t : T) | brk | ct
def sNx : M Fl := M.pure .nx
def sRet (m : M R) : M Fl := M.bind m fun r => M.bind (takeR r) fun t => M.pure (.ret t)
def sRetN : M Fl := M.pure (.ret .non)
def sExpr (m : M R) : M Fl := M.bind m fun _ => M.pure .nx
def sAsg (m : M R) (g : T → M Unit) : M Fl := M.bind m fun r => M.bind (takeR r) fun t => M.bind (g t) fun _ => M.pure .nx
/-- a, b = x, y -/
def sPar (n : Nat) (l : M (List T)) (gs : List T → M Unit) : M Fl := M.bind l fun ts => M.bind (guardM (decide (ts.length = n))) fun _ => M.bind (gs ts) fun _ => M.pure .nx
def sSeq (a b : M Fl) : M Fl := M.bind a fun f => match f with
  | .nx => b
  | f => M.pure f
/-- over items: a body -/
def forL (body : T → M Fl) : List T → M Fl
  | [] => M.pure .nx
  | t :: ts => M.bind (body t) fun f => match f with
    | .nx => forL body ts
    | .ct => forL body ts
    | .brk => M.pure .nx
    | .ret r => M.pure (.ret r)
def sFor (it : M (List T)) (g : T → M Unit) (body : M Fl) : M Fl := M.bind it fun xs => forL (fun x => M.bind (g x) fun _ => body) xs
def whileL (test : M Bool) (body : M Fl) : Nat → M Fl
  | 0 => badM
  | n + 1 => M.bind test fun b => if b = true then M.bind body fun f => match f with
      | .nx => whileL test body n
      | .ct => whileL test body n
      | .brk => M.pure .nx
      | .ret r => M.pure (.ret r)
    else M.pure .nx
def whileFuel : Nat := 1000000
def sWhile (t : M Bool) (b : M Fl) : M Fl := whileL t b whileFuel
def sRaise (m : M T) : M Fl := M.bind m fun t => fun E => .exc t E
/-- super().__init__(..) -/
def sSuper (xs : Bool) (call : Calls) (q : Str) (ms : List Bool) (pl : Option (List Src)) (es : M (List R)) : M Fl := M.bind es fun rs =>
  M.bind (ofO (pl.bind (fill rs []))) fun as => M.bind (doCall xs call q ms (.plc 0 [] :: as)) fun _ => M.pure .nx
def sSuperV (xs : Bool) (call : Calls) (q : Str) (ms : List Bool) (es : M (List R)) : M Fl := M.bind es fun rs =>
  M.bind (takeAll rs) fun ts => M.bind (doCall xs call q ms [.plc 0 [], .val (.tup ts)]) fun _ => M.pure .nx
/-- super().__init__(..) of an exception: nothing that is seen -/
def sSuperE (es : M (List R)) : M Fl := M.bind es fun _ => M.pure .nx
def sTry (sub : Str → Bool) (i : Nat) (body suite : M Fl) : M Fl := fun E => match body E with
  | .ok f E' => .ok f E'
  | .bad => .bad
  | .exc x E' => match x with
    | .err C ks vs => if sub C = true then (match suite (E'.set i (.err C ks vs)) with
        | .ok f E'' => .ok f (E''.set i .hole)
        | _ => .bad) else .exc (.err C ks vs) E'
    | _ => .bad

def runM (d : FnI) (m : M Fl) (args : List T) : CallRes :=
  if args.length = d.params.length then
    match m (args ++ List.replicate (d.N.length - args.length) .hole) with
    | .ok (.ret r) E => .ret r (E.take args.length)
    | .ok .nx E => .ret .non (E.take args.length)
    | .ok _ _ => .bad
    | .exc x E => .exc x (E.take args.length)
    | .bad => .bad
  else .bad
end PV

/-! V2: what a tree is at an address -/
namespace PV
open PySem L2

structure G where
  K : PySem.W.Frag
  cls : Str → Option Addr
  fn : Str → Option Addr
  /-- a dict of the written part: its pairs -/
  wd : Addr → Option (List (Key × V))
  /-- a class of exceptions -/
  ecl : Str → Option Addr
/-- an exception at a, its class, its dict -/
def exq (cls : Value) (d : Option Addr) (a : Addr) : HO := .ext fun h => ∃ (oe : Obj) (vs : Array Value), h.get? a = some oe ∧ Zc cls d oe ∧ oe.data = .fields vs
/-- the dict of an exception -/
def XD (H : Hp) (d : Option Addr) (fs : List (Str × V)) : Prop := match d with | none => fs = [] | some dd => H dd = some (.xd fs)

/-- a list of the written part -/
def KL (K : PySem.W.Frag) (a : Addr) (xs : List V) : Prop := ∃ (o : Obj) (its : Array Value) (n : Nat), K.lookup a = some o ∧ o.cls = .type "list" ∧ o.dict = none ∧ o.data = .seq its n ∧ its.size ≤ sizeLine ∧ Vals xs its.toList
def LstF (K : PySem.W.Frag) (F : Addr → Prop) (H : Hp) (a : Addr) (vs : List V) : Prop := (F a ∧ H a = some (.lst vs)) ∨ (∃ o, H a = some (.frz o (.lst vs))) ∨ KL K a vs
mutual
def Rep (g : G) (F : Addr → Prop) (H : Hp) : T → V → List Addr → Prop
  | .pin v0, v, fp => v = v0 ∧ fp = []
  | .hole, _, fp => fp = []
  | .non, v, fp => v = .non ∧ fp = []
  | .bl b, v, fp => v = .bl b ∧ fp = []
  | .int i, v, fp => v = .int i ∧ fp = []
  | .str x, v, fp => v = .str x ∧ fp = []
  | .fn f, v, fp => (∃ a, g.fn f = some a ∧ v = .ref a) ∧ fp = []
  | .tup xs, v, fp => ∃ a vs, v = .ref a ∧ SqT g.K H a vs ∧ RepL g F H xs vs fp
  | .lst o xs, v, fp => ∃ a vs fs, v = .ref a ∧ RepL g F H xs vs fs ∧
      ((o = true ∧ H a = some (.lst vs) ∧ fp = a :: fs) ∨ (o = false ∧ LstF g.K F H a vs ∧ fs = [] ∧ fp = []))
  | .dct o ks ts, v, fp => ∃ a vs fs, v = .ref a ∧ RepL g F H ts vs fs ∧ ks.length = vs.length ∧ ks.Nodup ∧
      ((o = true ∧ H a = some (.dK (ks.zip vs)) ∧ fp = a :: fs) ∨ (o = false ∧ ((H a = some (.dK (ks.zip vs)) ∧ F a) ∨ g.wd a = some (ks.zip vs)) ∧ fs = [] ∧ fp = []))
  | .ins o C ks ts, v, fp => ∃ a Ca dx vs fs, v = .ref a ∧ g.cls C = some Ca ∧ RepL g F H ts vs fs ∧ ks.length = vs.length ∧ ks.Nodup ∧ H a = some (.ins Ca dx (ks.zip vs)) ∧
      ((o = true ∧ fp = a :: fs) ∨ (o = false ∧ F a ∧ fs = [] ∧ fp = []))
  | .err C ks ts, v, fp => ∃ a Ca d vs, v = .ref a ∧ g.ecl C = some Ca ∧ RepL g F H ts vs [] ∧ ks.length = vs.length ∧ ks.Nodup ∧ F a ∧ H a = some (exq (.ref Ca) d a) ∧ XD H d (ks.zip vs) ∧ fp = []
def RepL (g : G) (F : Addr → Prop) (H : Hp) : List T → List V → List Addr → Prop
  | [], vs, fp => vs = [] ∧ fp = []
  | t :: ts, vs, fp => ∃ v vs' f1 f2, vs = v :: vs' ∧ fp = f1 ++ f2 ∧ Rep g F H t v f1 ∧ RepL g F H ts vs' f2
end
/-- the slots -/
def RepO (g : G) (F : Addr → Prop) (H : Hp) (t : T) (o : Option V) (fp : List Addr) : Prop := match t with
  | .hole => fp = []
  | t => ∃ v, o = some v ∧ Rep g F H t v fp
def RepE (g : G) (F : Addr → Prop) (H : Hp) : List T → List (Option V) → List Addr → Prop
  | [], σ, fp => σ = [] ∧ fp = []
  | t :: ts, σ, fp => ∃ v σ' f1 f2, σ = v :: σ' ∧ fp = f1 ++ f2 ∧ RepO g F H t v f1 ∧ RepE g F H ts σ' f2

structure Wf (F : Addr → Prop) (H : Hp) (fp : List Addr) : Prop where
  nd : fp.Nodup
  dj : ∀ a ∈ fp, ¬ F a
  dom : ∀ a, F a → ∃ o, H a = some o
structure Aft (F F' : Addr → Prop) (H H' : Hp) (fp fp' : List Addr) : Prop where
  ff : ∀ a, F a → F' a
  fn : ∀ a, F' a → F a ∨ a ∈ fp ∨ H a = none
  keep : ∀ a o, H a = some o → a ∉ fp → H' a = some o
  new : ∀ a ∈ fp', a ∈ fp ∨ H a = none
  tups : ∀ a o, H a = some o → ¬ Mut (some o) → H' a = some o

section
variable {g : G} {F F' F'' : Addr → Prop} {H H' H'' : Hp} {t u : T} {ts us : List T} {v w : V} {vs ws : List V} {fp fp' fp'' fq : List Addr} {a : Addr}

/-- what a tree leans on stays -/
def Stay (F F' : Addr → Prop) (H H' : Hp) (fp : List Addr) : Prop :=
  (∀ a, F a → F' a) ∧ ∀ a o, H a = some o → (a ∈ fp ∨ F a ∨ ¬ Mut (some o)) → H' a = some o
theorem Stay.sub (s : Stay F F' H H' fp) (h : ∀ a ∈ fq, a ∈ fp) : Stay F F' H H' fq := ⟨s.1, fun a o e q => s.2 a o e (q.imp (h a) id)⟩
theorem sqT_stay {xs : List V} (s : Stay F F' H H' fp) (h : SqT g.K H a xs) : SqT g.K H' a xs := by
  rcases h with (h | ⟨o, h⟩) | h
  · exact .inl (.inl (s.2 a _ h (.inr (.inr fun z => z))))
  · exact .inl (.inr ⟨o, s.2 a _ h (.inr (.inr fun z => z))⟩)
  · exact .inr h
theorem xd_stay {d : Option Addr} {fs : List (Str × V)} (s : Stay F F' H H' fp) (h : XD H d fs) : XD H' d fs := by
  cases d with
  | none => exact h
  | some dd => exact s.2 dd _ h (.inr (.inr fun z => z))
theorem lstF_stay {xs : List V} (s : Stay F F' H H' fp) (h : LstF g.K F H a xs) : LstF g.K F' H' a xs := by
  rcases h with ⟨h1, h2⟩ | ⟨o, h⟩ | h
  · exact .inl ⟨s.1 a h1, s.2 a _ h2 (.inr (.inl h1))⟩
  · exact .inr (.inl ⟨o, s.2 a _ h (.inr (.inr fun z => z))⟩)
  · exact .inr (.inr h)
theorem LstF.sq {xs : List V} (h : LstF g.K F H a xs) : SqL g.K H a xs := by
  rcases h with ⟨_, h2⟩ | ⟨o, h⟩ | h
  · exact .inl (.inl h2)
  · exact .inl (.inr ⟨o, h⟩)
  · exact .inr h
mutual
theorem Rep.stay : ∀ (t : T) {v : V} {fp : List Addr}, Rep g F H t v fp → Stay F F' H H' fp → Rep g F' H' t v fp
  | .pin v0, v, fp, h, _ => h
  | .hole, v, fp, h, _ => h
  | .non, v, fp, h, _ => h
  | .bl b, v, fp, h, _ => h
  | .int i, v, fp, h, _ => h
  | .str x, v, fp, h, _ => h
  | .fn f, v, fp, h, _ => h
  | .tup xs, v, fp, h, s => by
    obtain ⟨a, vs, rfl, q, r⟩ := h
    exact ⟨a, vs, rfl, sqT_stay s q, RepL.stay xs r s⟩
  | .lst o xs, v, fp, h, s => by
    obtain ⟨a, vs, fs, rfl, r, ⟨rfl, e, rfl⟩ | ⟨rfl, q, rfl, rfl⟩⟩ := h
    · exact ⟨a, vs, fs, rfl, RepL.stay xs r (s.sub fun b hb => List.mem_cons_of_mem _ hb), .inl ⟨rfl, s.2 _ _ e (.inl (List.mem_cons_self)), rfl⟩⟩
    · exact ⟨a, vs, [], rfl, RepL.stay xs r s, .inr ⟨rfl, lstF_stay s q, rfl, rfl⟩⟩
  | .dct o ks ts, v, fp, h, s => by
    obtain ⟨a, vs, fs, rfl, r, l, n, ⟨rfl, e, rfl⟩ | ⟨rfl, q, rfl, rfl⟩⟩ := h
    · exact ⟨a, vs, fs, rfl, RepL.stay ts r (s.sub fun b hb => List.mem_cons_of_mem _ hb), l, n, .inl ⟨rfl, s.2 _ _ e (.inl (List.mem_cons_self)), rfl⟩⟩
    · exact ⟨a, vs, [], rfl, RepL.stay ts r s, l, n, .inr ⟨rfl, q.imp (fun ⟨e, f⟩ => ⟨s.2 _ _ e (.inr (.inl f)), s.1 _ f⟩) id, rfl, rfl⟩⟩
  | .ins o C ks ts, v, fp, h, s => by
    obtain ⟨a, Ca, dx, vs, fs, rfl, c, r, l, n, e, ⟨rfl, rfl⟩ | ⟨rfl, f, rfl, rfl⟩⟩ := h
    · exact ⟨a, Ca, dx, vs, fs, rfl, c, RepL.stay ts r (s.sub fun b hb => List.mem_cons_of_mem _ hb), l, n, s.2 _ _ e (.inl (List.mem_cons_self)), .inl ⟨rfl, rfl⟩⟩
    · exact ⟨a, Ca, dx, vs, [], rfl, c, RepL.stay ts r s, l, n, s.2 _ _ e (.inr (.inl f)), .inr ⟨rfl, s.1 _ f, rfl, rfl⟩⟩
  | .err C ks ts, v, fp, h, s => by
    obtain ⟨a, Ca, d, vs, rfl, c, r, l, n, f, e, x, rfl⟩ := h
    exact ⟨a, Ca, d, vs, rfl, c, RepL.stay ts r s, l, n, s.1 _ f, s.2 _ _ e (.inr (.inl f)), xd_stay s x, rfl⟩
theorem RepL.stay : ∀ (ts : List T) {vs : List V} {fp : List Addr}, RepL g F H ts vs fp → Stay F F' H H' fp → RepL g F' H' ts vs fp
  | [], vs, fp, h, _ => h
  | t :: ts, vs, fp, h, s => by
    obtain ⟨v, vs', f1, f2, rfl, rfl, h1, h2⟩ := h
    exact ⟨v, vs', f1, f2, rfl, rfl, Rep.stay t h1 (s.sub fun a ha => List.mem_append_left _ ha), RepL.stay ts h2 (s.sub fun a ha => List.mem_append_right _ ha)⟩
end
theorem RepO.of {o : Option V} (h : o = some v) (r : Rep g F H t v fp) : RepO g F H t o fp := by
  cases t <;> first | exact r | exact ⟨v, h, r⟩
theorem RepO.at {o : Option V} (r : RepO g F H t o fp) (h : t ≠ .hole) : ∃ v, o = some v ∧ Rep g F H t v fp := by
  cases t <;> first | exact r | exact (h rfl).elim
theorem RepO.stay {o : Option V} (r : RepO g F H t o fp) (s : Stay F F' H H' fp) : RepO g F' H' t o fp := by
  by_cases e : t = .hole
  · subst e; exact r
  · obtain ⟨v, h, q⟩ := r.at e
    exact .of h (Rep.stay t q s)
theorem RepE.stay : ∀ {ts : List T} {σ : List (Option V)} {fp : List Addr}, RepE g F H ts σ fp → Stay F F' H H' fp → RepE g F' H' ts σ fp
  | [], σ, fp, h, _ => h
  | t :: ts, σ, fp, h, s => by
    obtain ⟨v, vs', f1, f2, rfl, rfl, h1, h2⟩ := h
    exact ⟨v, vs', f1, f2, rfl, rfl, h1.stay (s.sub fun a ha => List.mem_append_left _ ha), RepE.stay h2 (s.sub fun a ha => List.mem_append_right _ ha)⟩
/-! owned addresses hold what may be written -/
mutual
theorem Rep.own : ∀ (t : T) {v : V} {fp : List Addr}, Rep g F H t v fp → ∀ a ∈ fp, ∃ o, H a = some o ∧ Mut (some o)
  | .pin v0, v, fp, h => by obtain ⟨_, rfl⟩ := h; exact fun _ z => nomatch z
  | .hole, v, fp, h => by have e : fp = [] := h; subst e; exact fun _ z => nomatch z
  | .non, v, fp, h => by obtain ⟨_, rfl⟩ := h; exact fun _ z => nomatch z
  | .bl b, v, fp, h => by obtain ⟨_, rfl⟩ := h; exact fun _ z => nomatch z
  | .int i, v, fp, h => by obtain ⟨_, rfl⟩ := h; exact fun _ z => nomatch z
  | .str x, v, fp, h => by obtain ⟨_, rfl⟩ := h; exact fun _ z => nomatch z
  | .fn f, v, fp, h => by obtain ⟨_, rfl⟩ := h; exact fun _ z => nomatch z
  | .tup xs, v, fp, h => by
    obtain ⟨a, vs, rfl, q, r⟩ := h
    exact RepL.own xs r
  | .lst o xs, v, fp, h => by
    obtain ⟨a, vs, fs, rfl, r, ⟨rfl, e, rfl⟩ | ⟨rfl, q, rfl, rfl⟩⟩ := h
    · intro b hb
      rcases List.mem_cons.mp hb with rfl | hb
      · exact ⟨_, e, trivial⟩
      · exact RepL.own xs r b hb
    · exact fun _ z => nomatch z
  | .dct o ks ts, v, fp, h => by
    obtain ⟨a, vs, fs, rfl, r, l, n, ⟨rfl, e, rfl⟩ | ⟨rfl, q, rfl, rfl⟩⟩ := h
    · intro b hb
      rcases List.mem_cons.mp hb with rfl | hb
      · exact ⟨_, e, trivial⟩
      · exact RepL.own ts r b hb
    · exact fun _ z => nomatch z
  | .ins o C ks ts, v, fp, h => by
    obtain ⟨a, Ca, dx, vs, fs, rfl, c, r, l, n, e, ⟨rfl, rfl⟩ | ⟨rfl, f, rfl, rfl⟩⟩ := h
    · intro b hb
      rcases List.mem_cons.mp hb with rfl | hb
      · exact ⟨_, e, trivial⟩
      · exact RepL.own ts r b hb
    · exact fun _ z => nomatch z
  | .err C ks ts, v, fp, h => by
    obtain ⟨a, Ca, d, vs, rfl, c, r, l, n, f, e, x, rfl⟩ := h
    exact fun _ z => nomatch z
theorem RepL.own : ∀ (ts : List T) {vs : List V} {fp : List Addr}, RepL g F H ts vs fp → ∀ a ∈ fp, ∃ o, H a = some o ∧ Mut (some o)
  | [], vs, fp, h => by obtain ⟨_, rfl⟩ := h; exact fun _ z => nomatch z
  | t :: ts, vs, fp, h => by
    obtain ⟨v, vs', f1, f2, rfl, rfl, h1, h2⟩ := h
    intro b hb
    rcases List.mem_append.mp hb with hb | hb
    · exact Rep.own t h1 b hb
    · exact RepL.own ts h2 b hb
end
theorem RepO.own {o : Option V} (r : RepO g F H t o fp) : ∀ a ∈ fp, ∃ o, H a = some o ∧ Mut (some o) := by
  by_cases e : t = .hole
  · subst e
    have e : fp = [] := r
    subst e; exact fun _ z => nomatch z
  · obtain ⟨v, h, q⟩ := r.at e
    exact Rep.own t q
theorem RepE.own : ∀ {ts : List T} {σ : List (Option V)} {fp : List Addr}, RepE g F H ts σ fp → ∀ a ∈ fp, ∃ o, H a = some o ∧ Mut (some o)
  | [], σ, fp, h => by obtain ⟨_, rfl⟩ := h; exact fun _ z => nomatch z
  | t :: ts, σ, fp, h => by
    obtain ⟨v, vs', f1, f2, rfl, rfl, h1, h2⟩ := h
    intro b hb
    rcases List.mem_append.mp hb with hb | hb
    · exact h1.own b hb
    · exact RepE.own h2 b hb
/-! a pure tree owns nothing -/
mutual
theorem Rep.pure : ∀ (t : T) {v : V} {fp : List Addr}, Rep g F H t v fp → t.pureT = true → fp = []
  | .pin v0, v, fp, h, _ => h.2
  | .hole, v, fp, h, _ => h
  | .non, v, fp, h, _ => h.2
  | .bl b, v, fp, h, _ => h.2
  | .int i, v, fp, h, _ => h.2
  | .str x, v, fp, h, _ => h.2
  | .fn f, v, fp, h, _ => h.2
  | .tup xs, v, fp, h, p => by
    obtain ⟨a, vs, rfl, q, r⟩ := h
    exact RepL.pure xs r p
  | .lst o xs, v, fp, h, p => by
    obtain ⟨a, vs, fs, rfl, r, ⟨rfl, e, rfl⟩ | ⟨rfl, q, rfl, rfl⟩⟩ := h
    · cases p
    · rfl
  | .dct o ks ts, v, fp, h, p => by
    obtain ⟨a, vs, fs, rfl, r, l, n, ⟨rfl, e, rfl⟩ | ⟨rfl, q, rfl, rfl⟩⟩ := h
    · cases p
    · rfl
  | .ins o C ks ts, v, fp, h, p => by
    obtain ⟨a, Ca, dx, vs, fs, rfl, c, r, l, n, e, ⟨rfl, rfl⟩ | ⟨rfl, f, rfl, rfl⟩⟩ := h
    · cases p
    · rfl
  | .err C ks ts, v, fp, h, _ => by
    obtain ⟨a, Ca, d, vs, rfl, c, r, l, n, f, e, x, rfl⟩ := h
    rfl
theorem RepL.pure : ∀ (ts : List T) {vs : List V} {fp : List Addr}, RepL g F H ts vs fp → T.pureL ts = true → fp = []
  | [], vs, fp, h, _ => h.2
  | t :: ts, vs, fp, h, p => by
    obtain ⟨v, vs', f1, f2, rfl, rfl, h1, h2⟩ := h
    have p' : (T.pureT t && T.pureL ts) = true := p
    rw [Bool.and_eq_true] at p'
    rw [Rep.pure t h1 p'.1, RepL.pure ts h2 p'.2]
    rfl
end
theorem RepL.length : ∀ {ts : List T} {vs : List V} {fp : List Addr}, RepL g F H ts vs fp → ts.length = vs.length
  | [], vs, fp, h => by obtain ⟨rfl, _⟩ := h; rfl
  | t :: ts, vs, fp, h => by
    obtain ⟨v, vs', f1, f2, rfl, rfl, h1, h2⟩ := h
    simp [RepL.length h2]
/-! shared from now on -/
mutual
theorem Rep.frz : ∀ (t : T) {v : V} {fp : List Addr}, Rep g F H t v fp → (∀ a, F a ∨ a ∈ fp → F' a) → (t = .hole → v = .non ∨ True) → (∃ t', t.frz = t') → Rep g F' H t.frz v []
  | .pin v0, v, fp, h, _, _, _ => ⟨h.1, rfl⟩
  | .hole, v, fp, h, _, _, _ => rfl
  | .non, v, fp, h, _, _, _ => ⟨h.1, rfl⟩
  | .bl b, v, fp, h, _, _, _ => ⟨h.1, rfl⟩
  | .int i, v, fp, h, _, _, _ => ⟨h.1, rfl⟩
  | .str x, v, fp, h, _, _, _ => ⟨h.1, rfl⟩
  | .fn f, v, fp, h, _, _, _ => ⟨h.1, rfl⟩
  | .tup xs, v, fp, h, s, _, _ => by
    obtain ⟨a, vs, rfl, q, r⟩ := h
    exact ⟨a, vs, rfl, q, RepL.frz xs r s⟩
  | .lst o xs, v, fp, h, s, _, _ => by
    obtain ⟨a, vs, fs, rfl, r, ⟨rfl, e, rfl⟩ | ⟨rfl, q, rfl, rfl⟩⟩ := h
    · exact ⟨a, vs, [], rfl, RepL.frz xs r fun b hb => s b (hb.imp id (List.mem_cons_of_mem _)), .inr ⟨rfl, .inl ⟨s a (.inr List.mem_cons_self), e⟩, rfl, rfl⟩⟩
    · exact ⟨a, vs, [], rfl, RepL.frz xs r s, .inr ⟨rfl, q.imp (fun ⟨f, e⟩ => ⟨s a (.inl f), e⟩) id, rfl, rfl⟩⟩
  | .dct o ks ts, v, fp, h, s, _, _ => by
    obtain ⟨a, vs, fs, rfl, r, l, n, ⟨rfl, e, rfl⟩ | ⟨rfl, q, rfl, rfl⟩⟩ := h
    · exact ⟨a, vs, [], rfl, RepL.frz ts r fun b hb => s b (hb.imp id (List.mem_cons_of_mem _)), l, n, .inr ⟨rfl, .inl ⟨e, s a (.inr List.mem_cons_self)⟩, rfl, rfl⟩⟩
    · exact ⟨a, vs, [], rfl, RepL.frz ts r s, l, n, .inr ⟨rfl, q.imp (fun ⟨e, f⟩ => ⟨e, s a (.inl f)⟩) id, rfl, rfl⟩⟩
  | .ins o C ks ts, v, fp, h, s, _, _ => by
    obtain ⟨a, Ca, dx, vs, fs, rfl, c, r, l, n, e, ⟨rfl, rfl⟩ | ⟨rfl, f, rfl, rfl⟩⟩ := h
    · exact ⟨a, Ca, dx, vs, [], rfl, c, RepL.frz ts r fun b hb => s b (hb.imp id (List.mem_cons_of_mem _)), l, n, e, .inr ⟨rfl, s a (.inr List.mem_cons_self), rfl, rfl⟩⟩
    · exact ⟨a, Ca, dx, vs, [], rfl, c, RepL.frz ts r s, l, n, e, .inr ⟨rfl, s a (.inl f), rfl, rfl⟩⟩
  | .err C ks ts, v, fp, h, s, _, _ => by
    obtain ⟨a, Ca, d, vs, rfl, c, r, l, n, f, e, x, rfl⟩ := h
    exact ⟨a, Ca, d, vs, rfl, c, RepL.frz ts r s, l, n, s a (.inl f), e, x, rfl⟩
theorem RepL.frz : ∀ (ts : List T) {vs : List V} {fp : List Addr}, RepL g F H ts vs fp → (∀ a, F a ∨ a ∈ fp → F' a) → RepL g F' H (T.frzL ts) vs []
  | [], vs, fp, h, _ => ⟨h.1, rfl⟩
  | t :: ts, vs, fp, h, s => by
    obtain ⟨v, vs', f1, f2, rfl, rfl, h1, h2⟩ := h
    exact ⟨v, vs', [], [], rfl, rfl, Rep.frz t h1 (fun a ha => s a (ha.imp id (List.mem_append_left _))) (fun _ => .inr trivial) ⟨_, rfl⟩, RepL.frz ts h2 (fun a ha => s a (ha.imp id (List.mem_append_right _)))⟩
end
end
end PV

/-! V3: places -/
namespace PV
open PySem L2

section
variable {g : G} {F F' F'' : Addr → Prop} {H H' H'' : Hp} {t u : T} {ts us : List T} {v w : V} {vs ws : List V} {fp fp' fp'' fq : List Addr} {a : Addr}

def At (H : Hp) : V → List Sel → V → Prop
  | v, [], w => w = v
  | v, s :: p, w => match s with
    | .fld f => ∃ a C dx ks us u, v = .ref a ∧ H a = some (.ins C dx (List.zip ks us)) ∧ look ks us f = some u ∧ At H u p w
    | .idx n => ∃ a us u, v = .ref a ∧ H a = some (.lst us) ∧ us[n]? = some u ∧ At H u p w
    | .key k => ∃ a ks us u, v = .ref a ∧ H a = some (.dK (List.zip ks us)) ∧ look ks us k = some u ∧ At H u p w

theorem look_lookup {κ α : Type} [DecidableEq κ] : ∀ (ks : List κ) (vs : List α) (k : κ), look ks vs k = (ks.zip vs).lookup k
  | [], _, _ => by cases ‹List α› <;> rfl
  | _ :: _, [], _ => rfl
  | k :: ks, v :: vs, q => by
    show (if k = q then some v else look ks vs q) = ((k, v) :: ks.zip vs).lookup q
    rw [List.lookup_cons]
    by_cases h : k = q
    · subst h; simp
    · have : (q == k) = false := by simpa using fun z => h z.symm
      rw [if_neg h, this, look_lookup ks vs q]
theorem look_find {κ : Type} [DecidableEq κ] : ∀ (ks : List κ) (vs : List V) (k : κ), look ks vs k = valV (ks.zip vs) k
  | [], _, _ => by cases ‹List V› <;> rfl
  | _ :: _, [], _ => rfl
  | k :: ks, v :: vs, q => by
    show (if k = q then some v else look ks vs q) = valV ((k, v) :: ks.zip vs) q
    by_cases h : k = q
    · rw [if_pos h, valV_pos (p := (k, v)) h]
    · rw [if_neg h, valV_neg (p := (k, v)) h, look_find ks vs q]
theorem At.det : ∀ {p : List Sel} {v w w' : V}, At H v p w → At H v p w' → w = w'
  | [], v, w, w', h, h' => by rw [show w = v from h, show w' = v from h']
  | .fld f :: p, v, w, w', h, h' => by
    obtain ⟨a, C, dx, ks, us, u, rfl, e, l, q⟩ := h
    obtain ⟨a', C', dx', ks', us', u', ea, e', l', q'⟩ := h'
    cases ea
    rw [e] at e'
    have e2 : ks.zip us = ks'.zip us' := by injection e' with e'; injection e'
    rw [look_lookup] at l l'
    rw [e2, l'] at l
    cases l
    exact At.det q q'
  | .idx n :: p, v, w, w', h, h' => by
    obtain ⟨a, us, u, rfl, e, l, q⟩ := h
    obtain ⟨a', us', u', ea, e', l', q'⟩ := h'
    cases ea
    rw [e] at e'
    cases e'
    rw [l] at l'
    cases l'
    exact At.det q q'
  | .key k :: p, v, w, w', h, h' => by
    obtain ⟨a, ks, us, u, rfl, e, l, q⟩ := h
    obtain ⟨a', ks', us', u', ea, e', l', q'⟩ := h'
    cases ea
    rw [e] at e'
    have e2 : ks.zip us = ks'.zip us' := by injection e' with e'; injection e'
    rw [look_lookup] at l l'
    rw [e2, l'] at l
    cases l
    exact At.det q q'
theorem At.ext (k : ∀ a o, H a = some o → H' a = some o) : ∀ {p : List Sel} {v w : V}, At H v p w → At H' v p w
  | [], v, w, h => h
  | .fld f :: p, v, w, h => by
    obtain ⟨a, C, dx, ks, us, u, rfl, e, l, q⟩ := h
    exact ⟨a, C, dx, ks, us, u, rfl, k _ _ e, l, At.ext k q⟩
  | .idx n :: p, v, w, h => by
    obtain ⟨a, us, u, rfl, e, l, q⟩ := h
    exact ⟨a, us, u, rfl, k _ _ e, l, At.ext k q⟩
  | .key f :: p, v, w, h => by
    obtain ⟨a, ks, us, u, rfl, e, l, q⟩ := h
    exact ⟨a, ks, us, u, rfl, k _ _ e, l, At.ext k q⟩
theorem At.app : ∀ {p q : List Sel} {v w u : V}, At H v p w → At H w q u → At H v (p ++ q) u
  | [], q, v, w, u, h, h2 => by rw [show w = v from h] at h2; exact h2
  | .fld f :: p, q, v, w, u, h, h2 => by
    obtain ⟨a, C, dx, ks, us, u, rfl, e, l, q⟩ := h
    exact ⟨a, C, dx, ks, us, u, rfl, e, l, At.app q h2⟩
  | .idx n :: p, q, v, w, u, h, h2 => by
    obtain ⟨a, us, u, rfl, e, l, q⟩ := h
    exact ⟨a, us, u, rfl, e, l, At.app q h2⟩
  | .key f :: p, q, v, w, u, h, h2 => by
    obtain ⟨a, ks, us, u, rfl, e, l, q⟩ := h
    exact ⟨a, ks, us, u, rfl, e, l, At.app q h2⟩

/-- one item of a list of trees -/
theorem RepL.nth : ∀ {ts : List T} {vs : List V} {fp : List Addr} {n : Nat} {t : T}, RepL g F H ts vs fp → ts[n]? = some t →
    ∃ w f rest, vs[n]? = some w ∧ Rep g F H t w f ∧ fp.Perm (f ++ rest) ∧
      ∀ F' H' t' f', Stay F F' H H' rest → Rep g F' H' t' w f' → ∃ fp', fp'.Perm (f' ++ rest) ∧ RepL g F' H' (ts.set n t') vs fp'
  | [], vs, fp, n, t, h, e => by simp at e
  | t0 :: ts, vs, fp, 0, t, h, e => by
    obtain ⟨v, vs', f1, f2, rfl, rfl, h1, h2⟩ := h
    simp only [List.getElem?_cons_zero, Option.some.injEq] at e
    subst e
    exact ⟨v, f1, f2, rfl, h1, List.Perm.refl _, fun F' H' t' f' s r => ⟨f' ++ f2, List.Perm.refl _, v, vs', f', f2, rfl, rfl, r, RepL.stay ts h2 s⟩⟩
  | t0 :: ts, vs, fp, n + 1, t, h, e => by
    obtain ⟨v, vs', f1, f2, rfl, rfl, h1, h2⟩ := h
    obtain ⟨w, f, rest, e1, r, p, k⟩ := RepL.nth (n := n) h2 (by simpa using e)
    refine ⟨w, f, f1 ++ rest, by simpa using e1, r, ?_, fun F' H' t' f' s r' => ?_⟩
    · exact (p.append_left f1).trans (by
        rw [← List.append_assoc, ← List.append_assoc]
        exact (List.perm_append_comm (l₁ := f1) (l₂ := f)).append_right rest)
    · obtain ⟨fp', p', q⟩ := k F' H' t' f' (s.sub fun a ha => List.mem_append_right _ ha) r'
      refine ⟨f1 ++ fp', (p'.append_left f1).trans ?_, v, vs', f1, fp', rfl, rfl, Rep.stay t0 h1 (s.sub fun a ha => List.mem_append_left _ ha), q⟩
      rw [← List.append_assoc, ← List.append_assoc]
      exact (List.perm_append_comm (l₁ := f1) (l₂ := f')).append_right rest
/-- one value by its key -/
theorem RepL.look {κ : Type} [DecidableEq κ] : ∀ {ks : List κ} {ts : List T} {vs : List V} {fp : List Addr} {k : κ} {t : T}, RepL g F H ts vs fp → look ks ts k = some t →
    ∃ w f rest, PV.look ks vs k = some w ∧ Rep g F H t w f ∧ fp.Perm (f ++ rest) ∧ (∀ t' : T, (put ks ts k t').1 = ks ∧ (put ks ts k t').2.length = ts.length) ∧
      ∀ F' H' t' f', Stay F F' H H' rest → Rep g F' H' t' w f' → ∃ fp', fp'.Perm (f' ++ rest) ∧ RepL g F' H' (put ks ts k t').2 vs fp'
  | [], ts, vs, fp, k, t, h, e => by simp [PV.look] at e
  | _ :: _, [], vs, fp, k, t, h, e => by simp [PV.look] at e
  | k0 :: ks, t0 :: ts, vs, fp, k, t, h, e => by
    obtain ⟨v, vs', f1, f2, rfl, rfl, h1, h2⟩ := h
    by_cases hk : k0 = k
    · have e' : t0 = t := by
        have : (if k0 = k then some t0 else PV.look ks ts k) = some t := e
        rw [if_pos hk] at this
        exact Option.some.inj this
      subst e'
      refine ⟨v, f1, f2, by simp [PV.look, hk], h1, List.Perm.refl _, fun t' => ?_, fun F' H' t' f' s r => ?_⟩
      · simp [put, hk]
      · refine ⟨f' ++ f2, List.Perm.refl _, ?_⟩
        have : (put (k0 :: ks) (t0 :: ts) k t').2 = t' :: ts := by simp [put, hk]
        rw [this]
        exact ⟨v, vs', f', f2, rfl, rfl, r, RepL.stay ts h2 s⟩
    · have e' : PV.look ks ts k = some t := by
        have : (if k0 = k then some t0 else PV.look ks ts k) = some t := e
        rwa [if_neg hk] at this
      obtain ⟨w, f, rest, e1, r, p, l, q⟩ := RepL.look h2 e'
      refine ⟨w, f, f1 ++ rest, by simp [PV.look, hk, e1], r, ?_, fun t' => ?_, fun F' H' t' f' s r' => ?_⟩
      · exact (p.append_left f1).trans (by
          rw [← List.append_assoc, ← List.append_assoc]
          exact (List.perm_append_comm (l₁ := f1) (l₂ := f)).append_right rest)
      · obtain ⟨l1, l2⟩ := l t'
        simp [put, hk, l1, l2]
      · obtain ⟨fp', p', q'⟩ := q F' H' t' f' (s.sub fun a ha => List.mem_append_right _ ha) r'
        have : (put (k0 :: ks) (t0 :: ts) k t').2 = t0 :: (put ks ts k t').2 := by simp [put, hk]
        rw [this]
        refine ⟨f1 ++ fp', (p'.append_left f1).trans ?_, v, vs', f1, fp', rfl, rfl, Rep.stay t0 h1 (s.sub fun a ha => List.mem_append_left _ ha), q'⟩
        rw [← List.append_assoc, ← List.append_assoc]
        exact (List.perm_append_comm (l₁ := f1) (l₂ := f')).append_right rest

theorem cons_perm {a : Addr} {fs f rest : List Addr} (p : fs.Perm (f ++ rest)) : (a :: fs).Perm (f ++ a :: rest) :=
  (p.cons a).trans (List.perm_middle (a := a) (l₁ := f) (l₂ := rest)).symm
theorem stay_tail {rest : List Addr} (s : Stay F F' H H' (a :: rest)) : Stay F F' H H' rest := s.sub fun b hb => List.mem_cons_of_mem _ hb
theorem stay_head {rest : List Addr} {o : HO} (s : Stay F F' H H' (a :: rest)) (e : H a = some o) : H' a = some o := s.2 a o e (.inl List.mem_cons_self)

/-- the tree at a place, and the rest around it -/
theorem Rep.focus : ∀ {p : List Sel} {t s : T} {v : V} {fp : List Addr}, Rep g F H t v fp → t.getP p = some s →
    ∃ w f rest, At H v p w ∧ Rep g F H s w f ∧ fp.Perm (f ++ rest) ∧
      ∀ F' H' s' f', Stay F F' H H' rest → Rep g F' H' s' w f' → ∃ fp', fp'.Perm (f' ++ rest) ∧ Rep g F' H' (t.set p s') v fp'
  | [], t, s, v, fp, h, e => by
    have e' : t = s := by simpa [T.getP] using e
    subst e'
    refine ⟨v, fp, [], rfl, h, by simp, fun F' H' s' f' _ r => ⟨f', by simp, ?_⟩⟩
    cases t <;> exact r
  | .fld f :: p, t, s, v, fp, h, e => by
    cases t with
    | ins o C ks ts =>
      cases o with
      | false => simp [T.getP] at e
      | true =>
        have e1 : (look ks ts f).bind (fun t => t.getP p) = some s := e
        cases hl : look ks ts f with
        | none => rw [hl] at e1; cases e1
        | some t1 =>
          rw [hl] at e1
          have e2 : t1.getP p = some s := e1
          obtain ⟨a, Ca, dx, vs, fs, rfl, c, r, l, nd, ea, ⟨_, rfl⟩ | ⟨q, _⟩⟩ := h
          · obtain ⟨w, f1, rest, l1, r1, p1, lp, k1⟩ := RepL.look r hl
            obtain ⟨w2, f2, rest2, a2, r2, p2, k2⟩ := Rep.focus r1 e2
            refine ⟨w2, f2, a :: (rest2 ++ rest), ⟨a, Ca, dx, ks, vs, w, rfl, ea, l1, a2⟩, r2, ?_, fun F' H' s' f' st r' => ?_⟩
            · refine cons_perm (p1.trans ?_)
              rw [← List.append_assoc]
              exact p2.append_right rest
            · have st' := stay_tail st
              obtain ⟨fp2, p2', q2⟩ := k2 F' H' s' f' (st'.sub fun b hb => List.mem_append_left _ hb) r'
              obtain ⟨fp1, p1', q1⟩ := k1 F' H' _ fp2 (st'.sub fun b hb => List.mem_append_right _ hb) q2
              refine ⟨a :: fp1, ?_, ?_⟩
              · refine cons_perm (p1'.trans ?_)
                rw [← List.append_assoc]
                exact p2'.append_right rest
              · have : (T.ins true C ks ts).set (.fld f :: p) s' = .ins true C (put ks ts f (t1.set p s')).1 (put ks ts f (t1.set p s')).2 := by
                  simp only [T.set, hl]
                rw [this, (lp _).1]
                exact ⟨a, Ca, dx, vs, fp1, rfl, c, q1, l, nd, stay_head st ea, .inl ⟨rfl, rfl⟩⟩
          · cases q
    | _ => simp [T.getP] at e
  | .idx n :: p, t, s, v, fp, h, e => by
    cases t with
    | lst o ts =>
      cases o with
      | false => simp [T.getP] at e
      | true =>
        have e1 : (ts[n]?).bind (fun t => t.getP p) = some s := e
        cases hl : ts[n]? with
        | none => rw [hl] at e1; cases e1
        | some t1 =>
          rw [hl] at e1
          have e2 : t1.getP p = some s := e1
          obtain ⟨a, vs, fs, rfl, r, ⟨_, ea, rfl⟩ | ⟨q, _⟩⟩ := h
          · obtain ⟨w, f1, rest, l1, r1, p1, k1⟩ := RepL.nth r hl
            obtain ⟨w2, f2, rest2, a2, r2, p2, k2⟩ := Rep.focus r1 e2
            refine ⟨w2, f2, a :: (rest2 ++ rest), ⟨a, vs, w, rfl, ea, l1, a2⟩, r2, ?_, fun F' H' s' f' st r' => ?_⟩
            · refine cons_perm (p1.trans ?_)
              rw [← List.append_assoc]
              exact p2.append_right rest
            · have st' := stay_tail st
              obtain ⟨fp2, p2', q2⟩ := k2 F' H' s' f' (st'.sub fun b hb => List.mem_append_left _ hb) r'
              obtain ⟨fp1, p1', q1⟩ := k1 F' H' _ fp2 (st'.sub fun b hb => List.mem_append_right _ hb) q2
              refine ⟨a :: fp1, ?_, ?_⟩
              · refine cons_perm (p1'.trans ?_)
                rw [← List.append_assoc]
                exact p2'.append_right rest
              · have : (T.lst true ts).set (.idx n :: p) s' = .lst true (ts.set n (t1.set p s')) := by
                  simp only [T.set, hl]
                rw [this]
                exact ⟨a, vs, fp1, rfl, q1, .inl ⟨rfl, stay_head st ea, rfl⟩⟩
          · cases q
    | _ => simp [T.getP] at e
  | .key k :: p, t, s, v, fp, h, e => by
    cases t with
    | dct o ks ts =>
      cases o with
      | false => simp [T.getP] at e
      | true =>
        have e1 : (look ks ts k).bind (fun t => t.getP p) = some s := e
        cases hl : look ks ts k with
        | none => rw [hl] at e1; cases e1
        | some t1 =>
          rw [hl] at e1
          have e2 : t1.getP p = some s := e1
          obtain ⟨a, vs, fs, rfl, r, l, nd, ⟨_, ea, rfl⟩ | ⟨q, _⟩⟩ := h
          · obtain ⟨w, f1, rest, l1, r1, p1, lp, k1⟩ := RepL.look r hl
            obtain ⟨w2, f2, rest2, a2, r2, p2, k2⟩ := Rep.focus r1 e2
            refine ⟨w2, f2, a :: (rest2 ++ rest), ⟨a, ks, vs, w, rfl, ea, l1, a2⟩, r2, ?_, fun F' H' s' f' st r' => ?_⟩
            · refine cons_perm (p1.trans ?_)
              rw [← List.append_assoc]
              exact p2.append_right rest
            · have st' := stay_tail st
              obtain ⟨fp2, p2', q2⟩ := k2 F' H' s' f' (st'.sub fun b hb => List.mem_append_left _ hb) r'
              obtain ⟨fp1, p1', q1⟩ := k1 F' H' _ fp2 (st'.sub fun b hb => List.mem_append_right _ hb) q2
              refine ⟨a :: fp1, ?_, ?_⟩
              · refine cons_perm (p1'.trans ?_)
                rw [← List.append_assoc]
                exact p2'.append_right rest
              · have : (T.dct true ks ts).set (.key k :: p) s' = .dct true (put ks ts k (t1.set p s')).1 (put ks ts k (t1.set p s')).2 := by
                  simp only [T.set, hl]
                rw [this, (lp _).1]
                exact ⟨a, vs, fp1, rfl, q1, l, nd, .inl ⟨rfl, stay_head st ea, rfl⟩⟩
          · cases q
    | _ => simp [T.getP] at e

/-- a slot -/
theorem RepE.nth : ∀ {ts : List T} {σ : List (Option V)} {fp : List Addr} {n : Nat} {t : T}, RepE g F H ts σ fp → ts[n]? = some t →
    ∃ w f rest, σ[n]? = some w ∧ RepO g F H t w f ∧ fp.Perm (f ++ rest) ∧
      ∀ F' H' t' w' f', Stay F F' H H' rest → RepO g F' H' t' w' f' → ∃ fp', fp'.Perm (f' ++ rest) ∧ RepE g F' H' (ts.set n t') (σ.set n w') fp'
  | [], vs, fp, n, t, h, e => by simp at e
  | t0 :: ts, vs, fp, 0, t, h, e => by
    obtain ⟨v, vs', f1, f2, rfl, rfl, h1, h2⟩ := h
    simp only [List.getElem?_cons_zero, Option.some.injEq] at e
    subst e
    exact ⟨v, f1, f2, rfl, h1, List.Perm.refl _, fun F' H' t' w' f' s r => ⟨f' ++ f2, List.Perm.refl _, w', vs', f', f2, rfl, rfl, r, RepE.stay h2 s⟩⟩
  | t0 :: ts, vs, fp, n + 1, t, h, e => by
    obtain ⟨v, vs', f1, f2, rfl, rfl, h1, h2⟩ := h
    obtain ⟨w, f, rest, e1, r, p, k⟩ := RepE.nth (n := n) h2 (by simpa using e)
    refine ⟨w, f, f1 ++ rest, by simpa using e1, r, ?_, fun F' H' t' w' f' s r' => ?_⟩
    · exact (p.append_left f1).trans (by
        rw [← List.append_assoc, ← List.append_assoc]
        exact (List.perm_append_comm (l₁ := f1) (l₂ := f)).append_right rest)
    · obtain ⟨fp', p', q⟩ := k F' H' t' w' f' (s.sub fun a ha => List.mem_append_right _ ha) r'
      refine ⟨f1 ++ fp', (p'.append_left f1).trans ?_, v, vs'.set n w', f1, fp', rfl, rfl, RepO.stay h1 (s.sub fun a ha => List.mem_append_left _ ha), q⟩
      rw [← List.append_assoc, ← List.append_assoc]
      exact (List.perm_append_comm (l₁ := f1) (l₂ := f')).append_right rest
theorem RepE.length : ∀ {ts : List T} {σ : List (Option V)} {fp : List Addr}, RepE g F H ts σ fp → ts.length = σ.length
  | [], vs, fp, h => by obtain ⟨rfl, _⟩ := h; rfl
  | t :: ts, vs, fp, h => by
    obtain ⟨v, vs', f1, f2, rfl, rfl, h1, h2⟩ := h
    simp [RepE.length h2]
/-- what a place is, in the slots -/
def AtE (H : Hp) (σ : List (Option V)) (i : Nat) (p : List Sel) (w : V) : Prop := ∃ v, σ[i]? = some (some v) ∧ At H v p w
theorem AtE.det {σ : List (Option V)} {i : Nat} {p : List Sel} {w w' : V} (h : AtE H σ i p w) (h' : AtE H σ i p w') : w = w' := by
  obtain ⟨v, e, q⟩ := h
  obtain ⟨v', e', q'⟩ := h'
  rw [e] at e'
  cases e'
  exact q.det q'
theorem RepE.focus {E : List T} {σ : List (Option V)} {i : Nat} {p : List Sel} {s : T} (h : RepE g F H E σ fp) (e : plcGet i p E = some s) (hs : s ≠ .hole ∨ p ≠ []) :
    ∃ w f rest, AtE H σ i p w ∧ Rep g F H s w f ∧ fp.Perm (f ++ rest) ∧
      ∀ F' H' s' f', Stay F F' H H' rest → Rep g F' H' s' w f' → ∃ fp', fp'.Perm (f' ++ rest) ∧ RepE g F' H' (plcSet i p s' E) σ fp' := by
  unfold plcGet at e
  cases hi : E[i]? with
  | none => rw [hi] at e; cases e
  | some t =>
    rw [hi] at e
    have e2 : t.getP p = some s := e
    obtain ⟨w, f, rest, e1, r, p1, k⟩ := h.nth hi
    have ht : t ≠ .hole := by
      intro z
      subst z
      cases p with
      | nil =>
        have : T.hole = s := by simpa [T.getP] using e2
        rcases hs with hs | hs
        · exact hs this.symm
        · exact hs rfl
      | cons x p => cases x <;> simp [T.getP] at e2
    obtain ⟨v, rfl, r0⟩ := r.at ht
    obtain ⟨w2, f2, rest2, a2, r2, p2, k2⟩ := Rep.focus r0 e2
    refine ⟨w2, f2, rest2 ++ rest, ⟨v, e1, a2⟩, r2, ?_, fun F' H' s' f' st r' => ?_⟩
    · refine p1.trans ?_
      rw [← List.append_assoc]
      exact p2.append_right rest
    · obtain ⟨fp2, p2', q2⟩ := k2 F' H' s' f' (st.sub fun b hb => List.mem_append_left _ hb) r'
      obtain ⟨fp1, p1', q1⟩ := k F' H' _ (some v) fp2 (st.sub fun b hb => List.mem_append_right _ hb) (.of rfl q2)
      refine ⟨fp1, ?_, ?_⟩
      · refine p1'.trans ?_
        rw [← List.append_assoc]
        exact p2'.append_right rest
      · have : plcSet i p s' E = E.set i (t.set p s') := by unfold plcSet; rw [hi]
        rw [this]
        have e3 : σ.set i (some v) = σ := by
          apply List.ext_getElem?
          intro j
          rw [List.getElem?_set]
          split
          · rename_i hj
            subst hj
            rw [e1]
            split
            · rfl
            · rename_i hlt
              rw [List.getElem?_eq_none (by omega)] at e1
              cases e1
          · rfl
        rw [e3] at q1
        exact q1
end
end PV

/-! V4: the judgements -/
namespace PV
open PySem L2

section
variable {F F' F1 F2 F3 : Addr → Prop} {H H' H1 H2 H3 : Hp} {fp fp' fp1 fp2 fp3 ft fq : List Addr}
theorem Aft.refl : Aft F F H H fp fp := ⟨fun _ h => h, fun _ h => .inl h, fun _ _ h _ => h, fun _ h => .inl h, fun _ _ h _ => h⟩
theorem Aft.trans (x : Aft F F1 H H1 fp fp1) (y : Aft F1 F2 H1 H2 fp1 fp2) : Aft F F2 H H2 fp fp2 := by
  have nn : ∀ a, H1 a = none → a ∈ fp ∨ H a = none := fun a h => by
    cases e : H a with
    | none => exact .inr rfl
    | some o =>
      by_cases ha : a ∈ fp
      · exact .inl ha
      · have := x.keep a o e ha
        rw [h] at this
        cases this
  refine ⟨fun a h => y.ff a (x.ff a h), fun a h => ?_, fun a o e ha => ?_, fun a ha => ?_, fun a o e m => y.tups a o (x.tups a o e m) m⟩
  · rcases y.fn a h with h | h | h
    · exact x.fn a h
    · exact .inr (x.new a h)
    · exact .inr (nn a h)
  · refine y.keep a o (x.keep a o e ha) fun z => ?_
    rcases x.new a z with z | z
    · exact ha z
    · rw [e] at z; cases z
  · rcases y.new a ha with h | h
    · exact x.new a h
    · exact nn a h
theorem Aft.sub (x : Aft F F1 H H1 fp fp1) (h : ∀ a ∈ fp2, a ∈ fp1) : Aft F F1 H H1 fp fp2 := ⟨x.ff, x.fn, x.keep, fun a ha => x.new a (h a ha), x.tups⟩
theorem Aft.more (x : Aft F F1 H H1 fp fp1) (h : ∀ a ∈ fp, a ∈ fp2) : Aft F F1 H H1 fp2 fp1 :=
  ⟨x.ff, fun a ha => (x.fn a ha).imp id (Or.imp (h a) id), fun a o e ha => x.keep a o e fun z => ha (h a z), fun a ha => (x.new a ha).imp (h a) id, x.tups⟩
theorem Wf.perm (x : Wf F H fp) (p : fp.Perm fp') : Wf F H fp' := ⟨p.nodup_iff.mp x.nd, fun a ha => x.dj a (p.mem_iff.mpr ha), x.dom⟩
theorem Wf.right (x : Wf F H (ft ++ fp)) : Wf F H fp := ⟨(List.nodup_append.mp x.nd).2.1, fun a ha => x.dj a (List.mem_append_right _ ha), x.dom⟩
theorem Wf.left (x : Wf F H (ft ++ fp)) : Wf F H ft := ⟨(List.nodup_append.mp x.nd).1, fun a ha => x.dj a (List.mem_append_left _ ha), x.dom⟩
theorem Wf.apart (x : Wf F H (ft ++ fp)) {a : Addr} (h1 : a ∈ ft) (h2 : a ∈ fp) : False := (List.nodup_append.mp x.nd).2.2 a h1 a h2 rfl
/-- what is held meanwhile stays -/
theorem frame (x : Wf F H (ft ++ fp)) (own : ∀ a ∈ ft, ∃ o, H a = some o ∧ Mut (some o)) (y : Aft F F' H H' fp fp') (z : Wf F' H' fp') :
    Wf F' H' (ft ++ fp') ∧ Stay F F' H H' ft ∧ Aft F F' H H' (ft ++ fp) (ft ++ fp') := by
  have ap : ∀ a ∈ ft, a ∉ fp := fun a h1 h2 => x.apart h1 h2
  refine ⟨⟨List.nodup_append.mpr ⟨x.left.nd, z.nd, fun a h1 b h2 e => ?_⟩, fun a ha => ?_, z.dom⟩, ⟨y.ff, fun a o e h => ?_⟩,
    ⟨y.ff, fun a h => (y.fn a h).imp id (Or.imp (List.mem_append_right _) id), fun a o e ha => y.keep a o e fun q => ha (List.mem_append_right _ q), fun a ha => ?_, y.tups⟩⟩
  · subst e
    rcases y.new a h2 with q | q
    · exact ap a h1 q
    · obtain ⟨o, e, _⟩ := own a h1
      rw [e] at q; cases q
  · rcases List.mem_append.mp ha with ha | ha
    · intro q
      rcases y.fn a q with q | q | q
      · exact x.dj a (List.mem_append_left _ ha) q
      · exact ap a ha q
      · obtain ⟨o, e, _⟩ := own a ha
        rw [e] at q; cases q
    · exact z.dj a ha
  · rcases h with h | h | h
    · exact y.keep a o e (ap a h)
    · exact y.keep a o e fun q => x.dj a (List.mem_append_right _ q) h
    · exact y.tups a o e h
  · rcases List.mem_append.mp ha with ha | ha
    · exact .inl (List.mem_append_left _ ha)
    · exact (y.new a ha).imp (List.mem_append_right _) id
/-- shared from now on -/
theorem shared (x : Wf F H (ft ++ fp)) (own : ∀ a ∈ ft, ∃ o, H a = some o ∧ Mut (some o)) :
    Wf (fun a => F a ∨ a ∈ ft) H fp ∧ Aft F (fun a => F a ∨ a ∈ ft) H H (ft ++ fp) fp := by
  refine ⟨⟨x.right.nd, fun a ha q => ?_, fun a ha => ?_⟩, ⟨fun a h => .inl h, fun a h => h.imp id fun z => .inl (List.mem_append_left _ z), fun a o e _ => e, fun a h => .inl (List.mem_append_right _ h), fun a o e _ => e⟩⟩
  · rcases q with q | q
    · exact x.dj a (List.mem_append_right _ ha) q
    · exact x.apart q ha
  · rcases ha with ha | ha
    · exact x.dom a ha
    · obtain ⟨o, e, _⟩ := own a ha
      exact ⟨o, e⟩
theorem stay_shared : Stay F (fun a => F a ∨ a ∈ ft) H H fp := ⟨fun _ h => .inl h, fun _ _ e _ => e⟩
end

structure GX extends G where
  err : T → Value → Option Addr → (Addr → Prop) → Hp → Prop

def Post {α : Type} (r : Res α) (P : α → Env → Prop) (X : T → Env → Prop) : Prop := match r with | .ok a E => P a E | .exc x E => X x E | .bad => False
theorem Post.bind {α β : Type} {m : M α} {f : α → M β} {E : Env} {P : β → Env → Prop} {X : T → Env → Prop} (h : Post (M.bind m f E) P X) : Post (m E) (fun a E' => Post (f a E') P X) X := by
  unfold M.bind at h
  cases e : m E with
  | ok a E' => rw [e] at h; exact h
  | exc x E' => rw [e] at h; exact h
  | bad => rw [e] at h; exact h
theorem Post.imp {α : Type} {r : Res α} {P P' : α → Env → Prop} {X X' : T → Env → Prop} (h : Post r P X) (hp : ∀ a E, P a E → P' a E) (hx : ∀ x E, X x E → X' x E) : Post r P' X' := by
  cases r with
  | ok a E => exact hp a E h
  | exc x E => exact hx x E h
  | bad => exact h
theorem Post.guard {b : Bool} {E : Env} {P : Unit → Env → Prop} {X : T → Env → Prop} (h : Post (guardM b E) P X) : b = true ∧ P () E := by
  unfold guardM at h
  cases b with
  | true => exact ⟨rfl, h⟩
  | false => exact h.elim
theorem Post.ofO {α : Type} {o : Option α} {E : Env} {P : α → Env → Prop} {X : T → Env → Prop} (h : Post (PV.ofO o E) P X) : ∃ a, o = some a ∧ P a E := by
  cases o with
  | none => exact h.elim
  | some a => exact ⟨a, rfl, h⟩
theorem Post.view {r : R} {E : Env} {P : T → Env → Prop} {X : T → Env → Prop} (h : Post (viewR r E) P X) : ∃ t, PV.view r E = some t ∧ P t E := by
  unfold viewR at h
  cases e : PV.view r E with
  | none => rw [e] at h; exact h.elim
  | some t => rw [e] at h; exact ⟨t, rfl, h⟩
theorem Post.pure {α : Type} {a : α} {E : Env} {P : α → Env → Prop} {X : T → Env → Prop} (h : Post (M.pure a E) P X) : P a E := h

/-- an answer: a value, or a place -/
def RepR (g : G) (F : Addr → Prop) (H : Hp) (σ : St) (r : R) (v : V) (fp : List Addr) : Prop := match r with
  | .val t => Rep g F H t v fp
  | .plc i p => fp = [] ∧ AtE H σ i p v
/-- what is wanted where an exception leaves -/
def xP (g : GX) (W : WX) (σ : St) (F : Addr → Prop) (H : Hp) (fp : List Addr) (x : T) (E' : Env) : Prop :=
  ∀ cls d H' F' fp', Aft F F' H H' fp fp' → Wf F' H' fp' → RepE g.toG F' H' E' σ fp' → g.err x cls d F' H' → W cls d σ H'
theorem xP.later {g : GX} {W : WX} {σ : St} {F F' : Addr → Prop} {H H' : Hp} {fp fp' : List Addr} {x : T} {E' : Env} (h : xP g W σ F H fp x E') (y : Aft F F' H H' fp fp') : xP g W σ F' H' fp' x E' :=
  fun cls d H2 F2 fp2 z w r e => h cls d H2 F2 fp2 (y.trans z) w r e
abbrev Ext (H H' : Hp) : Prop := ∀ a o, H a = some o → H' a = some o

/-- the readings -/
def tE (g : GX) (W : WX) (b : Bool) (m : M R) : TE := fun σ H Q => ∃ F E fp, Wf F H fp ∧ RepE g.toG F H E σ fp ∧
  Post (m E) (fun r E' => ∀ v H' F' fr fp', Aft F F' H H' fp (fr ++ fp') → Wf F' H' (fr ++ fp') → RepE g.toG F' H' E' σ fp' → RepR g.toG F' H' σ r v fr → (b = true → Ext H H') → Q v H') (xP g W σ F H fp)
def tT (g : GX) (W : WX) (b : Bool) (m : M Bool) : TT := fun σ H Q => ∃ F E fp, Wf F H fp ∧ RepE g.toG F H E σ fp ∧
  Post (m E) (fun k E' => ∀ H' F' fp', Aft F F' H H' fp fp' → Wf F' H' fp' → RepE g.toG F' H' E' σ fp' → (b = true → Ext H H') → Q k H') (xP g W σ F H fp)
abbrev JE (X : Cx) (g : GX) (W : WX) (b : Bool) (e : Expr) (m : M R) : Prop := PE X e (tE g W b m)
abbrev JT (X : Cx) (g : GX) (W : WX) (b : Bool) (e : Expr) (m : M Bool) : Prop := PT X e (tT g W b m)
theorem PE.imp {X : Cx} {e : Expr} {t t' : TE} (h : PE X e t) (k : ∀ σ H Q, t' σ H Q → t σ H Q) : PE X e t' := ⟨fun pins s σ H Q I q => h.run pins s σ H Q I (k σ H Q q)⟩
theorem PT.imp {X : Cx} {e : Expr} {t t' : TT} (h : PT X e t) (k : ∀ σ H Q, t' σ H Q → t σ H Q) : PT X e t' := ⟨fun pins s σ H Q I q => h.run pins s σ H Q I (k σ H Q q)⟩
theorem tE.weak {g : GX} {W : WX} {b : Bool} {m : M R} {σ : St} {H : Hp} {Q : VK} (h : tE g W false m σ H Q) : tE g W b m σ H Q := by
  obtain ⟨F, E, fp, w, r, p⟩ := h
  exact ⟨F, E, fp, w, r, p.imp (fun a E' k v H' F' fr fp' x y z u _ => k v H' F' fr fp' x y z u (fun z => nomatch z)) fun _ _ h => h⟩

section
variable {g : G} {F F' F1 F2 F3 : Addr → Prop} {H H' H1 H2 H3 : Hp} {fp fp' fp1 fp2 fp3 ft fq : List Addr} {t u : T} {v : V} {σ : St} {E E' : Env} {r : R}
theorem Rep.fz (h : Rep g F H t v ft) : Rep g (fun a => F a ∨ a ∈ ft) H t.fz v [] := by
  unfold T.fz
  by_cases e : t.pureT = true
  · rw [if_pos e]
    have := Rep.pure t h e
    subst this
    exact Rep.stay t h stay_shared
  · rw [if_neg e]
    exact Rep.frz t h (fun a h => h) (fun _ => .inr trivial) ⟨_, rfl⟩
theorem RepR.own (h : RepR g F H σ r v fp) : ∀ a ∈ fp, ∃ o, H a = some o ∧ Mut (some o) := by
  cases r with
  | val t => exact Rep.own t h
  | plc i p => obtain ⟨rfl, _⟩ := h; exact fun _ z => nomatch z
theorem AtE.later {i : Nat} {p : List Sel} (h : AtE H σ i p v) (k : p = [] ∨ Ext H H') : AtE H' σ i p v := by
  obtain ⟨w, e, q⟩ := h
  rcases k with rfl | k
  · exact ⟨w, e, q⟩
  · exact ⟨w, e, q.ext k⟩
theorem RepR.later (h : RepR g F H σ r v fp) (s : Stay F F' H H' fp) (k : deep r = false ∨ Ext H H') : RepR g F' H' σ r v fp := by
  cases r with
  | val t => exact Rep.stay t h s
  | plc i p =>
    obtain ⟨rfl, q⟩ := h
    refine ⟨rfl, q.later (k.imp (fun d => ?_) id)⟩
    cases p with
    | nil => rfl
    | cons a p => cases d
/-- looking at an answer -/
theorem RepR.view (h : RepR g F H σ r v ft) (w : Wf F H (ft ++ fp)) (re : RepE g F H E σ fp) (e : PV.view r E = some t) :
    ∃ f, Rep g (fun a => F a ∨ a ∈ ft) H t v f ∧ (∀ a ∈ f, a ∈ fp) ∧ Wf (fun a => F a ∨ a ∈ ft) H fp ∧ RepE g (fun a => F a ∨ a ∈ ft) H E σ fp ∧ Aft F (fun a => F a ∨ a ∈ ft) H H (ft ++ fp) fp := by
  obtain ⟨w2, a2⟩ := shared w h.own
  have re2 : RepE g (fun a => F a ∨ a ∈ ft) H E σ fp := re.stay stay_shared
  cases r with
  | val t0 =>
    have e' : t0.fz = t := Option.some.inj e
    subst e'
    exact ⟨[], Rep.fz h, (fun _ z => nomatch z), w2, re2, a2⟩
  | plc i p =>
    obtain ⟨rfl, q⟩ := h
    have e' : plcGet i p E = some t := e
    by_cases hh : t = .hole
    · subst hh
      exact ⟨[], rfl, (fun _ z => nomatch z), w2, re2, a2⟩
    · obtain ⟨w', f, rest, at', r', pm, _⟩ := re2.focus e' (.inl hh)
      rw [at'.det q] at r'
      exact ⟨f, r', fun a ha => pm.mem_iff.mpr (List.mem_append_left _ ha), w2, re2, a2⟩
end
end PV

/-! V5: names, constants, operators, tests -/
namespace PV
open PySem L2

section
variable {X : Cx} {e : Expr} {g : GX} {W : WX} {F F' F1 F2 F3 : Addr → Prop} {H H' H1 H2 H3 : Hp} {fp fp' fp1 fp2 fp3 ft fu fq : List Addr} {t u z : T} {v x y : V} {σ : St} {E E' E1 E2 : Env} {r s : R} {Q : VK} {b b' q : Bool}

/-- a new answer at the end -/
structure New (g : G) (F F' : Addr → Prop) (H H' : Hp) (z : T) (v : V) (f : List Addr) : Prop where
  ext : Ext H H'
  ff : ∀ a, F a → F' a
  fn : ∀ a, F' a → F a ∨ H a = none
  fd : ∀ a, F' a → ∃ o, H' a = some o
  new : ∀ a ∈ f, H a = none
  nd : f.Nodup
  dj : ∀ a ∈ f, ¬ F' a
  rep : Rep g F' H' z v f
theorem New.same (h : Rep g.toG F H z v []) (w : Wf F H fp) : New g.toG F F H H z v [] := ⟨fun _ _ h => h, fun _ h => h, fun _ h => .inl h, w.dom, (fun _ z => nomatch z), List.nodup_nil, (fun _ z => nomatch z), h⟩
/-- what stands, behind something new -/
theorem New.end_ {f : List Addr} (n : New g.toG F F' H H' z v f) (w : Wf F H fp) (re : RepE g.toG F H E σ fp) (own : ∀ a ∈ fp, ∃ o, H a = some o) :
    Wf F' H' (f ++ fp) ∧ RepE g.toG F' H' E σ fp ∧ Aft F F' H H' fp (f ++ fp) := by
  have st : Stay F F' H H' fp := ⟨n.ff, fun a o e _ => n.ext a o e⟩
  refine ⟨⟨List.nodup_append.mpr ⟨n.nd, w.nd, fun a h1 b h2 e => ?_⟩, fun a ha => ?_, n.fd⟩, re.stay st, ⟨n.ff, fun a h => (n.fn a h).imp id .inr, fun a o e _ => n.ext a o e, fun a ha => ?_, fun a o e _ => n.ext a o e⟩⟩
  · subst e
    obtain ⟨o, e⟩ := own a h2
    rw [n.new a h1] at e
    cases e
  · rcases List.mem_append.mp ha with ha | ha
    · exact n.dj a ha
    · intro q
      rcases n.fn a q with q | q
      · exact w.dj a ha q
      · obtain ⟨o, e⟩ := own a ha
        rw [q] at e; cases e
  · rcases List.mem_append.mp ha with ha | ha
    · exact .inr (n.new a ha)
    · exact .inl ha
theorem own_of (re : RepE g.toG F H E σ fp) : ∀ a ∈ fp, ∃ o, H a = some o := fun a ha => let ⟨o, e, _⟩ := re.own a ha; ⟨o, e⟩
/-- the answer z, new, is handed on -/
theorem fin (k : ∀ v H' F' fr fp', Aft F F' H H' fp (fr ++ fp') → Wf F' H' (fr ++ fp') → RepE g.toG F' H' E' σ fp' → RepR g.toG F' H' σ (.val z) v fr → (b = true → Ext H H') → Q v H')
    (a : Aft F F1 H H1 fp fp1) (w : Wf F1 H1 fp1) (re : RepE g.toG F1 H1 E' σ fp1) (ex : b = true → Ext H H1) {f : List Addr} (n : New g.toG F1 F2 H1 H2 z v f) : Q v H2 := by
  obtain ⟨w2, re2, a2⟩ := n.end_ w re (own_of re)
  exact k v H2 F2 f fp1 (a.trans a2) w2 re2 n.rep fun hb c o e => n.ext c o (ex hb c o e)

/-! ### two values in a row -/
theorem two_red {α : Type} {ma mb : M R} {f : T → T → Option α} {P : α → Env → Prop} {K : V → V → Hp → Prop} {E : Env}
    (w : Wf F H fp) (re : RepE g.toG F H E σ fp) (p : Post (two q ma mb f E) P (xP g W σ F H fp))
    (k : ∀ (x y : V) (H2 : Hp) (F2 : Addr → Prop) (fp2 : List Addr) (E2 : Env) (t u : T) (c : α) (ft fu : List Addr), Aft F F2 H H2 fp fp2 → Wf F2 H2 fp2 → RepE g.toG F2 H2 E2 σ fp2 → Rep g.toG F2 H2 t x ft → Rep g.toG F2 H2 u y fu →
      f t u = some c → P c E2 → ((b && q) = true → Ext H H2) → K x y H2) :
    tE g W b ma σ H (fun x H1 => tE g W q mb σ H1 (fun y H2 => K x y H2)) := by
  refine ⟨F, E, fp, w, re, p.bind.imp (fun r E1 p1 => ?_) fun _ _ h => h⟩
  intro x H1 F1 fr fp1 a1 w1 re1 rr1 ex1
  obtain ⟨gd, p2⟩ := p1.bind.guard
  refine ⟨F1, E1, fp1, w1.right, re1, p2.bind.imp (fun s E2 p3 => ?_) fun _ _ h => h.later (a1.sub fun a ha => List.mem_append_right _ ha)⟩
  intro y H2 F2 fs fp2 a2 w2 re2 rr2 ex2
  obtain ⟨wf3, st, a3⟩ := frame w1 rr1.own a2 w2
  have rr1' : RepR g.toG F2 H2 σ r x fr := rr1.later st (by
    cases hq : q with
    | true => exact .inr (ex2 hq)
    | false => rw [hq, Bool.or_false] at gd; exact .inl (by simpa using gd))
  obtain ⟨t, et, p4⟩ := p3.bind.view
  obtain ⟨u, eu, p5⟩ := p4.bind.view
  obtain ⟨c, ec, p6⟩ := p5.ofO
  -- the second one is looked at, then the first one
  have wf4 : Wf F2 H2 (fs ++ (fr ++ fp2)) := wf3.perm (by
    rw [← List.append_assoc, ← List.append_assoc]
    exact (List.perm_append_comm (l₁ := fr) (l₂ := fs)).append_right fp2)
  obtain ⟨fu, ru, _, _, _, _⟩ := rr2.view w2 re2 eu
  obtain ⟨wf5, a5⟩ := shared wf4 rr2.own
  have re5 : RepE g.toG (fun a => F2 a ∨ a ∈ fs) H2 E2 σ fp2 := re2.stay stay_shared
  have rr5 : RepR g.toG (fun a => F2 a ∨ a ∈ fs) H2 σ r x fr := rr1'.later stay_shared (.inr fun _ _ e => e)
  obtain ⟨ft, rt, _, w6, re6, a6⟩ := rr5.view wf5 re5 et
  refine k x y H2 _ fp2 E2 t u c ft fu (Aft.trans a1 (Aft.trans a3 (Aft.trans ((Aft.refl (F := F2) (H := H2) (fp := fr ++ (fs ++ fp2))).sub (fp2 := fs ++ (fr ++ fp2)) fun a ha => by simp only [List.mem_append] at ha ⊢; rcases ha with h | h | h <;> simp [h]) (Aft.trans a5 a6)))) w6 re6 rt (Rep.stay u ru stay_shared) ec p6 fun hb c o e => ?_
  rw [Bool.and_eq_true] at hb
  exact ex2 hb.2 c o (ex1 hb.1 c o e)

/-! ### a test in a row -/
theorem je_val (he : PE X e (tC v)) (hr : ∀ F H, Rep g.toG F H t v []) : JE X g W b e (cVal t) := PE.imp he fun σ H Q h => by
  obtain ⟨F, E, fp, w, re, p⟩ := h
  have k := p.pure
  exact k v H F [] fp Aft.refl w re (hr F H) (fun _ _ _ h => h)
theorem je_none {j : Nat} {pos : Pos} : JE X g W b (.Constant .none j pos) (cVal .non) := je_val pe_non fun _ _ => ⟨rfl, rfl⟩
theorem je_bool {k : Bool} {j : Nat} {pos : Pos} : JE X g W b (.Constant (.bool k) j pos) (cVal (.bl k)) := je_val pe_bl fun _ _ => ⟨rfl, rfl⟩
theorem je_int {k : Int} {j : Nat} {pos : Pos} : JE X g W b (.Constant (.int k) j pos) (cVal (.int k)) := je_val pe_int fun _ _ => ⟨rfl, rfl⟩
theorem je_str {k : Str} {j : Nat} {pos : Pos} : JE X g W b (.Constant (.str k) j pos) (cVal (.str k)) := je_val pe_str fun _ _ => ⟨rfl, rfl⟩
theorem je_var {i : Nat} {n : Str} {pos : Pos} (hN : X.N[i]? = some n) (hv : Vis X.env.scope n) (hd : (n == ("__debug__" : Str)) = false) (hc : (n == ("__classdict__" : Str)) = false) : JE X g W b (.Name n pos) (cVar i) := by
  refine PE.imp (pe_var hN hv hd hc) fun σ H Q h => ?_
  obtain ⟨F, E, fp, w, re, p⟩ := h
  unfold cVar at p
  cases hi : E[i]? with
  | none => simp only [hi] at p; exact p.elim
  | some t =>
    simp only [hi] at p
    obtain ⟨o, f, rest, e1, ro, pm, _⟩ := re.nth hi
    have main : t ≠ .hole → (Post (if T.pureT t = true then Res.ok (R.val t) E else Res.ok (R.plc i []) E) (fun r E' => ∀ v H' F' fr fp', Aft F F' H H' fp (fr ++ fp') → Wf F' H' (fr ++ fp') → RepE g.toG F' H' E' σ fp' → RepR g.toG F' H' σ r v fr → (b = true → Ext H H') → Q v H') (xP g W σ F H fp)) → tVar i σ H Q := by
      intro hh p
      obtain ⟨v, rfl, r⟩ := ro.at hh
      refine ⟨v, e1, ?_⟩
      by_cases hp : T.pureT t = true
      · rw [if_pos hp] at p
        have := Rep.pure t r hp
        subst this
        exact p v H F [] fp Aft.refl w re r fun _ _ _ h => h
      · rw [if_neg hp] at p
        exact p v H F [] fp Aft.refl w re ⟨rfl, v, e1, rfl⟩ fun _ _ _ h => h
    cases t <;> first | exact p.elim | exact main (by intro z; cases z) p


/-! ### operators -/
theorem RepL.app : ∀ {ts us : List T} {vs ws : List V} {f1 f2 : List Addr}, RepL g.toG F H ts vs f1 → RepL g.toG F H us ws f2 → RepL g.toG F H (ts ++ us) (vs ++ ws) (f1 ++ f2)
  | [], us, vs, ws, f1, f2, h, h2 => by obtain ⟨rfl, rfl⟩ := h; exact h2
  | t :: ts, us, vs, ws, f1, f2, h, h2 => by
    obtain ⟨v, vs', a1, a2, rfl, rfl, r1, r2⟩ := h
    exact ⟨v, vs' ++ ws, a1, a2 ++ f2, rfl, by rw [List.append_assoc], r1, RepL.app r2 h2⟩
theorem ext_new {p : Addr} {o : HO} (hp : H p = none) : Ext H (upd H p o) := fun a u e => by rw [upd_ne (ne_of_none e hp)]; exact e
theorem stay_ext (k : Ext H H') : Stay F F H H' fp := ⟨fun _ h => h, fun a o e _ => k a o e⟩
/-- a new list -/
theorem New.lst {ts : List T} {vs : List V} {p : Addr} (w : Wf F H fp) (hp : H p = none) (r : RepL g.toG F H ts vs []) : New g.toG F F H (upd H p (.lst vs)) (.lst true ts) (.ref p) [p] :=
  ⟨ext_new hp, fun _ h => h, fun _ h => .inl h, (fun a h => let ⟨o, e⟩ := w.dom a h; ⟨o, ext_new hp a o e⟩), (fun a ha => by rw [List.mem_singleton.mp ha]; exact hp), (by simp),
    (fun a ha q => by
      obtain ⟨o, e⟩ := w.dom a q
      rw [List.mem_singleton.mp ha, hp] at e
      cases e),
    ⟨p, vs, [], rfl, RepL.stay ts r (stay_ext (ext_new hp)), .inl ⟨rfl, upd_same, rfl⟩⟩⟩
/-- a new tuple -/
theorem New.tup {ts : List T} {vs : List V} {p : Addr} (w : Wf F H fp) (hp : H p = none) (r : RepL g.toG F H ts vs []) : New g.toG F F H (upd H p (.tup vs)) (.tup ts) (.ref p) [] :=
  ⟨ext_new hp, fun _ h => h, fun _ h => .inl h, (fun a h => let ⟨o, e⟩ := w.dom a h; ⟨o, ext_new hp a o e⟩), (fun _ z => nomatch z), List.nodup_nil, (fun _ z => nomatch z),
    ⟨p, vs, rfl, .inl (.inl upd_same), RepL.stay ts r (stay_ext (ext_new hp))⟩⟩
theorem New.atom (w : Wf F H fp) (h : Rep g.toG F H z v []) : New g.toG F F H H z v [] := New.same h w

def rCatL (K : PySem.W.Frag) : R2 := fun x y H Q => ∃ l b xs zs, x = .ref l ∧ y = .ref b ∧ SqL K H l xs ∧ SqL K H b zs ∧ xs.length + zs.length ≤ sizeLine ∧ ∀ p, H p = none → Q (.ref p) (upd H p (.lst (xs ++ zs)))
theorem op_catL : OpR X (binaryOp .Add) (rCatL X.K) := by
  intro pins s σ H x y v u Q I rx ry h
  obtain ⟨l, b, xs, zs, rfl, rfl, hH, hB, hz, q⟩ := h
  cases rx
  cases ry
  obtain ⟨its, r, pl, hl⟩ := I.list hH
  obtain ⟨its2, r2, pl2, hl2⟩ := I.list hB
  have e1 := r.length
  have e2 := r2.length
  obtain ⟨⟨cls, dd, data, sl⟩, n, ho, hc, _, hd⟩ := pl
  obtain ⟨⟨cls2, dd2, data2, sl2⟩, n2, ho2, hc2, _, hd2⟩ := pl2
  simp only at hc hd hc2 hd2
  subst hc hd hc2 hd2
  have e : its.toArray ++ its2.toArray = (its ++ its2).toArray := by simp
  refine concat_meets ⟨_, ho, rfl⟩ ⟨_, ho2, rfl⟩ noFill_list_add seq_list_add PySem.F.slot_list_add PySem.F.entry_list_add (PySem.F.args_list_add_2 _ _) (PyProof.Rows.list_addW l b its.toArray its2.toArray n n2 dd dd2 sl sl2 (by simp only [List.size_toArray]; omega)) ⟨ho, ho2, ?_⟩
  rw [e]
  exact ⟨.ref _, _, I.lnew (t' := s.toks) (r.append r2) (by rw [List.length_append]; omega), rfl, q _ I.fresh⟩

def rRepL (K : PySem.W.Frag) : R2 := fun x y H Q => ∃ l k xs, x = .ref l ∧ y = .int k ∧ SqL K H l xs ∧ -(2 ^ 63) ≤ k ∧ k < 2 ^ 63 ∧ xs.length * k.toNat ≤ sizeLine ∧
  ∀ p, H p = none → Q (.ref p) (upd H p (.lst (List.replicate k.toNat xs).flatten))
theorem op_repL : OpR X (binaryOp .Mult) (rRepL X.K) := by
  intro pins s σ H x y v u Q I rx ry h
  obtain ⟨l, k, xs, rfl, rfl, hH, h1, h2, hz, q⟩ := h
  cases rx
  obtain ⟨t, rfl⟩ := ry
  obtain ⟨its, r, pl, hl⟩ := I.list hH
  have e1 := r.length
  obtain ⟨⟨cls, d, data, sl⟩, n, ho, hc, _, hd⟩ := pl
  simp only at hc hd
  subst hc hd
  have hsz' : its.toArray.size * k.toNat ≤ 2 ^ 24 := by rw [sizeLine_eq] at hz; simp only [List.size_toArray]; rw [← e1]; exact hz
  refine wpAny_binaryOp_repeat_ref (T := "list") (U := "int") (by decide) ⟨_, ho, rfl⟩ (fun s' => typeIs_int s' k t) noFill_list_mul PySem.F.fills_int_mul PySem.F.slot_int_rmul repeat_list PySem.F.slot_int_index.lookup
    (call_meets PySem.F.slot_int_rmul (typeIs_int s k t) PySem.F.entry_int_rmul (PySem.F.args_int_rmul_2 _ _) (PySem.lm_int_rmul_list_any k t l its.toArray n d sl)
      ⟨ho, rfl, ⟨_, ho, rfl⟩, call_meets PySem.F.slot_list_mul ⟨_, ho, rfl⟩ PySem.F.entry_list_mul (PySem.F.args_list_mul_2 _ _)
        (PySem.lm_list_mul_any l its.toArray n d sl k t (by simp [Builtin.List.listFitsIndex]; omega) (by omega) (by simp [Builtin.List.listTooLong, sizeLine]; omega))
        ⟨ho, ?_⟩⟩)
  have hnew : List.foldl (fun x1 x2 => x1 ++ x2) #[] (List.replicate (if its.toArray.isEmpty = true then 0 else k.toNat) its.toArray) = (List.replicate k.toNat its).flatten.toArray := by
    have f0 : ∀ m : Nat, List.foldl (fun x1 x2 => x1 ++ x2) #[] (List.replicate m its.toArray) = (List.replicate m its).flatten.toArray := fun m => by
      have := foldl_rep its m []
      rw [List.nil_append] at this
      exact this
    rw [f0]
    cases its with
    | nil => simp
    | cons a r' => rw [if_neg (by simp)]
  rw [hnew]
  exact ⟨.ref _, _, I.lnew (t' := s.toks) (r.rep k.toNat) (by rw [PyProof.Rows.lm_len_rep_flat, Nat.mul_comm]; exact hz), rfl, q _ I.fresh⟩
theorem RepL.rep {ts : List T} {vs : List V} (h : RepL g.toG F H ts vs []) : ∀ n : Nat, RepL g.toG F H (List.replicate n ts).flatten (List.replicate n vs).flatten []
  | 0 => ⟨rfl, rfl⟩
  | n + 1 => by
    rw [List.replicate_succ, List.replicate_succ, List.flatten_cons, List.flatten_cons]
    exact RepL.app h (RepL.rep h n)
theorem lim_line : lim ≤ sizeLine := by rw [sizeLine_eq]; decide
theorem le_line {n : Nat} (h : n ≤ lim) : n ≤ sizeLine := Nat.le_trans h lim_line
theorem Rep.int_inv {i : Int} (h : Rep g.toG F H (.int i) x ft) : x = .int i := h.1
theorem Rep.str_inv {i : Str} (h : Rep g.toG F H (.str i) x ft) : x = .str i := h.1
/-- a list, to be read -/
theorem Rep.lst_inv {o : Bool} {ts : List T} (h : Rep g.toG F H (.lst o ts) x ft) : ∃ a vs fs, x = .ref a ∧ SqL g.K H a vs ∧ RepL g.toG F H ts vs fs ∧ (T.pureL ts = true → fs = []) := by
  obtain ⟨a, vs, fs, rfl, r, ⟨rfl, e, rfl⟩ | ⟨rfl, q, rfl, rfl⟩⟩ := h
  · exact ⟨a, vs, fs, rfl, SqL.of e, r, RepL.pure ts r⟩
  · exact ⟨a, vs, [], rfl, q.sq, r, fun _ => rfl⟩
theorem Rep.tup_inv {ts : List T} (h : Rep g.toG F H (.tup ts) x ft) : ∃ a vs, x = .ref a ∧ SqT g.K H a vs ∧ RepL g.toG F H ts vs ft ∧ (T.pureL ts = true → ft = []) := by
  obtain ⟨a, vs, rfl, q, r⟩ := h
  exact ⟨a, vs, rfl, q, r, RepL.pure ts r⟩

/-- an operator's rule serves trees -/
def OpT (g : GX) (X : Cx) (f : Value → Value → Sem Value) (h : T → T → Option T) (r : R2) : Prop := OpR X f r ∧
  ∀ (F : Addr → Prop) (H : Hp) (fp : List Addr) (t u z : T) (x y : V) (ft fu : List Addr) (Q : VK), Wf F H fp → Rep g.toG F H t x ft → Rep g.toG F H u y fu → h t u = some z →
    (∀ v H' F' f, New g.toG F F' H H' z v f → Q v H') → r x y H Q
theorem je_two {op : Operator} {ea eb : Expr} {ma mb : M R} {pos : Pos} {rr : R2} (ho : OpT g X (binaryOp op) (binop op) rr) (ha : JE X g W b ea ma) (hb : JE X g W q eb mb) :
    JE X g W (b && q) (.BinOp ea op eb pos) (cBin op q ma mb) := PE.imp (pe_op ho.1 ha hb) fun σ H Q h => by
  obtain ⟨F, E, fp, w, re, p⟩ := h
  refine two_red w re p.bind fun x y H2 F2 fp2 E2 t u c ft fu a2 w2 re2 rt ru ec k ex => ?_
  exact ho.2 F2 H2 fp2 t u c x y ft fu Q w2 rt ru ec fun v H' F' f n => fin k.pure a2 w2 re2 ex n
theorem opt_int {f : Value → Value → Sem Value} {op : Operator} {C : Int → Int → Prop} {G : Int → Int → Int} (hr : OpR X f (rI C fun i j => .int (G i j)))
    (hb : ∀ t u z, binop op t u = some z → ∃ i j, t = .int i ∧ u = .int j ∧ C i j ∧ z = .int (G i j)) : OpT g X f (binop op) (rI C fun i j => .int (G i j)) :=
  ⟨hr, fun F H fp t u z x y ft fu Q w rt ru e k => by
    obtain ⟨i, j, rfl, rfl, c, rfl⟩ := hb t u z e
    exact ⟨i, j, rt.int_inv, ru.int_inv, c, k _ _ _ _ (New.atom w ⟨rfl, rfl⟩)⟩⟩
theorem ot_sub : OpT g X (binaryOp .Sub) (binop .Sub) (rI0 fun i j => .int (i - j)) := ⟨op_sub, fun F H fp t u z x y ft fu Q w rt ru e k => by
  cases t <;> cases u <;> simp only [binop] at e <;> first | (cases e; done) | skip
  cases e
  exact ⟨_, _, rt.int_inv, ru.int_inv, k (.int _) _ _ _ (New.atom w ⟨rfl, rfl⟩)⟩⟩
theorem ot_fdiv : OpT g X (binaryOp .FloorDiv) (binop .FloorDiv) (rI CDivN fun i j => .int (i.fdiv j)) := opt_int op_fdivN fun t u z e => by
  cases t <;> cases u <;> simp only [binop] at e <;> first | (cases e; done) | skip
  split at e
  · cases e; exact ⟨_, _, rfl, rfl, by assumption, rfl⟩
  · cases e
theorem ot_mod : OpT g X (binaryOp .Mod) (binop .Mod) (rI (fun _ j => j ≠ 0) fun i j => .int (i.fmod j)) := opt_int op_modN fun t u z e => by
  cases t <;> cases u <;> simp only [binop] at e <;> first | (cases e; done) | skip
  split at e
  · cases e; exact ⟨_, _, rfl, rfl, by assumption, rfl⟩
  · cases e
theorem ot_pow : OpT g X (binaryOp .Pow) (binop .Pow) (rI CPow fun i j => .int (i ^ j.toNat)) := opt_int op_pow fun t u z e => by
  cases t <;> cases u <;> simp only [binop] at e <;> first | (cases e; done) | skip
  split at e
  · cases e; exact ⟨_, _, rfl, rfl, by assumption, rfl⟩
  · cases e
theorem ot_mul (hK : g.toG.K = X.K) : OpT g X (binaryOp .Mult) (binop .Mult) (fun x y H Q => (rI CMul fun i j => .int (i * j)) x y H Q ∨ rRepL X.K x y H Q) := ⟨op_mul.or op_repL, fun F H fp t u z x y ft fu Q w rt ru e k => by
  cases t <;> cases u <;> simp only [binop] at e <;> first | (cases e; done) | skip
  · split at e
    · rename_i i j hs
      cases e
      refine .inl ⟨_, _, rt.int_inv, ru.int_inv, ?_, k _ _ _ _ (New.atom w ⟨rfl, rfl⟩)⟩
      simp only [small, Bool.or_eq_true, Bool.and_eq_true, decide_eq_true_eq] at hs
      exact hs
    · cases e
  · split at e
    · rename_i o xs k' hs
      simp only [Bool.and_eq_true, decide_eq_true_eq] at hs
      obtain ⟨⟨⟨hp, h0⟩, h1⟩, hl⟩ := hs
      cases e
      obtain ⟨a, vs, fs, rfl, sq, r, hf⟩ := rt.lst_inv
      obtain rfl := hf hp
      refine .inr ⟨a, _, vs, rfl, ru.int_inv, hK ▸ sq, by omega, by omega, by rw [← r.length]; exact le_line hl, fun p hp => k _ _ _ _ (New.lst w hp (r.rep _))⟩
    · cases e⟩
theorem ot_add (hK : g.toG.K = X.K) : OpT g X (binaryOp .Add) (binop .Add) (fun x y H Q => (rI0 fun i j => .int (i + j)) x y H Q ∨ (∃ i j, x = .str i ∧ y = .str j ∧ i.length + j.length ≤ sizeLine ∧ Q (.str (i ++ j)) H) ∨ rCatL X.K x y H Q ∨ rCatA X.K x y H Q) :=
  ⟨op_add.or (op_add_str.or (op_catL.or op_catA)), fun F H fp t u z x y ft fu Q w rt ru e k => by
  cases t <;> cases u <;> simp only [binop] at e <;> first | (cases e; done) | skip
  · cases e
    exact .inl ⟨_, _, rt.int_inv, ru.int_inv, k (.int _) _ _ _ (New.atom w ⟨rfl, rfl⟩)⟩
  · split at e
    · cases e
      exact .inr (.inl ⟨_, _, rt.str_inv, ru.str_inv, le_line (by assumption), k (.str _) _ _ _ (New.atom w ⟨rfl, rfl⟩)⟩)
    · cases e
  · split at e
    · rename_i xs ys hs
      simp only [Bool.and_eq_true, decide_eq_true_eq] at hs
      obtain ⟨⟨h1, h2⟩, hl⟩ := hs
      cases e
      obtain ⟨a, vs, rfl, sq, r, hf⟩ := rt.tup_inv
      obtain ⟨a2, vs2, rfl, sq2, r2, hf2⟩ := ru.tup_inv
      obtain rfl := hf h1
      obtain rfl := hf2 h2
      have l1 := r.length
      have l2 := r2.length
      refine .inr (.inr (.inr ⟨a, a2, vs, vs2, rfl, rfl, hK ▸ sq, hK ▸ sq2, by rw [← l1, ← l2]; exact le_line hl, fun z => ?_, fun _ z => ?_, fun _ _ p hp => k _ _ _ _ (New.tup w hp (r.app r2))⟩))
      · subst z
        obtain rfl : xs = [] := List.length_eq_zero_iff.mp l1
        exact k _ _ _ _ (New.same ru w)
      · subst z
        obtain rfl : ys = [] := List.length_eq_zero_iff.mp l2
        refine k _ _ _ _ (New.same ?_ w)
        rw [List.append_nil]
        exact rt
    · cases e
  · split at e
    · rename_i o xs o2 ys hs
      simp only [Bool.and_eq_true, decide_eq_true_eq] at hs
      obtain ⟨⟨h1, h2⟩, hl⟩ := hs
      cases e
      obtain ⟨a, vs, fs, rfl, sq, r, hf⟩ := rt.lst_inv
      obtain ⟨a2, vs2, fs2, rfl, sq2, r2, hf2⟩ := ru.lst_inv
      obtain rfl := hf h1
      obtain rfl := hf2 h2
      have l1 := r.length
      have l2 := r2.length
      exact .inr (.inr (.inl ⟨a, a2, vs, vs2, rfl, rfl, hK ▸ sq, hK ▸ sq2, by rw [← l1, ← l2]; exact le_line hl, fun p hp => k _ _ _ _ (New.lst w hp (r.app r2))⟩))
    · cases e⟩
end
end PV

/-! V6: tests, comparisons -/
namespace PV
open PySem L2

section
variable {X : Cx} {e ea eb ec : Expr} {g : GX} {W : WX} {F F' F1 F2 F3 : Addr → Prop} {H H' H1 H2 H3 : Hp} {fp fp' fp1 fp2 fp3 ft fu fq : List Addr} {t u z : T} {v x y : V} {σ : St} {E E' E1 E2 : Env} {r s : R} {Q : VK} {b b' b1 b2 q : Bool}
variable {ma mb mc : M R} {na nb nc : M Bool} {pos : Pos} {es : List Expr}

/-! ### sequencing -/
/-- behind a test -/
theorem tT_then {α : Type} {n : M Bool} {f : Bool → M α} {P : α → Env → Prop} {K : Bool → Hp → Prop}
    (w : Wf F H fp) (re : RepE g.toG F H E σ fp) (p : Post (M.bind n f E) P (xP g W σ F H fp))
    (k : ∀ c H1 F1 fp1 E1, Aft F F1 H H1 fp fp1 → Wf F1 H1 fp1 → RepE g.toG F1 H1 E1 σ fp1 → (b = true → Ext H H1) → Post (f c E1) P (xP g W σ F H fp) → K c H1) : tT g W b n σ H K :=
  ⟨F, E, fp, w, re, p.bind.imp (fun c E1 p1 H1 F1 fp1 a1 w1 re1 ex => k c H1 F1 fp1 E1 a1 w1 re1 ex p1) fun _ _ h => h⟩
/-- the end of a test -/
def okT (g : GX) (b : Bool) (σ : St) (F : Addr → Prop) (H : Hp) (fp : List Addr) (Q : Bool → Hp → Prop) (k : Bool) (E' : Env) : Prop :=
  ∀ H' F' fp', Aft F F' H H' fp fp' → Wf F' H' fp' → RepE g.toG F' H' E' σ fp' → (b = true → Ext H H') → Q k H'
def okE (g : GX) (b : Bool) (σ : St) (F : Addr → Prop) (H : Hp) (fp : List Addr) (Q : VK) (r : R) (E' : Env) : Prop :=
  ∀ v H' F' fr fp', Aft F F' H H' fp (fr ++ fp') → Wf F' H' (fr ++ fp') → RepE g.toG F' H' E' σ fp' → RepR g.toG F' H' σ r v fr → (b = true → Ext H H') → Q v H'
theorem okT.later {Q : Bool → Hp → Prop} {k : Bool} (h : okT g b σ F H fp Q k E') (a : Aft F F1 H H1 fp fp1) (ex : b1 = true → Ext H H1) (hb : b = true → b1 = true ∧ b2 = true) : okT g b2 σ F1 H1 fp1 Q k E' :=
  fun H' F' fp' a' w re ex' => h H' F' fp' (a.trans a') w re fun z c o q => ex' (hb z).2 c o (ex (hb z).1 c o q)
theorem okE.later {r : R} (h : okE g b σ F H fp Q r E') (a : Aft F F1 H H1 fp fp1) (ex : b1 = true → Ext H H1) (hb : b = true → b1 = true ∧ b2 = true) : okE g b2 σ F1 H1 fp1 Q r E' :=
  fun v H' F' fr fp' a' w re rr ex' => h v H' F' fr fp' (a.trans a') w re rr fun z c o q => ex' (hb z).2 c o (ex (hb z).1 c o q)

/-! ### tests -/
theorem je_weak (h : JE X g W b e ma) : JE X g W false e ma := PE.imp h fun σ H Q h => h.weak
theorem jt_weak (h : JT X g W b e na) : JT X g W false e na := PT.imp h fun σ H Q h => by
  obtain ⟨F, E, fp, w, re, p⟩ := h
  exact ⟨F, E, fp, w, re, p.imp (fun k E' z H' F' fp' a w re _ => z H' F' fp' a w re fun h => nomatch h) fun _ _ h => h⟩
theorem jt_not (h : JT X g W b e na) : JT X g W b (.UnaryOp .Not e pos) (tNot na) := PT.imp (pt_not h) fun σ H Q h => by
  obtain ⟨F, E, fp, w, re, p⟩ := h
  exact tT_then w re p fun c H1 F1 fp1 E1 a1 w1 re1 ex p1 => p1.pure H1 F1 fp1 a1 w1 re1 ex
theorem jt_and (h : JT X g W b1 ea na) (h2 : PW X (.BoolOp .And (eb :: es) pos) (tT g W b2 nb)) : PW X (.BoolOp .And (ea :: eb :: es) pos) (tT g W (b1 && b2) (tAnd na nb)) := by
  have := pw_and h h2
  refine ⟨fun whole pins s σ H Q I hq => this.run whole pins s σ H Q I ?_⟩
  obtain ⟨F, E, fp, w, re, p⟩ := hq
  refine tT_then w re p fun c H1 F1 fp1 E1 a1 w1 re1 ex p1 => ?_
  cases c with
  | true =>
    rw [if_pos rfl] at p1 ⊢
    exact ⟨F1, E1, fp1, w1, re1, p1.imp (fun k E' (z : okT g (b1 && b2) σ F H fp Q k E') => z.later a1 ex fun h => by simpa using h) fun _ _ h => h.later a1⟩
  | false =>
    rw [if_neg (by decide)] at p1 ⊢
    exact p1.pure H1 F1 fp1 a1 w1 re1 fun h => ex (by rw [Bool.and_eq_true] at h; exact h.1)
theorem jt_or (h : JT X g W b1 ea na) (h2 : PW X (.BoolOp .Or (eb :: es) pos) (tT g W b2 nb)) : PW X (.BoolOp .Or (ea :: eb :: es) pos) (tT g W (b1 && b2) (tOr na nb)) := by
  have := pw_or h h2
  refine ⟨fun whole pins s σ H Q I hq => this.run whole pins s σ H Q I ?_⟩
  obtain ⟨F, E, fp, w, re, p⟩ := hq
  refine tT_then w re p fun c H1 F1 fp1 E1 a1 w1 re1 ex p1 => ?_
  cases c with
  | false =>
    rw [if_neg (by decide)] at p1 ⊢
    exact ⟨F1, E1, fp1, w1, re1, p1.imp (fun k E' (z : okT g (b1 && b2) σ F H fp Q k E') => z.later a1 ex fun h => by simpa using h) fun _ _ h => h.later a1⟩
  | true =>
    rw [if_pos rfl] at p1 ⊢
    exact p1.pure H1 F1 fp1 a1 w1 re1 fun h => ex (by rw [Bool.and_eq_true] at h; exact h.1)
theorem jt_and1 (h : JT X g W b ea na) : PW X (.BoolOp .And [ea] pos) (tT g W b na) := pw_and1 h
theorem jt_or1 (h : JT X g W b ea na) : PW X (.BoolOp .Or [ea] pos) (tT g W b na) := pw_or1 h
/-- a if t else b -/
theorem je_if (ht : JT X g W b ec nc) (ha : JE X g W b1 ea ma) (hb : JE X g W b2 eb mb) : JE X g W (b && b1 && b2) (.IfExp ec ea eb pos) (cIf nc ma mb) := PE.imp (pe_ifExp ht ha hb) fun σ H Q h => by
  obtain ⟨F, E, fp, w, re, p⟩ := h
  refine tT_then w re p fun c H1 F1 fp1 E1 a1 w1 re1 ex p1 => ?_
  cases c with
  | true =>
    rw [if_pos rfl] at p1 ⊢
    exact ⟨F1, E1, fp1, w1, re1, p1.imp (fun k E' (z : okE g (b && b1 && b2) σ F H fp Q k E') => z.later a1 ex fun h => by simp only [Bool.and_eq_true] at h; exact h.1) fun _ _ h => h.later a1⟩
  | false =>
    rw [if_neg (by decide)] at p1 ⊢
    exact ⟨F1, E1, fp1, w1, re1, p1.imp (fun k E' (z : okE g (b && b1 && b2) σ F H fp Q k E') => z.later a1 ex fun h => by simp only [Bool.and_eq_true] at h; exact ⟨h.1.1, h.2⟩) fun _ _ h => h.later a1⟩
/-- a comparison's rule, of trees: its answer -/
def CmpT (g : GX) (X : Cx) (ei : T → T → Option Bool) (op : CmpOp) (r : R2) : Prop := OpR X (compareOp op) r ∧
  ∀ (F : Addr → Prop) (H : Hp) (fp : List Addr) (t u : T) (k : Bool) (x y : V) (ft fu : List Addr) (Q : VK), Wf F H fp → Rep g.toG F H t x ft → Rep g.toG F H u y fu → cmpop ei op t u = some k →
    (∀ H', Ext H H' → Q (.bl k) H') → r x y H Q
theorem jt_cmp {op : CmpOp} {rr : R2} {ei : T → T → Option Bool} (ho : CmpT g X ei op rr) (ha : JE X g W b ea ma) (hb : JE X g W q eb mb) (hm : behindInMarks op eb = false) : JT X g W (b && q) (.Compare ea [op] [eb] pos) (tCmp ei op q ma mb) :=
  PT.imp (pt_cmpR ho.1 ha hb hm) fun σ H Q h => by
    obtain ⟨F, E, fp, w, re, p⟩ := h
    refine two_red w re p fun x y H2 F2 fp2 E2 t u c ft fu a2 w2 re2 rt ru ec k ex => ?_
    refine ho.2 F2 H2 fp2 t u c x y ft fu _ w2 rt ru ec fun H' e => ⟨c, rfl, ?_⟩
    have st : Stay F2 F2 H2 H' fp2 := stay_ext e
    exact k H' F2 fp2 (a2.trans ⟨fun _ h => h, fun _ h => .inl h, fun a o q _ => e a o q, fun _ h => .inl h, fun a o q _ => e a o q⟩) ⟨w2.nd, w2.dj, fun a h => let ⟨o, q⟩ := w2.dom a h; ⟨o, e a o q⟩⟩ (re2.stay st) fun h c o q => e c o (ex h c o q)
theorem ext_aft (e : Ext H H') : Aft F F H H' fp fp := ⟨fun _ h => h, fun _ h => .inl h, fun a o q _ => e a o q, fun _ h => .inl h, fun a o q _ => e a o q⟩
theorem Wf.ext (w : Wf F H fp) (e : Ext H H') : Wf F H' fp := ⟨w.nd, w.dj, fun a h => let ⟨o, q⟩ := w.dom a h; ⟨o, e a o q⟩⟩
theorem je_cmp {op : CmpOp} {rr : R2} {ei : T → T → Option Bool} (ho : CmpT g X ei op rr) (ha : JE X g W b ea ma) (hb : JE X g W q eb mb) (hm : behindInMarks op eb = false) : JE X g W (b && q) (.Compare ea [op] [eb] pos) (cBool (tCmp ei op q ma mb)) :=
  PE.imp (pe_cmpR ho.1 ha hb hm) fun σ H Q h => by
    obtain ⟨F, E, fp, w, re, p⟩ := h
    refine two_red w re p.bind fun x y H2 F2 fp2 E2 t u c ft fu a2 w2 re2 rt ru ec k ex => ?_
    refine ho.2 F2 H2 fp2 t u c x y ft fu _ w2 rt ru ec fun H' e => ?_
    exact k.pure (.bl c) H' F2 [] fp2 (a2.trans (ext_aft e)) (w2.ext e) (re2.stay (stay_ext e)) ⟨rfl, rfl⟩ fun h c o q => e c o (ex h c o q)
section
variable {ei : T → T → Option Bool}
theorem ct_int {op : CmpOp} {p : Int → Int → Bool} (hr : OpR X (compareOp op) (rI0 fun i j => .bl (p i j))) (hb : ∀ t u k, cmpop ei op t u = some k → ∃ i j, t = .int i ∧ u = .int j ∧ k = p i j) : CmpT g X ei op (rI0 fun i j => .bl (p i j)) :=
  ⟨hr, fun F H fp t u k x y ft fu Q w rt ru e q => by
    obtain ⟨i, j, rfl, rfl, rfl⟩ := hb t u k e
    exact ⟨i, j, rt.int_inv, ru.int_inv, q H fun _ _ h => h⟩⟩
theorem ct_lt : CmpT g X ei .Lt (rI0 fun i j => .bl (decide (i < j))) := ct_int op_lt fun t u k e => by
  cases t <;> cases u <;> simp only [cmpop] at e <;> first | (cases e; done) | skip
  cases e; exact ⟨_, _, rfl, rfl, rfl⟩
theorem ct_le : CmpT g X ei .LtE (rI0 fun i j => .bl (decide (i ≤ j))) := ct_int op_le fun t u k e => by
  cases t <;> cases u <;> simp only [cmpop] at e <;> first | (cases e; done) | skip
  cases e; exact ⟨_, _, rfl, rfl, rfl⟩
theorem ct_gt : CmpT g X ei .Gt (rI0 fun i j => .bl (decide (j < i))) := ct_int op_gt fun t u k e => by
  cases t <;> cases u <;> simp only [cmpop] at e <;> first | (cases e; done) | skip
  cases e; exact ⟨_, _, rfl, rfl, rfl⟩
theorem ct_ge : CmpT g X ei .GtE (rI0 fun i j => .bl (decide (j ≤ i))) := ct_int op_ge fun t u k e => by
  cases t <;> cases u <;> simp only [cmpop] at e <;> first | (cases e; done) | skip
  cases e; exact ⟨_, _, rfl, rfl, rfl⟩
theorem isNon_rep {k : Bool} (r : Rep g.toG F H t x ft) (e : isNon t = some k) : k = decide (x = .non) := by
  cases t with
  | pin v => simp [isNon] at e
  | hole => simp [isNon] at e
  | non => obtain ⟨rfl, _⟩ := r; simp [isNon] at e; simp [e]
  | bl b => obtain ⟨rfl, _⟩ := r; simp [isNon] at e; simp [← e]
  | int b => obtain ⟨rfl, _⟩ := r; simp [isNon] at e; simp [← e]
  | str b => obtain ⟨rfl, _⟩ := r; simp [isNon] at e; simp [← e]
  | fn b => obtain ⟨⟨_, _, rfl⟩, _⟩ := r; simp [isNon] at e; simp [← e]
  | tup b => obtain ⟨_, _, rfl, _⟩ := r; simp [isNon] at e; simp [← e]
  | lst o b => obtain ⟨_, _, _, rfl, _⟩ := r; simp [isNon] at e; simp [← e]
  | dct o b c => obtain ⟨_, _, _, rfl, _⟩ := r; simp [isNon] at e; simp [← e]
  | ins o b c d => obtain ⟨_, _, _, _, _, rfl, _⟩ := r; simp [isNon] at e; simp [← e]
  | err a b c => obtain ⟨_, _, _, _, rfl, _⟩ := r; simp [isNon] at e; simp [← e]
theorem ct_is : CmpT g X ei .Is (fun x y H Q => y = .non ∧ Q (.bl (decide (x = .non))) H) := ⟨op_isN, fun F H fp t u k x y ft fu Q w rt ru e q => by
  cases u with
  | non =>
    have e' : isNon t = some k := by cases t <;> exact e
    exact ⟨ru.1, by rw [← isNon_rep rt e']; exact q H fun _ _ h => h⟩
  | _ => cases t <;> simp [cmpop] at e⟩
theorem ct_isNot : CmpT g X ei .IsNot (fun x y H Q => y = .non ∧ Q (.bl (!decide (x = .non))) H) := ⟨op_notN, fun F H fp t u k x y ft fu Q w rt ru e q => by
  cases u with
  | non =>
    have e' : (isNon t).map (!·) = some k := by cases t <;> exact e
    cases hn : isNon t with
    | none => rw [hn] at e'; cases e'
    | some k' =>
      rw [hn] at e'
      cases e'
      exact ⟨ru.1, by rw [← isNon_rep rt hn]; exact q H fun _ _ h => h⟩
  | _ => cases t <;> simp [cmpop] at e⟩
theorem flat_rep (r : Rep g.toG F H t x ft) (e : flatT t = true) : flatV x = true := by
  cases t <;> first | (cases e; done) | (obtain ⟨rfl, _⟩ := r; rfl)
theorem eqFl_rep (r : Rep g.toG F H t x ft) (r2 : Rep g.toG F H u y fu) (e : flatT t = true) (e2 : flatT u = true) : eqFl t u = eqV x y := by
  cases t <;> first | (cases e; done) | skip
  all_goals (cases u <;> first | (cases e2; done) | skip)
  all_goals (obtain ⟨rfl, _⟩ := r; obtain ⟨rfl, _⟩ := r2; rfl)
theorem RepL.flat : ∀ {ts : List T} {vs : List V} {fp : List Addr}, RepL g.toG F H ts vs fp → ts.all flatT = true → vs.all flatV = true
  | [], vs, fp, h, _ => by obtain ⟨rfl, _⟩ := h; rfl
  | t :: ts, vs, fp, h, e => by
    obtain ⟨v, vs', f1, f2, rfl, rfl, h1, h2⟩ := h
    rw [List.all_cons, Bool.and_eq_true] at e ⊢
    exact ⟨flat_rep h1 e.1, RepL.flat h2 e.2⟩
theorem RepL.inV (r : Rep g.toG F H t x ft) (f : flatT t = true) : ∀ {ts : List T} {vs : List V} {fp : List Addr}, RepL g.toG F H ts vs fp → ts.all flatT = true → (ts.any fun y => eqFl y t) = L2.inV x vs
  | [], vs, fp, h, _ => by obtain ⟨rfl, _⟩ := h; rfl
  | u :: ts, vs, fp, h, e => by
    obtain ⟨v, vs', f1, f2, rfl, rfl, h1, h2⟩ := h
    rw [List.all_cons, Bool.and_eq_true] at e
    have := RepL.inV r f h2 e.2
    show (eqFl u t || _) = (eqV v x || _)
    rw [eqFl_rep h1 r e.1 f]
    exact congrArg _ this
end
end
end PV

/-! V7: in, truth, fields, subscripts, displays -/
namespace PV
open PySem L2

/-- a dict of the written part, with text keys -/
structure WD (K : PySem.W.Frag) (w : World) (a : Addr) (kvs : List (Key × V)) : Prop where
  kd : ∃ es n, KDict K w a es n
  at_ : ∀ z : Str, ∃ r, PySem.W.nsIn K a z = some r ∧ RelO (valV kvs (.inr z)) r
  keys : ∀ p ∈ kvs, ∃ z, p.1 = .inr z
  ne : kvs ≠ []
/-- the tables of trees fit the context -/
structure Fits (g : GX) (X : Cx) : Prop where
  K : g.toG.K = X.K
  wd : ∀ a kvs, g.toG.wd a = some kvs → WD X.K X.w a kvs
  hu : X.A.units + 64 < cLine

section
variable {X : Cx} {e ea eb ec : Expr} {g : GX} {W : WX} {F F' F1 F2 F3 : Addr → Prop} {H H' H1 H2 H3 : Hp} {fp fp' fp1 fp2 fp3 ft fu fq : List Addr} {t u z : T} {v x y : V} {σ : St} {E E' E1 E2 : Env} {r s : R} {Q : VK} {b b' b1 b2 q : Bool}
variable {ma mb mc : M R} {na nb nc : M Bool} {pos : Pos} {es : List Expr} {ei : T → T → Option Bool}

theorem op_inDK (hu : X.A.units + 1 < cLine) : OpR X (compareOp .In) (fun x y H Q => ∃ a ov, y = .ref a ∧ DGet H a x ov ∧ Q (.bl ov.isSome) H) := by
  intro pins s σ H x y v u Q I rx ry h
  obtain ⟨a, ov, rfl, g, q⟩ := h
  cases ry
  exact d_in hu I g rx fun s3 I3 => ⟨.bl ov.isSome, H, I3, rfl, q⟩
theorem op_ninDK (hu : X.A.units + 1 < cLine) : OpR X (compareOp .NotIn) (fun x y H Q => ∃ a ov, y = .ref a ∧ DGet H a x ov ∧ Q (.bl (!ov.isSome)) H) := by
  intro pins s σ H x y v u Q I rx ry h
  obtain ⟨a, ov, rfl, g, q⟩ := h
  cases ry
  exact d_notIn hu I g rx fun s3 I3 => ⟨.bl (!ov.isSome), H, I3, rfl, q⟩
theorem op_inWD (hw : ∀ a kvs, g.toG.wd a = some kvs → WD X.K X.w a kvs) : OpR X (compareOp .In) (fun x y H Q => ∃ a kvs z, x = .str z ∧ y = .ref a ∧ g.toG.wd a = some kvs ∧ Q (.bl (valV kvs (.inr z)).isSome) H) := by
  intro pins s σ H x y v u Q I rx ry h
  obtain ⟨a, kvs, z, rfl, rfl, e, q⟩ := h
  obtain ⟨⟨es, n, D⟩, at_, _, _⟩ := hw a kvs e
  obtain ⟨r, e2, rr⟩ := at_ z
  refine op_in_kd D pins s σ H _ _ v u Q I rx ry ⟨z, r, rfl, rfl, e2, ?_⟩
  rw [← rr.isSome_eq]
  exact q
theorem op_ninWD (hw : ∀ a kvs, g.toG.wd a = some kvs → WD X.K X.w a kvs) : OpR X (compareOp .NotIn) (fun x y H Q => ∃ a kvs z, x = .str z ∧ y = .ref a ∧ g.toG.wd a = some kvs ∧ Q (.bl (!(valV kvs (.inr z)).isSome)) H) := by
  intro pins s σ H x y v u Q I rx ry h
  obtain ⟨a, kvs, z, rfl, rfl, e, q⟩ := h
  obtain ⟨⟨es, n, D⟩, at_, _, _⟩ := hw a kvs e
  obtain ⟨r, e2, rr⟩ := at_ z
  refine op_notIn_kd D pins s σ H _ _ v u Q I rx ry ⟨z, r, rfl, rfl, e2, ?_⟩
  rw [← rr.isSome_eq]
  exact q
theorem any_look : ∀ (ks : List Key) (vs : List V) (k : Key), ks.length = vs.length → (ks.any fun q => decide (q = k)) = (look ks vs k).isSome
  | [], vs, k, _ => by cases vs <;> rfl
  | k0 :: ks, [], k, h => by simp at h
  | k0 :: ks, v :: vs, k, h => by
    show (decide (k0 = k) || ks.any fun q => decide (q = k)) = (if k0 = k then some v else look ks vs k).isSome
    by_cases e : k0 = k
    · rw [if_pos e, decide_eq_true e]; rfl
    · rw [if_neg e, decide_eq_false e, any_look ks vs k (by simpa using h)]; rfl
theorem keyOf_rep {k : Key} (r : Rep g.toG F H t x ft) (e : keyOf t = some k) : x = kV k := by
  cases t <;> first | (cases e; done) | skip
  all_goals (cases e; obtain ⟨rfl, _⟩ := r; rfl)
def rInA (K : PySem.W.Frag) (g : GX) (neg : Bool) : R2 := fun x y H Q => rIn K neg x y H Q ∨ (∃ i j, x = .str i ∧ y = .str j ∧ Q (.bl (if neg then !(!(Builtin.Str.occurrences j i 0 j.length 1).isEmpty) else !(Builtin.Str.occurrences j i 0 j.length 1).isEmpty)) H) ∨
  (∃ a ov, y = .ref a ∧ DGet H a x ov ∧ Q (.bl (if neg then !ov.isSome else ov.isSome)) H) ∨ (∃ a kvs z, x = .str z ∧ y = .ref a ∧ g.toG.wd a = some kvs ∧ Q (.bl (if neg then !(valV kvs (.inr z)).isSome else (valV kvs (.inr z)).isSome)) H)
theorem rInA_of (fit : Fits g X) {neg : Bool} {k : Bool} (rt : Rep g.toG F H t x ft) (ru : Rep g.toG F H u y fu) (e : inT t u = some k) (q : Q (.bl (if neg then !k else k)) H) : rInA X.K g neg x y H Q := by
  cases u with
  | tup xs =>
    simp only [inT] at e
    split at e
    · rename_i hf
      rw [Bool.and_eq_true] at hf
      cases e
      obtain ⟨a, vs, rfl, sq, r, _⟩ := ru.tup_inv
      refine .inl ⟨a, vs, rfl, .inr (fit.K ▸ sq), flat_rep rt hf.1, r.flat hf.2, ?_⟩
      rw [← RepL.inV rt hf.1 r hf.2]
      exact q
    · cases e
  | lst o xs =>
    simp only [inT] at e
    split at e
    · rename_i hf
      rw [Bool.and_eq_true] at hf
      cases e
      obtain ⟨a, vs, fs, rfl, sq, r, _⟩ := ru.lst_inv
      refine .inl ⟨a, vs, rfl, .inl (fit.K ▸ sq), flat_rep rt hf.1, r.flat hf.2, ?_⟩
      rw [← RepL.inV rt hf.1 r hf.2]
      exact q
    · cases e
  | dct o ks ts =>
    simp only [inT] at e
    cases hk : keyOf t with
    | none => rw [hk] at e; cases e
    | some k0 =>
      rw [hk] at e
      have e' : (if keyFits k0 ks = true then some (ks.any fun q => decide (q = k0)) else none) = some k := e
      split at e'
      case isFalse => cases e'
      rename_i hfit
      cases e'
      have ex := keyOf_rep rt hk
      subst ex
      obtain ⟨a, vs, fs, rfl, r, l, nd, h⟩ := ru
      have e1 : (ks.any fun q => decide (q = k0)) = (valV (ks.zip vs) k0).isSome := by rw [any_look ks vs k0 l, look_find]
      have main : H a = some (.dK (ks.zip vs)) → rInA X.K g neg (kV k0) (.ref a) H Q := fun e => .inr (.inr (.inl ⟨a, _, rfl, DGet.k e, by rw [← e1]; exact q⟩))
      rcases h with ⟨_, ew, _⟩ | ⟨_, ⟨ew, _⟩ | ew, _⟩
      · exact main ew
      · exact main ew
      · obtain ⟨_, _, keys, ne⟩ := fit.wd a _ ew
        cases k0 with
        | inl i =>
          exfalso
          cases ks with
          | nil => exact ne rfl
          | cons k1 ks =>
            cases vs with
            | nil => simp at l
            | cons v1 vs =>
              obtain ⟨z, e2⟩ := keys (k1, v1) (by simp)
              have e2' : k1 = .inr z := e2
              subst e2'
              simp [keyFits] at hfit
        | inr z => exact .inr (.inr (.inr ⟨a, _, z, rfl, rfl, ew, by rw [← e1]; exact q⟩))
  | str w =>
    cases t with
    | str z =>
      simp only [inT] at e
      cases e
      exact .inr (.inl ⟨z, w, rt.str_inv, ru.str_inv, q⟩)
    | _ => simp [inT] at e
  | _ => simp [inT] at e
theorem ct_in (fit : Fits g X) : CmpT g X ei .In (rInA X.K g false) :=
  ⟨op_in_seq.or (op_in_str.or ((op_inDK (by have := fit.hu; omega)).or (op_inWD fit.wd))), fun F H fp t u k x y ft fu Q w rt ru e q => rInA_of fit rt ru (by cases t <;> exact e) (q H fun _ _ h => h)⟩
theorem ct_notIn (fit : Fits g X) : CmpT g X ei .NotIn (rInA X.K g true) :=
  ⟨op_notIn_seq.or (op_notin_str.or ((op_ninDK (by have := fit.hu; omega)).or (op_ninWD fit.wd))), fun F H fp t u k x y ft fu Q w rt ru e q => by
    have e' : (inT t u).map (!·) = some k := by cases t <;> exact e
    cases h : inT t u with
    | none => rw [h] at e'; cases e'
    | some k' =>
      rw [h] at e'
      cases e'
      exact rInA_of fit rt ru h (q H fun _ _ h => h)⟩
end
end PV

/-! V8: one value looked at: truth, fields, subscripts, slices, calls of built-ins -/
namespace PV
open PySem L2

section
variable {X : Cx} {e ea eb ec : Expr} {g : GX} {W : WX} {F F' F1 F2 F3 : Addr → Prop} {H H' H1 H2 H3 : Hp} {fp fp' fp1 fp2 fp3 ft fu fq fr : List Addr} {t u z : T} {v x y : V} {σ : St} {E E' E1 E2 : Env} {r s : R} {Q : VK} {b b' b1 b2 q : Bool}
variable {ma mb mc : M R} {na nb nc : M Bool} {pos : Pos} {es : List Expr} {ei : T → T → Option Bool}

/-- an answer that is looked at -/
theorem see {α : Type} {k : R → M α} {P : α → Env → Prop} {K : V → Hp → Prop} (w : Wf F H fp) (re : RepE g.toG F H E σ fp) (p : Post (M.bind ma k E) P (xP g W σ F H fp))
    (h : ∀ x H1 F1 fr fp1 r E1, Aft F F1 H H1 fp (fr ++ fp1) → Wf F1 H1 (fr ++ fp1) → RepE g.toG F1 H1 E1 σ fp1 → RepR g.toG F1 H1 σ r x fr → (b = true → Ext H H1) → Post (k r E1) P (xP g W σ F H fp) → K x H1) : tE g W b ma σ H K :=
  ⟨F, E, fp, w, re, p.bind.imp (fun r E1 p1 x H1 F1 fr fp1 a1 w1 re1 rr ex => h x H1 F1 fr fp1 r E1 a1 w1 re1 rr ex p1) fun _ _ h => h⟩
/-- .. its tree -/
theorem seeT {α : Type} {k : T → M α} {P : α → Env → Prop} {K : V → Hp → Prop} (w : Wf F H fp) (re : RepE g.toG F H E σ fp) (p : Post (M.bind ma (fun r => M.bind (viewR r) k) E) P (xP g W σ F H fp))
    (h : ∀ x H1 F1 fp1 t f E1, Aft F F1 H H1 fp fp1 → Wf F1 H1 fp1 → RepE g.toG F1 H1 E1 σ fp1 → Rep g.toG F1 H1 t x f → (b = true → Ext H H1) → Post (k t E1) P (xP g W σ F H fp) → K x H1) : tE g W b ma σ H K :=
  see w re p fun x H1 F1 fr fp1 r E1 a1 w1 re1 rr ex p1 => by
    obtain ⟨t, et, p2⟩ := p1.bind.view
    obtain ⟨f, rt, _, w2, re2, a2⟩ := rr.view w1 re1 et
    exact h x H1 _ fp1 t f E1 (a1.trans a2) w2 re2 rt ex p2
theorem tru_rep (fit : Fits g X) {k : Bool} (r : Rep g.toG F H t x ft) (e : truth t = some k) : TruV X.K x H k := by
  cases t with
  | non => obtain ⟨rfl, _⟩ := r; cases e; rfl
  | bl b => obtain ⟨rfl, _⟩ := r; cases e; rfl
  | int b => obtain ⟨rfl, _⟩ := r; cases e; rfl
  | tup xs =>
    obtain ⟨a, vs, rfl, sq, r, _⟩ := r.tup_inv
    cases e
    exact .inr (.inl ⟨vs, fit.K ▸ sq, by have := r.length; cases xs <;> cases vs <;> simp_all⟩)
  | lst o xs =>
    obtain ⟨a, vs, fs, rfl, sq, r, _⟩ := r.lst_inv
    cases e
    exact .inl ⟨vs, fit.K ▸ sq, by have := r.length; cases xs <;> cases vs <;> simp_all⟩
  | _ => cases e
/-- a value as a test -/
theorem jt_truth (fit : Fits g X) (ha : JE X g W b e ma) (he : ∀ whole, isTrue e X.env whole = (do let v ← whole; standAt e.pos; holding [v] (truthy v))) : JT X g W b e (tTruth ma) :=
  PT.imp (pt_truth ha he) fun σ H Q h => by
    obtain ⟨F, E, fp, w, re, p⟩ := h
    refine seeT w re p fun x H1 F1 fp1 t f E1 a1 w1 re1 rt ex p1 => ?_
    obtain ⟨k, ek, p2⟩ := p1.ofO
    exact ⟨k, tru_rep fit rt ek, p2 H1 F1 fp1 a1 w1 re1 ex⟩
/-- not x -/
theorem je_not (fit : Fits g X) (ha : JE X g W b e ma) : JE X g W b (.UnaryOp .Not e pos) (cBool (tNot (tTruth ma))) :=
  PE.imp (pe_notT ha) fun σ H Q h => by
    obtain ⟨F, E, fp, w, re, p⟩ := h
    refine seeT w re p.bind.bind fun x H1 F1 fp1 t f E1 a1 w1 re1 rt ex p1 => ?_
    obtain ⟨k, ek, p2⟩ := p1.ofO
    exact ⟨k, tru_rep fit rt ek, p2.pure.pure (.bl (!k)) H1 F1 [] fp1 a1 w1 re1 ⟨rfl, rfl⟩ ex⟩
/-- -x -/
theorem je_neg (ha : JE X g W b e ma) : JE X g W b (.UnaryOp .USub e pos) (cNeg ma) :=
  PE.imp (pe_un un_neg ha) fun σ H Q h => by
    obtain ⟨F, E, fp, w, re, p⟩ := h
    refine seeT w re p fun x H1 F1 fp1 t f E1 a1 w1 re1 rt ex p1 => ?_
    cases t with
    | int i => exact ⟨i, rt.int_inv, p1.pure (.int (-i)) H1 F1 [] fp1 a1 w1 re1 ⟨rfl, rfl⟩ ex⟩
    | _ => exact p1.elim
/-- and, or, of True and False -/
theorem je_and (ha : JE X g W b1 ea ma) (hb : JE X g W b2 (.BoolOp .And (eb :: es) pos) mb) : JE X g W (b1 && b2) (.BoolOp .And (ea :: eb :: es) pos) (cAnd ma mb) :=
  PE.imp (pe_and ha hb) fun σ H Q h => by
    obtain ⟨F, E, fp, w, re, p⟩ := h
    refine see w re p fun x H1 F1 fr fp1 r E1 a1 w1 re1 rr ex p1 => ?_
    cases r with
    | plc i p => exact p1.elim
    | val t =>
      cases t with
      | bl k =>
        obtain ⟨rfl, rfl⟩ : x = .bl k ∧ fr = [] := rr
        refine ⟨k, rfl, ?_⟩
        dsimp only at p1
        cases k with
        | true =>
          rw [if_pos rfl] at p1 ⊢
          exact ⟨F1, E1, fp1, w1, re1, p1.imp (fun k E' (z : okE g (b1 && b2) σ F H fp Q k E') => z.later a1 ex fun h => by simpa using h) fun _ _ h => h.later a1⟩
        | false =>
          rw [if_neg (by decide)] at p1 ⊢
          exact p1.pure (.bl false) H1 F1 [] fp1 a1 w1 re1 ⟨rfl, rfl⟩ fun h => ex (by rw [Bool.and_eq_true] at h; exact h.1)
      | _ => exact p1.elim
theorem je_or (ha : JE X g W b1 ea ma) (hb : JE X g W b2 (.BoolOp .Or (eb :: es) pos) mb) : JE X g W (b1 && b2) (.BoolOp .Or (ea :: eb :: es) pos) (cOr ma mb) :=
  PE.imp (pe_or ha hb) fun σ H Q h => by
    obtain ⟨F, E, fp, w, re, p⟩ := h
    refine see w re p fun x H1 F1 fr fp1 r E1 a1 w1 re1 rr ex p1 => ?_
    cases r with
    | plc i p => exact p1.elim
    | val t =>
      cases t with
      | bl k =>
        obtain ⟨rfl, rfl⟩ : x = .bl k ∧ fr = [] := rr
        refine ⟨k, rfl, ?_⟩
        dsimp only at p1
        cases k with
        | false =>
          rw [if_neg (by decide)] at p1 ⊢
          exact ⟨F1, E1, fp1, w1, re1, p1.imp (fun k E' (z : okE g (b1 && b2) σ F H fp Q k E') => z.later a1 ex fun h => by simpa using h) fun _ _ h => h.later a1⟩
        | true =>
          rw [if_pos rfl] at p1 ⊢
          exact p1.pure (.bl true) H1 F1 [] fp1 a1 w1 re1 ⟨rfl, rfl⟩ fun h => ex (by rw [Bool.and_eq_true] at h; exact h.1)
      | _ => exact p1.elim
theorem je_one {op : BoolOp} (ha : JE X g W b ea ma) : JE X g W b (.BoolOp op [ea] pos) ma := pe_one ha

/-! ### fields -/
theorem fields_look {κ : Type} [DecidableEq κ] (ks : List κ) (vs : List V) (f : κ) : (ks.zip vs).lookup f = look ks vs f := (look_lookup ks vs f).symm
/-- what stands in an answer -/
theorem child {XX : T → Env → Prop} {own : Bool} {q : Sel} {w' : V} (p : Post (childR r own q u E1) (okE g b σ F H fp Q) XX) (a1 : Aft F F1 H H1 fp fp1) (w1 : Wf F1 H1 fp1) (re1 : RepE g.toG F1 H1 E1 σ fp1) (ex : b = true → Ext H H1)
    (ru : Rep g.toG F1 H1 u w' fu) (rr : RepR g.toG F2 H1 σ r x fr) (at_ : own = true → At H1 x [q] w') : Q w' H1 := by
  unfold childR at p
  by_cases hp : T.pureT u = true
  · rw [if_pos hp] at p
    have := Rep.pure u ru hp
    subst this
    exact p.pure w' H1 F1 [] fp1 a1 w1 re1 ru ex
  · rw [if_neg hp] at p
    by_cases ho : own = true
    · rw [if_pos ho] at p
      cases r with
      | val t0 => exact p.elim
      | plc i p' =>
        obtain ⟨rfl, v0, e0, q0⟩ := rr
        exact p.pure w' H1 F1 [] fp1 a1 w1 re1 ⟨rfl, v0, e0, q0.app (at_ ho)⟩ ex
    · rw [if_neg ho] at p; exact p.elim
/-! an exception's class: its instances' fields, isinstance -/
structure EcX (K : PySem.W.Frag) (C : Addr) : Prop where
  cl : (PySem.W.clsIn K C).isSome = true
  xf : XfC K C
  ha : PySem.W.findIn K (.ref C) "__class__" = some (some (.builtin "object.__class__"))
  hn : PySem.W.specialIn K (.builtin "object.__class__") "__get__" = some (some (.builtin "getset_descriptor.__get__"))
  htk : PySem.W.takesIn K (.builtin "object.__class__") = some true
  hm : PySem.W.mroIn K C (.type "object") = some true
theorem exq_at {P : Program} {w : World} {H : Hp} {h : Heap} {C a : Addr} {d : Option Addr} (hok : HOk P w H h) (e : H a = some (exq (.ref C) d a)) : ∃ (oe : Obj) (vs : Array Value), h.get? a = some oe ∧ Zc (.ref C) d oe ∧ oe.data = .fields vs := by
  have x : ObjOk P w H h a (exq (.ref C) d a) := hok a _ e
  exact x.1
theorem exq_inst {P : Program} {w : World} {H : Hp} {h : Heap} {C a : Addr} {d : Option Addr} (hok : HOk P w H h) (e : H a = some (exq (.ref C) d a)) (hd : ∀ dd, d = some dd → ∃ fs, H dd = some (.xd fs)) : ∃ oe od, PySem.W.InstAt h a oe C od := by
  obtain ⟨oe, vs, h1, h2, h3⟩ := exq_at hok e
  cases d with
  | none => exact ⟨oe, none, h1, h2.1, (by unfold PySem.W.notCls; rw [h3] <;> rfl), by rw [h2.2]; exact True.intro⟩
  | some dd =>
    obtain ⟨fs, ef⟩ := hd dd rfl
    obtain ⟨mA, hns, hr⟩ := (show ObjOk P w H h dd (.xd fs) from hok dd _ ef)
    obtain ⟨od, ho, hl⟩ := lookIn_ns hns
    exact ⟨oe, some od, h1, h2.1, (by unfold PySem.W.notCls; rw [h3] <;> rfl), by rw [h2.2]; exact ho⟩
/-- o.f of an exception -/
def rXf (K : PySem.W.Frag) (f : Str) (x : V) (H : Hp) (Q : VK) : Prop := ∃ (a Ca dd : Addr) (fs : List (Str × V)) (w : V), x = .ref a ∧ H a = some (exq (.ref Ca) (some dd) a) ∧ H dd = some (.xd fs) ∧ EcX K Ca ∧ PySem.W.findIn K (.ref Ca) f = some none ∧ fs.lookup f = some w ∧ Q w H
def tFldE (K : PySem.W.Frag) (ta : TE) (f : Str) : TE := fun σ H Q => ta σ H fun x H1 => (∃ a C dx fs w, x = .ref a ∧ H1 a = some (.ins C dx fs) ∧ Cls K C ∧ NoAttr K C f ∧ fs.lookup f = some w ∧ Q w H1) ∨ rXf K f x H1 Q
theorem pe_fldE {f : Str} {ta : TE} (he : PE X e ta) (hb : attributeBase e f X.env (eval e X.env) = eval e X.env) : PE X (.Attribute e f pos) (tFldE X.K ta f) := by
  refine ⟨fun pins s σ H Q I h => ?_⟩
  refine attr_of hb (thn (he.run pins s σ H _ I h) fun u s1 ⟨x, H1, I1, rx, q⟩ => ?_)
  rcases q with ⟨a, C, dx, fs, w, rfl, ea, c, n, l, q⟩ | ⟨a, Ca, dd, fs, w, rfl, ea, ed, T, hno, l, q⟩
  · cases rx
    exact getattr_ok I1 ea c n l fun u' s2 I2 ru => ⟨w, H1, I2, ru, q⟩
  · cases rx
    obtain ⟨oe, vs, h1, h2, h3⟩ := exq_at I1.hok ea
    obtain ⟨mA, hns, hr⟩ := (show ObjOk X.prog X.w H1 s1.heap dd (.xd fs) from I1.hok dd _ ed)
    obtain ⟨od, ho, hl⟩ := lookIn_ns hns
    obtain ⟨u, hu, ru⟩ := RelO.some_of (v := w) (o := mA f) (l ▸ hr f)
    have J : PySem.W.InstAt s1.heap a oe Ca (some od) := ⟨h1, h2.1, (by unfold PySem.W.notCls; rw [h3] <;> rfl), by rw [h2.2]; exact ho⟩
    exact PySem.HandSPX.exc_get I1.kIn J T.xf.ga T.xf.gg T.xf.exC (PySem.W.findObj_own T.xf.hdC hno rfl (by rw [hl, hu])) (handed_of ru) ⟨w, H1, I1.tok _, ru, q⟩
theorem je_attr {f : Str} (ha : JE X g W b e ma) (hb : attributeBase e f X.env (eval e X.env) = eval e X.env) (hc : ∀ C Ca, g.toG.cls C = some Ca → Cls X.K Ca ∧ NoAttr X.K Ca f)
    (hx : ∀ C Ca, g.toG.ecl C = some Ca → EcX X.K Ca ∧ PySem.W.findIn X.K (.ref Ca) f = some none) : JE X g W b (.Attribute e f pos) (cAttr ma f) :=
  PE.imp (pe_fldE ha hb) fun σ H Q h => by
    obtain ⟨F, E, fp, w, re, p⟩ := h
    refine see w re p fun x H1 F1 fr fp1 r E1 a1 w1 re1 rr ex p1 => ?_
    obtain ⟨t, ev, p2⟩ := p1.bind.view
    obtain ⟨ft, rt, _, w2, re2, a2⟩ := rr.view w1 re1 ev
    cases t with
    | ins o C ks ts =>
      refine .inl ?_
      obtain ⟨a, Ca, dx, vs, fs, rfl, ec, r1, l, nd, ea, hh⟩ := rt
      unfold attrT at p2
      cases el : look ks ts f with
      | none => simp only [el] at p2; exact p2.elim
      | some u =>
        simp only [el] at p2
        obtain ⟨w', fu, rest, e1, ru, _, _⟩ := RepL.look r1 el
        exact ⟨a, Ca, dx, ks.zip vs, w', rfl, ea, (hc C Ca ec).1, (hc C Ca ec).2, by rw [fields_look]; exact e1, child p2 (a1.trans a2) w2 re2 ex ru rr fun _ => ⟨a, Ca, dx, ks, vs, w', rfl, ea, e1, rfl⟩⟩
    | err C ks ts =>
      refine .inr ?_
      obtain ⟨a, Ca, d, vs, rfl, ec, r1, l, nd, fa, ea, xd, _⟩ := rt
      unfold attrT at p2
      cases el : look ks ts f with
      | none => simp only [el] at p2; exact p2.elim
      | some u =>
        simp only [el] at p2
        obtain ⟨w', fu, rest, e1, ru, _, _⟩ := RepL.look r1 el
        cases d with
        | none =>
          have xd' : ks.zip vs = [] := xd
          have e2 := fields_look ks vs f
          rw [xd', e1] at e2
          cases e2
        | some dd => exact ⟨a, Ca, dd, ks.zip vs, w', rfl, ea, xd, (hx C Ca ec).1, (hx C Ca ec).2, by rw [fields_look]; exact e1, child p2 (a1.trans a2) w2 re2 ex ru rr fun z => nomatch z⟩
    | _ => exact p2.elim
end
end PV

/-! V9: subscripts, slices, displays -/
namespace PV
open PySem L2

section
variable {X : Cx} {e ea eb ec : Expr} {g : GX} {W : WX} {F F' F1 F2 F3 : Addr → Prop} {H H' H1 H2 H3 : Hp} {fp fp' fp1 fp2 fp3 ft fu fq fr : List Addr} {t u z : T} {v x y : V} {σ : St} {E E' E1 E2 : Env} {r s : R} {Q : VK} {b b' b1 b2 q : Bool}
variable {ma mb mc : M R} {na nb nc : M Bool} {pos : Pos} {es : List Expr} {ei : T → T → Option Bool}

def rIxDK : R2 := fun x y H Q => ∃ a v, x = .ref a ∧ DGet H a y (some v) ∧ Q v H
theorem ix_dK (hu : X.A.units + 1 < cLine) : IxR X rIxDK := by
  intro value slice pins s σ H x y v u Q I rx ry h hs
  obtain ⟨a, r, rfl, g, q⟩ := h
  obtain rfl : v = Value.ref a := rx
  obtain ⟨td, _, _⟩ := isD_at I (by
    rcases g with ⟨kvs, k, e, _⟩ | ⟨kvs, k, b, e, _⟩
    · exact .inl ⟨kvs, e⟩
    · exact .inr ⟨kvs, e⟩)
  exact PyProof.Rows.tail_any td slot_dict_getitem.lookup (d_getItem hu I g ry fun w' s' I' rw' => ⟨r, H, I', rw', q⟩) hs
def rIxWD (g : GX) : R2 := fun x y H Q => ∃ a kvs z v, x = .ref a ∧ y = .str z ∧ g.toG.wd a = some kvs ∧ valV kvs (.inr z) = some v ∧ Q v H
theorem ix_WD (hw : ∀ a kvs, g.toG.wd a = some kvs → WD X.K X.w a kvs) : IxR X (rIxWD g) := by
  intro value slice pins s σ H x y v u Q I rx ry h hs
  obtain ⟨a, kvs, z, r, rfl, rfl, e, ev, q⟩ := h
  obtain ⟨⟨es, n, D⟩, at_, _, _⟩ := hw a kvs e
  obtain ⟨r', e2, rr⟩ := at_ z
  rw [ev] at rr
  obtain ⟨w', rfl, rw'⟩ := RelO.some_of rr
  exact ix_kdict value slice pins s σ H _ _ v u Q I rx ry ⟨a, z, r, rfl, rfl, ⟨es, n, w', D.at_, D.lit, e2, rw'⟩, q⟩ hs
def rIxA (K : PySem.W.Frag) (g : GX) : R2 := fun x y H Q => rIx K x y H Q ∨ rIxDK x y H Q ∨ rIxWD g x y H Q
theorem ix_A (fit : Fits g X) : IxR X (rIxA X.K g) := ix_seq.or ((ix_dK (by have := fit.hu; omega)).or (ix_WD fit.wd))

theorem atI_of {α : Type} {xs : List α} {i : Int} {n : Nat} {w : α} (h : ixN xs.length i = some n) (e : xs[n]? = some w) : atI xs i = some w := by
  unfold atI; rw [h]; exact e
/-- an item, by its key -/
theorem sub_rep (fit : Fits g X) {kt : T} {q : Sel} (rt : Rep g.toG F H t x ft) (rk : Rep g.toG F H kt y fq) (es : selOf t kt = some q) (eu : t.get [q] = some u) :
    ∃ w fu, Rep g.toG F H u w fu ∧ (∀ Q : VK, Q w H → rIxA X.K g x y H Q) ∧ (rootOwn t = true → At H x [q] w) := by
  cases t with
  | lst o ts =>
    cases kt with
    | int i =>
      have es' : (ixN ts.length i).map Sel.idx = some q := es
      cases hn : ixN ts.length i with
      | none => rw [hn] at es'; cases es'
      | some n =>
        rw [hn] at es'
        cases es'
        have eu' : (ts[n]?).bind (fun t => t.get []) = some u := eu
        cases hu : ts[n]? with
        | none => rw [hu] at eu'; cases eu'
        | some u' =>
          rw [hu] at eu'
          have : u' = u := by simpa [T.get] using eu'
          subst this
          obtain ⟨a, vs, fs, rfl, r1, hh⟩ := rt
          obtain ⟨w, fu, rest, e1, ru, _, _⟩ := r1.nth hu
          have sq : SqL X.K H a vs := by
            rw [← fit.K]
            rcases hh with ⟨_, e, _⟩ | ⟨_, l, _⟩
            · exact SqL.of e
            · exact l.sq
          refine ⟨w, fu, ru, fun Q q => .inl (.inl ⟨a, vs, i, w, rfl, rk.int_inv, sq, atI_of (by rw [← r1.length]; exact hn) e1, q⟩), fun ho => ?_⟩
          rcases hh with ⟨_, e, _⟩ | ⟨rfl, _⟩
          · exact ⟨a, vs, w, rfl, e, e1, rfl⟩
          · cases ho
    | _ => cases es
  | tup ts =>
    cases kt with
    | int i =>
      have es' : (ixN ts.length i).map Sel.idx = some q := es
      cases hn : ixN ts.length i with
      | none => rw [hn] at es'; cases es'
      | some n =>
        rw [hn] at es'
        cases es'
        have eu' : (ts[n]?).bind (fun t => t.get []) = some u := eu
        cases hu : ts[n]? with
        | none => rw [hu] at eu'; cases eu'
        | some u' =>
          rw [hu] at eu'
          have : u' = u := by simpa [T.get] using eu'
          subst this
          obtain ⟨a, vs, rfl, sq, r1, _⟩ := rt.tup_inv
          obtain ⟨w, fu, rest, e1, ru, _, _⟩ := r1.nth hu
          exact ⟨w, fu, ru, fun Q q => .inl (.inr (.inl ⟨a, vs, i, w, rfl, rk.int_inv, fit.K ▸ sq, atI_of (by rw [← r1.length]; exact hn) e1, q⟩)), fun ho => nomatch ho⟩
    | _ => cases es
  | dct o ks ts =>
    have es' : (keyOf kt).bind (fun q => if keyFits q ks = true then some (Sel.key q) else none) = some q := es
    cases hk : keyOf kt with
    | none => rw [hk] at es'; cases es'
    | some k0 =>
      rw [hk] at es'
      have es2 : (if keyFits k0 ks = true then some (Sel.key k0) else none) = some q := es'
      split at es2
      case isFalse => cases es2
      rename_i hfit
      cases es2
      have eu' : (look ks ts k0).bind (fun t => t.get []) = some u := eu
      cases hu : look ks ts k0 with
      | none => rw [hu] at eu'; cases eu'
      | some u' =>
        rw [hu] at eu'
        have : u' = u := by simpa [T.get] using eu'
        subst this
        have ey := keyOf_rep rk hk
        subst ey
        obtain ⟨a, vs, fs, rfl, r1, l, nd, hh⟩ := rt
        obtain ⟨w, fu, rest, e1, ru, _, _⟩ := RepL.look r1 hu
        have ev : valV (ks.zip vs) k0 = some w := by rw [← look_find]; exact e1
        refine ⟨w, fu, ru, fun Q q => ?_, fun ho => ?_⟩
        · have main : H a = some (.dK (ks.zip vs)) → rIxA X.K g (.ref a) (kV k0) H Q := fun e => .inr (.inl ⟨a, w, rfl, by rw [← ev]; exact DGet.k e, q⟩)
          rcases hh with ⟨_, ew, _⟩ | ⟨_, ⟨ew, _⟩ | ew, _⟩
          · exact main ew
          · exact main ew
          · obtain ⟨_, _, keys, ne⟩ := fit.wd a _ ew
            cases k0 with
            | inl i =>
              exfalso
              cases ks with
              | nil => exact ne rfl
              | cons k1 ks =>
                cases vs with
                | nil => simp at l
                | cons v1 vs =>
                  obtain ⟨z, e2⟩ := keys (k1, v1) (by simp)
                  have e2' : k1 = .inr z := e2
                  subst e2'
                  simp [keyFits] at hfit
            | inr z => exact .inr (.inr ⟨a, _, z, w, rfl, rfl, ew, ev, q⟩)
        · rcases hh with ⟨_, ew, _⟩ | ⟨rfl, _⟩
          · exact ⟨a, ks, vs, w, rfl, ew, e1, rfl⟩
          · cases ho
  | _ => cases es
theorem je_sub (fit : Fits g X) (ha : JE X g W b ea ma) (hb : JE X g W q eb mb) (hs : PlainIx eb) : JE X g W (b && q) (.Subscript ea eb pos) (cSub q ma mb) :=
  PE.imp (pe_ix (ix_A fit) ha hb hs) fun σ H Q h => by
    obtain ⟨F, E, fp, w, re, p⟩ := h
    refine see w re p fun x H1 F1 fr fp1 r E1 a1 w1 re1 rr1 ex1 p1 => ?_
    obtain ⟨gd, p2⟩ := p1.bind.guard
    have p2' : Post _ (okE g (b && q) σ F H fp Q) (xP g W σ F1 H1 fp1) := p2.imp (fun _ _ h => h) fun _ _ h => h.later (a1.sub fun a ha => List.mem_append_right _ ha)
    refine see w1.right re1 p2' fun y H2 F2 fs fp2 s E2 a2 w2 re2 rr2 ex2 p3 => ?_
    obtain ⟨wf3, st, a3⟩ := frame w1 rr1.own a2 (w2 : Wf F2 H2 (fs ++ fp2))
    have rr1' : RepR g.toG F2 H2 σ r x fr := rr1.later st (by
      cases hq : q with
      | true => exact .inr (ex2 hq)
      | false =>
        rw [hq, Bool.or_false] at gd
        cases r with
        | val _ => exact .inl rfl
        | plc _ _ => cases gd)
    obtain ⟨kt, et, p4⟩ := p3.bind.view
    have wf4 : Wf F2 H2 (fs ++ (fr ++ fp2)) := wf3.perm (by
      rw [← List.append_assoc, ← List.append_assoc]
      exact (List.perm_append_comm (l₁ := fr) (l₂ := fs)).append_right fp2)
    obtain ⟨fk, rk, _, _, _, _⟩ := rr2.view w2 re2 et
    obtain ⟨wf5, a5⟩ := shared wf4 rr2.own
    have re5 : RepE g.toG (fun a => F2 a ∨ a ∈ fs) H2 E2 σ fp2 := re2.stay stay_shared
    have rr5 : RepR g.toG (fun a => F2 a ∨ a ∈ fs) H2 σ r x fr := rr1'.later stay_shared (.inr fun _ _ e => e)
    have a13 : Aft F (fun a => F2 a ∨ a ∈ fs) H H2 fp (fr ++ fp2) := Aft.trans a1 (Aft.trans a3 (Aft.trans ((Aft.refl (F := F2) (H := H2) (fp := fr ++ (fs ++ fp2))).sub (fp2 := fs ++ (fr ++ fp2)) fun a ha => by simp only [List.mem_append] at ha ⊢; rcases ha with h | h | h <;> simp [h]) a5))
    have exx : (b && q) = true → Ext H H2 := fun hb c o e => by
      rw [Bool.and_eq_true] at hb
      exact ex2 hb.2 c o (ex1 hb.1 c o e)
    obtain ⟨t, ev, p5⟩ := p4.bind.view
    obtain ⟨ft, rt, _, w6, re6, a6⟩ := rr5.view wf5 re5 ev
    have rk7 : Rep g.toG (fun a => (F2 a ∨ a ∈ fs) ∨ a ∈ fr) H2 kt y fk := Rep.stay kt rk stay_shared
    have main : ∀ {q' : Sel} {u : T}, selOf t kt = some q' → t.get [q'] = some u → Post (childR r (rootOwn t) q' u E2) (okE g (b && q) σ F H fp Q) (xP g W σ F1 H1 fp1) → rIxA X.K g x y H2 Q := fun {q' u} hq' hu p6 => by
      obtain ⟨w', fu, ru, kq, at_⟩ := sub_rep fit rt rk7 hq' hu
      exact kq Q (child p6 (a13.trans a6) w6 re6 exx ru rr5 at_)
    have selP : ∀ t', t' = t → Post (selR r kt t' E2) (okE g (b && q) σ F H fp Q) (xP g W σ F1 H1 fp1) → rIxA X.K g x y H2 Q := fun t' e p6 => by
      subst e
      unfold selR at p6
      cases hq' : selOf t' kt with
      | none => rw [hq'] at p6; exact p6.elim
      | some q' =>
        rw [hq'] at p6
        dsimp only at p6
        cases hu : t'.get [q'] with
        | none => rw [hu] at p6; exact p6.elim
        | some u => rw [hu] at p6; exact main hq' hu p6
    unfold subT at p5
    cases t with
    | str zz =>
      dsimp only at p5
      cases kt with
      | int j =>
        dsimp only at p5
        cases hc : atI zz.cps.toList j with
        | none => rw [hc] at p5; exact p5.elim
        | some c =>
          rw [hc] at p5
          dsimp only at p5
          split at p5
          · rename_i hl
            exact .inl (.inr (.inr ⟨zz, j, c, rt.str_inv, rk7.int_inv, le_line hl, hc, p5.pure (.str ⟨#[c]⟩) H2 _ [] fp2 (a13.trans a6) w6 re6 ⟨rfl, rfl⟩ exx⟩))
          · exact p5.elim
      | _ => exact p5.elim
    | _ =>
      dsimp only at p5
      exact selP _ rfl p5
end
end PV

/-! V10: answers in a row, items taken, displays -/
namespace PV
open PySem L2

theorem prm {l l' : List Addr} (h : ∀ a : Nat, List.count a l = List.count a l') : l.Perm l' := List.perm_iff_count.mpr h
theorem prm_of {l l' : List Addr} (h : l.Perm l') (a : Nat) : List.count a l = List.count a l' := List.perm_iff_count.mp h a

/-- answers in a row -/
def RepRs (g : G) (F : Addr → Prop) (H : Hp) (σ : St) : List R → List V → List Addr → Prop
  | [], vs, fp => vs = [] ∧ fp = []
  | r :: rs, vs, fp => ∃ v vs' f1 f2, vs = v :: vs' ∧ fp = f1 ++ f2 ∧ RepR g F H σ r v f1 ∧ RepRs g F H σ rs vs' f2
def tAR (g : GX) (W : WX) (b : Bool) (l : M (List R)) : TA := fun σ H Q => ∃ F E fp, Wf F H fp ∧ RepE g.toG F H E σ fp ∧
  Post (l E) (fun rs E' => ∀ vs H' F' fr fp', Aft F F' H H' fp (fr ++ fp') → Wf F' H' (fr ++ fp') → RepE g.toG F' H' E' σ fp' → RepRs g.toG F' H' σ rs vs fr → (b = true → Ext H H') → Q vs H') (xP g W σ F H fp)
def tAI (g : GX) (W : WX) (b : Bool) (l : M (List T)) : TA := fun σ H Q => ∃ F E fp, Wf F H fp ∧ RepE g.toG F H E σ fp ∧
  Post (l E) (fun ts E' => ∀ vs H' F' fr fp', Aft F F' H H' fp (fr ++ fp') → Wf F' H' (fr ++ fp') → RepE g.toG F' H' E' σ fp' → RepL g.toG F' H' ts vs fr → (b = true → Ext H H') → Q vs H') (xP g W σ F H fp)
abbrev JA (X : Cx) (g : GX) (W : WX) (b : Bool) (es : List Expr) (l : M (List R)) : Prop := PA X es (tAR g W b l)
abbrev JI (X : Cx) (g : GX) (W : WX) (b : Bool) (es : List Expr) (l : M (List T)) : Prop := PA X es (tAI g W b l)
theorem PA.imp {X : Cx} {es : List Expr} {t t' : TA} (h : PA X es t) (k : ∀ σ H Q, t' σ H Q → t σ H Q) : PA X es t' := ⟨fun pos pins s σ H Q I q => h.run pos pins s σ H Q I (k σ H Q q)⟩

section
variable {X : Cx} {e ea eb ec : Expr} {g : GX} {W : WX} {F F' F1 F2 F3 : Addr → Prop} {H H' H1 H2 H3 : Hp} {fp fp' fp1 fp2 fp3 ft fu fq fr : List Addr} {t u z : T} {v x y : V} {σ : St} {E E' E1 E2 : Env} {r s : R} {Q : VK} {b b' b1 b2 q : Bool}
variable {ma mb mc : M R} {na nb nc : M Bool} {pos : Pos} {es : List Expr} {ei : T → T → Option Bool}

theorem RepRs.own : ∀ {rs : List R} {vs : List V} {fp : List Addr}, RepRs g.toG F H σ rs vs fp → ∀ a ∈ fp, ∃ o, H a = some o ∧ Mut (some o)
  | [], vs, fp, h => by obtain ⟨_, rfl⟩ := h; exact fun _ z => nomatch z
  | r :: rs, vs, fp, h => by
    obtain ⟨v, vs', f1, f2, rfl, rfl, h1, h2⟩ := h
    intro a ha
    rcases List.mem_append.mp ha with ha | ha
    · exact h1.own a ha
    · exact RepRs.own h2 a ha
theorem RepRs.length : ∀ {rs : List R} {vs : List V} {fp : List Addr}, RepRs g.toG F H σ rs vs fp → rs.length = vs.length
  | [], vs, fp, h => by obtain ⟨rfl, _⟩ := h; rfl
  | r :: rs, vs, fp, h => by
    obtain ⟨v, vs', f1, f2, rfl, rfl, h1, h2⟩ := h
    simp [RepRs.length h2]

/-- what is taken -/
theorem take_rep (rr : RepR g.toG F H σ r v fr) (w : Wf F H (fr ++ fp)) (re : RepE g.toG F H E σ fp) {P : T → Env → Prop} {XX : T → Env → Prop} (p : Post (takeR r E) P XX) :
    ∃ t E' f fp', P t E' ∧ Rep g.toG F H t v f ∧ RepE g.toG F H E' σ fp' ∧ (f ++ fp').Perm (fr ++ fp) := by
  cases r with
  | val t => exact ⟨t, E, fr, fp, p, rr, re, .refl _⟩
  | plc i q =>
    obtain ⟨rfl, at_⟩ := rr
    unfold takeR at p
    dsimp only at p
    cases e : plcGet i q E with
    | none => simp only [e] at p; exact p.elim
    | some t =>
      simp only [e] at p
      by_cases hh : t = .hole ∧ q = []
      · obtain ⟨rfl, rfl⟩ := hh
        refine ⟨.hole, _, [], fp, p, rfl, ?_, .refl _⟩
        have : plcSet i [] .hole E = E := by
          unfold plcSet
          unfold plcGet at e
          cases hi : E[i]? with
          | none => rfl
          | some t0 =>
            rw [hi] at e
            have e' : t0 = .hole := by simpa [T.getP] using e
            subst e'
            dsimp only
            apply List.ext_getElem?
            intro j
            by_cases hj : i = j
            · subst hj
              obtain ⟨hl, _⟩ := List.getElem?_eq_some_iff.mp hi
              rw [List.getElem?_set_self hl, hi]
              rfl
            · rw [List.getElem?_set_ne hj]
        rw [this]
        exact re
      · have hs : t ≠ .hole ∨ q ≠ [] := by
          by_cases h1 : t = .hole
          · exact .inr fun h2 => hh ⟨h1, h2⟩
          · exact .inl h1
        obtain ⟨w', f, rest, at', r', pm, k⟩ := re.focus e hs
        rw [at'.det at_] at r'
        obtain ⟨fp', pm', re'⟩ := k F H .hole [] ⟨fun _ h => h, fun _ _ e _ => e⟩ rfl
        exact ⟨t, _, f, fp', p, r', re', prm fun a => by
          have h1 := prm_of pm a
          have h2 := prm_of pm' a
          simp only [List.count_append, List.count_nil] at *
          omega⟩

/-! ### argument lists -/
theorem ja_nil : JA X g W b [] lNil := PA.imp pa_nil fun σ H Q h => by
  obtain ⟨F, E, fp, w, re, p⟩ := h
  exact p.pure [] H F [] fp Aft.refl w re ⟨rfl, rfl⟩ fun _ _ _ h => h
theorem deep_or {r : R} {q : Bool} (gd : (!(deep r) || q) = true) (ex : q = true → Ext H H') : deep r = false ∨ Ext H H' := by
  cases q with
  | true => exact .inr (ex rfl)
  | false => rw [Bool.or_false] at gd; exact .inl (by simpa using gd)
theorem ja_cons {l : M (List R)} (ha : JE X g W b e ma) (hr : JA X g W q es l) (hs : starEach (e :: es) X.env = (false, eval e X.env) :: starEach es X.env) : JA X g W (b && q) (e :: es) (lArg q ma l) :=
  PA.imp (pa_cons ha hr hs) fun σ H Q h => by
    obtain ⟨F, E, fp, w, re, p⟩ := h
    refine see w re p fun x H1 F1 fr fp1 r E1 a1 w1 re1 rr ex p1 => ?_
    obtain ⟨gd, p2⟩ := p1.bind.guard
    refine ⟨F1, E1, fp1, w1.right, re1, p2.bind.imp (fun rs E2 p3 => ?_) fun _ _ h => h.later (a1.sub fun a ha => List.mem_append_right _ ha)⟩
    intro vs H2 F2 fs fp2 a2 w2 re2 rr2 ex2
    obtain ⟨wf3, st, a3⟩ := frame w1 rr.own a2 w2
    refine p3.pure (x :: vs) H2 F2 (fr ++ fs) fp2 ?_ (by rw [List.append_assoc]; exact wf3) re2 ⟨x, vs, fr, fs, rfl, rfl, rr.later st (deep_or gd ex2), rr2⟩ fun hb c o e => ?_
    · rw [List.append_assoc]; exact a1.trans a3
    · rw [Bool.and_eq_true] at hb
      exact ex2 hb.2 c o (ex hb.1 c o e)
theorem ja_weak {l : M (List R)} (h : JA X g W b es l) : JA X g W false es l := PA.imp h fun σ H Q h => by
  obtain ⟨F, E, fp, w, r, p⟩ := h
  exact ⟨F, E, fp, w, r, p.imp (fun a E' k v H' F' fr fp' x y z u _ => k v H' F' fr fp' x y z u (fun z => nomatch z)) fun _ _ h => h⟩

/-! ### items of a display -/
theorem ji_nil : JI X g W b [] lNil := PA.imp pa_nil fun σ H Q h => by
  obtain ⟨F, E, fp, w, re, p⟩ := h
  exact p.pure [] H F [] fp Aft.refl w re ⟨rfl, rfl⟩ fun _ _ _ h => h
theorem ji_cons {l : M (List T)} (ha : JE X g W b e ma) (hr : JI X g W q es l) (hs : starEach (e :: es) X.env = (false, eval e X.env) :: starEach es X.env) : JI X g W (b && q) (e :: es) (lItem q ma l) :=
  PA.imp (pa_cons ha hr hs) fun σ H Q h => by
    obtain ⟨F, E, fp, w, re, p⟩ := h
    refine see w re p fun x H1 F1 fr fp1 r E1 a1 w1 re1 rr ex p1 => ?_
    obtain ⟨gd, p2⟩ := p1.bind.guard
    refine ⟨F1, E1, fp1, w1.right, re1, p2.bind.imp (fun ts E2 p3 => ?_) fun _ _ h => h.later (a1.sub fun a ha => List.mem_append_right _ ha)⟩
    intro vs H2 F2 fs fp2 a2 w2 re2 rr2 ex2
    obtain ⟨wf3, st, a3⟩ := frame w1 rr.own a2 w2
    have rr' := rr.later st (deep_or gd ex2)
    have wf4 : Wf F2 H2 (fr ++ fp2) := by
      refine (wf3.perm (prm fun a => ?_ : (fr ++ (fs ++ fp2)).Perm (fs ++ (fr ++ fp2)))).right
      simp only [List.count_append]; omega
    obtain ⟨t, E3, f, fp3, p4, rt, re3, pm⟩ := take_rep rr' wf4 re2 p3.bind
    have pm2 : (fr ++ (fs ++ fp2)).Perm ((f ++ fs) ++ fp3) := prm fun a => by
      have := prm_of pm a
      simp only [List.count_append] at *; omega
    refine p4.pure (x :: vs) H2 F2 (f ++ fs) fp3 ((a1.trans a3).sub fun a ha => pm2.mem_iff.mpr ha) (wf3.perm pm2) re3 ⟨x, vs, f, fs, rfl, rfl, rt, rr2⟩ fun hb c o e => ?_
    rw [Bool.and_eq_true] at hb
    exact ex2 hb.2 c o (ex hb.1 c o e)
theorem ji_weak {l : M (List T)} (h : JI X g W b es l) : JI X g W false es l := PA.imp h fun σ H Q h => by
  obtain ⟨F, E, fp, w, r, p⟩ := h
  exact ⟨F, E, fp, w, r, p.imp (fun a E' k v H' F' fr fp' x y z u _ => k v H' F' fr fp' x y z u (fun z => nomatch z)) fun _ _ h => h⟩
/-- *e -/
theorem ji_star {l : M (List T)} {sp : Pos} (fit : Fits g X) (ha : JE X g W b e ma) (hr : JI X g W q es l) (hs : starEach (.Starred e sp :: es) X.env = (true, eval e X.env) :: starEach es X.env) : JI X g W (b && q) (.Starred e sp :: es) (lStar ma l) :=
  PA.imp (StX.pa_star ha hr hs) fun σ H Q h => by
    obtain ⟨F, E, fp, w, re, p⟩ := h
    refine seeT w re p fun x H1 F1 fp1 t f E1 a1 w1 re1 rt ex p1 => ?_
    obtain ⟨xs, exs, p2⟩ := p1.bind.ofO
    obtain ⟨hp, p3⟩ := p2.bind.guard
    have main : ∃ a vs, x = V.ref a ∧ (SqT X.K H1 a vs ∨ SqL X.K H1 a vs) ∧ RepL g.toG F1 H1 xs vs [] := by
      cases t with
      | lst o ts =>
        cases exs
        obtain ⟨a, vs, fs, rfl, sq, r, hf⟩ := rt.lst_inv
        obtain rfl := hf hp
        exact ⟨a, vs, rfl, .inr (fit.K ▸ sq), r⟩
      | tup ts =>
        cases exs
        obtain ⟨a, vs, rfl, sq, r, hf⟩ := rt.tup_inv
        obtain rfl := hf hp
        exact ⟨a, vs, rfl, .inl (fit.K ▸ sq), r⟩
      | _ => cases exs
    obtain ⟨a, vs0, rfl, sq, r0⟩ := main
    refine ⟨a, vs0, rfl, sq, F1, E1, fp1, w1, re1, p3.bind.imp (fun ts E2 p4 => ?_) fun _ _ h => h.later a1⟩
    intro vs H2 F2 fs fp2 a2 w2 re2 rr2 ex2
    obtain ⟨_, p5⟩ := p4.bind.guard
    have st : Stay F1 F2 H1 H2 ([] : List Addr) := ⟨a2.ff, fun a o e h => by
      rcases h with h | h | h
      · cases h
      · exact a2.keep a o e fun q => w1.dj a q h
      · exact a2.tups a o e h⟩
    refine p5.pure (vs0 ++ vs) H2 F2 fs fp2 (a1.trans a2) w2 re2 (by simpa using RepL.app (RepL.stay xs r0 st) rr2) fun hb c o e => ?_
    rw [Bool.and_eq_true] at hb
    exact ex2 hb.2 c o (ex hb.1 c o e)
/-- a list, new, of what was taken -/
theorem New.lstO {ts : List T} {vs : List V} {p : Addr} (w : Wf F H (fr ++ fp)) (re : RepE g.toG F H E σ fp) (hp : H p = none) (r : RepL g.toG F H ts vs fr) :
    let H' := upd H p (.lst vs)
    Aft F F H H' (fr ++ fp) ((p :: fr) ++ fp) ∧ Wf F H' ((p :: fr) ++ fp) ∧ RepE g.toG F H' E σ fp ∧ Rep g.toG F H' (.lst true ts) (.ref p) (p :: fr) ∧ Ext H H' := by
  have ex := ext_new (o := .lst vs) hp
  have nf : ¬ p ∈ fr ++ fp := fun h => by
    rcases List.mem_append.mp h with h | h
    · obtain ⟨o, e, _⟩ := RepL.own ts r p h; rw [hp] at e; cases e
    · obtain ⟨o, e, _⟩ := re.own p h; rw [hp] at e; cases e
  refine ⟨⟨fun _ h => h, fun _ h => .inl h, fun a o e _ => ex a o e, fun a ha => ?_, fun a o e _ => ex a o e⟩, ⟨?_, fun a ha => ?_, fun a h => let ⟨o, e⟩ := w.dom a h; ⟨o, ex a o e⟩⟩, re.stay (stay_ext ex), ⟨p, vs, fr, rfl, RepL.stay ts r (stay_ext ex), .inl ⟨rfl, upd_same, rfl⟩⟩, ex⟩
  · rw [List.cons_append] at ha
    rcases List.mem_cons.mp ha with rfl | ha
    · exact .inr hp
    · exact .inl ha
  · rw [List.cons_append]; exact List.nodup_cons.mpr ⟨nf, w.nd⟩
  · rw [List.cons_append] at ha
    rcases List.mem_cons.mp ha with rfl | ha
    · intro q
      obtain ⟨o, e⟩ := w.dom _ q
      rw [hp] at e; cases e
    · exact w.dj a ha
theorem New.tupO {ts : List T} {vs : List V} {p : Addr} (w : Wf F H (fr ++ fp)) (re : RepE g.toG F H E σ fp) (hp : H p = none) (r : RepL g.toG F H ts vs fr) :
    let H' := upd H p (.tup vs)
    Aft F F H H' (fr ++ fp) (fr ++ fp) ∧ Wf F H' (fr ++ fp) ∧ RepE g.toG F H' E σ fp ∧ Rep g.toG F H' (.tup ts) (.ref p) fr ∧ Ext H H' := by
  have ex := ext_new (o := .tup vs) hp
  exact ⟨⟨fun _ h => h, fun _ h => .inl h, fun a o e _ => ex a o e, fun a ha => .inl ha, fun a o e _ => ex a o e⟩, w.ext ex, re.stay (stay_ext ex), ⟨p, vs, rfl, .inl (.inl upd_same), RepL.stay ts r (stay_ext ex)⟩, ex⟩
theorem je_list {l : M (List T)} (h : JI X g W b es l) : JE X g W b (.List es pos) (cList l) :=
  PE.imp (pe_lst h) fun σ H Q h => by
    obtain ⟨F, E, fp, w, re, p⟩ := h
    refine ⟨F, E, fp, w, re, p.bind.bind.imp (fun ts E1 p1 => ?_) fun _ _ h => h⟩
    intro vs H1 F1 fr fp1 a1 w1 re1 rr ex
    obtain ⟨hl, p2⟩ := p1.bind.guard
    refine ⟨by rw [← rr.length]; exact le_line (by simpa using hl), fun p hp => ?_⟩
    obtain ⟨a2, w2, re2, r2, ex2⟩ := New.lstO w1 re1 hp rr
    exact p2.pure.pure (.ref p) _ F1 (p :: fr) fp1 (a1.trans a2) w2 re2 r2 fun hb c o e => ex2 c o (ex hb c o e)
theorem je_tup {l : M (List T)} {x1 : Nat} (h : JI X g W b es l) : JE X g W b (.Tuple es x1 pos) (cTup l) :=
  PE.imp (pe_tup h) fun σ H Q h => by
    obtain ⟨F, E, fp, w, re, p⟩ := h
    refine ⟨F, E, fp, w, re, p.bind.bind.imp (fun ts E1 p1 => ?_) fun _ _ h => h⟩
    intro vs H1 F1 fr fp1 a1 w1 re1 rr ex
    obtain ⟨hl, p2⟩ := p1.bind.guard
    refine ⟨by rw [← rr.length]; exact le_line (by simpa using hl), fun p hp => ?_⟩
    obtain ⟨a2, w2, re2, r2, ex2⟩ := New.tupO w1 re1 hp rr
    exact p2.pure.pure (.ref p) _ F1 fr fp1 (a1.trans a2) w2 re2 r2 fun hb c o e => ex2 c o (ex hb c o e)
end
end PV

/-! V11: calls of built-in functions, slices -/
namespace PV
open PySem L2

section
variable {X : Cx} {e ea eb ec : Expr} {g : GX} {W : WX} {F F' F1 F2 F3 : Addr → Prop} {H H' H1 H2 H3 : Hp} {fp fp' fp1 fp2 fp3 ft fu fq fr : List Addr} {t u z : T} {v x y : V} {σ : St} {E E' E1 E2 : Env} {r s : R} {Q : VK} {b b' b1 b2 q : Bool}
variable {ma mb mc : M R} {na nb nc : M Bool} {pos p : Pos} {es : List Expr} {ei : T → T → Option Bool}

/-- a built-in function's rule serves trees: one argument, two -/
def BT1 (g : GX) (X : Cx) (f : Value) (h : T → Option T) (r : List V → Hp → VK → Prop) : Prop := CallR X f r ∧
  ∀ (F : Addr → Prop) (H : Hp) (fp : List Addr) (t z : T) (x : V) (ft : List Addr) (Q : VK), Wf F H fp → Rep g.toG F H t x ft → h t = some z → (∀ v H' F' f, New g.toG F F' H H' z v f → Q v H') → r [x] H Q
def BT2 (g : GX) (X : Cx) (f : Value) (h : T → T → Option T) (r : List V → Hp → VK → Prop) : Prop := CallR X f r ∧
  ∀ (F : Addr → Prop) (H : Hp) (fp : List Addr) (t u z : T) (x y : V) (ft fu : List Addr) (Q : VK), Wf F H fp → Rep g.toG F H t x ft → Rep g.toG F H u y fu → h t u = some z → (∀ v H' F' f, New g.toG F F' H H' z v f → Q v H') → r [x, y] H Q
variable {fn : Str} {id T0 : String} {h1 : T → Option T} {h2 : T → T → Option T} {rr : List V → Hp → VK → Prop}
theorem b1_red (k : BT1 g X fv h1 rr) {σ : St} {H : Hp} {Q : VK} (h : tE g W b (cB1 h1 ma) σ H Q) : tCB rr (tCons (tE g W b ma) tNil) σ H Q := by
  obtain ⟨F, E, fp, w, re, p⟩ := h
  refine seeT w re p fun x H1 F1 fp1 t f E1 a1 w1 re1 rt ex p1 => ?_
  obtain ⟨u, eu, p2⟩ := p1.bind.ofO
  exact k.2 F1 H1 fp1 t u x f Q w1 rt eu fun v H' F' f n => fin p2.pure a1 w1 re1 ex n
theorem b2_red (k : BT2 g X fv h2 rr) {σ : St} {H : Hp} {Q : VK} (h : tE g W (b && q) (cB2 h2 q ma mb) σ H Q) : tCB rr (tCons (tE g W b ma) (tCons (tE g W q mb) tNil)) σ H Q := by
  obtain ⟨F, E, fp, w, re, p⟩ := h
  refine two_red w re p.bind fun x y H2 F2 fp2 E2 t u c ft fu a2 w2 re2 rt ru ec kk ex => ?_
  exact k.2 F2 H2 fp2 t u c x y ft fu Q w2 rt ru ec fun v H' F' f n => fin kk.pure a2 w2 re2 ex n
theorem je_b1 (k : BT1 g X (.builtin id) h1 rr) (hg : Gl X fn) (hm : X.mg fn = none) (hv : bootBuiltins fn = some (.builtin id)) (ha : JE X g W b ea ma) (hn : fn ≠ "__name__") (hdb : (fn == ("__debug__" : Str)) = false)
    (he : starEach [ea] X.env = (false, eval ea X.env) :: starEach [] X.env) (hpl : (backTo pos (starEach [] X.env)).any (·.1) = false) : JE X g W b (.Call (.Name fn p) [ea] [] pos) (cB1 h1 ma) :=
  PE.imp (pe_callB k.1 hg hm hv (pa_cons ha pa_nil he) hn hdb he hpl) fun σ H Q h => b1_red k h
theorem je_t1 (k : BT1 g X (.type T0) h1 rr) (hg : Gl X fn) (hm : X.mg fn = none) (hv : bootBuiltins fn = some (.type T0)) (ha : JE X g W b ea ma) (hn : fn ≠ "__name__") (hdb : (fn == ("__debug__" : Str)) = false)
    (he : starEach [ea] X.env = (false, eval ea X.env) :: starEach [] X.env) (hpl : (backTo pos (starEach [] X.env)).any (·.1) = false) : JE X g W b (.Call (.Name fn p) [ea] [] pos) (cB1 h1 ma) :=
  PE.imp (pe_callTy k.1 hg hm hv (pa_cons ha pa_nil he) hn hdb he hpl) fun σ H Q h => b1_red k h
theorem je_b2 (k : BT2 g X (.builtin id) h2 rr) (hg : Gl X fn) (hm : X.mg fn = none) (hv : bootBuiltins fn = some (.builtin id)) (ha : JE X g W b ea ma) (hb : JE X g W q eb mb) (hn : fn ≠ "__name__") (hdb : (fn == ("__debug__" : Str)) = false)
    (he : starEach [ea, eb] X.env = (false, eval ea X.env) :: starEach [eb] X.env) (he2 : starEach [eb] X.env = (false, eval eb X.env) :: starEach [] X.env) (hpl : (backTo pos (starEach [eb] X.env)).any (·.1) = false) : JE X g W (b && q) (.Call (.Name fn p) [ea, eb] [] pos) (cB2 h2 q ma mb) :=
  PE.imp (pe_callB k.1 hg hm hv (pa_cons ha (pa_cons hb pa_nil he2) he) hn hdb he hpl) fun σ H Q h => b2_red k h

theorem CallR.or {f : Value} {r r' : List V → Hp → VK → Prop} (h : CallR X f r) (h' : CallR X f r') : CallR X f (fun xs H Q => r xs H Q ∨ r' xs H Q) := by
  intro pins s σ H xs us Q I r q
  rcases q with q | q
  · exact h pins s σ H xs us Q I r q
  · exact h' pins s σ H xs us Q I r q
def rLenA (K : PySem.W.Frag) : List V → Hp → VK → Prop := fun xs H Q => (∃ x n, xs = [x] ∧ LenV K x H n ∧ Q (.int n) H) ∨ (∃ a kvs, xs = [V.ref a] ∧ H a = some (.dK kvs) ∧ Q (.int kvs.length) H)
theorem bt_len (fit : Fits g X) : BT1 g X (.builtin "len") bLen (rLenA X.K) := ⟨CallR.or call_len call_lenD, fun F H fp t z x ft Q w rt e k => by
  have atom : ∀ n : Int, z = .int n → Q (.int n) H := fun n ez => by subst ez; exact k _ _ _ _ (New.atom w ⟨rfl, rfl⟩)
  cases t with
  | str s =>
    simp only [bLen] at e
    split at e
    · rename_i hl
      exact .inl ⟨_, s.length, rfl, by rw [rt.str_inv]; exact ⟨le_line hl, rfl⟩, atom _ (Option.some.inj e).symm⟩
    · cases e
  | tup xs =>
    obtain ⟨a, vs, rfl, sq, r, _⟩ := rt.tup_inv
    exact .inl ⟨_, xs.length, rfl, .inr ⟨vs, fit.K ▸ sq, r.length⟩, atom _ (Option.some.inj e).symm⟩
  | lst o xs =>
    obtain ⟨a, vs, fs, rfl, sq, r, _⟩ := rt.lst_inv
    exact .inl ⟨_, xs.length, rfl, .inl ⟨vs, fit.K ▸ sq, r.length⟩, atom _ (Option.some.inj e).symm⟩
  | dct o ks ts =>
    cases o with
    | false => cases e
    | true =>
      obtain ⟨a, vs, fs, rfl, r, l, nd, ⟨_, ea, _⟩ | ⟨h, _⟩⟩ := rt
      · have hl : (ks.zip vs).length = ks.length := by rw [List.length_zip, ← l, Nat.min_self]
        exact .inr ⟨a, _, rfl, ea, by rw [hl]; exact atom _ (Option.some.inj e).symm⟩
      · cases h
  | _ => cases e⟩
theorem bt_int : BT1 g X (.type "int") bInt (fun xs H Q => ((∃ i, xs = [.int i] ∧ Q (.int i) H) ∨ ∃ k, xs = [.bl k] ∧ Q (.int (if k then 1 else 0)) H) ∨ (∃ a n, xs = [.str a] ∧ PySem.intText? a = some n ∧ a.length ≤ 640 ∧ Q (.int n) H)) := ⟨CallR.or call_int1 call_int_str, fun F H fp t z x ft Q w rt e k => by
  cases t with
  | int i => cases e; exact .inl (.inl ⟨i, by rw [rt.int_inv], k _ _ _ _ (New.atom w ⟨rfl, rfl⟩)⟩)
  | bl b => cases e; obtain ⟨rfl, _⟩ := rt; exact .inl (.inr ⟨b, rfl, k _ _ _ _ (New.atom w ⟨rfl, rfl⟩)⟩)
  | str s =>
    simp only [bInt] at e
    split at e
    · rename_i hl
      cases hi : intText? s with
      | none => rw [hi] at e; cases e
      | some n =>
        rw [hi] at e
        cases e
        exact .inr ⟨s, n, by rw [rt.str_inv], hi, hl, k _ _ _ _ (New.atom w ⟨rfl, rfl⟩)⟩
    · cases e
  | _ => cases e⟩
theorem bt_bool : BT1 g X (.type "bool") bBool (fun xs H Q => (∃ i, xs = [.int i] ∧ Q (.bl (i != 0)) H) ∨ ∃ k, xs = [.bl k] ∧ Q (.bl k) H) := ⟨call_bool1, fun F H fp t z x ft Q w rt e k => by
  cases t with
  | int i => cases e; exact .inl ⟨i, by rw [rt.int_inv], k _ _ _ _ (New.atom w ⟨rfl, rfl⟩)⟩
  | bl b => cases e; obtain ⟨rfl, _⟩ := rt; exact .inr ⟨b, rfl, k _ _ _ _ (New.atom w ⟨rfl, rfl⟩)⟩
  | _ => cases e⟩
theorem bt_abs : BT1 g X (.builtin "abs") bAbs (fun xs H Q => ∃ i, xs = [.int i] ∧ Q (.int (if i < 0 then -i else i)) H) := ⟨call_abs, fun F H fp t z x ft Q w rt e k => by
  cases t with
  | int i => cases e; exact ⟨i, by rw [rt.int_inv], k _ _ _ _ (New.atom w ⟨rfl, rfl⟩)⟩
  | _ => cases e⟩
theorem bt_str : BT1 g X (.type "str") bStr (fun xs H Q => (∃ i, xs = [.int i] ∧ i.natAbs.log2 < 1920 ∧ Q (.str (toString i)) H) ∨ ∃ a, xs = [.str a] ∧ Q (.str a) H) := ⟨CallR.or call_str_int SkE.call_str_str, fun F H fp t z x ft Q w rt e k => by
  cases t with
  | int i =>
    simp only [bStr] at e
    split at e
    · cases e; exact .inl ⟨i, by rw [rt.int_inv], by assumption, k _ _ _ _ (New.atom w ⟨rfl, rfl⟩)⟩
    · cases e
  | str s => cases e; exact .inr ⟨s, by rw [rt.str_inv], k _ _ _ _ (New.atom w ⟨rfl, rfl⟩)⟩
  | _ => cases e⟩
theorem bools_rep : ∀ {ts : List T} {vs : List V} {fp : List Addr} {bs : List Bool}, RepL g.toG F H ts vs fp → bools ts = some bs → vs = bs.map V.bl
  | [], vs, fp, bs, h, e => by obtain ⟨rfl, _⟩ := h; cases e; rfl
  | t :: ts, vs, fp, bs, h, e => by
    obtain ⟨v, vs', f1, f2, rfl, rfl, h1, h2⟩ := h
    cases t with
    | bl b =>
      cases hb : bools ts with
      | none => simp [bools, hb] at e
      | some bs' =>
        simp only [bools, hb, Option.map_some, Option.some.injEq] at e
        subst e
        rw [bools_rep h2 hb, h1.1]
        rfl
    | _ => cases e
theorem bt_all (fit : Fits g X) (hc : X.calm = true) : BT1 g X (.builtin "all") bAll (rAll X.K) := ⟨cr_all hc, fun F H fp t z x ft Q w rt e k => by
  cases t with
  | lst o xs =>
    obtain ⟨a, vs, fs, rfl, sq, r, _⟩ := rt.lst_inv
    cases hb : bools xs with
    | none => simp [bAll, hb] at e
    | some bs =>
      simp only [bAll, hb, Option.map_some, Option.some.injEq] at e
      subst e
      exact ⟨a, bs, rfl, by rw [← bools_rep r hb]; exact fit.K ▸ sq, k _ _ _ _ (New.atom w ⟨rfl, rfl⟩)⟩
  | _ => cases e⟩
theorem bt_any (fit : Fits g X) (hc : X.calm = true) : BT1 g X (.builtin "any") bAny (rAny X.K) := ⟨cr_any hc, fun F H fp t z x ft Q w rt e k => by
  cases t with
  | lst o xs =>
    obtain ⟨a, vs, fs, rfl, sq, r, _⟩ := rt.lst_inv
    cases hb : bools xs with
    | none => simp [bAny, hb] at e
    | some bs =>
      simp only [bAny, hb, Option.map_some, Option.some.injEq] at e
      subst e
      exact ⟨a, bs, rfl, by rw [← bools_rep r hb]; exact fit.K ▸ sq, k _ _ _ _ (New.atom w ⟨rfl, rfl⟩)⟩
  | _ => cases e⟩
theorem bt_tuple (fit : Fits g X) : BT1 g X (.type "tuple") bTuple (fun xs H Q => ∃ p ys, xs = [.ref p] ∧ ((SqL X.K H p ys ∧ ∀ l, H l = none → Q (.ref l) (upd H l (.tup ys))) ∨ (SqT X.K H p ys ∧ Q (.ref p) H))) := ⟨call_tuple_of, fun F H fp t z x ft Q w rt e k => by
  cases t with
  | lst o xs =>
    simp only [bTuple] at e
    split at e
    · rename_i hp
      cases e
      obtain ⟨a, vs, fs, rfl, sq, r, hf⟩ := rt.lst_inv
      obtain rfl := hf hp
      exact ⟨a, vs, rfl, .inl ⟨fit.K ▸ sq, fun l hl => k _ _ _ _ (New.tup w hl r)⟩⟩
    · cases e
  | tup xs =>
    simp only [bTuple] at e
    split at e
    · rename_i hp
      cases e
      obtain ⟨a, vs, e0, sq, r, hf⟩ := rt.tup_inv
      obtain rfl := hf hp
      subst e0
      exact ⟨a, vs, rfl, .inr ⟨fit.K ▸ sq, k _ _ _ _ (New.same rt w)⟩⟩
    · cases e
  | _ => cases e⟩
theorem ofKey_rep : ∀ ks : List Key, RepL g.toG F H (ks.map ofKey) (ks.map kV) []
  | [] => ⟨rfl, rfl⟩
  | k :: ks => ⟨kV k, ks.map kV, [], [], rfl, rfl, by cases k <;> exact ⟨rfl, rfl⟩, ofKey_rep ks⟩
theorem bt_list (fit : Fits g X) (hc : X.calm = true) : BT1 g X (.type "list") bList (fun xs H Q => (∃ p ys, xs = [.ref p] ∧ (SqL X.K H p ys ∨ SqT X.K H p ys) ∧ ∀ l, H l = none → Q (.ref l) (upd H l (.lst ys))) ∨ rListD xs H Q) := ⟨CallR.or call_list_of (call_list_dK hc), fun F H fp t z x ft Q w rt e k => by
  cases t with
  | lst o xs =>
    simp only [bList] at e
    split at e
    · rename_i hp
      cases e
      obtain ⟨a, vs, fs, rfl, sq, r, hf⟩ := rt.lst_inv
      obtain rfl := hf hp
      exact .inl ⟨a, vs, rfl, .inl (fit.K ▸ sq), fun l hl => k _ _ _ _ (New.lst w hl r)⟩
    · cases e
  | tup xs =>
    simp only [bList] at e
    split at e
    · rename_i hp
      cases e
      obtain ⟨a, vs, rfl, sq, r, hf⟩ := rt.tup_inv
      obtain rfl := hf hp
      exact .inl ⟨a, vs, rfl, .inr (fit.K ▸ sq), fun l hl => k _ _ _ _ (New.lst w hl r)⟩
    · cases e
  | dct o ks ts =>
    cases o with
    | false => cases e
    | true =>
      cases e
      obtain ⟨a, vs, fs, rfl, r, l, nd, ⟨_, ea, _⟩ | ⟨h, _⟩⟩ := rt
      · refine .inr ⟨a, _, rfl, ea, fun q hq => ?_⟩
        have : (ks.zip vs).map (fun kv => kV kv.1) = ks.map kV := by
          rw [show (fun kv : Key × V => kV kv.1) = kV ∘ Prod.fst from rfl, ← List.map_map, List.map_fst_zip (by omega)]
        rw [this]
        exact k _ _ _ _ (New.lst w hq (ofKey_rep ks))
      · cases h
  | _ => cases e⟩
theorem bt_max2 (hc : X.calm = true) : BT2 g X (.builtin "max") bMax2 (fun xs H Q => ∃ i j, xs = [.int i, .int j] ∧ Q (.int (if j > i then j else i)) H) := ⟨call_max2 hc, fun F H fp t u z x y ft fu Q w rt ru e k => by
  cases t <;> cases u <;> simp only [bMax2] at e <;> first | (cases e; done) | skip
  cases e
  exact ⟨_, _, by rw [rt.int_inv, ru.int_inv], k _ _ _ _ (New.atom w ⟨rfl, rfl⟩)⟩⟩
theorem bt_min2 (hc : X.calm = true) : BT2 g X (.builtin "min") bMin2 (fun xs H Q => ∃ i j, xs = [.int i, .int j] ∧ Q (.int (if j < i then j else i)) H) := ⟨call_min2 hc, fun F H fp t u z x y ft fu Q w rt ru e k => by
  cases t <;> cases u <;> simp only [bMin2] at e <;> first | (cases e; done) | skip
  cases e
  exact ⟨_, _, by rw [rt.int_inv, ru.int_inv], k _ _ _ _ (New.atom w ⟨rfl, rfl⟩)⟩⟩
end
end PV

/-! V12: slices -/
namespace PV
open PySem L2

section
variable {X : Cx} {e ea eb ec : Expr} {g : GX} {W : WX} {F F' F1 F2 F3 : Addr → Prop} {H H' H1 H2 H3 : Hp} {fp fp' fp1 fp2 fp3 ft fu fq fr : List Addr} {t u z : T} {v x y : V} {σ : St} {E E' E1 E2 : Env} {r s : R} {Q : VK} {b b' b1 b2 q : Bool}
variable {ma mb mc : M R} {na nb nc : M Bool} {pos p p2 : Pos} {es : List Expr} {ei : T → T → Option Bool}

def tO (g : GX) (W : WX) (m : M (Option Int)) : TO := fun σ H Q => ∃ F E fp, Wf F H fp ∧ RepE g.toG F H E σ fp ∧
  Post (m E) (fun k E' => ∀ H' F' fp', Aft F F' H H' fp fp' → Wf F' H' fp' → RepE g.toG F' H' E' σ fp' → Q k H') (xP g W σ F H fp)
abbrev JO (X : Cx) (g : GX) (W : WX) (e : Option Expr) (m : M (Option Int)) : Prop := PO X e (tO g W m)
theorem PO.imp {X : Cx} {e : Option Expr} {t t' : TO} (h : PO X e t) (k : ∀ σ H Q, t' σ H Q → t σ H Q) : PO X e t' := ⟨fun pins s σ H Q I q => h.run pins s σ H Q I (k σ H Q q)⟩
theorem jo_none : JO X g W none oNone := PO.imp po_none fun σ H Q h => by
  obtain ⟨F, E, fp, w, re, p⟩ := h
  exact p.pure H F fp Aft.refl w re
theorem jo_some (ha : JE X g W b e ma) : JO X g W (some e) (oSome ma) := PO.imp (po_some ha) fun σ H Q h => by
  obtain ⟨F, E, fp, w, re, p⟩ := h
  refine see w re p fun x H1 F1 fr fp1 r E1 a1 w1 re1 rr ex p1 => ?_
  cases r with
  | plc i p => exact p1.elim
  | val t =>
    cases t with
    | int i =>
      obtain ⟨rfl, rfl⟩ : x = .int i ∧ fr = [] := rr
      exact ⟨i, rfl, p1.pure H1 F1 fp1 a1 w1 re1⟩
    | _ => exact p1.elim
theorem RepL.drop : ∀ {ts : List T} {vs : List V} (n : Nat), RepL g.toG F H ts vs [] → RepL g.toG F H (ts.drop n) (vs.drop n) []
  | ts, vs, 0, h => h
  | [], vs, n + 1, h => by obtain ⟨rfl, _⟩ := h; exact ⟨rfl, rfl⟩
  | t :: ts, vs, n + 1, h => by
    obtain ⟨v, vs', f1, f2, rfl, e, h1, h2⟩ := h
    obtain ⟨rfl, rfl⟩ := List.append_eq_nil_iff.mp e.symm
    exact RepL.drop n h2
theorem RepL.take : ∀ {ts : List T} {vs : List V} (n : Nat), RepL g.toG F H ts vs [] → RepL g.toG F H (ts.take n) (vs.take n) []
  | ts, vs, 0, h => by rw [List.take_zero, List.take_zero]; exact ⟨rfl, rfl⟩
  | [], vs, n + 1, h => by obtain ⟨rfl, _⟩ := h; exact ⟨rfl, rfl⟩
  | t :: ts, vs, n + 1, h => by
    obtain ⟨v, vs', f1, f2, rfl, e, h1, h2⟩ := h
    obtain ⟨rfl, rfl⟩ := List.append_eq_nil_iff.mp e.symm
    exact ⟨v, vs'.take n, [], [], rfl, rfl, h1, RepL.take n h2⟩
theorem RepL.rev {ts : List T} {vs : List V} (h : RepL g.toG F H ts vs []) : RepL g.toG F H ts.reverse vs.reverse [] := by
  induction ts generalizing vs with
  | nil => obtain ⟨rfl, _⟩ := h; exact ⟨rfl, rfl⟩
  | cons t ts ih =>
    obtain ⟨v, vs', f1, f2, rfl, e, h1, h2⟩ := h
    obtain ⟨rfl, rfl⟩ := List.append_eq_nil_iff.mp e.symm
    rw [List.reverse_cons, List.reverse_cons]
    exact RepL.app (f1 := []) (f2 := []) (ih h2) ⟨v, [], [], [], rfl, rfl, h1, rfl, rfl⟩
/-- the whole of it -/
theorem cut_whole {α : Type} {xs : List α} {lo hi : Option Int} (h : HT.sIx xs.length 0 lo = 0 ∧ HT.sIx xs.length xs.length hi = xs.length) : cut xs lo hi = xs := by
  unfold cut
  show (xs.drop (HT.sIx xs.length 0 lo)).take (HT.sIx xs.length xs.length hi - HT.sIx xs.length 0 lo) = xs
  rw [h.1, h.2, List.drop_zero, Nat.sub_zero, List.take_length]
theorem RepL.cut {ts : List T} {vs : List V} (lo hi : Option Int) (h : RepL g.toG F H ts vs []) : RepL g.toG F H (PV.cut ts lo hi) (cutV vs lo hi) [] := by
  unfold PV.cut cutV
  rw [← h.length]
  exact (h.drop _).take _
theorem slice_rep (fit : Fits g X) {lo hi : Option Int} (w : Wf F H fp) (rt : Rep g.toG F H t x ft) (e : slice t lo hi none = some z) (k : ∀ v H' F' f, New g.toG F F' H H' z v f → Q v H') :
    rSlL X.K x lo hi H Q ∨ rSlA X.K x lo hi H Q ∨ rSlS x lo hi H Q := by
  cases t with
  | lst o xs =>
    simp only [slice] at e
    split at e
    · rename_i hp
      cases e
      obtain ⟨a, vs, fs, rfl, sq, r, hf⟩ := rt.lst_inv
      obtain rfl := hf hp
      exact .inl ⟨a, vs, rfl, fit.K ▸ sq, fun p hp => k _ _ _ _ (New.lst w hp (r.cut lo hi))⟩
    · cases e
  | tup xs =>
    simp only [slice] at e
    split at e
    · rename_i hp
      cases e
      obtain ⟨a, vs, e0, sq, r, hf⟩ := rt.tup_inv
      obtain rfl := hf hp
      subst e0
      refine .inr (.inl ⟨a, vs, rfl, fit.K ▸ sq, fun hw => k _ _ _ _ (New.same ?_ w), fun _ p hp => k _ _ _ _ (New.tup w hp (r.cut lo hi))⟩)
      rw [← r.length] at hw
      rw [cut_whole hw]
      exact rt
    · cases e
  | str y =>
    simp only [slice] at e
    split at e
    · rename_i hl
      cases e
      refine .inr (.inr ⟨y, rt.str_inv, le_line hl, k _ _ _ _ (New.atom w ⟨?_, rfl⟩)⟩)
      unfold cutS PV.cut
      rw [Array.length_toList]
      rfl
    · cases e
  | _ => simp [slice] at e
theorem je_slice {lo hi : Option Expr} {ml mh : M (Option Int)} (fit : Fits g X) (ha : JE X g W b e ma) (hl : JO X g W lo ml) (hh : JO X g W hi mh) : JE X g W false (.Subscript e (.Slice lo hi none p2) pos) (cSlice ma ml mh oNone) :=
  PE.imp (pe_slice (sl_list.or (sl_tupA.or sl_str)) ha hl hh) fun σ H Q h => by
    obtain ⟨F, E, fp, w, re, p⟩ := h
    refine see w re p fun x H1 F1 fr fp1 r E1 a1 w1 re1 rr ex p1 => ?_
    refine ⟨F1, E1, fp1, w1.right, re1, p1.bind.imp (fun lo E2 p2 => ?_) fun _ _ h => h.later (a1.sub fun a ha => List.mem_append_right _ ha)⟩
    intro H2 F2 fp2 a2 w2 re2
    obtain ⟨wf3, st, a3⟩ := frame w1 rr.own a2 w2
    have a13 := a1.trans a3
    refine ⟨F2, E2, fp2, w2, re2, p2.bind.imp (fun hi E3 p3 => ?_) fun _ _ h => h.later (a13.sub fun a ha => List.mem_append_right _ ha)⟩
    intro H3 F3 fp3 a4 w4 re4
    have own2 : ∀ a ∈ fr, ∃ o, H2 a = some o ∧ Mut (some o) := fun a ha => by
      obtain ⟨o, e, m⟩ := rr.own a ha
      exact ⟨o, st.2 a o e (.inl ha), m⟩
    obtain ⟨wf5, st5, a5⟩ := frame wf3 own2 a4 w4
    have p4 : Post (oNone E3) _ _ := p3.bind
    have p5 := p4.pure
    obtain ⟨gd, p6⟩ := p5.bind.guard
    obtain ⟨t, et, p7⟩ := p6.bind.view
    have hd : deep r = false := by simpa using gd
    have rr' : RepR g.toG F3 H3 σ r x fr := (rr.later st (.inl hd)).later st5 (.inl hd)
    obtain ⟨f, rt, _, w6, re6, a6⟩ := rr'.view wf5 re4 et
    obtain ⟨u, eu, p8⟩ := p7.bind.ofO
    exact slice_rep fit w6 rt eu fun v H' F' f n => fin p8.pure (a13.trans (a5.trans a6)) w6 re6 (fun h => nomatch h) n
/-- xs[::-1], a list -/
theorem je_revL {k : Nat} {p1 p3 : Pos} (fit : Fits g X) (ha : JE X g W b e ma) : JE X g W false (.Subscript e (.Slice none none (some (.UnaryOp .USub (.Constant (.int 1) k p1) p2)) p3) pos) (cRevL ma) :=
  PE.imp (pe_revL ha) fun σ H Q h => by
    obtain ⟨F, E, fp, w, re, p⟩ := h
    refine seeT w re p fun x H1 F1 fp1 t f E1 a1 w1 re1 rt ex p1 => ?_
    cases t with
    | lst o xs =>
      obtain ⟨hp, p2⟩ := p1.bind.guard
      obtain ⟨a, vs, fs, rfl, sq, r, hf⟩ := rt.lst_inv
      obtain rfl := hf hp
      exact ⟨a, vs, rfl, fit.K ▸ sq, fun p hp => fin p2.pure a1 w1 re1 (fun h => nomatch h) (New.lst w1 hp r.rev)⟩
    | _ => exact p1.elim
end
end PV

/-! V13: isinstance -/
namespace PV
open PySem L2

/-- an own class, as isinstance looks at it -/
structure ClsX (K : PySem.W.Frag) (C : Addr) : Prop where
  cl : Cls K C
  ha : PySem.W.findIn K (.ref C) "__class__" = some (some (.builtin "object.__class__"))
  hn : PySem.W.specialIn K (.builtin "object.__class__") "__get__" = some (some (.builtin "getset_descriptor.__get__"))
  htk : PySem.W.takesIn K (.builtin "object.__class__") = some true
  hm : PySem.W.mroIn K C (.type "object") = some true
/-- the class of a value, an exception's too -/
inductive TyE (K : PySem.W.Frag) (H : Hp) : V → Value → Prop where
  | base {x : V} {ty : Value} (h : TyX K H x ty) : TyE K H x ty
  | exc {a Ca : Addr} {d : Option Addr} (e : H a = some (exq (.ref Ca) d a)) (T : EcX K Ca) (hd : ∀ dd, d = some dd → ∃ fs, H dd = some (.xd fs)) : TyE K H (.ref a) (.ref Ca)
theorem kit_ofE {X : Cx} {pins : List (Addr × Obj)} {σ : St} {H : Hp} {s : Shared} {x : V} {u ty : Value} (I : Inv X pins σ H s) (rx : RelV x u) (h : TyE X.K H x ty) :
    ∃ Pk : Heap → Prop, PySem.W.KitX X.K u ty Pk ∧ Pk s.heap ∧ u ≠ .builtin "__main__.__loader__#opaque" := by
  cases h with
  | base h => exact kit_of I rx h
  | exc e T hd =>
    cases rx
    obtain ⟨oe, od, J⟩ := exq_inst I.hok e hd
    exact ⟨_, PySem.W.kitx_exc T.cl T.xf.ga T.xf.gg T.xf.exC T.ha T.hn T.htk T.hm, J, fun z => nomatch z⟩
def rIsE1 (K : PySem.W.Frag) : List V → Hp → VK → Prop := fun xs H Q => ∃ (x c : V) (ty cu : Value) (k : Bool), xs = [x, c] ∧ ClsV c cu ∧ TyE K H x ty ∧ PySem.W.kitOne K ty cu = some k ∧ Q (.bl k) H
def rIsET (K : PySem.W.Frag) : List V → Hp → VK → Prop := fun xs H Q => ∃ (x : V) (a : Addr) (cs : List V) (ty : Value) (us : List Value) (k : Bool), xs = [x, .ref a] ∧ H a = some (.tup cs) ∧ Paired ClsV cs us ∧ TyE K H x ty ∧ PySem.W.kitAny K ty us = some k ∧ Q (.bl k) H
theorem call_isE1 {X : Cx} : CallR X (.builtin "isinstance") (rIsE1 X.K) := fun pins s σ H xs us Q I r h => by
  obtain ⟨x, c, ty, cu, k, rfl, kc, hty, e, q⟩ := h
  obtain ⟨u1, u2, rfl, r1, r2⟩ := vals2 r
  cases kc.eq r2
  obtain ⟨Pk, Z, p, hn⟩ := kit_ofE I r1 hty
  exact PySem.W.kia_one Z I.kIn p e hn fun tk => ⟨.bl k, H, I.tok tk, rfl, q⟩
theorem call_isET {X : Cx} : CallR X (.builtin "isinstance") (rIsET X.K) := fun pins s σ H xs us Q I r h => by
  obtain ⟨x, a, cs, ty, ws, k, rfl, hT, kc, hty, e, q⟩ := h
  obtain ⟨u1, u2, rfl, r1, r2⟩ := vals2 r
  cases r2
  obtain ⟨Pk, Z, p, hn⟩ := kit_ofE I r1 hty
  obtain ⟨_, its, rv, o, h1, h2, n, h3⟩ := (show ObjOk X.prog X.w H s.heap a (.tup cs) from I.hok a _ hT)
  cases ClsV.all kc rv
  obtain ⟨oc, od, dt, sl⟩ := o
  cases h2
  cases h3
  exact PySem.W.kia_tup Z I.kIn p h1 e hn fun tk => ⟨.bl k, H, I.tok tk, rfl, q⟩
/-- what isinstance says of trees, for the class that c names -/
structure IsK (g : GX) (K : PySem.W.Frag) (gi : GI) (c : Str) (u : Value) : Prop where
  non : ∀ b, isA gi .non c = some b → PySem.W.kitOne K (.type "NoneType") u = some b
  bl : ∀ k b, isA gi (.bl k) c = some b → PySem.W.kitOne K (.type "bool") u = some b
  int : ∀ k b, isA gi (.int k) c = some b → PySem.W.kitOne K (.type "int") u = some b
  str : ∀ k b, isA gi (.str k) c = some b → PySem.W.kitOne K (.type "str") u = some b
  tup : ∀ k b, isA gi (.tup k) c = some b → PySem.W.kitOne K (.type "tuple") u = some b
  lst : ∀ o k b, isA gi (.lst o k) c = some b → PySem.W.kitOne K (.type "list") u = some b
  dct : ∀ o k m b, isA gi (.dct o k m) c = some b → PySem.W.kitOne K (.type "dict") u = some b
  ins : ∀ o C ks vs Ca b, g.toG.cls C = some Ca → isA gi (.ins o C ks vs) c = some b → PySem.W.kitOne K (.ref Ca) u = some b
  err : ∀ C ks vs Ca b, g.toG.ecl C = some Ca → isA gi (.err C ks vs) c = some b → PySem.W.kitOne K (.ref Ca) u = some b
inductive IsKs (g : GX) (X : Cx) (gi : GI) : List Expr → List Str → List V → List Value → Prop where
  | nil : IsKs g X gi [] [] [] []
  | cons {c : Str} {p : Pos} {v : V} {u : Value} {es : List Expr} {cs : List Str} {vs : List V} {us : List Value} (h : PE X (.Name c p) (tC v)) (k : ClsV v u) (i : IsK g X.K gi c u) (hs : starEach (.Name c p :: es) X.env = (false, eval (.Name c p) X.env) :: starEach es X.env) (t : IsKs g X gi es cs vs us) : IsKs g X gi (.Name c p :: es) (c :: cs) (v :: vs) (u :: us)

section
variable {X : Cx} {e ea eb ec : Expr} {g : GX} {W : WX} {F F' F1 F2 F3 : Addr → Prop} {H H' H1 H2 H3 : Hp} {fp fp' fp1 fp2 fp3 ft fu fq fr : List Addr} {t u z : T} {v x y : V} {σ : St} {E E' E1 E2 : Env} {r s : R} {Q : VK} {b b' b1 b2 q : Bool}
variable {ma mb mc : M R} {na nb nc : M Bool} {pos p p2 : Pos} {es : List Expr} {ei : T → T → Option Bool} {gi : GI}

theorem isk_rep (fit : Fits g X) (hcl : ∀ C Ca, g.toG.cls C = some Ca → ClsX X.K Ca) (hex : ∀ C Ca, g.toG.ecl C = some Ca → EcX X.K Ca) {c : Str} {cu : Value} {k : Bool} (i : IsK g X.K gi c cu) (rt : Rep g.toG F H t x ft) (e : isA gi t c = some k) :
    ∃ ty, TyE X.K H x ty ∧ PySem.W.kitOne X.K ty cu = some k ∧ ∀ c' k', IsK g X.K gi c' k' → ∀ b, isA gi t c' = some b → PySem.W.kitOne X.K ty k' = some b := by
  cases t with
  | pin v => exfalso; unfold isA at e; split at e <;> (try cases e)
  | hole => exfalso; unfold isA at e; split at e <;> (try cases e)
  | fn v => exfalso; unfold isA at e; split at e <;> (try cases e)
  | err C ks ts =>
    obtain ⟨a, Ca, d, vs, rfl, ec, r, l, nd, fa, ea, xd, _⟩ := rt
    refine ⟨.ref Ca, .exc ea (hex C Ca ec) (fun dd h => ?_), i.err _ _ _ _ _ ec e, fun c' k' i' b e' => i'.err _ _ _ _ _ ec e'⟩
    subst h
    exact ⟨_, xd⟩
  | non => obtain ⟨rfl, _⟩ := rt; exact ⟨_, .base (.base .non), i.non _ e, fun c' k' i' b e' => i'.non _ e'⟩
  | bl a => obtain ⟨rfl, _⟩ := rt; exact ⟨_, .base (.base (.bl _)), i.bl _ _ e, fun c' k' i' b e' => i'.bl _ _ e'⟩
  | int a => obtain ⟨rfl, _⟩ := rt; exact ⟨_, .base (.base (.int _)), i.int _ _ e, fun c' k' i' b e' => i'.int _ _ e'⟩
  | str a => obtain ⟨rfl, _⟩ := rt; exact ⟨_, .base (.base (.str _)), i.str _ _ e, fun c' k' i' b e' => i'.str _ _ e'⟩
  | tup xs =>
    obtain ⟨a, vs, rfl, sq, r, _⟩ := rt.tup_inv
    refine ⟨.type "tuple", ?_, i.tup _ _ e, fun c' k' i' b e' => i'.tup _ _ e'⟩
    rcases sq with (h | ⟨o, h⟩) | ⟨o, its, n, h1, h2, _⟩
    · exact .base (.base (.tup h))
    · exact .base (.fTuple h)
    · rw [fit.K] at h1; exact .base (.kTuple h1 h2)
  | lst o xs =>
    obtain ⟨a, vs, fs, rfl, sq, r, _⟩ := rt.lst_inv
    refine ⟨.type "list", ?_, i.lst _ _ _ e, fun c' k' i' b e' => i'.lst _ _ _ e'⟩
    rcases sq with (h | ⟨o, h⟩) | ⟨o, its, n, h1, h2, _⟩
    · exact .base (.base (.lst h))
    · exact .base (.base (.frz h))
    · rw [fit.K] at h1; exact .base (.kList h1 h2)
  | dct o ks ts =>
    obtain ⟨a, vs, fs, rfl, r, l, nd, hh⟩ := rt
    refine ⟨.type "dict", ?_, i.dct _ _ _ _ e, fun c' k' i' b e' => i'.dct _ _ _ _ e'⟩
    rcases hh with ⟨_, ew, _⟩ | ⟨_, ⟨ew, _⟩ | ew, _⟩
    · exact .base (.base (.dK ew))
    · exact .base (.base (.dK ew))
    · obtain ⟨⟨es, n, D⟩, _, _, _⟩ := fit.wd a _ ew
      exact .base (.kDict D.at_ rfl)
  | ins o C ks ts =>
    obtain ⟨a, Ca, dx, vs, fs, rfl, ec, r, l, nd, ew, _⟩ := rt
    have cx := hcl C Ca ec
    exact ⟨.ref Ca, .base (.base (.ins ew cx.cl cx.ha cx.hn cx.htk cx.hm)), i.ins _ _ _ _ _ _ ec e, fun c' k' i' b e' => i'.ins _ _ _ _ _ _ ec e'⟩
/-- isinstance(x, c) -/
theorem je_isi {c : Str} {pc : Pos} {cu : Value} (fit : Fits g X) (hcl : ∀ C Ca, g.toG.cls C = some Ca → ClsX X.K Ca) (hex : ∀ C Ca, g.toG.ecl C = some Ca → EcX X.K Ca) (hg : Gl X "isinstance") (hm : X.mg "isinstance" = none) (ha : JE X g W b ea ma) (hc : PE X (.Name c pc) (tC v)) (ck : ClsV v cu) (i : IsK g X.K gi c cu)
    (he : starEach [ea, .Name c pc] X.env = (false, eval ea X.env) :: starEach [.Name c pc] X.env) (he2 : starEach [.Name c pc] X.env = (false, eval (.Name c pc) X.env) :: starEach [] X.env) (hpl : (backTo pos (starEach [.Name c pc] X.env)).any (·.1) = false)
    (hv : bootBuiltins "isinstance" = some (.builtin "isinstance")) : JE X g W b (.Call (.Name "isinstance" p) [ea, .Name c pc] [] pos) (cIsA gi ma [c]) :=
  PE.imp (pe_callB call_isE1 hg hm hv (pa_cons ha (pa_cons hc pa_nil he2) he) (by decide) (by decide) he hpl) fun σ H Q h => by
    obtain ⟨F, E, fp, w, re, p⟩ := h
    refine seeT w re p fun x H1 F1 fp1 t f E1 a1 w1 re1 rt ex p1 => ?_
    obtain ⟨k, ek, p2⟩ := p1.bind.ofO
    have ek' : isA gi t c = some k := by
      unfold isAny at ek
      cases hk : isA gi t c with
      | none => simp [hk] at ek
      | some k' => cases k' <;> simp [hk, isAny] at ek <;> simp [ek]
    obtain ⟨ty, tx, ok, _⟩ := isk_rep fit hcl hex i rt ek'
    exact ⟨x, v, ty, cu, k, rfl, ck, tx, ok, p2.pure (.bl k) H1 F1 [] fp1 a1 w1 re1 ⟨rfl, rfl⟩ ex⟩
theorem iskAny (rt : Rep g.toG F H t x ft) {ty : Value} (k : ∀ c' k', IsK g X.K gi c' k' → ∀ b, isA gi t c' = some b → PySem.W.kitOne X.K ty k' = some b) : ∀ {es : List Expr} {cs : List Str} {vs : List V} {us : List Value} {b : Bool}, IsKs g X gi es cs vs us → isAny gi t cs = some b → PySem.W.kitAny X.K ty us = some b
  | _, _, _, _, b, .nil, e => e
  | _, _, _, _, b, .cons (c := c) (u := u) _ _ i _ tl, e => by
    unfold isAny at e
    unfold PySem.W.kitAny
    cases h : isA gi t c with
    | none => simp [h] at e
    | some k' =>
      rw [k c u i k' h]
      cases k' with
      | true => simpa [h] using e
      | false => exact iskAny rt k tl (by simpa [h] using e)
def tVs (vs : List V) : TA := fun _ H Q => Q vs H
theorem isks_pa : ∀ {es : List Expr} {cs : List Str} {vs : List V} {us : List Value}, IsKs g X gi es cs vs us → PA X es (tVs vs)
  | _, _, _, _, .nil => pa_nil
  | _, _, _, _, .cons h _ _ hs tl => PA.imp (pa_cons h (isks_pa tl) hs) fun _ _ _ q => q
theorem isks_cls : ∀ {es : List Expr} {cs : List Str} {vs : List V} {us : List Value}, IsKs g X gi es cs vs us → Paired ClsV vs us
  | _, _, _, _, .nil => .nil
  | _, _, _, _, .cons _ k _ _ tl => .cons k (isks_cls tl)
theorem isks_len : ∀ {es : List Expr} {cs : List Str} {vs : List V} {us : List Value}, IsKs g X gi es cs vs us → vs.length = es.length
  | _, _, _, _, .nil => rfl
  | _, _, _, _, .cons _ _ _ _ tl => by simp [isks_len tl]
/-- isinstance(x, (c, ..)) -/
theorem je_isiT {c : Str} {cs : List Str} {vs : List V} {us : List Value} {x1 : Nat} {pt : Pos} {cu : Value} (fit : Fits g X) (hcl : ∀ C Ca, g.toG.cls C = some Ca → ClsX X.K Ca) (hex : ∀ C Ca, g.toG.ecl C = some Ca → EcX X.K Ca) (hg : Gl X "isinstance") (hm : X.mg "isinstance" = none) (ha : JE X g W b ea ma) (ks : IsKs g X gi es (c :: cs) vs us)
    (hl : es.length ≤ 1000) (he : starEach [ea, .Tuple es x1 pt] X.env = (false, eval ea X.env) :: starEach [.Tuple es x1 pt] X.env) (he2 : starEach [.Tuple es x1 pt] X.env = (false, eval (.Tuple es x1 pt) X.env) :: starEach [] X.env) (hpl : (backTo pos (starEach [.Tuple es x1 pt] X.env)).any (·.1) = false)
    (hv : bootBuiltins "isinstance" = some (.builtin "isinstance")) : JE X g W b (.Call (.Name "isinstance" p) [ea, .Tuple es x1 pt] [] pos) (cIsA gi ma (c :: cs)) :=
  PE.imp (pe_callB call_isET hg hm hv (pa_cons ha (pa_cons (pe_tup (isks_pa ks)) pa_nil he2) he) (by decide) (by decide) he hpl) fun σ H Q h => by
    obtain ⟨F, E, fp, w, re, p⟩ := h
    refine seeT w re p fun x H1 F1 fp1 t f E1 a1 w1 re1 rt ex p1 => ?_
    obtain ⟨k, ek, p2⟩ := p1.bind.ofO
    refine ⟨by rw [isks_len ks, sizeLine_eq]; omega, fun a ha => ?_⟩
    have ex2 := ext_new (o := .tup vs) ha
    have a2 : Aft F F1 H (upd H1 a (.tup vs)) fp fp1 := a1.trans (ext_aft ex2)
    have hk : ∃ k', isA gi t c = some k' := by
      unfold isAny at ek
      cases hk : isA gi t c with
      | none => simp [hk] at ek
      | some k' => exact ⟨k', rfl⟩
    obtain ⟨k', hk'⟩ := hk
    have rt2 : Rep g.toG F1 (upd H1 a (.tup vs)) t x f := Rep.stay t rt (stay_ext ex2)
    have i0 : ∃ u0, IsK g X.K gi c u0 := by
      cases ks with
      | cons _ _ i _ _ => exact ⟨_, i⟩
    obtain ⟨u0, i0⟩ := i0
    obtain ⟨ty, tx, _, all⟩ := isk_rep fit hcl hex i0 rt2 hk'
    exact ⟨x, a, vs, ty, us, k, rfl, upd_same, isks_cls ks, tx, iskAny rt2 all ks ek, p2.pure (.bl k) _ F1 [] fp1 a2 (w1.ext ex2) (re1.stay (stay_ext ex2)) ⟨rfl, rfl⟩ fun hb c o e => ex2 c o (ex hb c o e)⟩
end
end PV

/-! V14: what is walked -/
namespace PV
open PySem L2

/-- what a value yields, by values -/
def PIv (X : Cx) (tg : Expr) (r : V → Hp → (It → Hp → Prop) → Prop) : Prop :=
  ∀ (pins : List (Addr × Obj)) (s : Shared) (σ : St) (H : Hp) (x : V) (v : Value) (R : It → Hp → Prop), Inv X pins σ H s → RelV x v → r x H R → wpAny (model X.prog X.w) X.A (pyIter v) (PIE X pins σ tg R) X.xe s
theorem PIv.or {X : Cx} {tg : Expr} {r r' : V → Hp → (It → Hp → Prop) → Prop} (h : PIv X tg r) (h' : PIv X tg r') : PIv X tg (fun x H R => r x H R ∨ r' x H R) := by
  intro pins s σ H x v R I rx q
  rcases q with q | q
  · exact h pins s σ H x v R I rx q
  · exact h' pins s σ H x v R I rx q
theorem pi_v {X : Cx} {tg e : Expr} {te : TE} {r : V → Hp → (It → Hp → Prop) → Prop} (he : PE X e te) (k : PIv X tg r) : PI X tg e (fun σ H R => te σ H fun x H1 => r x H1 R) :=
  ⟨fun pins s σ H R I h => thn (he.run pins s σ H _ I h) fun v s1 ⟨x, H1, I1, r1, q1⟩ => k pins s1 σ H1 x v R I1 r1 q1⟩
theorem PI.imp {X : Cx} {tg e : Expr} {t t' : TI} (h : PI X tg e t) (k : ∀ σ H Q, t' σ H Q → t σ H Q) : PI X tg e t' := ⟨fun pins s σ H Q I q => h.run pins s σ H Q I (k σ H Q q)⟩

def rItL (K : PySem.W.Frag) : V → Hp → (It → Hp → Prop) → Prop := fun x H R => ∃ a xs, x = .ref a ∧ SqL K H a xs ∧ (xs.length ≤ sizeLine → R (Itl K a) H)
def rItT (K : PySem.W.Frag) : V → Hp → (It → Hp → Prop) → Prop := fun x H R => ∃ a xs, x = .ref a ∧ SqT K H a xs ∧ (xs.length ≤ sizeLine → R (Itt K a) H)
def rItS : V → Hp → (It → Hp → Prop) → Prop := fun x H R => ∃ z, x = .str z ∧ R (Its z) H
theorem piv_list {X : Cx} {tg : Expr} : PIv X tg (rItL X.K) := by
  intro pins s1 σ H1 x v R I1 r1 q1
  obtain ⟨a, xs, e, hq, q⟩ := q1
  subst e
  cases r1
  obtain ⟨its, rv, p, hz⟩ := I1.list hq
  refine wpAny_pyIter_list p.isList ?_
  refine ⟨s1.heap.objs.size, [s1.heap.objs.size], _, _, H1, rfl, I1.kept (t' := s1.toks) fun b o e => Heap.get?_push_of_some _ e, turn_list a _, ⟨_, Heap.get?_push_size _ rfl, rfl, rfl⟩, fun b hb => ?_, q hz⟩
  have e : b = s1.heap.objs.size := by simpa using hb
  subst e
  exact I1.fpOk (Nat.le_refl _) (I1.hok.fresh (Nat.le_refl _))
theorem piv_tup {X : Cx} {tg : Expr} : PIv X tg (rItT X.K) := by
  intro pins s1 σ H1 x v R I1 r1 q1
  obtain ⟨a, xs, e, hq, q⟩ := q1
  subst e
  cases r1
  obtain ⟨its, rv, p, hz⟩ := I1.tuple hq
  refine wpAny_pyIter_tuple (show s1.heap.IsTuple a its.toArray from p) ?_
  refine ⟨s1.heap.objs.size, [s1.heap.objs.size], _, _, H1, rfl, I1.kept (t' := s1.toks) fun b o e => Heap.get?_push_of_some _ e, turn_tuple a _, ⟨_, Heap.get?_push_size _ rfl, rfl, rfl⟩, fun b hb => ?_, q hz⟩
  have e : b = s1.heap.objs.size := by simpa using hb
  subst e
  exact I1.fpOk (Nat.le_refl _) (I1.hok.fresh (Nat.le_refl _))
theorem piv_str {X : Cx} {tg : Expr} : PIv X tg rItS := by
  intro pins s1 σ H1 y v R I1 r1 q1
  obtain ⟨x, ex, q⟩ := q1
  subst ex
  obtain ⟨t, rfl⟩ := r1
  cases ha : x.cps.all (· < 128)
  · exact wpAny_pyIter_wide ha (pi_one (tk := s1.toks) I1 _ (turn_str _ x t "str_iterator" (.inr rfl)) ⟨_, Heap.get?_push_size _ rfl, rfl, rfl⟩ q)
  · exact wpAny_pyIter_ascii ha (pi_one (tk := s1.toks) I1 _ (turn_str _ x t "str_ascii_iterator" (.inl rfl)) ⟨_, Heap.get?_push_size _ rfl, rfl, rfl⟩ q)

/-- an iterator walks the trees xs, as long as S holds -/
structure Walk (g : G) (J : It) (xs : List T) (S : (Addr → Prop) → Hp → Prop) : Prop where
  go : ∀ F H i, S F H → i < xs.length → J.go i H
  yld : ∀ F H i x H' t, S F H → xs[i]? = some t → J.yld i H x H' → Ext H H' ∧ Rep g F H' t x []
  stop : ∀ F H i, S F H → xs.length ≤ i → J.stop i H
/-- .. as long as what is shared stays -/
abbrev WalkS (g : G) (J : It) (xs : List T) (F : Addr → Prop) (H : Hp) : Prop := Walk g J xs fun F' H' => Stay F F' H H' ([] : List Addr)
def tIt (g : GX) (W : WX) (it : M (List T)) : TI := fun σ H R => ∃ F E fp, Wf F H fp ∧ RepE g.toG F H E σ fp ∧
  Post (it E) (fun xs E' => ∀ J H' F' fp', Aft F F' H H' fp fp' → Wf F' H' fp' → RepE g.toG F' H' E' σ fp' → WalkS g.toG J xs F' H' → xs.length ≤ sizeLine → R J H') (xP g W σ F H fp)
abbrev JIt (X : Cx) (g : GX) (W : WX) (tg e : Expr) (it : M (List T)) : Prop := PI X tg e (tIt g W it)

section
variable {X : Cx} {e ea eb ec tg : Expr} {g : GX} {W : WX} {F F' F1 F2 F3 : Addr → Prop} {H H' H1 H2 H3 : Hp} {fp fp' fp1 fp2 fp3 ft fu fq fr : List Addr} {t u z : T} {v x y : V} {σ : St} {E E' E1 E2 : Env} {r s : R} {Q : VK} {b b' b1 b2 q : Bool}
variable {ma mb mc : M R} {na nb nc : M Bool} {pos p p2 : Pos} {es : List Expr} {ei : T → T → Option Bool} {gi : GI}

theorem RepL.nth0 {ts : List T} {vs : List V} {i : Nat} {w : V} (h : RepL g.toG F H ts vs []) (e : ts[i]? = some t) (e2 : vs[i]? = some w) : Rep g.toG F H t w [] := by
  obtain ⟨w', f, rest, e1, r, p, _⟩ := h.nth e
  rw [e2] at e1
  cases e1
  obtain ⟨rfl, _⟩ := List.append_eq_nil_iff.mp p.nil_eq.symm
  exact r
theorem walk_list {a : Addr} {ts : List T} {vs : List V} (l : LstF g.toG.K F H a vs) (r : RepL g.toG F H ts vs []) : WalkS g.toG (Itl g.toG.K a) ts F H := by
  have sq : ∀ F' H', Stay F F' H H' ([] : List Addr) → SqL g.toG.K H' a vs := fun F' H' s => (lstF_stay s l).sq
  refine ⟨fun F' H' i s hi => ⟨vs, vs[i]'(by rw [← r.length]; exact hi), sq F' H' s, by simp⟩, fun F' H' i x H2 t s e y => ?_, fun F' H' i s hi => ⟨vs, sq F' H' s, by rw [← r.length]; exact hi⟩⟩
  obtain ⟨rfl, y⟩ := y
  exact ⟨fun _ _ h => h, (RepL.stay ts r s).nth0 e (y vs (sq F' _ s))⟩
theorem walk_tup {a : Addr} {ts : List T} {vs : List V} (l : SqT g.toG.K H a vs) (r : RepL g.toG F H ts vs []) : WalkS g.toG (Itt g.toG.K a) ts F H := by
  have sq : ∀ F' H', Stay F F' H H' ([] : List Addr) → SqT g.toG.K H' a vs := fun F' H' s => sqT_stay s l
  refine ⟨fun F' H' i s hi => ⟨vs, vs[i]'(by rw [← r.length]; exact hi), sq F' H' s, by simp⟩, fun F' H' i x H2 t s e y => ?_, fun F' H' i s hi => ⟨vs, sq F' H' s, by rw [← r.length]; exact hi⟩⟩
  obtain ⟨rfl, y⟩ := y
  exact ⟨fun _ _ h => h, (RepL.stay ts r s).nth0 e (y vs (sq F' _ s))⟩
theorem walk_str {z : Str} : WalkS g.toG (Its z) (z.cps.toList.map chr1) F H := by
  have hl : (z.cps.toList.map chr1).length = z.cps.size := by rw [List.length_map, Array.length_toList]
  refine ⟨fun F' H' i s hi => by show i < z.cps.size; omega, fun F' H' i x H2 t s e y => ?_, fun F' H' i s hi => by show z.cps.size ≤ i; omega⟩
  obtain ⟨rfl, c, hc, rfl⟩ := y
  refine ⟨fun _ _ h => h, ?_⟩
  rw [List.getElem?_map, Array.getElem?_toList, hc] at e
  cases e
  exact ⟨rfl, rfl⟩
theorem walk_rng {lo : Int} {n : Nat} : WalkS g.toG (Itr lo n) ((List.range n).map fun i => .int (lo + (i : Nat))) F H := by
  have hl : ((List.range n).map fun i : Nat => T.int (lo + (i : Nat))).length = n := by rw [List.length_map, List.length_range]
  refine ⟨fun F' H' i s hi => by show i < n; omega, fun F' H' i x H2 t s e y => ?_, fun F' H' i s hi => by show n ≤ i; omega⟩
  obtain ⟨rfl, rfl⟩ := y
  refine ⟨fun _ _ h => h, ?_⟩
  rw [List.getElem?_map] at e
  cases hr : (List.range n)[i]? with
  | none => rw [hr] at e; cases e
  | some j =>
    rw [hr] at e
    cases e
    obtain ⟨h1, h2⟩ := List.getElem?_eq_some_iff.mp hr
    rw [List.getElem_range] at h2
    subst h2
    exact ⟨rfl, rfl⟩
/-- a value, walked: a list, a tuple, a str -/
def rIt (K : PySem.W.Frag) : V → Hp → (It → Hp → Prop) → Prop := fun x H R => rItL K x H R ∨ rItT K x H R ∨ rItS x H R
theorem piv_any : PIv X tg (rIt X.K) := piv_list.or (piv_tup.or piv_str)
theorem it_rep (fit : Fits g X) {xs : List T} {R : It → Hp → Prop} (rt : Rep g.toG F H t x []) (e : itemsI t = some xs) (hp : T.pureL xs = true) (k : ∀ J, WalkS g.toG J xs F H → xs.length ≤ sizeLine → R J H) : rIt X.K x H R := by
  cases t with
  | lst o ts =>
    cases e
    obtain ⟨a, vs, fs, rfl, r, ⟨_, _, h⟩ | ⟨rfl, q, rfl, _⟩⟩ := rt
    · cases h
    · exact .inl ⟨a, vs, rfl, fit.K ▸ q.sq, fun hl => fit.K ▸ k _ (walk_list q r) (by rw [r.length]; exact hl)⟩
  | tup ts =>
    cases e
    obtain ⟨a, vs, rfl, sq, r, _⟩ := rt.tup_inv
    exact .inr (.inl ⟨a, vs, rfl, fit.K ▸ sq, fun hl => fit.K ▸ k _ (walk_tup sq r) (by rw [r.length]; exact hl)⟩)
  | str z =>
    simp only [itemsI] at e
    split at e
    · rename_i hl
      cases e
      exact .inr (.inr ⟨z, rt.str_inv, k _ walk_str (by rw [List.length_map, Array.length_toList]; exact le_line hl)⟩)
    · cases e
  | _ => cases e
theorem jit_of (fit : Fits g X) (ha : JE X g W b e ma) : JIt X g W tg e (iOf ma) :=
  PI.imp (pi_v ha piv_any) fun σ H R h => by
    obtain ⟨F, E, fp, w, re, p⟩ := h
    refine see w re p fun x H1 F1 fr fp1 r E1 a1 w1 re1 rr ex p1 => ?_
    cases r with
    | plc i q => exact p1.elim
    | val t =>
      obtain ⟨xs, exs, p2⟩ := p1.bind.ofO
      obtain ⟨hp, p3⟩ := p2.bind.guard
      have rr' : Rep g.toG F1 H1 t x fr := rr
      obtain ⟨w2, a2⟩ := shared w1 rr.own
      exact it_rep fit (Rep.fz rr') exs hp fun J wk hl => p3.pure J H1 _ fp1 (a1.trans a2) w2 (re1.stay stay_shared) wk hl
theorem jit_rng1 (hg : Gl X "range") (hm : X.mg "range" = none) (ha : JE X g W b ea ma) (hs : starEach [ea] X.env = (false, eval ea X.env) :: starEach [] X.env) (hs' : starEach [ea] X.env = [(false, eval ea X.env)]) : JIt X g W tg (.Call (.Name "range" p) [ea] [] pos) (iRng1 ma) :=
  PI.imp (pi_range1 hg hm (pa_cons ha pa_nil hs) hs') fun σ H R h => by
    obtain ⟨F, E, fp, w, re, p⟩ := h
    refine see w re p fun x H1 F1 fr fp1 r E1 a1 w1 re1 rr ex p1 => ?_
    cases r with
    | plc i q => exact p1.elim
    | val t =>
      cases t with
      | int j =>
        obtain ⟨rfl, rfl⟩ : x = .int j ∧ fr = [] := rr
        obtain ⟨hb, p2⟩ := p1.bind.guard
        simp only [small62, Bool.and_eq_true, decide_eq_true_eq] at hb
        have e2 : rng 0 j = (List.range j.toNat).map fun i => .int (0 + (i : Nat)) := by unfold rng; rw [Int.sub_zero]
        refine ⟨j, rfl, hb.1.1, hb.1.2, p2.pure _ H1 F1 fp1 a1 w1 re1 (e2 ▸ walk_rng) ?_⟩
        rw [e2, List.length_map, List.length_range]
        exact le_line (by have := hb.2; unfold lim at this ⊢; omega)
      | _ => exact p1.elim
theorem jit_rng2 (hg : Gl X "range") (hm : X.mg "range" = none) (ha : JE X g W b ea ma) (hb : JE X g W q eb mb) (hs1 : starEach [ea, eb] X.env = (false, eval ea X.env) :: starEach [eb] X.env) (hs2 : starEach [eb] X.env = (false, eval eb X.env) :: starEach [] X.env) (hs : starEach [ea, eb] X.env = [(false, eval ea X.env), (false, eval eb X.env)]) (hs' : starEach [eb] X.env = [(false, eval eb X.env)]) : JIt X g W tg (.Call (.Name "range" p) [ea, eb] [] pos) (iRng ma mb) :=
  PI.imp (pi_range2 hg hm (pa_cons ha (pa_cons hb pa_nil hs2) hs1) hs hs') fun σ H R h => by
    obtain ⟨F, E, fp, w, re, p⟩ := h
    refine see w re p fun x H1 F1 fr fp1 r E1 a1 w1 re1 rr ex p1 => ?_
    have p2 := p1.bind
    refine ⟨F1, E1, fp1, w1.right, re1, p2.imp (fun s E2 p3 => ?_) fun _ _ h => h.later (a1.sub fun a ha => List.mem_append_right _ ha)⟩
    intro y H2 F2 fs fp2 a2 w2 re2 rr2 ex2
    cases r with
    | plc i q => exact p3.elim
    | val t =>
      cases t with
      | int i =>
        obtain ⟨rfl, rfl⟩ : x = .int i ∧ fr = [] := rr
        cases s with
        | plc i q => exact p3.elim
        | val u =>
          cases u with
          | int j =>
            obtain ⟨rfl, rfl⟩ : y = .int j ∧ fs = [] := rr2
            obtain ⟨hb, p4⟩ := p3.bind.guard
            simp only [small62, Bool.and_eq_true, decide_eq_true_eq] at hb
            refine ⟨i, j, rfl, ⟨hb.1.1.1, hb.1.1.2, hb.1.2.1, hb.1.2.2⟩, p4.pure _ H2 F2 fp2 (a1.trans a2) w2 re2 walk_rng ?_⟩
            show (rng i j).length ≤ sizeLine
            unfold rng
            rw [List.length_map, List.length_range]
            exact le_line (by have := hb.2; unfold lim at this ⊢; omega)
          | _ => exact p3.elim
      | _ => exact p3.elim
end
end PV

/-! V15: targets -/
namespace PV
open PySem L2

/-- what is wanted where an exception leaves a statement -/
def sP (g : GX) (W : WX) (S : St → Prop) (F : Addr → Prop) (H : Hp) (fp : List Addr) (x : T) (E' : Env) : Prop :=
  ∀ cls d σ' H' F' fp', S σ' → Aft F F' H H' fp fp' → Wf F' H' fp' → RepE g.toG F' H' E' σ' fp' → g.err x cls d F' H' → W cls d σ' H'
theorem sP.later {g : GX} {W : WX} {S S' : St → Prop} {F F' : Addr → Prop} {H H' : Hp} {fp fp' : List Addr} {x : T} {E' : Env} (h : sP g W S F H fp x E') (y : Aft F F' H H' fp fp') (k : ∀ σ, S' σ → S σ) : sP g W S' F' H' fp' x E' :=
  fun cls d σ H2 F2 fp2 s z w r e => h cls d σ H2 F2 fp2 (k σ s) (y.trans z) w r e
theorem sP.x {g : GX} {W : WX} {S : St → Prop} {F : Addr → Prop} {H : Hp} {fp : List Addr} {x : T} {E' : Env} {σ : St} (h : sP g W S F H fp x E') (s : S σ) : xP g W σ F H fp x E' :=
  fun cls d H2 F2 fp2 z w r e => h cls d σ H2 F2 fp2 s z w r e
/-- outside the slots ts nothing is stored -/
def Same (ts : List Nat) (σ σ' : St) : Prop := σ'.length = σ.length ∧ ∀ i, i ∉ ts → σ'[i]? = σ[i]?
theorem Same.refl {ts : List Nat} {σ : St} : Same ts σ σ := ⟨rfl, fun _ _ => rfl⟩
theorem Same.trans {ts ts' : List Nat} {σ σ1 σ2 : St} (a : Same ts σ σ1) (b : Same ts' σ1 σ2) : Same (ts ++ ts') σ σ2 :=
  ⟨b.1.trans a.1, fun i h => (b.2 i fun z => h (List.mem_append_right _ z)).trans (a.2 i fun z => h (List.mem_append_left _ z))⟩
theorem Same.weak {ts ts' : List Nat} {σ σ1 : St} (a : Same ts σ σ1) : Same (ts ++ ts') σ σ1 := ⟨a.1, fun i h => a.2 i fun z => h (List.mem_append_left _ z)⟩
/-- the slots pm are as they were -/
def Prot (pm : List Nat) (σ σ' : St) : Prop := σ'.length = σ.length ∧ ∀ i ∈ pm, σ'[i]? = σ[i]?
theorem Prot.refl {pm : List Nat} {σ : St} : Prot pm σ σ := ⟨rfl, fun _ _ => rfl⟩
theorem Prot.trans {pm : List Nat} {σ σ1 σ2 : St} (a : Prot pm σ σ1) (b : Prot pm σ1 σ2) : Prot pm σ σ2 := ⟨b.1.trans a.1, fun i h => (b.2 i h).trans (a.2 i h)⟩
theorem Same.prot {ts pm : List Nat} {σ σ1 : St} (a : Same ts σ σ1) (h : (pm.all fun i => !ts.contains i) = true) : Prot pm σ σ1 := ⟨a.1, fun i hi => a.2 i fun z => by
  have := List.all_eq_true.mp h i hi
  simp at this
  exact this z⟩
def tG (g : GX) (W : WX) (ts : List Nat) (m : T → M Unit) : TG := fun x σ H K => ∃ F E fp ft t, Wf F H (ft ++ fp) ∧ RepE g.toG F H E σ fp ∧ Rep g.toG F H t x ft ∧
  Post (m t E) (fun _ E' => ∀ σ' H' F' fp', Aft F F' H H' (ft ++ fp) fp' → Wf F' H' fp' → RepE g.toG F' H' E' σ' fp' → Same ts σ σ' → K σ' H') (sP g W (Same ts σ) F H (ft ++ fp))
def tGs (g : GX) (W : WX) (ts : List Nat) (m : List T → M Unit) : TGs := fun xs σ H K => ∃ F E fp ft us, Wf F H (ft ++ fp) ∧ RepE g.toG F H E σ fp ∧ RepL g.toG F H us xs ft ∧
  Post (m us E) (fun _ E' => ∀ σ' H' F' fp', Aft F F' H H' (ft ++ fp) fp' → Wf F' H' fp' → RepE g.toG F' H' E' σ' fp' → Same ts σ σ' → K σ' H') (sP g W (Same ts σ) F H (ft ++ fp))
abbrev JG (X : Cx) (g : GX) (W : WX) (ts : List Nat) (tg : Expr) (m : T → M Unit) : Prop := PG X tg (tG g W ts m)
abbrev JGs (X : Cx) (g : GX) (W : WX) (ts : List Nat) (tgs : List Expr) (m : List T → M Unit) : Prop := PGs X tgs (tGs g W ts m)
theorem PG.imp {X : Cx} {e : Expr} {t t' : TG} (h : PG X e t) (k : ∀ x σ H Q, t' x σ H Q → t x σ H Q) : PG X e t' := ⟨fun pins s σ H v u Q I r q => h.run pins s σ H v u Q I r (k v σ H Q q)⟩
theorem PGs.imp {X : Cx} {e : List Expr} {t t' : TGs} (h : PGs X e t) (k : ∀ x σ H Q, t' x σ H Q → t x σ H Q) : PGs X e t' := ⟨fun pins s σ H v u Q I r q => h.run pins s σ H v u Q I r (k v σ H Q q)⟩
theorem PG.or {X : Cx} {e : Expr} {t t' : TG} (h : PG X e t) (h' : PG X e t') : PG X e (fun x σ H Q => t x σ H Q ∨ t' x σ H Q) :=
  ⟨fun pins s σ H v u Q I r q => q.elim (h.run pins s σ H v u Q I r) (h'.run pins s σ H v u Q I r)⟩

section
variable {X : Cx} {e ea eb ec tg o k0 : Expr} {g : GX} {W : WX} {F F' F1 F2 F3 : Addr → Prop} {H H' H1 H2 H3 : Hp} {fp fp' fp1 fp2 fp3 ft fu fq fr fs rest : List Addr} {t u z : T} {v x y : V} {σ σ' : St} {E E' E1 E2 : Env} {r s : R} {Q : VK} {b b' b1 b2 q : Bool}
variable {ma mb mc : M R} {na nb nc : M Bool} {pos p p2 : Pos} {es : List Expr} {ei : T → T → Option Bool} {gi : GI} {ts ts' : List Nat}

theorem Wf.sub (w : Wf F H fp) (h : fp.Perm (fp' ++ rest)) : Wf F H fp' := (w.perm h).left
theorem Aft.here : (∀ a ∈ fp', a ∈ fp) → Aft F F H H fp fp' := fun h => ⟨fun _ h => h, fun _ h => .inl h, fun _ _ e _ => e, fun a ha => .inl (h a ha), fun _ _ e _ => e⟩
theorem mem_of_perm {a : Addr} {l l' : List Addr} (p : l.Perm l') (h : a ∈ l') : a ∈ l := p.mem_iff.mpr h
/-- shared from now on, some of it -/
theorem shareSome (w : Wf F H fp) (own : ∀ a ∈ fp, ∃ o, H a = some o) (pm : fp.Perm (fs ++ fp')) :
    Wf (fun a => F a ∨ a ∈ fs) H fp' ∧ Aft F (fun a => F a ∨ a ∈ fs) H H fp fp' := by
  have w' := w.perm pm
  refine ⟨⟨w'.right.nd, fun a ha q => ?_, fun a ha => ?_⟩, ⟨fun a h => .inl h, fun a h => h.imp id fun z => .inl (mem_of_perm pm (List.mem_append_left _ z)), fun a o e _ => e, fun a h => .inl (mem_of_perm pm (List.mem_append_right _ h)), fun a o e _ => e⟩⟩
  · rcases q with q | q
    · exact w'.dj a (List.mem_append_right _ ha) q
    · exact w'.apart q ha
  · rcases ha with ha | ha
    · exact w.dom a ha
    · exact own a (mem_of_perm pm (List.mem_append_left _ ha))
/-- kept as a mode says -/
theorem fix_rep (md : Md) (r : Rep g.toG F H t x ft) : ∃ f fz, ft.Perm (fz ++ f) ∧ Rep g.toG (fun a => F a ∨ a ∈ fz) H (md.fix t) x f := by
  cases md with
  | sh => exact ⟨[], ft, by simp, Rep.fz r⟩
  | dp => exact ⟨ft, [], by simp, Rep.stay t r ⟨fun _ h => .inl h, fun _ _ e _ => e⟩⟩
  | own =>
    have dflt : ∃ f fz, ft.Perm (fz ++ f) ∧ Rep g.toG (fun a => F a ∨ a ∈ fz) H t.fz x f := ⟨[], ft, by simp, Rep.fz r⟩
    cases t with
    | lst o xs =>
      obtain ⟨a, vs, fs, rfl, r1, hh⟩ := r
      have in_ : ∃ f fz, fs.Perm (fz ++ f) ∧ f = [] ∧ RepL g.toG (fun a => F a ∨ a ∈ fz) H (if T.pureL xs = true then xs else T.frzL xs) vs f := by
        by_cases hp : T.pureL xs = true
        · rw [if_pos hp]
          have := RepL.pure xs r1 hp
          subst this
          exact ⟨[], [], by simp, rfl, RepL.stay xs r1 ⟨fun _ h => .inl h, fun _ _ e _ => e⟩⟩
        · rw [if_neg hp]
          exact ⟨[], fs, by simp, rfl, RepL.frz xs r1 fun a h => h⟩
      obtain ⟨f, fz, pm, rfl, r2⟩ := in_
      have l2 := r2.length
      rcases hh with ⟨rfl, e, rfl⟩ | ⟨rfl, q, rfl, rfl⟩
      · exact ⟨[a], fz, prm fun c => by have := prm_of pm c; simp only [List.count_append, List.count_cons, List.count_nil] at *; omega, a, vs, [], rfl, r2, .inl ⟨rfl, e, rfl⟩⟩
      · exact ⟨[], fz, pm, a, vs, [], rfl, r2, .inr ⟨rfl, lstF_stay (fp := []) ⟨fun _ h => .inl h, fun _ _ e _ => e⟩ q, rfl, rfl⟩⟩
    | dct o ks xs =>
      obtain ⟨a, vs, fs, rfl, r1, l, nd, hh⟩ := r
      have in_ : ∃ f fz, fs.Perm (fz ++ f) ∧ f = [] ∧ RepL g.toG (fun a => F a ∨ a ∈ fz) H (if T.pureL xs = true then xs else T.frzL xs) vs f := by
        by_cases hp : T.pureL xs = true
        · rw [if_pos hp]
          have := RepL.pure xs r1 hp
          subst this
          exact ⟨[], [], by simp, rfl, RepL.stay xs r1 ⟨fun _ h => .inl h, fun _ _ e _ => e⟩⟩
        · rw [if_neg hp]
          exact ⟨[], fs, by simp, rfl, RepL.frz xs r1 fun a h => h⟩
      obtain ⟨f, fz, pm, rfl, r2⟩ := in_
      rcases hh with ⟨rfl, e, rfl⟩ | ⟨rfl, q, rfl, rfl⟩
      · exact ⟨[a], fz, prm fun c => by have := prm_of pm c; simp only [List.count_append, List.count_cons, List.count_nil] at *; omega, a, vs, [], rfl, r2, l, nd, .inl ⟨rfl, e, rfl⟩⟩
      · exact ⟨[], fz, pm, a, vs, [], rfl, r2, l, nd, .inr ⟨rfl, q.imp (fun h => ⟨h.1, .inl h.2⟩) id, rfl, rfl⟩⟩
    | ins o C ks xs => exact ⟨ft, [], by simp, Rep.stay _ r ⟨fun _ h => .inl h, fun _ _ e _ => e⟩⟩
    | pin v => exact dflt
    | hole => exact dflt
    | non => exact dflt
    | bl _ => exact dflt
    | int _ => exact dflt
    | str _ => exact dflt
    | fn _ => exact dflt
    | tup _ => exact dflt
    | err _ _ _ => exact dflt
theorem set_same {i : Nat} {o : Option V} (h : i ∈ ts) : Same ts σ (σ.set i o) := ⟨List.length_set, fun j hj => List.getElem?_set_ne fun (e : i = j) => hj (by rw [← e]; exact h)⟩
/-- a name -/
theorem gname_red {i : Nat} {md : Md} {K : St → Hp → Prop} (h : tG g W [i] (gSlot md i) x σ H K) : L2.gName i x σ H K := by
    obtain ⟨F, E, fp, ft, t, w, re, rt, p⟩ := h
    unfold gSlot at p
    cases he : E[i]? with
    | none => rw [he] at p; exact p.elim
    | some old =>
      rw [he] at p
      dsimp only at p
      · obtain ⟨wd, fo, rest, e1, ro, pm, k⟩ := re.nth he
        obtain ⟨f, fz, pm2, r2⟩ := fix_rep md rt
        obtain ⟨fp', pm3, re'⟩ := k (fun a => F a ∨ a ∈ fz) H (md.fix t) (some x) f ⟨fun _ h => .inl h, fun _ _ e _ => e⟩ (.of rfl r2)
        have pm4 : (ft ++ fp).Perm (fz ++ (fp' ++ fo)) := prm fun a => by
          have h1 := prm_of pm a
          have h2 := prm_of pm2 a
          have h3 := prm_of pm3 a
          simp only [List.count_append] at *
          omega
        have own : ∀ a ∈ ft ++ fp, ∃ o, H a = some o := fun a ha => by
          rcases List.mem_append.mp ha with ha | ha
          · obtain ⟨o, e, _⟩ := Rep.own t rt a ha; exact ⟨o, e⟩
          · exact own_of re a ha
        obtain ⟨w2, a2⟩ := shareSome w own pm4
        exact p (σ.set i (some x)) H _ fp' (a2.sub fun a ha => List.mem_append_left _ ha) w2.left re' (set_same (by simp))
theorem jg_name {i : Nat} {n : Str} {md : Md} (hN : X.N.Nodup) (hi : X.N[i]? = some n) (hx : Loc X.env.scope n) (hf : X.fn n = true ∨ X.env.scope.names.lookup n = some .local) : JG X g W [i] (.Name n pos) (gSlot md i) :=
  PG.imp (pg_name hN hi hx hf) fun x σ H K h => gname_red h
/-! ### several -/
theorem jgs_nil : JGs X g W ts [] PV.gNil := PGs.imp pgs_nil fun xs σ H K h => by
  obtain ⟨F, E, fp, ft, us, w, re, rt, p⟩ := h
  cases us with
  | cons u us => exact p.elim
  | nil =>
    obtain ⟨rfl, rfl⟩ := rt
    exact ⟨rfl, p σ H F fp Aft.refl w re Same.refl⟩
theorem gcons_red {m : T → M Unit} {ms : List T → M Unit} {xs : List V} {K : St → Hp → Prop} (h : tGs g W (ts ++ ts') (PV.gCons m ms) xs σ H K) : L2.gCons (tG g W ts m) (tGs g W ts' ms) xs σ H K := by
  obtain ⟨F, E, fp, ft, us, w, re, rt, p⟩ := h
  cases us with
  | nil => exact p.elim
  | cons u us =>
    obtain ⟨v, vs, f1, f2, rfl, rfl, r1, r2⟩ := rt
    have w2 : Wf F H (f2 ++ (f1 ++ fp)) := w.perm (prm fun a => by simp only [List.count_append]; omega)
    refine ⟨v, vs, rfl, F, E, fp, f1, u, w2.right, re, r1, ?_⟩
    have p1 : Post (M.bind (m u) (fun _ => ms us) E) _ _ := p
    have a0 : Aft F F H H ((f1 ++ f2) ++ fp) (f2 ++ (f1 ++ fp)) := Aft.here fun a ha => by simp only [List.mem_append] at *; rcases ha with h | h | h <;> simp [h]
    refine p1.bind.imp (fun _ E1 p2 => ?_) fun _ _ h => h.later (Aft.here fun a ha => by simp only [List.mem_append] at *; rcases ha with h | h <;> simp [h]) fun σ' s => s.weak
    intro σ1 H1 F1 fp1 a1 w1 re1 s1
    obtain ⟨w3, st, a3⟩ := frame w2 (fun a ha => RepL.own us r2 a ha) a1 w1
    have a03 := a0.trans a3
    exact ⟨F1, E1, fp1, f2, us, w3, re1, RepL.stay us r2 st, p2.imp (fun _ E2 p3 σ2 H2 F2 fp2 a4 w4 re4 s4 => p3 σ2 H2 F2 fp2 (a03.trans a4) w4 re4 (s1.trans s4)) fun _ _ h => h.later a03 fun σ' s => s1.trans s⟩
theorem jgs_cons {m : T → M Unit} {ms : List T → M Unit} (h1 : JG X g W ts e m) (h2 : JGs X g W ts' es ms) (hs : (assignEach (e :: es) X.env).map (·.2) = assign e X.env :: (assignEach es X.env).map (·.2)) : JGs X g W (ts ++ ts') (e :: es) (PV.gCons m ms) :=
  PGs.imp (pgs_cons h1 h2 hs) fun xs σ H K h => gcons_red h
/-- (a, b, ..) = a tuple, a list -/
theorem jg_tup {ms : List T → M Unit} {n k : Nat} (fit : Fits g X) (hc : X.calm = true) (h : JGs X g W ts es ms) (hn : (assignEach es X.env).length = n) (hst : (assignEach es X.env).findIdx? (·.1) = none) : JG X g W ts (.Tuple es k pos) (PV.gTup n ms) :=
  PG.imp (PG.or (pg_tup hc h hn hst) (pg_unl hc h hn hst)) fun x σ H K h => by
    obtain ⟨F, E, fp, ft, t, w, re, rt, p⟩ := h
    unfold PV.gTup at p
    cases t with
    | tup xs =>
      dsimp only at p
      split at p
      · rename_i hl
        obtain ⟨a, vs, rfl, sq, r, _⟩ := rt.tup_inv
        exact .inl ⟨a, vs, rfl, fit.K ▸ sq, by rw [← r.length]; exact hl, F, E, fp, ft, xs, w, re, r, p⟩
      · exact p.elim
    | lst o xs =>
      dsimp only at p
      split at p
      · rename_i hl
        obtain ⟨a, vs, fs, rfl, sq, r, hf⟩ := rt.lst_inv
        obtain rfl := hf hl.1
        refine .inr ⟨a, vs, rfl, fit.K ▸ sq, by rw [← r.length]; exact hl.2, F, E, fp, [], xs, w.right, re, r, p.imp (fun _ E' k σ' H' F' fp' a => k σ' H' F' fp' (a.more fun a ha => List.mem_append_right _ ha)) fun _ _ h => h.later (Aft.here fun a ha => List.mem_append_right _ ha) fun _ s => s⟩
      · exact p.elim
    | _ => exact p.elim
end
end PV

/-! V16: what is changed at a place -/
namespace PV
open PySem L2

section
variable {X : Cx} {e ea eb ec tg o k0 : Expr} {g : GX} {W : WX} {F F' F1 F2 F3 : Addr → Prop} {H H' H1 H2 H3 : Hp} {fp fp' fp1 fp2 fp3 ft fu fq fr fs rest : List Addr} {t u z : T} {v x y : V} {σ σ' : St} {E E' E1 E2 : Env} {r s : R} {Q : VK} {b b' b1 b2 q : Bool}
variable {ma mb mc : M R} {na nb nc : M Bool} {pos p p2 : Pos} {es : List Expr} {ei : T → T → Option Bool} {gi : GI} {ts ts' : List Nat}

theorem put_putF (ks : List Str) (vs : List V) (f : Str) (x : V) (l : ks.length = vs.length) : putF f x (ks.zip vs) = (put ks vs f x).1.zip (put ks vs f x).2 := by
  induction ks generalizing vs with
  | nil => cases vs <;> rfl
  | cons k ks ih =>
    cases vs with
    | nil => simp at l
    | cons w vs =>
      show (if k = f then (k, x) :: ks.zip vs else (k, w) :: putF f x (ks.zip vs)) = _
      by_cases h : k = f
      · rw [if_pos h]
        simp [put, h]
      · rw [if_neg h, ih vs (by simpa using l)]
        simp [put, h]
theorem put_len {κ α : Type} [DecidableEq κ] (ks : List κ) (vs : List α) (f : κ) (x : α) (l : ks.length = vs.length) : (put ks vs f x).1.length = (put ks vs f x).2.length ∧ (put ks vs f x).1.length ≤ ks.length + 1 := by
  induction ks generalizing vs with
  | nil => cases vs <;> simp [put]
  | cons k ks ih =>
    cases vs with
    | nil => simp at l
    | cons w vs =>
      by_cases h : k = f
      · simp only [put, h, if_true]
        simp only [List.length_cons] at *
        omega
      · have := ih vs (by simpa using l)
        simp only [put, h, if_false, List.length_cons] at *
        omega
theorem put_keys {κ α β : Type} [DecidableEq κ] (ks : List κ) (vs : List α) (ws : List β) (f : κ) (x : α) (y : β) (l : ks.length = vs.length) (l' : ks.length = ws.length) : (put ks vs f x).1 = (put ks ws f y).1 := by
  induction ks generalizing vs ws with
  | nil => cases vs <;> cases ws <;> rfl
  | cons k ks ih =>
    cases vs with
    | nil => simp at l
    | cons w vs =>
      cases ws with
      | nil => simp at l'
      | cons w' ws =>
        by_cases h : k = f
        · simp [put, h]
        · have := ih vs ws (by simpa using l) (by simpa using l')
          simp [put, h, this]
theorem put_mem {κ α : Type} [DecidableEq κ] (ks : List κ) (vs : List α) (f : κ) (x : α) (l : ks.length = vs.length) : ∀ k, k ∈ (put ks vs f x).1 ↔ k = f ∨ k ∈ ks := by
  induction ks generalizing vs with
  | nil => cases vs <;> simp [put]
  | cons k0 ks ih =>
    cases vs with
    | nil => simp at l
    | cons w vs =>
      intro k
      by_cases h : k0 = f
      · subst h; simp [put]
      · have := ih vs (by simpa using l) k
        simp only [put, h, if_false, List.mem_cons, this]
        constructor
        · rintro (z | z | z) <;> simp [z]
        · rintro (z | z | z) <;> simp [z]
theorem put_nodup {κ α : Type} [DecidableEq κ] (ks : List κ) (vs : List α) (f : κ) (x : α) (l : ks.length = vs.length) (nd : ks.Nodup) : (put ks vs f x).1.Nodup := by
  induction ks generalizing vs with
  | nil => cases vs <;> simp [put]
  | cons k ks ih =>
    cases vs with
    | nil => simp at l
    | cons w vs =>
      rw [List.nodup_cons] at nd
      by_cases h : k = f
      · simp only [put, h, if_true]
        rw [← h]
        exact List.nodup_cons.mpr nd
      · simp only [put, h, if_false]
        refine List.nodup_cons.mpr ⟨fun z => ?_, ih vs (by simpa using l) nd.2⟩
        rcases (put_mem ks vs f x (by simpa using l) k).mp z with z | z
        · exact h z
        · exact nd.1 z
theorem put_rep {κ : Type} [DecidableEq κ] {f : κ} (rt : Rep g.toG F H t x ft) : ∀ {ks : List κ} {us : List T} {vs : List V} {fs : List Addr}, RepL g.toG F H us vs fs → ks.length = vs.length →
    ∃ fs' dead, (fs ++ ft).Perm (fs' ++ dead) ∧ RepL g.toG F H (put ks us f t).2 (put ks vs f x).2 fs'
  | [], us, vs, fs, r, l => by
    cases vs with
    | cons _ _ => simp at l
    | nil =>
      cases us with
      | cons _ _ => obtain ⟨_, _, _, _, e, _⟩ := r; cases e
      | nil => obtain ⟨_, rfl⟩ := r; exact ⟨ft, [], by simp, x, [], ft, [], rfl, by simp, rt, rfl, rfl⟩
  | k :: ks, us, vs, fs, r, l => by
    cases vs with
    | nil => simp at l
    | cons w vs =>
      cases us with
      | nil => obtain ⟨e, _⟩ := r; cases e
      | cons u us =>
        obtain ⟨v', vs', f1, f2, e, rfl, r1, r2⟩ := r
        cases e
        by_cases h : k = f
        · have e1 : (put (k :: ks) (u :: us) f t).2 = t :: us := by simp [put, h]
          have e2 : (put (k :: ks) (w :: vs) f x).2 = x :: vs := by simp [put, h]
          rw [e1, e2]
          exact ⟨ft ++ f2, f1, prm fun c => by simp only [List.count_append]; omega, x, vs, ft, f2, rfl, rfl, rt, r2⟩
        · have e1 : (put (k :: ks) (u :: us) f t).2 = u :: (put ks us f t).2 := by simp [put, h]
          have e2 : (put (k :: ks) (w :: vs) f x).2 = w :: (put ks vs f x).2 := by simp [put, h]
          rw [e1, e2]
          obtain ⟨fs', dead, pm, r'⟩ := put_rep rt (f := f) r2 (ks := ks) (by simpa using l)
          exact ⟨f1 ++ fs', dead, prm fun c => by have := prm_of pm c; simp only [List.count_append] at *; omega, w, _, f1, fs', rfl, rfl, r1, r'⟩
/-- an own object is written -/
theorem upd_root {a : Addr} {l : List Addr} {o o' : HO} (w : Wf F H (a :: l)) (e : H a = some o) (m : Mut (some o)) : Stay F F H (upd H a o') l ∧ Aft F F H (upd H a o') (a :: l) (a :: l) := by
  have nd := List.nodup_cons.mp w.nd
  have nf : ¬ F a := w.dj a List.mem_cons_self
  refine ⟨⟨fun _ h => h, fun c oc hc hh => ?_⟩, ⟨fun _ h => h, fun _ h => .inl h, fun c oc hc hh => ?_, fun c hc => .inl hc, fun c oc hc hm => ?_⟩⟩
  · rw [upd_ne]
    · exact hc
    · rintro rfl
      rcases hh with hh | hh | hh
      · exact nd.1 hh
      · exact nf hh
      · rw [e] at hc; cases hc; exact hh m
  · rw [upd_ne]
    · exact hc
    · rintro rfl
      exact hh List.mem_cons_self
  · rw [upd_ne]
    · exact hc
    · rintro rfl
      rw [e] at hc; cases hc; exact hm m
theorem Wf.upd {a : Addr} {l : List Addr} {o' : HO} (w : Wf F H l) : Wf F (upd H a o') l := ⟨w.nd, w.dj, fun c h => by
  by_cases hc : c = a
  · subst hc; exact ⟨o', upd_same⟩
  · obtain ⟨o, e⟩ := w.dom c h
    exact ⟨o, by rw [upd_ne hc]; exact e⟩⟩
/-- at a place: the object at a is written, what was held (ft) goes into it, dead is what is let go -/
theorem mut_plc {i : Nat} {pl : List Sel} {u' : T} (w : Wf F H (ft ++ fp)) (re : RepE g.toG F H E σ fp) (at_ : AtE H σ i pl x) (eu : plcGet i pl E = some u) (hu : u ≠ .hole)
    (k : ∀ fr rest, Rep g.toG F H u x fr → (ft ++ fp).Perm ((ft ++ fr) ++ rest) → Wf F H ((ft ++ fr) ++ rest) →
      ∃ a o o' l f', x = .ref a ∧ H a = some o ∧ Mut (some o) ∧ (ft ++ fr).Perm (a :: l) ∧ H' = upd H a o' ∧ (∀ c ∈ f', c ∈ a :: l) ∧ f'.Nodup ∧ Rep g.toG F H' u' x f') :
    ∃ fp', RepE g.toG F H' (plcSet i pl u' E) σ fp' ∧ Wf F H' fp' ∧ Aft F F H H' (ft ++ fp) fp' := by
  obtain ⟨w', fr, rest, at', r', pm, k2⟩ := re.focus eu (.inl hu)
  obtain rfl := at'.det at_
  have pm0 : (ft ++ fp).Perm ((ft ++ fr) ++ rest) := prm fun c => by have := prm_of pm c; simp only [List.count_append] at *; omega
  have w0 := w.perm pm0
  obtain ⟨a, o, o', l, f', rfl, e, m, pm1, rfl, sub, nd, rr⟩ := k fr rest r' pm0 w0
  have pm2 : ((ft ++ fr) ++ rest).Perm (a :: (l ++ rest)) := pm1.append_right rest
  have w1 := w0.perm pm2
  obtain ⟨st, af⟩ := upd_root (o' := o') w1 e m
  obtain ⟨fp', pm3, re'⟩ := k2 F (upd H a o') u' f' (st.sub fun c hc => List.mem_append_right _ hc) rr
  have mem : ∀ c ∈ fp', c ∈ a :: (l ++ rest) := fun c hc => by
    rcases List.mem_append.mp (pm3.mem_iff.mp hc) with hc | hc
    · rcases List.mem_cons.mp (sub c hc) with rfl | hc
      · exact List.mem_cons_self
      · exact List.mem_cons_of_mem _ (List.mem_append_left _ hc)
    · exact List.mem_cons_of_mem _ (List.mem_append_right _ hc)
  refine ⟨fp', re', ⟨?_, fun c hc => w1.dj c (mem c hc), (w1.upd (a := a) (o' := o')).dom⟩, ?_⟩
  · refine pm3.nodup_iff.mpr (List.nodup_append.mpr ⟨nd, (List.nodup_append.mp w0.nd).2.1, fun c h1 d h2 e => ?_⟩)
    subst e
    have h3 : c ∈ ft ++ fr := pm1.mem_iff.mpr (sub c h1)
    exact w0.apart h3 h2
  · have a2 : Aft F F H (upd H a o') (ft ++ fp) (a :: (l ++ rest)) := (Aft.here fun c hc => (pm0.trans pm2).mem_iff.mpr hc).trans af
    exact a2.sub mem
theorem post_plc {r : R} {f : T → Option (T × T)} {P : R → Env → Prop} {XX : T → Env → Prop} (p : Post (atPlc r f E) P XX) : ∃ i pl t c, r = .plc i pl ∧ plcGet i pl E = some t ∧ f t = some c ∧ P (.val c.1) (plcSet i pl c.2 E) := by
  unfold atPlc at p
  cases r with
  | val _ => exact p.elim
  | plc i pl =>
    dsimp only at p
    cases e : plcGet i pl E with
    | none => rw [e] at p; exact p.elim
    | some t =>
      rw [e] at p
      dsimp only at p
      cases e2 : f t with
      | none => rw [e2] at p; exact p.elim
      | some c => rw [e2] at p; exact ⟨i, pl, t, c, rfl, e, e2, p⟩
/-! ### o.f = .. -/
def gFldG (K : PySem.W.Frag) (ta : TE) (f : Str) : TG := fun v σ H Q => ta σ H fun x H1 => ∃ a C dx fs, x = .ref a ∧ H1 a = some (.ins C dx fs) ∧ Cls K C ∧ NoAttr K C f ∧ fs.length < 1000 ∧ Q σ (upd H1 a (.ins C dx (putF f v fs)))
theorem pg_fld {ta : TE} {f : Str} (ha : PE X o ta) : PG X (.Attribute o f pos) (gFldG X.K ta f) := by
  refine ⟨fun pins s σ H v u Q I r h => ?_⟩
  rw [assign_Attribute]
  refine wpAny_bind (wpAny_holding (thn (ha.run pins s σ H _ I h) fun ov s2 ⟨x, H2, I2, rx, a, C, dx, fs, ex, ea, c, n, l, q2⟩ => ?_))
  subst ex
  obtain rfl : ov = Value.ref a := rx
  refine wpAny_bind (wpAny_standAt (wpAny_bind (wpAny_holding (setattr_ok I2 ea c n l r fun s3 I3 => ?_))))
  exact wpAny_release ⟨σ, _, I3, q2⟩
theorem gattr_red {f : Str} {K : St → Hp → Prop} (hc : ∀ C Ca, g.toG.cls C = some Ca → Cls X.K Ca ∧ NoAttr X.K Ca f) (h : tG g W ts (gAttr ma f) x σ H K) : gFldG X.K (tE g W b ma) f x σ H K := by
    obtain ⟨F, E, fp, ft, t, w, re, rt, p⟩ := h
    have p0 : Post (M.bind ma (fun r => M.bind (atPlc r _) fun _ => M.pure ()) E) _ _ := p
    refine ⟨F, E, fp, w.right, re, p0.bind.imp (fun r E1 p1 => ?_) fun _ _ h => (h.later (S' := Same ts σ) (Aft.here fun a ha => List.mem_append_right _ ha) fun _ s => s).x Same.refl⟩
    intro y H1 F1 fr fp1 a1 w1 re1 rr ex
    obtain ⟨w2, st, a2⟩ := frame w (fun a ha => Rep.own t rt a ha) a1 w1
    obtain ⟨i, pl, u, c, rfl, eu, ec, p2⟩ := post_plc p1.bind
    obtain ⟨rfl, at_⟩ := rr
    have rt1 : Rep g.toG F1 H1 t x ft := Rep.stay t rt st
    cases u with
    | ins oo C ks us =>
      cases oo with
      | false => cases ec
      | true =>
        dsimp only at ec
        split at ec
        · rename_i hl
          cases ec
          have hole : (T.ins true C ks us) ≠ .hole := fun z => nomatch z
          obtain ⟨w', f0, rest0, at', r', _, _⟩ := re1.focus eu (.inl hole)
          rw [at'.det at_] at r'
          obtain ⟨a, Ca, dx, vs, fs, rfl, ec, r1, l, nd, ea, hh⟩ := r'
          refine ⟨a, Ca, dx, ks.zip vs, rfl, ea, (hc C Ca ec).1, (hc C Ca ec).2, by rw [List.length_zip, ← l, Nat.min_self]; exact hl, ?_⟩
          obtain ⟨fp', re', wf', af'⟩ := mut_plc (H' := upd H1 a (.ins Ca dx (putF f x (ks.zip vs)))) (u' := .ins true C (put ks us f t).1 (put ks us f t).2) (ft := ft) w2 re1 at_ eu hole fun fr rest rr pm wf => by
            obtain ⟨a', Ca', dx', vs', fs', e1, ec', r1', l', nd', ea', hh'⟩ := rr
            cases e1
            rw [ec] at ec'; cases ec'
            rw [ea] at ea'
            rcases hh' with ⟨_, rfl⟩ | ⟨h, _⟩
            · have hi := Option.some.inj ea'
              injection hi with h1 edx ez
              subst edx
              obtain ⟨fs2, dead, pm2, r2⟩ := put_rep rt1 (f := f) r1' (ks := ks) l'
              have wf1 : Wf F1 H1 (a :: ((ft ++ fs') ++ rest)) := wf.perm (prm fun c => by simp only [List.count_append, List.count_cons]; omega)
              obtain ⟨st1, _⟩ := upd_root (o' := .ins Ca dx (putF f x (ks.zip vs))) wf1 ea trivial
              refine ⟨a, _, _, ft ++ fs', a :: fs2, rfl, ea, trivial, prm fun c => by simp only [List.count_append, List.count_cons]; omega, rfl, fun c hc => ?_, ?_, ?_⟩
              · rcases List.mem_cons.mp hc with rfl | hc
                · exact List.mem_cons_self
                · refine List.mem_cons_of_mem _ ?_
                  have := pm2.mem_iff.mpr (List.mem_append_left dead hc)
                  simp only [List.mem_append] at this ⊢
                  exact this.symm
              · have nd1 := wf1.nd
                have pm4 : (a :: ((ft ++ fs') ++ rest)).Perm ((a :: fs2) ++ (dead ++ rest)) := prm fun c => by have := prm_of pm2 c; simp only [List.count_append, List.count_cons] at *; omega
                exact (List.nodup_append.mp (pm4.nodup_iff.mp nd1)).1
              · have hsub : ∀ c ∈ fs2, c ∈ (ft ++ fs') ++ rest := fun c hc => by
                  have := pm2.mem_iff.mpr (List.mem_append_left dead hc)
                  simp only [List.mem_append] at this ⊢
                  exact .inl this.symm
                refine ⟨a, Ca, dx, (put ks vs' f x).2, fs2, rfl, ec, RepL.stay _ r2 (st1.sub hsub), ?_, ?_, ?_, .inl ⟨rfl, rfl⟩⟩
                · rw [put_keys ks us vs' f t x (by rw [l', r1'.length]) l']; exact (put_len ks vs' f x l').1
                · exact put_nodup ks us f t (by rw [l', r1'.length]) nd
                · rw [upd_same, ez, put_putF ks vs' f x l', put_keys ks us vs' f t x (by rw [l', r1'.length]) l']
            · cases h
          exact p2.pure σ _ F1 fp' (a2.trans af') wf' re' Same.refl
        · cases ec
    | _ => cases ec
theorem jg_attr {f : Str} (ha : JE X g W b o ma) (hc : ∀ C Ca, g.toG.cls C = some Ca → Cls X.K Ca ∧ NoAttr X.K Ca f) : JG X g W ts (.Attribute o f pos) (gAttr ma f) :=
  PG.imp (pg_fld ha) fun x σ H K h => gattr_red hc h
end
end PV

/-! V17: o[k] = .. -/
namespace PV
open PySem L2

theorem PSet.or {X : Cx} {t t' : TSet} (h : PSet X t) (h' : PSet X t') : PSet X (fun o i v H Q => t o i v H Q ∨ t' o i v H Q) := by
  intro pins s σ H o i v ov iv u Q I ro ri rv q
  rcases q with q | q
  · exact h pins s σ H o i v ov iv u Q I ro ri rv q
  · exact h' pins s σ H o i v ov iv u Q I ro ri rv q
section
variable {X : Cx} {e ea eb ec tg o k0 : Expr} {g : GX} {W : WX} {F F' F1 F2 F3 : Addr → Prop} {H H' H1 H2 H3 : Hp} {fp fp' fp1 fp2 fp3 ft fu fq fr fs rest : List Addr} {t u z : T} {v x y : V} {σ σ' : St} {E E' E1 E2 : Env} {r s : R} {Q : VK} {b b' b1 b2 q : Bool}
variable {ma mb mc : M R} {na nb nc : M Bool} {pos p p2 : Pos} {es : List Expr} {ei : T → T → Option Bool} {gi : GI} {ts ts' : List Nat}

theorem put_putK (ks : List Key) (vs : List V) (f : Key) (x : V) (l : ks.length = vs.length) (nd : ks.Nodup) : putK (ks.zip vs) f x = (put ks vs f x).1.zip (put ks vs f x).2 := by
  have key : ∀ (ks : List Key) (vs : List V), ks.length = vs.length → ks.Nodup →
      (f ∈ ks → (ks.zip vs).map (fun kv => if kv.1 = f then (kv.1, x) else kv) = (put ks vs f x).1.zip (put ks vs f x).2) ∧ (f ∉ ks → ks.zip vs ++ [(f, x)] = (put ks vs f x).1.zip (put ks vs f x).2) ∧ (f ∉ ks → (ks.zip vs).map (fun kv => if kv.1 = f then (kv.1, x) else kv) = ks.zip vs) := by
    intro ks
    induction ks with
    | nil => intro vs l _; cases vs <;> simp [put] at *
    | cons k ks ih =>
      intro vs l nd
      cases vs with
      | nil => simp at l
      | cons w vs =>
        rw [List.nodup_cons] at nd
        obtain ⟨i1, i2, i3⟩ := ih vs (by simpa using l) nd.2
        refine ⟨fun h => ?_, fun h => ?_, fun h => ?_⟩
        · by_cases hk : k = f
          · subst hk
            simp only [List.zip_cons_cons, List.map_cons, if_true, put]
            rw [i3 nd.1]
          · have hm : f ∈ ks := by
              rcases List.mem_cons.mp h with z | z
              · exact (hk z.symm).elim
              · exact z
            simp only [List.zip_cons_cons, List.map_cons, hk, if_false, put]
            rw [i1 hm]
        · have hk : ¬ k = f := fun z => h (by rw [z]; exact List.mem_cons_self)
          have hm : f ∉ ks := fun z => h (List.mem_cons_of_mem _ z)
          simp only [List.zip_cons_cons, List.cons_append, hk, if_false, put]
          rw [i2 hm]
        · have hk : ¬ k = f := fun z => h (by rw [z]; exact List.mem_cons_self)
          have hm : f ∉ ks := fun z => h (List.mem_cons_of_mem _ z)
          simp only [List.zip_cons_cons, List.map_cons, hk, if_false]
          rw [i3 hm]
  obtain ⟨i1, i2, _⟩ := key ks vs l nd
  have hany : (((ks.zip vs).any fun kv => decide (kv.1 = f)) = true) ↔ f ∈ ks := by
    rw [List.any_eq_true]
    constructor
    · rintro ⟨kv, h, e⟩
      have e' : kv.1 = f := by simpa using e
      have := List.of_mem_zip (a := kv.1) (b := kv.2) h
      rw [← e']; exact this.1
    · intro h
      obtain ⟨n, hn, e⟩ := List.getElem_of_mem h
      refine ⟨(ks[n], vs[n]'(by omega)), ?_, by simpa using e⟩
      have : (ks.zip vs)[n]'(by rw [List.length_zip]; omega) = (ks[n], vs[n]'(by omega)) := by simp
      rw [← this]
      exact List.getElem_mem _
  unfold putK
  by_cases hm : f ∈ ks
  · rw [if_pos (hany.mpr hm)]; exact i1 hm
  · rw [if_neg fun z => hm (hany.mp z)]; exact i2 hm
theorem set_rep (rt : Rep g.toG F H t x ft) : ∀ {us : List T} {vs : List V} {fs : List Addr} {i : Nat}, RepL g.toG F H us vs fs → i < us.length → ∃ fs' dead, (fs ++ ft).Perm (fs' ++ dead) ∧ RepL g.toG F H (us.set i t) (vs.set i x) fs'
  | [], vs, fs, i, r, h => by simp at h
  | u :: us, vs, fs, 0, r, h => by
    obtain ⟨v, vs', f1, f2, rfl, rfl, r1, r2⟩ := r
    exact ⟨ft ++ f2, f1, prm fun c => by simp only [List.count_append]; omega, x, vs', ft, f2, rfl, rfl, rt, r2⟩
  | u :: us, vs, fs, i + 1, r, h => by
    obtain ⟨v, vs', f1, f2, rfl, rfl, r1, r2⟩ := r
    obtain ⟨fs', dead, pm, r'⟩ := set_rep rt (i := i) r2 (by simpa using h)
    exact ⟨f1 ++ fs', dead, prm fun c => by have := prm_of pm c; simp only [List.count_append] at *; omega, v, _, f1, fs', rfl, rfl, r1, r'⟩
/-- the new content of an own object, from what it had and what is put in -/
theorem root_new {a : Addr} {o' : HO} {ho : HO} {l fs2 dead : List Addr} (wf : Wf F H ((ft ++ (a :: fs)) ++ rest)) (ea : H a = some ho) (m : Mut (some ho)) (pm2 : (fs ++ ft).Perm (fs2 ++ dead)) :
    Stay F F H (upd H a o') fs2 ∧ (ft ++ (a :: fs)).Perm (a :: (ft ++ fs)) ∧ (∀ c ∈ a :: fs2, c ∈ a :: (ft ++ fs)) ∧ (a :: fs2).Nodup := by
  have wf1 : Wf F H (a :: ((ft ++ fs) ++ rest)) := wf.perm (prm fun c => by simp only [List.count_append, List.count_cons]; omega)
  obtain ⟨st1, _⟩ := upd_root (o' := o') wf1 ea m
  have hsub : ∀ c ∈ fs2, c ∈ ft ++ fs := fun c hc => by
    have := pm2.mem_iff.mpr (List.mem_append_left dead hc)
    simp only [List.mem_append] at this ⊢
    exact this.symm
  refine ⟨st1.sub fun c hc => List.mem_append_left _ (hsub c hc), prm fun c => by simp only [List.count_append, List.count_cons]; omega, fun c hc => ?_, ?_⟩
  · rcases List.mem_cons.mp hc with rfl | hc
    · exact List.mem_cons_self
    · exact List.mem_cons_of_mem _ (hsub c hc)
  · have pm4 : (a :: ((ft ++ fs) ++ rest)).Perm ((a :: fs2) ++ (dead ++ rest)) := prm fun c => by have := prm_of pm2 c; simp only [List.count_append, List.count_cons] at *; omega
    exact (List.nodup_append.mp (pm4.nodup_iff.mp wf1.nd)).1
theorem gsub_red {K : St → Hp → Prop} (fit : Fits g X) (h : tG g W ts (PV.gSub q ma mb) x σ H K) : L2.gSub (tE g W b ma) (tE g W q mb) (fun o i v H Q => rSetL o i v H Q ∨ rSetD o i v H Q) x σ H K := by
    obtain ⟨F, E, fp, ft, t, w, re, rt, p⟩ := h
    have p0 : Post (M.bind ma (fun r => M.bind (guardM (!(deep r) || q)) fun _ => M.bind mb fun s => M.bind (viewR s) fun y => M.bind (atPlc r _) fun _ => M.pure ()) E) _ _ := p
    refine ⟨F, E, fp, w.right, re, p0.bind.imp (fun r E1 p1 => ?_) fun _ _ h => (h.later (S' := Same ts σ) (Aft.here fun a ha => List.mem_append_right _ ha) fun _ s => s).x Same.refl⟩
    intro y H1 F1 fr fp1 a1 w1 re1 rr ex
    obtain ⟨w2, st, a2⟩ := frame w (fun a ha => Rep.own t rt a ha) a1 w1
    have rt1 : Rep g.toG F1 H1 t x ft := Rep.stay t rt st
    obtain ⟨gd, p2⟩ := p1.bind.guard
    have w2r : Wf F1 H1 fp1 := w1.right
    refine ⟨F1, E1, fp1, w2r, re1, p2.bind.imp (fun s E2 p3 => ?_) fun _ _ h => (h.later (S' := Same ts σ) (a2.sub fun a ha => List.mem_append_right _ (List.mem_append_right _ ha)) fun _ s => s).x Same.refl⟩
    intro kv H2 F2 fs fp2 a3 w3 re2 rs ex2
    -- the place is where it was
    obtain ⟨ky, ek, p4⟩ := p3.bind.view
    obtain ⟨i, pl, u, c, rfl, eu, ec, p5⟩ := post_plc p4.bind
    obtain ⟨rfl, at1⟩ := rr
    have w2' : Wf F1 H1 (ft ++ fp1) := by simpa using w2
    obtain ⟨w4, st2, a4⟩ := frame w2' (fun a ha => Rep.own t rt1 a ha) a3 w3
    have at2 : AtE H2 σ i pl y := at1.later ((deep_or gd ex2).imp (fun d => by cases pl <;> first | rfl | cases d) id)
    have rt2 : Rep g.toG F2 H2 t x ft := Rep.stay t rt1 st2
    obtain ⟨fk, rk, _, w5, re5, a5⟩ := rs.view w3 re2 ek
    have a5' : Aft F2 (fun a => F2 a ∨ a ∈ fs) H2 H2 (ft ++ (fs ++ fp2)) (ft ++ fp2) ∧ Wf (fun a => F2 a ∨ a ∈ fs) H2 (ft ++ fp2) := by
      have pm : (ft ++ (fs ++ fp2)).Perm (fs ++ (ft ++ fp2)) := prm fun c => by simp only [List.count_append]; omega
      obtain ⟨wz, az⟩ := shareSome w4 (fun a ha => by
        rcases List.mem_append.mp ha with ha | ha
        · obtain ⟨o, e, _⟩ := Rep.own t rt2 a ha; exact ⟨o, e⟩
        · rcases List.mem_append.mp ha with ha | ha
          · obtain ⟨o, e, _⟩ := rs.own a ha; exact ⟨o, e⟩
          · exact own_of re2 a ha) pm
      exact ⟨az, wz⟩
    obtain ⟨a5', w6⟩ := a5'
    have rt3 : Rep g.toG (fun a => F2 a ∨ a ∈ fs) H2 t x ft := Rep.stay t rt2 stay_shared
    have atot : Aft F (fun a => F2 a ∨ a ∈ fs) H H2 (ft ++ fp) (ft ++ fp2) := a2.trans (Aft.trans (by simpa using a4) a5')
    have hole : u ≠ .hole := by
      intro z
      subst z
      cases ec
    obtain ⟨w', f0, rest0, at', r', _, _⟩ := re5.focus eu (.inl hole)
    rw [at'.det at2] at r'
    cases u with
    | lst oo us =>
      cases oo with
      | false => cases ec
      | true =>
        cases ky with
        | int j =>
          have ec' : (ixN us.length j).map (fun n => (T.non, T.lst true (us.set n t))) = some c := ec
          cases hn : ixN us.length j with
          | none => rw [hn] at ec'; cases ec'
          | some n =>
            rw [hn] at ec'
            cases ec'
            obtain ⟨a, vs, fs0, rfl, r1, ⟨_, ea, _⟩ | ⟨h, _⟩⟩ := r'
            · refine .inl ⟨a, vs, j, n, rfl, rk.int_inv, ea, by rw [← r1.length]; exact hn, ?_⟩
              obtain ⟨fp', re', wf', af'⟩ := mut_plc (H' := upd H2 a (.lst (vs.set n x))) (u' := .lst true (us.set n t)) (ft := ft) w6 re5 at2 eu hole fun fr rest rr pm wf => by
                obtain ⟨a', vs', fs', e1, r1', hh'⟩ := rr
                cases e1
                rcases hh' with ⟨_, ea', rfl⟩ | ⟨h, _⟩
                · rw [ea] at ea'; cases ea'
                  obtain ⟨fs2, dead, pm2, r2⟩ := set_rep rt3 (i := n) r1' (ixN_seq hn).2.1
                  obtain ⟨k1, k2, k3, k4⟩ := root_new (o' := .lst (vs.set n x)) (l := []) wf ea trivial pm2
                  exact ⟨a, _, _, ft ++ fs', a :: fs2, rfl, ea, trivial, k2, rfl, k3, k4, a, vs.set n x, fs2, rfl, RepL.stay _ r2 k1, .inl ⟨rfl, upd_same, rfl⟩⟩
                · cases h
              exact p5.pure σ _ _ fp' (atot.trans af') wf' re' Same.refl
            · cases h
        | _ => cases ec
    | dct oo ks us =>
      cases oo with
      | false => cases ec
      | true =>
        have ec' : (keyOf ky).bind (fun k => if ks.length < lim then (let z := put ks us k t; some (T.non, T.dct true z.1 z.2)) else none) = some c := ec
        cases hk : keyOf ky with
        | none => rw [hk] at ec'; cases ec'
        | some k =>
          rw [hk] at ec'
          have ec2 : (if ks.length < lim then (some (T.non, T.dct true (put ks us k t).1 (put ks us k t).2)) else none) = some c := ec'
          split at ec2
          · rename_i hl
            cases ec2
            obtain ⟨a, vs, fs0, rfl, r1, l, nd, ⟨_, ea, _⟩ | ⟨h, _⟩⟩ := r'
            · refine .inr ⟨a, _, rfl, .inl ⟨ks.zip vs, k, ea, keyOf_rep rk hk, Nat.lt_of_lt_of_le (by rw [List.length_zip, ← l, Nat.min_self]; exact hl) lim_line, rfl⟩, ?_⟩
              obtain ⟨fp', re', wf', af'⟩ := mut_plc (H' := upd H2 a (.dK (putK (ks.zip vs) k x))) (u' := .dct true (put ks us k t).1 (put ks us k t).2) (ft := ft) w6 re5 at2 eu hole fun fr rest rr pm wf => by
                obtain ⟨a', vs', fs', e1, r1', l', nd', hh'⟩ := rr
                cases e1
                rcases hh' with ⟨_, ea', rfl⟩ | ⟨h, _⟩
                · rw [ea] at ea'
                  have hi := Option.some.inj ea'
                  injection hi with ez
                  obtain ⟨fs2, dead, pm2, r2⟩ := put_rep rt3 (f := k) r1' (ks := ks) l'
                  obtain ⟨k1, k2, k3, k4⟩ := root_new (o' := .dK (putK (ks.zip vs) k x)) (l := []) wf ea trivial pm2
                  refine ⟨a, _, _, ft ++ fs', a :: fs2, rfl, ea, trivial, k2, rfl, k3, k4, a, (put ks vs' k x).2, fs2, rfl, RepL.stay _ r2 k1, ?_, ?_, .inl ⟨rfl, ?_, rfl⟩⟩
                  · rw [put_keys ks us vs' k t x (by rw [l', r1'.length]) l']; exact (put_len ks vs' k x l').1
                  · exact put_nodup ks us k t (by rw [l', r1'.length]) nd
                  · rw [upd_same, ez, put_putK ks vs' k x l' nd, put_keys ks us vs' k t x (by rw [l', r1'.length]) l']
                · cases h
              exact p5.pure σ _ _ fp' (atot.trans af') wf' re' Same.refl
            · cases h
          · cases ec2
    | _ => cases ec
theorem jg_sub (fit : Fits g X) (ha : JE X g W b o ma) (hk : JE X g W q k0 mb)
    (hs : ∀ v, assign (.Subscript o k0 pos) X.env v = (do
      let ov ← holding [v] (eval o X.env)
      let iv ← holding [v, ov] (eval k0 X.env)
      standAt pos
      holding [v, ov, iv] (setItem ov iv v)
      release [v, ov, iv] [])) : JG X g W ts (.Subscript o k0 pos) (PV.gSub q ma mb) :=
  PG.imp (pg_sub ha hk (PSet.or set_list (set_dict (by have := fit.hu; omega))) hs) fun x σ H K h => gsub_red fit h
end
end PV

/-! V18: list comprehensions -/
namespace PV
open PySem L2

def W0 : WX := fun _ _ _ _ => False
def tTs (g : GX) (W : WX) (m : M Bool) : TT := tT g W false m
abbrev JTs (X : Cx) (g : GX) (W : WX) (es : List Expr) (m : M Bool) : Prop := PTs X es (tT g W false m)
theorem PTs.imp {X : Cx} {e : List Expr} {t t' : TT} (h : PTs X e t) (k : ∀ σ H Q, t' σ H Q → t σ H Q) : PTs X e t' := ⟨fun pins s σ H Q I q => h.run pins s σ H Q I (k σ H Q q)⟩

section
variable {X : Cx} {e ea eb ec tg o k0 iter elt : Expr} {g : GX} {W : WX} {F F' F0 F1 F2 F3 : Addr → Prop} {H H' H0 H1 H2 H3 : Hp} {fp fp' fp0 fp1 fp2 fp3 ft fu fq fr fs rest : List Addr} {t u z : T} {v x y : V} {σ σ' σ2 : St} {E E' E0 E1 E2 : Env} {r s : R} {Q : VK} {b b' b1 b2 q : Bool}
variable {ma mb mc : M R} {na nb nc : M Bool} {pos p p2 : Pos} {es ifs : List Expr} {ei : T → T → Option Bool} {gi : GI} {ts ts' own : List Nat}

theorem jts_nil : JTs X g W [] (M.pure true) := PTs.imp pts_nil fun σ H Q h => by
  obtain ⟨F, E, fp, w, re, p⟩ := h
  exact p.pure H F fp Aft.refl w re fun h => nomatch h
theorem jts_one (h : JT X g W b e na) : JTs X g W [e] na := PTs.imp (pts_one h) fun σ H Q h => by
  obtain ⟨F, E, fp, w, re, p⟩ := h
  exact ⟨F, E, fp, w, re, p.imp (fun k E' z H' F' fp' a w re _ => z H' F' fp' a w re fun h => nomatch h) fun _ _ h => h⟩

/-- a slot is set, in both -/
theorem set_any {i : Nat} {o' : Option V} (re : RepE g.toG F H E σ fp) (r : RepO g.toG F H t o' ft) : ∃ fp' dead, (ft ++ fp).Perm (fp' ++ dead) ∧ RepE g.toG F H (E.set i t) (σ.set i o') fp' := by
  cases he : E[i]? with
  | none =>
    have h1 : E.set i t = E := List.set_eq_of_length_le (by simpa using he)
    have h2 : σ.set i o' = σ := List.set_eq_of_length_le (by rw [← re.length]; simpa using he)
    rw [h1, h2]
    exact ⟨fp, ft, List.perm_append_comm, re⟩
  | some old =>
    obtain ⟨wd, fo, rest, e1, ro, pm, k⟩ := re.nth he
    obtain ⟨fp', pm2, re'⟩ := k F H t o' ft ⟨fun _ h => h, fun _ _ e _ => e⟩ r
    exact ⟨fp', fo, prm fun c => by have h1 := prm_of pm c; have h2 := prm_of pm2 c; simp only [List.count_append] at *; omega, re'⟩
theorem wipe_rep : ∀ (own : List Nat), RepE g.toG F H E σ fp → ∃ fp' dead, fp.Perm (fp' ++ dead) ∧ RepE g.toG F H (wipeE own E) (wipe σ own) fp'
  | [], re => ⟨fp, [], by simp, re⟩
  | i :: own, re => by
    obtain ⟨fp1, d1, pm1, re1⟩ := wipe_rep own re
    obtain ⟨fp2, d2, pm2, re2⟩ := set_any (i := i) (t := .hole) (o' := none) (ft := []) re1 rfl
    exact ⟨fp2, d2 ++ d1, prm fun c => by have h1 := prm_of pm1 c; have h2 := prm_of pm2 c; simp only [List.count_append, List.count_nil] at *; omega, re2⟩
def restS (own : List Nat) (σ s : St) : St := own.foldr (fun i s => match σ[i]? with | some o => s.set i o | none => s) s
theorem restS_len (σ s : St) : ∀ own : List Nat, (restS own σ s).length = s.length
  | [] => rfl
  | i :: own => by
    show (match σ[i]? with | some o => (restS own σ s).set i o | none => restS own σ s).length = _
    cases σ[i]? <;> simp [restS_len σ s own]
theorem restS_get (σ s : St) (hl : s.length = σ.length) : ∀ (own : List Nat) (j : Nat), (restS own σ s)[j]? = if j ∈ own then σ[j]? else s[j]?
  | [], j => by simp [restS]
  | i :: own, j => by
    have ih := restS_get σ s hl own j
    show (match σ[i]? with | some o => (restS own σ s).set i o | none => restS own σ s)[j]? = _
    cases hi : σ[i]? with
    | none =>
      dsimp only
      rw [ih]
      by_cases hj : j = i
      · subst hj
        rw [hi, if_pos List.mem_cons_self]
        have : s[j]? = none := by rw [List.getElem?_eq_none_iff, hl]; exact List.getElem?_eq_none_iff.mp hi
        rw [this]; split <;> rfl
      · by_cases hm : j ∈ own
        · rw [if_pos hm, if_pos (List.mem_cons_of_mem _ hm)]
        · rw [if_neg hm, if_neg (by simp [hj, hm])]
    | some o =>
      dsimp only
      by_cases hj : i = j
      · subst hj
        have hlt : i < (restS own σ s).length := by rw [restS_len, hl]; exact (List.getElem?_eq_some_iff.mp hi).1
        rw [List.getElem?_set_self hlt, if_pos List.mem_cons_self, hi]
      · rw [List.getElem?_set_ne hj, ih]
        have : j ≠ i := fun z => hj z.symm
        by_cases hm : j ∈ own
        · rw [if_pos hm, if_pos (List.mem_cons_of_mem _ hm)]
        · rw [if_neg hm, if_neg (by simp [this, hm])]
theorem wipe_get (σ : St) : ∀ (own : List Nat) (j : Nat), j ∉ own → (wipe σ own)[j]? = σ[j]?
  | [], j, _ => rfl
  | i :: own, j, h => by
    show ((wipe σ own).set i none)[j]? = _
    rw [List.getElem?_set_ne (fun e => h (by rw [e]; exact List.mem_cons_self))]
    exact wipe_get σ own j fun z => h (List.mem_cons_of_mem _ z)
theorem wipe_in (σ : St) : ∀ (own : List Nat) (j : Nat), j ∈ own → j < σ.length → (wipe σ own)[j]? = some none
  | i :: own, j, h, hl => by
    show ((wipe σ own).set i none)[j]? = _
    by_cases hij : i = j
    · subst hij
      rw [List.getElem?_set_self (by rw [wipe_length]; exact hl)]
    · rw [List.getElem?_set_ne hij]
      exact wipe_in σ own j (by rcases List.mem_cons.mp h with z | z; exact (hij z.symm).elim; exact z) hl
theorem rest_wipe (σ : St) (own : List Nat) : restS own σ (wipe σ own) = σ := by
  apply List.ext_getElem?
  intro j
  rw [restS_get σ _ (wipe_length σ own)]
  by_cases h : j ∈ own
  · rw [if_pos h]
  · rw [if_neg h, wipe_get σ own j h]
theorem wipe_same (h : Same ts (wipe σ own) σ2) (hs : ∀ i ∈ ts, i ∈ own) : wipe σ2 own = wipe σ own := by
  apply List.ext_getElem?
  intro j
  by_cases hj : j ∈ own
  · by_cases hl : j < σ.length
    · rw [wipe_in σ2 own j hj (by rw [h.1, wipe_length]; exact hl), wipe_in σ own j hj hl]
    · rw [List.getElem?_eq_none (by rw [wipe_length, h.1, wipe_length]; omega), List.getElem?_eq_none (by rw [wipe_length]; omega)]
  · rw [wipe_get σ2 own j hj, h.2 j fun z => hj (hs j z)]
theorem Rep.pure0 (hp : T.pureT t = true) (r : Rep g.toG F H t x ft) : Rep g.toG F H t x [] := by
  have := Rep.pure t r hp
  subst this
  exact r
/-- the slots of the block's names given back -/
theorem rest_rep (re0 : RepE g.toG F0 H0 E0 σ fp0) (st : Stay F0 F H0 H ([] : List Addr)) (re : RepE g.toG F H E σ2 fp) : ∀ (own : List Nat), ownOk own E0 = true → ∃ fp' dead, fp.Perm (fp' ++ dead) ∧ RepE g.toG F H (restoreE own E0 E) (restS own σ σ2) fp'
  | [], _ => ⟨fp, [], by simp, re⟩
  | i :: own, ok => by
    unfold ownOk at ok
    rw [List.all_cons, Bool.and_eq_true] at ok
    obtain ⟨fp1, d1, pm1, re1⟩ := rest_rep re0 st re own ok.2
    have ok1 := ok.1
    show ∃ fp' dead, fp.Perm (fp' ++ dead) ∧ RepE g.toG F H (match E0[i]? with | some t => (restoreE own E0 E).set i t | none => restoreE own E0 E) (match σ[i]? with | some o => (restS own σ σ2).set i o | none => restS own σ σ2) fp'
    cases he : E0[i]? with
    | none => rw [he] at ok1; cases ok1
    | some t =>
      obtain ⟨wd, fo, rest, e1, ro, pm, k⟩ := re0.nth he
      rw [e1]
      dsimp only
      have r2 : RepO g.toG F H t wd [] := by
        by_cases hh : t = .hole
        · subst hh; rfl
        · have hp : T.pureT t = true := by
            rw [he] at ok1
            cases t <;> first | exact (hh rfl).elim | exact ok1
          obtain ⟨v, rfl, rv⟩ := ro.at hh
          exact .of rfl (Rep.stay t (Rep.pure0 hp rv) st)
      obtain ⟨fp2, d2, pm2, re2⟩ := set_any (i := i) (ft := []) re1 r2
      exact ⟨fp2, d2 ++ d1, prm fun c => by have h1 := prm_of pm1 c; have h2 := prm_of pm2 c; simp only [List.count_append, List.count_nil] at *; omega, re2⟩
theorem Aft.stay0 (a : Aft F F' H H' fp fp') (w : Wf F H fp) : Stay F F' H H' ([] : List Addr) := ⟨a.ff, fun c o e h => by
  rcases h with h | h | h
  · cases h
  · exact a.keep c o e fun z => w.dj c z h
  · exact a.tups c o e h⟩
theorem post_of {α : Type} {m : M α} {a : α} (h : m E = .ok a E') : Post (m E) (fun a' E'' => a' = a ∧ E'' = E') (fun _ _ => False) := by rw [h]; exact ⟨rfl, rfl⟩

/-- what the block of a list comprehension does -/
theorem lc_run {J : It} {S : (Addr → Prop) → Hp → Prop} {xs as : List T} {m : T → M Unit} {im : M Bool} {em : M R} {σ0 : St}
    (w1 : Wf F1 H1 fp1) (re1 : RepE g.toG F1 H1 E1 σ0 fp1) (hw : wipe σ0 own = wipe σ own) (wk : Walk g.toG J xs S) (hS : ∀ F' H' fp', Aft F1 F' H1 H' fp1 fp' → S F' H') (hz : xs.length ≤ sizeLine) (hts : ∀ i ∈ ts, i ∈ own)
    (run : compL own (turnM m im (one (takeM em))) xs [] E1 = .ok as E2) (fin : ∀ D H F fa fp accv, Aft F1 F H1 H fp1 (D :: (fa ++ fp)) → Wf F H (D :: (fa ++ fp)) → RepE g.toG F H (wipeE own E2) (wipe σ own) fp → H D = some (.lst accv) → RepL g.toG F H as accv fa → Q (.ref D) H) :
    ∀ D, H1 D = none → ∃ W : Nat → Nat → Hp → Prop, (∃ m, W 0 m (L2.upd H1 D (.lst []))) ∧ ∀ i m' H, W i m' H →
      (J.stop i H ∧ Q (.ref D) H) ∨ (J.go i H ∧ ∃ Nx : Hp → Prop, (∀ H', Nx H' → ∃ m'', m'' < m' ∧ W (i + 1) m'' H') ∧ ∀ x H', J.yld i H x H' → tG g W0 ts m x (wipe σ own) H' fun σ2 H2 => wipe σ2 own = wipe σ own ∧ tT g W0 false im σ2 H2 fun b H3 =>
        if b = true then tE g W0 false em σ2 H3 fun y H4 => ∃ acc, H4 D = some (.lst acc) ∧ acc.length < sizeLine ∧ Nx (L2.upd H4 D (.lst (acc ++ [y]))) else Nx H3) := by
  intro D hD
  -- the invariant
  let Iv : Nat → Hp → Prop := fun i H => ∃ F E fp acc accv fa, Wf F H (D :: (fa ++ fp)) ∧ RepE g.toG F H (wipeE own E) (wipe σ own) fp ∧ H D = some (.lst accv) ∧ RepL g.toG F H acc accv fa ∧ Aft F1 F H1 H fp1 (D :: (fa ++ fp)) ∧ compL own (turnM m im (one (takeM em))) (xs.drop i) acc E = .ok as E2 ∧ acc.length ≤ i
  refine ⟨fun i m' H => m' = xs.length - i ∧ i ≤ xs.length ∧ Iv i H, ⟨xs.length, by simp, Nat.zero_le _, ?_⟩, ?_⟩
  · obtain ⟨fp', dead, pm, re⟩ := wipe_rep own re1
    rw [hw] at re
    have wx := w1.sub pm
    have ex := ext_new (o := .lst []) hD
    have nD : D ∉ fp' := fun h => by obtain ⟨o, e⟩ := own_of re D h; rw [hD] at e; cases e
    refine ⟨F1, E1, fp', [], [], [], ?_, re.stay (stay_ext ex), upd_same, ⟨rfl, rfl⟩, ⟨fun _ h => h, fun _ h => .inl h, fun a o e _ => ex a o e, fun a ha => ?_, fun a o e _ => ex a o e⟩, by simpa using run, Nat.le_refl _⟩
    · refine ⟨List.nodup_cons.mpr ⟨by simpa using nD, by simpa using wx.nd⟩, fun a ha => ?_, (wx.ext ex).dom⟩
      rcases List.mem_cons.mp ha with rfl | ha
      · intro z
        obtain ⟨o, e⟩ := w1.dom _ z
        rw [hD] at e; cases e
      · exact wx.dj a (by simpa using ha)
    · rcases List.mem_cons.mp ha with rfl | ha
      · exact .inr hD
      · exact .inl (mem_of_perm pm (List.mem_append_left _ (by simpa using ha)))
  · rintro i m' H ⟨rfl, hi, F, E, fp, acc, accv, fa, wf, re, hDl, racc, aft, run', hacc⟩
    by_cases hlt : i < xs.length
    · -- a turn
      refine .inr ⟨wk.go F H i (hS F H _ aft) hlt, Iv (i + 1), fun H' q => ⟨xs.length - (i + 1), by omega, rfl, hlt, q⟩, fun x H' y => ?_⟩
      obtain ⟨ex, rx⟩ := wk.yld F H i x H' xs[i] (hS F H _ aft) (by simp) y
      have wf' := wf.ext ex
      have re' := re.stay (fp := fp) (stay_ext (F := F) ex)
      have racc' := RepL.stay acc racc (stay_ext ex)
      have hDl' := ex D _ hDl
      have aft' : Aft F1 F H1 H' fp1 (D :: (fa ++ fp)) := aft.trans (ext_aft ex)
      rw [List.drop_eq_getElem_cons hlt] at run'
      have p0 : Post (M.bind (wipeM own) (fun _ => M.bind (turnM m im (one (takeM em)) xs[i]) fun ys => compL own (turnM m im (one (takeM em))) (xs.drop (i + 1)) (acc ++ ys)) E) _ _ := post_of run'
      have p1 : Post (M.bind (turnM m im (one (takeM em)) xs[i]) (fun ys => compL own (turnM m im (one (takeM em))) (xs.drop (i + 1)) (acc ++ ys)) (wipeE own E)) _ _ := p0.bind
      have p2 : Post (M.bind (m xs[i]) (fun _ => M.bind im fun b => if b = true then one (takeM em) else M.pure []) (wipeE own E)) _ _ := p1.bind
      have wff : Wf F H' ((D :: fa) ++ fp) := by simpa using wf'
      have ownD : ∀ a ∈ D :: fa, ∃ o, H' a = some o ∧ Mut (some o) := fun a ha => by
        rcases List.mem_cons.mp ha with rfl | ha
        · exact ⟨_, hDl', trivial⟩
        · exact RepL.own acc racc' a ha
      refine ⟨F, wipeE own E, fp, [], xs[i], wff.right, re', rx, p2.bind.imp (fun _ Ea p3 => ?_) fun _ _ h => h.elim⟩
      intro σ2 H2 F2 fp2 a2 w2 re2 s2
      obtain ⟨wf3, st3, a3⟩ := frame wff ownD (by simpa using a2) w2
      refine ⟨wipe_same s2 hts, F2, Ea, fp2, w2, re2, p3.bind.imp (fun k Eb p4 => ?_) fun _ _ h => h.elim⟩
      intro H3 F3 fp3 a4 w4 re4 _
      have own3 : ∀ a ∈ D :: fa, ∃ o, H2 a = some o ∧ Mut (some o) := fun a ha => by
        obtain ⟨o, e, mm⟩ := ownD a ha
        exact ⟨o, st3.2 a o e (.inl ha), mm⟩
      obtain ⟨wf5, st5, a5⟩ := frame wf3 own3 a4 w4
      have hD3 : H3 D = some (.lst accv) := st5.2 _ _ (st3.2 _ _ hDl' (.inl List.mem_cons_self)) (.inl List.mem_cons_self)
      have racc3 : RepL g.toG F3 H3 acc accv fa := RepL.stay acc (RepL.stay acc racc' (st3.sub fun c hc => List.mem_cons_of_mem _ hc)) (st5.sub fun c hc => List.mem_cons_of_mem _ hc)
      have a15 : Aft F1 F3 H1 H3 fp1 ((D :: fa) ++ fp3) := aft'.trans (by simpa using Aft.trans (by simpa using a3) a5)
      cases k with
      | false =>
        rw [if_neg (by decide)]
        have p5 : compL own (turnM m im (one (takeM em))) (xs.drop (i + 1)) (acc ++ []) Eb = .ok as E2 := by
          have p4' := p4
          simp only [Bool.false_eq_true, if_false] at p4'
          have q : Post (compL own (turnM m im (one (takeM em))) (xs.drop (i + 1)) (acc ++ []) Eb) _ _ := p4'.pure
          cases hc : compL own (turnM m im (one (takeM em))) (xs.drop (i + 1)) (acc ++ []) Eb with
          | ok a' E'' => rw [hc] at q; obtain ⟨rfl, rfl⟩ := q; rfl
          | exc _ _ => rw [hc] at q; exact q.elim
          | bad => rw [hc] at q; exact q.elim
        rw [List.append_nil] at p5
        obtain ⟨fp4, dead, pm, re6⟩ := wipe_rep own re4
        have ew : wipe σ2 own = wipe σ own := wipe_same s2 hts
        rw [ew] at re6
        have pm2 : ((D :: fa) ++ fp3).Perm ((D :: (fa ++ fp4)) ++ dead) := prm fun c => by have := prm_of pm c; simp only [List.count_append, List.count_cons] at *; omega
        exact ⟨F3, Eb, fp4, acc, accv, fa, wf5.sub pm2, re6, hD3, racc3, a15.sub fun c hc => mem_of_perm pm2 (List.mem_append_left _ hc), p5, by omega⟩
      | true =>
        rw [if_pos rfl]
        have p4' : Post (one (takeM em) Eb) (fun ys E'' => Post (compL own (turnM m im (one (takeM em))) (xs.drop (i + 1)) (acc ++ ys) E'') (fun a' E'' => a' = as ∧ E'' = E2) fun _ _ => False) (fun _ _ => False) := by
          have p4' := p4
          simp only [if_true] at p4'
          exact p4'
        have p5 : Post (M.bind em takeR Eb) _ _ := p4'.bind
        refine ⟨F3, Eb, fp3, w4, re4, p5.bind.imp (fun r Ec p6 => ?_) fun _ _ h => h.elim⟩
        intro yv H4 F4 fr fp4 a6 w6 re6 rr _
        obtain ⟨wf7, st7, a7⟩ := frame (by simpa using wf5 : Wf F3 H3 ((D :: fa) ++ fp3)) (fun a ha => by
          obtain ⟨o, e, mm⟩ := own3 a ha
          exact ⟨o, st5.2 a o e (.inl ha), mm⟩) a6 w6
        obtain ⟨tv, Ed, f, fp5, p7, rv, re7, pm7⟩ := take_rep rr (wf7.right) re6 p6
        have p8 := p7.pure
        have hrun : compL own (turnM m im (one (takeM em))) (xs.drop (i + 1)) (acc ++ [tv]) Ed = .ok as E2 := by
          cases hc : compL own (turnM m im (one (takeM em))) (xs.drop (i + 1)) (acc ++ [tv]) Ed with
          | ok a' E'' => rw [hc] at p8; obtain ⟨rfl, rfl⟩ := p8; rfl
          | exc _ _ => rw [hc] at p8; exact p8.elim
          | bad => rw [hc] at p8; exact p8.elim
        have hD4 : H4 D = some (.lst accv) := st7.2 _ _ hD3 (.inl List.mem_cons_self)
        have racc4 : RepL g.toG F4 H4 acc accv fa := RepL.stay acc racc3 (st7.sub fun c hc => List.mem_cons_of_mem _ hc)
        refine ⟨accv, hD4, by have := racc4.length; omega, ?_⟩
        obtain ⟨fp6, dead, pm8, re8⟩ := wipe_rep own re7
        rw [wipe_same s2 hts] at re8
        have pm9 : ((D :: fa) ++ (fr ++ fp4)).Perm ((D :: ((fa ++ f) ++ fp6)) ++ dead) := prm fun c => by have h1 := prm_of pm7 c; have h2 := prm_of pm8 c; simp only [List.count_append, List.count_cons] at *; omega
        have wf9 := wf7.sub pm9
        obtain ⟨stD, aD⟩ := upd_root (o' := .lst (accv ++ [yv])) wf9 hD4 trivial
        have atot : Aft F1 F4 H1 (L2.upd H4 D (.lst (accv ++ [yv]))) fp1 (D :: ((fa ++ f) ++ fp6)) := (a15.trans (a7.sub fun c hc => mem_of_perm pm9 (List.mem_append_left _ hc))).trans aD
        refine ⟨F4, Ed, fp6, acc ++ [tv], accv ++ [yv], fa ++ f, ⟨wf9.nd, wf9.dj, (wf9.upd (a := D) (o' := .lst (accv ++ [yv]))).dom⟩, re8.stay (stD.sub fun c hc => List.mem_append_right _ hc), upd_same, ?_, atot, hrun, by simp; omega⟩
        exact RepL.app (RepL.stay acc racc4 (stD.sub fun c hc => List.mem_append_left _ (List.mem_append_left _ hc))) ⟨yv, [], f, [], rfl, by simp, Rep.stay tv rv (stD.sub fun c hc => List.mem_append_left _ (List.mem_append_right _ hc)), rfl, rfl⟩
    · -- the end
      have ei : i = xs.length := by omega
      subst ei
      refine .inl ⟨wk.stop F H _ (hS F H _ aft) (Nat.le_refl _), ?_⟩
      rw [List.drop_length] at run'
      have run2 : Res.ok acc E = Res.ok as E2 := run'
      cases run2
      exact fin D H F fa fp accv aft wf re hDl racc

/-- the block's end, back in the def -/
theorem blkR_inv {α β : Type} {k : M (List α)} {f : List α → Option β} {P : β → Env → Prop} {XX : T → Env → Prop} (p : Post (blkR own k f E) P XX) :
    ∃ as E2 c, ownOk own E = true ∧ k (wipeE own E) = .ok as E2 ∧ f as = some c ∧ P c (restoreE own E (wipeE own E2)) := by
  unfold blkR at p
  split at p
  · rename_i ho
    cases hk : k (wipeE own E) with
    | ok as E2 =>
      rw [hk] at p
      dsimp only at p
      cases hf : f as with
      | none => rw [hf] at p; exact p.elim
      | some c => rw [hf] at p; exact ⟨as, E2, c, ho, rfl, by first | exact hf | rfl, p⟩
    | exc _ _ => rw [hk] at p; exact p.elim
    | bad => rw [hk] at p; exact p.elim
  · exact p.elim
theorem wipe_wipe (σ : St) (own : List Nat) : wipe (wipe σ own) own = wipe σ own := wipe_same (ts := []) (σ2 := wipe σ own) Same.refl (fun _ h => nomatch h)
section
variable {scope : Scope} {ow : List (Str × Nat)} {it : M (List T)} {m : T → M Unit} {im : M Bool} {em : M R}
/-- the reading of a list comprehension -/
theorem lc_red (hts : ∀ i ∈ ts, i ∈ ow.map (·.2)) (h : tE g W false (blk (ow.map (·.2)) it (fun xs => compL (ow.map (·.2)) (turnM m im (one (takeM em))) xs []) (mkList false)) σ H Q) :
    tLc (tIt g W it) (tG g W0 ts m) (tT g W0 false im) (tE g W0 false em) (ow.map (·.2)) σ H Q := by
    obtain ⟨F, E, fp, w, re, p⟩ := h
    refine ⟨F, E, fp, w, re, Post.imp (Post.bind p) (fun xs E1 p1 => ?_) fun _ _ h => h⟩
    intro J H1 F1 fp1 a1 w1 re1 wk hz
    obtain ⟨as, E2, c, hown, hk, hf, p2⟩ := blkR_inv p1
    have hf' : some (R.val (.lst true as)) = some c := by rw [← hf]; rfl
    cases hf'
    obtain ⟨fpw, dead, pm, rew⟩ := wipe_rep (ow.map (·.2)) re1
    have ww := w1.sub pm
    have aw : Aft F1 F1 H1 H1 fp1 fpw := Aft.here fun a ha => mem_of_perm pm (List.mem_append_left _ ha)
    refine lc_run ww rew (wipe_wipe σ _) wk (fun F' H' fp' a => (aw.trans a).stay0 w1) hz hts hk fun D H2 F2 fa fp2 accv a2 w2 re2 hD racc => ?_
    have a12 := aw.trans a2
    obtain ⟨fp3, dead3, pm3, re3⟩ := rest_rep (σ := σ) re1 (a12.stay0 w1) re2 (ow.map (·.2)) hown
    rw [rest_wipe] at re3
    have pm4 : (D :: (fa ++ fp2)).Perm (((D :: fa) ++ fp3) ++ dead3) := prm fun c => by have := prm_of pm3 c; simp only [List.count_append, List.count_cons] at *; omega
    exact p2 (.ref D) H2 F2 (D :: fa) fp3 ((a1.trans a12).sub fun c hc => mem_of_perm pm4 (List.mem_append_left _ hc)) (w2.sub pm4) re3 ⟨D, accv, fa, rfl, racc, .inl ⟨rfl, hD, rfl⟩⟩ fun h => nomatch h
theorem je_lc (hc : X.calm = true) (hN : X.N.Nodup) (hi : JIt X g W tg iter it) (ok : BlkOk X.N X.env.scope scope ow) (hts : ∀ i ∈ ts, i ∈ ow.map (·.2))
    (hg : ∀ (s : Shared) (H : Hp) (C : Addr) (cl : List (Str × Addr)) (fp : List Addr), JG (X.blk s H scope (compEnvC scope cl C X.env) fp) g W0 ts tg m)
    (ht : ∀ (s : Shared) (H : Hp) (C : Addr) (cl : List (Str × Addr)) (fp : List Addr), JTs (X.blk s H scope (compEnvC scope cl C X.env) fp) g W0 ifs im)
    (he : ∀ (s : Shared) (H : Hp) (C : Addr) (cl : List (Str × Addr)) (fp : List Addr), JE (X.blk s H scope (compEnvC scope cl C X.env) fp) g W0 false elt em)
    (hs : ∀ x, foldedSetIterable iter X.env x = pure x) :
    JE X g W false (.ListComp elt [⟨tg, iter, ifs, 0⟩] scope pos) (blk (ow.map (·.2)) it (fun xs => compL (ow.map (·.2)) (turnM m im (one (takeM em))) xs []) (mkList false)) :=
  PE.imp (pe_lc hc hN hi ok hg ht he hs) fun σ H Q h => lc_red hts h
/-- .. over an own list that a slot holds -/
theorem lcN_red {i : Nat} (hts : ∀ i ∈ ts, i ∈ ow.map (·.2)) (h : tE g W false (blkN (ow.map (·.2)) i (iOf (cVar i)) (fun xs => compL (ow.map (·.2)) (turnM m im (one (takeM em))) xs []) (mkList false)) σ H Q) :
    tLc (tIt g W (iOf (cVar i))) (tG g W0 ts m) (tT g W0 false im) (tE g W0 false em) (ow.map (·.2)) σ H Q ∨
    tLc (fun σ H R => tVar i σ H fun x H1 => rItL g.toG.K x H1 R) (tG g W0 ts m) (tT g W0 false im) (tE g W0 false em) (ow.map (·.2)) σ H Q := by
  obtain ⟨F, E, fp, w, re, p⟩ := h
  unfold blkN at p
  have dflt : Post (blk (ow.map (·.2)) (iOf (cVar i)) (fun xs => compL (ow.map (·.2)) (turnM m im (one (takeM em))) xs []) (mkList false) E) (okE g false σ F H fp Q) (xP g W σ F H fp) → (tLc (tIt g W (iOf (cVar i))) (tG g W0 ts m) (tT g W0 false im) (tE g W0 false em) (ow.map (·.2)) σ H Q ∨
    tLc (fun σ H R => tVar i σ H fun x H1 => rItL g.toG.K x H1 R) (tG g W0 ts m) (tT g W0 false im) (tE g W0 false em) (ow.map (·.2)) σ H Q) := fun p => Or.inl (lc_red hts ⟨F, E, fp, w, re, p⟩)
  cases hE : E[i]? with
  | none => simp only [hE] at p; exact dflt p
  | some t =>
    simp only [hE] at p
    split at p
    · rename_i xs heq
      cases heq
      split at p
      · rename_i hp
        rw [Bool.and_eq_true] at hp
        have hni2 : i ∉ ow.map (·.2) := by have := hp.2; simpa using this
        cases hb : blkR (ow.map (·.2)) (compL (ow.map (·.2)) (turnM m im (one (takeM em))) xs []) (mkList false) (E.set i .hole) with
        | bad => rw [hb] at p; exact p.elim
        | exc x E' =>
          exfalso
          unfold blkR at hb
          split at hb
          · split at hb
            · split at hb <;> cases hb
            · cases hb
          · cases hb
        | ok c E' =>
          rw [hb] at p
          have p1 : Post (blkR (ow.map (·.2)) (compL (ow.map (·.2)) (turnM m im (one (takeM em))) xs []) (mkList false) (E.set i .hole)) (fun c' E'' => c' = c ∧ E'' = E') (fun _ _ => False) := post_of hb
          obtain ⟨as, E2, c', hown, hk, hf, ec, eE⟩ := blkR_inv p1
          have hf' : some (R.val (.lst true as)) = some c' := by rw [← hf]; rfl
          cases hf'
          subst ec
          -- the list is away
          obtain ⟨wd, fo, rest, e1, ro, pm, kk⟩ := re.nth hE
          obtain ⟨wv, rfl, rl⟩ := ro.at (by intro z; cases z)
          obtain ⟨a, vs, fs, rfl, r1, ⟨_, ea, rfl⟩ | ⟨h, _⟩⟩ := rl
          · have hfs := RepL.pure xs r1 hp.1
            subst hfs
            obtain ⟨fp0, pm0, re0⟩ := kk F H .hole (some (.ref a)) [] ⟨fun _ h => h, fun _ _ e _ => e⟩ rfl
            have e3 : σ.set i (some (.ref a)) = σ := by
              apply List.ext_getElem?
              intro j
              by_cases hj : i = j
              · subst hj
                rw [List.getElem?_set_self (List.getElem?_eq_some_iff.mp e1).1, e1]
              · rw [List.getElem?_set_ne hj]
            rw [e3] at re0
            have pma : fp.Perm (a :: fp0) := prm fun c => by have h1 := prm_of pm c; have h2 := prm_of pm0 c; simp only [List.count_append, List.count_cons, List.count_nil] at *; omega
            have wa : Wf F H (a :: fp0) := w.perm pma
            have w0 : Wf F H fp0 := Wf.right (ft := [a]) wa
            obtain ⟨fpw, dead, pmw, rew⟩ := wipe_rep (ow.map (·.2)) re0
            have ww := w0.sub pmw
            have aw : Aft F F H H fp0 fpw := Aft.here fun c hc => mem_of_perm pmw (List.mem_append_left _ hc)
            have na : a ∉ fp0 := (List.nodup_cons.mp wa.nd).1
            have stA : ∀ {F' : Addr → Prop} {H' : Hp} {fp' : List Addr}, Aft F F' H H' fpw fp' → H' a = some (.lst vs) ∧ RepL g.toG F' H' xs vs [] := fun {F' H' fp'} af => by
              have af' := aw.trans af
              exact ⟨af'.keep a _ ea na, RepL.stay xs r1 (af'.stay0 w0)⟩
            refine Or.inr ⟨.ref a, e1, a, vs, rfl, SqL.of ea, fun hz => ?_⟩
            have wk : Walk g.toG (Itl g.toG.K a) xs fun F' H' => H' a = some (.lst vs) ∧ RepL g.toG F' H' xs vs [] := by
              refine ⟨fun F' H' i s hi => ⟨vs, vs[i]'(by rw [← r1.length]; exact hi), SqL.of s.1, by simp⟩, fun F' H' i x H2 t s e y => ?_, fun F' H' i s hi => ⟨vs, SqL.of s.1, by rw [← r1.length]; exact hi⟩⟩
              obtain ⟨rfl, y⟩ := y
              exact ⟨fun _ _ h => h, s.2.nth0 e (y vs (SqL.of s.1))⟩
            refine lc_run ww rew (wipe_wipe σ _) wk (fun F' H' fp' af => stA af) (by rw [r1.length]; exact hz) hts hk fun D H2 F2 fa fp2 accv a2 w2 re2 hD racc => ?_
            have a12 := aw.trans a2
            obtain ⟨fp3, dead3, pm3, re3⟩ := rest_rep (σ := σ) re0 (a12.stay0 w0) re2 (ow.map (·.2)) hown
            rw [rest_wipe, eE] at re3
            have pm4 : (D :: (fa ++ fp2)).Perm (((D :: fa) ++ fp3) ++ dead3) := prm fun c => by have := prm_of pm3 c; simp only [List.count_append, List.count_cons] at *; omega
            have w3 : Wf F2 H2 ((D :: fa) ++ fp3) := w2.sub pm4
            have a3 : Aft F F2 H H2 fp0 ((D :: fa) ++ fp3) := a12.sub fun c hc => mem_of_perm pm4 (List.mem_append_left _ hc)
            -- and back
            obtain ⟨wfa, sta, afa⟩ := frame (ft := [a]) wa (fun c hc => by rw [List.mem_singleton.mp hc]; exact ⟨_, ea, trivial⟩) a3 w3
            have ea2 : H2 a = some (.lst vs) := a3.keep a _ ea na
            have ra2 : Rep g.toG F2 H2 (.lst true xs) (.ref a) [a] := ⟨a, vs, [], rfl, RepL.stay xs r1 (a3.stay0 w0), .inl ⟨rfl, ea2, rfl⟩⟩
            obtain ⟨fp5, dead5, pm5, re5⟩ := set_any (i := i) (o' := some (.ref a)) re3 (.of rfl ra2)
            rw [e3] at re5
            have pm6 : ([a] ++ ((D :: fa) ++ fp3)).Perm (((D :: fa) ++ fp5) ++ dead5) := prm fun c => by have := prm_of pm5 c; simp only [List.count_append, List.count_cons, List.count_nil] at *; omega
            exact p (.ref D) H2 F2 (D :: fa) fp5 ((Aft.trans (Aft.here fun c hc => mem_of_perm pma hc) afa).sub fun c hc => mem_of_perm pm6 (List.mem_append_left _ hc)) (wfa.sub pm6) re5 ⟨D, accv, fa, rfl, racc, .inl ⟨rfl, hD, rfl⟩⟩ fun h => nomatch h
          · cases h
      · exact p.elim
    · exact dflt p
theorem je_lcN {n : Str} {pn : Pos} {i : Nat} (fit : Fits g X) (hc : X.calm = true) (hN : X.N.Nodup) (hni : X.N[i]? = some n) (hv : Vis X.env.scope n) (hd : (n == ("__debug__" : Str)) = false) (hcd : (n == ("__classdict__" : Str)) = false)
    (ok : BlkOk X.N X.env.scope scope ow) (hts : ∀ i ∈ ts, i ∈ ow.map (·.2))
    (hg : ∀ (s : Shared) (H : Hp) (C : Addr) (cl : List (Str × Addr)) (fp : List Addr), JG (X.blk s H scope (compEnvC scope cl C X.env) fp) g W0 ts tg m)
    (ht : ∀ (s : Shared) (H : Hp) (C : Addr) (cl : List (Str × Addr)) (fp : List Addr), JTs (X.blk s H scope (compEnvC scope cl C X.env) fp) g W0 ifs im)
    (he : ∀ (s : Shared) (H : Hp) (C : Addr) (cl : List (Str × Addr)) (fp : List Addr), JE (X.blk s H scope (compEnvC scope cl C X.env) fp) g W0 false elt em)
    (hs : ∀ x, foldedSetIterable (.Name n pn) X.env x = pure x) :
    JE X g W false (.ListComp elt [⟨tg, .Name n pn, ifs, 0⟩] scope pos) (blkN (ow.map (·.2)) i (iOf (cVar i)) (fun xs => compL (ow.map (·.2)) (turnM m im (one (takeM em))) xs []) (mkList false)) := by
  have plain := je_lc (W := W) (pos := pos) hc hN (jit_of fit (je_var (b := false) hni hv hd hcd)) ok hts hg ht he hs
  have base := pe_lc (pos := pos) hc hN (pi_v (pe_var hni hv hd hcd) (piv_list (tg := tg))) ok hg ht he hs
  refine ⟨fun pins s σ H Q I h => ?_⟩
  rcases lcN_red hts h with z | z
  · exact (pe_lc (pos := pos) hc hN (jit_of (W := W) fit (je_var (b := false) hni hv hd hcd)) ok hg ht he hs).run pins s σ H Q I z
  · rw [fit.K] at z
    exact base.run pins s σ H Q I z
end
end
end PV

/-! V19: statements -/
namespace PV
open PySem L2

/-- what is wanted behind a statement -/
def okS (g : GX) (pm : List Nat) (σ : St) (F : Addr → Prop) (H : Hp) (fp : List Addr) (D : Ends) (f : Fl) (E' : Env) : Prop := match f with
  | .nx => ∀ σ' H' F' fp', Prot pm σ σ' → Aft F F' H H' fp fp' → Wf F' H' fp' → RepE g.toG F' H' E' σ' fp' → D.nx σ' H'
  | .ret t => ∀ v σ' H' F' ft fp', Prot pm σ σ' → Aft F F' H H' fp (ft ++ fp') → Wf F' H' (ft ++ fp') → RepE g.toG F' H' E' σ' fp' → Rep g.toG F' H' t v ft → D.rt v H'
  | .brk => ∀ σ' H' F' fp', Prot pm σ σ' → Aft F F' H H' fp fp' → Wf F' H' fp' → RepE g.toG F' H' E' σ' fp' → D.bk σ' H'
  | .ct => ∀ σ' H' F' fp', Prot pm σ σ' → Aft F F' H H' fp fp' → Wf F' H' fp' → RepE g.toG F' H' E' σ' fp' → D.ct σ' H'
theorem okS.later {g : GX} {pm : List Nat} {σ σ1 : St} {F F1 : Addr → Prop} {H H1 : Hp} {fp fp1 : List Addr} {D : Ends} {f : Fl} {E' : Env} (h : okS g pm σ F H fp D f E') (s : Prot pm σ σ1) (a : Aft F F1 H H1 fp fp1) : okS g pm σ1 F1 H1 fp1 D f E' := by
  cases f with
  | nx => exact fun σ' H' F' fp' s' a' => h σ' H' F' fp' (s.trans s') (a.trans a')
  | brk => exact fun σ' H' F' fp' s' a' => h σ' H' F' fp' (s.trans s') (a.trans a')
  | ct => exact fun σ' H' F' fp' s' a' => h σ' H' F' fp' (s.trans s') (a.trans a')
  | ret t => exact fun v σ' H' F' ft fp' s' a' => h v σ' H' F' ft fp' (s.trans s') (a.trans a')
def tS (g : GX) (W : WX) (pm : List Nat) (m : M Fl) : TS := fun D σ H => ∃ F E fp, Wf F H fp ∧ RepE g.toG F H E σ fp ∧ Post (m E) (okS g pm σ F H fp D) (sP g W (Prot pm σ) F H fp)
abbrev JS (X : Cx) (g : GX) (W : WX) (pm : List Nat) (st : Stmt) (m : M Fl) : Prop := PS X st (tS g W pm m)
abbrev JSs (X : Cx) (g : GX) (W : WX) (pm : List Nat) (sts : List Stmt) (m : M Fl) : Prop := PSs X sts (tS g W pm m)
theorem PS.imp {X : Cx} {e : Stmt} {t t' : TS} (h : PS X e t) (k : ∀ σ H D, t' D σ H → t D σ H) : PS X e t' := ⟨fun pins s σ H D I q => h.run pins s σ H D I (k σ H D q)⟩
theorem PSs.imp {X : Cx} {e : List Stmt} {t t' : TS} (h : PSs X e t) (k : ∀ σ H D, t' D σ H → t D σ H) : PSs X e t' := ⟨fun pins s σ H D I q => h.run pins s σ H D I (k σ H D q)⟩

section
variable {X : Cx} {e ea eb ec tg o k0 iter elt : Expr} {g : GX} {W : WX} {F F' F0 F1 F2 F3 : Addr → Prop} {H H' H0 H1 H2 H3 : Hp} {fp fp' fp0 fp1 fp2 fp3 ft fu fq fr fs rest : List Addr} {t u z : T} {v x y : V} {σ σ' σ2 : St} {E E' E0 E1 E2 : Env} {r s : R} {Q : VK} {b b' b1 b2 q : Bool}
variable {ma mb mc : M R} {na nb nc : M Bool} {pos p p2 : Pos} {es ifs : List Expr} {ei : T → T → Option Bool} {gi : GI} {ts ts' own pm : List Nat} {D : Ends}
variable {sa sb : M Fl} {st : Stmt} {sts sts' : List Stmt}

theorem js_pass : JS X g W pm (.Pass pos) sNx := PS.imp ps_pass fun σ H D h => by
  obtain ⟨F, E, fp, w, re, p⟩ := h
  exact p.pure σ H F fp Prot.refl Aft.refl w re
theorem js_doc {x : Str} {j : Nat} {pos' : Pos} : JS X g W pm (.Expr (.Constant (.str x) j pos) pos') sNx := PS.imp ps_doc fun σ H D h => by
  obtain ⟨F, E, fp, w, re, p⟩ := h
  exact p.pure σ H F fp Prot.refl Aft.refl w re
theorem js_break : JS X g W pm (.Break pos) (M.pure .brk) := PS.imp ps_break fun σ H D h => by
  obtain ⟨F, E, fp, w, re, p⟩ := h
  exact p.pure σ H F fp Prot.refl Aft.refl w re
theorem js_continue : JS X g W pm (.Continue pos) (M.pure .ct) := PS.imp ps_continue fun σ H D h => by
  obtain ⟨F, E, fp, w, re, p⟩ := h
  exact p.pure σ H F fp Prot.refl Aft.refl w re
theorem js_retN : JS X g W pm (.Return none pos) sRetN := PS.imp ps_retN fun σ H D h => by
  obtain ⟨F, E, fp, w, re, p⟩ := h
  exact p.pure .non σ H F [] fp Prot.refl Aft.refl w re ⟨rfl, rfl⟩
/-- an expression, ahead of a statement's rest -/
theorem seeS {α : Type} {k : R → M α} {P : α → Env → Prop} {K : V → Hp → Prop} (w : Wf F H fp) (re : RepE g.toG F H E σ fp) (p : Post (M.bind ma k E) P (sP g W (Prot pm σ) F H fp))
    (h : ∀ x H1 F1 fr fp1 r E1, Aft F F1 H H1 fp (fr ++ fp1) → Wf F1 H1 (fr ++ fp1) → RepE g.toG F1 H1 E1 σ fp1 → RepR g.toG F1 H1 σ r x fr → (b = true → Ext H H1) → Post (k r E1) P (sP g W (Prot pm σ) F H fp) → K x H1) : tE g W b ma σ H K :=
  ⟨F, E, fp, w, re, p.bind.imp (fun r E1 p1 x H1 F1 fr fp1 a1 w1 re1 rr ex => h x H1 F1 fr fp1 r E1 a1 w1 re1 rr ex p1) fun _ _ h => h.x Prot.refl⟩
theorem js_ret (ha : JE X g W b e ma) : JS X g W pm (.Return (some e) pos) (sRet ma) := PS.imp (ps_ret ha) fun σ H D h => by
  obtain ⟨F, E, fp, w, re, p⟩ := h
  refine seeS w re p fun x H1 F1 fr fp1 r E1 a1 w1 re1 rr ex p1 => ?_
  obtain ⟨t, E2, f, fp2, p2, rt, re2, pm⟩ := take_rep rr w1 re1 p1.bind
  exact p2.pure x σ H1 F1 f fp2 Prot.refl (a1.sub fun a ha => mem_of_perm pm.symm ha) (w1.perm pm.symm) re2 rt
theorem js_expr (ha : JE X g W b e ma) (hs : swapsWith e none pos.line X.env = pure false) : JS X g W pm (.Expr e pos) (sExpr ma) := PS.imp (ps_expr ha hs) fun σ H D h => by
  obtain ⟨F, E, fp, w, re, p⟩ := h
  refine seeS w re p fun x H1 F1 fr fp1 r E1 a1 w1 re1 rr ex p1 => ?_
  exact p1.pure σ H1 F1 fp1 Prot.refl (a1.sub fun a ha => List.mem_append_right _ ha) w1.right re1
/-- target = value, the target's reading -/
theorem asg_red {m : T → M Unit} (hd : (pm.all fun i => !ts.contains i) = true) (h : tS g W pm (sAsg ma m) D σ H) : tAsg (tE g W b ma) (tG g W ts m) D σ H := by
  obtain ⟨F, E, fp, w, re, p⟩ := h
  refine seeS w re p fun x H1 F1 fr fp1 r E1 a1 w1 re1 rr ex p1 => ?_
  obtain ⟨t, E2, f, fp2, p2, rt, re2, pmm⟩ := take_rep rr w1 re1 p1.bind
  have a2 : Aft F F1 H H1 fp (f ++ fp2) := a1.sub fun a ha => mem_of_perm pmm.symm ha
  refine ⟨F1, E2, fp2, f, t, w1.perm pmm.symm, re2, rt, p2.bind.imp (fun _ E3 p3 => ?_) fun _ _ h => h.later a2 fun σ' s => s.prot hd⟩
  intro σ' H3 F3 fp3 a3 w3 re3 s3
  exact p3.pure σ' H3 F3 fp3 (s3.prot hd) (a2.trans a3) w3 re3
/-- name = value -/
theorem js_set {i : Nat} {n : Str} {pn : Pos} {md : Md} (hN : X.N.Nodup) (hi : X.N[i]? = some n) (hx : Loc X.env.scope n) (ha : JE X g W b e ma) (hs : swapsWith e (some (.Name n pn)) pos.line X.env = pure false) (hf : X.fn n = true ∨ X.env.scope.names.lookup n = some .local)
    (hd : (pm.all fun j => !([i] : List Nat).contains j) = true) : JS X g W pm (.Assign [.Name n pn] e pos) (sAsg ma (gSlot md i)) :=
  PS.imp (ps_set hN hi hx ha hs hf) fun σ H D h => by
    have h2 := asg_red (b := b) (ts := [i]) hd h
    obtain ⟨F, E, fp, w, re, p⟩ := h2
    exact ⟨F, E, fp, w, re, p.imp (fun r E' k v H' F' fr fp' a w' re' rr ex => gname_red (k v H' F' fr fp' a w' re' rr ex)) fun _ _ h => h⟩
/-- o.f = value -/
theorem js_fld {f : Str} {pf : Pos} (hc : ∀ C Ca, g.toG.cls C = some Ca → Cls X.K Ca ∧ NoAttr X.K Ca f) (ho : JE X g W b' o mb) (ha : JE X g W b e ma) (hs : swapsWith e (some (.Attribute o f pf)) pos.line X.env = pure false) : JS X g W pm (.Assign [.Attribute o f pf] e pos) (sAsg ma (gAttr mb f)) :=
  PS.imp (ps_fld ho ha hs) fun σ H D h => by
    have h2 := asg_red (b := b) (ts := []) (by simp) h
    obtain ⟨F, E, fp, w, re, p⟩ := h2
    exact ⟨F, E, fp, w, re, p.imp (fun r E' k v H' F' fr fp' a w' re' rr ex => gattr_red (b := b') hc (k v H' F' fr fp' a w' re' rr ex)) fun _ _ h => h⟩
/-- o[k] = value -/
theorem js_sub {pf : Pos} (fit : Fits g X) (ho : JE X g W b' o mb) (hk : JE X g W q k0 mc) (ha : JE X g W b e ma) (hs : swapsWith e (some (.Subscript o k0 pf)) pos.line X.env = pure false) : JS X g W pm (.Assign [.Subscript o k0 pf] e pos) (sAsg ma (PV.gSub q mb mc)) := by
  have base : PS X (.Assign [.Subscript o k0 pf] e pos) (tAsg (tE g W b ma) (L2.gSub (tE g W b' mb) (tE g W q mc) (fun o i v H Q => rSetL o i v H Q ∨ rSetD o i v H Q))) := by
    refine ⟨fun pins s σ H D I h => ?_⟩
    refine wpAny_Assign_Subscript (thn (ha.run pins s σ H _ I h) fun r s1 ⟨v, H1, I1, rv, q1⟩ => thn (ho.run pins s1 σ H1 _ I1 q1) fun u s2 ⟨x, H2, I2, rx, q2⟩ => thn (hk.run pins s2 σ H2 _ I2 q2) fun iv s3 ⟨y, H3, I3, ry, q3⟩ => ?_) hs
    exact thn ((PSet.or set_list (set_dict (by have := fit.hu; omega))) pins s3 σ H3 x y v u iv r _ I3 rx ry rv q3) fun _ s4 ⟨H4, I4, q4⟩ => ⟨σ, H4, I4, q4⟩
  exact PS.imp base fun σ H D h => by
    have h2 := asg_red (b := b) (ts := []) (by simp) h
    obtain ⟨F, E, fp, w, re, p⟩ := h2
    exact ⟨F, E, fp, w, re, p.imp (fun r E' k v H' F' fr fp' a w' re' rr ex => gsub_red fit (b := b') (k v H' F' fr fp' a w' re' rr ex)) fun _ _ h => h⟩
/-- (a, b, ..) = value -/
theorem js_tup {m : T → M Unit} {es : List Expr} {kt : Nat} {pt : Pos} (hg : JG X g W ts (.Tuple es kt pt) m) (ha : JE X g W b e ma) (hs : swapsWithSole [.Tuple es kt pt] e pos.line X.env = pure false) (hw : swappedStores [.Tuple es kt pt] e X.env = pure none)
    (h1 : (assignEach [.Tuple es kt pt] X.env).map (·.2) = [assign (.Tuple es kt pt) X.env]) (hd : (pm.all fun i => !ts.contains i) = true) : JS X g W pm (.Assign [.Tuple es kt pt] e pos) (sAsg ma m) :=
  PS.imp (ps_asg ha hg hs hw h1) fun σ H D h => asg_red hd h
/-! ### in a row -/
theorem js_if (hc : JT X g W b ec nc) (h1 : JSs X g W pm sts sa) (h2 : JSs X g W pm sts' sb) : JS X g W pm (.If ec sts sts' pos) (cIf nc sa sb) := PS.imp (ps_if hc h1 h2) fun σ H D h => by
  obtain ⟨F, E, fp, w, re, p⟩ := h
  refine ⟨F, E, fp, w, re, p.bind.imp (fun c E1 p1 => ?_) fun _ _ h => h.x Prot.refl⟩
  intro H1 F1 fp1 a1 w1 re1 ex
  cases c with
  | true =>
    rw [if_pos rfl] at p1 ⊢
    exact ⟨F1, E1, fp1, w1, re1, p1.imp (fun f E' z => okS.later z Prot.refl a1) fun _ _ h => h.later a1 fun _ s => s⟩
  | false =>
    rw [if_neg (by decide)] at p1 ⊢
    exact ⟨F1, E1, fp1, w1, re1, p1.imp (fun f E' z => okS.later z Prot.refl a1) fun _ _ h => h.later a1 fun _ s => s⟩
theorem jss_nil : JSs X g W pm [] sNx := PSs.imp pss_nil fun σ H D h => by
  obtain ⟨F, E, fp, w, re, p⟩ := h
  exact p.pure σ H F fp Prot.refl Aft.refl w re
theorem jss_one (h : JS X g W pm st sa) : JSs X g W pm [st] sa := pss_one h
theorem seq_red (h : tS g W pm (sSeq sa sb) D σ H) : tSeq (tS g W pm sa) (tS g W pm sb) D σ H := by
  obtain ⟨F, E, fp, w, re, p⟩ := h
  refine ⟨F, E, fp, w, re, Post.imp (Post.bind p) (fun f E1 p1 => ?_) fun _ _ h => h⟩
  cases f with
  | nx =>
    intro σ' H' F' fp' s a w' re'
    have p2 : Post (sb E1) (okS g pm σ F H fp D) (sP g W (Prot pm σ) F H fp) := p1
    exact ⟨F', E1, fp', w', re', p2.imp (fun f E' z => okS.later z s a) fun _ _ h => h.later a fun _ s' => s.trans s'⟩
  | ret t => exact p1
  | brk => exact p1
  | ct => exact p1
theorem jss_cons (h1 : JS X g W pm st sa) (h2 : JSs X g W pm sts sb) : JSs X g W pm (st :: sts) (sSeq sa sb) := PSs.imp (pss_cons h1 h2) fun σ H D h => seq_red h
/-! ### loops -/
theorem js_for {it : M (List T)} {m : T → M Unit} (hp : PassesOwn (model X.prog X.w) X.A X.env X.xe) (hc : X.calm = true) (hi : JIt X g W tg iter it) (hg : JG X g W ts tg m) (hb : JSs X g W pm sts sb) (hs : ∀ x, foldedSetIterable iter X.env x = pure x)
    (hd : (pm.all fun i => !ts.contains i) = true) : JS X g W pm (.For tg iter sts [] pos) (sFor it m sb) :=
  PS.imp (ps_for hp hc hi hg hb hs) fun σ H D h => by
    obtain ⟨F, E, fp, w, re, p⟩ := h
    refine ⟨F, E, fp, w, re, Post.imp (Post.bind p) (fun xs E1 p1 => ?_) fun _ _ h => h.x Prot.refl⟩
    intro J H1 F1 fp1 a1 w1 re1 wk hz
    let Iv : Nat → St → Hp → Prop := fun i σi H => ∃ F E fpi, Prot pm σ σi ∧ Aft F1 F H1 H fp1 fpi ∧ Wf F H fpi ∧ RepE g.toG F H E σi fpi ∧
      Post (forL (fun x => M.bind (m x) fun _ => sb) (xs.drop i) E) (okS g pm σi F H fpi D) (sP g W (Prot pm σi) F H fpi)
    have p1' : Post (forL (fun x => M.bind (m x) fun _ => sb) (xs.drop 0) E1) (okS g pm σ F H fp D) (sP g W (Prot pm σ) F H fp) := p1
    refine ⟨fun i m' σi H => m' = xs.length - i ∧ i ≤ xs.length ∧ Iv i σi H, ⟨xs.length, by simp, Nat.zero_le _, F1, E1, fp1, Prot.refl, Aft.refl, w1, re1, p1'.imp (fun f E' z => okS.later z Prot.refl a1) fun _ _ h => h.later a1 fun _ s => s⟩, ?_⟩
    rintro i m' σi H ⟨rfl, hi, F, E, fpi, pr, af, wf, re, p2⟩
    by_cases hlt : i < xs.length
    · refine .inr ⟨wk.go F H i (af.stay0 w1) hlt, Iv (i + 1), fun σ' H' q => ⟨xs.length - (i + 1), by omega, rfl, hlt, q⟩, fun x H' y => ?_⟩
      obtain ⟨ex, rx⟩ := wk.yld F H i x H' xs[i] (af.stay0 w1) (by simp) y
      have wf' := wf.ext ex
      have re' := re.stay (fp := fpi) (stay_ext (F := F) ex)
      have af' : Aft F1 F H1 H' fp1 fpi := af.trans (ext_aft ex)
      rw [List.drop_eq_getElem_cons hlt] at p2
      have p3 : Post (M.bind (M.bind (m xs[i]) fun _ => sb) _ E) _ _ := p2
      have p4 : Post (M.bind (m xs[i]) (fun _ => sb) E) _ _ := p3.bind
      refine ⟨F, E, fpi, [], xs[i], by simpa using wf', re', rx, p4.bind.imp (fun _ E2 p5 => ?_) fun _ _ h => h.later (ext_aft ex) fun _ s => s.prot hd⟩
      intro σ2 H2 F2 fp2 a2 w2 re2 s2
      have a2' : Aft F F2 H H2 fpi fp2 := (ext_aft ex).trans (by simpa using a2)
      have pr2 := s2.prot hd
      refine ⟨F2, E2, fp2, w2, re2, p5.imp (fun f E3 p6 => ?_) fun _ _ h => h.later a2' fun _ s => pr2.trans s⟩
      have again : ∀ (p7 : Post (forL (fun x => M.bind (m x) fun _ => sb) (xs.drop (i + 1)) E3) (okS g pm σi F H fpi D) (sP g W (Prot pm σi) F H fpi)) σ' H' F' fp', Prot pm σ2 σ' → Aft F2 F' H2 H' fp2 fp' → Wf F' H' fp' → RepE g.toG F' H' E3 σ' fp' → Iv (i + 1) σ' H' := fun p7 σ' H' F' fp' s a w' re' =>
        ⟨F', E3, fp', pr.trans (pr2.trans s), af.trans (a2'.trans a), w', re', p7.imp (fun f E' z => okS.later z (pr2.trans s) (a2'.trans a)) fun _ _ h => h.later (a2'.trans a) fun _ s' => (pr2.trans s).trans s'⟩
      cases f with
      | nx => exact again p6
      | ct => exact again p6
      | brk => exact fun σ' H' F' fp' s a => p6.pure σ' H' F' fp' (pr2.trans s) (a2'.trans a)
      | ret t => exact fun v σ' H' F' ft fp' s a => p6.pure v σ' H' F' ft fp' (pr2.trans s) (a2'.trans a)
    · have ei : i = xs.length := by omega
      subst ei
      rw [List.drop_length] at p2
      exact .inl ⟨wk.stop F H _ (af.stay0 w1) (Nat.le_refl _), p2.pure σi H F fpi Prot.refl Aft.refl wf re⟩
theorem js_while (hp : PassesOwn (model X.prog X.w) X.A X.env X.xe) (hc : JT X g W b ec nc) (hb : JSs X g W pm sts sb) : JS X g W pm (.While ec sts [] pos) (sWhile nc sb) :=
  PS.imp (ps_while hp hc hb) fun σ H D h => by
    obtain ⟨F, E, fp, w, re, p⟩ := h
    let Iv : Nat → St → Hp → Prop := fun n σi H => ∃ F E fpi, Wf F H fpi ∧ RepE g.toG F H E σi fpi ∧ Post (whileL nc sb n E) (okS g pm σi F H fpi D) (sP g W (Prot pm σi) F H fpi)
    refine ⟨Iv, ⟨whileFuel, F, E, fp, w, re, p⟩, ?_⟩
    rintro n σi H ⟨F, E, fpi, wf, re, p1⟩
    cases n with
    | zero => exact p1.elim
    | succ n =>
      have p2 : Post (M.bind nc _ E) _ _ := p1
      refine ⟨F, E, fpi, wf, re, p2.bind.imp (fun c E1 p3 => ?_) fun _ _ h => h.x Prot.refl⟩
      intro H1 F1 fp1 a1 w1 re1 ex
      cases c with
      | false =>
        rw [if_neg (by decide)] at p3 ⊢
        exact p3.pure σi H1 F1 fp1 Prot.refl a1 w1 re1
      | true =>
        rw [if_pos rfl] at p3 ⊢
        refine ⟨Iv n, fun σ' H' q => ⟨n, Nat.lt_succ_self n, q⟩, F1, E1, fp1, w1, re1, p3.bind.imp (fun f E2 p4 => ?_) fun _ _ h => h.later a1 fun _ s => s⟩
        have again : ∀ (p7 : Post (whileL nc sb n E2) (okS g pm σi F H fpi D) (sP g W (Prot pm σi) F H fpi)) σ' H' F' fp', Prot pm σi σ' → Aft F1 F' H1 H' fp1 fp' → Wf F' H' fp' → RepE g.toG F' H' E2 σ' fp' → Iv n σ' H' := fun p7 σ' H' F' fp' s a w' re' =>
          ⟨F', E2, fp', w', re', p7.imp (fun f E' z => okS.later z s (a1.trans a)) fun _ _ h => h.later (a1.trans a) fun _ s' => s.trans s'⟩
        cases f with
        | nx => exact again p4
        | ct => exact again p4
        | brk => exact fun σ' H' F' fp' s a => p4.pure σ' H' F' fp' s (a1.trans a)
        | ret t => exact fun v σ' H' F' ft fp' s a => p4.pure v σ' H' F' ft fp' s (a1.trans a)
end
end PV

/-! V20: a, b = x, y -/
namespace PV
open PySem L2

section
variable {X : Cx} {e ea eb ec tg o k0 iter elt : Expr} {g : GX} {W : WX} {F F' F0 F1 F2 F3 : Addr → Prop} {H H' H0 H1 H2 H3 : Hp} {fp fp' fp0 fp1 fp2 fp3 ft fu fq fr fs rest : List Addr} {t u z : T} {v x y : V} {σ σ' σ2 : St} {E E' E0 E1 E2 : Env} {r s : R} {Q : VK} {b b' b1 b2 q : Bool}
variable {ma mb mc : M R} {na nb nc : M Bool} {pos p p2 : Pos} {es ifs : List Expr} {ei : T → T → Option Bool} {gi : GI} {ts ts' own pm : List Nat} {D : Ends}
variable {sa sb : M Fl} {st : Stmt} {sts sts' : List Stmt} {l : M (List T)} {gs : List T → M Unit}

/-- the items, then the targets -/
theorem par_red {n : Nat} (hd : (pm.all fun i => !ts.contains i) = true) (h : tS g W pm (sPar n l gs) D σ H) : tAI g W b l σ H fun xs H1 => xs.length = n ∧ tGs g W ts gs xs σ H1 D.nx := by
  obtain ⟨F, E, fp, w, re, p⟩ := h
  have p0 : Post (M.bind l (fun ts => M.bind (guardM (decide (ts.length = n))) fun _ => M.bind (gs ts) fun _ => M.pure Fl.nx) E) _ _ := p
  refine ⟨F, E, fp, w, re, p0.bind.imp (fun us E1 p1 => ?_) fun _ _ h => h.x Prot.refl⟩
  intro xs H1 F1 fr fp1 a1 w1 re1 rr ex
  obtain ⟨hl, p3⟩ := p1.bind.guard
  refine ⟨by rw [← rr.length]; simpa using hl, F1, E1, fp1, fr, us, w1, re1, rr, p3.bind.imp (fun _ E2 p4 => ?_) fun _ _ h => h.later a1 fun _ s => s.prot hd⟩
  intro σ' H2 F2 fp2 a2 w2 re2 s2
  exact p4.pure σ' H2 F2 fp2 (s2.prot hd) (a1.trans a2) w2 re2
theorem gnil_red {xs : List V} {K : St → Hp → Prop} (h : tGs g W ts PV.gNil xs σ H K) : xs = [] ∧ K σ H := by
  obtain ⟨F, E, fp, ft, us, w, re, rt, p⟩ := h
  cases us with
  | cons u us => exact p.elim
  | nil =>
    obtain ⟨rfl, rfl⟩ := rt
    exact ⟨rfl, p σ H F fp Aft.refl w re Same.refl⟩
theorem js_par2 {i j : Nat} {n1 n2 : Str} {e1 e2 : Expr} {px py pt : Pos} {kt k2 : Nat} {pt2 : Pos} {m1 m2 : Md} (hc : X.calm = true) (hN : X.N.Nodup) (hi : X.N[i]? = some n1) (hj : X.N[j]? = some n2) (hij : i ≠ j)
    (hx : X.env.scope.names.lookup n1 = some .local) (hy : X.env.scope.names.lookup n2 = some .local) (ha : JI X g W b [e1, e2] l)
    (hw : swappedStores [.Tuple [.Name n1 px, .Name n2 py] kt pt] (.Tuple [e1, e2] k2 pt2) X.env = pure (some [n1, n2]))
    (hs : swapsWithSole [.Tuple [.Name n1 px, .Name n2 py] kt pt] (.Tuple [e1, e2] k2 pt2) pos.line X.env = pure false) (hd : (pm.all fun k => !([i, j] : List Nat).contains k) = true) :
    JS X g W pm (.Assign [.Tuple [.Name n1 px, .Name n2 py] kt pt] (.Tuple [e1, e2] k2 pt2) pos) (sPar 2 l (PV.gCons (gSlot m1 i) (PV.gCons (gSlot m2 j) PV.gNil))) :=
  PS.imp (ps_par hc hN hi hj hij hx hy ha hw hs) fun σ H D h => by
    have h2 := par_red (b := b) (ts := [i] ++ ([j] ++ [])) hd h
    obtain ⟨F, E, fp, w, re, p⟩ := h2
    refine ⟨F, E, fp, w, re, p.imp (fun us E' k vs H' F' fr fp' a w' re' rr ex => ?_) fun _ _ h => h⟩
    obtain ⟨_, q⟩ := k vs H' F' fr fp' a w' re' rr ex
    obtain ⟨v, r, rfl, q1⟩ := gcons_red q
    have q2 := gname_red q1
    obtain ⟨v2, r2, rfl, q3⟩ := gcons_red q2
    have q4 := gname_red q3
    obtain ⟨rfl, q5⟩ := gnil_red q4
    exact ⟨v, v2, rfl, q5⟩
theorem js_par3 {i j l0 : Nat} {n1 n2 n3 : Str} {e1 e2 e3 : Expr} {px py pz pt : Pos} {kt k2 : Nat} {pt2 : Pos} {m1 m2 m3 : Md} (hc : X.calm = true) (hN : X.N.Nodup) (hi : X.N[i]? = some n1) (hj : X.N[j]? = some n2) (hl : X.N[l0]? = some n3) (hij : i ≠ j) (hil : i ≠ l0) (hjl : j ≠ l0)
    (hx : X.env.scope.names.lookup n1 = some .local) (hy : X.env.scope.names.lookup n2 = some .local) (hz : X.env.scope.names.lookup n3 = some .local) (ha : JI X g W b [e1, e2, e3] l)
    (hw : swappedStores [.Tuple [.Name n1 px, .Name n2 py, .Name n3 pz] kt pt] (.Tuple [e1, e2, e3] k2 pt2) X.env = pure (some [n1, n2, n3]))
    (hs : swapsWithSole [.Tuple [.Name n1 px, .Name n2 py, .Name n3 pz] kt pt] (.Tuple [e1, e2, e3] k2 pt2) pos.line X.env = pure false) (hd : (pm.all fun k => !([i, j, l0] : List Nat).contains k) = true) :
    JS X g W pm (.Assign [.Tuple [.Name n1 px, .Name n2 py, .Name n3 pz] kt pt] (.Tuple [e1, e2, e3] k2 pt2) pos) (sPar 3 l (PV.gCons (gSlot m1 i) (PV.gCons (gSlot m2 j) (PV.gCons (gSlot m3 l0) PV.gNil)))) :=
  PS.imp (ps_par3 hc hN hi hj hl hij hil hjl hx hy hz ha hw hs) fun σ H D h => by
    have h2 := par_red (b := b) (ts := [i] ++ ([j] ++ ([l0] ++ []))) hd h
    obtain ⟨F, E, fp, w, re, p⟩ := h2
    refine ⟨F, E, fp, w, re, p.imp (fun us E' k vs H' F' fr fp' a w' re' rr ex => ?_) fun _ _ h => h⟩
    obtain ⟨_, q⟩ := k vs H' F' fr fp' a w' re' rr ex
    obtain ⟨v, r, rfl, q1⟩ := gcons_red q
    obtain ⟨v2, r2, rfl, q3⟩ := gcons_red (gname_red q1)
    obtain ⟨v3, r3, rfl, q5⟩ := gcons_red (gname_red q3)
    obtain ⟨rfl, q6⟩ := gnil_red (gname_red q5)
    exact ⟨v, v2, v3, rfl, q6⟩
/-- .. any targets, any number: the tuple is made -/
theorem js_parG {es tgs : List Expr} {kt k2 n : Nat} {pt pt2 : Pos} (fit : Fits g X) (hc : X.calm = true) (hgs : JGs X g W ts tgs gs) (ha : JI X g W b es l) (hn : (assignEach tgs X.env).length = n) (hst : (assignEach tgs X.env).findIdx? (·.1) = none) (hle : n ≤ lim)
    (hs : swapsWithSole [.Tuple tgs kt pt] (.Tuple es k2 pt2) pos.line X.env = pure false) (hw : swappedStores [.Tuple tgs kt pt] (.Tuple es k2 pt2) X.env = pure none)
    (h1 : (assignEach [.Tuple tgs kt pt] X.env).map (·.2) = [assign (.Tuple tgs kt pt) X.env]) (hd : (pm.all fun k => !ts.contains k) = true) : JS X g W pm (.Assign [.Tuple tgs kt pt] (.Tuple es k2 pt2) pos) (sPar n l gs) :=
  PS.imp (ps_asg (pe_tup ha) (pg_tup (k := kt) (pos := pt) hc hgs hn hst) hs hw h1) fun σ H D h => by
    have h2 := par_red (b := b) (ts := ts) hd h
    obtain ⟨F, E, fp, w, re, p⟩ := h2
    refine ⟨F, E, fp, w, re, p.imp (fun us E' k vs H' F' fr fp' a w' re' rr ex => ?_) fun _ _ h => h⟩
    obtain ⟨hl, q⟩ := k vs H' F' fr fp' a w' re' rr ex
    refine ⟨by rw [hl]; exact le_line hle, fun c hc => ⟨c, vs, rfl, .inl (.inl upd_same), hl, ?_⟩⟩
    obtain ⟨F2, E2, fp2, ft2, us2, w2, re2, r2, p2⟩ := q
    have ex2 := ext_new (o := .tup vs) hc
    exact ⟨F2, E2, fp2, ft2, us2, w2.ext ex2, re2.stay (stay_ext ex2), RepL.stay us2 r2 (stay_ext ex2), p2.imp (fun _ E3 k σ' H3 F3 fp3 a3 => k σ' H3 F3 fp3 ((ext_aft ex2).trans a3)) fun _ _ h => h.later (ext_aft ex2) fun _ s => s⟩
end
end PV

/-! V21: what is lent to a call -/
namespace PV
open PySem L2

section
variable {X : Cx} {e ea eb ec tg o k0 iter elt : Expr} {g : GX} {W : WX} {F F' F0 F1 F2 F3 : Addr → Prop} {H H' H0 H1 H2 H3 : Hp} {fp fp' fp0 fp1 fp2 fp3 ft fu fq fr fs rest : List Addr} {t u z : T} {v x y : V} {σ σ' σ2 : St} {E E' E0 E1 E2 : Env} {r s : R} {Q : VK} {b b' b1 b2 q : Bool}
variable {ma mb mc : M R} {na nb nc : M Bool} {pos p p2 : Pos} {es ifs : List Expr} {ei : T → T → Option Bool} {gi : GI} {ts ts' own pm : List Nat} {D : Ends}

/-- along a place nothing moves, as long as what the slots lean on stays -/
theorem Rep.at_stay : ∀ {p : List Sel} {t s : T} {v w : V} {fp : List Addr}, Rep g.toG F H t v fp → t.getP p = some s → At H v p w → Stay F F' H H' fp → At H' v p w
  | [], t, s, v, w, fp, h, e, a, st => a
  | .fld f :: p, t, s, v, w, fp, h, e, a, st => by
    cases t with
    | ins o C ks ts =>
      cases o with
      | false => simp [T.getP] at e
      | true =>
        have e2 : (look ks ts f).bind (fun t => t.getP p) = some s := e
        cases el : look ks ts f with
        | none => rw [el] at e2; cases e2
        | some u =>
          rw [el] at e2
          obtain ⟨a0, Ca, dx, vs, fs, rfl, ec, r1, l, nd, ea, ⟨_, rfl⟩ | ⟨hh, _⟩⟩ := h
          · obtain ⟨w1, f1, rest, e1, ru, pm, _⟩ := RepL.look r1 el
            obtain ⟨a1, C1, dx1, ks1, us1, u1, e3, e4, e5, a5⟩ := a
            cases e3
            rw [ea] at e4
            have hi := Option.some.inj e4
            injection hi with h1 h2 h3
            have e6 : u1 = w1 := by
              have h4 : (ks.zip vs).lookup f = (ks1.zip us1).lookup f := by rw [h3]
              rw [fields_look, fields_look, e1, e5] at h4
              exact (Option.some.inj h4).symm
            subst e6
            refine ⟨a0, Ca, dx, ks, vs, u1, rfl, st.2 _ _ ea (.inl List.mem_cons_self), e1, ?_⟩
            exact Rep.at_stay ru e2 a5 (st.sub fun c hc => List.mem_cons_of_mem _ (mem_of_perm pm (List.mem_append_left _ hc)))
          · cases hh
    | _ => simp [T.getP] at e
  | .idx n :: p, t, s, v, w, fp, h, e, a, st => by
    cases t with
    | lst o ts =>
      cases o with
      | false => simp [T.getP] at e
      | true =>
        have e2 : (ts[n]?).bind (fun t => t.getP p) = some s := e
        cases el : ts[n]? with
        | none => rw [el] at e2; cases e2
        | some u =>
          rw [el] at e2
          obtain ⟨a0, vs, fs, rfl, r1, ⟨_, ea, rfl⟩ | ⟨hh, _⟩⟩ := h
          · obtain ⟨w1, f1, rest, e1, ru, pm, _⟩ := RepL.nth r1 el
            obtain ⟨a1, us1, u1, e3, e4, e5, a5⟩ := a
            cases e3
            rw [ea] at e4
            cases e4
            rw [e1] at e5
            cases e5
            refine ⟨a0, vs, w1, rfl, st.2 _ _ ea (.inl List.mem_cons_self), e1, ?_⟩
            exact Rep.at_stay ru e2 a5 (st.sub fun c hc => List.mem_cons_of_mem _ (mem_of_perm pm (List.mem_append_left _ hc)))
          · cases hh
    | _ => simp [T.getP] at e
  | .key k :: p, t, s, v, w, fp, h, e, a, st => by
    cases t with
    | dct o ks ts =>
      cases o with
      | false => simp [T.getP] at e
      | true =>
        have e2 : (look ks ts k).bind (fun t => t.getP p) = some s := e
        cases el : look ks ts k with
        | none => rw [el] at e2; cases e2
        | some u =>
          rw [el] at e2
          obtain ⟨a0, vs, fs, rfl, r1, l, nd, ⟨_, ea, rfl⟩ | ⟨hh, _⟩⟩ := h
          · obtain ⟨w1, f1, rest, e1, ru, pm, _⟩ := RepL.look r1 el
            obtain ⟨a1, ks1, us1, u1, e3, e4, e5, a5⟩ := a
            cases e3
            rw [ea] at e4
            have hi := Option.some.inj e4
            injection hi with h3
            have e6 : u1 = w1 := by
              have h4 : valV (ks.zip vs) k = valV (ks1.zip us1) k := by rw [h3]
              rw [← look_find, ← look_find, e1, e5] at h4
              exact (Option.some.inj h4).symm
            subst e6
            refine ⟨a0, ks, vs, u1, rfl, st.2 _ _ ea (.inl List.mem_cons_self), e1, ?_⟩
            exact Rep.at_stay ru e2 a5 (st.sub fun c hc => List.mem_cons_of_mem _ (mem_of_perm pm (List.mem_append_left _ hc)))
          · cases hh
    | _ => simp [T.getP] at e
theorem AtE.stay {i : Nat} {pl : List Sel} (re : RepE g.toG F H E σ fp) (e : plcGet i pl E = some t) (hp : pl ≠ []) (a : AtE H σ i pl x) (st : Stay F F' H H' fp) : AtE H' σ i pl x := by
  obtain ⟨v, e1, q⟩ := a
  unfold plcGet at e
  cases hi : E[i]? with
  | none => rw [hi] at e; cases e
  | some t0 =>
    rw [hi] at e
    have e2 : t0.getP pl = some t := e
    obtain ⟨wd, f, rest, e3, ro, pm, _⟩ := re.nth hi
    have hh : t0 ≠ .hole := by
      intro z
      subst z
      cases pl with
      | nil => exact hp rfl
      | cons s pl => cases s <;> simp [T.getP] at e2
    obtain ⟨w, rfl, r⟩ := ro.at hh
    rw [e1] at e3
    cases e3
    exact ⟨v, e1, Rep.at_stay r e2 q (st.sub fun c hc => mem_of_perm pm (List.mem_append_left _ hc))⟩
/-- what is taken, what is left: fa: of what was taken; fl: of fresh values that are looked at -/
def RepT (g : G) (F : Addr → Prop) (H : Hp) (σ : St) : List R → List Bool → List T → List V → List Addr → List Addr → Prop
  | [], _, us, vs, fa, fl => us = [] ∧ vs = [] ∧ fa = [] ∧ fl = []
  | r :: rs, ms, us, vs, fa, fl => ∃ u us' v vs', us = u :: us' ∧ vs = v :: vs' ∧
      ((ms.headD false = true ∧ ∃ f1 f2, fa = f1 ++ f2 ∧ Rep g F H u v f1 ∧ RepT g F H σ rs (ms.drop 1) us' vs' f2 fl) ∨
       (ms.headD false = false ∧ ((∃ t f1 f2, r = .val t ∧ fl = f1 ++ f2 ∧ Rep g F H t v f1 ∧ RepT g F H σ rs (ms.drop 1) us' vs' fa f2) ∨ (∃ i p, r = .plc i p ∧ AtE H σ i p v ∧ RepT g F H σ rs (ms.drop 1) us' vs' fa fl))))
theorem takes_rep : ∀ {rs : List R} {ms : List Bool} {vs : List V} {fr fp : List Addr} {E E1 : Env} {us : List T}, RepRs g.toG F H σ rs vs fr → Wf F H (fr ++ fp) → RepE g.toG F H E σ fp → takes rs ms E = some (us, E1) →
    ∃ fa fl fp1, (fr ++ fp).Perm ((fa ++ fl) ++ fp1) ∧ RepE g.toG F H E1 σ fp1 ∧ RepT g.toG F H σ rs ms us vs fa fl
  | [], ms, vs, fr, fp, E, E1, us, rr, w, re, e => by
    obtain ⟨rfl, rfl⟩ := rr
    cases e
    exact ⟨[], [], fp, by simp, re, rfl, rfl, rfl, rfl⟩
  | r :: rs, ms, vs, fr, fp, E, E1, us, rr, w, re, e => by
    obtain ⟨v, vs', f1, f2, rfl, rfl, r1, r2⟩ := rr
    unfold takes at e
    have w2 : Wf F H (f2 ++ fp) := by
      refine (w.perm (prm fun c => ?_ : ((f1 ++ f2) ++ fp).Perm (f1 ++ (f2 ++ fp)))).right
      simp only [List.count_append]; omega
    by_cases hm : ms.headD false = true
    · rw [if_pos hm] at e
      cases r with
      | val t =>
        dsimp only at e
        cases ht : takes rs (ms.drop 1) E with
        | none => rw [ht] at e; cases e
        | some q =>
          rw [ht] at e
          cases e
          obtain ⟨fa, fl, fp1, pm, re1, rt⟩ := takes_rep r2 w2 re ht
          exact ⟨f1 ++ fa, fl, fp1, prm fun c => by have := prm_of pm c; simp only [List.count_append] at *; omega, re1, t, q.1, v, vs', rfl, rfl, .inl ⟨hm, f1, fa, rfl, r1, rt⟩⟩
      | plc i p =>
        dsimp only at e
        cases hg : plcGet i p E with
        | none => rw [hg] at e; cases e
        | some t =>
          rw [hg] at e
          dsimp only at e
          cases ht : takes rs (ms.drop 1) (plcSet i p .hole E) with
          | none => rw [ht] at e; cases e
          | some q =>
            rw [ht] at e
            cases e
            have e0 : f1 = [] := r1.1
            have w1 : Wf F H (f1 ++ fp) := by rw [e0]; exact w2.right
            have p0 : Post (takeR (.plc i p) E) (fun t' E' => t' = t ∧ E' = plcSet i p .hole E) (fun _ _ => False) := by
              unfold takeR
              simp only [hg]
              exact ⟨rfl, rfl⟩
            obtain ⟨t', E', f, fp', ⟨rfl, rfl⟩, rt', re', pm'⟩ := take_rep r1 w1 re p0
            have w3 : Wf F H (f2 ++ fp') := by
              refine (w.perm (prm fun c => ?_ : ((f1 ++ f2) ++ fp).Perm (f ++ (f2 ++ fp')))).right
              have := prm_of pm' c
              simp only [List.count_append] at *; omega
            obtain ⟨fa, fl, fp1, pm, re1, rt⟩ := takes_rep r2 w3 re' ht
            exact ⟨f ++ fa, fl, fp1, prm fun c => by have h1 := prm_of pm c; have h2 := prm_of pm' c; simp only [List.count_append] at *; omega, re1, t', q.1, v, vs', rfl, rfl, .inl ⟨hm, f, fa, rfl, rt', rt⟩⟩
    · rw [if_neg hm] at e
      have hm' : ms.headD false = false := by simpa using hm
      cases ht : takes rs (ms.drop 1) E with
      | none => rw [ht] at e; cases e
      | some q =>
        rw [ht] at e
        cases e
        obtain ⟨fa, fl, fp1, pm, re1, rt⟩ := takes_rep r2 w2 re ht
        cases r with
        | val t => exact ⟨fa, f1 ++ fl, fp1, prm fun c => by have := prm_of pm c; simp only [List.count_append] at *; omega, re1, .hole, q.1, v, vs', rfl, rfl, .inr ⟨hm', .inl ⟨t, f1, fl, rfl, rfl, r1, rt⟩⟩⟩
        | plc i p =>
          obtain ⟨rfl, at_⟩ := r1
          exact ⟨fa, fl, fp1, by simpa using pm, re1, .hole, q.1, v, vs', rfl, rfl, .inr ⟨hm', .inr ⟨i, p, rfl, at_, rt⟩⟩⟩
theorem looks_rep (re : RepE g.toG F H E1 σ fp1) : ∀ {rs : List R} {ms : List Bool} {us ts : List T} {vs : List V} {fa fl : List Addr}, RepT g.toG F H σ rs ms us vs fa fl → looks rs ms us E1 = some ts →
    ∃ fz, (∀ a ∈ fz, a ∈ fp1) ∧ (anyFrz rs ms = false → fz = []) ∧ ∀ G : Addr → Prop, (∀ a, F a → G a) → (∀ a ∈ fl, G a) → (∀ a ∈ fz, G a) → RepL g.toG G H ts vs fa
  | [], ms, us, ts, vs, fa, fl, rt, e => by
    obtain ⟨rfl, rfl, rfl, rfl⟩ := rt
    cases e
    exact ⟨[], (fun _ z => nomatch z), fun _ => rfl, fun G _ _ _ => ⟨rfl, rfl⟩⟩
  | r :: rs, ms, us, ts, vs, fa, fl, rt, e => by
    obtain ⟨u, us', v, vs', rfl, rfl, hh⟩ := rt
    unfold looks at e
    dsimp only at e
    rcases hh with ⟨hm, f1, f2, rfl, ru, rt⟩ | ⟨hm, hh⟩
    · rw [if_pos hm] at e
      cases hl : looks rs (ms.drop 1) us' E1 with
      | none => rw [hl] at e; cases e
      | some ts' =>
        rw [hl] at e
        cases e
        obtain ⟨fz, sub, nz, k⟩ := looks_rep re rt hl
        refine ⟨fz, sub, fun h => nz ?_, fun G h1 h2 h3 => ⟨v, vs', f1, f2, rfl, rfl, Rep.stay u ru ⟨h1, fun _ _ e _ => e⟩, k G h1 h2 h3⟩⟩
        cases r with
        | val _ => exact h
        | plc _ _ =>
          have h' : (!(ms.headD false) || anyFrz rs (ms.drop 1)) = false := h
          rw [hm] at h'
          exact h'
    · rw [if_neg (by rw [hm]; decide)] at e
      cases hv : view' r E1 with
      | none => rw [hv] at e; cases e
      | some t0 =>
        rw [hv] at e
        dsimp only at e
        cases hl : looks rs (ms.drop 1) us' E1 with
        | none => rw [hl] at e; cases e
        | some ts' =>
          rw [hl] at e
          cases e
          rcases hh with ⟨t, f1, f2, rfl, rfl, ru, rt⟩ | ⟨i, p, rfl, at_, rt⟩
          · obtain ⟨fz, sub, nz, k⟩ := looks_rep re rt hl
            cases hv
            refine ⟨fz, sub, nz, fun G h1 h2 h3 => ⟨v, vs', [], fa, rfl, rfl, ?_, k G h1 (fun a ha => h2 a (List.mem_append_right _ ha)) h3⟩⟩
            exact Rep.stay _ (Rep.fz ru) ⟨fun a h => h.elim (h1 a) fun z => h2 a (List.mem_append_left _ z), fun _ _ e _ => e⟩
          · obtain ⟨fz, sub, nz, k⟩ := looks_rep re rt hl
            have hv' : plcGet i p E1 = some t0 := hv
            have rv : ∃ f, Rep g.toG F H t0 v f ∧ ∀ a ∈ f, a ∈ fp1 := by
              by_cases hh : t0 = .hole
              · subst hh; exact ⟨[], rfl, fun _ z => nomatch z⟩
              · obtain ⟨w, f, rest, at', r', pm, _⟩ := re.focus hv' (.inl hh)
                rw [at'.det at_] at r'
                exact ⟨f, r', fun a ha => mem_of_perm pm (List.mem_append_left _ ha)⟩
            obtain ⟨f, rv, fs⟩ := rv
            refine ⟨f ++ fz, fun a ha => (List.mem_append.mp ha).elim (fs a) (sub a), fun h => ?_, fun G h1 h2 h3 => ⟨v, vs', [], fa, rfl, rfl, ?_, k G h1 h2 fun a ha => h3 a (List.mem_append_right _ ha)⟩⟩
            · have h' : (!(ms.headD false) || anyFrz rs (ms.drop 1)) = false := h
              rw [hm] at h'
              cases h'
            · exact Rep.stay _ (Rep.fz rv) ⟨fun a h => h.elim (h1 a) fun z => h3 a (List.mem_append_left _ z), fun _ _ e _ => e⟩
/-- what was lent to be changed, behind the call -/
def RepM (g : G) (F : Addr → Prop) (H : Hp) : List Bool → List T → List V → List Addr → Prop
  | _, [], vs, fp => fp = []
  | ms, a :: as, vs, fp => ∃ v vs', vs = v :: vs' ∧ ((ms.headD false = true ∧ ∃ f1 f2, fp = f1 ++ f2 ∧ Rep g F H a v f1 ∧ RepM g F H (ms.drop 1) as vs' f2) ∨ (ms.headD false = false ∧ RepM g F H (ms.drop 1) as vs' fp))
def AtAll (H : Hp) (σ : St) : List R → List Bool → List V → Prop
  | [], _, _ => True
  | r :: rs, ms, vs => match vs with
    | [] => True
    | v :: vs => (∀ i p, r = .plc i p → ms.headD false = true → AtE H σ i p v) ∧ AtAll H σ rs (ms.drop 1) vs
theorem atAll_of (re : RepE g.toG F H E1 σ fp1) (st : Stay F F' H H' fp1) : ∀ {rs : List R} {ms : List Bool} {vs : List V} {fr : List Addr} {F0 : Addr → Prop}, RepRs g.toG F0 H σ rs vs fr → awayOk rs ms E1 = true → AtAll H' σ rs ms vs
  | [], ms, vs, fr, F0, rr, aw => trivial
  | .val t :: rs, ms, vs, fr, F0, rr, aw => by
    obtain ⟨v, vs', f1, f2, rfl, rfl, r1, r2⟩ := rr
    exact ⟨(fun i p e _ => nomatch e), atAll_of re st r2 aw⟩
  | .plc i p :: rs, ms, vs, fr, F0, rr, aw => by
    obtain ⟨v, vs', f1, f2, rfl, rfl, r1, r2⟩ := rr
    unfold awayOk at aw
    rw [Bool.and_eq_true] at aw
    refine ⟨fun i' p' e hm => ?_, atAll_of re st r2 aw.2⟩
    cases e
    have a1 := aw.1
    rw [hm] at a1
    obtain ⟨_, at_⟩ := r1
    by_cases hp : p = []
    · subst hp
      obtain ⟨v0, e0, q0⟩ := at_
      exact ⟨v0, e0, q0⟩
    · cases hg : plcGet i p E1 with
      | none => rw [hg] at a1; cases a1
      | some t => exact at_.stay re hg hp st
theorem give_rep : ∀ {rs : List R} {ms : List Bool} {as : List T} {vs : List V} {fa fp : List Addr} {E E2 : Env}, RepM g.toG F H ms as vs fa → RepE g.toG F H E σ fp → AtAll H σ rs ms vs → giveBack rs ms as E = some E2 →
    ∃ fp2 dead, (fa ++ fp).Perm (fp2 ++ dead) ∧ RepE g.toG F H E2 σ fp2
  | [], ms, as, vs, fa, fp, E, E2, rm, re, at_, e => by
    cases e
    exact ⟨fp, fa, List.perm_append_comm, re⟩
  | r :: rs, ms, as, vs, fa, fp, E, E2, rm, re, at_, e => by
    cases as with
    | nil => cases e
    | cons t as =>
      obtain ⟨v, vs', rfl, hh⟩ := rm
      obtain ⟨at1, at2⟩ := at_
      unfold giveBack at e
      dsimp only at e
      -- the tail's part of what came back
      have tail : ∃ f1 f2, fa = f1 ++ f2 ∧ RepM g.toG F H (ms.drop 1) as vs' f2 ∧ (ms.headD false = true → Rep g.toG F H t v f1) ∧ (ms.headD false = false → f1 = []) := by
        rcases hh with ⟨hm, f1, f2, rfl, r1, r2⟩ | ⟨hm, r2⟩
        · exact ⟨f1, f2, rfl, r2, fun _ => r1, fun h => by rw [hm] at h; cases h⟩
        · exact ⟨[], fa, rfl, r2, fun h => (by rw [hm] at h; cases h), fun _ => rfl⟩
      obtain ⟨f1, f2, rfl, r2, hr, hn⟩ := tail
      have skip : giveBack rs (ms.drop 1) as E = some E2 → ∃ fp2 dead, ((f1 ++ f2) ++ fp).Perm (fp2 ++ dead) ∧ RepE g.toG F H E2 σ fp2 := fun e => by
        obtain ⟨fp2, dead, pm, re2⟩ := give_rep r2 re at2 e
        exact ⟨fp2, f1 ++ dead, prm fun c => by have := prm_of pm c; simp only [List.count_append] at *; omega, re2⟩
      cases r with
      | val t0 => exact skip e
      | plc i p =>
        dsimp only at e
        by_cases hm : ms.headD false = true
        · rw [if_pos hm] at e
          cases hg : plcGet i p E with
          | none => rw [hg] at e; cases e
          | some t0 =>
            rw [hg] at e
            cases t0 with
            | hole =>
              dsimp only at e
              have at0 := at1 i p rfl hm
              have r1 := hr hm
              -- set at the place
              have setp : ∃ fp' dead, (f1 ++ fp).Perm (fp' ++ dead) ∧ RepE g.toG F H (plcSet i p t E) σ fp' := by
                by_cases hp : p = []
                · subst hp
                  obtain ⟨v0, e0, q0⟩ := at0
                  have q0' : v = v0 := q0
                  subst q0'
                  obtain ⟨fp', dead, pm, re'⟩ := set_any (i := i) (o' := some v) re (.of rfl r1)
                  have e3 : σ.set i (some v) = σ := by
                    apply List.ext_getElem?
                    intro j
                    by_cases hj : i = j
                    · subst hj
                      rw [List.getElem?_set_self (List.getElem?_eq_some_iff.mp e0).1, e0]
                    · rw [List.getElem?_set_ne hj]
                  rw [e3] at re'
                  have e4 : plcSet i [] t E = E.set i t := by
                    unfold plcSet
                    cases hi : E[i]? with
                    | none => exact (List.set_eq_of_length_le (by simpa using hi)).symm
                    | some t1 => rfl
                  rw [e4]
                  exact ⟨fp', dead, pm, re'⟩
                · obtain ⟨w, f, rest, at', r', pm, k⟩ := re.focus hg (.inr hp)
                  obtain rfl := at'.det at0
                  obtain ⟨fp', pm', re'⟩ := k F H t f1 ⟨fun _ h => h, fun _ _ e _ => e⟩ r1
                  exact ⟨fp', f, prm fun c => by have h1 := prm_of pm c; have h2 := prm_of pm' c; simp only [List.count_append] at *; omega, re'⟩
              obtain ⟨fp', dead, pm, re'⟩ := setp
              obtain ⟨fp2, dead2, pm2, re2⟩ := give_rep r2 re' at2 e
              exact ⟨fp2, dead2 ++ dead, prm fun c => by have h1 := prm_of pm c; have h2 := prm_of pm2 c; simp only [List.count_append] at *; omega, re2⟩
            | _ => cases e
        · rw [if_neg hm] at e
          exact skip e
/-! no frozen part: the region is nothing to it -/
mutual
theorem Rep.any : ∀ (t : T) {v : V} {fp : List Addr}, Rep g.toG F H t v fp → T.noFrz t = true → Rep g.toG F' H t v fp
  | .pin v0, v, fp, h, _ => h
  | .hole, v, fp, h, _ => h
  | .non, v, fp, h, _ => h
  | .bl b, v, fp, h, _ => h
  | .int i, v, fp, h, _ => h
  | .str x, v, fp, h, _ => h
  | .fn f, v, fp, h, _ => h
  | .tup xs, v, fp, h, n => by
    obtain ⟨a, vs, rfl, q, r⟩ := h
    exact ⟨a, vs, rfl, q, RepL.any xs r n⟩
  | .lst o xs, v, fp, h, n => by
    obtain ⟨a, vs, fs, rfl, r, ⟨rfl, e, rfl⟩ | ⟨rfl, q, rfl, rfl⟩⟩ := h
    · exact ⟨a, vs, fs, rfl, RepL.any xs r (by simpa [T.noFrz] using n), .inl ⟨rfl, e, rfl⟩⟩
    · simp [T.noFrz] at n
  | .dct o ks ts, v, fp, h, n => by
    obtain ⟨a, vs, fs, rfl, r, l, nd, ⟨rfl, e, rfl⟩ | ⟨rfl, q, rfl, rfl⟩⟩ := h
    · exact ⟨a, vs, fs, rfl, RepL.any ts r (by simpa [T.noFrz] using n), l, nd, .inl ⟨rfl, e, rfl⟩⟩
    · simp [T.noFrz] at n
  | .ins o C ks ts, v, fp, h, n => by
    obtain ⟨a, Ca, dx, vs, fs, rfl, c, r, l, nd, e, ⟨rfl, rfl⟩ | ⟨rfl, f, rfl, rfl⟩⟩ := h
    · exact ⟨a, Ca, dx, vs, fs, rfl, c, RepL.any ts r (by simpa [T.noFrz] using n), l, nd, e, .inl ⟨rfl, rfl⟩⟩
    · simp [T.noFrz] at n
  | .err _ _ _, _, _, h, n => by simp [T.noFrz] at n
theorem RepL.any : ∀ (ts : List T) {vs : List V} {fp : List Addr}, RepL g.toG F H ts vs fp → T.noFrzL ts = true → RepL g.toG F' H ts vs fp
  | [], vs, fp, h, _ => h
  | t :: ts, vs, fp, h, n => by
    obtain ⟨v, vs', f1, f2, rfl, rfl, h1, h2⟩ := h
    rw [T.noFrzL, Bool.and_eq_true] at n
    exact ⟨v, vs', f1, f2, rfl, rfl, Rep.any t h1 n.1, RepL.any ts h2 n.2⟩
end
theorem RepM.any : ∀ {as : List T} {ms : List Bool} {vs : List V} {fp : List Addr}, RepM g.toG F H ms as vs fp → noFrzM ms as = true → RepM g.toG F' H ms as vs fp
  | [], ms, vs, fp, h, _ => h
  | a :: as, ms, vs, fp, h, n => by
    obtain ⟨v, vs', rfl, hh⟩ := h
    refine ⟨v, vs', rfl, ?_⟩
    cases ms with
    | nil =>
      rcases hh with ⟨hm, _⟩ | ⟨hm, r⟩
      · cases hm
      · exact .inr ⟨rfl, RepM.any r (by cases as <;> rfl)⟩
    | cons m ms =>
      rcases hh with ⟨hm, f1, f2, rfl, r1, r2⟩ | ⟨hm, r⟩
      · have hm' : m = true := hm
        subst hm'
        have n' : (T.noFrz a && noFrzM ms as) = true := n
        rw [Bool.and_eq_true] at n'
        exact .inl ⟨rfl, f1, f2, rfl, Rep.any a r1 n'.1, RepM.any r2 n'.2⟩
      · have hm' : m = false := hm
        subst hm'
        exact .inr ⟨rfl, RepM.any r n⟩
theorem repM_mono : ∀ {as : List T} {ms : List Bool} {vs : List V} {fp : List Addr}, RepM g.toG F H ms as vs fp → (∀ a, F a → F' a) → RepM g.toG F' H ms as vs fp
  | [], ms, vs, fp, h, _ => h
  | a :: as, ms, vs, fp, h, k => by
    obtain ⟨v, vs', rfl, hh⟩ := h
    refine ⟨v, vs', rfl, ?_⟩
    rcases hh with ⟨hm, f1, f2, rfl, r1, r2⟩ | ⟨hm, r⟩
    · exact .inl ⟨hm, f1, f2, rfl, Rep.stay a r1 ⟨k, fun _ _ e _ => e⟩, repM_mono r2 k⟩
    · exact .inr ⟨hm, repM_mono r k⟩
end
end PV

/-! V22: calls of own defs -/
namespace PV
open PySem L2

/-- what a def promises of trees -/
def spT (g : GX) (xs : Bool) (call : Calls) (q : Str) (ms : List Bool) : Sp := fun vs H Q E => vs.length = ms.length ∧ ∃ F fp args, Wf F H fp ∧ RepL g.toG F H args vs fp ∧ (match call q args with
  | .ret r as => ∀ v H' F' ft fas, Aft F F' H H' fp (ft ++ fas) → Wf F' H' (ft ++ fas) → Rep g.toG F' H' r v ft → RepM g.toG F' H' ms as vs fas → Q v H'
  | .exc x as => xs = true ∧ ∀ cls d H' F' fas, Aft F F' H H' fp fas → Wf F' H' fas → RepM g.toG F' H' ms as vs fas → g.err x cls d F' H' → E cls d H'
  | .bad => False)

section
variable {X : Cx} {e ea eb ec tg o k0 iter elt : Expr} {g : GX} {W : WX} {F F' F0 F1 F2 F3 : Addr → Prop} {H H' H0 H1 H2 H3 : Hp} {fp fp' fp0 fp1 fp2 fp3 ft fu fq fr fs rest : List Addr} {t u z : T} {v x y : V} {σ σ' σ2 : St} {E E' E0 E1 E2 : Env} {r s : R} {Q : VK} {b b' b1 b2 q : Bool}
variable {ma mb mc : M R} {na nb nc : M Bool} {pos p p2 : Pos} {es ifs : List Expr} {ei : T → T → Option Bool} {gi : GI} {ts ts' own pm : List Nat} {D : Ends}
variable {call : Calls} {qn : Str} {ms : List Bool} {n : Nat} {rs : List R} {vs : List V}

theorem lend_inv {us : List T} (h : lend rs ms E = some (us, E1)) : ∃ us0, takes rs ms E = some (us0, E1) ∧ awayOk rs ms E1 = true ∧ looks rs ms us0 E1 = some us := by
  unfold lend at h
  cases ht : takes rs ms E with
  | none => rw [ht] at h; cases h
  | some q =>
    rw [ht] at h
    have h2 : (if awayOk rs ms q.2 = true then (looks rs ms q.1 q.2).map fun ts => (ts, q.2) else none) = some (us, E1) := h
    split at h2
    · rename_i ha
      cases hl : looks rs ms q.1 q.2 with
      | none => rw [hl] at h2; cases h2
      | some ts' =>
        rw [hl] at h2
        cases h2
        exact ⟨q.1, rfl, ha, hl⟩
    · cases h2
/-- a call, between what is lent and what comes back -/
theorem lend_call {us : List T} (rr : RepRs g.toG F H σ rs vs fr) (w : Wf F H (fr ++ fp)) (re : RepE g.toG F H E σ fp) (hl : lend rs ms E = some (us, E1)) :
    ∃ Fc fa, Wf Fc H fa ∧ RepL g.toG Fc H us vs fa ∧ Aft F Fc H H (fr ++ fp) fa ∧
      ∀ H' F' ft fas t as v E2, Aft Fc F' H H' fa (ft ++ fas) → Wf F' H' (ft ++ fas) → (∀ G : Addr → Prop, ((∀ a, F' a → G a) ∨ T.noFrz t = true) → Rep g.toG G H' t v ft) → RepM g.toG F' H' ms as vs fas → (!(anyFrz rs ms) || (T.noFrz t && noFrzM ms as)) = true → giveBack rs ms as E1 = some E2 →
        ∃ F2 fp2, Aft F F2 H H' (fr ++ fp) (ft ++ fp2) ∧ Wf F2 H' (ft ++ fp2) ∧ RepE g.toG F2 H' E2 σ fp2 ∧ Rep g.toG F2 H' t v ft := by
  obtain ⟨us0, ht, aw, hk⟩ := lend_inv hl
  obtain ⟨fa, fl, fp1, pm, re1, rt⟩ := takes_rep rr w re ht
  obtain ⟨fz, sub, nz, kk⟩ := looks_rep re1 rt hk
  have w' := w.perm pm
  have own : ∀ a ∈ fr ++ fp, ∃ o, H a = some o := fun a ha => by
    rcases List.mem_append.mp ha with ha | ha
    · obtain ⟨o, e, _⟩ := rr.own a ha; exact ⟨o, e⟩
    · exact own_of re a ha
  have inAll : ∀ a, a ∈ (fa ++ fl) ++ fp1 → a ∈ fr ++ fp := fun a ha => mem_of_perm pm ha
  have nd := w'.nd
  have fa_fp1 : ∀ a, a ∈ fa → a ∈ fp1 → False := fun a h1 h2 => w'.apart (List.mem_append_left _ h1) h2
  have fl_fp1 : ∀ a, a ∈ fl → a ∈ fp1 → False := fun a h1 h2 => w'.apart (List.mem_append_right _ h1) h2
  have fa_fl : ∀ a, a ∈ fa → a ∈ fl → False := fun a h1 h2 => (w'.left).apart h1 h2
  have wc : Wf (fun a => F a ∨ a ∈ fl ∨ a ∈ fz) H fa := by
    refine ⟨(List.nodup_append.mp (List.nodup_append.mp nd).1).1, fun a ha h => ?_, fun a h => ?_⟩
    · rcases h with h | h | h
      · exact w'.dj a (List.mem_append_left _ (List.mem_append_left _ ha)) h
      · exact fa_fl a ha h
      · exact fa_fp1 a ha (sub a h)
    · rcases h with h | h | h
      · exact w.dom a h
      · exact own a (inAll a (List.mem_append_left _ (List.mem_append_right _ h)))
      · exact own a (inAll a (List.mem_append_right _ (sub a h)))
  refine ⟨_, fa, wc, kk _ (fun a h => .inl h) (fun a h => .inr (.inl h)) (fun a h => .inr (.inr h)), ⟨fun a h => .inl h, fun a h => ?_, fun a o e _ => e, fun a ha => .inl (inAll a (List.mem_append_left _ (List.mem_append_left _ ha))), fun a o e _ => e⟩, ?_⟩
  · rcases h with h | h | h
    · exact .inl h
    · exact .inr (.inl (inAll a (List.mem_append_left _ (List.mem_append_right _ h))))
    · exact .inr (.inl (inAll a (List.mem_append_right _ (sub a h))))
  intro H' F' ft fas t as v E2 a' w2 rv rm hc hg
  have keepFz : (∀ a, F' a → F' a ∧ a ∉ fz) ∨ (T.noFrz t = true ∧ noFrzM ms as = true) := by
    cases hf : anyFrz rs ms with
    | false => exact .inl fun a h => ⟨h, by rw [nz hf]; exact fun z => nomatch z⟩
    | true => rw [hf] at hc; exact .inr (by simpa using hc)
  have rv2 : Rep g.toG (fun a => F' a ∧ a ∉ fz) H' t v ft := rv _ (keepFz.imp id fun h => h.1)
  have rm2 : RepM g.toG (fun a => F' a ∧ a ∉ fz) H' ms as vs fas := by
    rcases keepFz with h | h
    · exact repM_mono rm h
    · exact rm.any h.2
  have st : Stay F (fun a => F' a ∧ a ∉ fz) H H' fp1 := by
    refine ⟨fun a h => ⟨a'.ff a (.inl h), fun z => w'.dj a (List.mem_append_right _ (sub a z)) h⟩, fun a o e h => ?_⟩
    rcases h with h | h | h
    · exact a'.keep a o e fun z => fa_fp1 a z h
    · exact a'.keep a o e fun z => wc.dj a z (.inl h)
    · exact a'.tups a o e h
  obtain ⟨fp2, dead, pm2, re2⟩ := give_rep rm2 (re1.stay st) (atAll_of re1 st rr aw) hg
  have wall : Wf (fun a => F' a ∧ a ∉ fz) H' ((ft ++ fas) ++ fp1) := by
    refine ⟨List.nodup_append.mpr ⟨w2.nd, w'.right.nd, fun a h1 c h2 e => ?_⟩, fun a ha h => ?_, fun a h => w2.dom a h.1⟩
    · subst e
      rcases a'.new a h1 with z | z
      · exact fa_fp1 a z h2
      · obtain ⟨o, e⟩ := own a (inAll a (List.mem_append_right _ h2))
        rw [z] at e; cases e
    · rcases List.mem_append.mp ha with ha | ha
      · exact w2.dj a ha h.1
      · rcases a'.fn a h.1 with z | z | z
        · rcases z with z | z | z
          · exact w'.dj a (List.mem_append_right _ ha) z
          · exact fl_fp1 a z ha
          · exact h.2 z
        · exact fa_fp1 a z ha
        · obtain ⟨o, e⟩ := own a (inAll a (List.mem_append_right _ ha))
          rw [z] at e; cases e
  have pm3 : ((ft ++ fas) ++ fp1).Perm ((ft ++ fp2) ++ dead) := prm fun c => by have := prm_of pm2 c; simp only [List.count_append] at *; omega
  refine ⟨_, fp2, ⟨fun a h => st.1 a h, fun a h => ?_, fun a o e h => ?_, fun a h => ?_, fun a o e m => a'.tups a o e m⟩, wall.sub pm3, re2, rv2⟩
  · rcases a'.fn a h.1 with z | z | z
    · rcases z with z | z | z
      · exact .inl z
      · exact .inr (.inl (inAll a (List.mem_append_left _ (List.mem_append_right _ z))))
      · exact (h.2 z).elim
    · exact .inr (.inl (inAll a (List.mem_append_left _ (List.mem_append_left _ z))))
    · exact .inr (.inr z)
  · exact a'.keep a o e fun z => h (inAll a (List.mem_append_left _ (List.mem_append_left _ z)))
  · have h' : a ∈ (ft ++ fas) ++ fp1 := mem_of_perm pm3 (List.mem_append_left _ h)
    rcases List.mem_append.mp h' with h' | h'
    · exact (a'.new a h').imp (fun z => inAll a (List.mem_append_left _ (List.mem_append_left _ z))) id
    · exact .inl (inAll a (List.mem_append_right _ h'))
theorem doCall_red {P : T → Env → Prop} {XX : T → Env → Prop} {Ex : XK} (rr : RepRs g.toG F H σ rs vs fr) (w : Wf F H (fr ++ fp)) (re : RepE g.toG F H E σ fp) (p : Post (doCall false call qn ms rs E) P XX)
    (k : ∀ t E2 v H' F2 ft fp2, P t E2 → Aft F F2 H H' (fr ++ fp) (ft ++ fp2) → Wf F2 H' (ft ++ fp2) → RepE g.toG F2 H' E2 σ fp2 → Rep g.toG F2 H' t v ft → Q v H') : spT g false call qn ms vs H Q Ex := by
  unfold doCall at p
  split at p
  case isFalse => exact p.elim
  rename_i hn
  cases hl : lend rs ms E with
  | none => rw [hl] at p; exact p.elim
  | some q =>
    obtain ⟨us, E1⟩ := q
    rw [hl] at p
    dsimp only at p
    obtain ⟨Fc, fa, wc, ra, _, kk⟩ := lend_call rr w re hl
    refine ⟨by rw [← rr.length]; exact hn, Fc, fa, us, wc, ra, ?_⟩
    cases hc : call qn us with
    | bad => rw [hc] at p; exact p.elim
    | exc x as =>
      rw [hc] at p
      dsimp only at p
      rw [if_neg (by decide)] at p
      exact p.elim
    | ret r as =>
      rw [hc] at p
      dsimp only at p
      split at p
      · rename_i hcond
        cases hg : giveBack rs ms as E1 with
        | none => rw [hg] at p; exact p.elim
        | some E2 =>
          rw [hg] at p
          intro v H' F' ft fas a' w' rv rm
          obtain ⟨F2, fp2, a2, w2, re2, r2⟩ := kk H' F' ft fas r as v E2 a' w' (fun G h => h.elim (fun h => Rep.stay r rv ⟨h, fun _ _ e _ => e⟩) fun h => Rep.any r rv h) rm hcond hg
          exact k r E2 v H' F2 ft fp2 p a2 w2 re2 r2
      · exact p.elim
theorem RepRs.app : ∀ {rs rs' : List R} {vs vs' : List V} {f f' : List Addr}, RepRs g.toG F H σ rs vs f → RepRs g.toG F H σ rs' vs' f' → RepRs g.toG F H σ (rs ++ rs') (vs ++ vs') (f ++ f')
  | [], rs', vs, vs', f, f', h, h' => by obtain ⟨rfl, rfl⟩ := h; exact h'
  | r :: rs, rs', vs, vs', f, f', h, h' => by
    obtain ⟨v, ws, f1, f2, rfl, rfl, h1, h2⟩ := h
    exact ⟨v, ws ++ vs', f1, f2 ++ f', rfl, by rw [List.append_assoc], h1, RepRs.app h2 h'⟩
theorem RepRs.vals : ∀ {ts : List T} {vs : List V}, RepL g.toG F H ts vs [] → RepRs g.toG F H σ (ts.map .val) vs []
  | [], vs, h => by obtain ⟨rfl, _⟩ := h; exact ⟨rfl, rfl⟩
  | t :: ts, vs, h => by
    obtain ⟨v, ws, f1, f2, rfl, e, h1, h2⟩ := h
    obtain ⟨rfl, rfl⟩ := List.append_eq_nil_iff.mp e.symm
    exact ⟨v, ws, [], [], rfl, rfl, h1, RepRs.vals h2⟩
def XF : XK := fun _ _ _ => False
/-- x(e, ..), x a def of the module -/
theorem je_call {CX : CXT} {k : Nat} {f : Addr} {fd : FuncData} {ps : List Str} {dts : List T} {dvs : List V} {ds : List Value} {nm : Str} {l : M (List R)} (Fn : FnOk X.prog X.w X.K X.mg X.base CX k f fd ps (spT g false call qn ms)) (hr : Room k X.A) (hg : Gl X nm) (hm : X.mg nm = some (.ref f)) (hk : PySem.W.keepIn X.K (.ref f) = true)
    (hb : Binds X.K fd ps ds) (hd : Vals dvs ds) (hdf : ∀ F H, RepL g.toG F H dts dvs []) (hx : Passes CX X XF) (ha : JA X g W b (e :: es) l) (hdb : (nm == ("__debug__" : Str)) = false)
    (he : starEach (e :: es) X.env = (false, eval e X.env) :: starEach es X.env) (hpl : (backTo pos (starEach es X.env)).any (·.1) = false) : JE X g W false (.Call (.Name nm p) (e :: es) [] pos) (cCall0 false call qn ms dts l) :=
  PE.imp (pe_call (E := XF) Fn hr hg hm hk hb hd hx ha hdb he hpl) fun σ H Q h => by
    obtain ⟨F, E, fp, w, re, p⟩ := h
    refine ⟨F, E, fp, w, re, Post.imp (Post.bind p) (fun rs E1 p1 => ?_) fun _ _ h => h⟩
    intro vs H1 F1 fr fp1 a1 w1 re1 rr ex
    have rr2 : RepRs g.toG F1 H1 σ (rs ++ dts.map .val) (vs ++ dvs) (fr ++ []) := rr.app (RepRs.vals (hdf F1 H1))
    refine doCall_red (fp := fp1) rr2 (by simpa using w1) re1 (Post.bind p1) fun t E2 v H' F2 ft fp2 p2 a2 w2 re2 rt => ?_
    exact p2.pure v H' F2 ft fp2 (a1.trans (by simpa using a2)) w2 re2 rt fun h => nomatch h
theorem je_call0 {CX : CXT} {k : Nat} {f : Addr} {fd : FuncData} {ps : List Str} {dts : List T} {dvs : List V} {ds : List Value} {nm : Str} (Fn : FnOk X.prog X.w X.K X.mg X.base CX k f fd ps (spT g false call qn ms)) (hr : Room k X.A) (hg : Gl X nm) (hm : X.mg nm = some (.ref f)) (hk : PySem.W.keepIn X.K (.ref f) = true)
    (hb : Binds X.K fd ps ds) (hd : Vals dvs ds) (hdf : ∀ F H, RepL g.toG F H dts dvs []) (hx : Passes CX X XF) (hdb : (nm == ("__debug__" : Str)) = false) : JE X g W false (.Call (.Name nm p) [] [] pos) (cCall0 false call qn ms dts lNil) :=
  PE.imp (pe_call0 (E := XF) Fn hr hg hm hk hb hd hx hdb) fun σ H Q h => by
    obtain ⟨F, E, fp, w, re, p⟩ := h
    have p1 : Post (doCall false call qn ms ([] ++ dts.map .val) E) _ _ := Post.bind (Post.pure (Post.bind p))
    have rr2 : RepRs g.toG F H σ ([] ++ dts.map .val) ([] ++ dvs) [] := RepRs.vals (hdf F H)
    refine doCall_red (fp := fp) rr2 (by simpa using w) re p1 fun t E2 v H' F2 ft fp2 p2 a2 w2 re2 rt => ?_
    exact p2.pure v H' F2 ft fp2 (by simpa using a2) w2 re2 rt fun h => nomatch h
/-! ### a def's body keeps its promise -/
theorem take_args : ∀ {vs : List V} {ms : List Bool} {E : Env} {σ : St} {fp : List Addr}, RepE g.toG F H E σ fp → vs.length ≤ E.length → (∀ i v, vs[i]? = some v → ms.getD i false = true → σ[i]? = some (some v)) →
    ∃ fas dead, fp.Perm (fas ++ dead) ∧ RepM g.toG F H ms (E.take vs.length) vs fas
  | [], ms, E, σ, fp, re, hl, hp => ⟨[], fp, by simp, rfl⟩
  | v :: vs, ms, [], σ, fp, re, hl, hp => by simp at hl
  | v :: vs, ms, t :: E, σ, fp, re, hl, hp => by
    obtain ⟨o, σ', f1, f2, rfl, rfl, r1, r2⟩ := re
    have tl : ∀ i v, vs[i]? = some v → (ms.drop 1).getD i false = true → σ'[i]? = some (some v) := fun i v h1 h2 => by
      have := hp (i + 1) v (by simpa using h1) (by cases ms with
        | nil => simp at h2
        | cons m ms => simpa using h2)
      simpa using this
    obtain ⟨fas, dead, pm, rm⟩ := take_args (ms := ms.drop 1) r2 (by simpa using hl) tl
    cases hm : ms.headD false with
    | true =>
      have h0 := hp 0 v (by simp) (by cases ms with
        | nil => cases hm
        | cons m ms => simpa using hm)
      have h0' : o = some v := by simpa using h0
      subst h0'
      have rv : Rep g.toG F H t v f1 := by
        by_cases hh : t = .hole
        · subst hh; exact r1
        · obtain ⟨w, e, r⟩ := r1.at hh
          cases e
          exact r
      exact ⟨f1 ++ fas, dead, prm fun c => by have := prm_of pm c; simp only [List.count_append] at *; omega, v, vs, rfl, .inl ⟨hm, f1, fas, rfl, rv, rm⟩⟩
    | false => exact ⟨fas, f1 ++ dead, prm fun c => by have := prm_of pm c; simp only [List.count_append] at *; omega, v, vs, rfl, .inr ⟨hm, rm⟩⟩
theorem start_rep {args : List T} {N : List Str} (hl : vs.length ≤ N.length) (r : RepL g.toG F H args vs fp) : RepE g.toG F H (args ++ List.replicate (N.length - args.length) .hole) (start N vs) fp := by
  have hol : ∀ n, RepE g.toG F H (List.replicate n .hole) (List.replicate n none) [] := fun n => by
    induction n with
    | zero => exact ⟨rfl, rfl⟩
    | succ n ih => exact ⟨none, List.replicate n none, [], [], rfl, rfl, rfl, ih⟩
  have go : ∀ {args : List T} {vs : List V} {fp : List Addr} (n : Nat), RepL g.toG F H args vs fp → RepE g.toG F H (args ++ List.replicate n .hole) (vs.map some ++ List.replicate n none) fp := fun {args} => by
    induction args with
    | nil => intro vs fp n h; obtain ⟨rfl, rfl⟩ := h; exact hol n
    | cons t ts ih =>
      intro vs fp n h
      obtain ⟨v, vs', f1, f2, rfl, rfl, h1, h2⟩ := h
      exact ⟨some v, _, f1, f2, rfl, rfl, .of rfl h1, ih n h2⟩
  have := go (N.length - args.length) r
  rw [r.length] at this ⊢
  exact this
end
end PV

/-! V23: a def keeps its promise -/
namespace PV
open PySem L2

/-- the oracle's word for q, where it has one, is what the body does -/
def Tells (call : Calls) (q : Str) (d : FnI) (m : M Fl) : Prop := ∀ args, call q args = .bad ∨ call q args = runM d m args
/-- the promise of trees, at the body's start -/
theorem sp_red {g : GX} {call : Calls} {qn : Str} {d : FnI} {m : M Fl} {ms : List Bool} {pm : List Nat} {vs : List V} {H : Hp} {Q : VK} {E : XK} (hps : d.params.length ≤ d.N.length)
    (hms : ms.length = d.params.length) (hpm : ∀ i, ms.getD i false = true → i ∈ pm) (tells : Tells call qn d m) (hsp : spT g false call qn ms vs H Q E) : tS g W0 pm m { nx := fun _ H' => Q .non H', rt := Q } (L2.start d.N vs) H := by
  obtain ⟨hl, F, fp, args, wf, ra, hc⟩ := hsp
  have hlen : args.length = d.params.length := by rw [ra.length, hl, hms]
  have hN : vs.length ≤ d.N.length := by rw [hl, hms]; exact hps
  refine ⟨F, _, fp, wf, start_rep hN ra, ?_⟩
  rcases tells args with hb | hb
  · rw [hb] at hc; exact hc.elim
  · rw [hb] at hc
    unfold runM at hc
    rw [if_pos hlen] at hc
    have back : ∀ (r : T) (E' : Env) (v : V) (σ' : St) (H' : Hp) (F' : Addr → Prop) (ft fp' : List Addr), (∀ v H' F' ft fas, Aft F F' H H' fp (ft ++ fas) → Wf F' H' (ft ++ fas) → Rep g.toG F' H' r v ft → RepM g.toG F' H' ms (E'.take args.length) vs fas → Q v H') →
        Prot pm (L2.start d.N vs) σ' → Aft F F' H H' fp (ft ++ fp') → Wf F' H' (ft ++ fp') → RepE g.toG F' H' E' σ' fp' → Rep g.toG F' H' r v ft → Q v H' := by
      intro r E' v σ' H' F' ft fp' kk pr af wf' re rv
      have lE : vs.length ≤ E'.length := by
        rw [re.length, pr.1]
        unfold L2.start
        rw [List.length_append, List.length_map]
        omega
      obtain ⟨fas, dead, pmm, rm⟩ := take_args (ms := ms) re lE fun i v h1 h2 => by
        have h3 := pr.2 i (hpm i h2)
        rw [h3]
        unfold L2.start
        have hi : i < vs.length := (List.getElem?_eq_some_iff.mp h1).1
        rw [List.getElem?_append_left (by rw [List.length_map]; exact hi), List.getElem?_map, h1]
        rfl
      rw [ra.length] at kk
      have pm2 : (ft ++ fp').Perm ((ft ++ fas) ++ dead) := prm fun c => by have := prm_of pmm c; simp only [List.count_append] at *; omega
      exact kk v H' F' ft fas (af.sub fun c hc => mem_of_perm pm2 (List.mem_append_left _ hc)) (wf'.sub pm2) rv rm
    cases hm : m (args ++ List.replicate (d.N.length - args.length) .hole) with
    | bad => rw [hm] at hc; exact hc.elim
    | exc x E' => rw [hm] at hc; exact absurd hc.1 (by decide)
    | ok fl E' =>
      rw [hm] at hc
      cases fl with
      | ret r => exact fun v σ' H' F' ft fp' pr af wf' re rv => back r E' v σ' H' F' ft fp' hc pr af wf' re rv
      | nx => exact fun σ' H' F' fp' pr af wf' re => back .non E' .non σ' H' F' [] fp' hc pr af wf' re ⟨rfl, rfl⟩
      | brk => exact hc.elim
      | ct => exact hc.elim
theorem fn_tree {g : GX} {CX : CXT} {P : Program} {w : World} {K : PySem.W.Frag} {mg : Str → Option Value} {base : Heap} {k : Nat} {f : Addr} {name qual : Str} {params : Arguments} {body : List Stmt} {scope : Scope} {dV kV doc pmv cdv ct oc : Value} {an od : Option Addr}
    {osl : Array (Option Value)} {call : Calls} {qn : Str} {d : FnI} {m : M Fl} {ms : List Bool} {pm : List Nat} (lk : K.lookup f = some ⟨oc, od, .func (PySem.W.fnOf name qual params body scope dV kV doc pmv an cdv ct), osl⟩) (hcd : PySem.W.codeIn K cdv qual = true) (S : FnScope d.N d.params scope)
    (hms : ms.length = d.params.length) (hpm : ∀ i, ms.getD i false = true → i ∈ pm) (tells : Tells call qn d m)
    (hbody : ∀ (A : Around) (outer : List PySem.Env) (s : Shared) (H : Hp) (E : XK), Room k (A.deeper (PyProof.Rows.envOfC qual scope s.heap.objs.size f cdv)) → JSs (cxOf CX P w K mg base d.N qual scope f cdv A outer s H E) g W0 pm body m) :
    FnOk P w K mg base CX (k + 1) f (PySem.W.fnOf name qual params body scope dV kV doc pmv an cdv ct) d.params (spT g false call qn ms) := by
  have hps : d.params.length ≤ d.N.length := by
    have := congrArg List.length S.pre
    rw [List.length_take] at this
    omega
  exact fn_of lk hcd S (fun vs H Q E h => h.1.trans hms) fun A outer s H vs Q E hr hsp => ⟨_, hbody A outer s H E hr, sp_red hps hms hpm tells hsp⟩
end PV

/-! V24: append; a chain of two comparisons -/
namespace PV
open PySem L2

section
variable {X : Cx} {e ea eb ec tg o k0 iter elt : Expr} {g : GX} {W : WX} {F F' F0 F1 F2 F3 : Addr → Prop} {H H' H0 H1 H2 H3 : Hp} {fp fp' fp0 fp1 fp2 fp3 ft fu fq fr fs rest : List Addr} {t u z : T} {v x y : V} {σ σ' σ2 : St} {E E' E0 E1 E2 : Env} {r s : R} {Q : VK} {b b' b1 b2 b3 q : Bool}
variable {ma mb mc : M R} {na nb nc : M Bool} {pos apos p p2 : Pos} {es ifs : List Expr} {ei : T → T → Option Bool} {gi : GI} {ts ts' own pm : List Nat} {D : Ends}

theorem je_append (fit : Fits g X) (ho : JE X g W b o ma) (ha : JE X g W q e mb) (hbase : attributeBase o "append" X.env (eval o X.env) = eval o X.env)
    (hfew : ((backTo pos (starEach [e] X.env)).all (fun x => !x.1) && (backToKw pos (keywordEach [] X.env)).all (fun x => x.1.isSome) && decide (([e] : List Expr).length + ([] : List Keyword).length + (if ([] : List Keyword).isEmpty then 0 else 1) < 30)) = true)
    (hline : (apos.endLine == pos.line) = true) (hs : starEach [e] X.env = (false, eval e X.env) :: starEach [] X.env) (hplain : (backTo pos (starEach [] X.env)).any (·.1) = false) : JE X g W false (.Call (.Attribute o "append" apos) [e] [] pos) (cAppend q ma mb) :=
  PE.imp (pe_bm PySem.F.plainAttrs_list F.slot_list_append F.type_list_append mt_append ho (pa_cons ha pa_nil hs) hbase hfew hline hs hplain) fun σ H Q h => by
    obtain ⟨F, E, fp, w, re, p⟩ := h
    have p0 : Post (M.bind ma (fun r => M.bind (guardM (!(deep r) || q)) fun _ => M.bind (viewR r) fun t => M.bind (guardM (isLst t)) fun _ => M.bind mb fun s => M.bind (takeR s) fun t => atPlc r (fAppend t)) E) _ _ := p
    refine see w re p0 fun x H1 F1 fr fp1 r E1 a1 w1 re1 rr ex p1 => ?_
    obtain ⟨gd, p2⟩ := p1.bind.guard
    obtain ⟨t0, et, p3⟩ := p2.bind.view
    obtain ⟨gl, p4⟩ := p3.bind.guard
    -- it is a list
    obtain ⟨f0, rt0, _, _, _, _⟩ := rr.view w1 re1 et
    have lst0 : ∃ a vs, x = .ref a ∧ H1 a = some (.lst vs) := by
      cases t0 with
      | lst oo xs =>
        cases oo with
        | false => cases gl
        | true =>
          obtain ⟨a, vs, fs, rfl, _, ⟨_, ea, _⟩ | ⟨h, _⟩⟩ := rt0
          · exact ⟨a, vs, rfl, ea⟩
          · cases h
      | _ => cases gl
    obtain ⟨a, vs0, rfl, ea0⟩ := lst0
    refine ⟨.inl ⟨rfl, vs0, SqL.of ea0⟩, ?_⟩
    have p5 : Post (M.bind mb (fun s => M.bind (takeR s) fun t => atPlc r (fAppend t)) E1) (okE g false σ F H fp Q) (xP g W σ F1 H1 fp1) := p4.imp (fun _ _ h => h) fun _ _ h => h.later (a1.sub fun a ha => List.mem_append_right _ ha)
    refine see w1.right re1 p5 fun y H2 F2 fs fp2 s E2 a2 w2 re2 rs ex2 p6 => ?_
    obtain ⟨t, E3, f, fp3, p7, rt, re3, pm⟩ := take_rep rs w2 re2 p6.bind
    obtain ⟨i, pl, u, c, rfl, eu, ec, p8⟩ := post_plc p7
    obtain ⟨rfl, at1⟩ := rr
    have at2 : AtE H2 σ i pl (.ref a) := at1.later ((deep_or gd ex2).imp (fun d => by cases pl <;> first | rfl | cases d) id)
    have wt : Wf F2 H2 (f ++ fp3) := w2.perm pm.symm
    obtain ⟨w4, a4⟩ := shared wt (fun a ha => Rep.own t rt a ha)
    have re4 := re3.stay (fp := fp3) (stay_shared (F := F2) (ft := f) (H := H2))
    have rt4 := Rep.fz rt
    have hole : u ≠ .hole := by intro z; subst z; cases ec
    cases u with
    | lst oo us =>
      cases oo with
      | false => cases ec
      | true =>
        have ec' : (if us.length < lim then some (T.non, T.lst true (us ++ [t.fz])) else none) = some c := ec
        split at ec'
        · rename_i hlen
          cases ec'
          obtain ⟨w', f1, rest0, at', r', _, _⟩ := re4.focus eu (.inl hole)
          rw [at'.det at2] at r'
          obtain ⟨a', vs, fs0, e1, r1, ⟨_, ea, _⟩ | ⟨h, _⟩⟩ := r'
          · cases e1
            refine ⟨a, vs, y, rfl, rfl, ea, by rw [← r1.length]; exact Nat.lt_of_lt_of_le hlen lim_line, ?_⟩
            obtain ⟨fp', re', wf', af'⟩ := mut_plc (H' := L2.upd H2 a (.lst (vs ++ [y]))) (u' := .lst true (us ++ [t.fz])) (ft := []) (by simpa using w4) re4 at2 eu hole fun fr rest rr pm wf => by
              obtain ⟨a', vs', fs', e1, r1', hh'⟩ := rr
              cases e1
              rcases hh' with ⟨_, ea', rfl⟩ | ⟨h, _⟩
              · rw [ea] at ea'; cases ea'
                have r2 : RepL g.toG _ H2 (us ++ [t.fz]) (vs ++ [y]) (fs' ++ []) := RepL.app r1' ⟨y, [], [], [], rfl, rfl, rt4, rfl, rfl⟩
                rw [List.append_nil] at r2
                have pm2 : (fs' ++ []).Perm (fs' ++ []) := .refl _
                obtain ⟨k1, k2, k3, k4⟩ := root_new (o' := .lst (vs ++ [y])) (l := []) (fs2 := fs') (dead := []) (ft := []) wf ea trivial pm2
                exact ⟨a, _, _, [] ++ fs', a :: fs', rfl, ea, trivial, k2, rfl, k3, k4, a, vs ++ [y], fs', rfl, RepL.stay _ r2 k1, .inl ⟨rfl, upd_same, rfl⟩⟩
              · cases h
            have atot : Aft F _ H _ fp fp' := (a1.trans (a2.trans ((Aft.here fun c hc => mem_of_perm pm.symm hc).trans (a4.trans (by simpa using af')))))
            exact p8 .non _ _ [] fp' atot wf' re' ⟨rfl, rfl⟩ fun h => nomatch h
          · cases h
        · cases ec'
    | _ => cases ec
theorem seeI {α : Type} {k : Int → M α} {P : α → Env → Prop} {K : V → Hp → Prop} (w : Wf F H fp) (re : RepE g.toG F H E σ fp) (p : Post (M.bind (intM ma) k E) P (xP g W σ F H fp))
    (h : ∀ i H1 F1 fp1 E1, Aft F F1 H H1 fp fp1 → Wf F1 H1 fp1 → RepE g.toG F1 H1 E1 σ fp1 → (b = true → Ext H H1) → Post (k i E1) P (xP g W σ F H fp) → K (.int i) H1) : tE g W b ma σ H K :=
  ⟨F, E, fp, w, re, Post.imp (Post.bind (show Post (M.bind ma _ E) _ _ from p.bind)) (fun r E1 p1 x H1 F1 fr fp1 a1 w1 re1 rr ex => by
    cases r with
    | plc i p => exact p1.elim
    | val t =>
      cases t with
      | int i =>
        obtain ⟨rfl, rfl⟩ : x = .int i ∧ fr = [] := rr
        exact h i H1 F1 fp1 E1 a1 w1 re1 ex p1.pure
      | _ => exact p1.elim) fun _ _ h => h⟩
/-- a op b op' c -/
theorem je_chain {op op' : CmpOp} {rr rr' : R2} (ho : CmpT g X ei op rr) (ho' : CmpT g X ei op' rr') (ha : JE X g W b ea ma) (hb : JE X g W q eb mb) (hc : JE X g W b3 ec mc) (hm : lastMarks [op, op'] [eb, ec] = false) :
    JE X g W false (.Compare ea [op, op'] [eb, ec] pos) (cChain ei op op' ma mb mc) :=
  PE.imp (pe_chain ho.1 ho'.1 ha hb hc hm) fun σ H Q h => by
    obtain ⟨F, E, fp, w, re, p⟩ := h
    refine seeI w re p fun i H1 F1 fp1 E1 a1 w1 re1 ex p1 => ?_
    refine seeI w1 re1 (p1.imp (fun _ _ h => h) fun _ _ h => h.later a1) fun j H2 F2 fp2 E2 a2 w2 re2 ex2 p2 => ?_
    obtain ⟨k, ek, p3⟩ := p2.bind.ofO
    refine ho.2 F2 H2 fp2 (.int i) (.int j) k _ _ [] [] _ w2 ⟨rfl, rfl⟩ ⟨rfl, rfl⟩ ek fun H3 e3 => ⟨k, rfl, ?_⟩
    have a3 : Aft F F2 H H3 fp fp2 := (a1.trans a2).trans (ext_aft e3)
    have w3 := w2.ext e3
    have re3 := re2.stay (fp := fp2) (stay_ext (F := F2) e3)
    cases k with
    | false =>
      rw [if_neg (by decide)] at p3 ⊢
      exact p3.pure (.bl false) H3 F2 [] fp2 a3 w3 re3 ⟨rfl, rfl⟩ fun h => nomatch h
    | true =>
      rw [if_pos rfl] at p3 ⊢
      have p4 : Post (M.bind (intM mc) (fun l => M.bind (ofO (cmpop ei op' (.int j) (.int l))) fun k' => M.pure (.val (.bl k'))) E2) (okE g false σ F H fp Q) (xP g W σ F2 H3 fp2) := p3.imp (fun _ _ h => h) fun _ _ h => h.later (a2.trans (ext_aft e3))
      refine seeI w3 re3 p4 fun l H4 F4 fp4 E4 a4 w4 re4 ex4 p5 => ?_
      obtain ⟨k', ek', p6⟩ := p5.bind.ofO
      refine ho'.2 F4 H4 fp4 (.int j) (.int l) k' _ _ [] [] _ w4 ⟨rfl, rfl⟩ ⟨rfl, rfl⟩ ek' fun H5 e5 => ?_
      exact p6.pure (.bl k') H5 F4 [] fp4 (a3.trans (a4.trans (ext_aft e5))) (w4.ext e5) (re4.stay (stay_ext e5)) ⟨rfl, rfl⟩ fun h => nomatch h
end
end PV

/-! V25: list comprehensions with two fors -/
namespace PV
open PySem L2

theorem compL_len {α : Type} {own : List Nat} {step : T → M (List α)} : ∀ {xs : List T} {acc as : List α} {E E' : Env}, compL own step xs acc E = .ok as E' → acc.length ≤ as.length
  | [], acc, as, E, E', h => by
    have h2 : Res.ok acc E = Res.ok as E' := h
    cases h2; exact Nat.le_refl _
  | x :: xs, acc, as, E, E', h => by
    have p0 : Post (M.bind (wipeM own) (fun _ => M.bind (step x) fun ys => compL own step xs (acc ++ ys)) E) _ _ := post_of h
    have p1 : Post (M.bind (step x) (fun ys => compL own step xs (acc ++ ys)) (wipeE own E)) _ _ := p0.bind
    have p2 := p1.bind
    cases hs : step x (wipeE own E) with
    | ok ys E1 =>
      rw [hs] at p2
      have p3 : Post (compL own step xs (acc ++ ys) E1) (fun a' E'' => a' = as ∧ E'' = E') (fun _ _ => False) := p2
      cases hc : compL own step xs (acc ++ ys) E1 with
      | ok a2 E2 =>
        rw [hc] at p3
        obtain ⟨rfl, rfl⟩ := p3
        have := compL_len hc
        rw [List.length_append] at this
        omega
      | exc _ _ => rw [hc] at p3; exact p3.elim
      | bad => rw [hc] at p3; exact p3.elim
    | exc _ _ => rw [hs] at p2; exact p2.elim
    | bad => rw [hs] at p2; exact p2.elim
theorem ok_of {α : Type} {m : M α} {E E2 : Env} {a : α} (p : Post (m E) (fun a' E'' => a' = a ∧ E'' = E2) (fun _ _ => False)) : m E = .ok a E2 := by
  cases h : m E with
  | ok a' E' => rw [h] at p; obtain ⟨rfl, rfl⟩ := p; rfl
  | exc _ _ => rw [h] at p; exact p.elim
  | bad => rw [h] at p; exact p.elim

section
variable {X : Cx} {e ea eb ec tg tg1 o k0 iter iter1 elt : Expr} {g : GX} {W : WX} {F F' F0 F1 F2 F3 : Addr → Prop} {H H' H0 H1 H2 H3 : Hp} {fp fp' fp0 fp1 fp2 fp3 ft fu fq fr fs rest : List Addr} {t u z : T} {v x y : V} {σ σ' σ2 : St} {E E' E0 E1 E2 : Env} {r s : R} {Q : VK} {b b' b1 b2 q : Bool}
variable {ma mb mc : M R} {na nb nc : M Bool} {pos p p2 : Pos} {es ifs ifs1 : List Expr} {ei : T → T → Option Bool} {gi : GI} {ts ts' own own1 : List Nat}

/-- the inner loop: what stands in D grows -/
theorem lc_in {J : It} {S : (Addr → Prop) → Hp → Prop} {xs as : List T} {m : T → M Unit} {im : M Bool} {em : M R} {D : Addr} {accO : List T} {accv : List V} {fa fa0 : List Addr} {Nx : Hp → Prop}
    (w1 : Wf F1 H1 (D :: (fa ++ fp1))) (re1 : RepE g.toG F1 H1 E1 σ fp1) (hD1 : H1 D = some (.lst accv)) (rO : RepL g.toG F1 H1 accO accv fa) (wk : Walk g.toG J xs S) (hS : ∀ F' H' fp', Aft F1 F' H1 H' (D :: (fa ++ fp1)) fp' → S F' H') (hts : ∀ i ∈ ts, i ∈ own)
    (run : compL own (turnM m im (one (takeM em))) xs [] E1 = .ok as E2) (hlim : accO.length + as.length ≤ lim)
    (fin : ∀ H F fa fp accv σ', wipe σ' own = wipe σ own → Aft F1 F H1 H (D :: (fa0 ++ fp1)) (D :: (fa ++ fp)) → Wf F H (D :: (fa ++ fp)) → RepE g.toG F H (wipeE own E2) (wipe σ own) fp → H D = some (.lst accv) → RepL g.toG F H (accO ++ as) accv fa → Nx H) (hfa : fa0 = fa) :
    ∃ W : Nat → Nat → Hp → Prop, (∃ m, W 0 m H1) ∧ ∀ i m' H, W i m' H →
      (J.stop i H ∧ Nx H) ∨ (J.go i H ∧ ∃ Nx1 : Hp → Prop, (∀ H', Nx1 H' → ∃ m'', m'' < m' ∧ W (i + 1) m'' H') ∧ ∀ x H', J.yld i H x H' → tG g W0 ts m x (wipe σ own) H' fun σ2 H2 => wipe σ2 own = wipe σ own ∧ tT g W0 false im σ2 H2 fun b H3 =>
        if b = true then tE g W0 false em σ2 H3 fun y H4 => ∃ acc, H4 D = some (.lst acc) ∧ acc.length < sizeLine ∧ Nx1 (L2.upd H4 D (.lst (acc ++ [y]))) else Nx1 H3) := by
  subst hfa
  let Iv : Nat → Hp → Prop := fun i H => ∃ F E fp acc accv fa, Wf F H (D :: (fa ++ fp)) ∧ RepE g.toG F H (wipeE own E) (wipe σ own) fp ∧ H D = some (.lst accv) ∧ RepL g.toG F H (accO ++ acc) accv fa ∧ Aft F1 F H1 H (D :: (fa0 ++ fp1)) (D :: (fa ++ fp)) ∧ compL own (turnM m im (one (takeM em))) (xs.drop i) acc E = .ok as E2
  refine ⟨fun i m' H => m' = xs.length - i ∧ i ≤ xs.length ∧ Iv i H, ⟨xs.length, by simp, Nat.zero_le _, ?_⟩, ?_⟩
  · obtain ⟨fp', dead, pm, re⟩ := wipe_rep own re1
    have pm2 : (D :: (fa0 ++ fp1)).Perm ((D :: (fa0 ++ fp')) ++ dead) := prm fun c => by have := prm_of pm c; simp only [List.count_append, List.count_cons] at *; omega
    exact ⟨F1, E1, fp', [], accv, fa0, w1.sub pm2, re, hD1, by simpa using rO, Aft.here fun c hc => mem_of_perm pm2 (List.mem_append_left _ hc), by simpa using run⟩
  · rintro i m' H ⟨rfl, hi, F, E, fp, acc, accv, fa, wf, re, hDl, racc, aft, run'⟩
    by_cases hlt : i < xs.length
    · refine .inr ⟨wk.go F H i (hS F H _ aft) hlt, Iv (i + 1), fun H' q => ⟨xs.length - (i + 1), by omega, rfl, hlt, q⟩, fun x H' y => ?_⟩
      obtain ⟨ex, rx⟩ := wk.yld F H i x H' xs[i] (hS F H _ aft) (by simp) y
      have wf' := wf.ext ex
      have re' := re.stay (fp := fp) (stay_ext (F := F) ex)
      have racc' := RepL.stay _ racc (stay_ext ex)
      have hDl' := ex D _ hDl
      have aft' : Aft F1 F H1 H' (D :: (fa0 ++ fp1)) (D :: (fa ++ fp)) := aft.trans (ext_aft ex)
      rw [List.drop_eq_getElem_cons hlt] at run'
      have p0 : Post (M.bind (wipeM own) (fun _ => M.bind (turnM m im (one (takeM em)) xs[i]) fun ys => compL own (turnM m im (one (takeM em))) (xs.drop (i + 1)) (acc ++ ys)) E) _ _ := post_of run'
      have p1 : Post (M.bind (turnM m im (one (takeM em)) xs[i]) (fun ys => compL own (turnM m im (one (takeM em))) (xs.drop (i + 1)) (acc ++ ys)) (wipeE own E)) _ _ := p0.bind
      have p2 : Post (M.bind (m xs[i]) (fun _ => M.bind im fun b => if b = true then one (takeM em) else M.pure []) (wipeE own E)) _ _ := p1.bind
      have wff : Wf F H' ((D :: fa) ++ fp) := by simpa using wf'
      have ownD : ∀ a ∈ D :: fa, ∃ o, H' a = some o ∧ Mut (some o) := fun a ha => by
        rcases List.mem_cons.mp ha with rfl | ha
        · exact ⟨_, hDl', trivial⟩
        · exact RepL.own _ racc' a ha
      refine ⟨F, wipeE own E, fp, [], xs[i], wff.right, re', rx, p2.bind.imp (fun _ Ea p3 => ?_) fun _ _ h => h.elim⟩
      intro σ2 H2 F2 fp2 a2 w2 re2 s2
      obtain ⟨wf3, st3, a3⟩ := frame wff ownD (by simpa using a2) w2
      refine ⟨wipe_same s2 hts, F2, Ea, fp2, w2, re2, p3.bind.imp (fun k Eb p4 => ?_) fun _ _ h => h.elim⟩
      intro H3 F3 fp3 a4 w4 re4 _
      have own3 : ∀ a ∈ D :: fa, ∃ o, H2 a = some o ∧ Mut (some o) := fun a ha => by
        obtain ⟨o, e, mm⟩ := ownD a ha
        exact ⟨o, st3.2 a o e (.inl ha), mm⟩
      obtain ⟨wf5, st5, a5⟩ := frame wf3 own3 a4 w4
      have hD3 : H3 D = some (.lst accv) := st5.2 _ _ (st3.2 _ _ hDl' (.inl List.mem_cons_self)) (.inl List.mem_cons_self)
      have racc3 : RepL g.toG F3 H3 (accO ++ acc) accv fa := RepL.stay _ (RepL.stay _ racc' (st3.sub fun c hc => List.mem_cons_of_mem _ hc)) (st5.sub fun c hc => List.mem_cons_of_mem _ hc)
      have a15 : Aft F1 F3 H1 H3 (D :: (fa0 ++ fp1)) ((D :: fa) ++ fp3) := aft'.trans (by simpa using Aft.trans (by simpa using a3) a5)
      cases k with
      | false =>
        rw [if_neg (by decide)]
        have p5 : compL own (turnM m im (one (takeM em))) (xs.drop (i + 1)) (acc ++ []) Eb = .ok as E2 := by
          have p4' := p4
          simp only [Bool.false_eq_true, if_false] at p4'
          exact ok_of p4'.pure
        rw [List.append_nil] at p5
        obtain ⟨fp4, dead, pm, re6⟩ := wipe_rep own re4
        have ew : wipe σ2 own = wipe σ own := wipe_same s2 hts
        rw [ew] at re6
        have pm2 : ((D :: fa) ++ fp3).Perm ((D :: (fa ++ fp4)) ++ dead) := prm fun c => by have := prm_of pm c; simp only [List.count_append, List.count_cons] at *; omega
        exact ⟨F3, Eb, fp4, acc, accv, fa, wf5.sub pm2, re6, hD3, racc3, a15.sub fun c hc => mem_of_perm pm2 (List.mem_append_left _ hc), p5⟩
      | true =>
        rw [if_pos rfl]
        have p4' : Post (one (takeM em) Eb) (fun ys E'' => Post (compL own (turnM m im (one (takeM em))) (xs.drop (i + 1)) (acc ++ ys) E'') (fun a' E'' => a' = as ∧ E'' = E2) fun _ _ => False) (fun _ _ => False) := by
          have p4' := p4
          simp only [if_true] at p4'
          exact p4'
        have p5 : Post (M.bind em takeR Eb) _ _ := p4'.bind
        refine ⟨F3, Eb, fp3, w4, re4, p5.bind.imp (fun r Ec p6 => ?_) fun _ _ h => h.elim⟩
        intro yv H4 F4 fr fp4 a6 w6 re6 rr _
        obtain ⟨wf7, st7, a7⟩ := frame (by simpa using wf5 : Wf F3 H3 ((D :: fa) ++ fp3)) (fun a ha => by
          obtain ⟨o, e, mm⟩ := own3 a ha
          exact ⟨o, st5.2 a o e (.inl ha), mm⟩) a6 w6
        obtain ⟨tv, Ed, f, fp5, p7, rv, re7, pm7⟩ := take_rep rr (wf7.right) re6 p6
        have hrun := ok_of p7.pure
        have hD4 : H4 D = some (.lst accv) := st7.2 _ _ hD3 (.inl List.mem_cons_self)
        have racc4 : RepL g.toG F4 H4 (accO ++ acc) accv fa := RepL.stay _ racc3 (st7.sub fun c hc => List.mem_cons_of_mem _ hc)
        have hll := compL_len hrun
        refine ⟨accv, hD4, ?_, ?_⟩
        · have h1 := racc4.length
          rw [List.length_append] at h1 hll
          have := lim_line
          simp only [List.length_singleton] at hll
          omega
        obtain ⟨fp6, dead, pm8, re8⟩ := wipe_rep own re7
        rw [wipe_same s2 hts] at re8
        have pm9 : ((D :: fa) ++ (fr ++ fp4)).Perm ((D :: ((fa ++ f) ++ fp6)) ++ dead) := prm fun c => by have h1 := prm_of pm7 c; have h2 := prm_of pm8 c; simp only [List.count_append, List.count_cons] at *; omega
        have wf9 := wf7.sub pm9
        obtain ⟨stD, aD⟩ := upd_root (o' := .lst (accv ++ [yv])) wf9 hD4 trivial
        have atot : Aft F1 F4 H1 (L2.upd H4 D (.lst (accv ++ [yv]))) (D :: (fa0 ++ fp1)) (D :: ((fa ++ f) ++ fp6)) := (a15.trans (a7.sub fun c hc => mem_of_perm pm9 (List.mem_append_left _ hc))).trans aD
        refine ⟨F4, Ed, fp6, acc ++ [tv], accv ++ [yv], fa ++ f, ⟨wf9.nd, wf9.dj, (wf9.upd (a := D) (o' := .lst (accv ++ [yv]))).dom⟩, re8.stay (stD.sub fun c hc => List.mem_append_right _ hc), upd_same, ?_, atot, hrun⟩
        rw [← List.append_assoc]
        exact RepL.app (RepL.stay _ racc4 (stD.sub fun c hc => List.mem_append_left _ (List.mem_append_left _ hc))) ⟨yv, [], f, [], rfl, by simp, Rep.stay tv rv (stD.sub fun c hc => List.mem_append_left _ (List.mem_append_right _ hc)), rfl, rfl⟩
    · have ei : i = xs.length := by omega
      subst ei
      refine .inl ⟨wk.stop F H _ (hS F H _ aft) (Nat.le_refl _), ?_⟩
      rw [List.drop_length] at run'
      have run2 : Res.ok acc E = Res.ok as E2 := run'
      cases run2
      exact fin H F fa fp accv σ rfl aft wf re hDl racc
end
end PV

/-! V26: list comprehensions with two fors, whole -/
namespace PV
open PySem L2

theorem wipeE_get (E : Env) : ∀ (own : List Nat) (j : Nat), (wipeE own E)[j]? = if j ∈ own ∧ j < E.length then some .hole else E[j]?
  | [], j => by simp [wipeE]
  | i :: own, j => by
    have ih := wipeE_get E own j
    have hlen : ∀ l : List Nat, (wipeE l E).length = E.length := fun l => by
      induction l with
      | nil => rfl
      | cons a l ih => show ((wipeE l E).set a .hole).length = _; rw [List.length_set, ih]
    show ((wipeE own E).set i .hole)[j]? = _
    by_cases hij : i = j
    · subst hij
      by_cases hl : i < E.length
      · rw [List.getElem?_set_self (by rw [hlen]; exact hl), if_pos ⟨List.mem_cons_self, hl⟩]
      · rw [List.getElem?_eq_none (by rw [List.length_set, hlen]; omega), if_neg (fun z => hl z.2), List.getElem?_eq_none (by omega)]
    · rw [List.getElem?_set_ne hij, ih]
      have : j ≠ i := fun z => hij z.symm
      by_cases hm : j ∈ own ∧ j < E.length
      · rw [if_pos hm, if_pos ⟨List.mem_cons_of_mem _ hm.1, hm.2⟩]
      · rw [if_neg hm, if_neg (fun z => hm ⟨by rcases List.mem_cons.mp z.1 with y | y; exact (this y).elim; exact y, z.2⟩)]
theorem wipeE_len (E : Env) (l : List Nat) : (wipeE l E).length = E.length := by
  induction l with
  | nil => rfl
  | cons a l ih => show ((wipeE l E).set a .hole).length = _; rw [List.length_set, ih]
theorem wipeE_sub {own own1 : List Nat} (E : Env) (h : ∀ i ∈ own1, i ∈ own) : wipeE own (wipeE own1 E) = wipeE own E := by
  apply List.ext_getElem?
  intro j
  rw [wipeE_get, wipeE_get, wipeE_len, wipeE_get]
  by_cases hj : j ∈ own ∧ j < E.length
  · rw [if_pos hj, if_pos hj]
  · rw [if_neg hj, if_neg hj, if_neg fun z => hj ⟨h j z.1, z.2⟩]
theorem wipe_sub {own own1 : List Nat} (σ : St) (h : ∀ i ∈ own1, i ∈ own) : wipe (wipe σ own1) own = wipe σ own := by
  apply List.ext_getElem?
  intro j
  by_cases hj : j ∈ own
  · by_cases hl : j < σ.length
    · rw [wipe_in _ own j hj (by rw [wipe_length]; exact hl), wipe_in σ own j hj hl]
    · rw [List.getElem?_eq_none (by rw [wipe_length, wipe_length]; omega), List.getElem?_eq_none (by rw [wipe_length]; omega)]
  · rw [wipe_get _ own j hj, wipe_get _ own1 j fun z => hj (h j z), wipe_get _ own j hj]

section
variable {X : Cx} {e ea eb ec tg tg1 o k0 iter iter1 elt : Expr} {g : GX} {W : WX} {F F' F0 F1 F2 F3 : Addr → Prop} {H H' H0 H1 H2 H3 : Hp} {fp fp' fp0 fp1 fp2 fp3 ft fu fq fr fs rest : List Addr} {t u z : T} {v x y : V} {σ σ' σ2 : St} {E E' E0 E1 E2 : Env} {r s : R} {Q : VK} {b b' b1 b2 q : Bool}
variable {ma mb mc : M R} {na nb nc : M Bool} {pos p p2 : Pos} {es ifs ifs1 : List Expr} {ei : T → T → Option Bool} {gi : GI} {ts ts1 own own1 : List Nat}

theorem lc2_run {J : It} {S : (Addr → Prop) → Hp → Prop} {xs as : List T} {m m1 : T → M Unit} {im im1 : M Bool} {em : M R} {it1 : M (List T)} {σ0 : St}
    (w1 : Wf F1 H1 fp1) (re1 : RepE g.toG F1 H1 E1 σ0 fp1) (hw : wipe σ0 own = wipe σ own) (wk : Walk g.toG J xs S) (hS : ∀ F' H' fp', Aft F1 F' H1 H' fp1 fp' → S F' H') (hz : xs.length ≤ sizeLine) (hts : ∀ i ∈ ts, i ∈ own) (hts1 : ∀ i ∈ ts1, i ∈ own1) (hown : ∀ i ∈ own1, i ∈ own)
    (run : compL own (turnM m im (clause own1 it1 m1 im1 (one (takeM em)))) xs [] E1 = .ok as E2) (hlim : as.length ≤ lim) (fin : ∀ D H F fa fp accv, Aft F1 F H1 H fp1 (D :: (fa ++ fp)) → Wf F H (D :: (fa ++ fp)) → RepE g.toG F H (wipeE own E2) (wipe σ own) fp → H D = some (.lst accv) → RepL g.toG F H as accv fa → Q (.ref D) H) :
    ∀ D, H1 D = none → ∃ W : Nat → Nat → Hp → Prop, (∃ m, W 0 m (L2.upd H1 D (.lst []))) ∧ ∀ i m' H, W i m' H →
      (J.stop i H ∧ Q (.ref D) H) ∨ (J.go i H ∧ ∃ Nx : Hp → Prop, (∀ H', Nx H' → ∃ m'', m'' < m' ∧ W (i + 1) m'' H') ∧ ∀ x H', J.yld i H x H' → tG g W0 ts m x (wipe σ own) H' fun σ2 H2 => wipe σ2 own = wipe σ own ∧ tT g W0 false im σ2 H2 fun b H3 =>
        if b = true then tIt g W0 it1 σ2 H3 fun J1 H4 => ∃ W1 : Nat → Nat → Hp → Prop, (∃ m, W1 0 m H4) ∧ ∀ j k H, W1 j k H →
          (J1.stop j H ∧ Nx H) ∨ (J1.go j H ∧ ∃ Nx1 : Hp → Prop, (∀ H', Nx1 H' → ∃ k', k' < k ∧ W1 (j + 1) k' H') ∧ ∀ x H', J1.yld j H x H' → tG g W0 ts1 m1 x (wipe σ2 own1) H' fun σ3 H5 => wipe σ3 own1 = wipe σ2 own1 ∧ tT g W0 false im1 σ3 H5 fun b H6 =>
            if b = true then tE g W0 false em σ3 H6 fun y H7 => ∃ acc, H7 D = some (.lst acc) ∧ acc.length < sizeLine ∧ Nx1 (L2.upd H7 D (.lst (acc ++ [y]))) else Nx1 H6)
        else Nx H3) := by
  intro D hD
  let Iv : Nat → Hp → Prop := fun i H => ∃ F E fp acc accv fa, Wf F H (D :: (fa ++ fp)) ∧ RepE g.toG F H (wipeE own E) (wipe σ own) fp ∧ H D = some (.lst accv) ∧ RepL g.toG F H acc accv fa ∧ Aft F1 F H1 H fp1 (D :: (fa ++ fp)) ∧ compL own (turnM m im (clause own1 it1 m1 im1 (one (takeM em)))) (xs.drop i) acc E = .ok as E2
  refine ⟨fun i m' H => m' = xs.length - i ∧ i ≤ xs.length ∧ Iv i H, ⟨xs.length, by simp, Nat.zero_le _, ?_⟩, ?_⟩
  · obtain ⟨fp', dead, pm, re⟩ := wipe_rep own re1
    rw [hw] at re
    have wx := w1.sub pm
    have ex := ext_new (o := .lst []) hD
    have nD : D ∉ fp' := fun h => by obtain ⟨o, e⟩ := own_of re D h; rw [hD] at e; cases e
    refine ⟨F1, E1, fp', [], [], [], ?_, re.stay (stay_ext ex), upd_same, ⟨rfl, rfl⟩, ⟨fun _ h => h, fun _ h => .inl h, fun a o e _ => ex a o e, fun a ha => ?_, fun a o e _ => ex a o e⟩, by simpa using run⟩
    · refine ⟨List.nodup_cons.mpr ⟨by simpa using nD, by simpa using wx.nd⟩, fun a ha => ?_, (wx.ext ex).dom⟩
      rcases List.mem_cons.mp ha with rfl | ha
      · intro z
        obtain ⟨o, e⟩ := w1.dom _ z
        rw [hD] at e; cases e
      · exact wx.dj a (by simpa using ha)
    · rcases List.mem_cons.mp ha with rfl | ha
      · exact .inr hD
      · exact .inl (mem_of_perm pm (List.mem_append_left _ (by simpa using ha)))
  · rintro i m' H ⟨rfl, hi, F, E, fp, acc, accv, fa, wf, re, hDl, racc, aft, run'⟩
    by_cases hlt : i < xs.length
    · refine .inr ⟨wk.go F H i (hS F H _ aft) hlt, Iv (i + 1), fun H' q => ⟨xs.length - (i + 1), by omega, rfl, hlt, q⟩, fun x H' y => ?_⟩
      obtain ⟨ex, rx⟩ := wk.yld F H i x H' xs[i] (hS F H _ aft) (by simp) y
      have wf' := wf.ext ex
      have re' := re.stay (fp := fp) (stay_ext (F := F) ex)
      have racc' := RepL.stay _ racc (stay_ext ex)
      have hDl' := ex D _ hDl
      have aft' : Aft F1 F H1 H' fp1 (D :: (fa ++ fp)) := aft.trans (ext_aft ex)
      rw [List.drop_eq_getElem_cons hlt] at run'
      have p0 : Post (M.bind (wipeM own) (fun _ => M.bind (turnM m im (clause own1 it1 m1 im1 (one (takeM em))) xs[i]) fun ys => compL own (turnM m im (clause own1 it1 m1 im1 (one (takeM em)))) (xs.drop (i + 1)) (acc ++ ys)) E) _ _ := post_of run'
      have p1 : Post (M.bind (turnM m im (clause own1 it1 m1 im1 (one (takeM em))) xs[i]) (fun ys => compL own (turnM m im (clause own1 it1 m1 im1 (one (takeM em)))) (xs.drop (i + 1)) (acc ++ ys)) (wipeE own E)) _ _ := p0.bind
      have p2 : Post (M.bind (m xs[i]) (fun _ => M.bind im fun b => if b = true then clause own1 it1 m1 im1 (one (takeM em)) else M.pure []) (wipeE own E)) _ _ := p1.bind
      have wff : Wf F H' ((D :: fa) ++ fp) := by simpa using wf'
      have ownD : ∀ a ∈ D :: fa, ∃ o, H' a = some o ∧ Mut (some o) := fun a ha => by
        rcases List.mem_cons.mp ha with rfl | ha
        · exact ⟨_, hDl', trivial⟩
        · exact RepL.own _ racc' a ha
      refine ⟨F, wipeE own E, fp, [], xs[i], wff.right, re', rx, p2.bind.imp (fun _ Ea p3 => ?_) fun _ _ h => h.elim⟩
      intro σ2 H2 F2 fp2 a2 w2 re2 s2
      obtain ⟨wf3, st3, a3⟩ := frame wff ownD (by simpa using a2) w2
      have ew : wipe σ2 own = wipe σ own := wipe_same s2 hts
      refine ⟨ew, F2, Ea, fp2, w2, re2, p3.bind.imp (fun k Eb p4 => ?_) fun _ _ h => h.elim⟩
      intro H3 F3 fp3 a4 w4 re4 _
      have own3 : ∀ a ∈ D :: fa, ∃ o, H2 a = some o ∧ Mut (some o) := fun a ha => by
        obtain ⟨o, e, mm⟩ := ownD a ha
        exact ⟨o, st3.2 a o e (.inl ha), mm⟩
      obtain ⟨wf5, st5, a5⟩ := frame wf3 own3 a4 w4
      have hD3 : H3 D = some (.lst accv) := st5.2 _ _ (st3.2 _ _ hDl' (.inl List.mem_cons_self)) (.inl List.mem_cons_self)
      have racc3 : RepL g.toG F3 H3 acc accv fa := RepL.stay _ (RepL.stay _ racc' (st3.sub fun c hc => List.mem_cons_of_mem _ hc)) (st5.sub fun c hc => List.mem_cons_of_mem _ hc)
      have a15 : Aft F1 F3 H1 H3 fp1 ((D :: fa) ++ fp3) := aft'.trans (by simpa using Aft.trans (by simpa using a3) a5)
      cases k with
      | false =>
        rw [if_neg (by decide)]
        have p5 : compL own (turnM m im (clause own1 it1 m1 im1 (one (takeM em)))) (xs.drop (i + 1)) (acc ++ []) Eb = .ok as E2 := by
          have p4' := p4
          simp only [Bool.false_eq_true, if_false] at p4'
          exact ok_of p4'.pure
        rw [List.append_nil] at p5
        obtain ⟨fp4, dead, pm, re6⟩ := wipe_rep own re4
        rw [ew] at re6
        have pm2 : ((D :: fa) ++ fp3).Perm ((D :: (fa ++ fp4)) ++ dead) := prm fun c => by have := prm_of pm c; simp only [List.count_append, List.count_cons] at *; omega
        exact ⟨F3, Eb, fp4, acc, accv, fa, wf5.sub pm2, re6, hD3, racc3, a15.sub fun c hc => mem_of_perm pm2 (List.mem_append_left _ hc), p5⟩
      | true =>
        rw [if_pos rfl]
        have p4' : Post (M.bind it1 (fun ys => compL own1 (turnM m1 im1 (one (takeM em))) ys []) Eb) (fun ys E'' => Post (compL own (turnM m im (clause own1 it1 m1 im1 (one (takeM em)))) (xs.drop (i + 1)) (acc ++ ys) E'') (fun a' E'' => a' = as ∧ E'' = E2) fun _ _ => False) (fun _ _ => False) := by
          have p4' := p4
          simp only [if_true] at p4'
          exact p4'
        refine ⟨F3, Eb, fp3, w4, re4, p4'.bind.imp (fun ys Ec p6 => ?_) fun _ _ h => h.elim⟩
        intro J1 H4 F4 fp4 a6 w6 re6 wk1 hz1
        obtain ⟨wf7, st7, a7⟩ := frame (by simpa using wf5 : Wf F3 H3 ((D :: fa) ++ fp3)) (fun a ha => by
          obtain ⟨o, e, mm⟩ := own3 a ha
          exact ⟨o, st5.2 a o e (.inl ha), mm⟩) a6 w6
        cases hin : compL own1 (turnM m1 im1 (one (takeM em))) ys [] Ec with
        | bad => rw [hin] at p6; exact p6.elim
        | exc _ _ => rw [hin] at p6; exact p6.elim
        | ok as1 Ed =>
          rw [hin] at p6
          have hrun := ok_of (show Post (compL own (turnM m im (clause own1 it1 m1 im1 (one (takeM em)))) (xs.drop (i + 1)) (acc ++ as1) Ed) _ _ from p6)
          have hll := compL_len hrun
          rw [List.length_append] at hll
          have hD4 : H4 D = some (.lst accv) := st7.2 _ _ hD3 (.inl List.mem_cons_self)
          have racc4 : RepL g.toG F4 H4 acc accv fa := RepL.stay _ racc3 (st7.sub fun c hc => List.mem_cons_of_mem _ hc)
          have wf8 : Wf F4 H4 (D :: (fa ++ fp4)) := by simpa using wf7
          refine lc_in (σ := σ2) (own := own1) (ts := ts1) (fa0 := fa) wf8 re6 hD4 racc4 wk1 (fun F' H' fp' af => af.stay0 wf8) hts1 hin (by omega) (fun H5 F5 fa5 fp5 accv5 σ5 _ a5' w5' re5' hD5 r5' => ?_) rfl
          obtain ⟨fp6, dead, pm8, re8⟩ := wipe_rep own re5'
          rw [wipeE_sub Ed hown, wipe_sub σ2 hown, ew] at re8
          have pm9 : (D :: (fa5 ++ fp5)).Perm ((D :: (fa5 ++ fp6)) ++ dead) := prm fun c => by have h2 := prm_of pm8 c; simp only [List.count_append, List.count_cons] at *; omega
          have a17 : Aft F1 F4 H1 H4 fp1 (D :: (fa ++ fp4)) := a15.trans (by simpa using a7)
          exact ⟨F5, Ed, fp6, acc ++ as1, accv5, fa5, w5'.sub pm9, re8, hD5, r5', (a17.trans a5').sub fun c hc => mem_of_perm pm9 (List.mem_append_left _ hc), hrun⟩
    · have ei : i = xs.length := by omega
      subst ei
      refine .inl ⟨wk.stop F H _ (hS F H _ aft) (Nat.le_refl _), ?_⟩
      rw [List.drop_length] at run'
      have run2 : Res.ok acc E = Res.ok as E2 := run'
      cases run2
      exact fin D H F fa fp accv aft wf re hDl racc
section
variable {scope : Scope} {ow : List (Str × Nat)} {it it1 : M (List T)} {m m1 : T → M Unit} {im im1 : M Bool} {em : M R}
theorem lc2_red (hts : ∀ i ∈ ts, i ∈ ow.map (·.2)) (hts1 : ∀ i ∈ ts1, i ∈ own1) (hown : ∀ i ∈ own1, i ∈ ow.map (·.2))
    (h : tE g W false (blk (ow.map (·.2)) it (fun xs => compL (ow.map (·.2)) (turnM m im (clause own1 it1 m1 im1 (one (takeM em)))) xs []) (mkList true)) σ H Q) :
    tLc2 (tIt g W it) (tG g W0 ts m) (tT g W0 false im) (tIt g W0 it1) (tG g W0 ts1 m1) (tT g W0 false im1) (tE g W0 false em) (ow.map (·.2)) own1 σ H Q := by
    obtain ⟨F, E, fp, w, re, p⟩ := h
    refine ⟨F, E, fp, w, re, Post.imp (Post.bind p) (fun xs E1 p1 => ?_) fun _ _ h => h⟩
    intro J H1 F1 fp1 a1 w1 re1 wk hz
    obtain ⟨as, E2, c, hown', hk, hf, p2⟩ := blkR_inv p1
    have hf' : (if (!true || decide (as.length ≤ lim)) = true then some (R.val (.lst true as)) else none) = some c := hf
    split at hf'
    · rename_i hlim
      cases hf'
      obtain ⟨fpw, dead, pm, rew⟩ := wipe_rep (ow.map (·.2)) re1
      have ww := w1.sub pm
      have aw : Aft F1 F1 H1 H1 fp1 fpw := Aft.here fun a ha => mem_of_perm pm (List.mem_append_left _ ha)
      refine lc2_run ww rew (wipe_wipe σ _) wk (fun F' H' fp' a => (aw.trans a).stay0 w1) hz hts hts1 hown hk (by simpa using hlim) fun D H2 F2 fa fp2 accv a2 w2 re2 hD racc => ?_
      have a12 := aw.trans a2
      obtain ⟨fp3, dead3, pm3, re3⟩ := rest_rep (σ := σ) re1 (a12.stay0 w1) re2 (ow.map (·.2)) hown'
      rw [rest_wipe] at re3
      have pm4 : (D :: (fa ++ fp2)).Perm (((D :: fa) ++ fp3) ++ dead3) := prm fun c => by have := prm_of pm3 c; simp only [List.count_append, List.count_cons] at *; omega
      exact p2 (.ref D) H2 F2 (D :: fa) fp3 ((a1.trans a12).sub fun c hc => mem_of_perm pm4 (List.mem_append_left _ hc)) (w2.sub pm4) re3 ⟨D, accv, fa, rfl, racc, .inl ⟨rfl, hD, rfl⟩⟩ fun h => nomatch h
    · cases hf'
theorem je_lc2 (hc : X.calm = true) (hN : X.N.Nodup) (hi : JIt X g W tg iter it) (ok : BlkOk X.N X.env.scope scope ow) (hts : ∀ i ∈ ts, i ∈ ow.map (·.2)) (hts1 : ∀ i ∈ ts1, i ∈ own1) (hown : ∀ i ∈ own1, i ∈ ow.map (·.2))
    (hg : ∀ (s : Shared) (H : Hp) (C : Addr) (cl : List (Str × Addr)) (fp : List Addr), JG (X.blk s H scope (compEnvC scope cl C X.env) fp) g W0 ts tg m)
    (ht : ∀ (s : Shared) (H : Hp) (C : Addr) (cl : List (Str × Addr)) (fp : List Addr), JTs (X.blk s H scope (compEnvC scope cl C X.env) fp) g W0 ifs im)
    (hi1 : ∀ (s : Shared) (H : Hp) (C : Addr) (cl : List (Str × Addr)) (fp : List Addr), JIt (X.blk s H scope (compEnvC scope cl C X.env) fp) g W0 tg1 iter1 it1)
    (hg1 : ∀ (s : Shared) (H : Hp) (C : Addr) (cl : List (Str × Addr)) (fp : List Addr), JG (X.blk s H scope (compEnvC scope cl C X.env) fp) g W0 ts1 tg1 m1)
    (ht1 : ∀ (s : Shared) (H : Hp) (C : Addr) (cl : List (Str × Addr)) (fp : List Addr), JTs (X.blk s H scope (compEnvC scope cl C X.env) fp) g W0 ifs1 im1)
    (he : ∀ (s : Shared) (H : Hp) (C : Addr) (cl : List (Str × Addr)) (fp : List Addr), JE (X.blk s H scope (compEnvC scope cl C X.env) fp) g W0 false elt em)
    (hs : ∀ x, foldedSetIterable iter X.env x = pure x) (hs1 : ∀ env x, foldedSetIterable iter1 env x = pure x) :
    JE X g W false (.ListComp elt [⟨tg, iter, ifs, 0⟩, ⟨tg1, iter1, ifs1, 0⟩] scope pos) (blk (ow.map (·.2)) it (fun xs => compL (ow.map (·.2)) (turnM m im (clause own1 it1 m1 im1 (one (takeM em)))) xs []) (mkList true)) :=
  PE.imp (pe_lc2 hc hN hi ok hown hg ht hi1 hg1 ht1 he hs hs1) fun σ H Q h => lc2_red hts hts1 hown h
end
end
end PV

/-! V27: a written dict, walked -/
namespace PV
open PySem L2

/-- the keys of a written dict, as texts -/
def Itkd (ks : List Str) : It := ⟨fun i _ => i < ks.length, fun i H v H' => H' = H ∧ ∃ z, ks[i]? = some z ∧ v = .str z, fun i _ => ks.length ≤ i⟩
def keyS (e : DictEntry) : Option Str := match e.key with | .str x _ => some x | _ => none
theorem keyS_inv {e : DictEntry} {z : Str} (h : keyS e = some z) : ∃ t, e.key = .str z t := by
  unfold keyS at h
  split at h
  · rename_i x t hk
    cases h
    exact ⟨t, hk⟩
  · cases h
theorem turn_kd {P : Program} {w : World} {K : PySem.W.Frag} {tg : Expr} {d : Addr} {o : Obj} {es : Array DictEntry} {ep : Nat} {ks : List Str} (it : Addr) (lk : K.lookup d = some o) (hod : o.data = .dict es ep) (hk : es.toList.map keyS = ks.map some) :
    Turn P w K tg (Itkd ks) [it] it (fun i h => h.IsKeyIter it d i ks.length ep) where
  mem := by simp
  obj := fun i h st b hb => by
    have e : b = it := by simpa using hb
    subst e
    obtain ⟨oi, e, c, dd⟩ := st
    exact ⟨oi, e, fun v z => by rw [dd] at z; cases z⟩
  keep := fun i h h' st k => st.at fun oi e => k it (by simp) oi e
  item := by
    intro X hP hw hK hc i pins s σ H E I hf st hg
    subst hP hw hK
    obtain ⟨f0, f1, f2, f3, f4, f5⟩ := hf it (by simp)
    have hsz : es.size = ks.length := by have := congrArg List.length hk; simpa using this
    have hg' : i < ks.length := hg
    have hi : i < es.size := by omega
    have hkey : keyS es[i] = some ks[i] := by
      have h1 : (es.toList.map keyS)[i]? = (ks.map some)[i]? := by rw [hk]
      rw [List.getElem?_map, List.getElem?_map, Array.getElem?_toList, Array.getElem?_eq_getElem hi, List.getElem?_eq_getElem hg'] at h1
      simpa using h1
    obtain ⟨t, ht⟩ := keyS_inv hkey
    refine next_key_item st (I.kIn d o lk) hod hsz (Array.getElem?_eq_getElem hi) fun h' st' sb => ?_
    have I1 : Inv X pins σ H { s with heap := h' } := I.turned (t' := s.toks) (fun b ob hb e => (sb.2 b hb).trans e) f0 f1 f3 f4 f5
    obtain ⟨oi, e, c, dd⟩ := id st'
    exact ⟨es[i].key, rfl, go_of (s := { s with heap := h' }) e c dd (by decide) ⟨.str ks[i], H, I1, ⟨t, ht⟩, ⟨rfl, ks[i], List.getElem?_eq_getElem hg', rfl⟩, st', fun b hb => (hf b hb).1⟩⟩
  done := by
    intro X hP hw hK hc i pins s σ H E I hf st hg
    subst hP hw hK
    obtain ⟨f0, f1, f2, f3, f4, f5⟩ := hf it (by simp)
    have hsz : es.size = ks.length := by have := congrArg List.length hk; simpa using this
    exact next_key_end (I.ok.hd hc) st (I.kIn d o lk) hod hsz hg fun h' eb => ⟨rfl, I.turned (t' := s.toks) (fun b ob hb e => eb b ob hb e) f0 f1 f3 f4 f5⟩
  self := fun A i s Q E st h => wpAny_pyIter_keyiter st h
section
variable {X : Cx} {tg : Expr} {g : GX} {W : WX}
theorem walk_kd {F : Addr → Prop} {H : Hp} {ks : List Str} : WalkS g.toG (Itkd ks) (ks.map .str) F H := by
  refine ⟨fun F' H' i s hi => by show i < ks.length; simpa using hi, fun F' H' i x H2 t s e y => ?_, fun F' H' i s hi => by show ks.length ≤ i; simpa using hi⟩
  obtain ⟨rfl, z, hz, rfl⟩ := y
  refine ⟨fun _ _ h => h, ?_⟩
  rw [List.getElem?_map, hz] at e
  cases e
  exact ⟨rfl, rfl⟩
theorem jit_kd {nm : Str} {pn : Pos} {d : Addr} {es : Array DictEntry} {n : Nat} {ks : List Str} (D : KDict X.K X.w d es n) (hk : es.toList.map keyS = ks.map some) (hl : ks.length ≤ 1000) (he : PE X (.Name nm pn) (tC (.ref d))) : JIt X g W tg (.Name nm pn) (iW ks) := by
  refine ⟨fun pins s σ H R I h => ?_⟩
  obtain ⟨F, E, fp, w, re, p⟩ := h
  refine thn (he.run pins s σ H (fun v H' => v = .ref d ∧ H' = H) I ⟨rfl, rfl⟩) fun v s1 ⟨x, H1, I1, r1, e1, e2⟩ => ?_
  subst e1 e2
  obtain rfl : v = Value.ref d := r1
  have hsz : es.size = ks.length := by have := congrArg List.length hk; simpa using this
  refine iter_keys D.low (I1.kIn d _ D.at_) ⟨rfl, rfl, rfl⟩ rfl (pi_one (tk := s1.toks) I1 _ (turn_kd _ D.at_ rfl hk) ⟨_, Heap.get?_push_size _ rfl, rfl, ?_⟩ ?_)
  · rw [hsz] <;> rfl
  · exact p.pure (Itkd ks) H1 F fp Aft.refl w re walk_kd (by rw [List.length_map, sizeLine_eq]; omega)
end
end PV

/-! V28: C(e, ..) -/
namespace PV
open PySem L2

section
variable {X : Cx} {e ea eb ec tg o k0 iter elt : Expr} {g : GX} {W : WX} {F F' F0 F1 F2 F3 : Addr → Prop} {H H' H0 H1 H2 H3 : Hp} {fp fp' fp0 fp1 fp2 fp3 ft fu fq fr fs rest : List Addr} {t u z : T} {v x y : V} {σ σ' σ2 : St} {E E' E0 E1 E2 : Env} {r s : R} {Q : VK} {b b' b1 b2 q : Bool}
variable {ma mb mc : M R} {na nb nc : M Bool} {pos p p2 : Pos} {es ifs : List Expr} {ei : T → T → Option Bool} {gi : GI} {ts ts' own pm : List Nat} {D : Ends}
variable {call : Calls} {qn C : Str} {ms : List Bool} {rs : List R} {vs : List V} {Ca : Addr}

theorem doMake_red {P : T → Env → Prop} {XX : T → Env → Prop} {Ex : XK} (hC : g.toG.cls C = some Ca) (rr : RepRs g.toG F H σ rs vs fr) (w : Wf F H (fr ++ fp)) (re : RepE g.toG F H E σ fp) (p : Post (doMake false call C false qn ms rs E) P XX)
    (k : ∀ t E2 v H' F2 ft fp2, P t E2 → Aft F F2 H H' (fr ++ fp) (ft ++ fp2) → Wf F2 H' (ft ++ fp2) → RepE g.toG F2 H' E2 σ fp2 → Rep g.toG F2 H' t v ft → Q v H') :
    ∀ x dx, H x = none → H dx = none → dx ≠ x → spT g false call qn (true :: ms) (.ref x :: vs) (L2.upd (L2.upd H dx (.own x)) x (.ins Ca dx [])) (fun v H2 => v = .non ∧ Q (.ref x) H2) Ex := by
  intro x dx hx hdx hne
  unfold doMake at p
  split at p
  case isFalse => exact p.elim
  rename_i hn
  cases hl : lend rs ms E with
  | none => rw [hl] at p; exact p.elim
  | some q =>
    obtain ⟨us, E1⟩ := q
    rw [hl] at p
    dsimp only at p
    obtain ⟨Fc, fa, wc, ra, _, kk⟩ := lend_call rr w re hl
    have ex : Ext H (L2.upd (L2.upd H dx (.own x)) x (.ins Ca dx [])) := fun a o e => by
      rw [upd_ne (ne_of_none e hx), upd_ne (ne_of_none e hdx)]; exact e
    have nfa : x ∉ fa := fun h => by obtain ⟨o, e, _⟩ := RepL.own us ra x h; rw [hx] at e; cases e
    have nFc : ¬ Fc x := fun h => by obtain ⟨o, e⟩ := wc.dom x h; rw [hx] at e; cases e
    have wx : Wf Fc (L2.upd (L2.upd H dx (.own x)) x (.ins Ca dx [])) (x :: fa) := by
      refine ⟨List.nodup_cons.mpr ⟨nfa, wc.nd⟩, fun a ha => ?_, (wc.ext ex).dom⟩
      rcases List.mem_cons.mp ha with rfl | ha
      · exact nFc
      · exact wc.dj a ha
    have ri : Rep g.toG Fc (L2.upd (L2.upd H dx (.own x)) x (.ins Ca dx [])) (.ins true C [] []) (.ref x) [x] :=
      ⟨x, Ca, dx, [], [], rfl, hC, ⟨rfl, rfl⟩, rfl, List.nodup_nil, upd_same, .inl ⟨rfl, rfl⟩⟩
    refine ⟨by rw [List.length_cons, List.length_cons, ← rr.length, hn], Fc, x :: fa, .ins true C [] [] :: us, wx, ⟨.ref x, vs, [x], fa, rfl, rfl, ri, RepL.stay us ra (stay_ext ex)⟩, ?_⟩
    rw [if_neg (by decide)] at p
    cases hc : call qn (.ins true C [] [] :: us) with
    | bad => rw [hc] at p; exact p.elim
    | exc y as =>
      rw [hc] at p
      cases as with
      | nil => exact p.elim
      | cons a as =>
        dsimp only at p
        rw [if_neg (by decide)] at p
        exact p.elim
    | ret r as =>
      rw [hc] at p
      cases r with
      | non =>
        cases as with
        | nil => exact p.elim
        | cons y as =>
          dsimp only at p
          split at p
          · rename_i hcond
            cases hg : giveBack rs ms as E1 with
            | none => rw [hg] at p; exact p.elim
            | some E2 =>
              rw [hg] at p
              intro v H' F' ft fas a' w' rv rm
              obtain ⟨rfl, rfl⟩ : v = .non ∧ ft = [] := rv
              obtain ⟨v1, vs1, e1, ⟨_, f1, f2, rfl, r1, r2⟩ | ⟨h, _⟩⟩ := rm
              · cases e1
                have a2 : Aft Fc F' H H' fa (f1 ++ f2) := by
                  have up : ∀ a, L2.upd (L2.upd H dx (.own x)) x (.ins Ca dx []) a = none → H a = none := fun a h => by
                    cases ha : H a with
                    | none => rfl
                    | some o => rw [ex a o ha] at h; cases h
                  refine ⟨a'.ff, fun a h => ?_, fun a o e h => ?_, fun a h => ?_, fun a o e m => a'.tups a o (ex a o e) m⟩
                  · rcases a'.fn a h with z | z | z
                    · exact .inl z
                    · rcases List.mem_cons.mp z with rfl | z
                      · exact .inr (.inr hx)
                      · exact .inr (.inl z)
                    · exact .inr (.inr (up a z))
                  · refine a'.keep a o (ex a o e) fun z => ?_
                    rcases List.mem_cons.mp z with rfl | z
                    · rw [hx] at e; cases e
                    · exact h z
                  · rcases a'.new a (by simpa using h) with z | z
                    · rcases List.mem_cons.mp z with rfl | z
                      · exact .inr hx
                      · exact .inl z
                    · exact .inr (up a z)
                obtain ⟨F2, fp2, a3, w3, re3, r3⟩ := kk H' F' f1 f2 y as (.ref x) E2 a2 (by simpa using w') (fun G h => h.elim (fun h => Rep.stay y r1 ⟨h, fun _ _ e _ => e⟩) fun h => Rep.any y r1 h) r2 hcond hg
                exact ⟨rfl, k y E2 (.ref x) H' F2 f1 fp2 p a3 w3 re3 r3⟩
              · cases h
          · exact p.elim
      | _ => exact p.elim
/-- C(e, ..) -/
theorem je_make {CX : CXT} {k : Nat} {f : Addr} {fd : FuncData} {ps : List Str} {dts : List T} {dvs : List V} {ds : List Value} {nm : Str} {l : M (List R)} (hC : g.toG.cls C = some Ca) (Mk0 : Mk X.K Ca f) (Fn : FnOk X.prog X.w X.K X.mg X.base CX k f fd ps (spT g false call qn (true :: ms))) (hr : Room (k + 1) X.A) (hg : Gl X nm) (hm : X.mg nm = some (.ref Ca))
    (hb : Binds X.K fd ps ds) (hd : Vals dvs ds) (hdf : ∀ F H, RepL g.toG F H dts dvs []) (hx : Passes CX X XF) (ha : JA X g W b (e :: es) l) (hdb : (nm == ("__debug__" : Str)) = false)
    (he : starEach (e :: es) X.env = (false, eval e X.env) :: starEach es X.env) (hpl : (backTo pos (starEach es X.env)).any (·.1) = false) : JE X g W false (.Call (.Name nm p) (e :: es) [] pos) (toV (cMake0 false call C false qn ms dts l)) :=
  PE.imp (pe_make (E := XF) Mk0 Fn hr hg hm hb hd hx ha hdb he hpl) fun σ H Q h => by
    obtain ⟨F, E, fp, w, re, p⟩ := h
    have p0 : Post (M.bind (M.bind l fun rs => doMake false call C false qn ms (rs ++ dts.map .val)) (fun t => M.pure (R.val t)) E) _ _ := p
    refine ⟨F, E, fp, w, re, p0.bind.bind.imp (fun rs E1 p1 => ?_) fun _ _ h => h⟩
    intro vs H1 F1 fr fp1 a1 w1 re1 rr ex
    have rr2 : RepRs g.toG F1 H1 σ (rs ++ dts.map .val) (vs ++ dvs) (fr ++ []) := rr.app (RepRs.vals (hdf F1 H1))
    exact doMake_red (fp := fp1) hC rr2 (by simpa using w1) re1 p1 fun t E2 v H' F2 ft fp2 p2 a2 w2 re2 rt =>
      p2.pure v H' F2 ft fp2 (a1.trans (by simpa using a2)) w2 re2 rt fun h => nomatch h
end
end PV

/-! V29: == of plain data -/
namespace PV
open PySem L2

section
variable {g : GX} {F : Addr → Prop} {H : Hp}
mutual
theorem data_rep : ∀ (n : Nat) (t : T) {d : PyData} {x : V} {ft : List Addr}, Rep g.toG F H t x ft → dataT n t = some d → Dp g.toG.K H x d ∧ d.canLay0 = true ∧ d.depth ≤ n
  | 0, t, d, x, ft, r, e => by simp [dataT] at e
  | n + 1, t, d, x, ft, r, e => by
    cases t with
    | non => cases e; obtain ⟨rfl, _⟩ := r; exact ⟨.non, rfl, by simp [PyData.depth]⟩
    | bl b => cases e; obtain ⟨rfl, _⟩ := r; exact ⟨.bl _, rfl, by simp [PyData.depth]⟩
    | int b => cases e; obtain ⟨rfl, _⟩ := r; exact ⟨.int _, rfl, by simp [PyData.depth]⟩
    | str b =>
      have e' : (if PyData.strOk b = true then some (PyData.str b) else none) = some d := by simpa [dataT] using e
      split at e'
      · rename_i hk
        cases e'
        obtain ⟨rfl, _⟩ := r
        exact ⟨.str _, by simpa [PyData.canLay0] using hk, by simp [PyData.depth]⟩
      · cases e'
    | tup xs =>
      have e' : (dataL n xs).map PyData.tuple = some d := by simpa [dataT] using e
      cases hd : dataL n xs with
      | none => rw [hd] at e'; cases e'
      | some ds =>
        rw [hd] at e'
        cases e'
        obtain ⟨a, vs, rfl, sq, r1, _⟩ := r.tup_inv
        obtain ⟨h1, h2, h3⟩ := dataL_rep n xs r1 hd
        exact ⟨.tup sq h1, by simpa [PyData.canLay0] using h2, by simp [PyData.depth]; omega⟩
    | lst o xs =>
      have e' : (dataL n xs).map PyData.list = some d := by simpa [dataT] using e
      cases hd : dataL n xs with
      | none => rw [hd] at e'; cases e'
      | some ds =>
        rw [hd] at e'
        cases e'
        obtain ⟨a, vs, fs, rfl, sq, r1, _⟩ := r.lst_inv
        obtain ⟨h1, h2, h3⟩ := dataL_rep n xs r1 hd
        exact ⟨.lst sq h1, by simpa [PyData.canLay0] using h2, by simp [PyData.depth]; omega⟩
    | _ => simp [dataT] at e
theorem dataL_rep : ∀ (n : Nat) (ts : List T) {ds : List PyData} {vs : List V} {fp : List Addr}, RepL g.toG F H ts vs fp → dataL n ts = some ds → DpAll g.toG.K H vs ds ∧ PyData.canLayAll0 ds = true ∧ PyData.depthAll ds ≤ n
  | n, [], ds, vs, fp, r, e => by
    obtain ⟨rfl, _⟩ := r
    have : ds = [] := by simpa [dataL] using e.symm
    subst this
    exact ⟨.nil, by simp [PyData.canLayAll0], by simp [PyData.depthAll]⟩
  | n, t :: ts, ds, vs, fp, r, e => by
    obtain ⟨v, vs', f1, f2, rfl, rfl, r1, r2⟩ := r
    cases h1 : dataT n t with
    | none => simp [dataL, h1] at e
    | some d =>
      cases h2 : dataL n ts with
      | none => simp [dataL, h1, h2] at e
      | some ds' =>
        have e' : d :: ds' = ds := by simpa [dataL, h1, h2] using e
        subst e'
        obtain ⟨a1, a2, a3⟩ := data_rep n t r1 h1
        obtain ⟨b1, b2, b3⟩ := dataL_rep n ts r2 h2
        exact ⟨.cons a1 b1, by simp [PyData.canLayAll0, a2, b2], by simp [PyData.depthAll]; omega⟩
end
theorem ct_eq0 {X : Cx} (fit : Fits g X) : CmpT g X (fun _ _ => none) .Eq (rEqD X.K) := ⟨op_eqD fit.hu, fun F H fp t u k x y ft fu Q w rt ru e q => by
  have e' : eqT (fun _ _ => none) t u = some k := by cases t <;> exact e
  cases hd : dataT 60 t with
  | none => cases t <;> simp [eqT, hd] at e'
  | some d =>
    cases he : dataT 60 u with
    | none => cases t <;> simp [eqT, hd, he] at e'
    | some d2 =>
      have e2 : PyData.eqv d d2 = k := by cases t <;> simp [eqT, hd, he] at e' <;> exact e'
      obtain ⟨a1, a2, a3⟩ := data_rep 60 t rt hd
      obtain ⟨b1, b2, b3⟩ := data_rep 60 u ru he
      refine ⟨d, d2, fit.K ▸ a1, fit.K ▸ b1, ?_, ?_, by rw [e2]; exact q H fun _ _ h => h⟩
      · unfold SeqAt.shaped; rw [a2]; simp; omega
      · unfold SeqAt.shaped; rw [b2]; simp; omega⟩
theorem ct_ne0 {X : Cx} (fit : Fits g X) : CmpT g X (fun _ _ => none) .NotEq (rNeD X.K) := ⟨op_neD fit.hu, fun F H fp t u k x y ft fu Q w rt ru e q => by
  have e' : (eqT (fun _ _ => none) t u).map (!·) = some k := by cases t <;> exact e
  cases hd : dataT 60 t with
  | none => cases t <;> simp [eqT, hd] at e'
  | some d =>
    cases he : dataT 60 u with
    | none => cases t <;> simp [eqT, hd, he] at e'
    | some d2 =>
      have e2 : (!PyData.eqv d d2) = k := by cases t <;> simp [eqT, hd, he] at e' <;> simp [e']
      obtain ⟨a1, a2, a3⟩ := data_rep 60 t rt hd
      obtain ⟨b1, b2, b3⟩ := data_rep 60 u ru he
      refine ⟨d, d2, fit.K ▸ a1, fit.K ▸ b1, ?_, ?_, by rw [e2]; exact q H fun _ _ h => h⟩
      · unfold SeqAt.shaped; rw [a2]; simp; omega
      · unfold SeqAt.shaped; rw [b2]; simp; omega⟩
end
end PV

/-! V30: o.m(..) -/
namespace PV
open PySem L2

/-- o.m(e, ..) of one class, no keywords -/
def cMeth0 (xs : Bool) (call : Calls) (C : Str) (f : Str) (qn : Str) (ms : List Bool) (q : Bool) (dts : List T) (m : M R) (es : M (List R)) : M R := M.bind m fun r => M.bind (guardM (!(deep r) || q)) fun _ => M.bind (viewR r) fun t => match t with
  | .ins _ C' ks _ => if C' = C ∧ f ∉ ks then M.bind es fun rs => M.bind (doCall xs call qn ms (r :: (rs ++ dts.map .val))) fun t => M.pure (.val t) else badM
  | _ => badM
section
variable {X : Cx} {e o : Expr} {g : GX} {W : WX} {b q : Bool} {ma : M R} {pos p apos : Pos} {es : List Expr} {call : Calls} {qn C f : Str} {ms : List Bool} {Ca : Addr}
theorem zip_lookup_none {ks : List Str} {vs : List V} (h : f ∉ ks) : (ks.zip vs).lookup f = none := by
  induction ks generalizing vs with
  | nil => cases vs <;> rfl
  | cons k ks ih =>
    cases vs with
    | nil => rfl
    | cons v vs =>
      have hk : ¬ f = k := fun z => h (by rw [z]; exact List.mem_cons_self)
      rw [List.zip_cons_cons, List.lookup_cons]
      have : (f == k) = false := by simpa using hk
      rw [this]
      exact ih fun z => h (List.mem_cons_of_mem _ z)
theorem je_meth0 {CX : CXT} {k : Nat} {fa : Addr} {fd : FuncData} {ps : List Str} {dts : List T} {dvs : List V} {ds : List Value} {pl : Sem Bool} (hC : g.toG.cls C = some Ca) (ho : JE X g W b o ma) (c : Cls X.K Ca) (hm : Meth X.K Ca f fa) (Fn : FnOk X.prog X.w X.K X.mg X.base CX k fa fd ps (spT g false call qn ms)) (hr : Room k X.A)
    (hb : Binds X.K fd ps ds) (hd : Vals dvs ds) (hdf : ∀ F H, RepL g.toG F H dts dvs []) (hx : Passes CX X XF)
    (ht : eval (.Call (.Attribute o f apos) [] [] pos) X.env = (do
      let ov ← eval o X.env
      standAt apos.atName
      let (f, first) ← holding [ov] (getMethod ov f pl)
      callWith pos f first (backTo pos (starEach [] X.env)) (backToKw pos (keywordEach [] X.env)))) : JE X g W false (.Call (.Attribute o f apos) [] [] pos) (cMeth0 false call C f qn ms true dts ma lNil) :=
  PE.imp (pe_meth0 (E := XF) ho c hm Fn hr hb hd hx ht) fun σ H Q h => by
    obtain ⟨F, E, fp, w, re, p⟩ := h
    refine see w re p fun x H1 F1 fr fp1 r E1 a1 w1 re1 rr ex p1 => ?_
    obtain ⟨_, p2⟩ := p1.bind.guard
    obtain ⟨t, et, p3⟩ := p2.bind.view
    obtain ⟨f0, rt0, _, _, _, _⟩ := rr.view w1 re1 et
    cases t with
    | ins oo C' ks us =>
      dsimp only at p3
      split at p3
      · rename_i hk
        obtain ⟨rfl, hk⟩ := hk
        obtain ⟨a, Ca', dx, vs, fs, rfl, ec, r1, l, nd, ea, _⟩ := rt0
        rw [hC] at ec
        cases ec
        refine ⟨a, dx, ks.zip vs, rfl, ea, zip_lookup_none hk, ?_⟩
        have p4 : Post (M.bind (doCall false call qn ms (r :: ([] ++ dts.map .val))) (fun t => M.pure (R.val t)) E1) _ _ := Post.pure (Post.bind p3)
        have rr2 : RepRs g.toG F1 H1 σ (r :: ([] ++ dts.map .val)) (.ref a :: ([] ++ dvs)) (fr ++ []) := ⟨.ref a, [] ++ dvs, fr, [], rfl, rfl, rr, RepRs.vals (hdf F1 H1)⟩
        exact doCall_red (fp := fp1) rr2 (by simpa using w1) re1 p4.bind fun t E2 v H' F2 ft fp2 p5 a2 w2 re2 rt =>
          p5.pure v H' F2 ft fp2 (a1.trans (by simpa using a2)) w2 re2 rt fun h => nomatch h
      · exact p3.elim
    | _ => exact p3.elim
end
end PV

/-! Y1: the shape of syntax -/
namespace PV
open PySem L2
def isStar : Expr → Bool | .Starred .. => true | _ => false
def isSl : Expr → Bool | .Slice .. => true | .Tuple .. => true | _ => false
def isSet : Expr → Bool | .Set .. => true | _ => false
def isComp : Expr → Bool | .ListComp .. => true | .SetComp .. => true | .DictComp .. => true | _ => false
/-! ### the shape of syntax -/
theorem star_each {e : Expr} {es : List Expr} {env : PySem.Env} (h : isStar e = false) : starEach (e :: es) env = (false, eval e env) :: starEach es env := by
  cases e <;> first | rfl | cases h
theorem asg_each {e : Expr} {es : List Expr} {env : PySem.Env} (h : isStar e = false) : assignEach (e :: es) env = (false, assign e env) :: assignEach es env := by
  cases e <;> first | rfl | cases h
theorem set_iter {e : Expr} {env : PySem.Env} (h : isSet e = false) : ∀ x, foldedSetIterable e env x = pure x := fun x => by
  cases e <;> first | rfl | cases h
theorem not_marks {op : CmpOp} {e : Expr} (h : isSet e = false) : behindInMarks op e = false := by
  cases e <;> first | rfl | cases h
theorem not_lastMarks {op op' : CmpOp} {e d : Expr} (h : isSet d = false) : lastMarks [op, op'] [e, d] = false := by
  show lastMarks [op'] [d] = false
  exact not_marks h
theorem no_swap {e : Expr} {tg : Option Expr} {l : Nat} {env : PySem.Env} (h : isComp e = false) : swapsWith e tg l env = pure false := by
  cases e <;> first | rfl | cases h
theorem star_any {pos : Pos} : ∀ {es : List Expr} {env : PySem.Env}, es.any isStar = false → (backTo pos (starEach es env)).any (·.1) = false
  | [], env, _ => rfl
  | e :: es, env, h => by
    rw [List.any_cons, Bool.or_eq_false_iff] at h
    rw [star_each h.1]
    show (false || (backTo pos (starEach es env)).any (·.1)) = false
    rw [star_any h.2]
    rfl
end PV

/-! G1: promises of defs where no repr is under way; their calls -/
namespace PV
open PySem L2
/-- f, called with n values and the keywords ks, keeps sp -/
def FnC (P : Program) (w : World) (K : PySem.W.Frag) (mg : Str → Option Value) (base : Heap) (CX : CXT) (k : Nat) (f : Addr) (n : Nat) (ks : List Str) (sp : List V → List V → Hp → VK → XK → Prop) : Prop :=
  ∀ (A : Around) (outer : List PySem.Env) (s : Shared) (H : Hp) (us ws : List Value) (vs zs : List V) (Q : VK) (E : XK), Room k A → A.guards = some [] → Env0 P w K mg base A outer s H →
    Vals vs us → Vals zs ws → vs.length = n → zs.length = ks.length → sp vs zs H Q E → codeAny (model P w) A (.call (.ref f) ⟨us, ks.zip ws⟩) (CR CX outer P w H s Q E) s
/-- a def's promise, whatever binds its parameters -/
structure FnG (P : Program) (w : World) (K : PySem.W.Frag) (mg : Str → Option Value) (base : Heap) (CX : CXT) (k : Nat) (f : Addr) (fd : FuncData) (ps : List Str) (sp : Sp) : Prop where
  len : ∀ vs H Q E, sp vs H Q E → vs.length = ps.length
  run : ∀ (A : Around) (outer : List PySem.Env) (s : Shared) (H : Hp) (args : Args) (us : List Value) (vs : List V) (Q : VK) (E : XK), Room k A → A.guards = some [] → Env0 P w K mg base A outer s H → BindsTo s fd args (ps.zip us) → Vals vs us → sp vs H Q E →
    codeAny (model P w) A (.call (.ref f) args) (CR CX outer P w H s Q E) s
section
variable {P : Program} {w : World} {K : PySem.W.Frag} {mg : Str → Option Value} {base : Heap} {CX : CXT} {j k n : Nat} {f : Addr} {fd : FuncData} {ps ks : List Str} {sp : Sp} {g : List Value → List Value → List Value} {gV : List V → List V → List V}
theorem FnC.mono {sp : List V → List V → Hp → VK → XK → Prop} (F : FnC P w K mg base CX j f n ks sp) (h : j ≤ k) : FnC P w K mg base CX k f n ks sp :=
  fun A outer s H us ws vs zs Q E hr => F A outer s H us ws vs zs Q E (hr.mono h)
theorem FnC.imp {sp sp' : List V → List V → Hp → VK → XK → Prop} (F : FnC P w K mg base CX k f n ks sp) (h : ∀ vs zs H Q E, sp' vs zs H Q E → sp vs zs H Q E) : FnC P w K mg base CX k f n ks sp' :=
  fun A outer s H us ws vs zs Q E hr hg e0 r rz l1 l2 z => F A outer s H us ws vs zs Q E hr hg e0 r rz l1 l2 (h _ _ _ _ _ z)
/-- by keywords -/
theorem FnG.kw (F : FnG P w K mg base CX k f fd ps sp) (hb : KBn K fd ps n ks g gV) : FnC P w K mg base CX k f n ks (fun vs zs => sp (gV vs zs)) :=
  fun A outer s H us ws vs zs Q E hr hg e0 r rz l1 l2 z =>
    F.run A outer s H ⟨us, ks.zip ws⟩ (g us ws) (gV vs zs) Q E hr hg e0 (hb.to s us ws (e0.mod.kin.keeps fun b o e => (e0.bs b o e).1) (r.length.symm.trans l1) (rz.length.symm.trans l2)) (hb.rel r rz) z
/-- by place -/
theorem FnG.pos {ds : List Value} {dvs : List V} (F : FnG P w K mg base CX k f fd ps sp) (hb : Binds K fd ps ds) (hd : Vals dvs ds) : FnC P w K mg base CX k f n [] (fun vs _ => sp (vs ++ dvs)) :=
  fun A outer s H us ws vs zs Q E hr hg e0 r rz l1 l2 z => by
    have r2 : Vals (vs ++ dvs) (us ++ ds) := r.append hd
    have hl : (us ++ ds).length = ps.length := by rw [← r2.length]; exact F.len _ _ _ _ z
    exact F.run A outer s H ⟨us, []⟩ (us ++ ds) (vs ++ dvs) Q E hr hg e0 (hb s us (e0.mod.kin.keeps fun b o e => (e0.bs b o e).1) hl) r2 z
end
/-- an exception of a callee reaches what this body wants of exceptions, at each state of the slots -/
def PassesS (CX : CXT) (X : Cx) (E : St → XK) : Prop := ∀ (pins : List (Addr × Obj)) (σ : St) (H : Hp) (s : Shared) (e : Value) (s' : Shared), Inv X pins σ H s → CX X.stack H s (E σ) e s' → X.xe e s'
theorem PassesS.of {CX : CXT} {X : Cx} {E : XK} (h : Passes CX X E) : PassesS CX X (fun _ => E) := h
section
variable {X : Cx} {CX : CXT} {k n : Nat} {f C : Addr} {ks : List Str} {sp : List V → List V → Hp → VK → XK → Prop} {E : St → XK} {x m : Str} {p pos apos : Pos} {e o : Expr} {es : List Expr} {kws : List Keyword} {t tk : TA} {ta : TE}
  {pins : List (Addr × Obj)} {σ : St} {H : Hp} {s : Shared} {Q : VK} {us ws : List Value} {vs zs : List V}
theorem run_C (F : FnC X.prog X.w X.K X.mg X.base CX k f n ks sp) (hr : Room k X.A) (hg : X.A.guards = some []) (hx : PassesS CX X E) (I : Inv X pins σ H s) (r : Vals vs us) (rz : Vals zs ws) (l1 : vs.length = n) (l2 : zs.length = ks.length) (h : sp vs zs H Q (E σ)) :
    codeAny (model X.prog X.w) X.A (.call (.ref f) ⟨us, ks.zip ws⟩) (fun r s' => match r with | .ok (.ret v) => EP X pins σ Q v s' | .ok _ => False | .error e => X.xe e s') s := by
  refine codeAny_mono (F X.A X.stack s H us ws vs zs Q (E σ) hr hg I.env0 r rz l1 l2 h) fun r s' hq => ?_
  match r, hq with
  | .error e, hq => exact hx pins σ H s e s' I hq
  | .ok (.ret u), hq => exact I.after hq
  | .ok .next, hq => exact hq.elim
  | .ok .brk, hq => exact hq.elim
  | .ok .cont, hq => exact hq.elim
theorem under_guards {A : Around} {C : Addr} {us : List Value} {kw : List (Str × Value)} (h : A.guards = some []) : (A.under (.builtin "type.__call__" ⟨.ref C :: us, kw⟩)).guards = some [] := by
  show pushGuards (Code.builtin "type.__call__" ⟨.ref C :: us, kw⟩).guards A.guards = some []
  have e : (Code.builtin "type.__call__" ⟨.ref C :: us, kw⟩).guards = [] := by
    simp [Code.guards, Code.isGuard, guardIds]
  rw [e]
  exact h
theorem run_mk (M : Mk X.K C f) (F : FnC X.prog X.w X.K X.mg X.base CX k f (n + 1) ks sp) (hr : Room (k + 1) X.A) (hg : X.A.guards = some []) (hx : PassesS CX X E) (I : Inv X pins σ H s) (r : Vals vs us) (rz : Vals zs ws) (l1 : vs.length = n) (l2 : zs.length = ks.length)
    (h : ∀ x dx, H x = none → H dx = none → dx ≠ x → sp (.ref x :: vs) zs (upd (upd H dx (.own x)) x (.ins C dx [])) (fun v H2 => v = .non ∧ Q (.ref x) H2) (E σ)) :
    wpAny (model X.prog X.w) X.A (call (.ref C) us (ks.zip ws)) (EP X pins σ Q) X.xe s := by
  have hq := h (s.heap.objs.size + 1) s.heap.objs.size (I.hok.fresh (Nat.le_succ _)) (I.hok.fresh (Nat.le_refl _)) (Nat.ne_of_lt (Nat.lt_succ_self _))
  have I2 := Inv.made (C := C) I
  have body := F _ X.stack _ _ (Value.ref (s.heap.objs.size + 1) :: us) ws (V.ref (s.heap.objs.size + 1) :: vs) zs _ (E σ) (hr.make C us (ks.zip ws)) (under_guards hg) (I2.env0.make C us (ks.zip ws)) (.cons rfl r) rz (by rw [List.length_cons, l1]) l2 hq
  refine wpAny_call (make_map (f := f) I.kIn M.makes M.init (beq_iff_eq.mp M.fn) (codeAny_mono body fun r s' hq' => ?_))
  match r, hq' with
  | .error e, hq' => exact hx pins σ _ _ e s' I2 hq'
  | .ok (.ret u), hq' =>
    obtain ⟨v, H', I3, rv, ev, q3⟩ := I2.after hq'
    subst ev
    exact ⟨rv, ⟨V.ref (s.heap.objs.size + 1), H', I3, rfl, q3⟩⟩
  | .ok .next, hq' => exact hq'.elim
  | .ok .brk, hq' => exact hq'.elim
  | .ok .cont, hq' => exact hq'.elim
/-- what a call by values asks -/
def tF (n m : Nat) (sp : List V → List V → Hp → VK → XK → Prop) (E : St → XK) (t tk : TA) : TE := fun σ H Q => t σ H fun vs H1 => tk σ H1 fun zs H2 => vs.length = n ∧ zs.length = m ∧ sp vs zs H2 Q (E σ)
/-- .. of a class -/
def tM (C : Addr) (n m : Nat) (sp : List V → List V → Hp → VK → XK → Prop) (E : St → XK) (t tk : TA) : TE := fun σ H Q => t σ H fun vs H1 => tk σ H1 fun zs H2 => vs.length = n ∧ zs.length = m ∧ ∀ x dx, H2 x = none → H2 dx = none → dx ≠ x →
  sp (.ref x :: vs) zs (upd (upd H2 dx (.own x)) x (.ins C dx [])) (fun v H3 => v = .non ∧ Q (.ref x) H3) (E σ)
theorem pe_fc (F : FnC X.prog X.w X.K X.mg X.base CX k f n ks sp) (hr : Room k X.A) (hgd : X.A.guards = some []) (hg : Gl X x) (hm : X.mg x = some (.ref f)) (hk : PySem.W.keepIn X.K (.ref f) = true) (hx : PassesS CX X E) (ha : PA X (e :: es) t) (hkw : PK X kws tk)
    (hall : (backToKw pos (keywordEach kws X.env)).all (·.1.isSome) = true) (hks : (backToKw pos (keywordEach kws X.env)).filterMap (·.1) = ks) (hdb : (x == ("__debug__" : Str)) = false) (he : starEach (e :: es) X.env = (false, eval e X.env) :: starEach es X.env)
    (hpl : ((backTo pos (starEach (e :: es) X.env)).any (·.1) || (backToKw pos (keywordEach kws X.env)).any (·.1.isNone)) = false) : PE X (.Call (.Name x p) (e :: es) kws pos) (tF n ks.length sp E t tk) :=
  ⟨fun pins s σ H Q I h => wpAny_Call_Name_kw (ld_glob I hg hm (PySem.W.callWith_KW (h₀ := X.base) I.ok.mod.kin hk hall (thn (ha.run pos pins s σ H _ I h) fun us s1 ⟨vs, H1, I1, r, q⟩ =>
    thn (hkw.run pos pins s1 σ H1 _ I1 q) fun ws s2 ⟨zs, H2, I2, rz, l1, l2, q2⟩ => ⟨I2.kIn, by rw [hks]; exact wpAny_call (run_C F hr hgd hx I2 r rz l1 l2 q2)⟩) hpl he) hdb)⟩
theorem pe_fc0 (F : FnC X.prog X.w X.K X.mg X.base CX k f 0 ks sp) (hr : Room k X.A) (hgd : X.A.guards = some []) (hg : Gl X x) (hm : X.mg x = some (.ref f)) (hk : PySem.W.keepIn X.K (.ref f) = true) (hx : PassesS CX X E) (hkw : PK X kws tk)
    (hall : (backToKw pos (keywordEach kws X.env)).all (·.1.isSome) = true) (hks : (backToKw pos (keywordEach kws X.env)).filterMap (·.1) = ks) (hdb : (x == ("__debug__" : Str)) = false)
    (hpl : (backToKw pos (keywordEach kws X.env)).any (·.1.isNone) = false) : PE X (.Call (.Name x p) [] kws pos) (tF 0 ks.length sp E tNil tk) :=
  ⟨fun pins s σ H Q I h => wpAny_Call_Name_kw (ld_glob I hg hm (PySem.W.callWith_KW0 (h₀ := X.base) I.ok.mod.kin hk hall (
    thn (hkw.run pos pins s σ H _ I h) fun ws s2 ⟨zs, H2, I2, rz, l1, l2, q2⟩ => ⟨I2.kIn, by rw [hks]; exact wpAny_call (run_C (us := []) F hr hgd hx I2 .nil rz l1 l2 q2)⟩) (by show (false || _) = false; rw [hpl]; rfl)) hdb)⟩
theorem pe_mc (M : Mk X.K C f) (F : FnC X.prog X.w X.K X.mg X.base CX k f (n + 1) ks sp) (hr : Room (k + 1) X.A) (hgd : X.A.guards = some []) (hg : Gl X x) (hm : X.mg x = some (.ref C)) (hx : PassesS CX X E) (ha : PA X (e :: es) t) (hkw : PK X kws tk)
    (hall : (backToKw pos (keywordEach kws X.env)).all (·.1.isSome) = true) (hks : (backToKw pos (keywordEach kws X.env)).filterMap (·.1) = ks) (hdb : (x == ("__debug__" : Str)) = false) (he : starEach (e :: es) X.env = (false, eval e X.env) :: starEach es X.env)
    (hpl : ((backTo pos (starEach (e :: es) X.env)).any (·.1) || (backToKw pos (keywordEach kws X.env)).any (·.1.isNone)) = false) : PE X (.Call (.Name x p) (e :: es) kws pos) (tM C n ks.length sp E t tk) :=
  ⟨fun pins s σ H Q I h => wpAny_Call_Name_kw (ld_glob I hg hm (PySem.W.callWith_KW (h₀ := X.base) I.ok.mod.kin M.kp hall (thn (ha.run pos pins s σ H _ I h) fun us s1 ⟨vs, H1, I1, r, q⟩ =>
    thn (hkw.run pos pins s1 σ H1 _ I1 q) fun ws s2 ⟨zs, H2, I2, rz, l1, l2, q2⟩ => ⟨I2.kIn, by rw [hks]; exact run_mk M F hr hgd hx I2 r rz l1 l2 q2⟩) hpl he) hdb)⟩
theorem pe_mc0 (M : Mk X.K C f) (F : FnC X.prog X.w X.K X.mg X.base CX k f 1 ks sp) (hr : Room (k + 1) X.A) (hgd : X.A.guards = some []) (hg : Gl X x) (hm : X.mg x = some (.ref C)) (hx : PassesS CX X E) (hkw : PK X kws tk)
    (hall : (backToKw pos (keywordEach kws X.env)).all (·.1.isSome) = true) (hks : (backToKw pos (keywordEach kws X.env)).filterMap (·.1) = ks) (hdb : (x == ("__debug__" : Str)) = false)
    (hpl : (backToKw pos (keywordEach kws X.env)).any (·.1.isNone) = false) : PE X (.Call (.Name x p) [] kws pos) (tM C 0 ks.length sp E tNil tk) :=
  ⟨fun pins s σ H Q I h => wpAny_Call_Name_kw (ld_glob I hg hm (PySem.W.callWith_KW0 (h₀ := X.base) I.ok.mod.kin M.kp hall (
    thn (hkw.run pos pins s σ H _ I h) fun ws s2 ⟨zs, H2, I2, rz, l1, l2, q2⟩ => ⟨I2.kIn, by rw [hks]; exact run_mk (us := []) (vs := []) M F hr hgd hx I2 .nil rz l1 l2 q2⟩) (by show (false || _) = false; rw [hpl]; rfl)) hdb)⟩
/-- a method, by the receiver's class -/
structure MetC (X : Cx) (CX : CXT) (k : Nat) (m : Str) (C : Addr) (n : Nat) (sp : List V → List V → Hp → VK → XK → Prop) : Prop where
  ex : ∃ f, Cls X.K C ∧ Meth X.K C m f ∧ FnC X.prog X.w X.K X.mg X.base CX k f (n + 1) [] sp
def tMt (X : Cx) (CX : CXT) (k : Nat) (E : St → XK) (m : Str) (ta : TE) (n : Nat) (t : TA) : TE := fun σ H Q => ta σ H fun x H1 => ∃ a C dx fs sp, x = .ref a ∧ H1 a = some (.ins C dx fs) ∧ fs.lookup m = none ∧ MetC X CX k m C n sp ∧ t σ H1 fun vs H2 => vs.length = n ∧ sp (x :: vs) [] H2 Q (E σ)
theorem pe_oc {pl : Sem Bool} (hx : PassesS CX X E) (ho : PE X o ta) (hr : Room k X.A) (hgd : X.A.guards = some []) (ha : PA X (e :: es) t) (he : starEach (e :: es) X.env = (false, eval e X.env) :: starEach es X.env) (hpl : (backTo pos (starEach es X.env)).any (·.1) = false)
    (ht : eval (.Call (.Attribute o m apos) (e :: es) [] pos) X.env = (do
      let ov ← eval o X.env
      standAt apos.atName
      let (f, first) ← holding [ov] (getMethod ov m pl)
      callWith pos f first (backTo pos (starEach (e :: es) X.env)) [])) : PE X (.Call (.Attribute o m apos) (e :: es) [] pos) (tMt X CX k E m ta n t) := by
  refine ⟨fun pins s σ H Q I h => PySem.W.methodCall_KW (kws := []) (pl := pl) (thn (ho.run pins s σ H _ I h) fun u s1 ⟨x, H1, I1, rx, a, C, dx, fs, sp, ex, ea, l, mc, q⟩ => ?_) ht⟩
  subst ex
  obtain rfl : u = Value.ref a := rx
  obtain ⟨f, hc, hm, F⟩ := mc.ex
  exact getmeth_ok I1 ea hc hm l (PySem.W.callWith_K (first := [.ref a]) (h₀ := X.base) I.ok.mod.kin hm.kp (thn (ha.run pos pins s1 σ H1 _ I1 q) fun us s2 ⟨vs, H2, I2, r, l2, q2⟩ => ⟨I2.kIn,
    wpAny_call (run_C (us := .ref a :: us) (ws := []) (vs := .ref a :: vs) (zs := []) F hr hgd hx I2 (.cons rfl r) .nil (by rw [List.length_cons, l2]) rfl q2)⟩) he hpl)
theorem pe_oc0 {pl : Sem Bool} (hx : PassesS CX X E) (ho : PE X o ta) (hr : Room k X.A) (hgd : X.A.guards = some [])
    (ht : eval (.Call (.Attribute o m apos) [] [] pos) X.env = (do
      let ov ← eval o X.env
      standAt apos.atName
      let (f, first) ← holding [ov] (getMethod ov m pl)
      callWith pos f first (backTo pos (starEach [] X.env)) [])) : PE X (.Call (.Attribute o m apos) [] [] pos) (tMt X CX k E m ta 0 tNil) := by
  refine ⟨fun pins s σ H Q I h => PySem.W.methodCall_KW (kws := []) (pl := pl) (thn (ho.run pins s σ H _ I h) fun u s1 ⟨x, H1, I1, rx, a, C, dx, fs, sp, ex, ea, l, mc, q⟩ => ?_) ht⟩
  subst ex
  obtain rfl : u = Value.ref a := rx
  obtain ⟨f, hc, hm, F⟩ := mc.ex
  exact getmeth_ok I1 ea hc hm l (PySem.W.callWith_K0 (first := [.ref a]) I1.kIn hm.kp (wpAny_call (run_C (us := [.ref a]) (ws := []) (vs := [.ref a]) (zs := []) F hr hgd hx I1 (.cons rfl .nil) .nil rfl rfl q.2)))
end
end PV

/-! U1: defs that say super(): the cell __class__ -/
namespace PV
open PySem L2

theorem cells_app : ∀ (names : List (Str × NameKind)) (n : Nat) (acc : List (Str × Addr)), cellsFrom n names acc = cellsFrom n names [] ++ acc
  | [], n, acc => rfl
  | (m, k) :: r, n, acc => by
    unfold cellsFrom
    split
    · rw [cells_app r (n + 1) ((m, n) :: acc), cells_app r (n + 1) [(m, n)], List.append_assoc]; rfl
    · exact cells_app r n acc
/-- its names: the parameters, its locals; __class__ is captured -/
structure CScope (N ps : List Str) (sc : Scope) : Prop where
  kind : sc.kind = .function
  co : sc.isCoroutine = false
  gen : sc.isGenerator = false
  nd : N.Nodup
  pre : N.take ps.length = ps
  par : ∀ x ∈ ps, sc.names.lookup x = some .local ∨ sc.names.lookup x = some .cell
  free : ∀ y ∈ sc.names, y.2 = .free → y.1 = ("__class__" : Str)
  cls : sc.names.lookup ("__class__" : Str) = some .free
  out : ("__class__" : Str) ∉ N
abbrev envC (qual : Str) (scope : Scope) (L f : Addr) (cd : Value) (cc : Addr) : PySem.Env := PySem.W.envX qual scope L f cd (cellsFrom (L + 1) scope.names [(("__class__" : Str), cc)])
def cxC (CX : CXT) (P : Program) (w : World) (K : PySem.W.Frag) (mg : Str → Option Value) (base : Heap) (N : List Str) (qual : Str) (scope : Scope) (f : Addr) (cd : Value) (cc : Addr) (A : Around) (outer : List PySem.Env) (s : Shared) (H : Hp) (E : XK) : Cx where
  prog := P
  w := w
  K := K
  mg := mg
  base := base
  A := A.deeper (envC qual scope s.heap.objs.size f cd cc)
  N := N
  s_0 := s
  H_0 := H
  env := envC qual scope s.heap.objs.size f cd cc
  outer := outer
  stack := envC qual scope s.heap.objs.size f cd cc :: outer
  ex := []
  calm := true
  fn := fun x => scope.names.lookup x == some .cell
  pn := []
  xe := fun e s' => wpAny (model P w) (A.deeper (envC qual scope s.heap.objs.size f cd cc)) (leaving (envC qual scope s.heap.objs.size f cd cc) e) (fun _ s'' => CX outer H s E e s'') (fun e' s'' => CX outer H s E e' s'') s'
section
variable {M : Model} {A : Around} {E : Value → Shared → Prop} {s₀ s : Shared} {m cm : Str → Option Value} {env : PySem.Env} {own : List (Str × Addr)}
theorem st_loc {n : Str} {v : Value} {Q : Unit → Shared → Prop} (x : InCallC s₀ env.locals m own cm s) (hk : env.scope.kind = .function) (hl : env.kindOf n = some .local)
    (h : ∀ s', InCallC s₀ env.locals (fun y => if y = n then some v else m y) own cm s' → Q () s') : wpAny M A (storeName env n v) Q E s := by
  refine wpAny_storeName_local hl x.toInCall.ns (fun h' hn' hs' => h _ ?_) (by rw [hk]; rfl)
  refine ⟨⟨?_, hn', fun b o e => ?_, x.toInCall.fresh⟩, fun k c hc => ?_, x.apart, x.above⟩
  · obtain ⟨h₁, tk, rfl⟩ := x.toInCall.same; exact ⟨h', _, rfl⟩
  · exact hs'.extBut b o (Nat.ne_of_lt (Nat.lt_of_lt_of_le (Heap.lt_size e) x.toInCall.fresh)) (x.toInCall.keep b o e)
  · exact (x.cell k c hc).sameBut hs' (Nat.ne_of_gt (x.above k c (mem_of_lookup hc)))
theorem st_cell {n : Str} {c : Addr} {v : Value} {Q : Unit → Shared → Prop} (x : InCallC s₀ env.locals m own cm s) (hk : env.scope.kind = .function) (hl : env.kindOf n = some .cell) (hc : own.lookup n = some c) (hc' : env.cells.lookup n = some c)
    (h : ∀ s', InCallC s₀ env.locals m own (fun y => if y = n then some v else cm y) s' → Q () s') : wpAny M A (storeName env n v) Q E s := by
  have hLc := x.above n c (mem_of_lookup hc)
  refine wpAny_storeName_cell hk hl hc' (x.cell n c hc) fun h' hcc hs' => h _ ?_
  refine ⟨⟨?_, x.toInCall.ns.sameBut hs' (Nat.ne_of_lt hLc), fun b o e => ?_, x.toInCall.fresh⟩, fun k c' hk' => ?_, x.apart, x.above⟩
  · obtain ⟨h₁, tk, rfl⟩ := x.toInCall.same; exact ⟨h', _, rfl⟩
  · exact hs'.extBut b o (Nat.ne_of_lt (Nat.lt_trans (Nat.lt_of_lt_of_le (Heap.lt_size e) x.toInCall.fresh) hLc)) (x.toInCall.keep b o e)
  · by_cases hkn : k = n
    · subst hkn
      rw [hc] at hk'; cases hk'
      simpa using hcc
    · rw [if_neg hkn]
      exact (x.cell k c' hk').sameBut hs' fun e => hkn (name_of_addr x.apart (mem_of_lookup hk') (e ▸ mem_of_lookup hc))
theorem bind_pars (f : Str × Value → PUnit → Sem (ForInStep PUnit)) (hf : ∀ n v u, f (n, v) u = (do storeName env n v; pure (.yield ⟨⟩))) (hk : env.scope.kind = .function) (hown : ∀ n c, own.lookup n = some c → env.cells.lookup n = some c) :
    ∀ (binds : List (Str × Value)) (m cm : Str → Option Value) (s : Shared) (Q : PUnit → Shared → Prop), InCallC s₀ env.locals m own cm s →
      (∀ x ∈ binds, env.kindOf x.1 = some .local ∨ (env.kindOf x.1 = some .cell ∧ (own.lookup x.1).isSome = true)) →
      (∀ s', InCallC s₀ env.locals (bindL env.kindOf binds m) own (bindC env.kindOf binds cm) s' → Q ⟨⟩ s') → wpAny M A (forIn binds ⟨⟩ f) Q E s
  | [], m, cm, s, Q, x, _, h => by rw [List.forIn_nil]; exact wpAny_pure (h s x)
  | (n, v) :: r, m, cm, s, Q, x, hkind, h => by
    rw [List.forIn_cons, hf]
    have hr := fun y (hy : y ∈ r) => hkind y (List.mem_cons_of_mem _ hy)
    rcases hkind (n, v) List.mem_cons_self with hl | ⟨hl, hc⟩
    · refine wpAny_bind (wpAny_bind (st_loc x hk hl fun s' x' => wpAny_pure (bind_pars f hf hk hown r _ _ s' Q x' hr fun s'' x'' => h s'' ?_)))
      unfold bindL bindC; rw [if_pos hl, if_pos hl]; exact x''
    · obtain ⟨c, hc⟩ := Option.isSome_iff_exists.mp hc
      have hnl : ¬ env.kindOf n = some .local := by rw [hl]; decide
      refine wpAny_bind (wpAny_bind (st_cell x hk hl hc (hown n c hc) fun s' x' => wpAny_pure (bind_pars f hf hk hown r _ _ s' Q x' hr fun s'' x'' => h s'' ?_)))
      unfold bindL bindC; rw [if_neg hnl, if_neg hnl]; exact x''
theorem new_env {scope : Scope} {globals : Addr} {binds : List (Str × Value)} {qual : Str} {func : Option Addr} {code : Value} {builtins : Addr} {cc : Addr} {Q : PySem.Env → Shared → Prop}
    (hk : scope.kind = .function)
    (hkind : ∀ x ∈ binds, scope.names.lookup x.1 = some .local ∨ (scope.names.lookup x.1 = some .cell ∧ ((cellsFrom (s.heap.objs.size + 1) scope.names []).lookup x.1).isSome = true))
    (hQ : ∀ env, env = newEnv scope s.heap.objs.size globals (cellsFrom (s.heap.objs.size + 1) scope.names [(("__class__" : Str), cc)]) qual func code none builtins →
      ∀ s', InCallC s env.locals (bindL env.kindOf binds fun _ => none) (cellsFrom (s.heap.objs.size + 1) scope.names []) (bindC env.kindOf binds fun _ => none) s' → Q env s') :
    wpAny M A (newFunctionEnv scope globals [(("__class__" : Str), cc)] binds qual func code none builtins) Q E s := by
  simp only [newFunctionEnv, Option.isSome_none, Bool.false_eq_true, if_false]
  refine wpAny_bind (wpAny_alloc ?_)
  refine wpAny_bind (wpAny_layCells _ (fun name kind cells => by cases hkc : kind == NameKind.cell <;> simp [hkc]) _ _ _ _ ?_)
  have ok := cellsFrom_ok scope.names (s.heap.push { cls := .type "frame", data := .dict #[] }) (s.heap.objs.size + 1) [] ⟨fun _ _ hm => (nomatch hm), List.Pairwise.nil⟩ (by rw [Heap.size_push]; exact Nat.le_refl _)
  rw [Heap.size_push] at ok
  rw [show ({ s with heap := s.heap.push { cls := .type "frame", data := .dict #[] } } : Shared).heap.objs.size = s.heap.objs.size + 1 from Heap.size_push ..]
  refine wpAny_bind (bind_pars (s₀ := s) (own := cellsFrom (s.heap.objs.size + 1) scope.names []) (env := newEnv scope s.heap.objs.size globals (cellsFrom (s.heap.objs.size + 1) scope.names [(("__class__" : Str), cc)]) qual func code none builtins)
    _ (fun _ _ _ => rfl) hk (fun n c h => ?_) binds (fun _ => none) (fun _ => none) _ _ ?_ hkind fun s' x => wpAny_pure (hQ _ rfl s' x))
  · show (cellsFrom (s.heap.objs.size + 1) scope.names [(("__class__" : Str), cc)]).lookup n = some c
    rw [cells_app, List.lookup_append, h]
    rfl
  · exact ⟨⟨⟨_, _, rfl⟩, (Heap.Ns.new s.heap (.type "frame")).keeps (pushCells_keeps _ _), fun b o e => pushCells_keeps _ _ b o (Heap.get?_push_of_some _ e), Nat.le_refl _⟩,
      fun n c hc => (ok.empty n c (mem_of_lookup hc)).1, ok.apart, fun n c hm => (ok.empty n c hm).2⟩
end
section
variable {CX : CXT} {P : Program} {w : World} {K : PySem.W.Frag} {mg : Str → Option Value} {base : Heap} {N ps : List Str} {qual : Str} {scope : Scope} {f cc D : Addr} {cd : Value} {A : Around} {outer : List PySem.Env} {s s1 : Shared} {H : Hp} {E : XK} {us : List Value} {vs : List V}
theorem inv_startC (S : CScope N ps scope) (hd : A.handled = none) (e0 : Env0 P w K mg base A outer s H) (hl : vs.length = ps.length) (r : Vals vs us) (hcc : ∃ oc, K.lookup cc = some oc ∧ ∃ v, oc.data = .cell v)
    (x : InCallC s s.heap.objs.size (bindL (envC qual scope s.heap.objs.size f cd cc).kindOf (ps.zip us) fun _ => none) (cellsFrom (s.heap.objs.size + 1) scope.names []) (bindC (envC qual scope s.heap.objs.size f cd cc).kindOf (ps.zip us) fun _ => none) s1) :
    Inv (cxC CX P w K mg base N qual scope f cd cc A outer s H E) [] (start N vs) H s1 := by
  have hpl : ps.length ≤ N.length := by have := congrArg List.length S.pre; rw [List.length_take] at this; omega
  obtain ⟨h1, tk, rfl, hk⟩ := x.done
  obtain ⟨oc, hoc, vc, hvc⟩ := hcc
  have ho0 : base.get? cc = some oc := e0.mod.kin _ _ hoc
  obtain ⟨hoS, hH⟩ := e0.bs _ _ ho0
  have ho1 : h1.get? cc = some oc := hk _ _ hoS
  have ccell : h1.IsCell cc vc := ⟨oc, ho1, hvc⟩
  have clt : cc < s.heap.objs.size := Heap.lt_size hoS
  have noA : ∀ b : Addr, b ∉ (cxC CX P w K mg base N qual scope f cd cc A outer s H E).ex := fun b z => absurd (show b ∈ ([] : List Addr) from z) (by simp)
  have look : ∀ y c, (envC qual scope s.heap.objs.size f cd cc).cells.lookup y = some c → (cellsFrom (s.heap.objs.size + 1) scope.names []).lookup y = some c ∨ ((cellsFrom (s.heap.objs.size + 1) scope.names []).lookup y = none ∧ y = ("__class__" : Str) ∧ c = cc) := fun y c e => by
    have e : (cellsFrom (s.heap.objs.size + 1) scope.names [(("__class__" : Str), cc)]).lookup y = some c := e
    rw [cells_app, List.lookup_append] at e
    cases h : (cellsFrom (s.heap.objs.size + 1) scope.names []).lookup y with
    | some c' => rw [h] at e; exact .inl e
    | none =>
      rw [h] at e
      have e : ([(("__class__" : Str), cc)] : List (Str × Addr)).lookup y = some c := e
      rw [List.lookup_cons] at e
      split at e
      · rename_i hy; cases e; exact .inr ⟨rfl, eq_of_beq hy, rfl⟩
      · cases e
  have own : ∀ y c, (cellsFrom (s.heap.objs.size + 1) scope.names []).lookup y = some c → (envC qual scope s.heap.objs.size f cd cc).cells.lookup y = some c := fun y c e => by
    show (cellsFrom (s.heap.objs.size + 1) scope.names [(("__class__" : Str), cc)]).lookup y = some c
    rw [cells_app, List.lookup_append, e]; rfl
  refine ⟨⟨e0.mod, S.kind, rfl, rfl, Nat.le_refl _, fun y z c h1 h2 => ?_, fun y hy => ?_, fun y c hf h => ?_, fun _ => hd, Around.frames_deeper e0.frames, .inr ⟨rfl, rfl⟩, fun b z => absurd z (noA b), e0.bs, e0.bsz, fun b _ _ => noA b, fun b z => absurd z (noA b), e0.funs, e0.frf⟩,
    rfl, e0.bare, Un.kept hk, ⟨_, x.toInCall.ns, fun i y v h1 h2 h3 => ?_⟩, fun y c h => ?_, e0.hok.fresh (Nat.le_refl _), fun y c h => ?_, fun p hp => absurd (show p ∈ ([] : List (Addr × Obj)) from hp) (by simp), e0.hok.kept hk, ?_⟩
  · rcases look _ _ h1 with a | ⟨_, a1, a2⟩ <;> rcases look _ _ h2 with b | ⟨_, b1, b2⟩
    · exact name_of_addr x.apart (mem_of_lookup a) (mem_of_lookup b)
    · have := x.above _ _ (mem_of_lookup a); subst b2; exact absurd this (Nat.lt_asymm clt)
    · have := x.above _ _ (mem_of_lookup b); subst a2; exact absurd this (Nat.lt_asymm clt)
    · rw [a1, b1]
  · have hy : scope.names.lookup y = some .cell ∨ scope.names.lookup y = some .free := hy
    rcases hy with hy | hy
    · obtain ⟨c, e⟩ := cell_has (n := s.heap.objs.size + 1) hy
      exact ⟨c, own _ _ e⟩
    · have e := S.free _ (mem_of_lookup hy) rfl
      have e : y = ("__class__" : Str) := e
      subst e
      cases h : (cellsFrom (s.heap.objs.size + 1) scope.names []).lookup ("__class__" : Str) with
      | some c => exact ⟨c, own _ _ h⟩
      | none =>
        refine ⟨cc, ?_⟩
        show (cellsFrom (s.heap.objs.size + 1) scope.names [(("__class__" : Str), cc)]).lookup _ = some cc
        rw [cells_app, List.lookup_append, h]
        rfl
  · rcases look _ _ h with a | ⟨_, a1, a2⟩
    · exact Nat.le_of_lt (x.above y c (mem_of_lookup a))
    · subst a1
      have hf : (scope.names.lookup ("__class__" : Str) == some .cell) = true := hf
      rw [S.cls] at hf
      cases hf
  · have hi : i < vs.length := by
      unfold L2.start at h2
      by_cases hi : i < vs.length
      · exact hi
      · rw [List.getElem?_append_right (by simpa using hi), List.getElem?_replicate] at h2
        split at h2 <;> cases h2
    have ha : vs[i]? = some v := by
      unfold L2.start at h2
      rw [List.getElem?_append_left (by simpa using hi), List.getElem?_map] at h2
      cases e : vs[i]? with
      | none => rw [e] at h2; cases h2
      | some a => rw [e] at h2; cases h2; rfl
    obtain ⟨u, hu, rv⟩ := r.get ha
    have hp : ps[i]? = some y := by
      rw [← S.pre, List.getElem?_take_of_lt (by omega)]; exact h1
    have ndP : ps.Nodup := by rw [← S.pre]; exact S.nd.sublist (List.take_sublist _ _)
    refine ⟨u, rv, ?_⟩
    rcases S.par y (List.mem_of_getElem? hp) with k | k
    · exact .inl ⟨k, bindL_get ndP hp hu k⟩
    · obtain ⟨c, e⟩ := cell_has (n := s.heap.objs.size + 1) k
      refine .inr ⟨.inl k, c, own _ _ e, ?_⟩
      have q := x.cell y c e
      rw [bindC_get ndP hp hu (by show scope.names.lookup y ≠ _; rw [k]; decide)] at q
      exact q
  · rcases look _ _ h with a | ⟨_, a1, a2⟩
    · exact ⟨_, x.cell y c a⟩
    · subst a2; exact ⟨_, ccell⟩
  · rcases look _ _ h with a | ⟨_, a1, a2⟩
    · exact e0.hok.fresh (Nat.le_of_lt (x.above y c (mem_of_lookup a)))
    · subst a2; exact hH
  · unfold L2.start
    show _ = N.length
    rw [List.length_append, List.length_map, List.length_replicate]
    omega
end
end PV

/-! U2: super().m(e, ..) -/
namespace PV
open PySem L2
structure PSAt (X : Cx) (cd : Code) (st : Stmt) (t : TS) : Prop where
  run : ∀ (pins : List (Addr × Obj)) (s : Shared) (σ : St) (H : Hp) (D : Ends), Inv X pins σ H s → t D σ H → PySem.wpAt (model X.prog X.w) X.A cd (exec st X.env) (SP X pins D) X.xe s
structure PSsAt (X : Cx) (cd : Code) (sts : List Stmt) (t : TS) : Prop where
  run : ∀ (pins : List (Addr × Obj)) (s : Shared) (σ : St) (H : Hp) (D : Ends), Inv X pins σ H s → t D σ H → PySem.wpAt (model X.prog X.w) X.A cd (execs sts X.env) (SP X pins D) X.xe s
section
variable {X : Cx} {cd : Code} {st : Stmt} {sts : List Stmt} {t u : TS} {env : PySem.Env} {o : Expr} {m : Str} {es : List Expr} {pos apos p0 p1 : Pos}
theorem PSAt.of (h : PS X st t) : PSAt X cd st t := ⟨fun pins s σ H D I z => wpAt_of_wpAny (h.run pins s σ H D I z)⟩
theorem PSsAt.of (h : PSs X sts t) : PSsAt X cd sts t := ⟨fun pins s σ H D I z => wpAt_of_wpAny (h.run pins s σ H D I z)⟩
theorem pssAt_cons (h1 : PSAt X cd st t) (h2 : PSsAt X cd sts u) : PSsAt X cd (st :: sts) (tSeq t u) :=
  ⟨fun pins s σ H D I z => by
    refine ks_wpAt_execs_cons (wpAt_mono (h1.run pins s σ H { D with nx := u D } I z) (fun f s' q => ?_) fun _ _ q => q)
    cases f with
    | next =>
      obtain ⟨σ', H', I', q⟩ := q
      exact h2.run pins s' σ' H' D I' q
    | brk => exact q
    | cont => exact q
    | ret v => exact q⟩
theorem back_few {l : List (Bool × Sem Value)} (h : l.any (·.1) = false) : l.all (fun x => !x.1) = true := by
  induction l with
  | nil => rfl
  | cons a l ih =>
    rw [List.any_cons, Bool.or_eq_false_iff] at h
    rw [List.all_cons, ih h.2, h.1]
    rfl
/-- a method's call, in the method's form -/
theorem meth_form (h1 : es.any isStar = false) (h2 : es.length < 30) (h3 : (apos.endLine == pos.line) = true) : ∃ pl : Sem Bool, ∀ _ : Unit, eval (.Call (.Attribute o m apos) es [] pos) env = (do
      let ov ← attributeBase o m env (eval o env)
      standAt apos.atName
      let (f, first) ← holding [ov] (getMethod ov m pl)
      callWith pos f first (backTo pos (starEach es env)) []) := by
  refine ⟨(do return (← importBound o env).getD true), fun _ => ?_⟩
  show (do
      let ov ← attributeBase o m env (eval o env)
      standAt apos.atName
      methodCall o m apos pos env ov (es.length + 0) (backTo pos (starEach es env)) []) = _
  have few : methodCallForm (es.length + 0) (backTo pos (starEach es env)) [] = true := by
    unfold methodCallForm
    rw [back_few (star_any h1)]
    simp [h2]
  unfold methodCall
  rw [few]
  unfold calleeOf methodCallPos
  rw [h3]
  rfl
end

structure SupD (P : Program) (K : PySem.W.Frag) (mg : Str → Option Value) (f cc D : Addr) (cdv : Value) : Prop where
  fn : ∃ oc od osl fd ar, K.lookup f = some ⟨oc, od, .func fd, osl⟩ ∧ (fd.params.posonlyargs ++ fd.params.args).head? = some ar ∧ ar.arg = ("self" : Str)
  cell : ∃ cl cld csl, K.lookup cc = some ⟨cl, cld, .cell (some (.ref D)), csl⟩
  code : ∃ cda ccl cdd vs ccs file tf, cdv = .ref cda ∧ K.lookup cda = some ⟨ccl, cdd, .fields vs, ccs⟩ ∧ vs[2]? = some (.str file tf) ∧ ((P.main.file : Str) == file) = true
  cls : ∃ cdD, PySem.W.clsIn K D = some cdD
  sub : PySem.W.mroIn K D (.ref D) = some true
  free : mg "super" = none
  top : (P.main.scope.names.lookup ("super" : Str)).isSome = false
  opq : PySem.W.nsIn K PySem.cStatics "thirdparty.any" = some none
/-- the method m, found above D -/
structure SupM (K : PySem.W.Frag) (D : Addr) (m : Str) (f2 : Addr) : Prop where
  at_ : PySem.W.ks_superIn K D D m = some (some (.ref f2))
  ty : PySem.W.typeIn K (.ref f2) = some (.type "function")
  fn : PySem.W.fnIn K f2 = true
def supO (so D x C : Addr) : HO := .ext fun h => h.get? so = some (PySem.W.ks_superObj D x C)
/-- what super().m(..) asks -/
def tSup (D f2 : Addr) (sp : Sp) (E : St → XK) (ta : TA) : TE := fun σ H Q => ∃ x dx fs, σ[0]? = some (some (.ref x)) ∧ H x = some (.ins D dx fs) ∧
  ∀ so q, H so = none → H q = none → so ≠ q → ta σ (upd (upd H so (supO so D x D)) q (.met f2 x)) fun vs H1 => H1 q = some (.met f2 x) ∧ sp (.ref x :: vs) H1 Q (E σ)
section
variable {X : Cx} {CX : CXT} {k : Nat} {f cc D f2 : Addr} {cdv : Value} {sp : Sp} {E : St → XK} {m : Str} {e0' : Expr} {es : List Expr} {ta : TA} {p0 p1 apos pos spos : Pos} {body : List Stmt}
theorem psat_super (S : SupD X.prog X.K X.mg f cc D cdv) (M : SupM X.K D m f2) (F : ∀ n, FnC X.prog X.w X.K X.mg X.base CX k f2 n [] (fun vs _ => sp vs)) (hr : Room k X.A) (hgd : X.A.guards = some []) (hx : PassesS CX X E)
    (ef : X.env.func = some f) (ec : X.env.code = cdv) (hks : X.env.kindOf "super" = some .globalImplicit) (hkc : X.env.kindOf "__class__" = some .free) (hka : X.env.kindOf "self" = some .local) (hcl : X.env.cells.lookup ("__class__" : Str) = some cc)
    (hN : X.N[0]? = some ("self" : Str)) (hm : (m == ("__class__" : Str)) = false) (ha : PA X (e0' :: es) ta) (h1 : (e0' :: es).any isStar = false) (h2 : (e0' :: es).length < 30) (h3 : (apos.endLine == pos.line) = true) (hi : interactive X.env = false) :
    PSAt X (.func body X.env) (.Expr (.Call (.Attribute (.Call (.Name "super" p0) [] [] p1) m apos) (e0' :: es) [] pos) spos) (fun De σ H => tSup D f2 sp E ta σ H fun _ H1 => De.nx σ H1) := by
  refine ⟨fun pins s σ H De I z => ?_⟩
  obtain ⟨x, dx, fs, e0, ex, z⟩ := z
  obtain ⟨oc, od, osl, fd, ar, lf, hp, har⟩ := S.fn
  obtain ⟨ccl', cld, csl, lc⟩ := S.cell
  obtain ⟨cda, ccl, cdd, vs, ccs, file, tf, rfl, lcd, hvs, hfile⟩ := S.code
  obtain ⟨cdD, hcD⟩ := S.cls
  obtain ⟨pl, hform⟩ := meth_form (o := .Call (.Name "super" p0) [] [] p1) (m := m) (env := X.env) h1 h2 h3
  have KX := I.kIn
  have ek : X.env.scope.kind = .function := I.ok.kind
  refine ks_wpAt_Expr_any (ks_wpAt_MethodCall (pl := pl) ?_ (hform ())) hi rfl
  obtain ⟨oD, hD1, hD2⟩ : ∃ oD, s.heap.get? D = some oD ∧ oD.data = .cls cdD := by
    unfold PySem.W.clsIn at hcD
    split at hcD
    · rename_i c d cd' sl ho
      cases hcD
      exact ⟨_, KX _ _ ho, rfl⟩
    · cases hcD
  refine ks_wpAt_super_base (env := X.env) hks hkc hm ef (KX _ _ lf) rfl hp ec (KX _ _ lcd) rfl hvs hfile S.top ?_
  refine PySem.W.ks_loadName_global ek hks ?_
  obtain ⟨mb, hb1, hb2⟩ := I.mod.blt
  refine Calls.loadGlobal_builtin (by rw [I.ok.glob]; exact I.mod.glob.keeps I.bk) S.free (by rw [I.ok.blt]; exact hb1.keeps I.bk) ((hb2 "super" (by decide)).trans (by decide +kernel)) ⟨rfl, ?_⟩
  refine wpAny_loadName_free ek hkc hcl ⟨_, KX _ _ lc, rfl⟩ ?_
  obtain ⟨ml, hn, hl⟩ := I.loc
  obtain ⟨u, ru, lk⟩ := hl 0 "self" (.ref x) hN e0 (.inl hka)
  cases ru
  have hms : ml ("self" : Str) = some (.ref x) := by
    rcases lk with ⟨_, q⟩ | ⟨q, _⟩
    · exact q
    · rw [hka] at q; rcases q with q | q <;> cases q
  rw [har]
  refine wpAny_loadName_local ek hka hn hms ?_
  obtain ⟨mA, O, _, _, _, _⟩ := ins_get I.hok ex
  obtain ⟨odx, J, _⟩ := O.look
  refine ks_wpAny_isType_cls hD1 hD2 ⟨rfl, ?_⟩
  refine ks_wpAny_call_super hD1 hD2 J.at_ J.cls (fun c e => ?_) (PySem.W.looks_mroIn KX S.sub) (fun h' e kp => ?_)
  · have := J.no
    unfold PySem.W.notCls at this
    rw [e] at this
    exact Bool.noConfusion this
  -- the super object stands at so
  have hso : H s.heap.objs.size = none := I.hok.fresh (Nat.le_refl _)
  have I1 : Inv X pins σ (upd H s.heap.objs.size (supO s.heap.objs.size D x D)) { s with heap := h' } := I.laid (t' := s.toks) kp (Nat.le_refl _) ⟨e, ⟨_, e⟩, fun h1 h2 e1 kk => kk _ e1⟩
  have hsz : s.heap.objs.size < h'.objs.size := Heap.lt_size e
  have hne : x ≠ D := PySem.W.ks_ne KX J hcD
  have KX1 : X.K.In h' := fun a o q => kp _ _ (KX a o q)
  have hMro : PySem.W.Looks (model X.prog X.w) h' (mroOf (.ref D)) cdD.mro := fun A Q E s k q => wpAny_bind ((PySem.W.looks_clsIn KX1 hcD) A _ E s k (wpAny_pure q))
  obtain ⟨of, hof, hofc⟩ : ∃ of, h'.get? f2 = some of ∧ of.cls = .type "function" := by
    have ht : (X.K.lookup f2).map (·.cls) = some (.type "function") := M.ty
    cases q : X.K.lookup f2 with
    | none => rw [q] at ht; cases ht
    | some of => rw [q] at ht; exact ⟨of, KX1 _ _ q, Option.some.inj ht⟩
  have hat := M.at_
  unfold PySem.W.ks_superIn at hat
  rw [hcD] at hat
  obtain ⟨hh, gg, dd, tt, oo⟩ := s
  refine ks_wpAny_getMethod_super e (PySem.W.looks_opaque KX1 S.opq) hMro rfl KX1 hat hof hofc hne hm ?_
  -- the bound method
  have I2 : Inv X pins σ (upd (upd H hh.objs.size (supO hh.objs.size D x D)) h'.objs.size (.met f2 x)) ⟨h'.push (PySem.W.methodObj (.ref f2) (.ref x)), gg, dd, tt + 1, oo⟩ :=
    I1.laid (a := h'.objs.size) (o := .met f2 x) (t' := tt + 1) (fun b u q => Heap.get?_push_of_some _ q) (Nat.le_refl _) (show (h'.push (PySem.W.methodObj (.ref f2) (.ref x))).get? h'.objs.size = some (PySem.W.methodObj (.ref f2) (.ref x)) from Heap.get?_push_size h' rfl)
  have hq : H h'.objs.size = none := by
    have := I1.hok.fresh (Nat.le_refl h'.objs.size)
    rwa [upd_ne (Nat.ne_of_gt hsz)] at this
  have z2 := z hh.objs.size h'.objs.size hso hq (Nat.ne_of_lt hsz)
  refine callwith_met (q := h'.objs.size) (g := f2) (a := x) (first := []) ?_ M.fn ?_
  · rw [star_any h1]; rfl
  have hst := h1
  rw [List.any_cons, Bool.or_eq_false_iff] at hst
  rw [star_each hst.1]
  have hrun := ha.run pos pins _ σ _ _ I2 z2
  rw [star_each hst.1] at hrun
  refine Calls.evalArgs_plain (wpAny_mono hrun (fun us s3 hq3 => ?_) fun _ _ q => q)
  obtain ⟨vs', H3, I3, rv, hq3, hsp⟩ := hq3
  refine ⟨met_P I3 hq3, ?_⟩
  refine wpAny_call (PySem.W.method_call (met_P I3 hq3).1 (codeAny_mono (run_C (Q := fun _ H1 => De.nx σ H1) (us := Value.ref x :: us) (ws := []) (vs := V.ref x :: vs') (zs := []) (F _) hr hgd hx I3 (.cons rfl rv) .nil rfl rfl hsp) fun r s4 q4 => ?_))
  cases r with
  | error e => exact q4
  | ok fl =>
    cases fl with
    | ret v =>
      obtain ⟨v', H', I', _, q⟩ := q4
      exact ⟨σ, H', I', q⟩
    | next => exact q4
    | brk => exact q4
    | cont => exact q4
end
end PV

/-! U3: a def that says super() keeps its promise -/
namespace PV
open PySem L2
section
variable {CX : CXT} {P : Program} {w : World} {K : PySem.W.Frag} {mg : Str → Option Value} {base : Heap} {k : Nat} {f cc : Addr} {name qual : Str} {params : Arguments} {body : List Stmt} {scope : Scope} {dV kV doc pm cdv ct oc : Value} {an od : Option Addr}
    {osl : Array (Option Value)} {N ps : List Str} {sp : Sp}
theorem fn_ofC (lk : K.lookup f = some ⟨oc, od, .func (PySem.W.fnX name qual params body scope [(("__class__" : Str), cc)] dV kV doc pm an cdv ct), osl⟩) (hcd : PySem.W.codeIn K cdv qual = true) (hcc : ∃ oc, K.lookup cc = some oc ∧ ∃ v, oc.data = .cell v) (S : CScope N ps scope)
    (len : ∀ vs H Q E, sp vs H Q E → vs.length = ps.length)
    (hbody : ∀ (A : Around) (outer : List PySem.Env) (s : Shared) (H : Hp) (vs : List V) (Q : VK) (E : XK), Room k (A.deeper (envC qual scope s.heap.objs.size f cdv cc)) → A.guards = some [] → sp vs H Q E →
      ∃ t, PSsAt (cxC CX P w K mg base N qual scope f cdv cc A outer s H E) (.func body (envC qual scope s.heap.objs.size f cdv cc)) body t ∧ t { nx := fun _ H' => Q .non H', rt := Q } (L2.start N vs) H) :
    FnG P w K mg base CX (k + 1) f (PySem.W.fnX name qual params body scope [(("__class__" : Str), cc)] dV kV doc pm an cdv ct) ps sp := by
  refine ⟨len, fun A outer s H args us vs Q E hr hgd e0 hb r hsp => ?_⟩
  have hl := len _ _ _ _ hsp
  have KX : K.In s.heap := e0.mod.kin.keeps fun b o e => (e0.bs b o e).1
  have lim : s.heap.NoLimit := e0.mod.nolimit.keeps fun b o e => (e0.bs b o e).1
  have hkind : ∀ y ∈ ps.zip us, scope.names.lookup y.1 = some .local ∨ (scope.names.lookup y.1 = some .cell ∧ ((cellsFrom (s.heap.objs.size + 1) scope.names []).lookup y.1).isSome = true) := fun ⟨n, v⟩ hy => by
    rcases S.par n (List.of_mem_zip hy).1 with q | q
    · exact .inl q
    · exact .inr ⟨q, PySem.W.cellsFrom_some _ _ _ (.inl q)⟩
  refine codeAny_call_function hr.depth (KX _ _ lk) rfl S.co S.gen rfl (PySem.W.codeRec_of KX hcd) (hb _ _ _ _ ?_)
  refine new_env S.kind hkind fun env he s1 x => ?_
  subst he
  refine ⟨lim.keeps x.toInCall.keep, ks_codeAny_funcAt ?_⟩
  obtain ⟨t, ht, hq⟩ := hbody A outer s H vs Q E (hr.deeper _) hgd hsp
  have I : Inv (cxC CX P w K mg base N qual scope f cdv cc A outer s H E) [] (L2.start N vs) H s1 := inv_startC S hr.hd e0 hl r hcc x
  refine wpAt_mono (ht.run [] s1 (L2.start N vs) H _ I hq) (fun fl s' hs => ?_) fun e s' hs => hs
  have fin : ∀ {σ' : St} {H' : Hp} {v : V} {u : Value}, Inv (cxC CX P w K mg base N qual scope f cdv cc A outer s H E) [] σ' H' s' → RelV v u → Q v H' → CE outer P w H s Q u s' :=
    fun {σ' H' v u} J rv q => ⟨v, H', J.os, J.bare, J.base, J.hok, rv, q⟩
  cases fl with
  | ret u =>
    obtain ⟨v, σ', H', J, rv, q⟩ := hs
    exact fin J rv q
  | next =>
    obtain ⟨σ', H', J, q⟩ := hs
    exact fin (v := V.non) (u := Value.none) J rfl q
  | brk =>
    obtain ⟨_, _, _, q⟩ := hs
    exact False.elim q
  | cont =>
    obtain ⟨_, _, _, q⟩ := hs
    exact False.elim q
end
/-- a plain def -/
theorem fn_ofG {CX : CXT} {P : Program} {w : World} {K : PySem.W.Frag} {mg : Str → Option Value} {base : Heap} {k : Nat} {f : Addr} {name qual : Str} {params : Arguments} {body : List Stmt} {scope : Scope} {dV kV doc pm cdv ct oc : Value} {an od : Option Addr}
    {osl : Array (Option Value)} {N ps : List Str} {sp : Sp} (lk : K.lookup f = some ⟨oc, od, .func (PySem.W.fnOf name qual params body scope dV kV doc pm an cdv ct), osl⟩) (hcd : PySem.W.codeIn K cdv qual = true) (S : FnScope N ps scope)
    (len : ∀ vs H Q E, sp vs H Q E → vs.length = ps.length)
    (hbody : ∀ (A : Around) (outer : List PySem.Env) (s : Shared) (H : Hp) (vs : List V) (Q : VK) (E : XK), Room k (A.deeper (PyProof.Rows.envOfC qual scope s.heap.objs.size f cdv)) → A.guards = some [] → sp vs H Q E →
      ∃ t, PSs (cxOf CX P w K mg base N qual scope f cdv A outer s H E) body t ∧ t { nx := fun _ H' => Q .non H', rt := Q } (L2.start N vs) H) :
    FnG P w K mg base CX (k + 1) f (PySem.W.fnOf name qual params body scope dV kV doc pm an cdv ct) ps sp := by
  refine ⟨len, fun A outer s H args us vs Q E hr hgd e0 hb r hsp => ?_⟩
  have hl := len _ _ _ _ hsp
  have kp : ∀ b o, base.get? b = some o → s.heap.get? b = some o := fun b o e => (e0.bs b o e).1
  have KX : K.In s.heap := e0.mod.kin.keeps kp
  have names : ∀ y ∈ ps.zip us, scope.names.lookup y.1 = some .local ∨ (scope.names.lookup y.1 = some .cell ∧ ((cellsFrom (s.heap.objs.size + 1) scope.names []).lookup y.1).isSome = true) := fun y hy =>
    (S.par y.1 (List.of_mem_zip hy).1).imp id fun q => ⟨q, PySem.W.cellsFrom_some _ _ _ (.inl q)⟩
  refine codeAny_call_function hr.depth (KX _ _ lk) rfl S.co S.gen rfl (PySem.W.codeRec_of KX hcd) (hb _ _ _ _ (wpAny_newFunctionEnv_cells S.kind names fun env he s1 x => ?_))
  subst he
  refine ⟨(e0.mod.nolimit.keeps kp).keeps x.toInCall.keep, codeAny_func ?_⟩
  obtain ⟨t, ht, hq⟩ := hbody A outer s H vs Q E (hr.deeper _) hgd hsp
  refine wpAny_mono (ht.run [] s1 (L2.start N vs) H _ (inv_start S hr.hd e0 hl r x) hq) (fun fl s' hs => ?_) fun e s' hs => hs
  match fl, hs with
  | .ret u, ⟨v, σ', H', J, rv, q⟩ => exact ⟨v, H', J.os, J.bare, J.base, J.hok, rv, q⟩
  | .next, ⟨σ', H', J, q⟩ => exact ⟨V.non, H', J.os, J.bare, J.base, J.hok, rfl, q⟩
  | .brk, ⟨_, _, _, q⟩ => exact q.elim
  | .cont, ⟨_, _, _, q⟩ => exact q.elim
/-! ### the statement, of trees -/
/-- super().m(e, ..) of an instance of D: the method qn, which takes the rest as one tuple -/
def sSup (xs : Bool) (call : Calls) (D : Str) (qn : Str) (ms : List Bool) (es : M (List T)) : M Fl := fun E => match E[0]? with
  | some (T.ins true C _ _) => if C = D then (M.bind es fun ts => M.bind (guardM (decide (ts.length ≤ lim))) fun _ => M.bind (doCall xs call qn ms [.plc 0 [], .val (.tup ts)]) fun _ => M.pure Fl.nx) E else .bad
  | _ => .bad
/-- a promise that takes the rest as one tuple -/
def starSp (sp : Sp) : Sp := fun vs H Q E => ∃ v rest, vs = v :: rest ∧ rest.length ≤ sizeLine ∧ ∀ p, H p = none → sp [v, .ref p] (upd H p (.tup rest)) Q E
section
variable {g : GX} {W : WX} {b : Bool} {σ : St} {H : Hp} {D : Ends} {pm : List Nat} {call : Calls} {C : Str} {qn : Str} {ms : List Bool} {Da f2 : Addr} {l : M (List T)}
theorem sup_red (hC : g.toG.cls C = some Da) (h : tS g W pm (sSup false call C qn ms l) D σ H) : tSup Da f2 (starSp (spT g false call qn ms)) (fun _ => XF) (tAI g W b l) σ H fun _ H1 => D.nx σ H1 := by
  obtain ⟨F, E, fp, w, re, p⟩ := h
  unfold sSup at p
  split at p
  case h_2 => exact p.elim
  rename_i C' ks us hE
  split at p
  case isFalse => exact p.elim
  rename_i hCC
  subst hCC
  obtain ⟨wo, fo, rest, e1, ro, pmm, _⟩ := re.nth hE
  obtain ⟨v, rfl, rv⟩ := ro.at (by intro z; cases z)
  obtain ⟨a, Ca, dx, vs0, fs0, rfl, hc, r1, hl, nd, ha, hown⟩ := rv
  rw [hC] at hc
  cases hc
  refine ⟨a, dx, _, e1, ha, fun so q hso hq hne => ?_⟩
  have ex : Ext H (upd (upd H so (supO so Da a Da)) q (.met f2 a)) := fun c o e => by
    rw [upd_ne (ne_of_none e hq), upd_ne (ne_of_none e hso)]; exact e
  refine ⟨F, E, fp, w.ext ex, re.stay (stay_ext ex), Post.imp (Post.bind p) (fun ts E1 p1 => ?_) fun _ _ h => (h.x Prot.refl).later (ext_aft ex)⟩
  intro vs H1 F1 fr fp1 a1 w1 re1 rr _
  have nq : q ∉ fp := fun z => by
    obtain ⟨o, e, _⟩ := re.own q z
    rw [hq] at e; cases e
  refine ⟨a1.keep q _ upd_same nq, .ref a, vs, rfl, ?_, fun pt hp => ?_⟩
  · obtain ⟨hg, _⟩ := p1.bind.guard
    rw [← rr.length]
    exact le_line (of_decide_eq_true hg)
  · obtain ⟨_, p2⟩ := p1.bind.guard
    have ex2 : Ext H1 (upd H1 pt (.tup vs)) := ext_new hp
    have rt : Rep g.toG F1 (upd H1 pt (.tup vs)) (.tup ts) (.ref pt) fr := ⟨pt, vs, rfl, .inl (.inl upd_same), RepL.stay ts rr (stay_ext ex2)⟩
    have rrs : RepRs g.toG F1 (upd H1 pt (.tup vs)) σ [.plc 0 [], .val (.tup ts)] [.ref a, .ref pt] ([] ++ (fr ++ [])) :=
      ⟨.ref a, [.ref pt], [], fr ++ [], rfl, rfl, ⟨rfl, .ref a, e1, rfl⟩, .ref pt, [], fr, [], rfl, rfl, rt, rfl, rfl⟩
    have w2 : Wf F1 (upd H1 pt (.tup vs)) (([] ++ (fr ++ [])) ++ fp1) := by simpa using w1.ext ex2
    refine doCall_red (fp := fp1) rrs w2 (re1.stay (stay_ext ex2)) p2.bind fun t E2 v H' F2 ft fp2 p3 a3 w3 re3 _ => ?_
    have a4 : Aft F F2 H H' fp fp2 := ((ext_aft (fp := fp) ex).trans a1).trans ((ext_aft ex2).trans ((by simpa using a3 : Aft F1 F2 _ _ (fr ++ fp1) (ft ++ fp2)).sub fun c hc => List.mem_append_right _ hc))
    exact p3 σ H' F2 fp2 Prot.refl a4 w3.right re3
end
end PV

/-! U4: def f(self, *rest) -/
namespace PV
open PySem L2
theorem fn_starG {CX : CXT} {P : Program} {w : World} {K : PySem.W.Frag} {mg : Str → Option Value} {base : Heap} {k : Nat} {f : Addr} {name qual p1 pv : Str} {params : Arguments} {body : List Stmt} {scope : Scope} {dV kV doc pm cdv ct oc : Value} {an od : Option Addr}
    {osl : Array (Option Value)} {N : List Str} {sp : Sp} (lk : K.lookup f = some ⟨oc, od, .func (PySem.W.fnOf name qual params body scope dV kV doc pm an cdv ct), osl⟩) (hcd : PySem.W.codeIn K cdv qual = true) (S : FnScope N [p1, pv] scope) (hCX : StX.CXUp CX)
    (hb : ∀ (u : Value) (rest : List Value), bindArgs (PySem.W.fnOf name qual params body scope dV kV doc pm an cdv ct) ⟨u :: rest, []⟩ = (newTuple rest >>= fun t => pure [(p1, u), (pv, t)]))
    (len : ∀ vs H Q E, sp vs H Q E → vs.length = 2)
    (hbody : ∀ (A : Around) (outer : List PySem.Env) (s : Shared) (H : Hp) (vs : List V) (Q : VK) (E : XK), Room k (A.deeper (PyProof.Rows.envOfC qual scope s.heap.objs.size f cdv)) → A.guards = some [] → sp vs H Q E →
      ∃ t, PSs (cxOf CX P w K mg base N qual scope f cdv A outer s H E) body t ∧ t { nx := fun _ H' => Q .non H', rt := Q } (L2.start N vs) H) :
    ∀ n, FnC P w K mg base CX (k + 1) f n [] (fun vs _ => starSp sp vs) := by
  intro n A outer s H us ws vs zs Q E hr hgd e0 r rz l1 l2 hsp
  obtain ⟨v, rest, rfl, hz, hq⟩ := hsp
  cases r with
  | cons rv rr =>
  rename_i u us
  have kp : ∀ b o, base.get? b = some o → s.heap.get? b = some o := fun b o e => (e0.bs b o e).1
  have KX : K.In s.heap := e0.mod.kin.keeps kp
  have hn : H s.heap.objs.size = none := e0.hok.fresh (Nat.le_refl _)
  have hl2 : us.length ≤ sizeLine := by rw [← rr.length]; exact hz
  have z0 : (([] : List Str).zip ws) = [] := rfl
  rw [z0]
  refine codeAny_call_function hr.depth (KX _ _ lk) rfl S.co S.gen rfl (PySem.W.codeRec_of KX hcd) ?_
  rw [hb u us]
  refine wpAny_bind (wpAny_newTuple (wpAny_pure ?_) hl2)
  have new : ObjOk P w (upd H s.heap.objs.size (.tup rest)) (s.heap.push ({ cls := .type "tuple", data := .seq us.toArray } : Obj)) s.heap.objs.size (.tup rest) := ⟨hz, us, rr, ⟨_, Heap.get?_push_size _ rfl, rfl, _, rfl⟩⟩
  have un := StX.un_laid (fs := frs outer) (s := s) (o := ({ cls := .type "tuple", data := .seq us.toArray } : Obj)) (u := .tup rest) hn
  have e2 := StX.env0_laid e0 new
  have hq2 := hq s.heap.objs.size hn
  have hl := len _ _ _ _ hq2
  have r2 : Vals [v, V.ref s.heap.objs.size] [u, Value.ref s.heap.objs.size] := .cons rv (.cons rfl .nil)
  have names : ∀ y ∈ [p1, pv].zip [u, Value.ref s.heap.objs.size], scope.names.lookup y.1 = some .local ∨ (scope.names.lookup y.1 = some .cell ∧ ((cellsFrom ((s.heap.push ({ cls := .type "tuple", data := .seq us.toArray } : Obj)).objs.size + 1) scope.names []).lookup y.1).isSome = true) := fun y hy =>
    (S.par y.1 (List.of_mem_zip hy).1).imp id fun q => ⟨q, PySem.W.cellsFrom_some _ _ _ (.inl q)⟩
  refine wpAny_newFunctionEnv_cells S.kind names fun env he s1 x => ?_
  subst he
  refine ⟨(e0.mod.nolimit.keeps fun b o e => (e2.bs b o e).1).keeps x.toInCall.keep, codeAny_func ?_⟩
  obtain ⟨t, ht, hq3⟩ := hbody A outer _ _ [v, V.ref s.heap.objs.size] Q E (hr.deeper _) hgd hq2
  refine wpAny_mono (ht.run [] s1 (L2.start N _) _ _ (inv_start S hr.hd e2 hl r2 x) hq3) (fun fl s' hs => ?_) fun e s' hs => ?_
  · match fl, hs with
    | .ret u', ⟨v', σ', H', J, rv', q⟩ => exact ⟨v', H', J.os, J.bare, un.trans J.base, J.hok, rv', q⟩
    | .next, ⟨σ', H', J, q⟩ => exact ⟨V.non, H', J.os, J.bare, un.trans J.base, J.hok, rfl, q⟩
    | .brk, ⟨_, _, _, q⟩ => exact q.elim
    | .cont, ⟨_, _, _, q⟩ => exact q.elim
  · have hx := fun e s'' z => hCX outer s H { s with heap := s.heap.push ({ cls := .type "tuple", data := .seq us.toArray } : Obj) } (upd H s.heap.objs.size (.tup rest)) E e s'' un (fun b o q => Heap.get?_push_of_some _ q) rfl z
    exact wpAny_mono hs (fun _ s'' z => hx _ s'' z) fun e' s'' z => hx e' s'' z
end PV

/-! C1: calls, of trees -/
namespace PV
open PySem L2
/-! ### keywords -/
abbrev JK (X : Cx) (g : GX) (W : WX) (b : Bool) (ks : List Keyword) (l : M (List R)) : Prop := PK X ks (tAR g W b l)
theorem PK.imp {X : Cx} {es : List Keyword} {t t' : TA} (h : PK X es t) (k : ∀ σ H Q, t' σ H Q → t σ H Q) : PK X es t' := ⟨fun pos pins s σ H Q I q => h.run pos pins s σ H Q I (k σ H Q q)⟩
/-- where a parameter's argument comes from, by values -/
inductive SrcV where | pos (i : Nat) | kw (i : Nat) | dfl (v : V)
def fillV (vs zs : List V) (l : List SrcV) : List V := l.map fun s => match s with | .pos i => vs.getD i .non | .kw i => zs.getD i .non | .dfl v => v
inductive SrcR (g : GX) : Src → SrcV → Prop where
  | pos (i : Nat) : SrcR g (.pos i) (.pos i)
  | kw (i : Nat) : SrcR g (.kw i) (.kw i)
  | dfl {t : T} {v : V} (h : ∀ F H, Rep g.toG F H t v []) : SrcR g (.dfl t) (.dfl v)
/-- nothing of one's own -/
def light : R → Bool | .plc _ _ => true | .val t => T.pureT t
/-- f(e, .., k = v, ..) -/
def cCallK (xs : Bool) (call : Calls) (q : Str) (ms : List Bool) (n m : Nat) (qk : Bool) (pl : List Src) (es ks : M (List R)) : M R := M.bind es fun rs => M.bind ks fun ss => M.bind (guardM ((rs.all light && ss.all light) && (qk || rs.all fun r => !(deep r)))) fun _ =>
  M.bind (guardM (decide (rs.length = n) && decide (ss.length = m))) fun _ => M.bind (ofO (fill rs ss pl)) fun as => M.bind (doCall xs call q ms as) fun t => M.pure (.val t)
/-- C(e, .., k = v, ..) -/
def cMakeK (xs : Bool) (call : Calls) (C : Str) (q : Str) (ms : List Bool) (n m : Nat) (qk : Bool) (pl : List Src) (es ks : M (List R)) : M R := M.bind es fun rs => M.bind ks fun ss => M.bind (guardM ((rs.all light && ss.all light) && (qk || rs.all fun r => !(deep r)))) fun _ =>
  M.bind (guardM (decide (rs.length = n) && decide (ss.length = m))) fun _ => M.bind (ofO (fill rs ss pl)) fun as => M.bind (doMake xs call C false q ms as) fun t => M.pure (.val t)
section
variable {X : Cx} {e o : Expr} {g : GX} {W : WX} {F F' F0 F1 F2 F3 : Addr → Prop} {H H' H0 H1 H2 H3 : Hp} {fp fp' fp0 fp1 fp2 fp3 ft fu fq fr fs rest : List Addr} {t u z : T} {v x y : V} {σ : St} {E E' E0 E1 E2 : Env} {r s : R} {Q : VK} {b b1 q : Bool}
variable {ma : M R} {pos p apos : Pos} {es : List Expr} {kws : List Keyword} {call : Calls} {qn C f : Str} {ms : List Bool} {n k : Nat} {rs ss as : List R} {vs zs : List V} {CX : CXT} {fa Ca : Addr} {nm : Str} {dts : List T} {dvs : List V} {l lk : M (List R)} {ks : List Str}
theorem jk_nil : JK X g W b [] lNil := PK.imp pk_nil fun σ H Q h => by
  obtain ⟨F, E, fp, w, re, p⟩ := h
  exact p.pure [] H F [] fp Aft.refl w re ⟨rfl, rfl⟩ fun _ _ _ h => h
theorem jk_cons {kn : Option Str} {kp : Pos} (ha : JE X g W b e ma) (hr : JK X g W q kws l) : JK X g W (b && q) (⟨kn, e, kp⟩ :: kws) (lArg q ma l) := PK.imp (pk_cons ha hr) fun σ H Q h => by
  obtain ⟨F, E, fp, w, re, p⟩ := h
  refine see w re p fun x H1 F1 fr fp1 r E1 a1 w1 re1 rr ex p1 => ?_
  obtain ⟨gd, p2⟩ := p1.bind.guard
  refine ⟨F1, E1, fp1, w1.right, re1, p2.bind.imp (fun rs E2 p3 => ?_) fun _ _ h => h.later (a1.sub fun a ha => List.mem_append_right _ ha)⟩
  intro vs H2 F2 fs fp2 a2 w2 re2 rr2 ex2
  obtain ⟨wf3, st, a3⟩ := frame w1 rr.own a2 w2
  refine p3.pure (x :: vs) H2 F2 (fr ++ fs) fp2 (by rw [List.append_assoc]; exact a1.trans a3) (by rw [List.append_assoc]; exact wf3) re2 ⟨x, vs, fr, fs, rfl, rfl, rr.later st (deep_or gd ex2), rr2⟩ fun hb c o e => ?_
  rw [Bool.and_eq_true] at hb
  exact ex2 hb.2 c o (ex hb.1 c o e)
theorem jk_weak (h : JK X g W b kws l) : JK X g W false kws l := PK.imp h fun σ H Q h => by
  obtain ⟨F, E, fp, w, r, p⟩ := h
  exact ⟨F, E, fp, w, r, p.imp (fun a E' k v H' F' fr fp' x y z u _ => k v H' F' fr fp' x y z u (fun z => nomatch z)) fun _ _ h => h⟩
theorem jk_le (h : JK X g W b kws l) (hq : q = true → b = true) : JK X g W q kws l := by
  cases q with
  | false => exact jk_weak h
  | true => rw [hq rfl] at h; exact h
/-! ### light answers -/
theorem light_nil : ∀ {rs : List R} {vs : List V} {fr : List Addr}, RepRs g.toG F H σ rs vs fr → rs.all light = true → fr = []
  | [], vs, fr, h, _ => h.2
  | r :: rs, vs, fr, h, e => by
    obtain ⟨v, vs', f1, f2, rfl, rfl, h1, h2⟩ := h
    rw [List.all_cons, Bool.and_eq_true] at e
    rw [light_nil h2 e.2]
    cases r with
    | val t => rw [Rep.pure t h1 e.1]; rfl
    | plc i p => rw [h1.1]; rfl
theorem light_later : ∀ {rs : List R} {vs : List V}, RepRs g.toG F H σ rs vs [] → Stay F F' H H' [] → (∀ r ∈ rs, deep r = false ∨ Ext H H') → RepRs g.toG F' H' σ rs vs []
  | [], vs, h, _, _ => h
  | r :: rs, vs, h, st, k => by
    obtain ⟨v, vs', f1, f2, rfl, e, h1, h2⟩ := h
    obtain ⟨rfl, rfl⟩ := List.append_eq_nil_iff.mp e.symm
    exact ⟨v, vs', [], [], rfl, rfl, h1.later st (k r List.mem_cons_self), light_later h2 st fun r' hr' => k r' (List.mem_cons_of_mem _ hr')⟩
theorem light_nth : ∀ {rs : List R} {vs : List V} {i : Nat} {r : R}, RepRs g.toG F H σ rs vs [] → rs[i]? = some r → ∃ v, vs[i]? = some v ∧ RepR g.toG F H σ r v []
  | [], vs, i, r, h, e => by simp at e
  | r0 :: rs, vs, i, r, h, e => by
    obtain ⟨v, vs', f1, f2, rfl, ef, h1, h2⟩ := h
    obtain ⟨rfl, rfl⟩ := List.append_eq_nil_iff.mp ef.symm
    cases i with
    | zero => simp at e; subst e; exact ⟨v, rfl, h1⟩
    | succ i => exact light_nth (i := i) h2 (by simpa using e)
theorem fill_rep (h1 : RepRs g.toG F H σ rs vs []) (h2 : RepRs g.toG F H σ ss zs []) : ∀ {pl : List Src} {plv : List SrcV} {as : List R}, Paired (SrcR g) pl plv → fill rs ss pl = some as → RepRs g.toG F H σ as (fillV vs zs plv) []
  | _, _, as, .nil, e => by cases e; exact ⟨rfl, rfl⟩
  | _, _, as, .cons hs hp, e => by
    cases hs with
    | pos i =>
      unfold fill at e
      split at e
      · rename_i r q e1 e2
        cases e
        obtain ⟨v, hv, hr⟩ := light_nth h1 e1
        refine ⟨v, _, [], [], ?_, rfl, hr, fill_rep h1 h2 hp e2⟩
        show (vs.getD i .non) :: _ = _
        rw [List.getD_eq_getElem?_getD, hv]; rfl
      · cases e
    | kw i =>
      unfold fill at e
      split at e
      · rename_i r q e1 e2
        cases e
        obtain ⟨v, hv, hr⟩ := light_nth h2 e1
        refine ⟨v, _, [], [], ?_, rfl, hr, fill_rep h1 h2 hp e2⟩
        show (zs.getD i .non) :: _ = _
        rw [List.getD_eq_getElem?_getD, hv]; rfl
      · cases e
    | dfl hd =>
      unfold fill at e
      split at e
      · rename_i q e2
        cases e
        exact ⟨_, _, [], [], rfl, rfl, hd F H, fill_rep h1 h2 hp e2⟩
      · cases e
/-! ### the calls' readings -/
theorem nil_red {K : List V → Hp → Prop} (h : tAR g W b lNil σ H K) : tNil σ H K := by
  obtain ⟨F, E, fp, w, re, p⟩ := h
  exact p.pure [] H F [] fp Aft.refl w re ⟨rfl, rfl⟩ fun _ _ _ h => h
theorem fc_red (hn : n + dts.length = ms.length) (hdf : ∀ F H, RepL g.toG F H dts dvs []) (h : tE g W false (cCall0 false call qn ms dts l) σ H Q) :
    tF n 0 (fun vs _ => spT g false call qn ms (vs ++ dvs)) (fun _ => XF) (tAR g W b l) tNil σ H Q := by
  obtain ⟨F, E, fp, w, re, p⟩ := h
  refine ⟨F, E, fp, w, re, Post.imp (Post.bind p) (fun rs E1 p1 => ?_) fun _ _ h => h⟩
  intro vs H1 F1 fr fp1 a1 w1 re1 rr ex
  have rr2 : RepRs g.toG F1 H1 σ (rs ++ dts.map .val) (vs ++ dvs) (fr ++ []) := rr.app (RepRs.vals (hdf F1 H1))
  have hsp : spT g false call qn ms (vs ++ dvs) H1 Q XF := doCall_red (fp := fp1) rr2 (by simpa using w1) re1 (Post.bind p1) fun t E2 v H' F2 ft fp2 p2 a2 w2 re2 rt => p2.pure v H' F2 ft fp2 (a1.trans (by simpa using a2)) w2 re2 rt fun h => nomatch h
  have hl := hsp.1
  rw [List.length_append, ← (hdf F1 H1).length] at hl
  exact ⟨by omega, rfl, hsp⟩
theorem mc_red (hC : g.toG.cls C = some Ca) (hn : n + dts.length = ms.length) (hdf : ∀ F H, RepL g.toG F H dts dvs []) (h : tE g W false (toV (cMake0 false call C false qn ms dts l)) σ H Q) :
    tM Ca n 0 (fun vs _ => spT g false call qn (true :: ms) (vs ++ dvs)) (fun _ => XF) (tAR g W b l) tNil σ H Q := by
  obtain ⟨F, E, fp, w, re, p⟩ := h
  have p0 : Post (M.bind (M.bind l fun rs => doMake false call C false qn ms (rs ++ dts.map .val)) (fun t => M.pure (R.val t)) E) _ _ := p
  refine ⟨F, E, fp, w, re, p0.bind.bind.imp (fun rs E1 p1 => ?_) fun _ _ h => h⟩
  intro vs H1 F1 fr fp1 a1 w1 re1 rr ex
  have rr2 : RepRs g.toG F1 H1 σ (rs ++ dts.map .val) (vs ++ dvs) (fr ++ []) := rr.app (RepRs.vals (hdf F1 H1))
  have hl : (rs ++ dts.map R.val).length = ms.length := by
    unfold doMake at p1
    split at p1
    · assumption
    · exact p1.elim
  rw [List.length_append, List.length_map, rr.length] at hl
  exact ⟨by omega, rfl, doMake_red (fp := fp1) hC rr2 (by simpa using w1) re1 p1 fun t E2 v H' F2 ft fp2 p2 a2 w2 re2 rt => p2.pure v H' F2 ft fp2 (a1.trans (by simpa using a2)) w2 re2 rt fun h => nomatch h⟩
/-- positional values, then keywords: light ones -/
theorem two_light {α : Type} {q : Bool} {f : List R → List R → M α} {P : α → Env → Prop} {K : List V → List V → Hp → Prop} (w : Wf F H fp) (re : RepE g.toG F H E σ fp)
    (p : Post (M.bind l (fun rs => M.bind lk fun ss => M.bind (guardM ((rs.all light && ss.all light) && (q || rs.all fun r => !(deep r)))) fun _ => f rs ss) E) P (xP g W σ F H fp))
    (k : ∀ rs ss vs zs H2 F2 fp2 E2, Aft F F2 H H2 fp fp2 → Wf F2 H2 fp2 → RepE g.toG F2 H2 E2 σ fp2 → RepRs g.toG F2 H2 σ rs vs [] → RepRs g.toG F2 H2 σ ss zs [] → Post (f rs ss E2) P (xP g W σ F H fp) → K vs zs H2) :
    tAR g W b l σ H fun vs H1 => tAR g W q lk σ H1 fun zs H2 => K vs zs H2 := by
  refine ⟨F, E, fp, w, re, Post.imp (Post.bind p) (fun rs E1 p1 => ?_) fun _ _ h => h⟩
  intro vs H1 F1 fr fp1 a1 w1 re1 rr ex
  refine ⟨F1, E1, fp1, w1.right, re1, Post.imp (Post.bind p1) (fun ss E2 p2 => ?_) fun _ _ h => h.later (a1.sub fun a ha => List.mem_append_right _ ha)⟩
  intro zs H2 F2 fs fp2 a2 w2 re2 rr2 ex2
  obtain ⟨gd, p3⟩ := p2.bind.guard
  obtain ⟨gl, gq⟩ := Bool.and_eq_true_iff.mp gd
  obtain ⟨g1, g2⟩ := Bool.and_eq_true_iff.mp gl
  have e1 := light_nil rr g1
  subst e1
  have e2 := light_nil rr2 g2
  subst e2
  have a1' : Aft F F1 H H1 fp fp1 := by simpa using a1
  have w1' : Wf F1 H1 fp1 := by simpa using w1
  have a2' : Aft F1 F2 H1 H2 fp1 fp2 := by simpa using a2
  refine k rs ss vs zs H2 F2 fp2 E2 (a1'.trans a2') (by simpa using w2) re2 (light_later rr (a2'.stay0 w1') fun r hr => ?_) rr2 p3
  rcases Bool.or_eq_true_iff.mp gq with h | h
  · exact .inr (ex2 h)
  · exact .inl (by simpa using List.all_eq_true.mp h r hr)
theorem fck_red {q : Bool} {pl : List Src} {plv : List SrcV} {m : Nat} (hp : Paired (SrcR g) pl plv) (h : tE g W false (cCallK false call qn ms n m q pl l lk) σ H Q) :
    tF n m (fun vs zs => spT g false call qn ms (fillV vs zs plv)) (fun _ => XF) (tAR g W b l) (tAR g W q lk) σ H Q := by
  obtain ⟨F, E, fp, w, re, p⟩ := h
  refine two_light w re p fun rs ss vs zs H2 F2 fp2 E2 a w2 re2 r1 r2 p1 => ?_
  obtain ⟨gn, p1'⟩ := p1.bind.guard
  obtain ⟨gn1, gn2⟩ := Bool.and_eq_true_iff.mp gn
  obtain ⟨as, ea, p2⟩ := p1'.bind.ofO
  refine ⟨by rw [← r1.length]; exact of_decide_eq_true gn1, by rw [← r2.length]; exact of_decide_eq_true gn2, ?_⟩
  exact doCall_red (fp := fp2) (fr := []) (fill_rep r1 r2 hp ea) w2 re2 (Post.bind p2) fun t E3 v H' F3 ft fp3 p3 a3 w3 re3 rt => p3.pure v H' F3 ft fp3 (a.trans a3) w3 re3 rt fun h => nomatch h
theorem mck_red {q : Bool} {pl : List Src} {plv : List SrcV} {m : Nat} (hC : g.toG.cls C = some Ca) (hp : Paired (SrcR g) pl plv) (h : tE g W false (cMakeK false call C qn ms n m q pl l lk) σ H Q) :
    tM Ca n m (fun vs zs H Q E => ∃ v vs', vs = v :: vs' ∧ spT g false call qn (true :: ms) (v :: fillV vs' zs plv) H Q E) (fun _ => XF) (tAR g W b l) (tAR g W q lk) σ H Q := by
  obtain ⟨F, E, fp, w, re, p⟩ := h
  refine two_light w re p fun rs ss vs zs H2 F2 fp2 E2 a w2 re2 r1 r2 p1 => ?_
  obtain ⟨gn, p1'⟩ := p1.bind.guard
  obtain ⟨gn1, gn2⟩ := Bool.and_eq_true_iff.mp gn
  obtain ⟨as, ea, p2⟩ := p1'.bind.ofO
  refine ⟨by rw [← r1.length]; exact of_decide_eq_true gn1, by rw [← r2.length]; exact of_decide_eq_true gn2, fun x dx hx hdx hne => ⟨.ref x, vs, rfl, ?_⟩⟩
  revert x dx hx hdx hne
  exact doMake_red (fp := fp2) (fr := []) hC (fill_rep r1 r2 hp ea) w2 re2 (Post.bind p2) fun t E3 v H' F3 ft fp3 p3 a3 w3 re3 rt => p3.pure v H' F3 ft fp3 (a.trans a3) w3 re3 rt fun h => nomatch h
end
end PV

/-! X1: super().__init__(e, ..) that reaches ValueError -/
namespace PV
open PySem L2
abbrev bwV (x : Addr) : Obj := { cls := .type "method-wrapper", dict := none, data := .fields #[.builtin "ValueError.__init__", .ref x], slots := #[] }
theorem ty_vi : typeOf (.builtin "ValueError.__init__") = pure (.type "wrapper_descriptor") := by show builtinType _ = _; rw [builtinType_eq_fast]; kernel_rfl
theorem nac_vi : (kfb_private% "nameAndClass") (Value.builtin "ValueError.__init__") = (pure (("__init__" : Str), Value.type "ValueError") : Sem (Str × Value)) := by kernel_rfl
section
variable {prog : Program} {w : World} {M : Model} {A : Around} {E : Value → Shared → Prop} {h : Heap} {g : Array GenState} {d : Drawn} {t : Nat} {os : OsState}
open PySem.W in
theorem vi_get {x C : Addr} {P : Fin → Shared → Prop} (hin : Looks M h (isInstance (.ref x) (.type "ValueError")) true) (hq : P (.done (.ret (.ref h.objs.size))) ⟨h.push (bwV x), g, d, t, os⟩) :
    wpAny M A (Builtin.«wrapper_descriptor.__get__» ⟨[.builtin "ValueError.__init__", .ref x, .ref C], []⟩) P E ⟨h, g, d, t, os⟩ := by
  unfold Builtin.«wrapper_descriptor.__get__»
  refine wpAny_bind (wpAny_of_eq (a := (.builtin "ValueError.__init__", some (.ref x), some (.ref C))) (by first | rfl | kernel_rfl) ?_)
  show wpAny M A ((kfb_private% "checkInstance") (.builtin "ValueError.__init__") (.ref x) >>= fun _ => newFields "method-wrapper" [.builtin "ValueError.__init__", .ref x] >>= fun r => ret r) P E _
  refine wpAny_bind ?_
  show wpAny M A ((kfb_private% "nameAndClass") (.builtin "ValueError.__init__") >>= _) _ E _
  refine wpAny_bind (wpAny_of_eq nac_vi ?_)
  show wpAny M A (isInstance (.ref x) (.type "ValueError") >>= _) _ E _
  refine wpAny_bind (hin.at (KFB.if_not rfl (wpAny_pure ?_)))
  exact wpAny_bind (wpAny_newObj_type (wpAny_pure hq))
open PySem.W in
theorem vi_super {so D x C : Addr} {l₀ l : List Value} {K : Frag} {name : Str} {tk : Tok} {Q : Fin → Shared → Prop}
    (hso : h.get? so = some (ks_superObj D x C)) (hno : Looks (model prog w) h (opaqueClassAbove (.ref C)) none) (hC : Looks (model prog w) h (mroOf (.ref C)) l₀) (hl : (l₀.dropWhile (· != .ref D)).drop 1 = l) (X : K.In h)
    (hf : alongIn K name l = some (some (.builtin "ValueError.__init__"))) (hxC : x ≠ C) (hn : (name == ("__class__" : Str)) = false) (hin : Looks (model prog w) h (isInstance (.ref x) (.type "ValueError")) true)
    (hq : Q (.done (.ret (.ref h.objs.size))) ⟨h.push (bwV x), g, d, t, os⟩) : wpAny (model prog w) A (Builtin.«super.__getattribute__» ⟨[.ref so, .str name tk], []⟩) Q E ⟨h, g, d, t, os⟩ := by
  have hlk := PySem.ESX.slot_wd.lookup
  have hne : (Value.ref x == Value.ref C) = false := by simp [hxC]
  have hTf := ty_vi
  have hTi : Shared.TypeIs ⟨h, g, d, t, os⟩ (.builtin "ValueError.__init__") "wrapper_descriptor" := ty_vi
  have hdt : (ks_superObj D x C).data = .fields #[.ref D, .ref x, .ref C] := rfl
  have f0 : (#[Value.ref D, .ref x, .ref C])[0]? = some (.ref D) := rfl
  have f1 : (#[Value.ref D, .ref x, .ref C])[1]? = some (.ref x) := rfl
  have f2 : (#[Value.ref D, .ref x, .ref C])[2]? = some (.ref C) := rfl
  unfold Builtin.«super.__getattribute__»
  repeat (first
    | (with_reducible refine wpAny_field hso hdt f0 ?_) | (with_reducible refine wpAny_field hso hdt f1 ?_) | (with_reducible refine wpAny_field hso hdt f2 ?_)
    | (with_reducible refine ks_wpAny_notOpaque hno ?_) | (with_reducible refine Looks.at hC ?_; rw [hl]) | (refine ks_forIn_along X (fun _ _ => rfl) rfl ?_ hf)
    | (with_reducible refine wpAny_call_entry PySem.ESX.slot_wd hTi PySem.ESX.entry_wd ?_ (PySem.ESX.args_wd _ _ _)) | (with_reducible refine vi_get hin ?_) | (with_reducible refine ⟨_, rfl, ?_⟩)
    | (simp only [hn, hne, Bool.or_false, Bool.false_eq_true, if_false]) | wp_step | dsimp only)
  all_goals exact hq
open PySem.W in
theorem vi_meth {so D x C : Addr} {l₀ l : List Value} {K : Frag} {name : Str} {pl : Sem Bool} {Q : Value × List Value → Shared → Prop}
    (hso : h.get? so = some (ks_superObj D x C)) (hno : Looks (model prog w) h (opaqueClassAbove (.ref C)) none) (hC : Looks (model prog w) h (mroOf (.ref C)) l₀) (hl : (l₀.dropWhile (· != .ref D)).drop 1 = l) (X : K.In h)
    (hf : alongIn K name l = some (some (.builtin "ValueError.__init__"))) (hxC : x ≠ C) (hn : (name == ("__class__" : Str)) = false) (hin : Looks (model prog w) h (isInstance (.ref x) (.type "ValueError")) true)
    (hq : Q (.ref h.objs.size, []) ⟨h.push (bwV x), g, d, t + 1, os⟩) : wpAny (model prog w) A (getMethod (.ref so) name pl) Q E ⟨h, g, d, t, os⟩ := by
  have hlk := F.ks_slot_super_ga.lookup
  have hcan := F.ks_canon_super_ga
  have hT : ∀ t', (⟨h, g, d, t', os⟩ : Shared).TypeIs (.ref so) "super" := fun _ => ⟨_, hso, rfl⟩
  unfold getMethod
  refine wpAny_bind (wpAny_specialOf (hT _) hlk ?_)
  show wpAny _ _ (if (Manifest.canonical "super.__getattribute__" != "object.__getattribute__") = true then _ else _) _ _ _
  rw [if_pos hcan]
  unfold getAttr getAttrBy
  refine wpAny_bind (wpAny_bind (wpAny_mkText (wpAny_holding (wpAny_bind (wpAny_typeOf (hT _) (wpAny_bind (wpAny_of_eq hlk ?_)))))))
  show wpAny _ _ (getAttrByItsOwn (.ref so) (.str name t) (.type "super") (.builtin "super.__getattribute__") true false) _ _ _
  unfold getAttrByItsOwn hookBefore callGetattribute boundAndCalled
  refine wpAny_bind (wpAny_of_eq (show (if onTheHeap (.type "super") then typeLookup (.type "super") "__getattr__" else pure none) = pure none from rfl) (wpAny_bind (wpAny_attempt (wpAny_holding ?_))))
  show wpAny _ _ (bindSpecial (.builtin "super.__getattribute__") (.ref so) >>= _) _ _ _
  refine wpAny_bind (wpAny_of_eq (F.ks_slot_super_ga.bind _) ?_)
  refine wpAny_mono (Q := fun v s' => v = .ref h.objs.size ∧ s' = ⟨h.push (bwV x), g, d, t + 1, os⟩) (E := fun _ _ => False)
    (wpAny_call_entry F.ks_slot_super_ga (hT _) F.ks_entry_super_ga (vi_super hso hno hC hl X hf hxC hn hin ⟨_, rfl, rfl, rfl⟩) (F.ks_gaArgs_super _ _)) (fun v s' hv => ?_) fun _ _ z => z.elim
  obtain ⟨rfl, rfl⟩ := hv
  exact wpAny_pure (wpAny_pure hq)
end
section
open PySem.W PySem.Calls PyProof.Rows
variable {prog : Program} {w : World} {M : Model} {A : Around} {E : Value → Shared → Prop} {s : Shared}
theorem vi_with {pos : Pos} {u x : Addr} {args : List (Bool × Sem Value)} {Q : Value → Shared → Prop} (hplain : args.any (·.1) = false)
    (h : wpAny M A (evalArgs (.ref u) true args []) (fun a s₁ => s₁.heap.get? u = some (bwV x) ∧ wpAny M A (call (.ref u) ([] ++ a.pos) a.kw) Q E s₁) E s) : wpAny M A (callWith pos (.ref u) [] args []) Q E s := by
  unfold callWith
  refine wpAny_bind (wpAny_holding (wpAny_mono h (fun a s₁ h₁ => wpAny_bind (wpAny_standAt ?_)) fun _ _ x => x))
  obtain ⟨ho, hcall⟩ := h₁
  simp only [hplain, List.any_nil, Bool.or_false]
  refine wpAny_bind (m := keeperOf (.ref u)) ?_
  unfold keeperOf
  refine wpAny_bind (wpAny_load ho ?_)
  simp only [bwV, show (Value.type "method-wrapper" != Value.type "method") = true by decide, show (Value.type "method-wrapper" == Value.type "builtin_function_or_method" || Value.type "method-wrapper" == Value.type "method-wrapper") = true by decide, if_true]
  exact wpAny_pure (wpAny_bind (wpAny_mono hcall (fun r s₂ hr => wpAny_bind (wpAny_holding (wpAny_point (wpAny_pure hr)))) fun _ _ x => x))
end
section
variable {prog : Program} {w : World} {A : Around} {E : Value → Shared → Prop} {h : Heap} {g : Array GenState} {d : Drawn} {t : Nat} {os : OsState}
variable {nm q : Str} {C N : Addr} {bs bm : List Value} {hdct : Bool} {sn : List Str} {sub : List Value} {ab : Bool} {col : Option Bool} {dd : Option Addr} {k0 k1 k2 k3 k5 : Option Value}
theorem vi_call {u e t0 : Addr} {rest : List Value} {Q : Value → Shared → Prop}
    (hC : h.get? C = some (excClassObj nm q C N bs bm hdct sn sub ab col dd k0 k1 k2 k3 k5 "ValueError.__new__")) (he : h.get? e = some (PySem.HandSPX.excO C t0)) (hu : h.get? u = some (bwV e)) (hrest : rest.length ≤ sizeLine)
    (hq : ∀ h' t1, (∀ b o, b ≠ e → h.get? b = some o → h'.get? b = some o) → h'.get? e = some (PySem.HandSPX.excO C t1) → Q .none ⟨h', g, d, t, os⟩) :
    wpAny (model prog w) A (call (.ref u) rest) Q E ⟨h, g, d, t, os⟩ := by
  refine wpAny_call (codeAny_of_tree ?_)
  show wpAny _ A.in1 (callAny (.ref u) ⟨rest, []⟩) _ _ _
  simp only [callAny]
  refine wpAny_bind (wpAny_load hu ?_)
  simp only [bwV, show (Value.type "method-wrapper" == Value.type "method" || Value.type "method-wrapper" == Value.type "builtin_function_or_method" || Value.type "method-wrapper" == Value.type "method-wrapper") = true by decide, if_true]
  refine PySem.W.KFB.if_so (by decide) (wpAny_bind (PySem.ESX.check_bound F.excBase_ValueError hC he rfl (wpAny_bind (wpAny_pure (wpAny_pure ?_)))))
  refine ⟨Code.quiet_builtin _ (by decide +kernel), codeAny_builtin F.excBase_ValueError.initEntry ?_⟩
  rw [Around.under_plainId F.excBase_ValueError.init.plain _]
  wp_walk
  refine hq _ h.objs.size (fun b o hb ho => ?_) ?_
  · exact (Heap.get?_update_other _ _ (Ne.symm hb)).trans (Heap.get?_push_of_some _ ho)
  · exact (Heap.get?_update_self _ (Heap.get?_push_of_some _ he) rfl).trans rfl
end
end PV

/-! X2: the statement super().__init__(e, ..) of an exception -/
namespace PV
open PySem L2
def bwO (q x : Addr) : HO := .ext fun h => h.get? q = some (bwV x)
/-- what it asks -/
def tSupE (D : Addr) (ta : TA) : TE := fun σ H Q => ∃ x, σ[0]? = some (some (.ref x)) ∧ H x = some (exo x D none) ∧
  ∀ so q, H so = none → H q = none → so ≠ q → ta σ (upd (upd H so (supO so D x D)) q (bwO q x)) fun vs H1 => H1 q = some (bwO q x) ∧ H1 x = some (exo x D none) ∧ vs.length ≤ 1000 ∧ Q .non H1
structure SupX (K : PySem.W.Frag) (D : Addr) : Prop where
  at_ : PySem.W.ks_superIn K D D "__init__" = some (some (.builtin "ValueError.__init__"))
  ve : PySem.W.subIn K (.ref D) (.type "ValueError") = some true
  oex : OexC K D
section
variable {X : Cx} {f cc D : Addr} {cdv : Value} {e0' : Expr} {es : List Expr} {ta : TA} {p0 p1 apos pos spos : Pos} {body : List Stmt}
theorem psat_supE (S : SupD X.prog X.K X.mg f cc D cdv) (M : SupX X.K D)
    (ef : X.env.func = some f) (ec : X.env.code = cdv) (hks : X.env.kindOf "super" = some .globalImplicit) (hkc : X.env.kindOf "__class__" = some .free) (hka : X.env.kindOf "self" = some .local) (hcl : X.env.cells.lookup ("__class__" : Str) = some cc)
    (hN : X.N[0]? = some ("self" : Str)) (ha : PA X (e0' :: es) ta) (h1 : (e0' :: es).any isStar = false) (h2 : (e0' :: es).length < 30) (h3 : (apos.endLine == pos.line) = true) (hi : interactive X.env = false) :
    PSAt X (.func body X.env) (.Expr (.Call (.Attribute (.Call (.Name "super" p0) [] [] p1) "__init__" apos) (e0' :: es) [] pos) spos) (fun De σ H => tSupE D ta σ H fun _ H1 => De.nx σ H1) := by
  refine ⟨fun pins s σ H De I z => ?_⟩
  obtain ⟨x, e0, ex, z⟩ := z
  obtain ⟨oc, od, osl, fd, ar, lf, hp, har⟩ := S.fn
  obtain ⟨ccl', cld, csl, lc⟩ := S.cell
  obtain ⟨cda, ccl, cdd, vs, ccs, file, tf, rfl, lcd, hvs, hfile⟩ := S.code
  obtain ⟨cdD, hcD⟩ := S.cls
  obtain ⟨pl, hform⟩ := meth_form (o := .Call (.Name "super" p0) [] [] p1) (m := "__init__") (env := X.env) h1 h2 h3
  have KX := I.kIn
  have ek : X.env.scope.kind = .function := I.ok.kind
  refine ks_wpAt_Expr_any (ks_wpAt_MethodCall (pl := pl) ?_ (hform ())) hi rfl
  obtain ⟨oD, hD1, hD2⟩ : ∃ oD, s.heap.get? D = some oD ∧ oD.data = .cls cdD := by
    unfold PySem.W.clsIn at hcD
    split at hcD
    · rename_i c d cd' sl ho
      cases hcD
      exact ⟨_, KX _ _ ho, rfl⟩
    · cases hcD
  refine ks_wpAt_super_base (env := X.env) hks hkc rfl ef (KX _ _ lf) rfl hp ec (KX _ _ lcd) rfl hvs hfile S.top ?_
  refine PySem.W.ks_loadName_global ek hks ?_
  obtain ⟨mb, hb1, hb2⟩ := I.mod.blt
  refine Calls.loadGlobal_builtin (by rw [I.ok.glob]; exact I.mod.glob.keeps I.bk) S.free (by rw [I.ok.blt]; exact hb1.keeps I.bk) ((hb2 "super" (by decide)).trans (by decide +kernel)) ⟨rfl, ?_⟩
  refine wpAny_loadName_free ek hkc hcl ⟨_, KX _ _ lc, rfl⟩ ?_
  obtain ⟨ml, hn, hl⟩ := I.loc
  obtain ⟨u, ru, lk⟩ := hl 0 "self" (.ref x) hN e0 (.inl hka)
  cases ru
  have hms : ml ("self" : Str) = some (.ref x) := by
    rcases lk with ⟨_, q⟩ | ⟨q, _⟩
    · exact q
    · rw [hka] at q; rcases q with q | q <;> cases q
  rw [har]
  refine wpAny_loadName_local ek hka hn hms ?_
  obtain ⟨t1, hob⟩ := exo_at I.hok ex
  have J : PySem.W.InstAt s.heap x _ D none := ⟨hob, rfl, rfl, True.intro⟩
  refine ks_wpAny_isType_cls hD1 hD2 ⟨rfl, ?_⟩
  refine ks_wpAny_call_super hD1 hD2 J.at_ J.cls (fun c e => nomatch e) (PySem.W.looks_mroIn KX S.sub) (fun h' e kp => ?_)
  -- the super object stands
  have hso : H s.heap.objs.size = none := I.hok.fresh (Nat.le_refl _)
  have I1 : Inv X pins σ (upd H s.heap.objs.size (supO s.heap.objs.size D x D)) { s with heap := h' } := I.laid (t' := s.toks) kp (Nat.le_refl _) ⟨e, ⟨_, e⟩, fun h1 h2 e1 kk => kk _ e1⟩
  have hsz : s.heap.objs.size < h'.objs.size := Heap.lt_size e
  have hne : x ≠ D := PySem.W.ks_ne KX J hcD
  have KX1 : X.K.In h' := fun a o q => kp _ _ (KX a o q)
  have hMro : PySem.W.Looks (model X.prog X.w) h' (mroOf (.ref D)) cdD.mro := fun A Q E s k q => wpAny_bind ((PySem.W.looks_clsIn KX1 hcD) A _ E s k (wpAny_pure q))
  have J1 : PySem.W.InstAt h' x _ D none := ⟨kp _ _ hob, rfl, rfl, True.intro⟩
  have hin : PySem.W.Looks (model X.prog X.w) h' (isInstance (.ref x) (.type "ValueError")) true := J1.type.andThen (PySem.W.looks_subIn KX1 M.ve)
  have hat := M.at_
  unfold PySem.W.ks_superIn at hat
  rw [hcD] at hat
  obtain ⟨hh, gg, dd, tt, oo⟩ := s
  refine vi_meth e (PySem.W.looks_opaque KX1 S.opq) hMro rfl KX1 hat hne rfl hin ?_
  -- the bound wrapper
  have I2 : Inv X pins σ (upd (upd H hh.objs.size (supO hh.objs.size D x D)) h'.objs.size (bwO h'.objs.size x)) ⟨h'.push (bwV x), gg, dd, tt + 1, oo⟩ :=
    I1.laid (a := h'.objs.size) (o := bwO h'.objs.size x) (t' := tt + 1) (fun b u q => Heap.get?_push_of_some _ q) (Nat.le_refl _) ⟨Heap.get?_push_size h' rfl, ⟨_, Heap.get?_push_size h' rfl⟩, fun h1 h2 e1 kk => kk _ e1⟩
  have hq : H h'.objs.size = none := by
    have := I1.hok.fresh (Nat.le_refl h'.objs.size)
    rwa [upd_ne (Nat.ne_of_gt hsz)] at this
  have z2 := z hh.objs.size h'.objs.size hso hq (Nat.ne_of_lt hsz)
  refine vi_with (x := x) (by rw [star_any h1]) ?_
  have hst := h1
  rw [List.any_cons, Bool.or_eq_false_iff] at hst
  rw [star_each hst.1]
  have hrun := ha.run pos pins _ σ _ _ I2 z2
  rw [star_each hst.1] at hrun
  refine Calls.evalArgs_plain (wpAny_mono hrun (fun us s3 hq3 => ?_) fun _ _ q => q)
  obtain ⟨vs', H3, I3, rv, hq3, hx3, hl3, hd3⟩ := hq3
  have hb3 : ObjOk X.prog X.w H3 s3.heap h'.objs.size (bwO h'.objs.size x) := I3.hok _ _ hq3
  refine ⟨hb3.1, ?_⟩
  obtain ⟨t3, ho3⟩ := exo_at I3.hok hx3
  obtain ⟨nm, q, N, bs, bm, sn, sub, ab, col, ddd, k0, k1, k2, k3, k5, hC, hbm⟩ := M.oex.cls
  have hlen : us.length ≤ sizeLine := by rw [← Paired.length rv, sizeLine_eq]; omega
  obtain ⟨hp3, g3, d3, tk3, os3⟩ := s3
  refine vi_call (rest := us) (I3.kIn _ _ hC) ho3 hb3.1 hlen fun h4 t4 k4 hx4 => ?_
  have J4 := I3.write (t' := tk3) (x := x) (e := x) (o := exo x D none) (by rw [hx3]; exact True.intro) (.inl rfl) k4 ⟨_, hx4⟩ (exo_ok hx4)
  have eu : upd H3 x (exo x D none) = H3 := by
    funext b
    by_cases hb : b = x
    · rw [hb, upd_same, hx3]
    · rw [upd_ne hb]
  rw [eu] at J4
  exact ⟨σ, H3, J4, hd3⟩
end
end PV

/-! X3: the __init__ of an exception's class -/
namespace PV
open PySem L2
theorem cells_mem {x : Str} {c : Addr} : ∀ (names : List (Str × NameKind)) (n : Nat), (cellsFrom n names []).lookup x = some c → (x, NameKind.cell) ∈ names
  | [], n, h => by cases h
  | (m, k) :: r, n, h => by
    unfold cellsFrom at h
    split at h
    · rename_i hk
      rw [cells_app, List.lookup_append] at h
      cases q : (cellsFrom (n + 1) r []).lookup x with
      | some c' => exact List.mem_cons_of_mem _ (cells_mem r (n + 1) q)
      | none =>
        rw [q] at h
        have h' : ([(m, n)] : List (Str × Addr)).lookup x = some c := h
        rw [List.lookup_cons] at h'
        split at h'
        · rename_i hx
          rw [eq_of_beq hx, eq_of_beq hk]
          exact List.mem_cons_self
        · cases h'
    · exact List.mem_cons_of_mem _ (cells_mem r n h)
theorem cell_cls {names : List (Str × NameKind)} {n : Nat} {cc : Addr} (h : (names.all fun y => y.1 != ("__class__" : Str) || y.2 == NameKind.free) = true) : (cellsFrom n names [(("__class__" : Str), cc)]).lookup ("__class__" : Str) = some cc := by
  rw [cells_app, List.lookup_append]
  cases q : (cellsFrom n names []).lookup ("__class__" : Str) with
  | some c =>
    have m := List.all_eq_true.mp h _ (cells_mem names n q)
    simp at m
  | none => rfl
/-- the promise of an exception's __init__: its fields are stored -/
def spE (D : Addr) (fs : List Str) : Sp := fun vs H Q E => ∃ x ys, vs = .ref x :: ys ∧ ys.length = fs.length ∧ H x = some (exo x D none) ∧
  ∀ H2 d, (∀ b o, b ≠ x → H b = some o → H2 b = some o) → H2 x = some (exo x D (some d)) → H2 d = some (exd d (fs.zip ys).reverse) → H d = none → Q .non H2
abbrev supStm (es : List Expr) (p0 p1 apos pos spos : Pos) : Stmt := .Expr (.Call (.Attribute (.Call (.Name "super" p0) [] [] p1) "__init__" apos) es [] pos) spos
abbrev stoStm (f : Str) (pa pb pc pd : Pos) : Stmt := .Assign [.Attribute (.Name "self" pa) f pb] (.Name f pc) pd
section
variable {CX : CXT} {P : Program} {w : World} {K : PySem.W.Frag} {mg : Str → Option Value} {base : Heap} {k : Nat} {f cc D : Addr} {name qual f1 f2 : Str} {params : Arguments} {body : List Stmt} {scope : Scope} {dV kV doc pm cdv ct oc : Value} {an od : Option Addr}
    {osl : Array (Option Value)} {p0 p1 apos pos spos q1 q2 r1 r2 r3 r4 s1 s2 s3 s4 : Pos}
/-- what is asked of such a def -/
structure InitX (P : Program) (K : PySem.W.Frag) (mg : Str → Option Value) (f cc D : Addr) (cdv : Value) (scope : Scope) (ps : List Str) : Prop where
  sup : SupD P K mg f cc D cdv
  supx : SupX K D
  cs : CScope ps ps scope
  ks : scope.names.lookup ("super" : Str) = some .globalImplicit
  ka : scope.names.lookup ("self" : Str) = some .local
  kcl : (scope.names.all fun y => y.1 != ("__class__" : Str) || y.2 == NameKind.free) = true
theorem noInt {env : PySem.Env} (h : env.scope.kind = .function) : interactive env = false := by
  unfold interactive
  rw [h]
  rfl
theorem xinit1 (lk : K.lookup f = some ⟨oc, od, .func (PySem.W.fnX name qual params [supStm [.Name f1 q1] p0 p1 apos pos spos, stoStm f1 r1 r2 r3 r4] scope [(("__class__" : Str), cc)] dV kV doc pm an cdv ct), osl⟩) (hcd : PySem.W.codeIn K cdv qual = true)
    (I : InitX P K mg f cc D cdv scope ["self", f1]) (v1 : Vis scope f1) (n1 : PySem.W.findIn K (.ref D) f1 = some none) (h3 : (apos.endLine == pos.line) = true) (hd1 : (f1 == ("__debug__" : Str)) = false) (hc1 : (f1 == ("__classdict__" : Str)) = false)
    (hs1 : ∀ env, swapsWith (.Name f1 r3) (some (.Attribute (.Name "self" r1) f1 r2)) r4.line env = pure false) :
    FnG P w K mg base CX (k + 1) f (PySem.W.fnX name qual params [supStm [.Name f1 q1] p0 p1 apos pos spos, stoStm f1 r1 r2 r3 r4] scope [(("__class__" : Str), cc)] dV kV doc pm an cdv ct) ["self", f1] (spE D [f1]) := by
  have hcc : ∃ oc, K.lookup cc = some oc ∧ ∃ v, oc.data = .cell v := by obtain ⟨cl, cld, csl, h⟩ := I.sup.cell; exact ⟨_, h, _, rfl⟩
  refine fn_ofC lk hcd hcc I.cs (fun vs H Q E ⟨x, ys, e, l, _⟩ => by rw [e, List.length_cons, l]; rfl) fun A outer s H vs Q E hr hgd hsp => ?_
  obtain ⟨x, ys, rfl, hl, hx, hq⟩ := hsp
  obtain ⟨y, rfl⟩ : ∃ y, ys = [y] := by
    match ys, hl with
    | [y], _ => exact ⟨y, rfl⟩
  have vself : Vis (cxC CX P w K mg base ["self", f1] qual scope f cdv cc A outer s H E).env.scope "self" := .inl I.ka
  have pself : ∀ p, PE (cxC CX P w K mg base ["self", f1] qual scope f cdv cc A outer s H E) (.Name "self" p) (tVar 0) := fun p => pe_var rfl vself
  have pf1 : ∀ p, PE (cxC CX P w K mg base ["self", f1] qual scope f cdv cc A outer s H E) (.Name f1 p) (tVar 1) := fun p => pe_var rfl v1 hd1 hc1
  refine ⟨_, pssAt_cons (psat_supE I.sup I.supx rfl rfl I.ks I.cs.cls I.ka (cell_cls I.kcl) rfl (pa_cons (pf1 q1) pa_nil rfl) rfl (by simp) h3 (noInt I.cs.kind)) (PSsAt.of (pss_one (ps_ost (pself r1) (pf1 r3) (hs1 _)))), ?_⟩
  refine ⟨x, rfl, hx, fun so q hso hq' hne => ⟨y, rfl, ?_⟩⟩
  have nx : ∀ b, H b = none → x ≠ b := fun b hb z => by rw [← z, hx] at hb; cases hb
  have ex : ∀ b o, H b = some o → (upd (upd H so (supO so D x D)) q (bwO q x)) b = some o := fun b o e => by rw [upd_ne (ne_of_none e hq'), upd_ne (ne_of_none e hso)]; exact e
  refine ⟨upd_same, ex _ _ hx, by simp, y, rfl, .ref x, rfl, x, D, rfl, I.supx.oex, n1, .inl ⟨ex _ _ hx, fun dx hdx hdne => ?_⟩⟩
  have hdH : H dx = none := by
    cases e : H dx with
    | none => rfl
    | some o => rw [ex _ _ e] at hdx; cases hdx
  refine hq _ dx (fun b o hb e => ?_) upd_same ?_ hdH
  · rw [upd_ne hb, upd_ne (ne_of_none e hdH)]; exact ex _ _ e
  · rw [upd_ne hdne, upd_same]; rfl
theorem xinit2 (lk : K.lookup f = some ⟨oc, od, .func (PySem.W.fnX name qual params [supStm [.Name f1 q1, .Name f2 q2] p0 p1 apos pos spos, stoStm f1 r1 r2 r3 r4, stoStm f2 s1 s2 s3 s4] scope [(("__class__" : Str), cc)] dV kV doc pm an cdv ct), osl⟩) (hcd : PySem.W.codeIn K cdv qual = true)
    (I : InitX P K mg f cc D cdv scope ["self", f1, f2]) (v1 : Vis scope f1) (v2 : Vis scope f2) (n1 : PySem.W.findIn K (.ref D) f1 = some none) (n2 : PySem.W.findIn K (.ref D) f2 = some none) (h3 : (apos.endLine == pos.line) = true) (hd1 : (f1 == ("__debug__" : Str)) = false) (hc1 : (f1 == ("__classdict__" : Str)) = false)
    (hd2 : (f2 == ("__debug__" : Str)) = false) (hc2 : (f2 == ("__classdict__" : Str)) = false)
    (hs1 : ∀ env, swapsWith (.Name f1 r3) (some (.Attribute (.Name "self" r1) f1 r2)) r4.line env = pure false) (hs2 : ∀ env, swapsWith (.Name f2 s3) (some (.Attribute (.Name "self" s1) f2 s2)) s4.line env = pure false) :
    FnG P w K mg base CX (k + 1) f (PySem.W.fnX name qual params [supStm [.Name f1 q1, .Name f2 q2] p0 p1 apos pos spos, stoStm f1 r1 r2 r3 r4, stoStm f2 s1 s2 s3 s4] scope [(("__class__" : Str), cc)] dV kV doc pm an cdv ct) ["self", f1, f2] (spE D [f1, f2]) := by
  have hcc : ∃ oc, K.lookup cc = some oc ∧ ∃ v, oc.data = .cell v := by obtain ⟨cl, cld, csl, h⟩ := I.sup.cell; exact ⟨_, h, _, rfl⟩
  refine fn_ofC lk hcd hcc I.cs (fun vs H Q E ⟨x, ys, e, l, _⟩ => by rw [e, List.length_cons, l]; rfl) fun A outer s H vs Q E hr hgd hsp => ?_
  obtain ⟨x, ys, rfl, hl, hx, hq⟩ := hsp
  obtain ⟨y, z, rfl⟩ : ∃ y z, ys = [y, z] := by
    match ys, hl with
    | [y, z], _ => exact ⟨y, z, rfl⟩
  have vself : Vis (cxC CX P w K mg base ["self", f1, f2] qual scope f cdv cc A outer s H E).env.scope "self" := .inl I.ka
  have pself : ∀ p, PE (cxC CX P w K mg base ["self", f1, f2] qual scope f cdv cc A outer s H E) (.Name "self" p) (tVar 0) := fun p => pe_var rfl vself
  have pf1 : ∀ p, PE (cxC CX P w K mg base ["self", f1, f2] qual scope f cdv cc A outer s H E) (.Name f1 p) (tVar 1) := fun p => pe_var rfl v1 hd1 hc1
  have pf2 : ∀ p, PE (cxC CX P w K mg base ["self", f1, f2] qual scope f cdv cc A outer s H E) (.Name f2 p) (tVar 2) := fun p => pe_var rfl v2 hd2 hc2
  refine ⟨_, pssAt_cons (psat_supE I.sup I.supx rfl rfl I.ks I.cs.cls I.ka (cell_cls I.kcl) rfl (pa_cons (pf1 q1) (pa_cons (pf2 q2) pa_nil rfl) rfl) rfl (by simp) h3 (noInt I.cs.kind)) (PSsAt.of (pss_cons (ps_ost (pself r1) (pf1 r3) (hs1 _)) (pss_one (ps_ost (pself s1) (pf2 s3) (hs2 _))))), ?_⟩
  refine ⟨x, rfl, hx, fun so q hso hq' hne => ⟨y, rfl, z, rfl, ?_⟩⟩
  have nx : ∀ b, H b = none → x ≠ b := fun b hb z => by rw [← z, hx] at hb; cases hb
  have ex : ∀ b o, H b = some o → (upd (upd H so (supO so D x D)) q (bwO q x)) b = some o := fun b o e => by rw [upd_ne (ne_of_none e hq'), upd_ne (ne_of_none e hso)]; exact e
  refine ⟨upd_same, ex _ _ hx, by simp, y, rfl, .ref x, rfl, x, D, rfl, I.supx.oex, n1, .inl ⟨ex _ _ hx, fun dx hdx hdne => ?_⟩⟩
  have hdH : H dx = none := by
    cases e : H dx with
    | none => rfl
    | some o => rw [ex _ _ e] at hdx; cases hdx
  refine ⟨z, rfl, .ref x, rfl, x, D, rfl, I.supx.oex, n2, .inr ⟨dx, [(f1, y)], upd_same, (by rw [upd_ne hdne, upd_same]), by simp, ?_⟩⟩
  refine hq _ dx (fun b o hb e => ?_) ?_ upd_same hdH
  · rw [upd_ne (ne_of_none e hdH), upd_ne hb, upd_ne (ne_of_none e hdH)]; exact ex _ _ e
  · rw [upd_ne (Ne.symm hdne), upd_same]
end
end PV

/-! X4: C(e, .., k = e, ..) of an exception's class with its own __init__ -/
namespace PV
open PySem L2
section
open PyProof.Rows
variable {M : Model} {A : Around} {E : Value → Shared → Prop} {h : Heap} {g : Array GenState} {d : Drawn} {t : Nat} {os : OsState}
variable {nm q : Str} {C N : Addr} {bs bm bmB : List Value} {hdct : Bool} {sn : List Str} {sub : List Value} {ab : Bool} {col : Option Bool} {dd : Option Addr} {k0 k1 k2 k3 k5 : Option Value} {B newId initId : String}
theorem kchk (F : ExcBaseFacts B newId initId bmB) (hT : ∀ X : String, bm.contains (.type X) = bmB.contains (.type X)) {rest : List Value} {kw : List (Str × Value)} {Q : Unit → Shared → Prop}
    (hC : h.get? C = some (excClassObj nm q C N bs bm hdct sn sub ab col dd k0 k1 k2 k3 k5 newId)) (hq : Q () ⟨h, g, d, t, os⟩) : wpAny M A (checkBuiltinCall newId ⟨.ref C :: rest, kw⟩) Q E ⟨h, g, d, t, os⟩ := by
  have c1 : (Value.ref C :: bm).contains (.type B) = true := by rw [List.contains_cons, hT, F.hasB, Bool.or_true]
  have c2 := F.noStar
  simp only [checkBuiltinCall, F.newKind, F.newSplit, F.newRow]
  repeat (first | refine wpAny_loadPart_at hC ?_ | (refine wpAny_isSubtype_exc hC ?_; rw [c1]) | refine wpAny_staticBase_exc hC ?_ | refine wpAny_madeBy_exc hC ?_ | simp only [bne_self_eq_false, Bool.false_eq_true, if_false] | wp_step)
  exact hq
end
section
open PyProof.Rows
variable {prog : Program} {w : World} {A : Around} {E : Value → Shared → Prop} {R : Result → Shared → Prop} {h : Heap} {g : Array GenState} {d : Drawn} {t : Nat} {os : OsState}
variable {nm q : Str} {C N : Addr} {bs bm bmB : List Value} {hdct : Bool} {sn : List Str} {sub : List Value} {ab : Bool} {col : Option Bool} {dd : Option Addr} {k0 k1 k2 k3 k5 : Option Value} {B newId initId : String}
theorem knew (F : ExcBaseFacts B newId initId bmB) (hT : ∀ X : String, bm.contains (.type X) = bmB.contains (.type X)) {rest : List Value} {kw : List (Str × Value)}
    (hC : h.get? C = some (excClassObj nm q C N bs bm hdct sn sub ab col dd k0 k1 k2 k3 k5 newId))
    (hq : R (.ok (.ret (.ref (h.objs.size + 1)))) ⟨(h.push (PySem.W.kdv_tup rest)).push (PySem.HandSPX.excO C h.objs.size), g, d, t, os⟩) (hrest : rest.length ≤ sizeLine) :
    codeAny (model prog w) A (.builtin newId ⟨.ref C :: rest, kw⟩) R ⟨h, g, d, t, os⟩ := by
  have c0 := F.ends
  have cB : (Value.ref C :: bm).contains (.type B) = true := by rw [List.contains_cons, hT, F.hasB, Bool.or_true]
  have cA : (Value.ref C :: bm).contains (.type "AttributeError") = false := by rw [List.contains_cons, hT, F.noAttr]; rfl
  have cN : (Value.ref C :: bm).contains (.type "NameError") = false := by rw [List.contains_cons, hT, F.noName]; rfl
  refine codeAny_builtinAt F.entry ?_
  unfold Builtin.«BaseException.__new__»
  refine PySem.wpAt_bind ?_
  show PySem.wpAt _ _ _ (stack >>= _) _ _ _
  refine PySem.wpAt_bind (PySem.wpAt_stack fun p below => PySem.wpAt_of_wpAny ?_)
  wp_walk
  refine PySem.wpAt_of_wpAny ?_
  rw [F.owner]
  repeat (first | with_reducible refine wpAny_madeHere_exc F.canon hC ?_ | with_reducible refine wpAny_loadPart_at hC ?_ | (with_reducible refine wpAny_isSubtype_exc hC ?_; first | rw [cB] | rw [cA] | rw [cN]) | wp_step)
  show R _ _
  rw [Heap.size_push]
  exact hq
theorem ktype (F : ExcBaseFacts B newId initId bmB) (hT : ∀ X : String, bm.contains (.type X) = bmB.contains (.type X)) {rest : List Value} {kw : List (Str × Value)} {fI : Addr} {Q : Fin → Shared → Prop}
    (hC : h.get? C = some (excClassObj nm q C N bs bm hdct sn sub ab col dd k0 k1 k2 k3 k5 newId))
    (hi : PySem.W.Looks (model prog w) h (typeLookup (.ref C) "__init__") (some (.ref fI))) (hb : ∀ self, PySem.W.Looks (model prog w) h (bindSpecial (.ref fI) self) (.ref fI, [self])) (hrest : rest.length ≤ sizeLine)
    (hq : codeAny (model prog w) A (.call (.ref fI) ⟨.ref (h.objs.size + 1) :: rest, kw⟩)
      (fun r s' => match r with | .ok (.ret v) => v = .none ∧ Q (.done (.ret (.ref (h.objs.size + 1)))) s' | .ok _ => False | .error e => E e s')
      ⟨(h.push (PySem.W.kdv_tup rest)).push (PySem.HandSPX.excO C h.objs.size), g, d, t, os⟩) :
    wpAny (model prog w) A (Builtin.«type.__call__» ⟨.ref C :: rest, kw⟩) Q E ⟨h, g, d, t, os⟩ := by
  repeat (first | with_reducible refine wpAny_loadPart_at hC ?_ | with_reducible refine wpAny_madeBy_exc hC ?_ | wp_step)
  refine codeAny_call_builtin_code (Code.quiet_builtin _ F.quiet) (kchk F hT hC (knew F hT hC ?_ hrest))
  show wpAny _ _ _ _ _ _
  have kk : ∀ b o, h.get? b = some o → ((h.push (PySem.W.kdv_tup rest)).push (PySem.HandSPX.excO C h.objs.size)).get? b = some o := fun b o e => Heap.get?_push_of_some _ (Heap.get?_push_of_some _ e)
  have hC2 := kk _ _ hC
  have hg2 : ((h.push (PySem.W.kdv_tup rest)).push (PySem.HandSPX.excO C h.objs.size)).get? (h.objs.size + 1) = some (PySem.HandSPX.excO C h.objs.size) := by heap_get
  have cC : (Value.ref C :: bm).contains (.ref C) = true := by simp
  have i2 := hi.keeps kk
  have b2 := (hb (.ref (h.objs.size + 1))).keeps kk
  unfold isInstance
  repeat (first | with_reducible refine wpAny_loadPart_at hg2 ?_ | (with_reducible refine wpAny_isSubtype_exc hC2 ?_; rw [cC]) | wp_step)
  show wpAny _ _ (typeLookup (.ref C) _) _ _ _
  refine i2.at (wpAny_holding (wpAny_bind (b2.at (wpAny_bind (wpAny_call (codeAny_mono hq fun r s' z => ?_))))))
  rcases r with e | (v | _ | _ | _) <;> first | exact z | exact z.elim | skip
  obtain ⟨rfl, z⟩ := z
  first
    | exact wpAny_pure (wpAny_pure z)
    | (wp_walk; exact z)
theorem kcall (F : ExcBaseFacts B newId initId bmB) (hT : ∀ X : String, bm.contains (.type X) = bmB.contains (.type X)) {rest : List Value} {kw : List (Str × Value)} {fI : Addr}
    (hC : h.get? C = some (excClassObj nm q C N bs bm hdct sn sub ab col dd k0 k1 k2 k3 k5 newId))
    (hi : PySem.W.Looks (model prog w) h (typeLookup (.ref C) "__init__") (some (.ref fI))) (hb : ∀ self, PySem.W.Looks (model prog w) h (bindSpecial (.ref fI) self) (.ref fI, [self])) (hrest : rest.length ≤ sizeLine)
    (hq : codeAny (model prog w) (A.under (.builtin "type.__call__" ⟨.ref C :: rest, kw⟩)) (.call (.ref fI) ⟨.ref (h.objs.size + 1) :: rest, kw⟩) (PySem.W.InitBack (h.objs.size + 1) R)
      ⟨(h.push (PySem.W.kdv_tup rest)).push (PySem.HandSPX.excO C h.objs.size), g, d, t, os⟩) :
    codeAny (model prog w) A (.call (.ref C) ⟨rest, kw⟩) R ⟨h, g, d, t, os⟩ := by
  have f1 := PySem.tc_lookup
  have f2 := PySem.tc_bind (.ref C)
  have hTy : (⟨h, g, d, t, os⟩ : Shared).TypeIs (.ref C) "type" := ⟨_, hC, rfl⟩
  refine codeAny_of_tree ?_
  show wpAny _ _ (callAny (.ref C) _) _ _ _
  repeat (any_goals (first | assumption | with_reducible refine wpAny_loadPart_at hC ?_ | wp_step))
  refine ⟨rfl, codeAny_call_builtin_at (Code.quiet_builtin _ (by decide +kernel)) entry_typeCall (wpAny_check_type_call_sub hC (ktype F hT hC hi hb hrest ?_))⟩
  refine codeAny_mono hq fun r s' z => ?_
  rcases r with e | (v | _ | _ | _) <;> exact z
end
end PV

/-! X5: exceptions that are made -/
namespace PV
open PySem L2
/-- an exception's class, its own __init__ at fI -/
structure MkX (K : PySem.W.Frag) (C fI : Addr) : Prop where
  oex : OexC K C
  i : PySem.W.findIn K (.ref C) "__init__" = some (some (.ref fI))
  ty : PySem.W.typeIn K (.ref fI) = some (.type "function")
/-- what C(..) asks: its fields are the arguments -/
def tMkX (C : Addr) (fs : List Str) (plv : List SrcV) (n m : Nat) (t tk : TA) : St → Hp → XK → Prop := fun σ H Q => t σ H fun vs H1 => tk σ H1 fun zs H2 => vs.length = n ∧ zs.length = m ∧ vs.length ≤ 1000 ∧ (fillV vs zs plv).length = fs.length ∧
  ∀ H3 d, (∀ b o, H2 b = some o → H3 b = some o) → H2 d = none → H3 d = some (.xd (fs.zip (fillV vs zs plv)).reverse) → Q (.ref C) (some d) H3
section
variable {X : Cx} {CX : CXT} {k n : Nat} {C fI : Addr} {ks fs : List Str} {plv : List SrcV} {x : Str} {p pos : Pos} {e : Expr} {es : List Expr} {kws : List Keyword} {t tk : TA} {pins : List (Addr × Obj)} {σ : St} {H : Hp} {s : Shared} {Q : XK} {us ws : List Value} {vs zs : List V}
/-- the promise of such an __init__ -/
abbrev spX (C : Addr) (fs : List Str) (plv : List SrcV) : List V → List V → Hp → VK → XK → Prop := fun vs zs H Q E => ∃ v vs', vs = v :: vs' ∧ spE C fs (v :: fillV vs' zs plv) H Q E
theorem run_mkE (M : MkX X.K C fI) (F : FnC X.prog X.w X.K X.mg X.base CX k fI (n + 1) ks (spX C fs plv)) (hr : Room (k + 1) X.A) (hgd : X.A.guards = some []) (hx : Passes CX X XF) (I : Inv X pins σ H s) (r : Vals vs us) (rz : Vals zs ws) (l1 : vs.length = n) (l2 : zs.length = ks.length)
    (l3 : vs.length ≤ 1000) (l4 : (fillV vs zs plv).length = fs.length) (h : ∀ H3 d, (∀ b o, H b = some o → H3 b = some o) → H d = none → H3 d = some (.xd (fs.zip (fillV vs zs plv)).reverse) → Q (.ref C) (some d) H3) :
    wpAny (model X.prog X.w) X.A (call (.ref C) us (ks.zip ws)) (MkP X pins σ Q) X.xe s := by
  obtain ⟨nm, q, N, bs, bm, sn, sub, ab, col, dd, k0, k1, k2, k3, k5, hC, hbm⟩ := M.oex.cls
  obtain ⟨hp, g, dr, tk, os⟩ := s
  have hsz : hp.objs.size ≤ hp.objs.size + 1 := Nat.le_succ _
  have hn : H (hp.objs.size + 1) = none := I.hok.fresh hsz
  have kk : ∀ b o, hp.get? b = some o → ((hp.push (PySem.W.kdv_tup us)).push (PySem.HandSPX.excO C hp.objs.size)).get? b = some o := fun b o e => Heap.get?_push_of_some _ (Heap.get?_push_of_some _ e)
  have hget : ((hp.push (PySem.W.kdv_tup us)).push (PySem.HandSPX.excO C hp.objs.size)).get? (hp.objs.size + 1) = some (PySem.HandSPX.excO C hp.objs.size) := by heap_get
  have I2 : Inv X pins σ (upd H (hp.objs.size + 1) (exo (hp.objs.size + 1) C none)) ⟨(hp.push (PySem.W.kdv_tup us)).push (PySem.HandSPX.excO C hp.objs.size), g, dr, tk, os⟩ :=
    I.laid (t' := tk) (a := hp.objs.size + 1) (o := exo (hp.objs.size + 1) C none) (h' := (hp.push (PySem.W.kdv_tup us)).push (PySem.HandSPX.excO C hp.objs.size)) kk hsz (exo_ok hget)
  have hus : us.length ≤ sizeLine := by rw [← r.length, sizeLine_eq]; omega
  have hsp : spX C fs plv (.ref (hp.objs.size + 1) :: vs) zs (upd H (hp.objs.size + 1) (exo (hp.objs.size + 1) C none))
      (fun v H2 => v = .non ∧ ∃ (d : Addr) (fl : List (Str × V)), H2 (hp.objs.size + 1) = some (exo (hp.objs.size + 1) C (some d)) ∧ H2 d = some (exd d fl) ∧ H d = none ∧ Q (.ref C) (some d) (upd (del H2 (hp.objs.size + 1)) d (.xd fl))) XF := by
    refine ⟨_, vs, rfl, _, _, rfl, l4, upd_same, fun H2 d keep ea ed hd => ⟨rfl, d, _, ea, ed, ?_, ?_⟩⟩
    · by_cases e : d = hp.objs.size + 1
      · rw [e]; exact hn
      · rwa [upd_ne e] at hd
    · have hd0 : H d = none := by
        by_cases e : d = hp.objs.size + 1
        · rw [e]; exact hn
        · rwa [upd_ne e] at hd
      refine h _ d (fun b o e => ?_) hd0 upd_same
      have nb : b ≠ hp.objs.size + 1 := ne_of_none e hn
      rw [upd_ne (ne_of_none e hd0), del_ne nb]
      exact keep b o nb (by rw [upd_ne nb]; exact e)
  refine wpAny_call (kcall PySem.F.excBase_ValueError (fun Y => PySem.HandSPX.refsVE_contains Y bm hbm) (I.kIn _ _ hC) (PySem.W.looks_findIn I.kIn M.i) (fun self => PySem.W.bind_fn I.kIn self M.ty) hus
    (codeAny_mono (F _ X.stack _ _ (Value.ref (hp.objs.size + 1) :: us) ws (V.ref (hp.objs.size + 1) :: vs) zs _ XF (hr.make C us (ks.zip ws)) (under_guards hgd) (I2.env0.make C us (ks.zip ws)) (.cons rfl r) rz (by rw [List.length_cons, l1]) l2 hsp) fun r s' hq' => ?_))
  match r, hq' with
  | .error er, hq' => exact hx pins σ _ _ er s' I2 hq'
  | .ok (.ret u), hq' =>
    obtain ⟨v, H2, os2, bare2, un2, hok2, rv, ev, d, fl, ea, ed, hd1, q2⟩ := hq'
    subst ev
    obtain ⟨h2, g2, d2, t2, os'⟩ := s'
    exact ⟨rv, mk_end (raises_own M.oex.exC M.oex.tyC) I hsz kk un2 hok2 os2 bare2 ea ed hd1 q2⟩
  | .ok .next, hq' => exact hq'.elim
  | .ok .brk, hq' => exact hq'.elim
  | .ok .cont, hq' => exact hq'.elim
/-- C(e, .., k = e, ..) -/
theorem pmk_x (M : MkX X.K C fI) (F : FnC X.prog X.w X.K X.mg X.base CX k fI (n + 1) ks (spX C fs plv)) (hr : Room (k + 1) X.A) (hgd : X.A.guards = some []) (hx : Passes CX X XF) (hg : Gl X x) (hm : X.mg x = some (.ref C)) (ha : PA X (e :: es) t) (hkw : PK X kws tk)
    (hall : (backToKw pos (keywordEach kws X.env)).all (·.1.isSome) = true) (hks : (backToKw pos (keywordEach kws X.env)).filterMap (·.1) = ks) (hdb : (x == ("__debug__" : Str)) = false) (he : starEach (e :: es) X.env = (false, eval e X.env) :: starEach es X.env)
    (hpl : ((backTo pos (starEach (e :: es) X.env)).any (·.1) || (backToKw pos (keywordEach kws X.env)).any (·.1.isNone)) = false) : PMk X (.Call (.Name x p) (e :: es) kws pos) (tMkX C fs plv n ks.length t tk) :=
  fun pins s σ H Q I h => wpAny_Call_Name_kw (ld_glob I hg hm (PySem.W.callWith_KW (h₀ := X.base) I.ok.mod.kin M.oex.kC hall (thn (ha.run pos pins s σ H _ I h) fun us s1 ⟨vs, H1, I1, r, q⟩ =>
    thn (hkw.run pos pins s1 σ H1 _ I1 q) fun ws s2 ⟨zs, H2, I2, rz, l1, l2, l3, l4, q2⟩ => ⟨I2.kIn, by rw [hks]; exact run_mkE M F hr hgd hx I2 r rz l1 l2 l3 l4 q2⟩) hpl he) hdb)
theorem pmk_x0 (M : MkX X.K C fI) (F : FnC X.prog X.w X.K X.mg X.base CX k fI 1 ks (spX C fs plv)) (hr : Room (k + 1) X.A) (hgd : X.A.guards = some []) (hx : Passes CX X XF) (hg : Gl X x) (hm : X.mg x = some (.ref C)) (hkw : PK X kws tk)
    (hall : (backToKw pos (keywordEach kws X.env)).all (·.1.isSome) = true) (hks : (backToKw pos (keywordEach kws X.env)).filterMap (·.1) = ks) (hdb : (x == ("__debug__" : Str)) = false)
    (hpl : (backToKw pos (keywordEach kws X.env)).any (·.1.isNone) = false) : PMk X (.Call (.Name x p) [] kws pos) (tMkX C fs plv 0 ks.length tNil tk) :=
  fun pins s σ H Q I h => wpAny_Call_Name_kw (ld_glob I hg hm (PySem.W.callWith_KW0 (h₀ := X.base) I.ok.mod.kin M.oex.kC hall (
    thn (hkw.run pos pins s σ H _ I h) fun ws s2 ⟨zs, H2, I2, rz, l1, l2, l3, l4, q2⟩ => ⟨I2.kIn, by rw [hks]; exact run_mkE (n := 0) (us := []) (vs := []) M F hr hgd hx I2 .nil rz l1 l2 l3 l4 q2⟩) (by show (false || _) = false; rw [hpl]; rfl)) hdb)
/-- an exception that was made, as a value -/
theorem mk_val {u : Value} {s' : Shared} (h : MkP X pins σ Q u s') : ∃ a cls d H', u = .ref a ∧ H' a = none ∧ Q cls d H' ∧ Inv X pins σ (upd H' a (exq cls d a)) s' := by
  obtain ⟨a, oe, vs, sI, H', cls, d, rfl, J, k, hne, he, hz, hd, h1, na, os, ag, hr, q⟩ := h
  have new : ObjOk X.prog X.w (upd H' a (exq cls d a)) s'.heap a (exq cls d a) := ⟨⟨oe, vs, he, hz, hd⟩, ⟨oe, he⟩, fun h1 h2 ⟨o, w, e1, e2⟩ kp => ⟨o, w, kp o e1, e2⟩⟩
  have I2 := J.laidN (t' := s'.toks) (h' := s'.heap) k hne na new
  exact ⟨a, cls, d, H', rfl, na, q, I2.ok, os.trans J.os, ag, I2.base, I2.loc, I2.cell, I2.free, I2.freeC, I2.pin, I2.hok, I2.len⟩
theorem pe_mk {e : Expr} {t : St → Hp → XK → Prop} (h : PMk X e t) : PE X e (fun σ H Q => t σ H fun cls d H' => ∀ a, H' a = none → Q (.ref a) (upd H' a (exq cls d a))) :=
  ⟨fun pins s σ H Q I z => wpAny_mono (h pins s σ H _ I z) (fun u s' q => by
    obtain ⟨a, cls, d, H', rfl, na, q, J⟩ := mk_val q
    exact ⟨.ref a, _, J, rfl, q a na⟩) fun _ _ q => q⟩
end
end PV

/-! X6: exceptions that are made, of trees; raise -/
namespace PV
open PySem L2
def valsOf : List R → Option (List T)
  | [] => some []
  | .val t :: rs => if T.pureT t = true then (valsOf rs).map (t :: ·) else none
  | .plc _ _ :: _ => none
/-- C(e, .., k = e, ..) of an exception's class whose __init__ stores its parameters -/
def cErr (C : Str) (fs : List Str) (n m : Nat) (qk : Bool) (pl : List Src) (es ks : M (List R)) : M T := M.bind es fun rs => M.bind ks fun ss => M.bind (guardM ((rs.all light && ss.all light) && (qk || rs.all fun r => !(deep r)))) fun _ =>
  M.bind (guardM (decide (rs.length = n) && decide (ss.length = m) && decide (n ≤ 1000))) fun _ => M.bind (ofO (fill rs ss pl)) fun as => M.bind (ofO (valsOf as)) fun ts => M.bind (guardM (decide (ts.length = fs.length) && decide (fs.reverse.Nodup))) fun _ => M.pure (.err C fs.reverse ts.reverse)
/-- an exception in flight, as a tree -/
def errW (g : G) (t : T) (cls : Value) (d : Option Addr) (F : Addr → Prop) (H : Hp) : Prop := match t with
  | .err C ks ts => ∃ Ca vs, g.ecl C = some Ca ∧ cls = .ref Ca ∧ RepL g F H ts vs [] ∧ ks.length = vs.length ∧ ks.Nodup ∧ XD H d (ks.zip vs)
  | _ => False
def tK (g : GX) (W : WX) (m : M T) : St → Hp → XK → Prop := fun σ H Q => ∃ F E fp, Wf F H fp ∧ RepE g.toG F H E σ fp ∧
  Post (m E) (fun t E' => ∀ cls d H' F' fp', Aft F F' H H' fp fp' → Wf F' H' fp' → RepE g.toG F' H' E' σ fp' → errW g.toG t cls d F' H' → Q cls d H') (xP g W σ F H fp)
abbrev JK' (X : Cx) (g : GX) (W : WX) (e : Expr) (m : M T) : Prop := PMk X e (tK g W m)
section
variable {X : Cx} {e : Expr} {g : GX} {W : WX} {F F' F1 F2 : Addr → Prop} {H H' H1 H2 : Hp} {fp fp' fp1 fp2 : List Addr} {σ : St} {E E' E1 E2 : Env} {q b : Bool} {n m : Nat} {pl : List Src} {plv : List SrcV} {l lk : M (List R)} {C : Str} {Ca : Addr} {fs : List Str} {mt : M T} {pm : List Nat} {pos : Pos}
theorem vals_rep : ∀ {rs : List R} {ts : List T} {vs : List V}, valsOf rs = some ts → RepRs g.toG F H σ rs vs [] → RepL g.toG F H ts vs []
  | [], ts, vs, e, r => by
    cases e
    exact ⟨r.1, rfl⟩
  | .val t :: rs, ts, vs, e, r => by
    unfold valsOf at e
    split at e
    · obtain ⟨v, vs', f1, f2, rfl, ef, h1, h2⟩ := r
      obtain ⟨rfl, rfl⟩ := List.append_eq_nil_iff.mp ef.symm
      cases hq : valsOf rs with
      | none => rw [hq] at e; cases e
      | some us =>
        rw [hq] at e
        cases e
        exact ⟨v, vs', [], [], rfl, rfl, h1, vals_rep hq h2⟩
    · cases e
  | .plc _ _ :: _, ts, vs, e, r => by cases e
theorem repl_snoc {t : T} {v : V} : ∀ {ts : List T} {vs : List V}, RepL g.toG F H ts vs [] → Rep g.toG F H t v [] → RepL g.toG F H (ts ++ [t]) (vs ++ [v]) []
  | [], vs, h, r => by
    obtain ⟨rfl, _⟩ := h
    exact ⟨v, [], [], [], rfl, rfl, r, rfl, rfl⟩
  | t' :: ts, vs, h, r => by
    obtain ⟨v', vs', f1, f2, rfl, ef, h1, h2⟩ := h
    obtain ⟨rfl, rfl⟩ := List.append_eq_nil_iff.mp ef.symm
    exact ⟨v', vs' ++ [v], [], [], rfl, rfl, h1, repl_snoc h2 r⟩
theorem repl_rev : ∀ {ts : List T} {vs : List V}, RepL g.toG F H ts vs [] → RepL g.toG F H ts.reverse vs.reverse []
  | [], vs, h => by
    obtain ⟨rfl, _⟩ := h
    exact ⟨rfl, rfl⟩
  | t' :: ts, vs, h => by
    obtain ⟨v', vs', f1, f2, rfl, ef, h1, h2⟩ := h
    obtain ⟨rfl, rfl⟩ := List.append_eq_nil_iff.mp ef.symm
    rw [List.reverse_cons, List.reverse_cons]
    exact repl_snoc (repl_rev h2) h1
theorem zip_rev {α β : Type} : ∀ {xs : List α} {ys : List β}, xs.length = ys.length → (xs.zip ys).reverse = xs.reverse.zip ys.reverse
  | [], [], _ => rfl
  | x :: xs, y :: ys, h => by
    have h' : xs.length = ys.length := by simpa using h
    rw [List.zip_cons_cons, List.reverse_cons, List.reverse_cons, List.reverse_cons, zip_rev h', List.zip_append (by simpa using h')]
    rfl
theorem err_red (hC : g.toG.ecl C = some Ca) (hp : Paired (SrcR g) pl plv) {Q : XK} (h : tK g W (cErr C fs n m q pl l lk) σ H Q) : tMkX Ca fs plv n m (tAR g W b l) (tAR g W q lk) σ H Q := by
  obtain ⟨F, E, fp, w, re, p⟩ := h
  refine two_light w re p fun rs ss vs zs H2 F2 fp2 E2 a w2 re2 r1 r2 p1 => ?_
  obtain ⟨gn, p2⟩ := p1.bind.guard
  simp only [Bool.and_eq_true, decide_eq_true_eq] at gn
  obtain ⟨as, ea, p3⟩ := p2.bind.ofO
  obtain ⟨ts, et, p4⟩ := p3.bind.ofO
  obtain ⟨gf, p5⟩ := p4.bind.guard
  simp only [Bool.and_eq_true, decide_eq_true_eq] at gf
  have rv := vals_rep et (fill_rep r1 r2 hp ea)
  have hl : (fillV vs zs plv).length = fs.length := by rw [← rv.length, gf.1]
  refine ⟨by rw [← r1.length]; exact gn.1.1, by rw [← r2.length]; exact gn.1.2, by rw [← r1.length, gn.1.1]; exact gn.2, hl, fun H3 d keep hd ed => ?_⟩
  have ex : Ext H2 H3 := keep
  refine p5.pure (.ref Ca) (some d) H3 F2 fp2 (a.trans (ext_aft ex)) (w2.ext ex) (re2.stay (stay_ext ex)) ⟨Ca, _, hC, rfl, RepL.stay _ (repl_rev rv) (stay_ext ex), by rw [List.length_reverse, List.length_reverse, hl], gf.2, ?_⟩
  show H3 d = some (.xd _)
  rw [ed, zip_rev hl.symm]
/-- .. as a value -/
theorem je_err (h : JK' X g W e mt) : JE X g W false e (toV mt) := PE.imp (pe_mk h) fun σ H Q h => by
  obtain ⟨F, E, fp, w, re, p⟩ := h
  refine ⟨F, E, fp, w, re, p.bind.imp (fun t E1 p1 => ?_) fun _ _ h => h⟩
  intro cls d H1 F1 fp1 a1 w1 re1 er a na
  cases t with
  | err C ks ts =>
    obtain ⟨Ca, vs, hC, rfl, rl, l, nd, xd⟩ := er
    have ex : Ext H1 (upd H1 a (exq (.ref Ca) d a)) := fun c o e => by rw [upd_ne (ne_of_none e na)]; exact e
    have st : Stay F1 (fun c => F1 c ∨ c = a) H1 (upd H1 a (exq (.ref Ca) d a)) fp1 := ⟨fun _ h => .inl h, fun c o e _ => ex c o e⟩
    have nf : a ∉ fp1 := fun z => by
      obtain ⟨o, e, _⟩ := re1.own a z
      rw [na] at e; cases e
    refine p1.pure (.ref a) _ (fun c => F1 c ∨ c = a) [] fp1 ⟨fun c h => .inl (a1.ff c h), fun c h => ?_, fun c o e z => ex c o (a1.keep c o e z), a1.new, fun c o e z => ex c o (a1.tups c o e z)⟩ ⟨w1.nd, fun c hc z => ?_, fun c hc => ?_⟩ (re1.stay st) ?_ (fun z => nomatch z)
    · rcases h with h | rfl
      · exact a1.fn c h
      · cases e0 : H c with
        | none => exact .inr (.inr rfl)
        | some o =>
          by_cases hc : c ∈ fp
          · exact .inr (.inl hc)
          · have := a1.keep c o e0 hc
            rw [na] at this
            cases this
    · rcases z with z | rfl
      · exact w1.dj c hc z
      · exact nf hc
    · rcases hc with hc | rfl
      · obtain ⟨o, e⟩ := w1.dom c hc
        exact ⟨o, ex c o e⟩
      · exact ⟨_, upd_same⟩
    · exact ⟨a, Ca, d, vs, rfl, hC, RepL.stay _ rl (st.sub fun _ z => nomatch z), l, nd, .inr rfl, upd_same, xd_stay st xd, rfl⟩
  | _ => exact er.elim
/-- raise e -/
theorem js_raise (hc : X.calm = true) (tk : Takes X W) (hg : g.err = errW g.toG) (h : JK' X g W e mt) : JS X g W pm (.Raise (some e) none pos) (sRaise mt) := PS.imp (ps_raise hc tk h) fun σ H D h => by
  obtain ⟨F, E, fp, w, re, p⟩ := h
  refine ⟨F, E, fp, w, re, (Post.bind p).imp (fun t E1 p1 => ?_) fun _ _ h => h.x Prot.refl⟩
  intro cls d H1 F1 fp1 a1 w1 re1 er
  exact p1 cls d σ H1 F1 fp1 Prot.refl a1 w1 re1 (by rw [hg]; exact er)
end
end PV

/-! X7: try .. except x as n, where what is caught may stay -/
namespace PV
open PySem L2
section
variable {X : Cx} {pins : List (Addr × Obj)} {σ : St} {H : Hp} {s : Shared} {a : Addr} {o : HO}
theorem inv_track (J : Inv X pins σ H s) (n0 : X.s_0.heap.get? a = none) (na : H a = none) (np : ∀ p ∈ X.pn ++ pins, p.1 ≠ a) (nL : a ≠ X.env.locals) (nC : ∀ y c, X.env.cells.lookup y = some c → c ≠ a) (new : ObjOk X.prog X.w (upd H a o) s.heap a o) :
    Inv X pins σ (upd H a o) s := by
  have ne0 : ∀ {b : Addr} {u : Obj}, X.s_0.heap.get? b = some u → b ≠ a := fun {b u} e z => by rw [z, n0] at e; cases e
  refine ⟨J.ok, J.os, J.bare, ⟨J.base.keep, J.base.slot, fun b u e n x => ?_, J.base.there, fun b xs e => ?_, fun b u v e => ?_, fun b ps e => ?_⟩, J.loc, J.cell, ?_, fun y c e => ?_, fun p hp => ?_, fun b u e => ?_, J.len⟩
  · rw [upd_ne (ne0 e)]; exact J.base.free b u e n x
  · have q := J.base.tups b xs e
    rw [upd_ne (ne_of_none q na)]; exact q
  · have q := J.base.frzs b u v e
    rw [upd_ne (ne_of_none q na)]; exact q
  · obtain ⟨m, q⟩ := J.base.tbls b ps e
    exact ⟨m, by rw [upd_ne (ne_of_none q na)]; exact q⟩
  · rw [upd_ne (Ne.symm nL)]; exact J.free
  · rw [upd_ne (nC y c e)]; exact J.freeC y c e
  · obtain ⟨e, n, r⟩ := J.pin p hp
    exact ⟨e, by rw [upd_ne (np p hp)]; exact n, r⟩
  · by_cases hb : b = a
    · subst hb
      rw [upd_same] at e
      cases e
      exact new
    · rw [upd_ne hb] at e
      exact (J.hok b u e).stay (fun _ _ _ q => q) (fun c q => by rw [upd_ne (ne_of_none q na)]; exact q) fun c xs q => by rw [upd_ne (ne_of_none q na)]; exact q
theorem inv_suite (I : Inv X pins σ H s) : Inv (X.suite a (X.pn ++ pins)) [] σ H s :=
  ⟨I.ok.suite _ _, I.os, I.bare, I.base, I.loc, I.cell, I.free, I.freeC, fun p hp => I.pin p (by rw [List.append_nil] at hp; exact hp), I.hok, I.len⟩
theorem inv_unsuite {pn' : List (Addr × Obj)} (I : Inv (X.suite a (X.pn ++ pins)) pn' σ H s) (ok : X.Ok) : Inv X pins σ H s :=
  ⟨ok, I.os, I.bare, I.base, I.loc, I.cell, I.free, I.freeC, fun p hp => I.pin p (List.mem_append_left _ hp), I.hok, I.len⟩
end
/-- what the clause wishes -/
def wEsc (K : PySem.W.Frag) (c : Value) (i : Nat) (ts : TS) (Wout : WX) (D : Ends) : WX := fun cls d σ H =>
  ∃ b, PySem.W.exmOne K cls c = some b ∧ (b = true → ∀ a, H a = none → ts { nx := fun σ' H' => D.nx (σ'.set i none) H', rt := D.rt, bk := fun σ' H' => D.bk (σ'.set i none) H', ct := fun σ' H' => D.ct (σ'.set i none) H' } (σ.set i (some (.ref a))) (upd H a (exq cls d a))) ∧
    (b = false → Wout cls d σ H)
section
variable {X : Cx} {x n : Str} {c : Value} {i : Nat} {body suite : List Stmt} {b₀ : Stmt} {np pos pos' : Pos} {tb : WX → TS} {ts : TS} {Wout : WX}
theorem ps_try_esc (hs : X.stack = X.env :: X.outer) (hex : X.ex = []) (hf : X.env.frame = some X.env.locals) (hN : X.N.Nodup) (hi : X.N[i]? = some n) (hln : X.env.kindOf n = some .local) (hc : Names X x c) (tk : Takes X Wout)
    (hb : ∀ (W : WX) (pn : List (Addr × Obj)) (xe : Value → Shared → Prop), Takes (X.tr pn xe) W → PassesOwn (model X.prog X.w) X.A X.env xe → PSs (X.tr pn xe) body (tb W))
    (hsu : ∀ (a : Addr) (pn : List (Addr × Obj)), PSs (X.suite a pn) (b₀ :: suite) ts) :
    PS X (.Try body [.ExceptHandler (some (.Name x np)) (some n) (b₀ :: suite) pos'] [] [] pos) (fun D σ H => tb (wEsc X.K c i ts Wout D) D σ H) := by
  refine ⟨fun pins s σ H D I h => ?_⟩
  have ok := I.ok
  have hfr : X.A.frames = some (X.env :: X.outer) := by rw [ok.frames, hs]
  have hloc : Loc X.env.scope n := .inl hln
  refine wpAny_Try_except ?_
  refine wpAny_mono ((hb (wEsc X.K c i ts Wout D) (X.pn ++ pins) (fun e s₁ => wpAny (model X.prog X.w) X.A (noteFrame e X.env) (fun _ s₂ => wpAny (model X.prog X.w) X.A (setFlight e none) (fun _ s₃ =>
    wpAny (model X.prog X.w) X.A (handleBy e X.env [.ExceptHandler (some (.Name x np)) (some n) (b₀ :: suite) pos']) (SP X pins D) X.xe s₃) X.xe s₂) X.xe s₁) (fun u s' xx => ?_) PassesOwn.looking).run [] s σ H D (I.toTry _) h) (fun f s1 hsp => ?_) (fun e s1 he => he)
  · obtain ⟨a, B, sI, pins', σ', H', cls, d, rfl, J', nb, up, sky, na, os, ag, b, hb1, hyes, hno⟩ := xx
    have J : Inv X pins σ' H' sI := J'.ofTry ok
    have sky' : Sky B (X.env :: X.outer) a (Zc cls d) X.env.locals s'.heap := by rw [← hs]; exact sky
    show wpAny (model X.prog X.w) X.A (noteFrame (.ref a) X.env) _ _ _
    refine Sky.land Zc.steady hfr hf sky' fun h3 fl3 up3 => ?_
    have J3 : Inv X pins σ' H' { s' with heap := h3 } := J.landed nb fl3.1 (up.trans up3) os ag
    obtain ⟨oe3, vs3, he3, hz3, hd3⟩ := fl3.there
    have notFr : ∀ {h : Heap} {o : Obj} {vs : Array Value}, h.FunFrames B (X.env :: X.outer) → h.get? a = some o → o.data = .fields vs → a ∉ frs (X.env :: X.outer) := fun {h o vs} ff e dd hm => by
      obtain ⟨_, o', e', hnf⟩ := ff.mem hm
      rw [e] at e'; cases e'
      exact hnf _ dd
    have nfr := notFr fl3.2.2.1 he3 hd3
    have nL : a ≠ X.env.locals := fun z => nfr (List.mem_filterMap.mpr ⟨X.env, List.mem_cons_self, by rw [hf, z]⟩)
    have nF : a ∉ X.fs := fun hm => by
      obtain ⟨e, he, q⟩ := List.mem_filterMap.mp hm
      exact nfr (List.mem_filterMap.mpr ⟨e, List.mem_cons_of_mem _ he, q⟩)
    have nI : sI.heap.get? a = none := by
      cases e : sI.heap.get? a with
      | none => rfl
      | some o =>
        have q := nb a o e (by rw [hs]; exact nfr)
        rw [fl3.2.1] at q
        cases q
    have n0 : X.s_0.heap.get? a = none := by
      cases e : X.s_0.heap.get? a with
      | none => rfl
      | some o =>
        obtain ⟨o', q⟩ := J.base.there a o e (by rw [hex]; exact fun z => nomatch z)
        rw [nI] at q
        cases q
    have npp : ∀ p ∈ X.pn ++ pins, p.1 ≠ a := fun p hp z => by
      have q := (J.pin p hp).1
      rw [z, nI] at q
      cases q
    have S3 := J3.suite he3 hd3 na nL nF
    refine wpAny_handleBy_cons (codeAny_handlers_test ?_) (by intro q; cases q)
    have LT : PySem.W.Looks (model X.prog X.w) h3 (typeOf (.ref a)) cls := fun A Q E s k q => wpAny_typeOf_ref (k _ _ he3) (by rw [hz3.1]; exact q)
    have LM := PySem.W.exm_one (M := model X.prog X.w) (J3.kIn) LT hb1
    have test : ∀ {Q : Value → Shared → Prop} {E : Value → Shared → Prop}, Q c { s' with heap := h3 } → wpAny (model X.prog X.w) (X.A.mark (some (.ref a))) (eval (.Name x np) X.env) Q E { s' with heap := h3 } := fun {Q E} q => by
      obtain ⟨hg, hdbg, hm | ⟨hm, hv, hnn⟩⟩ := hc
      · exact ld_glob (X := X.suite a ((a, oe3) :: (X.pn ++ pins))) S3 hg hm q hdbg
      · exact ld_blt (X := X.suite a ((a, oe3) :: (X.pn ++ pins))) S3 hg hm hv q hnn hdbg
    refine test (LM.here ?_)
    cases b with
    | true =>
      refine codeAny_handlers_suite_as ?_
      refine HandSPX.lands_againZ fl3 fun h4 fl4 up4 => ?_
      have J4 : Inv X pins σ' H' { s' with heap := h4 } := J.landed nb fl4.1 ((up.trans up3).trans up4) os ag
      obtain ⟨oe4, vs4, he4, hz4, hd4⟩ := fl4.there
      have nC : ∀ y c, X.env.cells.lookup y = some c → c ≠ a := fun y c e z => by
        obtain ⟨v, o, q1, q2⟩ := J4.cell y c e
        rw [z] at q1
        have q3 := q1.symm.trans he4
        cases q3
        rw [hd4] at q2
        cases q2
      have T4 : Inv X pins σ' (upd H' a (exq cls d a)) { s' with heap := h4 } := inv_track J4 n0 na npp nL nC ⟨⟨oe4, vs4, he4, hz4, hd4⟩, ⟨oe4, he4⟩, fun h1 h2 ⟨o, w, e1, e2⟩ kp => ⟨o, w, kp o e1, e2⟩⟩
      have S4 : Inv (X.suite a (X.pn ++ pins)) [] σ' (upd H' a (exq cls d a)) { s' with heap := h4 } := inv_suite T4
      refine store_ok (X := X.suite a (X.pn ++ pins)) (v := .ref a) S4 hN hi hloc rfl (fun s5 S5 => ?_) (.inr hln)
      refine wpAny_mono ((hsu a (X.pn ++ pins)).run [] s5 _ _ _ S5 (hyes rfl a na)) (fun f s6 hsp => ?_) (fun _ _ z => False.elim z)
      have end_ : ∀ {σ6 : St} {H6 : Hp} {Q : Shared → Prop}, Inv (X.suite a (X.pn ++ pins)) [] σ6 H6 s6 → (∀ s7, Inv X pins (σ6.set i none) H6 s7 → Q s7) →
          wpAny (model X.prog X.w) X.A (do bindName X.env n .none; unbindBehindTheSuite X.env n pos') (fun _ s7 => Q s7) X.xe s6 := fun {σ6 H6 Q} S6 hq => gone_ok (inv_unsuite S6 ok) hN hi hln hq
      match f, hsp with
      | .next, ⟨σ6, H6, S6, q6⟩ => exact end_ S6 fun s7 J7 => ⟨_, _, J7, q6⟩
      | .brk, ⟨σ6, H6, S6, q6⟩ => exact end_ S6 fun s7 J7 => ⟨_, _, J7, q6⟩
      | .cont, ⟨σ6, H6, S6, q6⟩ => exact end_ S6 fun s7 J7 => ⟨_, _, J7, q6⟩
      | .ret u, ⟨v6, σ6, H6, S6, r6, q6⟩ => exact end_ S6 fun s7 J7 => ⟨_, _, _, J7, r6, q6⟩
    | false =>
      show wpAny _ X.A (handleBy (.ref a) X.env []) _ _ _
      refine wpAny_handleBy_nil ?_
      obtain ⟨k1, k2, k3, oe, vs, T, oT, ts', he, hz, hd, h1, hr⟩ := id fl3
      unfold PySem.passOn
      refine wpAny_bind (wpAny_field he hd h1 ?_)
      rw [if_neg (show ¬ ((Value.ref T == Value.none) = true) from by simp)]
      have fin : wpAny (model X.prog X.w) X.A (setFlight (.ref a) X.env.frame) (fun _ s4 => wpAny (model X.prog X.w) X.A (throw (.ref a) : Sem Flow) (SP X pins D) X.xe s4) X.xe { s' with heap := h3 } := by
        rw [hf]
        refine HandSPX.setFlight_upZ fl3 fun h4 hh4 up4 => wpAny_throw (tk _ _ ?_)
        exact ⟨a, B, sI, pins, σ', H', cls, d, rfl, J, nb, (up.trans up3).trans up4, .inr (.inr (by rw [hs]; exact hh4)), na, os, ag, hno rfl⟩
      first
        | exact wpAny_bind (wpAny_pure (wpAny_bind fin))
        | exact wpAny_bind fin
  · match f, hsp with
    | .next, ⟨σ', H', J', q⟩ => exact wpAny_execs_nil ⟨σ', H', J'.ofTry ok, q⟩
    | .brk, ⟨σ', H', J', q⟩ => exact ⟨σ', H', J'.ofTry ok, q⟩
    | .cont, ⟨σ', H', J', q⟩ => exact ⟨σ', H', J'.ofTry ok, q⟩
    | .ret u, ⟨v, σ', H', J', r, q⟩ => exact ⟨v, σ', H', J'.ofTry ok, r, q⟩
end
end PV

/-! X8: try .. except x as n, of trees -/
namespace PV
open PySem L2
section
variable {X : Cx} {x n : Str} {c : Value} {i : Nat} {body suite : List Stmt} {b₀ : Stmt} {np pos pos' : Pos} {g : GX} {W : WX} {F F1 : Addr → Prop} {H H1 : Hp} {fp fp1 fp2 dead : List Addr} {pm : List Nat} {σ : St} {a : Addr} {o : HO} {E E1 : Env} {sa sb : M Fl} {sub : Str → Bool}
theorem track (a1 : Aft F F1 H H1 fp fp1) (w1 : Wf F1 H1 fp1) (na : H1 a = none) (own : ∀ b ∈ fp1, ∃ o, H1 b = some o) :
    Aft F (fun b => F1 b ∨ b = a) H (upd H1 a o) fp fp1 ∧ Wf (fun b => F1 b ∨ b = a) (upd H1 a o) fp1 ∧ Stay F1 (fun b => F1 b ∨ b = a) H1 (upd H1 a o) fp1 := by
  have ex : ∀ c u, H1 c = some u → (upd H1 a o) c = some u := fun c u e => by rw [upd_ne (ne_of_none e na)]; exact e
  refine ⟨⟨fun c h => .inl (a1.ff c h), fun c h => ?_, fun c u e z => ex c u (a1.keep c u e z), a1.new, fun c u e z => ex c u (a1.tups c u e z)⟩, ⟨w1.nd, fun c hc z => ?_, fun c hc => ?_⟩, ⟨fun _ h => .inl h, fun c u e _ => ex c u e⟩⟩
  · rcases h with h | rfl
    · exact a1.fn c h
    · cases e0 : H c with
      | none => exact .inr (.inr rfl)
      | some u =>
        by_cases hc : c ∈ fp
        · exact .inr (.inl hc)
        · have := a1.keep c u e0 hc
          rw [na] at this
          cases this
  · rcases z with z | rfl
    · exact w1.dj c hc z
    · obtain ⟨u, e⟩ := own c hc
      rw [na] at e
      cases e
  · rcases hc with hc | rfl
    · obtain ⟨u, e⟩ := w1.dom c hc
      exact ⟨u, ex c u e⟩
    · exact ⟨_, upd_same⟩
/-- an exception in flight is caught: a value -/
theorem caught {t : T} {cls : Value} {d : Option Addr} (er : errW g.toG t cls d F1 H1) (st : Stay F1 (fun b => F1 b ∨ b = a) H1 (upd H1 a (exq cls d a)) ([] : List Addr)) : Rep g.toG (fun b => F1 b ∨ b = a) (upd H1 a (exq cls d a)) t (.ref a) [] := by
  cases t with
  | err C ks ts =>
    obtain ⟨Ca, vs, hC, rfl, rl, l, nd, xd⟩ := er
    exact ⟨a, Ca, d, vs, rfl, hC, RepL.stay _ rl st, l, nd, .inr rfl, upd_same, xd_stay st xd, rfl⟩
  | _ => exact er.elim
theorem prot_set {σ' : St} {w : Option V} (h : Prot pm σ σ') (hi : i ∉ pm) : Prot pm σ (σ'.set i w) := ⟨List.length_set.trans h.1, fun j hj => by
  rw [List.getElem?_set_ne fun (e : i = j) => hi (by rw [e]; exact hj)]
  exact h.2 j hj⟩
theorem js_try (hs : X.stack = X.env :: X.outer) (hex : X.ex = []) (hf : X.env.frame = some X.env.locals) (hN : X.N.Nodup) (hi : X.N[i]? = some n) (hln : X.env.kindOf n = some .local) (hc : Names X x c) (tk : Takes X W) (hg : g.err = errW g.toG)
    (hsub : ∀ C Ca, g.toG.ecl C = some Ca → PySem.W.exmOne X.K (.ref Ca) c = some (sub C)) (hip : i ∉ pm)
    (hb : ∀ (W : WX) (pn : List (Addr × Obj)) (xe : Value → Shared → Prop), Takes (X.tr pn xe) W → PassesOwn (model X.prog X.w) X.A X.env xe → JSs (X.tr pn xe) g W pm body sa)
    (hsu : ∀ (a : Addr) (pn : List (Addr × Obj)), JSs (X.suite a pn) g (fun _ _ _ _ => False) pm (b₀ :: suite) sb) :
    JS X g W pm (.Try body [.ExceptHandler (some (.Name x np)) (some n) (b₀ :: suite) pos'] [] [] pos) (sTry sub i sa sb) :=
  PS.imp (ps_try_esc hs hex hf hN hi hln hc tk hb hsu) fun σ H D h => by
    obtain ⟨F, E, fp, w, re, p⟩ := h
    refine ⟨F, E, fp, w, re, ?_⟩
    unfold sTry at p
    cases ha : sa E with
    | bad => rw [ha] at p; exact p.elim
    | ok f E1 => rw [ha] at p; exact p
    | exc t E1 =>
      rw [ha] at p
      dsimp only at p
      intro cls d σ' H1 F1 fp1 pr a1 w1 re1 er
      rw [hg] at er
      have er0 := er
      cases t with
      | err C ks ts =>
        obtain ⟨Ca, vs, hC, rfl, rl, l, nd, xd⟩ := er0
        refine ⟨sub C, hsub C Ca hC, fun hy a na => ?_, fun hn => ?_⟩
        · dsimp only at p
          rw [if_pos hy] at p
          have own : ∀ b ∈ fp1, ∃ o, H1 b = some o := fun b hb => by
            obtain ⟨u, e, _⟩ := re1.own b hb
            exact ⟨u, e⟩
          obtain ⟨a2, w2, st⟩ := track (o := exq (.ref Ca) d a) a1 w1 na own
          have rt := caught (a := a) er (st.sub fun _ z => nomatch z)
          obtain ⟨fp2, dead, pmm, re2⟩ := set_any (i := i) (t := T.err C ks ts) (o' := some (.ref a)) (re1.stay st) (.of rfl rt)
          have pmm : fp1.Perm (fp2 ++ dead) := pmm
          refine ⟨_, E1.set i (.err C ks ts), fp2, w2.sub pmm, re2, ?_⟩
          cases hb2 : sb (E1.set i (.err C ks ts)) with
          | bad => rw [hb2] at p; exact p.elim
          | exc _ _ => rw [hb2] at p; exact p.elim
          | ok f E2 =>
            rw [hb2] at p
            dsimp only at p
            have a3 : Aft F (fun b => F1 b ∨ b = a) H (upd H1 a (exq (.ref Ca) d a)) fp fp2 := a2.sub fun b hb => mem_of_perm pmm (List.mem_append_left _ hb)
            have pr2 : Prot pm σ (σ'.set i (some (.ref a))) := prot_set pr hip
            have fin : ∀ {σ2 : St} {H2 : Hp} {F2 : Addr → Prop} {fp3 : List Addr}, Prot pm (σ'.set i (some (.ref a))) σ2 → RepE g.toG F2 H2 E2 σ2 fp3 → ∃ fp4 dd, fp3.Perm (fp4 ++ dd) ∧ RepE g.toG F2 H2 (E2.set i .hole) (σ2.set i none) fp4 ∧ Prot pm σ (σ2.set i none) := fun {σ2 H2 F2 fp3} pr3 re3 => by
              obtain ⟨fp4, dd, pm4, re4⟩ := set_any (i := i) (t := T.hole) (o' := none) (ft := []) re3 rfl
              exact ⟨fp4, dd, pm4, re4, prot_set (pr2.trans pr3) hip⟩
            cases f with
            | nx =>
              intro σ2 H2 F2 fp3 pr3 a4 w4 re3
              obtain ⟨fp4, dd, pm4, re4, pr4⟩ := fin pr3 re3
              exact p _ H2 F2 fp4 pr4 ((a3.trans a4).sub fun b hb => mem_of_perm pm4 (List.mem_append_left _ hb)) (w4.sub pm4) re4
            | brk =>
              intro σ2 H2 F2 fp3 pr3 a4 w4 re3
              obtain ⟨fp4, dd, pm4, re4, pr4⟩ := fin pr3 re3
              exact p _ H2 F2 fp4 pr4 ((a3.trans a4).sub fun b hb => mem_of_perm pm4 (List.mem_append_left _ hb)) (w4.sub pm4) re4
            | ct =>
              intro σ2 H2 F2 fp3 pr3 a4 w4 re3
              obtain ⟨fp4, dd, pm4, re4, pr4⟩ := fin pr3 re3
              exact p _ H2 F2 fp4 pr4 ((a3.trans a4).sub fun b hb => mem_of_perm pm4 (List.mem_append_left _ hb)) (w4.sub pm4) re4
            | ret z =>
              intro v σ2 H2 F2 ft fp3 pr3 a4 w4 re3 rz
              obtain ⟨fp4, dd, pm4, re4, pr4⟩ := fin pr3 re3
              have pm5 : (ft ++ fp3).Perm ((ft ++ fp4) ++ dd) := by rw [List.append_assoc]; exact List.Perm.append_left ft pm4
              exact p v _ H2 F2 ft fp4 pr4 ((a3.trans a4).sub fun b hb => mem_of_perm pm5 (List.mem_append_left _ hb)) (w4.sub pm5) re4 rz
        · dsimp only at p
          rw [hn] at p
          exact p (.ref Ca) d σ' H1 F1 fp1 pr a1 w1 re1 (by rw [hg]; exact er)
      | _ => exact er.elim
end
end PV

/-! X9: repr -/
namespace PV
open PySem L2
mutual
theorem same_data : ∀ (n : Nat) (t u : T), same t u = true → dataT n t = dataT n u
  | 0, t, u, h => by simp [dataT]
  | n + 1, t, u, h => by
    cases t <;> cases u <;> simp only [same, Bool.false_eq_true] at h <;> first | rfl | skip
    · rename_i a b
      rw [eq_of_beq h]
    · rename_i a b
      rw [eq_of_beq h]
    · rename_i a b
      rw [of_decide_eq_true h]
    · rename_i xs ys
      simp only [dataT, sameL_data n xs ys h]
    · rename_i o xs o' ys
      simp only [dataT, sameL_data n xs ys h]
theorem sameL_data : ∀ (n : Nat) (ts us : List T), sameL ts us = true → dataL n ts = dataL n us
  | n, [], [], h => rfl
  | n, [], _ :: _, h => by simp [sameL] at h
  | n, _ :: _, [], h => by simp [sameL] at h
  | n, t :: ts, u :: us, h => by
    simp only [sameL, Bool.and_eq_true] at h
    simp only [dataL, same_data n t u h.1, sameL_data n ts us h.2]
end
def rRepr (K : PySem.W.Frag) : List V → Hp → VK → Prop := fun xs H Q => ∃ x d, xs = [x] ∧ Dp K H x d ∧ d.showable = true ∧ d.hasDict = false ∧ d.depth ≤ 60 ∧ d.shown.length ≤ sizeLine ∧ Q (.str d.shown) H
section
variable {X : Cx}
theorem call_repr (hgd : X.A.guards = some []) (hu : X.A.units + 64 < cLine) : CallR X (.builtin "repr") (rRepr X.K) := fun pins s σ H xs us Q I r h => by
  obtain ⟨x, d, rfl, hd, hs, hz, hdp, hl, q⟩ := h
  obtain ⟨u, rfl, ru⟩ := vals1 r
  obtain ⟨as, rd⟩ := Dp.reads I d x u hd ru
  have ref : ∀ a : Addr, u = Value.ref a → wpAny (model X.prog X.w) X.A (call (.builtin "repr") [u]) (fun v s' => ∃ y H', Inv X pins σ H' s' ∧ RelV y v ∧ Q y H') X.xe s := fun a e => by
    subst e
    exact PySem.repr_of_reads' rd hs (fun z => by rw [hz] at z; cases z) hgd (by omega) (fun _ _ z => z) (fun h' u tk k => ⟨.str _, H, I.kept (t' := tk) k, ⟨_, rfl⟩, q⟩) hl
  cases hd with
  | non =>
    cases ru
    exact PySem.P.repr_of_none ⟨.str _, H, I.tok _, ⟨_, rfl⟩, q⟩
  | bl b =>
    cases ru
    exact PySem.P.repr_of_bool ⟨.str _, H, I.tok _, ⟨_, rfl⟩, by cases b <;> exact q⟩
  | int i =>
    obtain ⟨t, rfl⟩ := ru
    exact PySem.P.repr_of_int (by simpa [PyData.showable] using hs) ⟨.str _, H, I.tok _, ⟨_, rfl⟩, q⟩
  | str y =>
    obtain ⟨t, rfl⟩ := ru
    exact PySem.P.repr_of_str ⟨.str _, H, I.tok _, ⟨_, rfl⟩, q⟩ hl
  | lst h1 h2 => exact ref _ ru
  | tup h1 h2 => exact ref _ ru
variable {g : GX} {W : WX} {F : Addr → Prop} {H : Hp} {t : T} {x : V} {ft : List Addr} {d : PyData} {Q : VK} {e1 e2 : Expr} {m1 m2 : M R} {b q : Bool} {p1 p2 q1 q2 pos : Pos} {op : CmpOp}
theorem repr_rep (fit : Fits g X) (rt : Rep g.toG F H t x ft) (e : reprD t = some d) (h : Q (.str d.shown) H) : rRepr X.K [x] H Q := by
  unfold reprD at e
  cases hd : dataT 60 t with
  | none => rw [hd] at e; cases e
  | some d' =>
    rw [hd] at e
    dsimp only at e
    split at e
    · rename_i hc
      cases e
      simp only [Bool.and_eq_true, Bool.not_eq_true', decide_eq_true_eq] at hc
      obtain ⟨h1, h2, h3⟩ := data_rep 60 t rt hd
      exact ⟨x, d, rfl, fit.K ▸ h1, hc.1.1.1, hc.1.1.2, h3, PyData.shown_fits_bulk (B := 13) (by decide) (by decide) hc.1.2 hc.2, h⟩
    · cases e
theorem jt_repr (fit : Fits g X) (hgd : X.A.guards = some []) (hop : op = .Eq ∨ op = .NotEq) (hg : Gl X "repr") (hm : X.mg "repr" = none) (ha : JE X g W b e1 m1) (hb : JE X g W q e2 m2) (h1 : isStar e1 = false) (h2 : isStar e2 = false) :
    JT X g W false (.Compare (.Call (.Name "repr" p1) [e1] [] q1) [op] [.Call (.Name "repr" p2) [e2] [] q2] pos) (tRepr op m1 m2) := by
  have hv : bootBuiltins "repr" = some (.builtin "repr") := by decide +kernel
  have pa : PE X (.Call (.Name "repr" p1) [e1] [] q1) (tCB (rRepr X.K) (tCons (tE g W b m1) tNil)) := pe_callB (call_repr hgd fit.hu) hg hm hv (pa_cons ha pa_nil (star_each h1)) (by decide) (by decide) (star_each h1) rfl
  have pb : PE X (.Call (.Name "repr" p2) [e2] [] q2) (tCB (rRepr X.K) (tCons (tE g W q m2) tNil)) := pe_callB (call_repr hgd fit.hu) hg hm hv (pa_cons hb pa_nil (star_each h2)) (by decide) (by decide) (star_each h2) rfl
  have red : ∀ {σ : St} {H : Hp} {Qt : Bool → Hp → Prop} {c : Bool} {KK : V → V → Hp → Prop}, (∀ dd H2, Qt c H2 → KK (.str dd) (.str dd) H2) → tT g W false (M.bind m1 fun r => M.bind (viewR r) fun t => M.bind (ofO (reprD t)) fun _ => M.bind m2 fun s => M.bind (viewR s) fun u => M.bind (guardM (same t u)) fun _ => M.pure c) σ H Qt →
      tCB (rRepr X.K) (tCons (tE g W b m1) tNil) σ H fun x H1 => tCB (rRepr X.K) (tCons (tE g W q m2) tNil) σ H1 fun y H2 => KK x y H2 := fun {σ H Qt c KK} hK h => by
    obtain ⟨F, E, fp, w, re, p⟩ := h
    refine seeT w re p fun x H1 F1 fp1 t f E1 a1 w1 re1 rt ex p1 => ?_
    obtain ⟨d, ed, p2⟩ := p1.bind.ofO
    refine repr_rep (Q := fun x H1 => tCB (rRepr X.K) (tCons (tE g W q m2) tNil) σ H1 fun y H2 => KK x y H2) fit rt ed ?_
    refine seeT w1 re1 (Post.imp p2 (fun _ _ z => z) fun _ _ z => z.later a1) fun y H2 F2 fp2 u f2 E2 a2 w2 re2 ru ex2 p3 => ?_
    obtain ⟨gs, p4⟩ := p3.bind.guard
    have ed2 : reprD u = some d := by
      unfold reprD at ed ⊢
      rw [← same_data 60 t u gs]
      exact ed
    exact repr_rep (Q := fun y H2 => KK (.str d.shown) y H2) fit ru ed2 (hK _ _ (p4.pure H2 F2 fp2 (a1.trans a2) w2 re2 fun z => nomatch z))
  rcases hop with rfl | rfl
  · refine PT.imp (pt_cmpR op_eq pa pb rfl) fun σ H Qt h => red (c := true) (KK := fun x y H2 => rEq x y H2 fun z H3 => ∃ k, z = .bl k ∧ Qt k H3) (fun dd H2 hq => ⟨rfl, true, by simp, hq⟩) h
  · refine PT.imp (pt_cmpR op_ne pa pb rfl) fun σ H Qt h => red (c := false) (KK := fun x y H2 => rNe x y H2 fun z H3 => ∃ k, z = .bl k ∧ Qt k H3) (fun dd H2 hq => ⟨rfl, false, by simp, hq⟩) h
theorem bind_asc {α β γ : Type} (m : M α) (f : α → M β) (h : β → M γ) : M.bind (M.bind m f) h = M.bind m fun a => M.bind (f a) h := by
  funext E
  unfold M.bind
  cases m E <;> rfl
theorem repr_asc {op : CmpOp} {m1 m2 : M R} : cBool (tRepr op m1 m2) = M.bind m1 fun r => M.bind (viewR r) fun t => M.bind (ofO (reprD t)) fun _ => M.bind m2 fun s => M.bind (viewR s) fun u => M.bind (guardM (same t u)) fun _ =>
    M.bind (match op with | .Eq => M.pure true | .NotEq => M.pure false | _ => badM) fun b => M.pure (.val (.bl b)) := by
  unfold cBool tRepr
  simp only [bind_asc] <;> (cases op <;> rfl)
theorem je_repr (fit : Fits g X) (hgd : X.A.guards = some []) (hop : op = .Eq ∨ op = .NotEq) (hg : Gl X "repr") (hm : X.mg "repr" = none) (ha : JE X g W b e1 m1) (hb : JE X g W q e2 m2) (h1 : isStar e1 = false) (h2 : isStar e2 = false) :
    JE X g W false (.Compare (.Call (.Name "repr" p1) [e1] [] q1) [op] [.Call (.Name "repr" p2) [e2] [] q2] pos) (cBool (tRepr op m1 m2)) := by
  have hv : bootBuiltins "repr" = some (.builtin "repr") := by decide +kernel
  have pa : PE X (.Call (.Name "repr" p1) [e1] [] q1) (tCB (rRepr X.K) (tCons (tE g W b m1) tNil)) := pe_callB (call_repr hgd fit.hu) hg hm hv (pa_cons ha pa_nil (star_each h1)) (by decide) (by decide) (star_each h1) rfl
  have pb : PE X (.Call (.Name "repr" p2) [e2] [] q2) (tCB (rRepr X.K) (tCons (tE g W q m2) tNil)) := pe_callB (call_repr hgd fit.hu) hg hm hv (pa_cons hb pa_nil (star_each h2)) (by decide) (by decide) (star_each h2) rfl
  have red : ∀ {σ : St} {H : Hp} {Qt : VK} {c : Bool} {KK : V → V → Hp → Prop}, (∀ dd H2, Qt (.bl c) H2 → KK (.str dd) (.str dd) H2) → tE g W false (M.bind m1 fun r => M.bind (viewR r) fun t => M.bind (ofO (reprD t)) fun _ => M.bind m2 fun s => M.bind (viewR s) fun u => M.bind (guardM (same t u)) fun _ => M.pure (.val (.bl c))) σ H Qt →
      tCB (rRepr X.K) (tCons (tE g W b m1) tNil) σ H fun x H1 => tCB (rRepr X.K) (tCons (tE g W q m2) tNil) σ H1 fun y H2 => KK x y H2 := fun {σ H Qt c KK} hK h => by
    obtain ⟨F, E, fp, w, re, p⟩ := h
    refine seeT w re p fun x H1 F1 fp1 t f E1 a1 w1 re1 rt ex p1 => ?_
    obtain ⟨d, ed, p2⟩ := p1.bind.ofO
    refine repr_rep (Q := fun x H1 => tCB (rRepr X.K) (tCons (tE g W q m2) tNil) σ H1 fun y H2 => KK x y H2) fit rt ed ?_
    refine seeT w1 re1 (Post.imp p2 (fun _ _ z => z) fun _ _ z => z.later a1) fun y H2 F2 fp2 u f2 E2 a2 w2 re2 ru ex2 p3 => ?_
    obtain ⟨gs, p4⟩ := p3.bind.guard
    have ed2 : reprD u = some d := by
      unfold reprD at ed ⊢
      rw [← same_data 60 t u gs]
      exact ed
    exact repr_rep (Q := fun y H2 => KK (.str d.shown) y H2) fit ru ed2 (hK _ _ (p4.pure (.bl c) H2 F2 [] fp2 (a1.trans a2) w2 re2 ⟨rfl, rfl⟩ fun z => nomatch z))
  rcases hop with rfl | rfl
  · refine PE.imp (pe_cmpR op_eq pa pb rfl) fun σ H Qt h => red (c := true) (KK := fun x y H2 => rEq x y H2 Qt) (fun dd H2 hq => ⟨rfl, by simpa using hq⟩) (by rw [repr_asc] at h; exact h)
  · refine PE.imp (pe_cmpR op_ne pa pb rfl) fun σ H Qt h => red (c := false) (KK := fun x y H2 => rNe x y H2 Qt) (fun dd H2 hq => ⟨rfl, by simpa using hq⟩) (by rw [repr_asc] at h; exact h)
end
end PV

/-! X10: enumerate -/
namespace PV
open PySem L2
def enumT : Nat → List T → List T
  | _, [] => []
  | i, t :: ts => .tup [.int (i : Nat), t] :: enumT (i + 1) ts
theorem enumT_len : ∀ (ts : List T) (i : Nat), (enumT i ts).length = ts.length
  | [], _ => rfl
  | t :: ts, i => by rw [enumT, List.length_cons, List.length_cons, enumT_len ts (i + 1)]
theorem enumT_get : ∀ (ts : List T) (i j : Nat) {z : T}, (enumT i ts)[j]? = some z → ∃ t, ts[j]? = some t ∧ z = .tup [.int ((i + j : Nat)), t]
  | [], _, _, z, h => by simp [enumT] at h
  | t :: ts, i, 0, z, h => by
    simp [enumT] at h
    exact ⟨t, rfl, by simp [h]⟩
  | t :: ts, i, j + 1, z, h => by
    rw [enumT, List.getElem?_cons_succ] at h
    obtain ⟨u, e, rfl⟩ := enumT_get ts (i + 1) j h
    exact ⟨u, e, by rw [show i + 1 + j = i + (j + 1) by omega]⟩
/-- enumerate(xs), xs a list -/
def iEn (m : M R) : M (List T) := M.bind m fun r => match r with
  | .val (.lst _ xs) => M.bind (guardM (T.pureL xs && decide (xs.length ≤ lim))) fun _ => M.pure (enumT 0 xs)
  | _ => badM
section
variable {X : Cx} {ea tg : Expr} {g : GX} {W : WX} {F : Addr → Prop} {H : Hp} {b : Bool} {ma : M R} {pos p tpos : Pos} {elts : List Expr} {kk : Nat}
theorem walk_enum {a : Addr} {ts : List T} {vs : List V} (l : LstF g.toG.K F H a vs) (r : RepL g.toG F H ts vs []) : WalkS g.toG (Ite g.toG.K a) (enumT 0 ts) F H := by
  have sq : ∀ F' H', Stay F F' H H' ([] : List Addr) → SqL g.toG.K H' a vs := fun F' H' s => (lstF_stay s l).sq
  refine ⟨fun F' H' i s hi => ⟨vs, vs[i]'(by rw [← r.length, ← enumT_len ts 0]; exact hi), sq F' H' s, by simp⟩, fun F' H' i x H2 t s e y => ?_, fun F' H' i s hi => ⟨vs, sq F' H' s, by rw [← r.length, ← enumT_len ts 0]; exact hi⟩⟩
  obtain ⟨Tp, v, rfl, hT, rfl, y⟩ := y
  obtain ⟨u, eu, rfl⟩ := enumT_get ts 0 i e
  have ex : Ext H' (upd H' Tp (.tup [.int (i : Nat), v])) := ext_new hT
  refine ⟨ex, Tp, [.int (i : Nat), v], rfl, .inl (.inl upd_same), .int (i : Nat), [v], [], [], rfl, rfl, ?_, v, [], [], [], rfl, rfl, ?_, rfl, rfl⟩
  · rw [Nat.zero_add]
    exact ⟨rfl, rfl⟩
  · exact Rep.stay u ((RepL.stay ts r s).nth0 eu (y vs (sq F' H' s))) (stay_ext ex)
theorem jit_enum (fit : Fits g X) (hg : Gl X "enumerate") (hm : X.mg "enumerate" = none) (ha : JE X g W b ea ma) (h1 : isStar ea = false) : JIt X g W (.Tuple elts kk tpos) (.Call (.Name "enumerate" p) [ea] [] pos) (iEn ma) :=
  PI.imp (pi_enum hg hm (pa_cons ha pa_nil (star_each h1)) (by rw [star_each h1]; rfl)) fun σ H R h => by
    obtain ⟨F, E, fp, w, re, p⟩ := h
    refine see w re p fun x H1 F1 fr fp1 r E1 a1 w1 re1 rr ex p1 => ?_
    cases r with
    | plc i q => exact p1.elim
    | val t =>
      cases t with
      | lst o xs =>
        obtain ⟨hp2, p2⟩ := p1.bind.guard
        obtain ⟨hp, hlm⟩ := Bool.and_eq_true_iff.mp hp2
        have rr' : Rep g.toG F1 H1 (.lst o xs) x fr := rr
        obtain ⟨w2, a2⟩ := shared w1 rr.own
        obtain ⟨a, vs, rfl, l, r1⟩ : ∃ a vs, x = .ref a ∧ LstF g.toG.K (fun a => F1 a ∨ a ∈ fr) H1 a vs ∧ RepL g.toG (fun a => F1 a ∨ a ∈ fr) H1 xs vs [] := by
          obtain ⟨a, vs, fs, e1, r0, hh⟩ := rr'
          have hfs : fs = [] := RepL.pure xs r0 hp
          subst hfs
          rcases hh with ⟨_, q, e2⟩ | ⟨_, q, _, e2⟩
          · subst e2
            exact ⟨a, vs, e1, .inl ⟨.inr List.mem_cons_self, q⟩, RepL.stay xs r0 stay_shared⟩
          · exact ⟨a, vs, e1, lstF_stay (fp := []) stay_shared q, RepL.stay xs r0 stay_shared⟩
        refine ⟨a, vs, rfl, fit.K ▸ l.sq, p2.pure (Ite X.K a) H1 _ fp1 (a1.trans a2) w2 (re1.stay stay_shared) (fit.K ▸ walk_enum l r1) ?_⟩
        rw [enumT_len]
        exact le_line (of_decide_eq_true hlm)
      | _ => exact p1.elim
end
end PV

/-! X11: an exception of a class over ValueError without __init__ -/
namespace PV
open PySem L2
def tMkB (C : Addr) (t : TA) : St → Hp → XK → Prop := fun σ H Q => t σ H fun vs H1 => vs.length ≤ 1000 ∧ Q (.ref C) none H1
abbrev veTail : List Value := [.type "ValueError", .type "Exception", .type "BaseException", .type "object"]
structure MkB (K : PySem.W.Frag) (C : Addr) : Prop where
  ex : PySem.W.excIn K C veTail "ValueError.__new__" = true
  kC : PySem.W.keepIn K (.ref C) = true
  exC : PySem.W.subIn K (.ref C) (.type "BaseException") = some true
  tyC : PySem.W.typeIn K (.ref C) = some (.type "type")
section
variable {X : Cx} {C : Addr} {x : Str} {p pos : Pos} {e : Expr} {es : List Expr} {t : TA} {pins : List (Addr × Obj)} {σ : St} {H : Hp} {s : Shared} {Q : XK} {us : List Value} {vs : List V}
theorem run_mkB (M : MkB X.K C) (I : Inv X pins σ H s) (r : Vals vs us) (hl : vs.length ≤ 1000) (q : Q (.ref C) none H) : wpAny (model X.prog X.w) X.A (call (.ref C) us) (MkP X pins σ Q) X.xe s := by
  obtain ⟨bm, N, nm, qn, bs, hdct, sn, sub, ab, col, dd, k0, k1, k2, k3, k5, mN, hC, hN, hni, Tl⟩ := exc_obj I.kIn M.ex
  have hu : us.length ≤ sizeLine := by rw [← r.length, sizeLine_eq]; omega
  exact wpAny_call_exc_subT PySem.F.excBase_ValueError Tl hC hN hni (fun h' e hm => mk_of I hm (raises_own M.exC M.tyC) q (I.hok.gone hm.new)) hu
theorem pmk_b (M : MkB X.K C) (hg : Gl X x) (hm : X.mg x = some (.ref C)) (ha : PA X (e :: es) t) (hdb : (x == ("__debug__" : Str)) = false) (he : starEach (e :: es) X.env = (false, eval e X.env) :: starEach es X.env) (hpl : (backTo pos (starEach es X.env)).any (·.1) = false) :
    PMk X (.Call (.Name x p) (e :: es) [] pos) (tMkB C t) :=
  fun pins s σ H Q I h => wpAny_Call_Name_kw (ld_glob I hg hm (PySem.W.callWith_K (h₀ := X.base) I.ok.mod.kin M.kC (thn (ha.run pos pins s σ H _ I h) fun us s1 ⟨vs, H1, I1, r, l, q⟩ => ⟨I1.kIn, run_mkB M I1 r l q⟩) he hpl) hdb)
theorem pmk_b0 (M : MkB X.K C) (hg : Gl X x) (hm : X.mg x = some (.ref C)) (hdb : (x == ("__debug__" : Str)) = false) : PMk X (.Call (.Name x p) [] [] pos) (tMkB C tNil) :=
  fun pins s σ H Q I h => wpAny_Call_Name_kw (ld_glob I hg hm (PySem.W.callWith_K0 (first := []) I.kIn M.kC (run_mkB (us := []) (vs := []) M I .nil h.1 h.2)) hdb)
variable {g : GX} {W : WX} {b : Bool} {l : M (List R)} {Cn : Str}
/-- C(e, ..) -/
def cErrB (C : Str) (es : M (List R)) : M T := M.bind es fun rs => M.bind (guardM (decide (rs.length ≤ 1000))) fun _ => M.pure (.err C [] [])
theorem errb_red (hC : g.toG.ecl Cn = some C) {Q : XK} (h : tK g W (cErrB Cn l) σ H Q) : tMkB C (tAR g W b l) σ H Q := by
  obtain ⟨F, E, fp, w, re, p⟩ := h
  refine ⟨F, E, fp, w, re, Post.imp (Post.bind p) (fun rs E1 p1 => ?_) fun _ _ h => h⟩
  intro vs H1 F1 fr fp1 a1 w1 re1 rr ex
  obtain ⟨gd, p2⟩ := p1.bind.guard
  refine ⟨by rw [← rr.length]; exact of_decide_eq_true gd, p2.pure (.ref C) none H1 F1 fp1 (a1.sub fun a ha => List.mem_append_right _ ha) w1.right re1 ⟨C, [], hC, rfl, ⟨rfl, rfl⟩, rfl, List.nodup_nil, rfl⟩⟩
end
theorem att_base2 {o : Expr} {f : Str} {env : PySem.Env} {w : Sem Value} (h : ∀ a c d, o ≠ .Call a [] c d) : attributeBase o f env w = w := by
  unfold attributeBase
  cases o <;> first | rfl | skip
  rename_i a b c d
  cases b with
  | nil => exact absurd rfl (h a c d)
  | cons x xs => cases a <;> rfl
end PV

/-! E1: the evaluator of syntax -/
namespace PV
open PySem L2

def quietNames : List Str := ["len", "int", "tuple", "list", "abs", "str", "isinstance"]
/-- changes nothing that stands -/
def quiet : Nat → Expr → Bool
  | 0, _ => false
  | n + 1, e => match e with
    | .Constant .. => true
    | .Name .. => true
    | .Attribute e _ _ => quiet n e
    | .Subscript a b _ => quiet n a && quiet n b
    | .BinOp a _ b _ => quiet n a && quiet n b
    | .UnaryOp _ a _ => quiet n a
    | .Compare a _ bs _ => quiet n a && bs.all (quiet n) && decide (bs.length ≤ 1)
    | .BoolOp _ es _ => es.all (quiet n)
    | .IfExp a b c _ => quiet n a && quiet n b && quiet n c
    | .Call f es ks _ => (match f with | .Name f _ => decide (f ∈ quietNames) | _ => false) && ks.isEmpty && es.all (quiet n)
    | .List es _ => es.all (quiet n)
    | .Tuple es _ _ => es.all (quiet n)
    | _ => false
abbrev qt (e : Expr) : Bool := quiet 20 e
abbrev qts (es : List Expr) : Bool := es.all (quiet 20)
theorem quiet_up : ∀ (n : Nat) (e : Expr), quiet n e = true → quiet (n + 1) e = true
  | 0, e, h => by cases h
  | n + 1, e, h => by
    have all : ∀ es : List Expr, es.all (quiet n) = true → es.all (quiet (n + 1)) = true := fun es h => List.all_eq_true.mpr fun x hx => quiet_up n x (List.all_eq_true.mp h x hx)
    cases e <;> simp only [quiet, Bool.and_eq_true] at h ⊢
    all_goals first
      | exact h
      | exact quiet_up n _ h
      | exact all _ h
      | exact ⟨quiet_up n _ h.1, quiet_up n _ h.2⟩
      | exact ⟨⟨quiet_up n _ h.1.1, quiet_up n _ h.1.2⟩, quiet_up n _ h.2⟩
      | exact ⟨⟨quiet_up n _ h.1.1, all _ h.1.2⟩, h.2⟩
      | exact ⟨h.1, all _ h.2⟩
      | cases h

/-! ### names -/
/-- the block's own names -/
def ownPairs (N : List Str) (sc : Scope) : List (Str × Nat) := (sc.names.filter fun y => y.2 == .local || y.2 == .cell).filterMap fun y => (N.idxOf? y.1).map fun i => (y.1, i)
def ownOf (N : List Str) (sc : Scope) : List Nat := (ownPairs N sc).map (·.2)
def blkNames (sc : Scope) (names : List (Str × NameKind)) : List (Str × NameKind) :=
  sc.names.map fun (n, k) => if (k == .free && names.lookup n == some .cell) then (n, .cell) else (n, k)
def blkC' (N : List Str) (names : List (Str × NameKind)) (scope : Scope) : Bool :=
  (scope.kind == .function) && (scope.names.all fun y => decide (scope.names.lookup y.1 = some y.2)) &&
    (scope.names.all fun y => match y.2 with
      | .free => (match names.lookup y.1 with | some .cell => true | some .free => true | _ => false)
      | _ => true)
def cellsOf (sc : List (Str × NameKind)) : List Str := (sc.filter fun y => sc.lookup y.1 == some .cell).map (·.1)
def Ctx.inBlk (c : Ctx) (sc : Scope) : Ctx := { c with xs := false, names := blkNames sc c.names, mu := [], dp := [], np := 0, cells := cellsOf sc.names }
def visK : Option NameKind → Bool | some .local => true | some .cell => true | some .free => true | _ => false
def slotOf (c : Ctx) (x : Str) : Option Nat := if visK (c.names.lookup x) then c.N.idxOf? x else none
def isGlob (c : Ctx) (x : Str) : Bool := c.names.lookup x == some .globalImplicit
def bltNames : List Str := ["len", "int", "bool", "abs", "str", "all", "any", "tuple", "list", "max", "min", "sum", "repr", "isinstance", "range", "zip", "enumerate", "set", "super", "sorted", "dict"]
def isBlt (c : Ctx) (x : Str) : Bool := isGlob c x && (c.gi.glob x).isNone && decide (x ∈ bltNames)
/-- the slots of a target's names -/
def tgSlots (c : Ctx) : Expr → List Nat
  | .Name x _ => (slotOf c x).toList
  | .Tuple es _ _ => es.flatMap fun e => match e with | .Name x _ => (slotOf c x).toList | _ => []
  | _ => []
def eiC (c : Ctx) : T → T → Option Bool := fun _ _ => none

/-! ### expressions -/
structure Rec where
  e : Ctx → Expr → M R
  t : Ctx → Expr → M Bool
def nameE (c : Ctx) (x : Str) : M R := if x = "__debug__" ∨ x = "__classdict__" then badM else match slotOf c x with
  | some i => cVar i
  | none => if isGlob c x then (match c.gi.glob x with
    | some (.const t) => cVal t
    | _ => badM) else badM
def andE (f : Expr → M R) : List Expr → M R
  | [] => badM
  | [e] => f e
  | e :: e' :: es => cAnd (f e) (andE f (e' :: es))
def orE (f : Expr → M R) : List Expr → M R
  | [] => badM
  | [e] => f e
  | e :: e' :: es => cOr (f e) (orE f (e' :: es))
def andT (f : Expr → M Bool) : List Expr → M Bool
  | [] => badM
  | [e] => f e
  | e :: e' :: es => tAnd (f e) (andT f (e' :: es))
def orT (f : Expr → M Bool) : List Expr → M Bool
  | [] => badM
  | [e] => f e
  | e :: e' :: es => tOr (f e) (orT f (e' :: es))
/-- arguments -/
def argsE (f : Expr → M R) : List Expr → M (List R)
  | [] => lNil
  | e :: es => if isStar e then badM else lArg (qts es) (f e) (argsE f es)
/-- keywords -/
def kwNs : List Keyword → Option (List Str)
  | [] => some []
  | ⟨some n, _, _⟩ :: ks => (kwNs ks).map (n :: ·)
  | ⟨none, _, _⟩ :: _ => none
def kwsE (f : Expr → M R) : List Keyword → M (List R)
  | [] => lNil
  | ⟨_, e, _⟩ :: ks => lArg (ks.all fun k => qt k.value) (f e) (kwsE f ks)
def qtK (ks : List Keyword) : Bool := ks.all fun k => qt k.value
/-- items of a display -/
def itemsE (f : Expr → M R) : List Expr → M (List T)
  | [] => lNil
  | .Starred e _ :: es => lStar (f e) (itemsE f es)
  | e :: es => lItem (qts es) (f e) (itemsE f es)
/-- repr(e) -/
def reprArg (c : Ctx) : Expr → Option Expr
  | .Call (.Name f _) [e] [] _ => if f = "repr" ∧ isBlt c "repr" = true ∧ isStar e = false then some e else none
  | _ => none
def isEqNe (op : CmpOp) : Bool := match op with | .Eq => true | .NotEq => true | _ => false
def cmpE (r : Rec) (c : Ctx) (a : Expr) (op : CmpOp) (b : Expr) : M Bool := if isSet b then badM else (match reprArg c a, reprArg c b with
  | some e, some e' => if isEqNe op then tRepr op (r.e c e) (r.e c e') else badM
  | _, _ => tCmp (eiC c) op (qt b) (r.e c a) (r.e c b))
def optE (f : Expr → M R) : Option Expr → M (Option Int)
  | none => oNone
  | some e => oSome (f e)
def subE (r : Rec) (c : Ctx) (o i : Expr) : M R := match i with
  | .Slice lo hi st _ => (match st with
    | none => cSlice (r.e c o) (optE (r.e c) lo) (optE (r.e c) hi) oNone
    | some (.UnaryOp .USub (.Constant (.int 1) _ _) _) => (match lo, hi with | none, none => cRevL (r.e c o) | _, _ => badM)
    | _ => badM)
  | .Tuple .. => badM
  | i => cSub (qt i) (r.e c o) (r.e c i)
def attrE (r : Rec) (c : Ctx) (o : Expr) (f : Str) : M R := match o with
  | .Call _ [] _ _ => badM
  | o => if f ∈ c.gi.flds then cAttr (r.e c o) f else badM
/-- isinstance's class names -/
def tyBase : List Str := ["bool", "int", "str", "tuple", "list", "dict", "ValueError"]
def tyName : Expr → Option Str | .Name x _ => some x | _ => none
def tyOk (c : Ctx) (x : Str) : Bool := isGlob c x && (decide (x ≠ "__debug__") && (match c.gi.glob x with | some (.cls _) => true | some _ => false | none => decide (x ∈ tyBase)))
def tyNames (c : Ctx) : List Expr → Option (List Str)
  | [] => some []
  | e :: es => match tyName e, tyNames c es with
    | some x, some xs => if tyOk c x then some (x :: xs) else none
    | _, _ => none
def blt1 (f : Str) : Option (T → Option T) :=
  if f = "len" then some bLen else if f = "int" then some bInt else if f = "bool" then some bBool else if f = "abs" then some bAbs else if f = "str" then some bStr else if f = "all" then some bAll
  else if f = "any" then some bAny else if f = "tuple" then some bTuple else if f = "list" then some bList else none
def blt2 (f : Str) : Option (T → T → Option T) := if f = "max" then some bMax2 else if f = "min" then some bMin2 else none
def bltE (r : Rec) (c : Ctx) (f : Str) (es : List Expr) : M R := match es with
  | [a] => if isStar a then badM else (match blt1 f with | some h => cB1 h (r.e c a) | none => badM)
  | [a, b] => if isStar a || isStar b then badM else if f = "isinstance" then (match b with
      | .Name x _ => if tyOk c x then cIsA c.gi (r.e c a) [x] else badM
      | .Tuple ts _ _ => (match tyNames c ts with
        | some (x :: xs) => if ts.length ≤ 1000 then cIsA c.gi (r.e c a) (x :: xs) else badM
        | _ => badM)
      | _ => badM)
    else (match blt2 f with | some h => cB2 h (qt b) (r.e c a) (r.e c b) | none => badM)
  | _ => badM
/-- C(e, .., k = e, ..) of an exception's class -/
def errE (r : Rec) (c : Ctx) (C : Str) (es : List Expr) (kws : List Keyword) : M T := if c.gi.inb C = true then (if kws.isEmpty then cErrB C (argsE (r.e c) es) else badM) else (match c.gi.ini C, kwNs kws with
  | some fs, some ks => (match c.gi.ksig C es.length ks with
    | some pl => cErr C fs es.length ks.length (qtK kws) pl (argsE (r.e c) es) (kwsE (r.e c) kws)
    | none => badM)
  | _, _ => badM)
def callFE (r : Rec) (c : Ctx) (q : Str) (d : FnI) (es : List Expr) (kws : List Keyword) : M R := match kws with
  | [] => (match dflOf d 0 es.length with | some ts => cCall0 c.xs c.call q (mutFlags d) ts (argsE (r.e c) es) | none => badM)
  | k :: ks => (match kwNs (k :: ks) with
    | some ns => (match c.gi.ksig q es.length ns with
      | some pl => cCallK c.xs c.call q (mutFlags d) es.length ns.length (qtK (k :: ks)) pl (argsE (r.e c) es) (kwsE (r.e c) (k :: ks))
      | none => badM)
    | none => badM)
def callCE (r : Rec) (c : Ctx) (C q : Str) (d : FnI) (es : List Expr) (kws : List Keyword) : M R := match kws with
  | [] => (match dflOf d 1 es.length with | some ts => toV (cMake0 c.xs c.call C false q ((mutFlags d).drop 1) ts (argsE (r.e c) es)) | none => badM)
  | k :: ks => (match kwNs (k :: ks) with
    | some ns => (match c.gi.ksig q es.length ns with
      | some pl => cMakeK c.xs c.call C q ((mutFlags d).drop 1) es.length ns.length (qtK (k :: ks)) pl (argsE (r.e c) es) (kwsE (r.e c) (k :: ks))
      | none => badM)
    | none => badM)
def callE (r : Rec) (c : Ctx) (f : Str) (es : List Expr) (kws : List Keyword) : M R := if isGlob c f && decide (f ≠ "__debug__") && !(es.any isStar) then (match c.gi.glob f with
    | some (.fn q) => if f ∈ quietNames then badM else (match c.gi.fn q with
      | some d => callFE r c q d es kws
      | none => badM)
    | some (.cls C) => if f ∈ quietNames then badM else if c.gi.isExc C = true then toV (errE r c C es kws) else (match c.gi.meth C "__init__" with
      | some q => (match c.gi.fn q with
        | some d => callCE r c C q d es kws
        | none => badM)
      | none => badM)
    | some (.const _) => badM
    | none => if kws.isEmpty && isBlt c f then bltE r c f es else badM) else badM
def methE (r : Rec) (c : Ctx) (o : Expr) (m : Str) (es : List Expr) (kws : List Keyword) (ap pos : Pos) : M R := match o with
  | .Call .. => badM
  | o => if kws.isEmpty && (m == "append") && (ap.endLine == pos.line) then (match es with | [a] => if isStar a then badM else cAppend (qt a) (r.e c o) (r.e c a) | _ => badM) else badM
/-- what is walked -/
def isTup : Expr → Bool | .Tuple .. => true | _ => false
def itE (r : Rec) (c : Ctx) (tg e : Expr) : M (List T) := match e with
  | .Call (.Name f _) [a] [] _ => if f = "range" then (if isBlt c f && !(isStar a) then iRng1 (r.e c a) else badM) else if f = "enumerate" then (if isBlt c f && !(isStar a) && isTup tg then iEn (r.e c a) else badM) else iOf (r.e c e)
  | .Call (.Name f _) [a, b] [] _ => if f = "range" then (if isBlt c f && !(isStar a) && !(isStar b) then iRng (r.e c a) (r.e c b) else badM) else iOf (r.e c e)
  | .Set .. => badM
  | e => iOf (r.e c e)
/-- a name that may be stored: its slot, how -/
def slotMd (c : Ctx) (x : Str) : Option (Nat × Md) := match slotOf c x with
  | some i => if (i < c.np ∧ i ∈ c.mu) ∨ ¬ (c.names.lookup x = some .local ∨ (c.names.lookup x = some .cell ∧ x ∈ c.cells)) then none else some (i, if i ∈ c.dp then .dp else if i ∈ c.mu then .own else .sh)
  | none => none
/-- a target is given a value -/
def asg1 (r : Rec) (c : Ctx) (tg : Expr) : T → M Unit := match tg with
  | .Name x _ => (match slotMd c x with
    | some q => gSlot q.2 q.1
    | none => fun _ => badM)
  | .Attribute o f _ => if f ∈ c.gi.flds then gAttr (r.e c o) f else fun _ => badM
  | .Subscript o k _ => if isSl k then fun _ => badM else PV.gSub (qt k) (r.e c o) (r.e c k)
  | _ => fun _ => badM
def asgs (r : Rec) (c : Ctx) : List Expr → List T → M Unit
  | [] => PV.gNil
  | e :: es => if isStar e then fun _ => badM else PV.gCons (asg1 r c e) (asgs r c es)
def asgE (r : Rec) (c : Ctx) (tg : Expr) : T → M Unit := match tg with
  | .Tuple es _ _ => if es.any isStar then fun _ => badM else PV.gTup es.length (asgs r c es)
  | tg => asg1 r c tg
def ifsE (r : Rec) (c : Ctx) : List Expr → M Bool
  | [] => M.pure true
  | [e] => r.t c e
  | _ => badM
/-- [elt for tg in it if ..] -/
def compE (r : Rec) (c : Ctx) (elt : Expr) (gs : List Comprehension) (sc : Scope) : M R := if blkC' c.N c.names sc then (match gs with
    | [⟨tg, it, ifs, 0⟩] => if isSet it || !((tgSlots (c.inBlk sc) tg).all fun i => (ownOf c.N sc).contains i) then badM else
      let k := fun xs => compL (ownOf c.N sc) (turnM (asgE r (c.inBlk sc) tg) (ifsE r (c.inBlk sc) ifs) (one (takeM (r.e (c.inBlk sc) elt)))) xs []
      (match it with
        | .Name x _ => (match slotOf c x with
          | some i => if x = "__debug__" ∨ x = "__classdict__" then badM else blkN (ownOf c.N sc) i (iOf (cVar i)) k (mkList false)
          | none => blk (ownOf c.N sc) (itE r c tg it) k (mkList false))
        | it => blk (ownOf c.N sc) (itE r c tg it) k (mkList false))
    | [⟨tg, it, ifs, 0⟩, ⟨tg1, it1, ifs1, 0⟩] => if isSet it || isSet it1 || !((tgSlots (c.inBlk sc) tg).all fun i => (ownOf c.N sc).contains i) || !((tgSlots (c.inBlk sc) tg1).all fun i => (ownOf c.N sc).contains i) then badM else
      blk (ownOf c.N sc) (itE r c tg it) (fun xs => compL (ownOf c.N sc) (turnM (asgE r (c.inBlk sc) tg) (ifsE r (c.inBlk sc) ifs)
        (clause (tgSlots (c.inBlk sc) tg1) (itE r (c.inBlk sc) tg1 it1) (asgE r (c.inBlk sc) tg1) (ifsE r (c.inBlk sc) ifs1) (one (takeM (r.e (c.inBlk sc) elt))))) xs []) (mkList true)
    | _ => badM) else badM
def stepE (r : Rec) (c : Ctx) : Expr → M R
  | .Constant v _ _ => (match v with
    | .none => cVal .non
    | .bool b => cVal (.bl b)
    | .int i => cVal (.int i)
    | .str x => cVal (.str x)
    | _ => badM)
  | .Name x _ => nameE c x
  | .BoolOp op es _ => (match op with | .And => andE (r.e c) es | .Or => orE (r.e c) es)
  | .UnaryOp op a _ => (match op with | .Not => cBool (tNot (tTruth (r.e c a))) | .USub => cNeg (r.e c a) | _ => badM)
  | .BinOp a op b _ => cBin op (qt b) (r.e c a) (r.e c b)
  | .IfExp t a b _ => cIf (r.t c t) (r.e c a) (r.e c b)
  | .Compare a ops bs _ => (match ops, bs with
    | [op], [b] => cBool (cmpE r c a op b)
    | [op, op'], [b, d] => if isSet d then badM else cChain (eiC c) op op' (r.e c a) (r.e c b) (r.e c d)
    | _, _ => badM)
  | .Call f es kws pos => (match f with
    | .Name f _ => callE r c f es kws
    | .Attribute o m ap => methE r c o m es kws ap pos
    | _ => badM)
  | .Attribute o f _ => attrE r c o f
  | .Subscript o i _ => subE r c o i
  | .List es _ => cList (itemsE (r.e c) es)
  | .Tuple es _ _ => cTup (itemsE (r.e c) es)
  | .ListComp elt gs sc _ => compE r c elt gs sc
  | _ => badM
def stepT (r : Rec) (c : Ctx) : Expr → M Bool
  | .UnaryOp op a _ => (match op with | .Not => tNot (r.t c a) | _ => badM)
  | .BoolOp op es _ => (match op with | .And => andT (r.t c) es | .Or => orT (r.t c) es)
  | .IfExp .. => badM
  | .Compare a ops bs _ => (match ops, bs with
    | [op], [b] => cmpE r c a op b
    | _, _ => badM)
  | .NamedExpr .. => badM
  | e => tTruth (r.e c e)
def badRec : Rec := ⟨fun _ _ => badM, fun _ _ => badM⟩
def step (r : Rec) : Rec := ⟨stepE r, stepT r⟩
def recN : Nat → Rec
  | 0 => badRec
  | n + 1 => step (recN n)

/-! ### statements -/
/-- which names a parallel assignment stores one by one -/
def swapOf (c : Ctx) (ts vs : List Expr) : Option (Option (List Str)) :=
  if !(ts.length == 2 || ts.length == 3) || vs.length != ts.length then some none
  else if vs.any isStar then some none
  else
    let line := (ts.head?.map (·.pos.line)).getD 0
    let names := ts.filterMap fun
      | .Name id pos => if c.names.lookup id == some .local && pos.line == line then some id else none
      | _ => none
    if names.length != ts.length || names.eraseDups.length != names.length then some none
    else if vs.all (foldedForSure 8) then some none
    else if vs.all (constantsAlone 8) then none
    else some (some names)
/-- the slots that are lent to be changed -/
def pmOf (c : Ctx) : List Nat := (List.range c.np).filter fun i => decide (i ∈ c.mu)
def keeps (c : Ctx) (tg : Expr) : Bool := (pmOf c).all fun i => !(tgSlots c tg).contains i
/-- name = [..] on one line -/
def swB (c : Ctx) (x : Str) (px pe : Pos) (sc : Scope) : Bool := c.names.lookup x == some .local && px.line == pe.line && !(sc.names.any fun (n, k) => n == x && (k == .local || k == .cell))
def parS (r : Rec) (c : Ctx) (ts vs : List Expr) : M Fl := match swapOf c ts vs with
  | none => badM
  | some none => if ts.any isStar || !(decide (ts.length ≤ lim)) then badM else sPar ts.length (itemsE (r.e c) vs) (asgs r c ts)
  | some (some ns) => (match ts, vs with
    | [.Name n1 _, .Name n2 _], [_, _] => (match slotMd c n1, slotMd c n2 with
      | some q1, some q2 => if ns = [n1, n2] ∧ q1.1 ≠ q2.1 ∧ c.names.lookup n1 = some .local ∧ c.names.lookup n2 = some .local then sPar 2 (itemsE (r.e c) vs) (PV.gCons (gSlot q1.2 q1.1) (PV.gCons (gSlot q2.2 q2.1) PV.gNil)) else badM
      | _, _ => badM)
    | [.Name n1 _, .Name n2 _, .Name n3 _], [_, _, _] => (match slotMd c n1, slotMd c n2, slotMd c n3 with
      | some q1, some q2, some q3 => if ns = [n1, n2, n3] ∧ (q1.1 ≠ q2.1 ∧ q1.1 ≠ q3.1 ∧ q2.1 ≠ q3.1) ∧ c.names.lookup n1 = some .local ∧ c.names.lookup n2 = some .local ∧ c.names.lookup n3 = some .local then sPar 3 (itemsE (r.e c) vs) (PV.gCons (gSlot q1.2 q1.1) (PV.gCons (gSlot q2.2 q2.1) (PV.gCons (gSlot q3.2 q3.1) PV.gNil))) else badM
      | _, _, _ => badM)
    | _, _ => badM)
def asgS (r : Rec) (c : Ctx) (tg e : Expr) : M Fl := if keeps c tg then (match tg with
    | .Tuple ts _ _ => (match e with
      | .Tuple vs _ _ => parS r c ts vs
      | e => if isComp e then badM else sAsg (r.e c e) (asgE r c tg))
    | .Name x px => (match slotMd c x with
      | some q => (match e with
        | .ListComp elt cs sc pe => if swB c x px pe sc then sAsg (compE r c elt cs sc) (gSlot q.2 q.1) else sAsg (r.e c e) (gSlot q.2 q.1)
        | e => if isComp e then badM else sAsg (r.e c e) (gSlot q.2 q.1))
      | none => badM)
    | .Attribute o f _ => if f ∈ c.gi.flds then sAsg (r.e c e) (gAttr (r.e c o) f) else badM
    | .Subscript o k _ => if isSl k then badM else sAsg (r.e c e) (PV.gSub (qt k) (r.e c o) (r.e c k))
    | _ => badM) else badM
/-- the suite of an except clause: one name, assigned to another -/
def suS (c : Ctx) : List Stmt → M Fl
  | [.Assign [.Name m _] (.Name n _) _] => (match slotMd c m, slotOf c n with
    | some q, some i => if n = "__debug__" ∨ n = "__classdict__" ∨ q.1 ∈ pmOf c then badM else sAsg (cVar i) (gSlot q.2 q.1)
    | _, _ => badM)
  | _ => badM
def stepS (r : Rec) (c : Ctx) (f : Stmt → M Fl) (fs : List Stmt → M Fl) : Stmt → M Fl
  | .Pass _ => sNx
  | .Break _ => M.pure .brk
  | .Continue _ => M.pure .ct
  | .Return e _ => (match e with | none => sRetN | some e => sRet (r.e c e))
  | .Expr e _ => (match e with
    | .Constant (.str _) _ _ => sNx
    | e => if isComp e then badM else sExpr (r.e c e))
  | .Assign tgs e _ => (match tgs with | [tg] => asgS r c tg e | _ => badM)
  | .If t a b _ => cIf (r.t c t) (fs a) (fs b)
  | .For tg it body els _ => if els.isEmpty && !(isSet it) && keeps c tg then sFor (itE r c tg it) (asgE r c tg) (fs body) else badM
  | .While t body els _ => if els.isEmpty then sWhile (r.t c t) (fs body) else badM
  | .Raise (some (.Call (.Name x _) es kws _)) none _ => if isGlob c x && decide (x ≠ "__debug__") && !(es.any isStar) then (match c.gi.glob x with
    | some (.cls C) => if c.gi.isExc C = true then sRaise (errE r c C es kws) else badM
    | _ => badM) else badM
  | .Try body [.ExceptHandler (some (.Name x _)) (some n) (s0 :: su) _] [] [] _ => if isGlob c x && decide (x ≠ "__debug__") then (match c.gi.glob x, c.N.idxOf? n with
    | some (.cls D), some i => if c.gi.isExc D = true ∧ c.names.lookup n = some .local ∧ i ∉ pmOf c then sTry (fun C => c.gi.sub C D) i (fs body) (suS c (s0 :: su)) else badM
    | _, _ => badM) else badM
  | _ => badM
def seqS (f : Stmt → M Fl) : List Stmt → M Fl
  | [] => sNx
  | [s] => f s
  | s :: s' :: ss => sSeq (f s) (seqS f (s' :: ss))
def stmtN (r : Rec) (c : Ctx) : Nat → Stmt → M Fl
  | 0, _ => badM
  | n + 1, s => stepS r c (stmtN r c n) (seqS (stmtN r c n)) s
def bodyCtx (gi : GI) (xs : Bool) (call : Calls) (d : FnI) : Ctx := { gi := gi, xs := xs, call := call, N := d.N, mu := d.mu, dp := d.dp, np := d.params.length, names := d.names, sup := d.sup, cells := cellsOf d.names }
def bodyM (gi : GI) (xs : Bool) (call : Calls) (d : FnI) : M Fl := seqS (stmtN (recN 30) (bodyCtx gi xs call d) 10) d.body
def callFn (gi : GI) (xs : Bool) : Nat → Calls
  | 0, _, _ => .bad
  | k + 1, q, args => match gi.fn q with
    | none => .bad
    | some d => runM d (bodyM gi xs (callFn gi xs k) d) args
end PV

/-! S1: what the evaluator of syntax leans on -/
namespace PV
open PySem L2

/-- what holds of the whole program, at a level -/
structure Glb (gi : GI) (g : GX) (xs : Bool) (call : Calls) (k : Nat) (P : Program) (w : World) (K : PySem.W.Frag) (mg : Str → Option Value) (base : Heap) : Prop where
  eK : g.toG.K = K
  gerr : g.err = errW g.toG
  wd : ∀ a kvs, g.toG.wd a = some kvs → WD K w a kvs
  clsG : ∀ x C, gi.glob x = some (.cls C) → ∃ a, (g.toG.cls C = some a ∨ g.toG.ecl C = some a) ∧ mg x = some (.ref a)
  isE : ∀ C a, g.toG.ecl C = some a ↔ (g.toG.cls C = some a ∨ g.toG.ecl C = some a) ∧ gi.isExc C = true
  constG : ∀ x t, gi.glob x = some (.const t) → ∃ v u, mg x = some u ∧ RelV v u ∧ ∀ F H, Rep g.toG F H t v []
  free : ∀ x, x ∈ bltNames ++ tyBase → gi.glob x = none → mg x = none
  cls : ∀ C Ca, g.toG.cls C = some Ca → ClsX K Ca
  noat : ∀ C Ca f, g.toG.cls C = some Ca → f ∈ gi.flds → NoAttr K Ca f
  ecls : ∀ C Ca, g.toG.ecl C = some Ca → EcX K Ca
  enoat : ∀ C Ca f, g.toG.ecl C = some Ca → f ∈ gi.flds → PySem.W.findIn K (.ref Ca) f = some none
  fnG : ∀ x q d n ts, gi.glob x = some (.fn q) → gi.fn q = some d → dflOf d 0 n = some ts → ∃ f dvs, mg x = some (.ref f) ∧ PySem.W.keepIn K (.ref f) = true ∧ FnC P w K mg base CX0 k f n [] (fun vs _ => spT g xs call q (mutFlags d) (vs ++ dvs)) ∧
    n + ts.length = (mutFlags d).length ∧ ∀ F H, RepL g.toG F H ts dvs []
  fnK : ∀ x q d n ks pl, gi.glob x = some (.fn q) → gi.fn q = some d → gi.ksig q n ks = some pl → ∃ f plv, mg x = some (.ref f) ∧ PySem.W.keepIn K (.ref f) = true ∧ Paired (SrcR g) pl plv ∧
    FnC P w K mg base CX0 k f n ks (fun vs zs => spT g xs call q (mutFlags d) (fillV vs zs plv))
  mkG : ∀ C Ca q d n ts, g.toG.cls C = some Ca → gi.meth C "__init__" = some q → gi.fn q = some d → dflOf d 1 n = some ts → ∃ f dvs, Mk K Ca f ∧ mutFlags d = true :: (mutFlags d).drop 1 ∧
    FnC P w K mg base CX0 k f (n + 1) [] (fun vs _ => spT g xs call q (true :: (mutFlags d).drop 1) (vs ++ dvs)) ∧ n + ts.length = ((mutFlags d).drop 1).length ∧ ∀ F H, RepL g.toG F H ts dvs []
  mkK : ∀ C Ca q d n ks pl, g.toG.cls C = some Ca → gi.meth C "__init__" = some q → gi.fn q = some d → gi.ksig q n ks = some pl → ∃ f plv, Mk K Ca f ∧ mutFlags d = true :: (mutFlags d).drop 1 ∧ Paired (SrcR g) pl plv ∧
    FnC P w K mg base CX0 k f (n + 1) ks (fun vs zs H Q E => ∃ v vs', vs = v :: vs' ∧ spT g xs call q (true :: (mutFlags d).drop 1) (v :: fillV vs' zs plv) H Q E)
  erG : ∀ C Ca fs n ks pl, g.toG.ecl C = some Ca → gi.ini C = some fs → gi.ksig C n ks = some pl → ∃ fI plv, MkX K Ca fI ∧ Paired (SrcR g) pl plv ∧ FnC P w K mg base CX0 k fI (n + 1) ks (spX Ca fs plv)
  erB : ∀ C Ca, g.toG.ecl C = some Ca → gi.inb C = true → MkB K Ca
  exm : ∀ C D Ca Da, g.toG.ecl C = some Ca → g.toG.ecl D = some Da → PySem.W.exmOne K (.ref Ca) (.ref Da) = some (gi.sub C D)
  isaC : ∀ x C, gi.glob x = some (.cls C) → ∀ a, (g.toG.cls C = some a ∨ g.toG.ecl C = some a) → IsK g K gi x (.ref a)
  isaT : ∀ x ∈ tyBase, gi.glob x = none → ∃ n, bootBuiltins x = some (.type n) ∧ IsK g K gi x (.type n)
structure COk (g : GX) (k : Nat) (c : Ctx) (X : Cx) : Prop where
  glb : Glb c.gi g c.xs c.call k X.prog X.w X.K X.mg X.base
  N : X.N = c.N
  nd : c.N.Nodup
  names : X.env.scope.names = c.names
  kind : X.env.scope.kind = .function
  calm : X.calm = true
  room : Room (k + 1) X.A
  guards : X.A.guards = some []
  cellF : ∀ x ∈ c.cells, X.fn x = true
  xs0 : c.xs = false
section
variable {g : GX} {k : Nat} {c : Ctx} {X : Cx} {W : WX} {b q : Bool}
theorem COk.pas (_ : COk g k c X) : PassesS CX0 X (fun _ => XF) := PassesS.of pass0
theorem COk.fit (h : COk g k c X) : Fits g X := ⟨h.glb.eK, h.glb.wd, by have := h.room.un; omega⟩
theorem COk.slot (h : COk g k c X) {x : Str} {i : Nat} (e : slotOf c x = some i) : X.N[i]? = some x ∧ Vis X.env.scope x := by
  unfold slotOf at e
  split at e
  · rename_i hv
    have hi := List.idxOf?_eq_some_iff.mp e
    refine ⟨by rw [h.N]; obtain ⟨h1, h2, _⟩ := hi; rw [List.getElem?_eq_getElem h1, h2], ?_⟩
    unfold Vis
    rw [h.names]
    unfold visK at hv
    split at hv
    · exact .inl ‹_›
    · exact .inr (.inl ‹_›)
    · exact .inr (.inr ‹_›)
    · cases hv
  · cases e
theorem COk.gl (h : COk g k c X) {x : Str} (e : isGlob c x = true) : Gl X x := by
  unfold Gl Env.kindOf
  rw [h.names]
  unfold isGlob at e
  exact eq_of_beq e
theorem isBlt_inv {x : Str} (e : isBlt c x = true) : isGlob c x = true ∧ c.gi.glob x = none ∧ x ∈ bltNames := by
  unfold isBlt at e
  simp only [Bool.and_eq_true, Option.isNone_iff_eq_none, decide_eq_true_eq] at e
  exact ⟨e.1.1, e.1.2, e.2⟩
theorem COk.blt (h : COk g k c X) {x : Str} (e : isBlt c x = true) : Gl X x ∧ X.mg x = none := by
  obtain ⟨e1, e2, e3⟩ := isBlt_inv e
  exact ⟨h.gl e1, h.glb.free x (List.mem_append_left _ e3) e2⟩
/-! ### weakening -/
theorem je_bad {e : Expr} : JE X g W b e badM := ⟨fun pins s σ H Q I h => by obtain ⟨F, E, fp, w, re, p⟩ := h; exact p.elim⟩
theorem jt_bad {e : Expr} : JT X g W b e badM := ⟨fun pins s σ H Q I h => by obtain ⟨F, E, fp, w, re, p⟩ := h; exact p.elim⟩
theorem je_le {e : Expr} {m : M R} (h : JE X g W b e m) (hq : q = true → b = true) : JE X g W q e m := by
  cases q with
  | false => exact je_weak h
  | true => rw [hq rfl] at h; exact h
theorem jt_le {e : Expr} {m : M Bool} (h : JT X g W b e m) (hq : q = true → b = true) : JT X g W q e m := by
  cases q with
  | false => exact jt_weak h
  | true => rw [hq rfl] at h; exact h
theorem ja_le {e : List Expr} {m : M (List R)} (h : JA X g W b e m) (hq : q = true → b = true) : JA X g W q e m := by
  cases q with
  | false => exact ja_weak h
  | true => rw [hq rfl] at h; exact h
theorem ji_le {e : List Expr} {m : M (List T)} (h : JI X g W b e m) (hq : q = true → b = true) : JI X g W q e m := by
  cases q with
  | false => exact ji_weak h
  | true => rw [hq rfl] at h; exact h
theorem ja_bad {es : List Expr} : JA X g W b es badM := ⟨fun pos pins s σ H Q I h => by obtain ⟨F, E, fp, w, re, p⟩ := h; exact p.elim⟩
theorem ji_bad {es : List Expr} : JI X g W b es badM := ⟨fun pos pins s σ H Q I h => by obtain ⟨F, E, fp, w, re, p⟩ := h; exact p.elim⟩
theorem jit_bad {tg e : Expr} : JIt X g W tg e badM := ⟨fun pins s σ H Q I h => by obtain ⟨F, E, fp, w, re, p⟩ := h; exact p.elim⟩
theorem jg_bad {ts : List Nat} {tg : Expr} : JG X g W ts tg (fun _ => badM) := ⟨fun pins s σ H v u Q I r h => by obtain ⟨F, E, fp, ft, t, w, re, rt, p⟩ := h; exact p.elim⟩
theorem jgs_bad {ts : List Nat} {tg : List Expr} : JGs X g W ts tg (fun _ => badM) := ⟨fun pins s σ H v u Q I r h => by obtain ⟨F, E, fp, ft, t, w, re, rt, p⟩ := h; exact p.elim⟩
theorem js_bad {pm : List Nat} {st : Stmt} : JS X g W pm st badM := ⟨fun pins s σ H D I h => by obtain ⟨F, E, fp, w, re, p⟩ := h; exact p.elim⟩
end
end PV

/-! S2: expressions, piece by piece -/
namespace PV
open PySem L2
/-- what is known of the parts -/
structure Good (g : GX) (r : Rec) (c : Ctx) (X : Cx) : Prop where
  e : ∀ W e, JE X g W (qt e) e (r.e c e)
  t : ∀ W e, JT X g W (qt e) e (r.t c e)
section
variable {g : GX} {k : Nat} {c : Ctx} {X : Cx} {W : WX} {b q : Bool} {r : Rec} {pos : Pos} {a d e o : Expr} {es : List Expr}
theorem ups {es : List Expr} (h : es.all (quiet 19) = true) : qts es = true := List.all_eq_true.mpr fun x hx => quiet_up 19 x (List.all_eq_true.mp h x hx)
theorem ja2 {a b : Bool} (h : (a && b) = true) : a = true ∧ b = true := Bool.and_eq_true_iff.mp h
theorem aj2 {a b : Bool} (h : a = true) (h' : b = true) : (a && b) = true := Bool.and_eq_true_iff.mpr ⟨h, h'⟩
/-! ### names -/
theorem je_nameE (h : COk g k c X) {x : Str} : JE X g W b (.Name x pos) (nameE c x) := by
  unfold nameE
  split
  · exact je_bad
  · rename_i hx
    simp only [not_or] at hx
    have d1 : (x == ("__debug__" : Str)) = false := by simpa using hx.1
    have d2 : (x == ("__classdict__" : Str)) = false := by simpa using hx.2
    cases hs : slotOf c x with
    | some i => exact je_var (h.slot hs).1 (h.slot hs).2 d1 d2
    | none =>
      dsimp only
      split
      · rename_i hg
        cases hc : c.gi.glob x with
        | none => exact je_bad
        | some z =>
          cases z with
          | const t =>
            obtain ⟨v, u, hm, hr, rep⟩ := h.glb.constG x t hc
            exact je_val (pe_glob (h.gl hg) hm hr d1) rep
          | _ => exact je_bad
      · exact je_bad
/-! ### and, or -/
theorem je_andE {f : Expr → M R} (hf : ∀ e, JE X g W (qt e) e (f e)) : ∀ {es : List Expr}, JE X g W (qts es) (.BoolOp .And es pos) (andE f es)
  | [] => je_bad
  | [e] => je_one (je_le (hf e) fun h => (ja2 h).1)
  | e :: e' :: es => je_and (hf e) (je_andE hf (es := e' :: es))
theorem je_orE {f : Expr → M R} (hf : ∀ e, JE X g W (qt e) e (f e)) : ∀ {es : List Expr}, JE X g W (qts es) (.BoolOp .Or es pos) (orE f es)
  | [] => je_bad
  | [e] => je_one (je_le (hf e) fun h => (ja2 h).1)
  | e :: e' :: es => je_or (hf e) (je_orE hf (es := e' :: es))
theorem pw_bad {e : Expr} : PW X e (tT g W b badM) := ⟨fun whole pins s σ H Q I h => by obtain ⟨F, E, fp, w, re, p⟩ := h; exact p.elim⟩
theorem pw_le {e : Expr} {m : M Bool} (h : PW X e (tT g W b m)) (hq : q = true → b = true) : PW X e (tT g W q m) := by
  refine ⟨fun whole pins s σ H Q I z => h.run whole pins s σ H Q I ?_⟩
  obtain ⟨F, E, fp, w, re, p⟩ := z
  exact ⟨F, E, fp, w, re, p.imp (fun k E' z H' F' fp' a w r x => z H' F' fp' a w r fun y => x (hq y)) fun _ _ h => h⟩
theorem jt_andE {f : Expr → M Bool} (hf : ∀ e, JT X g W (qt e) e (f e)) : ∀ {es : List Expr}, PW X (.BoolOp .And es pos) (tT g W (qts es) (andT f es))
  | [] => pw_bad
  | [e] => pw_le (jt_and1 (hf e)) fun h => (ja2 h).1
  | e :: e' :: es => jt_and (hf e) (jt_andE hf (es := e' :: es))
theorem jt_orE {f : Expr → M Bool} (hf : ∀ e, JT X g W (qt e) e (f e)) : ∀ {es : List Expr}, PW X (.BoolOp .Or es pos) (tT g W (qts es) (orT f es))
  | [] => pw_bad
  | [e] => pw_le (jt_or1 (hf e)) fun h => (ja2 h).1
  | e :: e' :: es => jt_or (hf e) (jt_orE hf (es := e' :: es))
/-! ### lists of expressions -/
theorem ja_args {f : Expr → M R} (hf : ∀ e, JE X g W (qt e) e (f e)) : ∀ {es : List Expr}, JA X g W (qts es) es (argsE f es)
  | [] => ja_le ja_nil fun _ => rfl
  | e :: es => by
    unfold argsE
    split
    · exact ja_bad
    · rename_i h
      exact ja_cons (hf e) (ja_args hf (es := es)) (star_each (by simpa using h))
theorem itemsE_plain {f : Expr → M R} (h : isStar e = false) : itemsE f (e :: es) = lItem (qts es) (f e) (itemsE f es) := by
  cases e <;> first | rfl | cases h
theorem ji_items (fit : Fits g X) {f : Expr → M R} (hf : ∀ e, JE X g W (qt e) e (f e)) : ∀ {es : List Expr}, JI X g W (qts es) es (itemsE f es)
  | [] => ji_le ji_nil fun _ => rfl
  | e :: es => by
    cases h : isStar e with
    | false =>
      rw [itemsE_plain h]
      exact ji_cons (hf e) (ji_items fit hf (es := es)) (star_each h)
    | true =>
      cases e with
      | Starred e p =>
        exact ji_le (ji_star fit (je_le (b := qt e) (q := false) (hf e) fun z => nomatch z) (ji_items fit hf (es := es)) rfl) fun z => by
          have := (ja2 z).1
          cases this
      | _ => cases h
/-! ### operators -/
theorem opr_none {f : Value → Value → Sem Value} : OpR X f (fun _ _ _ _ => False) := fun _ _ _ _ _ _ _ _ _ _ _ _ h => h.elim
theorem opt_none {f : Value → Value → Sem Value} : OpT g X f (fun _ _ => none) (fun _ _ _ _ => False) := ⟨opr_none, fun F H fp t u z x y ft fu Q w rt ru e k => by cases e⟩
theorem binop_other {op : Operator} (h : op ≠ .Add ∧ op ≠ .Sub ∧ op ≠ .Mult ∧ op ≠ .FloorDiv ∧ op ≠ .Mod ∧ op ≠ .Pow) : binop op = fun _ _ => none := by
  funext x y
  obtain ⟨h1, h2, h3, h4, h5, h6⟩ := h
  cases op <;> first | exact absurd rfl ‹_› | (cases x <;> cases y <;> rfl)
theorem op_all (fit : Fits g X) (op : Operator) : ∃ rr, OpT g X (binaryOp op) (binop op) rr := by
  cases op with
  | Add => exact ⟨_, ot_add fit.K⟩
  | Sub => exact ⟨_, ot_sub⟩
  | Mult => exact ⟨_, ot_mul fit.K⟩
  | FloorDiv => exact ⟨_, ot_fdiv⟩
  | Mod => exact ⟨_, ot_mod⟩
  | Pow => exact ⟨_, ot_pow⟩
  | _ => exact ⟨_, by rw [binop_other (by decide)]; exact opt_none⟩
theorem cmp_all (fit : Fits g X) (op : CmpOp) : ∃ rr, CmpT g X (fun _ _ => none) op rr := by
  cases op with
  | Eq => exact ⟨_, ct_eq0 fit⟩
  | NotEq => exact ⟨_, ct_ne0 fit⟩
  | Lt => exact ⟨_, ct_lt⟩
  | LtE => exact ⟨_, ct_le⟩
  | Gt => exact ⟨_, ct_gt⟩
  | GtE => exact ⟨_, ct_ge⟩
  | Is => exact ⟨_, ct_is⟩
  | IsNot => exact ⟨_, ct_isNot⟩
  | In => exact ⟨_, ct_in fit⟩
  | NotIn => exact ⟨_, ct_notIn fit⟩
theorem repr_arg {e e' : Expr} (h : reprArg c e = some e') : ∃ p q, e = .Call (.Name "repr" p) [e'] [] q ∧ isBlt c "repr" = true ∧ isStar e' = false := by
  unfold reprArg at h
  split at h
  · split at h
    · rename_i hh
      cases h
      obtain ⟨rfl, h2, h3⟩ := hh
      exact ⟨_, _, rfl, h2, h3⟩
    · cases h
  · cases h
theorem eqNe {op : CmpOp} (h : isEqNe op = true) : op = .Eq ∨ op = .NotEq := by
  cases op <;> first | exact .inl rfl | exact .inr rfl | cases h
theorem qt_repr {e : Expr} {p q : Pos} {z : Prop} (h : qt (.Call (.Name "repr" p) [e] [] q) = true) : z := by
  have h' : (decide (("repr" : Str) ∈ quietNames) && ([] : List Keyword).isEmpty && [e].all (quiet 19)) = true := h
  have h2 := (ja2 (ja2 h').1).1
  exact absurd (of_decide_eq_true h2) (by decide)
theorem jt_cmpE (h : COk g k c X) (gd : Good g r c X) {op : CmpOp} : JT X g W (qt a && qt d) (.Compare a [op] [d] pos) (cmpE r c a op d) := by
  unfold cmpE
  split
  · exact jt_bad
  · rename_i hs
    split
    · rename_i e e' h1 h2
      split
      · rename_i ho
        obtain ⟨p1, q1, rfl, hb, s1⟩ := repr_arg h1
        obtain ⟨p2, q2, rfl, _, s2⟩ := repr_arg h2
        obtain ⟨hg, hm⟩ := h.blt hb
        exact jt_le (jt_repr h.fit h.guards (eqNe ho) hg hm (gd.e W e) (gd.e W e') s1 s2) fun z => qt_repr (ja2 z).1
      · exact jt_bad
    · obtain ⟨rr, ho⟩ := cmp_all h.fit op
      exact jt_cmp ho (gd.e W a) (gd.e W d) (not_marks (by simpa using hs))
theorem je_cmpE (h : COk g k c X) (gd : Good g r c X) {op : CmpOp} : JE X g W (qt a && qt d) (.Compare a [op] [d] pos) (cBool (cmpE r c a op d)) := by
  unfold cmpE
  split
  · exact je_bad
  · rename_i hs
    split
    · rename_i e e' h1 h2
      split
      · rename_i ho
        obtain ⟨p1, q1, rfl, hb, s1⟩ := repr_arg h1
        obtain ⟨p2, q2, rfl, _, s2⟩ := repr_arg h2
        obtain ⟨hg, hm⟩ := h.blt hb
        exact je_le (je_repr h.fit h.guards (eqNe ho) hg hm (gd.e W e) (gd.e W e') s1 s2) fun z => qt_repr (ja2 z).1
      · exact je_bad
    · obtain ⟨rr, ho⟩ := cmp_all h.fit op
      exact je_cmp ho (gd.e W a) (gd.e W d) (not_marks (by simpa using hs))
theorem je_chainE (h : COk g k c X) (gd : Good g r c X) {op op' : CmpOp} {d' : Expr} (hs : isSet d' = false) : JE X g W false (.Compare a [op, op'] [d, d'] pos) (cChain (eiC c) op op' (r.e c a) (r.e c d) (r.e c d')) := by
  obtain ⟨rr, ho⟩ := cmp_all h.fit op
  obtain ⟨rr', ho'⟩ := cmp_all h.fit op'
  exact je_chain ho ho' (gd.e W a) (gd.e W d) (gd.e W d') (not_lastMarks hs)
/-! ### subscripts, fields -/
theorem jo_opt (gd : Good g r c X) : ∀ {e : Option Expr}, JO X g W e (optE (r.e c) e)
  | none => jo_none
  | some e => jo_some (gd.e W e)
theorem plain_ix {i : Expr} (h : (match i with | .Slice .. => false | .Tuple .. => false | _ => true) = true) : PlainIx i := by
  cases i <;> first | exact fun _ _ => rfl | cases h
end
end PV

/-! S3: subscripts, fields, built-ins, calls -/
namespace PV
open PySem L2
section
variable {g : GX} {k : Nat} {c : Ctx} {X : Cx} {W : WX} {b q : Bool} {r : Rec} {pos p ap : Pos} {a d e o : Expr} {es : List Expr}
theorem qt_sub {o i : Expr} (h : qt (.Subscript o i pos) = true) : qt o = true ∧ qt i = true := by
  have h' : (quiet 19 o && quiet 19 i) = true := h
  exact ⟨quiet_up 19 o (ja2 h').1, quiet_up 19 i (ja2 h').2⟩
theorem je_subE (h : COk g k c X) (gd : Good g r c X) {i : Expr} : JE X g W (qt (.Subscript o i pos)) (.Subscript o i pos) (subE r c o i) := by
  have gen : ∀ i : Expr, PlainIx i → JE X g W (qt (.Subscript o i pos)) (.Subscript o i pos) (cSub (qt i) (r.e c o) (r.e c i)) := fun i hp =>
    je_le (je_sub h.fit (gd.e W o) (gd.e W i) hp) fun z => aj2 (qt_sub z).1 (qt_sub z).2
  unfold subE
  split
  · rename_i lo hi st p2
    have qf : qt (.Subscript o (.Slice lo hi st p2) pos) = true → False := fun z => by have := (qt_sub z).2; cases this
    split
    · exact je_le (je_slice h.fit (gd.e W o) (jo_opt gd) (jo_opt gd)) fun z => (qf z).elim
    · split
      · exact je_le (je_revL h.fit (gd.e W o)) fun z => (qf z).elim
      · exact je_bad
    · exact je_bad
  · exact je_bad
  · rename_i h1 h2
    refine gen i ?_
    intro o' i'
    cases i <;> first | rfl | exact absurd rfl (h1 _ _ _ _) | exact absurd rfl (h2 _ _ _)
theorem att_base {o : Expr} {f : Str} {env : PySem.Env} {w : Sem Value} (h : ∀ a b c d, o ≠ .Call a b c d) : attributeBase o f env w = w := by
  unfold attributeBase
  cases o <;> first | rfl | exact absurd rfl (h _ _ _ _)
theorem je_attrE (h : COk g k c X) (gd : Good g r c X) {f : Str} : JE X g W (qt (.Attribute o f pos)) (.Attribute o f pos) (attrE r c o f) := by
  unfold attrE
  split
  · exact je_bad
  · rename_i ho
    split
    · rename_i hf
      exact je_le (je_attr (gd.e W o) (att_base2 ho) (fun C Ca e => ⟨(h.glb.cls C Ca e).cl, h.glb.noat C Ca f e hf⟩) fun C Ca e => ⟨h.glb.ecls C Ca e, h.glb.enoat C Ca f e hf⟩) fun z => quiet_up 19 o z
    · exact je_bad
/-! ### built-in functions -/
theorem qt_args {f : Expr} {ks : List Keyword} (h : qt (.Call f es ks pos) = true) : qts es = true := by
  have h' : (_ && es.all (quiet 19)) = true := h
  exact ups (ja2 h').2
theorem je_blt1 (h : COk g k c X) (gd : Good g r c X) {f : Str} {hh : T → Option T} (hb : isBlt c f = true) (ha : isStar a = false) (e : blt1 f = some hh) : JE X g W (qt (.Call (.Name f p) [a] [] pos)) (.Call (.Name f p) [a] [] pos) (cB1 hh (r.e c a)) := by
  have hq : qt (.Call (.Name f p) [a] [] pos) = true → qt a = true := fun z => (ja2 (qt_args z)).1
  obtain ⟨hg, hm⟩ := h.blt hb
  have he := star_each (es := []) (env := X.env) ha
  unfold blt1 at e
  by_cases h0 : f = "len"
  · subst h0; rw [if_pos rfl] at e; cases e; exact je_le (je_b1 (bt_len h.fit) hg hm (by decide +kernel) (gd.e W a) (by decide) (by decide) he rfl) hq
  rw [if_neg h0] at e
  by_cases h1 : f = "int"
  · subst h1; rw [if_pos rfl] at e; cases e; exact je_le (je_t1 bt_int hg hm (by decide +kernel) (gd.e W a) (by decide) (by decide) he rfl) hq
  rw [if_neg h1] at e
  by_cases h2 : f = "bool"
  · subst h2; rw [if_pos rfl] at e; cases e; exact je_le (je_t1 bt_bool hg hm (by decide +kernel) (gd.e W a) (by decide) (by decide) he rfl) hq
  rw [if_neg h2] at e
  by_cases h3 : f = "abs"
  · subst h3; rw [if_pos rfl] at e; cases e; exact je_le (je_b1 bt_abs hg hm (by decide +kernel) (gd.e W a) (by decide) (by decide) he rfl) hq
  rw [if_neg h3] at e
  by_cases h4 : f = "str"
  · subst h4; rw [if_pos rfl] at e; cases e; exact je_le (je_t1 bt_str hg hm (by decide +kernel) (gd.e W a) (by decide) (by decide) he rfl) hq
  rw [if_neg h4] at e
  by_cases h5 : f = "all"
  · subst h5; rw [if_pos rfl] at e; cases e; exact je_le (je_b1 (bt_all h.fit h.calm) hg hm (by decide +kernel) (gd.e W a) (by decide) (by decide) he rfl) hq
  rw [if_neg h5] at e
  by_cases h6 : f = "any"
  · subst h6; rw [if_pos rfl] at e; cases e; exact je_le (je_b1 (bt_any h.fit h.calm) hg hm (by decide +kernel) (gd.e W a) (by decide) (by decide) he rfl) hq
  rw [if_neg h6] at e
  by_cases h7 : f = "tuple"
  · subst h7; rw [if_pos rfl] at e; cases e; exact je_le (je_t1 (bt_tuple h.fit) hg hm (by decide +kernel) (gd.e W a) (by decide) (by decide) he rfl) hq
  rw [if_neg h7] at e
  by_cases h8 : f = "list"
  · subst h8; rw [if_pos rfl] at e; cases e; exact je_le (je_t1 (bt_list h.fit h.calm) hg hm (by decide +kernel) (gd.e W a) (by decide) (by decide) he rfl) hq
  rw [if_neg h8] at e
  cases e
theorem je_blt2 (h : COk g k c X) (gd : Good g r c X) {f : Str} {hh : T → T → Option T} (hb : isBlt c f = true) (ha : isStar a = false) (hd : isStar d = false) (e : blt2 f = some hh) : JE X g W (qt (.Call (.Name f p) [a, d] [] pos)) (.Call (.Name f p) [a, d] [] pos) (cB2 hh (qt d) (r.e c a) (r.e c d)) := by
  have hq : qt (.Call (.Name f p) [a, d] [] pos) = true → (qt a && qt d) = true := fun z => by have := qt_args z; have := ja2 this; exact aj2 this.1 (ja2 this.2).1
  obtain ⟨hg, hm⟩ := h.blt hb
  have he := star_each (es := [d]) (env := X.env) ha
  have he2 := star_each (es := []) (env := X.env) hd
  have hpl : (backTo pos (starEach [d] X.env)).any (·.1) = false := by rw [he2]; rfl
  unfold blt2 at e
  by_cases h1 : f = "max"
  · subst h1; rw [if_pos rfl] at e; cases e; exact je_le (je_b2 (bt_max2 h.calm) hg hm (by decide +kernel) (gd.e W a) (gd.e W d) (by decide) (by decide) he he2 hpl) hq
  rw [if_neg h1] at e
  by_cases h2 : f = "min"
  · subst h2; rw [if_pos rfl] at e; cases e; exact je_le (je_b2 (bt_min2 h.calm) hg hm (by decide +kernel) (gd.e W a) (gd.e W d) (by decide) (by decide) he he2 hpl) hq
  rw [if_neg h2] at e
  cases e
/-! ### isinstance -/
theorem pe_ty (h : COk g k c X) {x : Str} (ht : tyOk c x = true) : ∃ v u, PE X (.Name x pos) (tC v) ∧ ClsV v u ∧ IsK g X.K c.gi x u := by
  unfold tyOk at ht
  obtain ⟨hg, ht⟩ := ja2 ht
  obtain ⟨hd, ht⟩ := ja2 ht
  have d2 : (x == ("__debug__" : Str)) = false := by
    have : x ≠ "__debug__" := of_decide_eq_true hd
    simpa using this
  cases hc : c.gi.glob x with
  | some z =>
    rw [hc] at ht
    cases z with
    | cls C =>
      obtain ⟨a, ha, hm⟩ := h.glb.clsG x C hc
      refine ⟨.ref a, .ref a, pe_glob (h.gl hg) hm rfl d2, .own a, h.glb.isaC x C hc a ha⟩
    | _ => cases ht
  | none =>
    rw [hc] at ht
    have hx : x ∈ tyBase := of_decide_eq_true ht
    obtain ⟨n, hb, hi⟩ := h.glb.isaT x hx hc
    have hm := h.glb.free x (List.mem_append_right _ hx) hc
    have d1 : x ≠ "__name__" := by rintro rfl; exact absurd hx (by decide)
    exact ⟨.ty n, .type n, pe_bltn (h.gl hg) hm hb rfl d1 d2, .ty n, hi⟩
theorem ty_names (h : COk g k c X) : ∀ {es : List Expr} {xs : List Str}, tyNames c es = some xs → ∃ vs us, IsKs g X c.gi es xs vs us
  | [], xs, e => by cases e; exact ⟨[], [], .nil⟩
  | e :: es, xs, e0 => by
    unfold tyNames at e0
    split at e0
    · rename_i x ys hx hys
      split at e0
      · rename_i ht
        cases e0
        cases e with
        | Name y py =>
          cases hx
          obtain ⟨v, u, hp, hc, hi⟩ := pe_ty (pos := py) h ht
          obtain ⟨vs, us, ih⟩ := ty_names h hys
          exact ⟨v :: vs, u :: us, .cons hp hc hi rfl ih⟩
        | _ => cases hx
      · cases e0
    · cases e0
theorem je_bltE (h : COk g k c X) (gd : Good g r c X) {f : Str} (hb : isBlt c f = true) : JE X g W (qt (.Call (.Name f p) es [] pos)) (.Call (.Name f p) es [] pos) (bltE r c f es) := by
  unfold bltE
  split
  · split
    · exact je_bad
    · rename_i ha
      split
      · rename_i hh he
        exact je_blt1 h gd hb (by simpa using ha) he
      · exact je_bad
  · rename_i a d
    split
    · exact je_bad
    · rename_i hs0
      obtain ⟨ha, hd⟩ := Bool.or_eq_false_iff.mp (show (isStar a || isStar d) = false by simpa using hs0)
      clear hs0
      split
      · rename_i hf
        subst hf
        have hq : qt (.Call (.Name "isinstance" p) [a, d] [] pos) = true → qt a = true := fun z => (ja2 (qt_args z)).1
        obtain ⟨hg, hm⟩ := h.blt hb
        have he2 := star_each (es := []) (env := X.env) hd
        have hpl : (backTo pos (starEach [d] X.env)).any (·.1) = false := by rw [he2]; rfl
        split
        · rename_i x px
          split
          · rename_i ht
            obtain ⟨v, u, hp, hc, hi⟩ := pe_ty (pos := px) h ht
            exact je_le (je_isi h.fit h.glb.cls h.glb.ecls hg hm (gd.e W a) hp hc hi (star_each ha) he2 hpl (by decide +kernel)) hq
          · exact je_bad
        · rename_i ts n pt
          split
          · rename_i x xs ht
            split
            · rename_i hl
              obtain ⟨vs, us, hk⟩ := ty_names h ht
              cases hk with
              | cons h1 h2 h3 h4 h5 => exact je_le (je_isiT (cu := default) h.fit h.glb.cls h.glb.ecls hg hm (gd.e W a) (.cons h1 h2 h3 h4 h5) hl (star_each ha) he2 hpl (by decide +kernel)) hq
            · exact je_bad
          · exact je_bad
        · exact je_bad
      · split
        · rename_i hh he
          exact je_blt2 h gd hb ha hd he
        · exact je_bad
  · exact je_bad
end
end PV

/-! S4: calls of own defs, iteration, targets -/
namespace PV
open PySem L2
section
variable {g : GX} {k : Nat} {c : Ctx} {X : Cx} {W : WX} {b q : Bool} {r : Rec} {pos p ap : Pos} {a d e o tg it : Expr} {es : List Expr} {ts : List Nat}
theorem qt_call_no {f : Str} {ks : List Keyword} (h : f ∉ quietNames) : qt (.Call (.Name f p) es ks pos) = true → b = true := fun z => by
  have z' : (decide (f ∈ quietNames) && ks.isEmpty && es.all (quiet 19)) = true := z
  exact absurd (of_decide_eq_true (ja2 (ja2 z').1).1) h
theorem argsE_cons {f : Expr → M R} (h : isStar e = false) : argsE f (e :: es) = lArg (qts es) (f e) (argsE f es) := by
  show (if isStar e = true then badM else _) = _
  rw [if_neg (by rw [h]; decide)]
theorem jk_kws {f : Expr → M R} (hf : ∀ e, JE X g W (qt e) e (f e)) : ∀ {kws : List Keyword}, JK X g W (qtK kws) kws (kwsE f kws)
  | [] => jk_le jk_nil fun _ => rfl
  | ⟨n, e, kp⟩ :: ks => jk_cons (hf e) (jk_kws hf (kws := ks))
theorem kw_facts {pos : Pos} {env : PySem.Env} : ∀ {kws : List Keyword} {ns : List Str}, kwNs kws = some ns →
    (backToKw pos (keywordEach kws env)).all (·.1.isSome) = true ∧ (backToKw pos (keywordEach kws env)).filterMap (·.1) = ns ∧ (backToKw pos (keywordEach kws env)).any (·.1.isNone) = false
  | [], ns, e => by cases e; exact ⟨rfl, rfl, rfl⟩
  | ⟨some n, e0, kp⟩ :: ks, ns, e => by
    unfold kwNs at e
    cases h : kwNs ks with
    | none => rw [h] at e; cases e
    | some ms =>
      rw [h] at e
      cases e
      obtain ⟨i1, i2, i3⟩ := kw_facts (pos := pos) (env := env) h
      exact ⟨by simpa [keywordEach, backToKw] using i1, by simpa [keywordEach, backToKw] using i2, by simpa [keywordEach, backToKw] using i3⟩
  | ⟨none, _, _⟩ :: ks, ns, e => by cases e
theorem kw_len : ∀ {kws : List Keyword} {ns : List Str}, kwNs kws = some ns → ns.length = kws.length
  | [], ns, e => by cases e; rfl
  | ⟨some n, _, _⟩ :: ks, ns, e => by
    unfold kwNs at e
    cases h : kwNs ks with
    | none => rw [h] at e; cases e
    | some ms => rw [h] at e; cases e; simp [kw_len h]
  | ⟨none, _, _⟩ :: ks, ns, e => by cases e
theorem pl_any {es : List Expr} {kws : List Keyword} {ns : List Str} (h1 : es.any isStar = false) (h2 : kwNs kws = some ns) : ((backTo pos (starEach es X.env)).any (·.1) || (backToKw pos (keywordEach kws X.env)).any (·.1.isNone)) = false := by
  rw [star_any h1, (kw_facts h2).2.2]
  rfl
theorem je_callFE (h : COk g k c X) (gd : Good g r c X) {f qn : Str} {dd : FnI} {kws : List Keyword} (hg : isGlob c f = true) (d2 : (f == ("__debug__" : Str)) = false) (hst : es.any isStar = false) (hc : c.gi.glob f = some (.fn qn)) (hf : c.gi.fn qn = some dd) :
    JE X g W false (.Call (.Name f p) es kws pos) (callFE r c qn dd es kws) := by
  have x0 := h.xs0
  have hr := h.room.mono (Nat.le_succ k)
  cases kws with
  | nil =>
    show JE X g W false _ (match dflOf dd 0 es.length with | some ts => cCall0 c.xs c.call qn (mutFlags dd) ts (argsE (r.e c) es) | none => badM)
    cases ht : dflOf dd 0 es.length with
    | none => exact je_bad
    | some dts =>
      obtain ⟨fa, dvs, hm, hk, Fn, hl, hrep⟩ := h.glb.fnG f qn dd es.length dts hc hf ht
      rw [x0] at Fn ⊢
      cases es with
      | nil => exact PE.imp (pe_fc0 (E := fun _ => XF) Fn hr h.guards (h.gl hg) hm hk h.pas pk_nil rfl rfl d2 rfl) fun σ H Q z => nil_red (fc_red (b := true) hl hrep z)
      | cons e es =>
        exact PE.imp (pe_fc (E := fun _ => XF) Fn hr h.guards (h.gl hg) hm hk h.pas (ja_args (W := W) (es := e :: es) (gd.e W)) pk_nil rfl rfl d2 (star_each (Bool.or_eq_false_iff.mp hst).1) (pl_any hst (kws := []) rfl)) fun σ H Q z => fc_red hl hrep z
  | cons kw kws =>
    show JE X g W false _ (match kwNs (kw :: kws) with
      | some ns => (match c.gi.ksig qn es.length ns with
        | some pl => cCallK c.xs c.call qn (mutFlags dd) es.length ns.length (qtK (kw :: kws)) pl (argsE (r.e c) es) (kwsE (r.e c) (kw :: kws))
        | none => badM)
      | none => badM)
    cases hn : kwNs (kw :: kws) with
    | none => exact je_bad
    | some ns =>
      dsimp only
      cases hp : c.gi.ksig qn es.length ns with
      | none => exact je_bad
      | some pl =>
        obtain ⟨fa, plv, hm, hk, hpa, Fn⟩ := h.glb.fnK f qn dd es.length ns pl hc hf hp
        rw [x0] at Fn ⊢
        obtain ⟨k1, k2, k3⟩ := kw_facts (pos := pos) (env := X.env) hn
        cases es with
        | nil => exact PE.imp (pe_fc0 (E := fun _ => XF) Fn hr h.guards (h.gl hg) hm hk h.pas (jk_kws (W := W) (gd.e W)) k1 k2 d2 k3) fun σ H Q z => nil_red (b := true) (fck_red hpa z)
        | cons e es =>
          exact PE.imp (pe_fc (E := fun _ => XF) Fn hr h.guards (h.gl hg) hm hk h.pas (ja_args (W := W) (es := e :: es) (gd.e W)) (jk_kws (W := W) (gd.e W)) k1 k2 d2 (star_each (Bool.or_eq_false_iff.mp hst).1) (pl_any hst hn)) fun σ H Q z => fck_red hpa z
theorem je_callCE (h : COk g k c X) (gd : Good g r c X) {f qn C : Str} {Ca : Addr} {dd : FnI} {kws : List Keyword} (hg : isGlob c f = true) (d2 : (f == ("__debug__" : Str)) = false) (hst : es.any isStar = false) (hC : g.toG.cls C = some Ca) (hm : X.mg f = some (.ref Ca)) (hi : c.gi.meth C "__init__" = some qn) (hf : c.gi.fn qn = some dd) :
    JE X g W false (.Call (.Name f p) es kws pos) (callCE r c C qn dd es kws) := by
  have x0 := h.xs0
  cases kws with
  | nil =>
    show JE X g W false _ (match dflOf dd 1 es.length with | some ts => toV (cMake0 c.xs c.call C false qn ((mutFlags dd).drop 1) ts (argsE (r.e c) es)) | none => badM)
    cases ht : dflOf dd 1 es.length with
    | none => exact je_bad
    | some dts =>
      obtain ⟨fa, dvs, hmk, _, Fn, hl, hrep⟩ := h.glb.mkG C Ca qn dd es.length dts hC hi hf ht
      rw [x0] at Fn ⊢
      cases es with
      | nil => exact PE.imp (pe_mc0 (E := fun _ => XF) hmk Fn h.room h.guards (h.gl hg) hm h.pas pk_nil rfl rfl d2 rfl) fun σ H Q z => nil_red (b := true) (mc_red hC hl hrep z)
      | cons e es =>
        exact PE.imp (pe_mc (E := fun _ => XF) hmk Fn h.room h.guards (h.gl hg) hm h.pas (ja_args (W := W) (es := e :: es) (gd.e W)) pk_nil rfl rfl d2 (star_each (Bool.or_eq_false_iff.mp hst).1) (pl_any hst (kws := []) rfl)) fun σ H Q z => mc_red hC hl hrep z
  | cons kw kws =>
    show JE X g W false _ (match kwNs (kw :: kws) with
      | some ns => (match c.gi.ksig qn es.length ns with
        | some pl => cMakeK c.xs c.call C qn ((mutFlags dd).drop 1) es.length ns.length (qtK (kw :: kws)) pl (argsE (r.e c) es) (kwsE (r.e c) (kw :: kws))
        | none => badM)
      | none => badM)
    cases hn : kwNs (kw :: kws) with
    | none => exact je_bad
    | some ns =>
      dsimp only
      cases hp : c.gi.ksig qn es.length ns with
      | none => exact je_bad
      | some pl =>
        obtain ⟨fa, plv, hmk, _, hpa, Fn⟩ := h.glb.mkK C Ca qn dd es.length ns pl hC hi hf hp
        rw [x0] at Fn ⊢
        obtain ⟨k1, k2, k3⟩ := kw_facts (pos := pos) (env := X.env) hn
        cases es with
        | nil => exact PE.imp (pe_mc0 (E := fun _ => XF) hmk Fn h.room h.guards (h.gl hg) hm h.pas (jk_kws (W := W) (gd.e W)) k1 k2 d2 k3) fun σ H Q z => nil_red (b := true) (mck_red hC hpa z)
        | cons e es =>
          exact PE.imp (pe_mc (E := fun _ => XF) hmk Fn h.room h.guards (h.gl hg) hm h.pas (ja_args (W := W) (es := e :: es) (gd.e W)) (jk_kws (W := W) (gd.e W)) k1 k2 d2 (star_each (Bool.or_eq_false_iff.mp hst).1) (pl_any hst hn)) fun σ H Q z => mck_red hC hpa z
/-- an exception's class, called -/
theorem jk_errE (h : COk g k c X) (gd : Good g r c X) {f C : Str} {Ca : Addr} {kws : List Keyword} (hg : isGlob c f = true) (d2 : (f == ("__debug__" : Str)) = false) (hst : es.any isStar = false) (hC : g.toG.ecl C = some Ca) (hm : X.mg f = some (.ref Ca)) :
    JK' X g W (.Call (.Name f p) es kws pos) (errE r c C es kws) := by
  have bad : JK' X g W (.Call (.Name f p) es kws pos) badM := fun pins s σ H Q I z => by obtain ⟨F, E, fp, w, re, z⟩ := z; exact z.elim
  unfold errE
  split
  · rename_i hb
    have M := h.glb.erB C Ca hC hb
    cases kws with
    | cons _ _ => exact bad
    | nil =>
      cases es with
      | nil => exact fun pins s σ H Q I z => pmk_b0 M (h.gl hg) hm d2 pins s σ H Q I (nil_red (b := true) (errb_red hC z))
      | cons e es => exact fun pins s σ H Q I z => pmk_b M (h.gl hg) hm (ja_args (W := W) (es := e :: es) (gd.e W)) d2 (star_each (Bool.or_eq_false_iff.mp hst).1) (star_any (Bool.or_eq_false_iff.mp hst).2) pins s σ H Q I (errb_red hC z)
  · split
    · rename_i fs ns h1 hn
      cases hp : c.gi.ksig C es.length ns with
      | none => exact bad
      | some pl =>
        obtain ⟨fI, plv, M, hpa, Fn⟩ := h.glb.erG C Ca fs es.length ns pl hC h1 hp
        obtain ⟨k1, k2, k3⟩ := kw_facts (pos := pos) (env := X.env) hn
        cases es with
        | nil => exact fun pins s σ H Q I z => pmk_x0 M Fn h.room h.guards pass0 (h.gl hg) hm (jk_kws (W := W) (gd.e W)) k1 k2 d2 k3 pins s σ H Q I (nil_red (b := true) (err_red hC hpa z))
        | cons e es => exact fun pins s σ H Q I z => pmk_x M Fn h.room h.guards pass0 (h.gl hg) hm (ja_args (W := W) (es := e :: es) (gd.e W)) (jk_kws (W := W) (gd.e W)) k1 k2 d2 (star_each (Bool.or_eq_false_iff.mp hst).1) (pl_any hst hn) pins s σ H Q I (err_red hC hpa z)
    · exact bad
theorem je_callE (h : COk g k c X) (gd : Good g r c X) {f : Str} {kws : List Keyword} : JE X g W (qt (.Call (.Name f p) es kws pos)) (.Call (.Name f p) es kws pos) (callE r c f es kws) := by
  unfold callE
  split
  · rename_i h0
    obtain ⟨h1, hst⟩ := ja2 h0
    obtain ⟨hg, hd⟩ := ja2 h1
    have hst : es.any isStar = false := by simpa using hst
    have d2 : (f == ("__debug__" : Str)) = false := by
      have : f ≠ "__debug__" := of_decide_eq_true hd
      simpa using this
    cases hc : c.gi.glob f with
    | none =>
      dsimp only
      split
      · rename_i hb
        obtain ⟨hk, hb⟩ := ja2 hb
        cases kws with
        | nil => exact je_bltE h gd hb
        | cons _ _ => cases hk
      · exact je_bad
    | some z =>
      cases z with
      | const t => exact je_bad
      | fn q =>
        dsimp only
        split
        · exact je_bad
        · rename_i hq
          cases hf : c.gi.fn q with
          | none => exact je_bad
          | some dd => exact je_le (je_callFE h gd hg d2 hst hc hf) (qt_call_no hq)
      | cls C =>
        dsimp only
        split
        · exact je_bad
        · rename_i hq
          obtain ⟨Ca, hC, hm⟩ := h.glb.clsG f C hc
          split
          · rename_i he
            exact je_le (je_err (jk_errE h gd hg d2 hst ((h.glb.isE C Ca).mpr ⟨hC, he⟩) hm)) (qt_call_no hq)
          · rename_i he
            have hC : g.toG.cls C = some Ca := by
              rcases hC with hC | hC
              · exact hC
              · exact absurd ((h.glb.isE C Ca).mp hC).2 he
            cases hi : c.gi.meth C "__init__" with
            | none => exact je_bad
            | some q =>
              dsimp only
              cases hf : c.gi.fn q with
              | none => exact je_bad
              | some dd => exact je_le (je_callCE h gd hg d2 hst hC hm hi hf) (qt_call_no hq)
  · exact je_bad
/-! ### append -/
theorem je_methE (h : COk g k c X) (gd : Good g r c X) {m : Str} {kws : List Keyword} : JE X g W false (.Call (.Attribute o m ap) es kws pos) (methE r c o m es kws ap pos) := by
  unfold methE
  split
  · exact je_bad
  · rename_i ho
    split
    · rename_i h1
      obtain ⟨h1, hl⟩ := ja2 h1
      obtain ⟨hk, hm⟩ := ja2 h1
      have hm : m = "append" := eq_of_beq hm
      subst hm
      cases kws with
      | cons _ _ => cases hk
      | nil =>
        split
        · rename_i a
          split
          · exact je_bad
          · rename_i ha
            have hs := star_each (es := []) (env := X.env) (show isStar a = false by simpa using ha)
            refine je_append h.fit (gd.e W _) (gd.e W a) (att_base ho) ?_ hl hs rfl
            rw [hs]; rfl
        · exact je_bad
    · exact je_bad
/-! ### what is walked -/
theorem jit_itE (h : COk g k c X) (gd : Good g r c X) (hs : isSet it = false) : JIt X g W tg it (itE r c tg it) := by
  have gen : ∀ e : Expr, JIt X g W tg e (iOf (r.e c e)) := fun e => jit_of h.fit (gd.e W e)
  unfold itE
  split
  · split
    · rename_i hf
      subst hf
      split
      · rename_i hb
        obtain ⟨hb, ha⟩ := ja2 hb
        have ha := by simpa using ha
        obtain ⟨hg, hm⟩ := h.blt hb
        exact jit_rng1 hg hm (gd.e W _) (star_each ha) (star_each ha)
      · exact jit_bad
    · split
      · rename_i hf
        subst hf
        split
        · rename_i hb
          obtain ⟨hb, ht⟩ := ja2 hb
          obtain ⟨hb, ha⟩ := ja2 hb
          obtain ⟨hg, hm⟩ := h.blt hb
          cases tg with
          | Tuple elts kk tpos => exact jit_enum h.fit hg hm (gd.e W _) (by simpa using ha)
          | _ => cases ht
        · exact jit_bad
      · exact gen _
  · split
    · rename_i hf
      subst hf
      split
      · rename_i hb
        obtain ⟨hb, hd⟩ := ja2 hb
        obtain ⟨hb, ha⟩ := ja2 hb
        have ha := by simpa using ha
        have hd := by simpa using hd
        obtain ⟨hg, hm⟩ := h.blt hb
        refine jit_rng2 hg hm (gd.e W _) (gd.e W _) (star_each ha) (star_each hd) ?_ (star_each hd)
        rw [star_each ha, star_each hd]
        rfl
      · exact jit_bad
    · exact gen _
  · exact jit_bad
  · exact gen _
/-! ### targets -/
theorem slot_md (h : COk g k c X) {x : Str} {q : Nat × Md} (e : slotMd c x = some q) : slotOf c x = some q.1 ∧ X.N[q.1]? = some x ∧ L2.Loc X.env.scope x ∧ (X.fn x = true ∨ X.env.scope.names.lookup x = some .local) := by
  unfold slotMd at e
  cases hs : slotOf c x with
  | none => rw [hs] at e; cases e
  | some i =>
    rw [hs] at e
    dsimp only at e
    split at e
    · cases e
    · rename_i hn
      cases e
      have hk : c.names.lookup x = some .local ∨ (c.names.lookup x = some .cell ∧ x ∈ c.cells) := by
        by_cases z : c.names.lookup x = some .local ∨ (c.names.lookup x = some .cell ∧ x ∈ c.cells)
        · exact z
        · exact absurd (.inr z) hn
      refine ⟨rfl, (h.slot hs).1, ?_, ?_⟩
      · unfold L2.Loc
        rw [h.names]
        exact hk.imp id (·.1)
      · rw [h.names]
        exact hk.elim .inr fun z => .inl (h.cellF x z.2)
theorem jg_asg1 (h : COk g k c X) (gd : Good g r c X) (hts : ∀ x p, tg = .Name x p → ts = (slotOf c x).toList) : JG X g W ts tg (asg1 r c tg) := by
  unfold asg1
  split
  · rename_i x px
    cases hs : slotMd c x with
    | none => exact jg_bad
    | some q =>
      obtain ⟨h0, h1, h2, h3⟩ := slot_md h hs
      have e : ts = [q.1] := by rw [hts x px rfl, h0]; rfl
      rw [e]
      exact jg_name (by rw [h.N]; exact h.nd) h1 h2 h3
  · rename_i o f px
    split
    · rename_i hf
      exact jg_attr (gd.e W o) fun C Ca e => ⟨(h.glb.cls C Ca e).cl, h.glb.noat C Ca f e hf⟩
    · exact jg_bad
  · rename_i o' k0 px
    split
    · exact jg_bad
    · rename_i hsl
      refine jg_sub h.fit (gd.e W _) (gd.e W _) fun v => ?_
      cases k0 <;> first | rfl | exact absurd rfl hsl
  · exact jg_bad
theorem jgs_asgs (h : COk g k c X) (gd : Good g r c X) : ∀ {es : List Expr}, JGs X g W (es.flatMap fun e => match e with | .Name x _ => (slotOf c x).toList | _ => []) es (asgs r c es)
  | [] => jgs_nil
  | e :: es => by
    unfold asgs
    split
    · exact jgs_bad
    · rename_i hs
      rw [List.flatMap_cons]
      refine jgs_cons (jg_asg1 h gd fun x p e => by rw [e]) (jgs_asgs h gd) ?_
      rw [asg_each (by simpa using hs)]
      rfl
theorem jg_asgE (h : COk g k c X) (gd : Good g r c X) : JG X g W (tgSlots c tg) tg (asgE r c tg) := by
  unfold asgE
  split
  · rename_i es n p
    split
    · exact jg_bad
    · rename_i hs0
      have hs : es.any isStar = false := by simpa using hs0
      clear hs0
      have hl : (assignEach es X.env).length = es.length ∧ (assignEach es X.env).findIdx? (·.1) = none := by
        clear h gd
        induction es with
        | nil => exact ⟨rfl, rfl⟩
        | cons e es ih =>
          rw [List.any_cons, Bool.or_eq_false_iff] at hs
          rw [asg_each hs.1]
          obtain ⟨i1, i2⟩ := ih hs.2
          exact ⟨by simp [i1], by simp [List.findIdx?_cons, i2]⟩
      exact jg_tup h.fit h.calm (jgs_asgs h gd) hl.1 hl.2
  · refine jg_asg1 h gd fun x p e => ?_
    rw [e]
    rfl
theorem jts_ifsE (gd : Good g r c X) : ∀ {es : List Expr}, JTs X g W es (ifsE r c es)
  | [] => jts_nil
  | [e] => jts_one (gd.t W e)
  | _ :: _ :: _ => ⟨fun pins s σ H Q I h => by obtain ⟨F, E, fp, w, re, p⟩ := h; exact p.elim⟩
end
end PV

/-! S5: comprehensions; every expression -/
namespace PV
open PySem L2
section
variable {g : GX} {k : Nat} {c : Ctx} {X : Cx} {W : WX} {b q : Bool} {r : Rec} {pos p ap : Pos} {a d e o tg it elt : Expr} {es ifs : List Expr} {ts : List Nat} {sc : Scope}
theorem blkC_inv {N : List Str} {names : List (Str × NameKind)} (h : blkC' N names sc = true) : sc.kind = .function ∧ (∀ y ∈ sc.names, sc.names.lookup y.1 = some y.2) ∧ ∀ y ∈ sc.names, y.2 = .free → names.lookup y.1 = some .cell ∨ names.lookup y.1 = some .free := by
  unfold blkC' at h
  obtain ⟨h, h3⟩ := ja2 h
  obtain ⟨h1, h2⟩ := ja2 h
  refine ⟨eq_of_beq h1, fun y hy => of_decide_eq_true (List.all_eq_true.mp h2 y hy), fun y hy e => ?_⟩
  have z := List.all_eq_true.mp h3 y hy
  rw [e] at z
  have z' : (match names.lookup y.1 with | some .cell => true | some .free => true | _ => false) = true := z
  split at z'
  · exact .inl ‹_›
  · exact .inr ‹_›
  · cases z'
theorem COk.blkOk (h : COk g k c X) (hb : blkC' c.N c.names sc = true) : BlkOk X.N X.env.scope sc (ownPairs c.N sc) := by
  obtain ⟨h1, h2, h3⟩ := blkC_inv hb
  refine ⟨h1, h2, fun p hp => ?_, fun y hy e => by rw [h.names]; exact h3 y hy e, fun y hy e => ?_⟩
  · unfold ownPairs at hp
    obtain ⟨y, hy, e⟩ := List.mem_filterMap.mp hp
    cases hi : c.N.idxOf? y.1 with
    | none => rw [hi] at e; cases e
    | some i =>
      rw [hi] at e
      cases e
      obtain ⟨z1, z2, _⟩ := List.idxOf?_eq_some_iff.mp hi
      rw [h.N, List.getElem?_eq_getElem z1, z2]
  · by_cases hn : y.1 ∈ X.N
    · left
      unfold ownPairs
      rw [h.N] at hn
      have hs : (c.N.idxOf? y.1).isSome = true := by
        cases hi : c.N.idxOf? y.1 with
        | none => exact absurd hn (List.idxOf?_eq_none_iff.mp hi)
        | some _ => rfl
      obtain ⟨i, hi⟩ := Option.isSome_iff_exists.mp hs
      refine List.mem_map.mpr ⟨(y.1, i), List.mem_filterMap.mpr ⟨y, List.mem_filter.mpr ⟨hy, ?_⟩, by rw [hi]; rfl⟩, rfl⟩
      rcases e with e | e <;> rw [e] <;> rfl
    · exact .inr hn
theorem cells_in {sc : List (Str × NameKind)} {x : Str} (h : x ∈ cellsOf sc) : sc.lookup x = some .cell := by
  unfold cellsOf at h
  obtain ⟨y, hy, e⟩ := List.mem_map.mp h
  have := (List.mem_filter.mp hy).2
  rw [← e]
  exact eq_of_beq this
theorem COk.blk (h : COk g k c X) (hb : blkC' c.N c.names sc = true) (s : Shared) (H : Hp) (C : Addr) (cl : List (Str × Addr)) (fp : List Addr) : COk g k (c.inBlk sc) (X.blk s H sc (compEnvC sc cl C X.env) fp) := by
  refine ⟨?_, h.N, h.nd, ?_, (blkC_inv hb).1, h.calm, h.room, h.guards, fun x hx => ?_, rfl⟩
  · have z := h.glb
    rw [h.xs0] at z
    exact z
  · show (sc.names.map fun (n, k) => if (k == .free && X.env.scope.kind == .function && X.env.kindOf n == some .cell) then (n, NameKind.cell) else (n, k)) = blkNames sc c.names
    unfold blkNames Env.kindOf
    rw [h.kind, h.names]
    refine List.map_congr_left fun y hy => ?_
    obtain ⟨n, k⟩ := y
    dsimp only
    rw [show (ScopeKind.function == ScopeKind.function) = true from rfl, Bool.and_true]
  · show (sc.names.lookup x == some .cell) = true
    rw [cells_in hx]
    rfl
/-- in every block of this def's comprehensions -/
def Goods (g : GX) (r : Rec) : Prop := ∀ k c X, COk g k c X → Good g r c X
theorem all_own {own ts : List Nat} (h : (!(ts.all fun i => own.contains i)) = false) : ∀ i ∈ ts, i ∈ own := fun i hi => by
  have h' : (ts.all fun i => own.contains i) = true := by simpa using h
  have := List.all_eq_true.mp h' i hi
  simpa using this
theorem je_compE (h : COk g k c X) (gs : Goods g r) {cs : List Comprehension} : JE X g W false (.ListComp elt cs sc pos) (compE r c elt cs sc) := by
  have gd := gs k c X h
  unfold compE
  split
  · rename_i hb
    have ok := h.blkOk hb
    have hN : X.N.Nodup := by rw [h.N]; exact h.nd
    have gb := fun s H C cl fp => gs k _ _ (h.blk hb s H C cl fp)
    split
    · rename_i tg it ifs
      split
      · exact je_bad
      · rename_i hc
        have hc : (isSet it || !((tgSlots (c.inBlk sc) tg).all fun i => (ownOf c.N sc).contains i)) = false := by simpa using hc
        obtain ⟨hs, ht⟩ := Bool.or_eq_false_iff.mp hc
        have hts := all_own ht
        have hg := fun s H C cl fp => jg_asgE (W := W0) (tg := tg) (h.blk hb s H C cl fp) (gb s H C cl fp)
        have hi := fun s H C cl fp => jts_ifsE (W := W0) (es := ifs) (gb s H C cl fp)
        have he := fun s H C cl fp => je_le (q := false) ((gb s H C cl fp).e W0 elt) fun z => nomatch z
        dsimp only
        split
        · clear hc
          rename_i x px
          cases hx : slotOf c x with
          | none => exact je_lc h.calm hN (jit_itE h gd hs) ok hts hg hi he (set_iter hs)
          | some i =>
            dsimp only
            split
            · exact je_bad
            · rename_i hn
              simp only [not_or] at hn
              exact je_lcN h.fit h.calm hN (h.slot hx).1 (h.slot hx).2 (by simpa using hn.1) (by simpa using hn.2) ok hts hg hi he (set_iter hs)
        · exact je_lc h.calm hN (jit_itE h gd hs) ok hts hg hi he (set_iter hs)
    · rename_i tg it ifs tg1 it1 ifs1
      split
      · exact je_bad
      · rename_i hc
        have hc : (isSet it || isSet it1 || !((tgSlots (c.inBlk sc) tg).all fun i => (ownOf c.N sc).contains i) || !((tgSlots (c.inBlk sc) tg1).all fun i => (ownOf c.N sc).contains i)) = false := by simpa using hc
        obtain ⟨hc, ht1⟩ := Bool.or_eq_false_iff.mp hc
        obtain ⟨hc, ht⟩ := Bool.or_eq_false_iff.mp hc
        obtain ⟨hs, hs1⟩ := Bool.or_eq_false_iff.mp hc
        exact je_lc2 h.calm hN (jit_itE h gd hs) ok (all_own ht) (fun i hi => hi) (all_own ht1)
          (fun s H C cl fp => jg_asgE (W := W0) (tg := tg) (h.blk hb s H C cl fp) (gb s H C cl fp))
          (fun s H C cl fp => jts_ifsE (W := W0) (es := ifs) (gb s H C cl fp))
          (fun s H C cl fp => jit_itE (h.blk hb s H C cl fp) (gb s H C cl fp) hs1)
          (fun s H C cl fp => jg_asgE (W := W0) (tg := tg1) (h.blk hb s H C cl fp) (gb s H C cl fp))
          (fun s H C cl fp => jts_ifsE (W := W0) (es := ifs1) (gb s H C cl fp))
          (fun s H C cl fp => je_le (q := false) ((gb s H C cl fp).e W0 elt) fun z => nomatch z)
          (set_iter hs) (fun env => set_iter hs1)
    · exact je_bad
  · exact je_bad
theorem je_stepE (h : COk g k c X) (gs : Goods g r) : ∀ e, JE X g W (qt e) e (stepE r c e) := by
  have gd := gs k c X h
  intro e
  cases e with
  | Constant v n p =>
    cases v with
    | none => exact je_none
    | bool b => exact je_bool
    | int i => exact je_int
    | str x => exact je_str
    | _ => exact je_bad
  | Name x p => exact je_nameE h
  | BoolOp op es p =>
    cases op with
    | And => exact je_le (je_andE (gd.e W)) fun z => ups z
    | Or => exact je_le (je_orE (gd.e W)) fun z => ups z
  | UnaryOp op a p =>
    cases op with
    | Not => exact je_le (je_not h.fit (gd.e W a)) fun z => quiet_up 19 a z
    | USub => exact je_le (je_neg (gd.e W a)) fun z => quiet_up 19 a z
    | _ => exact je_bad
  | BinOp a op d p =>
    obtain ⟨rr, ho⟩ := op_all h.fit op
    exact je_le (je_two ho (gd.e W a) (gd.e W d)) fun z => by
      have z' : (quiet 19 a && quiet 19 d) = true := z
      exact aj2 (quiet_up 19 a (ja2 z').1) (quiet_up 19 d (ja2 z').2)
  | IfExp t a d p =>
    exact je_le (je_if (gd.t W t) (gd.e W a) (gd.e W d)) fun z => by
      have z' : (quiet 19 t && quiet 19 a && quiet 19 d) = true := z
      exact aj2 (aj2 (quiet_up 19 t (ja2 (ja2 z').1).1) (quiet_up 19 a (ja2 (ja2 z').1).2)) (quiet_up 19 d (ja2 z').2)
  | Compare a ops bs p =>
    show JE X g W _ _ (match ops, bs with
      | [op], [b] => cBool (cmpE r c a op b)
      | [op, op'], [b, d] => if isSet d then badM else cChain (eiC c) op op' (r.e c a) (r.e c b) (r.e c d)
      | _, _ => badM)
    split
    · rename_i op d
      refine je_le (je_cmpE h gd) fun z => ?_
      have z' : (quiet 19 a && [d].all (quiet 19) && decide ([d].length ≤ 1)) = true := z
      have z2 := (ja2 (ja2 z').1).2
      exact aj2 (quiet_up 19 a (ja2 (ja2 z').1).1) (quiet_up 19 d (ja2 z2).1)
    · rename_i op op' b d
      split
      · exact je_bad
      · rename_i hs
        refine je_le (je_chainE h gd (by simpa using hs)) fun z => ?_
        have z' : (quiet 19 a && [b, d].all (quiet 19) && decide ([b, d].length ≤ 1)) = true := z
        exact absurd (ja2 z').2 (by simp)
    · exact je_bad
  | Call f es kws p =>
    cases f with
    | Name f pf => exact je_callE h gd
    | Attribute o m ap => exact je_le (je_methE h gd) fun z => by cases z
    | _ => exact je_bad
  | Attribute o f p => exact je_attrE h gd
  | Subscript o i p => exact je_subE h gd
  | List es p => exact je_le (je_list (ji_items h.fit (gd.e W))) fun z => ups z
  | Tuple es n p => exact je_le (je_tup (ji_items h.fit (gd.e W))) fun z => ups z
  | ListComp elt cs sc p => exact je_le (je_compE h gs) fun z => by cases z
  | _ => exact je_bad
theorem jt_stepT (h : COk g k c X) (gs : Goods g r) : ∀ e, JT X g W (qt e) e (stepT r c e) := by
  have gd := gs k c X h
  intro e
  cases e with
  | BoolOp op es p =>
    cases op with
    | And => exact jt_le (PW.pt (jt_andE (gd.t W))) fun z => ups z
    | Or => exact jt_le (PW.pt (jt_orE (gd.t W))) fun z => ups z
  | UnaryOp op a p =>
    cases op with
    | Not => exact jt_le (jt_not (gd.t W a)) fun z => quiet_up 19 a z
    | _ => exact jt_bad
  | Compare a ops bs p =>
    show JT X g W _ _ (match ops, bs with
      | [op], [b] => cmpE r c a op b
      | _, _ => badM)
    split
    · rename_i op d
      refine jt_le (jt_cmpE h gd) fun z => ?_
      have z' : (quiet 19 a && [d].all (quiet 19) && decide ([d].length ≤ 1)) = true := z
      have z2 := (ja2 (ja2 z').1).2
      exact aj2 (quiet_up 19 a (ja2 (ja2 z').1).1) (quiet_up 19 d (ja2 z2).1)
    · exact jt_bad
  | IfExp => exact jt_bad
  | NamedExpr => exact jt_bad
  | _ => exact jt_truth h.fit (gd.e W _) fun _ => rfl
theorem goods : ∀ n, Goods g (recN n)
  | 0 => fun k c X h => ⟨fun W e => je_bad, fun W e => jt_bad⟩
  | n + 1 => fun k c X h => ⟨fun W e => je_stepE h (goods n) e, fun W e => jt_stepT h (goods n) e⟩
end
end PV

/-! S6: statements -/
namespace PV
open PySem L2
/-- the context of a def's body -/
structure SOk (g : GX) (k : Nat) (c : Ctx) (X : Cx) : Prop extends COk g k c X where
  pown : PassesOwn (model X.prog X.w) X.A X.env X.xe
  stk : X.stack = X.env :: X.outer
  ex0 : X.ex = []
  frm : X.env.frame = some X.env.locals
section
variable {g : GX} {k : Nat} {c : Ctx} {X : Cx} {W : WX} {b q : Bool} {r : Rec} {pos p ap : Pos} {a d e o tg it elt : Expr} {es ifs : List Expr} {ts : List Nat} {sc : Scope} {pm : List Nat} {σ : St} {H : Hp} {D : Ends}
theorem PS.or {st : Stmt} {t t' : TS} (h : PS X st t) (h' : PS X st t') : PS X st (fun D σ H => t D σ H ∨ t' D σ H) :=
  ⟨fun pins s σ H D I z => z.elim (h.run pins s σ H D I) (h'.run pins s σ H D I)⟩
theorem tE_mono {m : M R} {Q Q' : VK} (h : tE g W b m σ H Q) (k : ∀ v H, Q v H → Q' v H) : tE g W b m σ H Q' := by
  obtain ⟨F, E, fp, w, re, p⟩ := h
  exact ⟨F, E, fp, w, re, p.imp (fun r E' z v H' F' fr fp' a w' re' rr ex => k _ _ (z v H' F' fr fp' a w' re' rr ex)) fun _ _ h => h⟩
/-- name = a value whose reading is known -/
theorem set_red {ma : M R} {i : Nat} {md : Md} (hd : (pm.all fun j => !([i] : List Nat).contains j) = true) (h : tS g W pm (sAsg ma (gSlot md i)) D σ H) : tE g W false ma σ H (fun x H1 => L2.gName i x σ H1 D.nx) :=
  tE_mono (asg_red (b := false) (ts := [i]) hd h) fun v H z => gname_red z
theorem sw_val {x : Str} {px pe : Pos} {cs : List Comprehension} {l : Nat} (h : COk g k c X) : swapsWith (.ListComp elt cs sc pe) (some (.Name x px)) l X.env = pure (swB c x px pe sc) := by
  show (pure (X.env.blockKind == .function && X.env.kindOf x == some .local && px.line == pe.line && !(sc.names.any fun (n, k) => n == x && (k == .local || k == .cell))) : Sem Bool) = _
  have e1 : X.env.blockKind = .function := by unfold Env.blockKind; rw [h.kind]; rfl
  have e2 : X.env.kindOf x = c.names.lookup x := by unfold Env.kindOf; rw [h.names]
  rw [e1, e2]
  rfl
theorem keeps_name {x : Str} {px : Pos} {i : Nat} (hk : keeps c (.Name x px) = true) (hs : slotOf c x = some i) : ((pmOf c).all fun j => !([i] : List Nat).contains j) = true := by
  have hk' : ((pmOf c).all fun j => !((slotOf c x).toList).contains j) = true := hk
  rw [hs] at hk'
  exact hk'
/-- name = [..] on one line -/
theorem js_lcSet (h : COk g k c X) (gs : Goods g r) {cs : List Comprehension} {x : Str} {px pe : Pos} {l : Md × Nat} (hsw : swB c x px pe sc = true) (hi0 : X.N[l.2]? = some x) (hloc : X.env.scope.names.lookup x = some .local)
    (hd : (pm.all fun j => !([l.2] : List Nat).contains j) = true) : JS X g W pm (.Assign [.Name x px] (.ListComp elt cs sc pe) pos) (sAsg (compE r c elt cs sc) (gSlot l.1 l.2)) := by
  have gd := gs k c X h
  have swt := (sw_val (elt := elt) (cs := cs) (px := px) (pe := pe) (sc := sc) (x := x) (l := pos.line) h).trans (by rw [hsw])
  have bad : JS X g W pm (.Assign [.Name x px] (.ListComp elt cs sc pe) pos) (sAsg badM (gSlot l.1 l.2)) := js_bad
  unfold compE
  split
  · rename_i hb
    have ok := h.blkOk hb
    have hN : X.N.Nodup := by rw [h.N]; exact h.nd
    have gb := fun s H C cl fp => gs k _ _ (h.blk hb s H C cl fp)
    split
    · rename_i tg it ifs
      split
      · exact bad
      · rename_i hc
        have hc : (isSet it || !((tgSlots (c.inBlk sc) tg).all fun i => (ownOf c.N sc).contains i)) = false := by simpa using hc
        obtain ⟨hs, ht⟩ := Bool.or_eq_false_iff.mp hc
        have hts := all_own ht
        have hg := fun s H C cl fp => jg_asgE (W := W0) (tg := tg) (h.blk hb s H C cl fp) (gb s H C cl fp)
        have hi := fun s H C cl fp => jts_ifsE (W := W0) (es := ifs) (gb s H C cl fp)
        have he := fun s H C cl fp => je_le (q := false) ((gb s H C cl fp).e W0 elt) fun z => nomatch z
        have plain := PS.imp (ps_setLc h.calm hN hi0 hloc swt (jit_itE (W := W) (tg := tg) h gd hs) ok hg hi he (set_iter hs)) fun σ H D z => lc_red hts (set_red (md := l.1) hd z)
        clear hc
        dsimp only
        split
        · rename_i y py
          cases hx : slotOf c y with
          | none => exact plain
          | some i =>
            dsimp only
            split
            · exact bad
            · rename_i hn
              simp only [not_or] at hn
              have d1 : (y == ("__debug__" : Str)) = false := by simpa using hn.1
              have d2 : (y == ("__classdict__" : Str)) = false := by simpa using hn.2
              have p1 := ps_setLc (spos := pos) h.calm hN hi0 hloc swt (jit_of (tg := tg) (W := W) h.fit (je_var (b := false) (pos := py) (h.slot hx).1 (h.slot hx).2 d1 d2)) ok hg hi he (set_iter hs)
              have p2 := ps_setLc (spos := pos) h.calm hN hi0 hloc swt (pi_v (pe_var (pos := py) (h.slot hx).1 (h.slot hx).2 d1 d2) (piv_list (tg := tg))) ok hg hi he (set_iter hs)
              refine PS.imp (PS.or p1 p2) fun σ H D z => ?_
              have z2 := lcN_red hts (set_red hd z)
              rw [h.fit.K] at z2
              exact z2
        · exact plain
    · rename_i tg it ifs tg1 it1 ifs1
      split
      · exact bad
      · rename_i hc
        have hc : (isSet it || isSet it1 || !((tgSlots (c.inBlk sc) tg).all fun i => (ownOf c.N sc).contains i) || !((tgSlots (c.inBlk sc) tg1).all fun i => (ownOf c.N sc).contains i)) = false := by simpa using hc
        obtain ⟨hc, ht1⟩ := Bool.or_eq_false_iff.mp hc
        obtain ⟨hc, ht⟩ := Bool.or_eq_false_iff.mp hc
        obtain ⟨hs, hs1⟩ := Bool.or_eq_false_iff.mp hc
        exact PS.imp (ps_setLc2 h.calm hN hi0 hloc swt (jit_itE (W := W) (tg := tg) h gd hs) ok (all_own ht1)
          (fun s H C cl fp => jg_asgE (W := W0) (tg := tg) (h.blk hb s H C cl fp) (gb s H C cl fp))
          (fun s H C cl fp => jts_ifsE (W := W0) (es := ifs) (gb s H C cl fp))
          (fun s H C cl fp => jit_itE (h.blk hb s H C cl fp) (gb s H C cl fp) hs1)
          (fun s H C cl fp => jg_asgE (W := W0) (tg := tg1) (h.blk hb s H C cl fp) (gb s H C cl fp))
          (fun s H C cl fp => jts_ifsE (W := W0) (es := ifs1) (gb s H C cl fp))
          (fun s H C cl fp => je_le (q := false) ((gb s H C cl fp).e W0 elt) fun z => nomatch z)
          (set_iter hs) (fun env => set_iter hs1)) fun σ H D z => lc2_red (all_own ht) (fun i hi => hi) (all_own ht1) (set_red hd z)
    · exact bad
  · exact bad
end
end PV

/-! S7: every statement, every def -/
namespace PV
open PySem L2
section
variable {g : GX} {k : Nat} {c : Ctx} {X : Cx} {W : WX} {b q : Bool} {r : Rec} {pos p ap : Pos} {a d e o tg it elt : Expr} {es ifs : List Expr} {ts : List Nat} {sc : Scope} {pm : List Nat} {σ : St} {H : Hp} {D : Ends}
theorem swap_val (h : COk g k c X) {ts vs : List Expr} {kt k2 : Nat} {pt p2 : Pos} {o : Option (List Str)} (e : swapOf c ts vs = some o) : swappedStores [.Tuple ts kt pt] (.Tuple vs k2 p2) X.env = pure o := by
  have e1 : X.env.blockKind = .function := by unfold Env.blockKind; rw [h.kind]; rfl
  have e2 : ∀ x, X.env.kindOf x = c.names.lookup x := fun x => by unfold Env.kindOf; rw [h.names]
  have es : isStar = (fun e => match e with | .Starred .. => true | _ => false) := by funext e; cases e <;> rfl
  unfold swapOf at e
  unfold swappedStores
  simp only [e1, e2]
  rw [show (ScopeKind.function != ScopeKind.function) = false from rfl, Bool.or_false]
  split at e
  · rename_i h1
    cases e
    rw [if_pos h1]
  · rename_i h1
    rw [if_neg h1]
    split at e
    · rename_i h2
      cases e
      rw [es] at h2
      exact if_pos h2
    · rename_i h2
      rw [es] at h2
      refine (if_neg h2).trans ?_
      dsimp only at e
      split at e
      · rename_i h3
        cases e
        exact if_pos h3
      · rename_i h3
        refine (if_neg h3).trans ?_
        split at e
        · rename_i h4
          cases e
          exact if_pos h4
        · rename_i h4
          refine (if_neg h4).trans ?_
          split at e
          · cases e
          · rename_i h5
            cases e
            exact if_neg h5
theorem keeps_tup {ts : List Expr} {kt : Nat} {pt : Pos} (hk : keeps c (.Tuple ts kt pt) = true) : ((pmOf c).all fun j => !(ts.flatMap fun e => match e with | .Name x _ => (slotOf c x).toList | _ => []).contains j) = true := hk
theorem js_parS (h : COk g k c X) (gd : Good g r c X) {ts vs : List Expr} {kt k2 : Nat} {pt p2 : Pos} (hk : keeps c (.Tuple ts kt pt) = true) : JS X g W (pmOf c) (.Assign [.Tuple ts kt pt] (.Tuple vs k2 p2) pos) (parS r c ts vs) := by
  unfold parS
  have hN : X.N.Nodup := by rw [h.N]; exact h.nd
  split
  · exact js_bad
  · rename_i e
    split
    · exact js_bad
    · rename_i h0
      obtain ⟨hs, hl⟩ := Bool.or_eq_false_iff.mp (show (ts.any isStar || !(decide (ts.length ≤ lim))) = false by simpa using h0)
      have hl2 : (assignEach ts X.env).length = ts.length ∧ (assignEach ts X.env).findIdx? (·.1) = none := by
        clear h gd hk e h0 hl
        induction ts with
        | nil => exact ⟨rfl, rfl⟩
        | cons e es ih =>
          rw [List.any_cons, Bool.or_eq_false_iff] at hs
          rw [asg_each hs.1]
          obtain ⟨i1, i2⟩ := ih hs.2
          exact ⟨by simp [i1], by simp [List.findIdx?_cons, i2]⟩
      exact js_parG h.fit h.calm (jgs_asgs h gd) (ji_items h.fit (gd.e W)) hl2.1 hl2.2 (by simpa using hl) rfl (swap_val h e) rfl (keeps_tup hk)
  · rename_i ns e
    split
    · rename_i n1 p1 n2 p2' v1 v2
      split
      · rename_i q1 q2 e1 e2
        split
        · rename_i hh
          obtain ⟨rfl, hne, l1, l2⟩ := hh
          obtain ⟨s1, i1, _, _⟩ := slot_md h e1
          obtain ⟨s2, i2, _, _⟩ := slot_md h e2
          have hk2 := keeps_tup hk
          refine js_par2 h.calm hN i1 i2 hne (by rw [h.names]; exact l1) (by rw [h.names]; exact l2) (ji_items h.fit (gd.e W)) (swap_val h e) rfl ?_
          have e3 : (([.Name n1 p1, .Name n2 p2'] : List Expr).flatMap fun e => match e with | .Name x _ => (slotOf c x).toList | _ => []) = [q1.1, q2.1] := by
            show (slotOf c n1).toList ++ ((slotOf c n2).toList ++ []) = _
            rw [s1, s2]; rfl
          rw [e3] at hk2
          exact hk2
        · exact js_bad
      · exact js_bad
    · rename_i n1 p1 n2 p2' n3 p3 v1 v2 v3
      split
      · rename_i q1 q2 q3 e1 e2 e3
        split
        · rename_i hh
          obtain ⟨rfl, ⟨hn1, hn2, hn3⟩, l1, l2, l3⟩ := hh
          obtain ⟨s1, i1, _, _⟩ := slot_md h e1
          obtain ⟨s2, i2, _, _⟩ := slot_md h e2
          obtain ⟨s3, i3, _, _⟩ := slot_md h e3
          have hk2 := keeps_tup hk
          refine js_par3 h.calm hN i1 i2 i3 hn1 hn2 hn3 (by rw [h.names]; exact l1) (by rw [h.names]; exact l2) (by rw [h.names]; exact l3) (ji_items h.fit (gd.e W)) (swap_val h e) rfl ?_
          have e4 : (([.Name n1 p1, .Name n2 p2', .Name n3 p3] : List Expr).flatMap fun e => match e with | .Name x _ => (slotOf c x).toList | _ => []) = [q1.1, q2.1, q3.1] := by
            show (slotOf c n1).toList ++ ((slotOf c n2).toList ++ ((slotOf c n3).toList ++ [])) = _
            rw [s1, s2, s3]; rfl
          rw [e4] at hk2
          exact hk2
        · exact js_bad
      · exact js_bad
    · exact js_bad
theorem js_asgS (h : COk g k c X) (gs : Goods g r) : JS X g W (pmOf c) (.Assign [tg] e pos) (asgS r c tg e) := by
  have gd := gs k c X h
  have hN : X.N.Nodup := by rw [h.N]; exact h.nd
  unfold asgS
  split
  · rename_i hk
    cases tg with
    | Tuple ts kt pt =>
      have other : ∀ e : Expr, (∀ a b c, e ≠ .Tuple a b c) → isComp e = false → JS X g W (pmOf c) (.Assign [.Tuple ts kt pt] e pos) (sAsg (r.e c e) (asgE r c (.Tuple ts kt pt))) := fun e hn hc => by
        refine js_tup (jg_asgE h gd) (gd.e W e) (show swapsWith e (some (.Tuple ts kt pt)) pos.line X.env = pure false from no_swap hc) ?_ rfl hk
        cases e <;> first | rfl | exact absurd rfl (hn _ _ _)
      dsimp only
      split
      · exact js_parS h gd hk
      · rename_i hn
        split
        · exact js_bad
        · rename_i hc
          exact other e hn (by simpa using hc)
    | Name x px =>
      dsimp only
      cases e1 : slotMd c x with
      | none => exact js_bad
      | some q =>
        obtain ⟨s1, i1, i2, i3⟩ := slot_md h e1
        have hd := keeps_name hk s1
        dsimp only
        split
        · rename_i elt cs sc pe
          split
          · rename_i hsw
            have hloc : X.env.scope.names.lookup x = some .local := by
              rw [h.names]
              unfold swB at hsw
              exact eq_of_beq (ja2 (ja2 hsw).1).1
            exact js_lcSet (l := (q.2, q.1)) h gs hsw i1 hloc hd
          · rename_i hsw
            exact js_set hN i1 i2 (gd.e W _) ((sw_val h).trans (by rw [show swB c x px pe sc = false by simpa using hsw])) i3 hd
        · split
          · exact js_bad
          · rename_i hc
            exact js_set hN i1 i2 (gd.e W _) (no_swap (by simpa using hc)) i3 hd
    | Attribute o f pf =>
      dsimp only
      split
      · rename_i hf
        refine js_fld (fun C Ca e => ⟨(h.glb.cls C Ca e).cl, h.glb.noat C Ca f e hf⟩) (gd.e W o) (gd.e W e) ?_
        cases e <;> rfl
      · exact js_bad
    | Subscript o k0 pf =>
      dsimp only
      split
      · exact js_bad
      · refine js_sub h.fit (gd.e W o) (gd.e W k0) (gd.e W e) ?_
        cases e <;> rfl
    | _ => exact js_bad
  · exact js_bad
/-- the context of a try's body -/
theorem SOk.tr (h : SOk g k c X) {pn : List (Addr × Obj)} {xe : Value → Shared → Prop} (hp : PassesOwn (model X.prog X.w) X.A X.env xe) : SOk g k c (X.tr pn xe) :=
  ⟨⟨h.glb, h.N, h.nd, h.names, h.kind, h.calm, h.room, h.guards, h.cellF, h.xs0⟩, hp, h.stk, h.ex0, h.frm⟩
/-- an except clause's suite -/
theorem jss_suS (h : COk g k c X) {a : Addr} {pn : List (Addr × Obj)} {b₀ : Stmt} {su : List Stmt} : JSs (X.suite a pn) g (fun _ _ _ _ => False) (pmOf c) (b₀ :: su) (suS c (b₀ :: su)) := by
  have bad : JSs (X.suite a pn) g (fun _ _ _ _ => False) (pmOf c) (b₀ :: su) badM := ⟨fun pins s σ H D I z => by obtain ⟨F, E, fp, w, re, z⟩ := z; exact z.elim⟩
  unfold suS
  split
  · rename_i m p1 n p2 p3 heq
    cases heq
    split
    · rename_i q i hq hs
      split
      · exact bad
      · rename_i hn
        simp only [not_or] at hn
        obtain ⟨s1, i1, i2, i3⟩ := slot_md h hq
        have d1 : (n == ("__debug__" : Str)) = false := by simpa using hn.1
        have d2 : (n == ("__classdict__" : Str)) = false := by simpa using hn.2.1
        have hN : X.N.Nodup := by rw [h.N]; exact h.nd
        have hv : JE (X.suite a pn) g (fun _ _ _ _ => False) false (.Name n p2) (cVar i) := je_var (X := X.suite a pn) (h.slot hs).1 (h.slot hs).2 d1 d2
        refine jss_one (js_set (X := X.suite a pn) (b := false) hN i1 i2 hv ?_ i3 ?_)
        · exact no_swap rfl
        · refine List.all_eq_true.mpr fun j hj => ?_
          have : j ≠ q.1 := fun z => hn.2.2 (z ▸ hj)
          simpa using this
    · exact bad
  · exact bad
theorem js_stepS (h : SOk g k c X) (tk : Takes X W) (gs : Goods g r) {f : Stmt → M Fl} {fs : List Stmt → M Fl} (hfs : ∀ (X : Cx) (W : WX), SOk g k c X → Takes X W → ∀ ss, JSs X g W (pmOf c) ss (fs ss)) : ∀ s, JS X g W (pmOf c) s (stepS r c f fs s) := by
  have gd := gs k c X h.toCOk
  have hall := hfs
  have hfs := hfs X W h tk
  intro s
  cases s with
  | Pass p => exact js_pass
  | Break p => exact js_break
  | Continue p => exact js_continue
  | Return e p =>
    cases e with
    | none => exact js_retN
    | some e => exact js_ret (gd.e W e)
  | Expr e p =>
    show JS X g W (pmOf c) _ (match e with
      | .Constant (.str _) _ _ => sNx
      | e => if isComp e then badM else sExpr (r.e c e))
    split
    · exact js_doc
    · split
      · exact js_bad
      · rename_i hc
        exact js_expr (gd.e W e) (no_swap (by simpa using hc))
  | Assign tgs e p =>
    cases tgs with
    | nil => exact js_bad
    | cons tg rest =>
      cases rest with
      | nil => exact js_asgS h.toCOk gs
      | cons _ _ => exact js_bad
  | If t a b p => exact js_if (gd.t W t) (hfs a) (hfs b)
  | For tg it body els p =>
    show JS X g W (pmOf c) _ (if els.isEmpty && !(isSet it) && keeps c tg then _ else badM)
    split
    · rename_i hh
      obtain ⟨hh, hk⟩ := ja2 hh
      obtain ⟨he, hs⟩ := ja2 hh
      have hs : isSet it = false := by simpa using hs
      cases els with
      | cons _ _ => cases he
      | nil => exact js_for h.pown h.calm (jit_itE h.toCOk gd hs) (jg_asgE h.toCOk gd) (hfs body) (set_iter hs) hk
    · exact js_bad
  | While t body els p =>
    show JS X g W (pmOf c) _ (if els.isEmpty then _ else badM)
    split
    · rename_i he
      cases els with
      | cons _ _ => cases he
      | nil => exact js_while h.pown (gd.t W t) (hfs body)
    · exact js_bad
  | Raise e o p =>
    unfold stepS
    split
    all_goals first | exact js_bad | skip
    all_goals rename_i heq
    all_goals first | (cases heq; done) | skip
    · rename_i x p1 es kws p2 p3
      cases heq
      split
      · rename_i hh
        obtain ⟨hh, hst⟩ := ja2 hh
        obtain ⟨hg, hd⟩ := ja2 hh
        have d2 : (x == ("__debug__" : Str)) = false := by
          have : x ≠ "__debug__" := of_decide_eq_true hd
          simpa using this
        split
        · rename_i C hc
          split
          · rename_i he
            obtain ⟨Ca, hC, hm⟩ := h.glb.clsG x C hc
            exact js_raise h.calm tk h.glb.gerr (jk_errE h.toCOk gd hg d2 (by simpa using hst) ((h.glb.isE C Ca).mpr ⟨hC, he⟩) hm)
          · exact js_bad
        · exact js_bad
      · exact js_bad
  | Try body hs orelse fin p =>
    unfold stepS
    split
    all_goals first | exact js_bad | skip
    all_goals rename_i heq
    all_goals first | (cases heq; done) | skip
    · rename_i body' x p1 n s0 su p2 p3
      cases heq
      split
      · rename_i hh
        obtain ⟨hg, hd⟩ := ja2 hh
        have d2 : (x == ("__debug__" : Str)) = false := by
          have : x ≠ "__debug__" := of_decide_eq_true hd
          simpa using this
        split
        · rename_i D i hc hi
          split
          · rename_i hcond
            obtain ⟨he, hl, hip⟩ := hcond
            obtain ⟨Da, hD, hm⟩ := h.glb.clsG x D hc
            have hD := (h.glb.isE D Da).mpr ⟨hD, he⟩
            obtain ⟨z1, z2, _⟩ := List.idxOf?_eq_some_iff.mp hi
            exact js_try h.stk h.ex0 h.frm (by rw [h.N]; exact h.nd) (by rw [h.N, List.getElem?_eq_getElem z1, z2]) (by unfold Env.kindOf; rw [h.names]; exact hl) ⟨h.gl hg, d2, .inl hm⟩ tk h.glb.gerr (fun C Ca hC => h.glb.exm C D Ca Da hC hD) hip
                (fun W' pn xe tk' hp => hall _ _ (h.tr hp) tk' body) (fun a pn => jss_suS h.toCOk)
          · exact js_bad
        · exact js_bad
      · exact js_bad
  | _ => exact js_bad
theorem jss_seqS {f : Stmt → M Fl} (hf : ∀ s, JS X g W pm s (f s)) : ∀ ss, JSs X g W pm ss (seqS f ss)
  | [] => jss_nil
  | [s] => jss_one (hf s)
  | s :: s' :: ss => jss_cons (hf s) (jss_seqS hf (s' :: ss))
theorem js_stmtN (gs : Goods g r) : ∀ (n : Nat) (X : Cx) (W : WX), SOk g k c X → Takes X W → ∀ s, JS X g W (pmOf c) s (stmtN r c n s)
  | 0, _, _, _, _, _ => js_bad
  | n + 1, X, W, h, tk, s => js_stepS h tk gs (fun X W h tk ss => jss_seqS (js_stmtN gs n X W h tk) ss) s
end
end PV

/-! H1: a law's end, its promise needing no repr under way -/
namespace PV
open PySem PySem.Spec PyProof.Rows L2
/-- from an abstract heap where the script alone may stand -/
theorem law_core {P : Program} {w : World} {K : PySem.W.Frag} {mg mb : Str → Option Value} {k : Nat} {fa a : Addr} {fd : FuncData} {x : Str} {sp : Sp} {z : Shared} {vs : List Value}
    (KX : K.In z.heap) (hns : z.heap.Ns mainGlobals mg) (hb : z.heap.Ns builtinsNs mb) (hbb : ∀ x : Str, x ≠ "__name__" → mb x = bootBuiltins x) (hlim : z.heap.NoLimit) (hg : z.gens = #[])
    (ha : z.heap.get? a = some { cls := .type "list", data := .seq vs.toArray }) (hr : Room k callerA)
    (F : ∀ base : Heap, K.In base → base.Ns mainGlobals mg → FnG P w K mg base CX0 k fa fd [x] sp) (hbind : ∀ (s : Shared) (u : Value), BindsTo s fd ⟨[u], []⟩ [(x, u)])
    (H : Hp) (hO : Only H) (hsp : sp [.ref a] H (fun v _ => v = .bl true) XF) (hok : HOk P w H z.heap) (hA : ∀ b, H b ≠ none → b = a) (hK : H a ≠ none → K.lookup a = none) :
    codeAny (model P w) callerA (.call (.ref fa) ⟨[.ref a], []⟩) (fun r s' => r = .ok (.ret (.bool true)) ∧ OldK z.heap s'.heap ∧ s'.os = z.os ∧ AllBare s'.gens) z := by
  have noA : ∀ {b : Addr} {o : Obj} {es : Array DictEntry} {ep : Nat}, z.heap.get? b = some o → o.data = .dict es ep → H b = none := fun {b o es ep} e d => by
    cases q : H b with
    | none => rfl
    | some u =>
      cases hA b (by rw [q]; simp)
      rw [ha] at e
      cases e
      exact Data.noConfusion (show Data.seq vs.toArray _ = Data.dict es ep from d)
  have nsK : ∀ {b : Addr} {m : Str → Option Value}, z.heap.Ns b m → (hidT z.heap H).Ns b m := fun {b m} ⟨o, es, ep, e, d, r⟩ => ⟨o, es, ep, hidT_get e (noA e d), d, r⟩
  have hKb : K.In (hidT z.heap H) := fun b o e => hidT_get (KX b o e) (by
    cases q : H b with
    | none => rfl
    | some u =>
      cases hA b (by rw [q]; simp)
      rw [hK (by rw [q]; simp)] at e
      cases e)
  obtain ⟨mc, l1, l2⟩ := hlim
  have hM : Mod K mg (hidT z.heap H) := ⟨hKb, nsK hns, ⟨mb, nsK hb, hbb⟩, ⟨mc, nsK l1, l2⟩⟩
  have e0 : Env0 P w K mg (hidT z.heap H) callerA [] z H := ⟨rfl, hM, fun b o e => of_hidT e, Nat.le_of_eq (hidT_size _ _), trivial, (fun b hb => nomatch hb), hok, .of_eq hg⟩
  refine codeAny_mono ((F _ hKb (nsK hns)).run callerA [] z H ⟨[.ref a], []⟩ [.ref a] [.ref a] _ _ hr rfl e0 (hbind z (.ref a)) (.cons rfl .nil) hsp) fun r s' h => ?_
  match r, h with
  | .error e, h => exact False.elim h
  | .ok .next, h => exact False.elim h
  | .ok .brk, h => exact False.elim h
  | .ok .cont, h => exact False.elim h
  | .ok (.ret u), ⟨v, H', os, bare, un, hok', r', q⟩ =>
    have q' : v = .bl true := q
    subst q'
    cases r'
    refine ⟨rfl, OldK.of_keep fun b o e => ?_, os, bare⟩
    cases q : H b with
    | none => exact un.keep b o e q (fun z => nomatch z) (by simp)
    | some u =>
      rcases hO b with y | ⟨ob, xs, y⟩
      · rw [q] at y; cases y
      · obtain ⟨e1, _⟩ := hok b _ y
        obtain ⟨e2, _⟩ := hok' b _ (un.frzs b ob _ y)
        rw [e] at e1; cases e1
        exact e2
theorem law_callG {P : Program} {w : World} {K : PySem.W.Frag} {mg mb : Str → Option Value} {k : Nat} {fa a : Addr} {fd : FuncData} {x : Str} {sp : Sp} {z : Shared} {vs : List Value} {ns : List Int}
    (KX : K.In z.heap) (hns : z.heap.Ns mainGlobals mg) (hb : z.heap.Ns builtinsNs mb) (hbb : ∀ x : Str, x ≠ "__name__" → mb x = bootBuiltins x) (hlim : z.heap.NoLimit) (hg : z.gens = #[])
    (ha : z.heap.get? a = some { cls := .type "list", data := .seq vs.toArray }) (hi : IntsAre vs ns) (hl : ns.length ≤ sizeLine) (hr : Room k callerA)
    (F : ∀ base : Heap, K.In base → base.Ns mainGlobals mg → FnG P w K mg base CX0 k fa fd [x] sp) (hbind : ∀ (s : Shared) (u : Value), BindsTo s fd ⟨[u], []⟩ [(x, u)])
    (hsp : ∀ H : Hp, Only H → SqL K H a (ns.map V.int) → sp [.ref a] H (fun v _ => v = .bl true) XF) :
    codeAny (model P w) callerA (.call (.ref fa) ⟨[.ref a], []⟩) (fun r s' => r = .ok (.ret (.bool true)) ∧ OldK z.heap s'.heap ∧ s'.os = z.os ∧ AllBare s'.gens) z := by
  have rv := vals_ints hi
  have lenV := hi.length
  have core := fun H hO hS => law_core KX hns hb hbb hlim hg ha hr F hbind H hO (hsp H hO hS)
  cases hk : K.lookup a with
  | some o =>
    have e := KX a o hk
    rw [ha] at e
    cases e
    exact core (fun _ => none) (fun _ => .inl rfl) (.inr ⟨_, vs.toArray, _, hk, rfl, rfl, rfl, (by rw [List.size_toArray, lenV]; exact hl), by simpa using rv⟩) (fun b u y => nomatch y) (fun b y => absurd rfl y) fun y => absurd rfl y
  | none =>
    refine core (fun b => if b = a then some (.frz { cls := .type "list", data := .seq vs.toArray } (.lst (ns.map V.int))) else none) (fun b => ?_) (.inl (.inr ⟨_, if_pos rfl⟩)) (fun b u y => ?_) (fun b y => ?_) fun _ => hk
    · by_cases hb : b = a
      · exact .inr ⟨_, _, if_pos hb⟩
      · exact .inl (if_neg hb)
    · by_cases hb : b = a
      · have y' := (if_pos hb).symm.trans y
        cases y'
        subst hb
        exact ⟨ha, by rw [List.length_map]; exact hl, vs, _, rv, ha⟩
      · have y' := (if_neg hb).symm.trans y
        cases y'
    · by_cases hb : b = a
      · exact hb
      · exact absurd (if_neg hb) y
theorem walk_ofG {l : PySem.W.OpenLaw} {n k : Nat} {q : Program} {loose : List Str} {XP : (Str → Option Value) → Heap → Prop} {YP : World → Heap → Prop} {d : DefRec} {x : Str}
    (hn : l.most = some n) (hn2 : n ≤ sizeLine) (hdf : d.params.defaults = []) (hr : Room k callerA)
    (F : ∀ (w : World) (mg : Str → Option Value) (fa : Addr) (h : Heap), YP w h → h.Ns mainGlobals mg → mg d.name = some (.ref fa) →
      ∃ (K : PySem.W.Frag) (fd : FuncData) (sp : Sp), K.In h ∧ (∀ (s : Shared) (u : Value), BindsTo s fd ⟨[u], []⟩ [(x, u)]) ∧
        (∀ (H : Hp) (a : Addr) (ns : List Int), ns.length ≤ n → Only H → SqL K H a (ns.map V.int) → sp [.ref a] H (fun v _ => v = .bl true) XF) ∧
        ∀ base : Heap, K.In base → base.Ns mainGlobals mg → FnG l.prog w K mg base CX0 k fa fd [x] sp) :
    PySem.W.WalkO q loose XP YP l.row.toRowW d [] (fun f vs => PySem.call f vs) := by
  refine Att.attach_call hn hdf fun w s₀ z mg mb fa o pm cd doc a vs ns G Y ho hd hcd hmg hobj hints hlen hg => ?_
  obtain ⟨K, fd, sp, KX, hb, hsp, hF⟩ := F w mg fa _ Y G.T.g hmg
  exact law_callG KX G.T.g G.T.b G.T.builtins G.T.nolimit hg hobj hints (Nat.le_trans hlen hn2) hr hF hb fun H hO hS => hsp H a ns hlen hO hS
end PV

/-! H2: the whole program keeps its promises, at every level -/
namespace PV
open PySem L2
/-- a def of the program: its function object, its body -/
structure DefF (K : PySem.W.Frag) (f : Addr) (fd : FuncData) (d : FnI) : Prop where
  ex : ∃ (oc : Value) (od : Option Addr) (osl : Array (Option Value)) (name qual : Str) (params : Arguments) (scope : Scope) (dV kV doc pm : Value) (an : Option Addr) (cdv ct : Value), fd = PySem.W.fnOf name qual params d.body scope dV kV doc pm an cdv ct ∧
    K.lookup f = some ⟨oc, od, .func fd, osl⟩ ∧ PySem.W.codeIn K cdv qual = true ∧ FnScope d.N d.params scope ∧ scope.names = d.names
section
variable {gi : GI} {g : GX} {call : Calls} {k j : Nat} {P : Program} {w : World} {K : PySem.W.Frag} {mg : Str → Option Value} {base : Heap} {f : Addr} {fd : FuncData} {d : FnI} {q : Str}
theorem mf_len : (mutFlags d).length = d.params.length := by
  unfold mutFlags
  rw [List.length_map, List.length_range]
theorem mf_pm {i : Nat} (h : (mutFlags d).getD i false = true) : i ∈ pmOf (bodyCtx gi false call d) := by
  unfold mutFlags at h
  rw [List.getD_eq_getElem?_getD, List.getElem?_map] at h
  cases hr : (List.range d.params.length)[i]? with
  | none => rw [hr] at h; cases h
  | some z =>
    rw [hr] at h
    obtain ⟨h1, h2⟩ := List.getElem?_eq_some_iff.mp hr
    rw [List.getElem_range] at h2
    subst h2
    have h3 : decide (i ∈ d.mu) = true := h
    unfold pmOf
    exact List.mem_filter.mpr ⟨List.mem_range.mpr (show i < d.params.length by simpa using h1), h3⟩
theorem tells_all (hf : gi.fn q = some d) : Tells (callFn gi false (j + 1)) q d (bodyM gi false (callFn gi false j) d) := fun args => .inr (by
  show (match gi.fn q with | none => CallRes.bad | some d => runM d (bodyM gi false (callFn gi false j) d) args) = _
  rw [hf])
theorem takes0 {X : Cx} : Takes X W0 := fun u s' ⟨_, _, _, _, _, _, _, _, _, _, _, _, _, _, _, _, w⟩ => w.elim
/-- a def at the next level -/
theorem fn_level (D : DefF K f fd d) (hf : gi.fn q = some d) (G : Glb gi g false (callFn gi false j) k P w K mg base) : FnG P w K mg base CX0 (k + 2) f fd d.params (spT g false (callFn gi false (j + 1)) q (mutFlags d)) := by
  obtain ⟨oc, od, osl, name, qual, params, scope, dV, kV, doc, pm, an, cdv, ct, rfl, lk, hcd, S, hn⟩ := D.ex
  have hps : d.params.length ≤ d.N.length := by
    have := congrArg List.length S.pre
    rw [List.length_take] at this
    omega
  refine fn_ofG lk hcd S (fun vs H Q E h => h.1.trans mf_len) fun A outer s H vs Q E hr hgd hsp => ?_
  have ok : SOk g k (bodyCtx gi false (callFn gi false j) d) (cxOf CX0 P w K mg base d.N qual scope f cdv A outer s H E) :=
    ⟨⟨G, rfl, S.nd, hn, S.kind, rfl, hr, hgd, (fun _ _ => rfl), rfl⟩, passes_of rfl, rfl, rfl, rfl⟩
  exact ⟨_, jss_seqS (js_stmtN (goods 30) 10 _ W0 ok takes0) d.body, sp_red hps mf_len (fun i h => mf_pm h) (tells_all hf) hsp⟩
end
/-- what is known of the program, at no level -/
structure Prg (gi : GI) (g : GX) (P : Program) (w : World) (K : PySem.W.Frag) (mg : Str → Option Value) (base : Heap) : Prop where
  eK : g.toG.K = K
  gerr : g.err = errW g.toG
  wd : ∀ a kvs, g.toG.wd a = some kvs → WD K w a kvs
  clsG : ∀ x C, gi.glob x = some (.cls C) → ∃ a, (g.toG.cls C = some a ∨ g.toG.ecl C = some a) ∧ mg x = some (.ref a)
  isE : ∀ C a, g.toG.ecl C = some a ↔ (g.toG.cls C = some a ∨ g.toG.ecl C = some a) ∧ gi.isExc C = true
  constG : ∀ x t, gi.glob x = some (.const t) → ∃ v u, mg x = some u ∧ RelV v u ∧ ∀ F H, Rep g.toG F H t v []
  free : ∀ x, x ∈ bltNames ++ tyBase → gi.glob x = none → mg x = none
  cls : ∀ C Ca, g.toG.cls C = some Ca → ClsX K Ca
  noat : ∀ C Ca f, g.toG.cls C = some Ca → f ∈ gi.flds → NoAttr K Ca f
  ecls : ∀ C Ca, g.toG.ecl C = some Ca → EcX K Ca
  enoat : ∀ C Ca f, g.toG.ecl C = some Ca → f ∈ gi.flds → PySem.W.findIn K (.ref Ca) f = some none
  fnX : ∀ x q d n ts, gi.glob x = some (.fn q) → gi.fn q = some d → dflOf d 0 n = some ts → ∃ f fd dvs ds, mg x = some (.ref f) ∧ PySem.W.keepIn K (.ref f) = true ∧ DefF K f fd d ∧ Binds K fd d.params ds ∧ Vals dvs ds ∧
    n + ts.length = (mutFlags d).length ∧ ∀ F H, RepL g.toG F H ts dvs []
  fnKX : ∀ x q d n ks pl, gi.glob x = some (.fn q) → gi.fn q = some d → gi.ksig q n ks = some pl → ∃ f fd plv gg, mg x = some (.ref f) ∧ PySem.W.keepIn K (.ref f) = true ∧ Paired (SrcR g) pl plv ∧ DefF K f fd d ∧ KBn K fd d.params n ks gg (fun vs zs => fillV vs zs plv)
  mkX : ∀ C Ca q d n ts, g.toG.cls C = some Ca → gi.meth C "__init__" = some q → gi.fn q = some d → dflOf d 1 n = some ts → ∃ f fd dvs ds, Mk K Ca f ∧ mutFlags d = true :: (mutFlags d).drop 1 ∧ DefF K f fd d ∧ Binds K fd d.params ds ∧ Vals dvs ds ∧
    n + ts.length = ((mutFlags d).drop 1).length ∧ ∀ F H, RepL g.toG F H ts dvs []
  mkKX : ∀ C Ca q d n ks pl, g.toG.cls C = some Ca → gi.meth C "__init__" = some q → gi.fn q = some d → gi.ksig q n ks = some pl → ∃ f fd plv gg gV, Mk K Ca f ∧ mutFlags d = true :: (mutFlags d).drop 1 ∧ Paired (SrcR g) pl plv ∧ DefF K f fd d ∧
    KBn K fd d.params (n + 1) ks gg gV ∧ ∀ v vs zs, gV (v :: vs) zs = v :: fillV vs zs plv
  erX : ∀ C Ca fs n ks pl, g.toG.ecl C = some Ca → gi.ini C = some fs → gi.ksig C n ks = some pl → ∃ fI plv, MkX K Ca fI ∧ Paired (SrcR g) pl plv ∧ ∀ k, FnC P w K mg base CX0 (k + 1) fI (n + 1) ks (spX Ca fs plv)
  erB : ∀ C Ca, g.toG.ecl C = some Ca → gi.inb C = true → MkB K Ca
  exm : ∀ C D Ca Da, g.toG.ecl C = some Ca → g.toG.ecl D = some Da → PySem.W.exmOne K (.ref Ca) (.ref Da) = some (gi.sub C D)
  isaC : ∀ x C, gi.glob x = some (.cls C) → ∀ a, (g.toG.cls C = some a ∨ g.toG.ecl C = some a) → IsK g K gi x (.ref a)
  isaT : ∀ x ∈ tyBase, gi.glob x = none → ∃ n, bootBuiltins x = some (.type n) ∧ IsK g K gi x (.type n)
section
variable {gi : GI} {g : GX} {P : Program} {w : World} {K : PySem.W.Frag} {mg : Str → Option Value} {base : Heap}
/-- a def at each level -/
theorem glb_all (Pr : Prg gi g P w K mg base) : ∀ j, Glb gi g false (callFn gi false j) (2 * j + 1) P w K mg base := by
  have mk : ∀ j, (∀ f fd d q, DefF K f fd d → gi.fn q = some d → FnG P w K mg base CX0 (2 * j + 1) f fd d.params (spT g false (callFn gi false j) q (mutFlags d))) → Glb gi g false (callFn gi false j) (2 * j + 1) P w K mg base := fun j fn => {
    eK := Pr.eK, gerr := Pr.gerr, wd := Pr.wd, clsG := Pr.clsG, isE := Pr.isE, constG := Pr.constG, free := Pr.free, cls := Pr.cls, noat := Pr.noat, ecls := Pr.ecls, enoat := Pr.enoat, erB := Pr.erB, exm := Pr.exm, isaC := Pr.isaC, isaT := Pr.isaT
    fnG := fun x q d n ts h1 h2 h3 => by
      obtain ⟨f, fd, dvs, ds, a1, a2, a3, a4, a5, a6, a7⟩ := Pr.fnX x q d n ts h1 h2 h3
      exact ⟨f, dvs, a1, a2, (fn f fd d q a3 h2).pos a4 a5, a6, a7⟩
    fnK := fun x q d n ks pl h1 h2 h3 => by
      obtain ⟨f, fd, plv, gg, a1, a2, a3, a4, a5⟩ := Pr.fnKX x q d n ks pl h1 h2 h3
      exact ⟨f, plv, a1, a2, a3, (fn f fd d q a4 h2).kw a5⟩
    mkG := fun C Ca q d n ts h1 h2 h3 h4 => by
      obtain ⟨f, fd, dvs, ds, a1, a2, a3, a4, a5, a6, a7⟩ := Pr.mkX C Ca q d n ts h1 h2 h3 h4
      exact ⟨f, dvs, a1, a2, a2 ▸ (fn f fd d q a3 h3).pos a4 a5, a6, a7⟩
    mkK := fun C Ca q d n ks pl h1 h2 h3 h4 => by
      obtain ⟨f, fd, plv, gg, gV, a1, a2, a3, a4, a5, a6⟩ := Pr.mkKX C Ca q d n ks pl h1 h2 h3 h4
      refine ⟨f, plv, a1, a2, a3, ((fn f fd d q a4 h3).kw a5).imp fun vs zs H Q E z => ?_⟩
      obtain ⟨v, vs', rfl, z⟩ := z
      rw [a6]
      exact a2 ▸ z
    erG := fun C Ca fs n ks pl h1 h2 h3 => by
      obtain ⟨fI, plv, a1, a2, a3⟩ := Pr.erX C Ca fs n ks pl h1 h2 h3
      exact ⟨fI, plv, a1, a2, a3 (2 * j)⟩ }
  intro j
  induction j with
  | zero => exact mk 0 fun f fd d q D hf => ⟨fun vs H Q E h => h.1.trans mf_len, fun A outer s H args us vs Q E hr hg e0 hb r h => by obtain ⟨_, F, fp, as, _, _, z⟩ := h; exact z.elim⟩
  | succ j ih => exact mk (j + 1) fun f fd d q D hf => fn_level D hf ih
/-- the law's def -/
theorem law_level (Pr : Prg gi g P w K mg base) {f : Addr} {fd : FuncData} {d : FnI} {q : Str} (D : DefF K f fd d) (hf : gi.fn q = some d) (j : Nat) : FnG P w K mg base CX0 (2 * j + 3) f fd d.params (spT g false (callFn gi false (j + 1)) q (mutFlags d)) :=
  fn_level D hf (glb_all Pr j)
/-- .. answers True -/
theorem law_says {d : FnI} {q : Str} {N : Nat} (hm : mutFlags d = [false]) (hK : g.toG.K = K) {H : Hp} {a : Addr} {ns : List Int} (hS : SqL K H a (ns.map V.int)) (hO : Only H) (h : ∃ as, callFn gi false N q [.lst false (ns.map .int)] = .ret (.bl true) as) :
    spT g false (callFn gi false N) q (mutFlags d) [.ref a] H (fun v _ => v = .bl true) XF := by
  obtain ⟨as, h⟩ := h
  rw [hm]
  have hnum : ∀ ns : List Int, RepL g.toG (fun _ => False) H (ns.map T.int) (ns.map V.int) [] := fun ns => by
    induction ns with
    | nil => exact ⟨rfl, rfl⟩
    | cons n ns ih => exact ⟨.int n, _, [], [], rfl, rfl, ⟨rfl, rfl⟩, ih⟩
  have hl : LstF g.toG.K (fun _ => False) H a (ns.map V.int) := by
    rcases hS with (e | ⟨o, e⟩) | e
    · rcases hO a with z | ⟨o, xs, z⟩
      · rw [z] at e; cases e
      · rw [z] at e; cases e
    · exact .inr (.inl ⟨o, e⟩)
    · rw [hK]; exact .inr (.inr e)
  refine ⟨rfl, fun _ => False, [], [.lst false (ns.map .int)], ⟨List.nodup_nil, (fun _ z => nomatch z), fun _ z => z.elim⟩, ⟨.ref a, [], [], [], rfl, rfl, ⟨a, ns.map V.int, [], rfl, hnum ns, .inr ⟨rfl, hl, rfl, rfl⟩⟩, rfl, rfl⟩, ?_⟩
  rw [h]
  intro v H' F' ft fas _ _ rv _
  exact rv.1
end
end PV

/-! H3: the written part, looked at by a Bool -/
namespace PV
open PySem PySem.Spec L2
/-! ### an __init__ that captures __class__ -/
structure InD where
  cls : Str
  qual : Str
  params : Arguments
  body : List Stmt
  scope : Scope
abbrev FnZ : Type := Option (Str × Str × Arguments × FuncBody × Scope × Addr × List Str × Addr)
def iniA (K : PySem.W.Frag) (C : Str) : Addr := He.ma K (He.ga K C) "__init__"
def fnZ (K : PySem.W.Frag) (a : Addr) : FnZ := match K.lookup a with
  | some ⟨_, _, .func fd, _⟩ => some (fd.name, fd.qualname, fd.params, fd.body, fd.scope, fd.globals, fd.closure.map (·.1), fd.builtins)
  | _ => none
def InD.val (d : InD) : FnZ := some ("__init__", d.qual, d.params, .stmts d.body, d.scope, mainGlobals, ["__class__"], builtinsNs)
def cellB (K : PySem.W.Frag) (cc D : Addr) : Bool := match K.lookup cc with
  | some ⟨_, _, .cell (some (.ref a)), _⟩ => decide (a = D)
  | _ => false
def codeB (K : PySem.W.Frag) (file : Str) (cdv : Value) : Bool := match cdv with
  | .ref c => (match K.lookup c with
    | some ⟨_, _, .fields vs, _⟩ => (match (vs[2]? : Option Value) with
      | some (.str f _) => decide (f = file)
      | _ => false)
    | _ => false)
  | _ => false
def InD.ok (file : Str) (K : PySem.W.Frag) (d : InD) : Bool := match K.lookup (iniA K d.cls) with
  | some ⟨_, _, .func fd, _⟩ => PySem.W.codeIn K fd.code d.qual && codeB K file fd.code && decide (fd.defaults = .none) && (match fd.closure with
    | [(_, cc)] => cellB K cc (He.ga K d.cls)
    | _ => false)
  | _ => false
theorem InD.get {K : PySem.W.Frag} {file : Str} {d : InD} (e : fnZ K (iniA K d.cls) = d.val) (c : d.ok file K = true) : ∃ (oc : Value) (od : Option Addr) (osl : Array (Option Value)) (cc : Addr) (kV doc pm : Value) (an : Option Addr) (cdv ct : Value),
    K.lookup (iniA K d.cls) = some ⟨oc, od, .func (PySem.W.fnX "__init__" d.qual d.params d.body d.scope [(("__class__" : Str), cc)] .none kV doc pm an cdv ct), osl⟩ ∧ PySem.W.codeIn K cdv d.qual = true ∧ codeB K file cdv = true ∧ cellB K cc (He.ga K d.cls) = true := by
  unfold fnZ at e
  unfold InD.ok at c
  cases q : K.lookup (iniA K d.cls) with
  | none => rw [q] at c; cases c
  | some o =>
    obtain ⟨oc, od, dt, osl⟩ := o
    rw [q] at c e
    cases dt with
    | func fd =>
      obtain ⟨n1, n2, n3, n4, n5, n6, n7, n8, n9, n10, n11, n12, n13, n14, n15⟩ := fd
      have e2 : ((n1, n2, n3, n4, n5, n6, n7.map (·.1), n15) : Str × Str × Arguments × FuncBody × Scope × Addr × List Str × Addr) = (("__init__" : Str), d.qual, d.params, FuncBody.stmts d.body, d.scope, mainGlobals, [("__class__" : Str)], builtinsNs) := Option.some.inj e
      simp only [Prod.mk.injEq] at e2
      obtain ⟨h1, h2, h3, h4, h5, h6, h7, h8⟩ := e2
      subst h1 h2 h3 h4 h5 h6 h8
      match n7, h7, c with
      | [(x, cc)], h7, c =>
        have hx : x = ("__class__" : Str) := by simpa using h7
        subst hx
        have c' : ((PySem.W.codeIn K n13 d.qual && codeB K file n13 && decide (n8 = .none)) && cellB K cc (He.ga K d.cls)) = true := c
        obtain ⟨d1, c3⟩ := ja2 c'
        obtain ⟨d2, c4⟩ := ja2 d1
        obtain ⟨c1, c2⟩ := ja2 d2
        have e8 := of_decide_eq_true c4
        clear c c' c4 d1 d2
        subst e8
        exact ⟨oc, od, osl, cc, n9, n10, n11, n12, n13, n14, rfl, c1, c2, c3⟩
    | _ => cases c
/-! ### the hook -/
def asY (g : Addr → Option Obj) : Nat → List Addr
  | 0 => [mainGlobals, cStatics]
  | n + 1 => He.growD g (asY g n)
abbrev AlY : Type := He.AlD × List FnZ × Bool
def obsY (n : Nat) (fa : List He.Fa) (fn : List He.DefD) (ins : List InD) (ex : PySem.W.Frag → Bool) (g : Addr → Option Obj) : AlY :=
  (He.obsD fa fn (He.frT g (asY g n)), ins.map (fun d => fnZ (He.frT g (asY g n)) (iniA (He.frT g (asY g n)) d.cls)), ex (He.frT g (asY g n)))
structure SaysY (fa : List He.Fa) (fn : List He.DefD) (ins : List InD) (ex : PySem.W.Frag → Bool) (K : PySem.W.Frag) : Prop where
  d : He.SaysD fa fn K
  i : ins.map (fun d => fnZ K (iniA K d.cls)) = ins.map InD.val
  ex : ex K = true
theorem SaysY.init {fa : List He.Fa} {fn : List He.DefD} {ins : List InD} {ex : PySem.W.Frag → Bool} {K : PySem.W.Frag} (s : SaysY fa fn ins ex K) {d : InD} (h : d ∈ ins) : fnZ K (iniA K d.cls) = d.val :=
  List.map_inj_left.mp s.i d h
def hookY (n : Nat) (fa : List He.Fa) (fn : List He.DefD) (ins : List InD) (ex : PySem.W.Frag → Bool) : PySem.W.Hook where
  α := AlY
  obs := fun s => obsY n fa fn ins ex s.heap.get?
  val := fun _ => (He.valD fn, ins.map InD.val, true)
  says := fun _ h => ∃ K : PySem.W.Frag, K.In h ∧ SaysY fa fn ins ex K
  of := fun _ s e => ⟨He.frT s.heap.get? (asY s.heap.get? n), He.frT_in, congrArg (fun z : AlY => z.1) e, congrArg (fun z : AlY => z.2.1) e, congrArg (fun z : AlY => z.2.2) e⟩
  keeps := fun _ _ _ ⟨K, hK, c⟩ k => ⟨K, PySem.W.Frag.In.keeps hK k, c⟩
theorem obsY_eq {n : Nat} {fa : List He.Fa} {fn : List He.DefD} {ins : List InD} {ex : PySem.W.Frag → Bool} {g : Addr → Option Obj} {s : Shared} (h : ∀ a, g a = s.heap.get? a) : obsY n fa fn ins ex g = (hookY n fa fn ins ex).obs s := by
  have e : g = s.heap.get? := funext h
  rw [e]
  rfl
/-! ### classes of exceptions -/
section
variable {K : PySem.W.Frag} {a : Addr}
def ecB (K : PySem.W.Frag) (a : Addr) : Bool := (PySem.W.clsIn K a).isSome && xfB K a && decide (PySem.W.findIn K (.ref a) "__class__" = some (some (.builtin "object.__class__"))) &&
  decide (PySem.W.specialIn K (.builtin "object.__class__") "__get__" = some (some (.builtin "getset_descriptor.__get__"))) && decide (PySem.W.takesIn K (.builtin "object.__class__") = some true) && decide (PySem.W.mroIn K a (.type "object") = some true)
theorem ecB_ok (h : ecB K a = true) : EcX K a := by
  obtain ⟨h, h6⟩ := ja2 h
  obtain ⟨h, h5⟩ := ja2 h
  obtain ⟨h, h4⟩ := ja2 h
  obtain ⟨h, h3⟩ := ja2 h
  obtain ⟨h1, h2⟩ := ja2 h
  exact ⟨h1, xfB_ok h2, of_decide_eq_true h3, of_decide_eq_true h4, of_decide_eq_true h5, of_decide_eq_true h6⟩
def oexB1 (K : PySem.W.Frag) (a : Addr) : Bool := match K.lookup a with
  | some ⟨.type t, _, .cls cd, sl⟩ => decide (t = "type") && (match cd.mro, sl.toList with
    | .ref c :: bm, [_, _, _, _, some (.builtin n), _] => decide (c = a) && decide (n = "ValueError.__new__") && cd.hasDict && !cd.hasDel && PySem.HandSPX.refsVE bm
    | _, _ => false)
  | _ => false
theorem oexB1_ok (h : oexB1 K a = true) : ∃ nm q N bs bm sn sub ab col dd k0 k1 k2 k3 k5, K.lookup a = some (PySem.excClassObj nm q a N bs bm true sn sub ab col dd k0 k1 k2 k3 k5 "ValueError.__new__") ∧ PySem.HandSPX.refsVE bm = true := by
  unfold oexB1 at h
  split at h
  · rename_i t dd cd sl hl
    obtain ⟨ht, hh⟩ := ja2 h
    clear h
    have ht2 := of_decide_eq_true ht
    clear ht
    subst ht2
    split at hh
    · rename_i c bm k0 k1 k2 k3 n k5 hm hs
      obtain ⟨hh, h5⟩ := ja2 hh
      obtain ⟨hh, h4⟩ := ja2 hh
      obtain ⟨hh, h3⟩ := ja2 hh
      obtain ⟨h1, h2⟩ := ja2 hh
      have h1 := of_decide_eq_true h1
      have h2 := of_decide_eq_true h2
      clear hh
      subst h1 h2
      obtain ⟨nm, bs, mro, ns, qn, hd, sn, sub, ab, col, dl⟩ := cd
      dsimp only at hm h3 h4
      subst hm h3
      have h4 : dl = false := by simpa using h4
      subst h4
      obtain ⟨l⟩ := sl
      dsimp only at hs
      subst hs
      exact ⟨nm, qn, ns, bs, bm, sn, sub, ab, col, dd, k0, k1, k2, k3, k5, hl, h5⟩
    · cases hh
  · cases h
def oexB (K : PySem.W.Frag) (a : Addr) : Bool := oexB1 K a && decide (PySem.W.findIn K (.ref a) "__setattr__" = some (some (.builtin "object.__setattr__"))) && decide (PySem.W.subIn K (.ref a) (.type "BaseException") = some true) && decide (PySem.W.typeIn K (.ref a) = some (.type "type")) && PySem.W.keepIn K (.ref a)
theorem oexB_ok (h : oexB K a = true) : OexC K a := by
  obtain ⟨h, h5⟩ := ja2 h
  obtain ⟨h, h4⟩ := ja2 h
  obtain ⟨h, h3⟩ := ja2 h
  obtain ⟨h1, h2⟩ := ja2 h
  exact ⟨oexB1_ok h1, of_decide_eq_true h2, of_decide_eq_true h3, of_decide_eq_true h4, h5⟩
/-- an exception's class with its own __init__ -/
def inixB (K : PySem.W.Frag) (C : Str) : Bool := oexB K (He.ga K C) && decide (PySem.W.findIn K (.ref (He.ga K C)) "__init__" = some (some (.ref (iniA K C)))) && decide (PySem.W.typeIn K (.ref (iniA K C)) = some (.type "function")) &&
  decide (PySem.W.ks_superIn K (He.ga K C) (He.ga K C) "__init__" = some (some (.builtin "ValueError.__init__"))) && decide (PySem.W.subIn K (.ref (He.ga K C)) (.type "ValueError") = some true) && (PySem.W.clsIn K (He.ga K C)).isSome && decide (PySem.W.mroIn K (He.ga K C) (.ref (He.ga K C)) = some true)
theorem inixB_ok {C : Str} (h : inixB K C = true) : MkX K (He.ga K C) (iniA K C) ∧ SupX K (He.ga K C) ∧ (∃ cd, PySem.W.clsIn K (He.ga K C) = some cd) ∧ PySem.W.mroIn K (He.ga K C) (.ref (He.ga K C)) = some true := by
  obtain ⟨h, h7⟩ := ja2 h
  obtain ⟨h, h6⟩ := ja2 h
  obtain ⟨h, h5⟩ := ja2 h
  obtain ⟨h, h4⟩ := ja2 h
  obtain ⟨h, h3⟩ := ja2 h
  obtain ⟨h1, h2⟩ := ja2 h
  have o := oexB_ok h1
  exact ⟨⟨o, of_decide_eq_true h2, of_decide_eq_true h3⟩, ⟨of_decide_eq_true h4, of_decide_eq_true h5, o⟩, Option.isSome_iff_exists.mp h6, of_decide_eq_true h7⟩
/-- .. without one -/
def inbB (K : PySem.W.Frag) (a : Addr) : Bool := PySem.W.excIn K a veTail "ValueError.__new__" && PySem.W.keepIn K (.ref a) && decide (PySem.W.subIn K (.ref a) (.type "BaseException") = some true) && decide (PySem.W.typeIn K (.ref a) = some (.type "type"))
theorem inbB_ok (h : inbB K a = true) : MkB K a := by
  obtain ⟨h, h4⟩ := ja2 h
  obtain ⟨h, h3⟩ := ja2 h
  obtain ⟨h1, h2⟩ := ja2 h
  exact ⟨h1, h2, of_decide_eq_true h3, of_decide_eq_true h4⟩
end
/-! ### isinstance -/
def chk (o : Option Bool) (r : Option Bool) : Bool := match o with
  | none => true
  | some b => decide (r = some b)
theorem chk_ok {o r : Option Bool} {b : Bool} (h : chk o r = true) (e : o = some b) : r = some b := by
  subst e
  exact of_decide_eq_true h
def isKB (gi : GI) (K : PySem.W.Frag) (cl ec : List (Str × Addr)) (c : Str) (u : Value) : Bool :=
  chk (isA gi .non c) (PySem.W.kitOne K (.type "NoneType") u) && chk (isA gi (.bl true) c) (PySem.W.kitOne K (.type "bool") u) && chk (isA gi (.int 0) c) (PySem.W.kitOne K (.type "int") u) && chk (isA gi (.str Str.empty) c) (PySem.W.kitOne K (.type "str") u) &&
  chk (isA gi (.tup []) c) (PySem.W.kitOne K (.type "tuple") u) && chk (isA gi (.lst true []) c) (PySem.W.kitOne K (.type "list") u) && chk (isA gi (.dct true [] []) c) (PySem.W.kitOne K (.type "dict") u) &&
  (cl.all fun q => chk (isA gi (.ins true q.1 [] []) c) (PySem.W.kitOne K (.ref q.2) u)) && (ec.all fun q => chk (isA gi (.err q.1 [] []) c) (PySem.W.kitOne K (.ref q.2) u))
theorem lookup_in {α : Type} {x : Str} {v : α} : ∀ {l : List (Str × α)}, l.lookup x = some v → (x, v) ∈ l
  | [], h => by cases h
  | (y, u) :: l, h => by
    rw [List.lookup_cons] at h
    split at h
    · rename_i e
      cases h
      rw [eq_of_beq e]
      exact List.mem_cons_self
    · exact List.mem_cons_of_mem _ (lookup_in h)
theorem isKB_ok {gi : GI} {g : GX} {K : PySem.W.Frag} {cl ec : List (Str × Addr)} {c : Str} {u : Value} (hcl : ∀ C, g.toG.cls C = cl.lookup C) (hec : ∀ C, g.toG.ecl C = ec.lookup C) (h : isKB gi K cl ec c u = true) : IsK g K gi c u := by
  obtain ⟨h, h9⟩ := ja2 h
  obtain ⟨h, h8⟩ := ja2 h
  obtain ⟨h, h7⟩ := ja2 h
  obtain ⟨h, h6⟩ := ja2 h
  obtain ⟨h, h5⟩ := ja2 h
  obtain ⟨h, h4⟩ := ja2 h
  obtain ⟨h, h3⟩ := ja2 h
  obtain ⟨h1, h2⟩ := ja2 h
  refine ⟨fun b e => chk_ok h1 e, fun k b e => chk_ok h2 e, fun k b e => chk_ok h3 e, fun k b e => chk_ok h4 e, fun k b e => chk_ok h5 e, fun o k b e => chk_ok h6 e, fun o k m b e => chk_ok h7 e, fun o C ks vs Ca b hC e => ?_, fun C ks vs Ca b hC e => ?_⟩
  · exact chk_ok (List.all_eq_true.mp h8 (C, Ca) (lookup_in (by rw [← hcl]; exact hC))) e
  · exact chk_ok (List.all_eq_true.mp h9 (C, Ca) (lookup_in (by rw [← hec]; exact hC))) e
end PV

/-! H4: exceptions' __init__ by a call's form; defs without defaults -/
namespace PV
open PySem PySem.Spec L2
def fillU (us ws : List Value) (l : List SrcV) : List Value := l.map fun s => match s with | .pos i => us.getD i .none | .kw i => ws.getD i .none | .dfl _ => .none
def noD (l : List SrcV) : Bool := l.all fun s => match s with | .dfl _ => false | _ => true
theorem vals_getD : ∀ {vs : List V} {us : List Value} (i : Nat), Vals vs us → RelV (vs.getD i .non) (us.getD i .none)
  | _, _, i, .nil => by simp [RelV]
  | _, _, 0, .cons r _ => by simpa using r
  | _, _, i + 1, .cons _ t => by simpa using vals_getD i t
theorem fill_rel {vs zs : List V} {us ws : List Value} (r : Vals vs us) (rz : Vals zs ws) : ∀ {l : List SrcV}, noD l = true → Vals (fillV vs zs l) (fillU us ws l)
  | [], _ => .nil
  | s :: l, h => by
    unfold noD at h
    rw [List.all_cons] at h
    obtain ⟨h1, h2⟩ := ja2 h
    refine .cons ?_ (fill_rel r rz h2)
    cases s with
    | pos i => exact vals_getD i r
    | kw i => exact vals_getD i rz
    | dfl v => cases h1
theorem vals_tail {vs : List V} {us : List Value} (r : Vals vs us) : Vals vs.tail us.tail := by
  cases r with
  | nil => exact .nil
  | cons _ t => exact t
theorem vals_head {vs : List V} {us : List Value} (r : Vals vs us) : RelV (vs.headD .non) (us.headD .none) := by
  cases r with
  | nil => exact rfl
  | cons h _ => exact h
theorem kbn_fill {K : PySem.W.Frag} {fd : FuncData} {ps ks : List Str} {n : Nat} {l : List SrcV} (h : ∀ us ws : List Value, us.length = n → ws.length = ks.length → bindArgs fd ⟨us, ks.zip ws⟩ = pure (ps.zip (us.headD .none :: fillU us.tail ws l))) (nd : noD l = true) :
    KBn K fd ps n ks (fun us ws => us.headD .none :: fillU us.tail ws l) (fun vs zs => vs.headD .non :: fillV vs.tail zs l) :=
  ⟨fun s us ws _ h1 h2 => .of_eq (h us ws h1 h2), fun r rz => .cons (vals_head r) (fill_rel (vals_tail r) rz nd)⟩
def srcV : Src → SrcV
  | .pos i => .pos i
  | .kw i => .kw i
  | .dfl _ => .pos 0
def noDS (l : List Src) : Bool := l.all fun s => match s with | .dfl _ => false | _ => true
theorem src_pair {g : GX} : ∀ {l : List Src}, noDS l = true → Paired (SrcR g) l (l.map srcV)
  | [], _ => .nil
  | s :: l, h => by
    unfold noDS at h
    rw [List.all_cons] at h
    obtain ⟨h1, h2⟩ := ja2 h
    refine .cons ?_ (src_pair h2)
    cases s with
    | pos i => exact .pos i
    | kw i => exact .kw i
    | dfl v => cases h1
theorem src_noD : ∀ {l : List Src}, noD (l.map srcV) = true
  | [] => rfl
  | s :: l => by
    have ih : noD (l.map srcV) = true := src_noD
    cases s <;> exact ih
/-- C(..) by such a form -/
theorem er_sig {P : Program} {w : World} {K : PySem.W.Frag} {mg : Str → Option Value} {base : Heap} {k n : Nat} {fI Ca : Addr} {fd : FuncData} {fs ks : List Str} {pl : List Src} (F : FnG P w K mg base CX0 k fI fd ("self" :: fs) (spE Ca fs))
    (h : ∀ us ws : List Value, us.length = n + 1 → ws.length = ks.length → bindArgs fd ⟨us, ks.zip ws⟩ = pure ((("self" : Str) :: fs).zip (us.headD .none :: fillU us.tail ws (pl.map srcV)))) : FnC P w K mg base CX0 k fI (n + 1) ks (spX Ca fs (pl.map srcV)) :=
  (F.kw (kbn_fill h src_noD)).imp fun vs zs H Q E z => by
    obtain ⟨v, vs', rfl, z⟩ := z
    exact z
theorem dfl_none {d : FnI} (h1 : d.dfl = []) (h2 : d.vararg = false) {n : Nat} {ts : List T} (e : dflOf d 0 n = some ts) : ts = [] ∧ n = d.params.length := by
  unfold dflOf at e
  rw [h1, h2] at e
  simp only [Nat.sub_zero, Bool.false_or, List.length_nil, List.drop_nil] at e
  split at e
  · cases e
  · rename_i hn
    simp only [Bool.or_eq_true, decide_eq_true_eq, not_or, Nat.not_lt, Nat.le_zero] at hn
    cases e
    exact ⟨rfl, by omega⟩
theorem defF_of {K : PySem.W.Frag} {x qual : Str} {params : Arguments} {scope : Scope} {dvs : List V} {kws : List (Str × V)} {f : Addr} {fd : FuncData} {d : FnI} (F : FunD K x qual params d.body scope dvs kws f fd) (S : FnScope d.N d.params scope) (hn : scope.names = d.names) : DefF K f fd d := by
  obtain ⟨oc, od, dV, kV, doc, pm, an, cdv, ct, osl, rfl, lk, hcd, _, _⟩ := F.ex
  exact ⟨oc, od, osl, x, qual, params, scope, dV, kV, doc, pm, an, cdv, ct, rfl, lk, hcd, S, hn⟩
/-- what SupD asks, from the checks -/
theorem supD_of {P : Program} {K : PySem.W.Frag} {mg : Str → Option Value} {f cc D : Addr} {cdv : Value} {file : Str} {oc : Value} {od : Option Addr} {osl : Array (Option Value)} {fd : FuncData} {ar : Arg} (lk : K.lookup f = some ⟨oc, od, .func fd, osl⟩) (h1 : (fd.params.posonlyargs ++ fd.params.args).head? = some ar) (h2 : ar.arg = ("self" : Str))
    (hc : cellB K cc D = true) (hk : codeB K file cdv = true) (hfile : ((P.main.file : Str) == file) = true) (hcls : ∃ cd, PySem.W.clsIn K D = some cd) (hsub : PySem.W.mroIn K D (.ref D) = some true) (hfree : mg "super" = none) (htop : (P.main.scope.names.lookup ("super" : Str)).isSome = false) (hopq : PySem.W.nsIn K cStatics "thirdparty.any" = some none) : SupD P K mg f cc D cdv := by
  refine ⟨⟨oc, od, osl, fd, ar, lk, h1, h2⟩, ?_, ?_, hcls, hsub, hfree, htop, hopq⟩
  · unfold cellB at hc
    split at hc
    · rename_i cl cld a csl hl
      cases of_decide_eq_true hc
      exact ⟨_, _, _, hl⟩
    · cases hc
  · unfold codeB at hk
    split at hk
    · rename_i c
      split at hk
      · rename_i ccl cdd vs ccs hl
        split at hk
        · rename_i f' tf hv
          have e := of_decide_eq_true hk
          subst e
          exact ⟨c, ccl, cdd, vs, ccs, _, tf, rfl, hl, hv, hfile⟩
        · cases hk
      · cases hk
    · cases hk
end PV

/-! P0: the plain law: evaluations, piece by piece -/
namespace PV
open PySem L2
theorem bind_ok {α β : Type} {m : M α} {f : α → M β} {E E1 : PV.Env} {a : α} (h : m E = .ok a E1) : M.bind m f E = f a E1 := by
  unfold M.bind
  rw [h]
theorem ev_two {α : Type} {q : Bool} {a b : M R} {f : T → T → Option α} {E : PV.Env} {x y : R} {t u : T} {z : α} (ha : a E = .ok x E) (hq : (!(deep x) || q) = true) (hb : b E = .ok y E) (hx : view x E = some t) (hy : view y E = some u) (hz : f t u = some z) : two q a b f E = .ok z E := by
  unfold two
  rw [bind_ok ha, hq]
  show M.bind (M.pure ()) _ E = _
  rw [show M.bind (M.pure ()) (fun _ => M.bind b fun s => M.bind (viewR x) fun x => M.bind (viewR s) fun y => ofO (f x y)) E = (M.bind b fun s => M.bind (viewR x) fun x => M.bind (viewR s) fun y => ofO (f x y)) E from rfl, bind_ok hb]
  have e1 : viewR x E = .ok t E := by unfold viewR; rw [hx]
  have e2 : viewR y E = .ok u E := by unfold viewR; rw [hy]
  rw [bind_ok e1, bind_ok e2, hz]
  rfl
theorem ev_bin {op : Operator} {q : Bool} {a b : M R} {E : PV.Env} {x y : R} {t u z : T} (ha : a E = .ok x E) (hq : (!(deep x) || q) = true) (hb : b E = .ok y E) (hx : view x E = some t) (hy : view y E = some u) (hz : binop op t u = some z) : cBin op q a b E = .ok (.val z) E := by
  unfold cBin
  rw [bind_ok (ev_two ha hq hb hx hy hz)]
  rfl
theorem ev_b1 {f : T → Option T} {a : M R} {E : PV.Env} {x : R} {t z : T} (ha : a E = .ok x E) (hx : view x E = some t) (hz : f t = some z) : cB1 f a E = .ok (.val z) E := by
  unfold cB1
  have e1 : viewR x E = .ok t E := by unfold viewR; rw [hx]
  rw [bind_ok ha, bind_ok e1, hz]
  rfl
theorem ev_and {a b : M Bool} {E : PV.Env} {k k' : Bool} (ha : a E = .ok k E) (hb : k = true → b E = .ok k' E) : tAnd a b E = .ok (k && k') E := by
  unfold tAnd
  rw [bind_ok ha]
  cases k with
  | true => exact hb rfl
  | false => rfl
theorem ev_asg {m : M R} {g : T → M Unit} {E E1 : PV.Env} {t : T} (h : m E = .ok (.val t) E) (hg : g t E = .ok () E1) : sAsg m g E = .ok .nx E1 := by
  unfold sAsg
  rw [bind_ok h]
  show M.bind (takeR (.val t)) _ E = _
  rw [bind_ok (show takeR (.val t) E = .ok t E from rfl), bind_ok hg]
  rfl
theorem ev_ret {m : M R} {E : PV.Env} {t : T} (h : m E = .ok (.val t) E) : sRet m E = .ok (.ret t) E := by
  unfold sRet
  rw [bind_ok h]
  rfl
theorem ev_if {t : M Bool} {a b : M Fl} {E : PV.Env} {k : Bool} (h : t E = .ok k E) : cIf t a b E = if k = true then a E else b E := by
  unfold cIf
  rw [bind_ok h]
  cases k <;> rfl
theorem seq_nx {f : Stmt → M Fl} {s s' : Stmt} {ss : List Stmt} {E E1 : PV.Env} (h : f s E = .ok .nx E1) : seqS f (s :: s' :: ss) E = seqS f (s' :: ss) E1 := by
  show sSeq (f s) (seqS f (s' :: ss)) E = _
  unfold sSeq
  rw [bind_ok h]
theorem seq_ret {f : Stmt → M Fl} {s s' : Stmt} {ss : List Stmt} {E E1 : PV.Env} {t : T} (h : f s E = .ok (.ret t) E1) : seqS f (s :: s' :: ss) E = .ok (.ret t) E1 := by
  show sSeq (f s) (seqS f (s' :: ss)) E = _
  unfold sSeq
  rw [bind_ok h]
  rfl
/-! ### lists of ints -/
theorem pure_ints : ∀ ns : List Int, T.pureL (ns.map T.int) = true
  | [] => rfl
  | n :: ns => by
    rw [List.map_cons]
    show (true && T.pureL (ns.map T.int)) = true
    rw [pure_ints ns]
    rfl
theorem data_ints (k : Nat) : ∀ ns : List Int, dataL (k + 1) (ns.map T.int) = some (ns.map PyData.int)
  | [] => rfl
  | n :: ns => by
    rw [List.map_cons]
    show (match dataT (k + 1) (.int n), dataL (k + 1) (ns.map T.int) with | some d, some ds => some (d :: ds) | _, _ => none) = _
    rw [data_ints k ns]
    rfl
theorem ne_nil {ei : T → T → Option Bool} {o o2 : Bool} {ns : List Int} (h : ns ≠ []) : cmpop ei .NotEq (.lst o (ns.map T.int)) (.lst o2 []) = some true := by
  show (match dataT 60 (.lst o (ns.map T.int)), dataT 60 (.lst o2 []) with | some d, some e => some (PyData.eqv d e) | _, _ => none).map (!·) = _
  have e : dataT 60 (.lst o (ns.map T.int)) = some (.list (ns.map PyData.int)) := by
    show (dataL 59 (ns.map T.int)).map PyData.list = _
    rw [data_ints 58 ns]
    rfl
  rw [e]
  cases ns with
  | nil => exact absurd rfl h
  | cons n ns => rfl
theorem mod_ok {a b : Int} (h : b ≠ 0) : binop .Mod (.int a) (.int b) = some (.int (a.fmod b)) := by
  show (if b ≠ 0 then some (T.int (a.fmod b)) else none) = _
  rw [if_pos h]
theorem div_ok {a b : Int} (h : b ≠ 0) (h2 : b.natAbs < 1073741824) : binop .FloorDiv (.int a) (.int b) = some (.int (a.fdiv b)) := by
  show (if b ≠ 0 ∧ b.natAbs < 1073741824 then some (T.int (a.fdiv b)) else none) = _
  rw [if_pos ⟨h, h2⟩]
theorem mul_ok {a b : Int} (h : -(2 ^ 64) < b ∧ b < 2 ^ 64) : binop .Mult (.int a) (.int b) = some (.int (a * b)) := by
  show (if (small a || small b) = true then some (T.int (a * b)) else none) = _
  have hs : small b = true := by
    unfold small
    rw [decide_eq_true h.1, decide_eq_true h.2]
    rfl
  rw [hs, Bool.or_true, if_pos rfl]
theorem pow_ok {a b : Int} (h : 0 ≤ b ∧ b ≤ 1000000 ∧ a.natAbs < 2 ^ 64) : binop .Pow (.int a) (.int b) = some (.int (a ^ b.toNat)) := by
  show (if 0 ≤ b ∧ b ≤ 1000000 ∧ a.natAbs < 2 ^ 64 then some (T.int (a ^ b.toNat)) else none) = _
  rw [if_pos h]
theorem ix_fmod {l : Int} {n : Nat} (h : 0 < n) : ∃ i, ixN n (l.fmod n) = some i ∧ i < n := by
  have h1 : 0 ≤ l.fmod n := Int.fmod_nonneg_of_pos l (by omega)
  have h2 : l.fmod n < n := Int.fmod_lt_of_pos l (by omega)
  refine ⟨(l.fmod n).toNat, ?_, by omega⟩
  unfold ixN
  rw [if_pos h1, if_pos h2]
theorem ev_cell {a b : M R} {E : PV.Env} {i k : Nat} {p : List Sel} {o : Bool} {ns : List Int} {j : Int} (ha : a E = .ok (.plc i p) E) (hp : plcGet i p E = some (.lst o (ns.map T.int))) (hb : b E = .ok (.val (.int j)) E) (hk : ixN ns.length j = some k) (hl : k < ns.length) :
    cSub true a b E = .ok (.val (.int (ns.getD k 0))) E := by
  have e1 : viewR (.val (.int j)) E = .ok (.int j) E := rfl
  have e2 : viewR (.plc i p) E = .ok (.lst o (ns.map T.int)) E := by
    unfold viewR view
    dsimp only
    rw [hp]
  have e3 : selOf (.lst o (ns.map T.int)) (.int j) = some (.idx k) := by
    show (ixN (ns.map T.int).length j).map Sel.idx = _
    rw [List.length_map, hk]
    rfl
  have e4 : (T.lst o (ns.map T.int)).get [.idx k] = some (.int (ns.getD k 0)) := by
    show (((ns.map T.int)[k]?).bind fun t => t.get []) = _
    rw [List.getElem?_map, List.getD_eq_getElem?_getD, List.getElem?_eq_getElem hl]
    rfl
  have e5 : subR (.plc i p) (.int j) E = .ok (.val (.int (ns.getD k 0))) E := by
    unfold subR
    rw [bind_ok e2]
    show selR _ _ _ E = _
    unfold selR
    rw [e3]
    dsimp only
    rw [e4]
    rfl
  unfold cSub
  rw [bind_ok ha]
  show M.bind b _ E = _
  rw [bind_ok hb, bind_ok e1, e5]
theorem ev_list {l : M (List T)} {E : PV.Env} {ts : List T} (h : l E = .ok ts E) (hl : ts.length ≤ lim) : cList l E = .ok (.val (.lst true ts)) E := by
  have e : limL l E = .ok ts E := by
    unfold limL
    rw [bind_ok h, decide_eq_true hl]
    rfl
  unfold cList
  rw [bind_ok e]
  rfl
theorem ev_call {call : Calls} {q : Str} {ms : List Bool} {es : M (List R)} {E E0 E1 E2 : PV.Env} {rs : List R} {ts as : List T} {r : T} (hes : es E = .ok rs E0) (hlen : (rs ++ ([] : List T).map R.val).length = ms.length) (hl : lend (rs ++ ([] : List T).map R.val) ms E0 = some (ts, E1)) (hc : call q ts = .ret r as)
    (hf : (!(anyFrz (rs ++ ([] : List T).map R.val) ms) || (T.noFrz r && noFrzM ms as)) = true) (hg : giveBack (rs ++ ([] : List T).map R.val) ms as E1 = some E2) : cCall0 false call q ms [] es E = .ok (.val r) E2 := by
  have e : doCall false call q ms (rs ++ ([] : List T).map R.val) E0 = .ok r E2 := by
    unfold doCall
    rw [if_pos hlen, hl]
    dsimp only
    rw [hc]
    dsimp only
    rw [if_pos hf, hg]
  unfold cCall0
  rw [bind_ok hes, bind_ok e]
  rfl
theorem ev_sub {q : Bool} {a b : M R} {E E1 : PV.Env} {r s x : R} {k : T} (ha : a E = .ok r E) (hq : (!(isPlc r) || q) = true) (hb : b E = .ok s E1) (hv : view s E1 = some k) (hs : subR r k E1 = .ok x E1) : cSub q a b E = .ok x E1 := by
  have e1 : viewR s E1 = .ok k E1 := by unfold viewR; rw [hv]
  unfold cSub
  rw [bind_ok ha, hq]
  show M.bind b _ E = _
  rw [bind_ok hb, bind_ok e1, hs]
theorem ev_ret2 {m : M R} {E E1 : PV.Env} {t : T} (h : m E = .ok (.val t) E1) : sRet m E = .ok (.ret t) E1 := by
  unfold sRet
  rw [bind_ok h]
  rfl
end PV

namespace PV
open PySem PySem.Spec L2
def top (i : Nat) : Stmt := PySem.Challenge.pw_deepasdrawn_k00_errors_keep_their_fields.main.body.getD i (.Pass ⟨0, 0, 0, 0⟩)
def d_BadValue___init__ : FnI := ⟨[("self" : Str), ("part" : Str)], [("self" : Str), ("part" : Str)], [0], [], (defScope (inClass (top 2) 0)).names, defBody (inClass (top 2) 0), [], false, some ("BadValue" : Str)⟩
def d_BadNumber___init__ : FnI := ⟨[("self" : Str), ("part" : Str)], [("self" : Str), ("part" : Str)], [0], [], (defScope (inClass (top 3) 0)).names, defBody (inClass (top 3) 0), [], false, some ("BadNumber" : Str)⟩
def d_Misfit___init__ : FnI := ⟨[("self" : Str), ("part" : Str)], [("self" : Str), ("part" : Str)], [0], [], (defScope (inClass (top 4) 0)).names, defBody (inClass (top 4) 0), [], false, some ("Misfit" : Str)⟩
def d_TooMany___init__ : FnI := ⟨[("self" : Str), ("what" : Str), ("most" : Str)], [("self" : Str), ("what" : Str), ("most" : Str)], [0], [], (defScope (inClass (top 5) 0)).names, defBody (inClass (top 5) 0), [], false, some ("TooMany" : Str)⟩
def d_NoName___init__ : FnI := ⟨[("self" : Str), ("name" : Str)], [("self" : Str), ("name" : Str)], [0], [], (defScope (inClass (top 6) 0)).names, defBody (inClass (top 6) 0), [], false, some ("NoName" : Str)⟩
def d_Nothing___init__ : FnI := ⟨[("self" : Str), ("word" : Str)], [("self" : Str), ("word" : Str)], [0], [], (defScope (inClass (top 7) 0)).names, defBody (inClass (top 7) 0), [], false, some ("Nothing" : Str)⟩
def d_BadText___init__ : FnI := ⟨[("self" : Str), ("line" : Str), ("word" : Str)], [("self" : Str), ("line" : Str), ("word" : Str)], [0], [], (defScope (inClass (top 8) 0)).names, defBody (inClass (top 8) 0), [], false, some ("BadText" : Str)⟩
def d_BadLine___init__ : FnI := ⟨[("self" : Str), ("word" : Str)], [("self" : Str), ("word" : Str)], [0], [], (defScope (inClass (top 9) 0)).names, defBody (inClass (top 9) 0), [], false, some ("BadLine" : Str)⟩
def d__law_pen : FnI := ⟨[("script" : Str)], [("script" : Str)], [], [], (defScope (top 11)).names, defBody (top 11), [], false, none⟩
def d__law_draw : FnI := ⟨[("pen" : Str), ("many" : Str)], [("pen" : Str), ("many" : Str), ("digit" : Str), ("lap" : Str), ("cell" : Str), ("great" : Str), ("mixed" : Str)], [0], [], (defScope (top 12)).names, defBody (top 12), [], false, none⟩
def d__law_pick : FnI := ⟨[("pen" : Str), ("some" : Str)], [("pen" : Str), ("some" : Str)], [0], [], (defScope (top 13)).names, defBody (top 13), [], false, none⟩
def d__law_caught : FnI := ⟨[("one" : Str)], [("one" : Str), ("found" : Str), ("caught" : Str)], [], [], (defScope (top 14)).names, defBody (top 14), [], false, none⟩
def d_law : FnI := ⟨[("script" : Str)], [("script" : Str), ("pen" : Str), ("one" : Str), ("other" : Str), ("made" : Str), ("named" : Str), ("some" : Str), ("told" : Str), ("at" : Str), ("error" : Str), ("sorts" : Str), ("spot" : Str)], [1], [1], (defScope (top 15)).names, defBody (top 15), [], false, none⟩
def fnT : List (Str × FnI) := [(("BadValue.__init__" : Str), d_BadValue___init__), (("BadNumber.__init__" : Str), d_BadNumber___init__), (("Misfit.__init__" : Str), d_Misfit___init__), (("TooMany.__init__" : Str), d_TooMany___init__), (("NoName.__init__" : Str), d_NoName___init__), (("Nothing.__init__" : Str), d_Nothing___init__), (("BadText.__init__" : Str), d_BadText___init__), (("BadLine.__init__" : Str), d_BadLine___init__), (("_law_pen" : Str), d__law_pen), (("_law_draw" : Str), d__law_draw), (("_law_pick" : Str), d__law_pick), (("_law_caught" : Str), d__law_caught), (("law" : Str), d_law)]
def globT : List (Str × Glob) := [(("_law_pen" : Str), .fn ("_law_pen" : Str)), (("_law_draw" : Str), .fn ("_law_draw" : Str)), (("_law_pick" : Str), .fn ("_law_pick" : Str)), (("_law_caught" : Str), .fn ("_law_caught" : Str)), (("law" : Str), .fn ("law" : Str)), (("ChartError" : Str), .cls ("ChartError" : Str)), (("BadValue" : Str), .cls ("BadValue" : Str)), (("BadNumber" : Str), .cls ("BadNumber" : Str)), (("Misfit" : Str), .cls ("Misfit" : Str)), (("TooMany" : Str), .cls ("TooMany" : Str)), (("NoName" : Str), .cls ("NoName" : Str)), (("Nothing" : Str), .cls ("Nothing" : Str)), (("BadText" : Str), .cls ("BadText" : Str)), (("BadLine" : Str), .cls ("BadLine" : Str))]
def methT : List ((Str × Str) × Str) := [((("BadValue" : Str), ("__init__" : Str)), ("BadValue.__init__" : Str)), ((("BadNumber" : Str), ("__init__" : Str)), ("BadNumber.__init__" : Str)), ((("Misfit" : Str), ("__init__" : Str)), ("Misfit.__init__" : Str)), ((("TooMany" : Str), ("__init__" : Str)), ("TooMany.__init__" : Str)), ((("NoName" : Str), ("__init__" : Str)), ("NoName.__init__" : Str)), ((("Nothing" : Str), ("__init__" : Str)), ("Nothing.__init__" : Str)), ((("BadText" : Str), ("__init__" : Str)), ("BadText.__init__" : Str)), ((("BadLine" : Str), ("__init__" : Str)), ("BadLine.__init__" : Str))]
def supT : List ((Str × Str) × Str) := []
def subTab : List (Str × Str) := [(("ChartError" : Str), ("ChartError" : Str)), (("ChartError" : Str), ("ValueError" : Str)), (("BadValue" : Str), ("BadValue" : Str)), (("BadValue" : Str), ("ChartError" : Str)), (("BadValue" : Str), ("ValueError" : Str)), (("BadNumber" : Str), ("BadNumber" : Str)), (("BadNumber" : Str), ("ChartError" : Str)), (("BadNumber" : Str), ("ValueError" : Str)), (("Misfit" : Str), ("Misfit" : Str)), (("Misfit" : Str), ("ChartError" : Str)), (("Misfit" : Str), ("ValueError" : Str)), (("TooMany" : Str), ("TooMany" : Str)), (("TooMany" : Str), ("ChartError" : Str)), (("TooMany" : Str), ("ValueError" : Str)), (("NoName" : Str), ("NoName" : Str)), (("NoName" : Str), ("ChartError" : Str)), (("NoName" : Str), ("ValueError" : Str)), (("Nothing" : Str), ("Nothing" : Str)), (("Nothing" : Str), ("ChartError" : Str)), (("Nothing" : Str), ("ValueError" : Str)), (("BadText" : Str), ("BadText" : Str)), (("BadText" : Str), ("ChartError" : Str)), (("BadText" : Str), ("ValueError" : Str)), (("BadLine" : Str), ("BadLine" : Str)), (("BadLine" : Str), ("ChartError" : Str)), (("BadLine" : Str), ("ValueError" : Str))]
def excT : List Str := [("ChartError" : Str), ("BadValue" : Str), ("BadNumber" : Str), ("Misfit" : Str), ("TooMany" : Str), ("NoName" : Str), ("Nothing" : Str), ("BadText" : Str), ("BadLine" : Str)]
def fldT : List Str := [("part" : Str), ("what" : Str), ("most" : Str), ("name" : Str), ("word" : Str), ("line" : Str)]
def iniT : List (Str × List Str) := [(("BadValue" : Str), [("part" : Str)]), (("BadNumber" : Str), [("part" : Str)]), (("Misfit" : Str), [("part" : Str)]), (("TooMany" : Str), [("what" : Str), ("most" : Str)]), (("NoName" : Str), [("name" : Str)]), (("Nothing" : Str), [("word" : Str)]), (("BadText" : Str), [("line" : Str), ("word" : Str)]), (("BadLine" : Str), [("word" : Str)])]
def inbT : List Str := [("ChartError" : Str)]
def sigT : List ((Str × Nat × List Str) × List Src) := [((("Nothing" : Str), 1, []), [.pos 0]), ((("BadValue" : Str), 1, []), [.pos 0]), ((("BadNumber" : Str), 1, []), [.pos 0]), ((("Misfit" : Str), 1, []), [.pos 0]), ((("TooMany" : Str), 2, []), [.pos 0, .pos 1]), ((("NoName" : Str), 1, []), [.pos 0]), ((("BadText" : Str), 2, []), [.pos 0, .pos 1]), ((("BadLine" : Str), 1, []), [.pos 0]), ((("BadValue" : Str), 0, [("part" : Str)]), [.kw 0]), ((("BadNumber" : Str), 0, [("part" : Str)]), [.kw 0]), ((("Misfit" : Str), 0, [("part" : Str)]), [.kw 0]), ((("TooMany" : Str), 0, [("most" : Str), ("what" : Str)]), [.kw 1, .kw 0]), ((("NoName" : Str), 0, [("name" : Str)]), [.kw 0]), ((("Nothing" : Str), 0, [("word" : Str)]), [.kw 0]), ((("BadText" : Str), 0, [("word" : Str), ("line" : Str)]), [.kw 1, .kw 0]), ((("BadLine" : Str), 0, [("word" : Str)]), [.kw 0])]
def gi : GI := ⟨fun q => fnT.lookup q, fun x => globT.lookup x, fun C m => methT.lookup (C, m), fun C m => supT.lookup (C, m), fun C D => decide ((C, D) ∈ subTab), fun C => decide (C ∈ excT), fldT, fun C => iniT.lookup C, fun C => decide (C ∈ inbT), fun q n ks => sigT.lookup (q, n, ks)⟩
def en : List Str := excT
def glos : List Str := globT.map (·.1)
def blts : List Str := (bltNames ++ tyBase).filter fun x => (globT.lookup x).isNone
def fa : List He.Fa := (glos.map .glo) ++ (blts.map .free) ++ [.keep ("_law_pen" : Str), .keep ("_law_draw" : Str), .keep ("_law_pick" : Str), .keep ("_law_caught" : Str), .keep ("law" : Str)]
def D__law_pen : He.DefD := ⟨(("_law_pen" : Str), none), ("_law_pen" : Str), ("_law_pen" : Str), defArgs (top 11), defBody (top 11), defScope (top 11), [], []⟩
def D__law_draw : He.DefD := ⟨(("_law_draw" : Str), none), ("_law_draw" : Str), ("_law_draw" : Str), defArgs (top 12), defBody (top 12), defScope (top 12), [], []⟩
def D__law_pick : He.DefD := ⟨(("_law_pick" : Str), none), ("_law_pick" : Str), ("_law_pick" : Str), defArgs (top 13), defBody (top 13), defScope (top 13), [], []⟩
def D__law_caught : He.DefD := ⟨(("_law_caught" : Str), none), ("_law_caught" : Str), ("_law_caught" : Str), defArgs (top 14), defBody (top 14), defScope (top 14), [], []⟩
def D_law : He.DefD := ⟨(("law" : Str), none), ("law" : Str), ("law" : Str), defArgs (top 15), defBody (top 15), defScope (top 15), [], []⟩
def fnD : List He.DefD := [D__law_pen, D__law_draw, D__law_pick, D__law_caught, D_law]
def I_BadValue : InD := ⟨("BadValue" : Str), ("BadValue.__init__" : Str), defArgs (inClass (top 2) 0), defBody (inClass (top 2) 0), defScope (inClass (top 2) 0)⟩
def I_BadNumber : InD := ⟨("BadNumber" : Str), ("BadNumber.__init__" : Str), defArgs (inClass (top 3) 0), defBody (inClass (top 3) 0), defScope (inClass (top 3) 0)⟩
def I_Misfit : InD := ⟨("Misfit" : Str), ("Misfit.__init__" : Str), defArgs (inClass (top 4) 0), defBody (inClass (top 4) 0), defScope (inClass (top 4) 0)⟩
def I_TooMany : InD := ⟨("TooMany" : Str), ("TooMany.__init__" : Str), defArgs (inClass (top 5) 0), defBody (inClass (top 5) 0), defScope (inClass (top 5) 0)⟩
def I_NoName : InD := ⟨("NoName" : Str), ("NoName.__init__" : Str), defArgs (inClass (top 6) 0), defBody (inClass (top 6) 0), defScope (inClass (top 6) 0)⟩
def I_Nothing : InD := ⟨("Nothing" : Str), ("Nothing.__init__" : Str), defArgs (inClass (top 7) 0), defBody (inClass (top 7) 0), defScope (inClass (top 7) 0)⟩
def I_BadText : InD := ⟨("BadText" : Str), ("BadText.__init__" : Str), defArgs (inClass (top 8) 0), defBody (inClass (top 8) 0), defScope (inClass (top 8) 0)⟩
def I_BadLine : InD := ⟨("BadLine" : Str), ("BadLine.__init__" : Str), defArgs (inClass (top 9) 0), defBody (inClass (top 9) 0), defScope (inClass (top 9) 0)⟩
def insD : List InD := [I_BadValue, I_BadNumber, I_Misfit, I_TooMany, I_NoName, I_Nothing, I_BadText, I_BadLine]
def pfile : Str := PySem.Challenge.pw_deepasdrawn_k00_errors_keep_their_fields.main.file
def enA (K : PySem.W.Frag) : List (Str × Addr) := en.map fun C => (C, He.ga K C)
def tyB : List (Str × String) := [("bool", "bool"), ("int", "int"), ("str", "str"), ("tuple", "tuple"), ("list", "list"), ("dict", "dict"), ("ValueError", "ValueError")]
def exB (K : PySem.W.Frag) : Bool := (en.all fun C => ecB K (He.ga K C) && (fldT.all fun f => decide (PySem.W.findIn K (.ref (He.ga K C)) f = some none)) && (en.all fun D => decide (PySem.W.exmOne K (.ref (He.ga K C)) (.ref (He.ga K D)) = some (gi.sub C D))) && isKB gi K [] (enA K) C (.ref (He.ga K C))) &&
  (iniT.all fun q => inixB K q.1) && (inbT.all fun C => inbB K (He.ga K C)) && (insD.all fun d => d.ok pfile K) && decide (PySem.W.nsIn K cStatics "thirdparty.any" = some none) && (tyB.all fun q => isKB gi K [] (enA K) q.1 (.type q.2))
abbrev RR : PySem.W.OpenRow := PySem.W.OpenLaw.row PySem.Challenge.rw_deepasdrawn_k00_errors_keep_their_fields
abbrev hk : PySem.W.Hook := hookY 6 fa fnD insD exB
def ob (s : PySem.W.SharedT) : AlY := obsY 6 fa fnD insD exB (HandSHeadRun.getT s)
theorem ob_eq (s : PySem.W.SharedT) : ob s = hk.obs s.abs := obsY_eq (HandSHeadRun.getT_eq s)
theorem run (w : World) : HandSHeadRun.RunEq RR (PySem.W.view RR.prog [15]) hk ob 4000 [("_law_pen" : Str), ("_law_draw" : Str), ("_law_pick" : Str), ("_law_caught" : Str), ("ChartError" : Str), ("BadValue" : Str), ("BadNumber" : Str), ("Misfit" : Str), ("TooMany" : Str), ("NoName" : Str), ("Nothing" : Str), ("BadText" : Str), ("BadLine" : Str)] w := by
  intro os
  kernel_rfl

def gg (K : PySem.W.Frag) : G := ⟨K, fun _ => none, fun _ => none, fun _ => none, fun C => (enA K).lookup C⟩
def gx (K : PySem.W.Frag) : GX := { gg K with err := errW (gg K) }
theorem lookup_ga (K : PySem.W.Frag) : ∀ (l : List Str) (C : Str), (l.map fun C => (C, He.ga K C)).lookup C = if C ∈ l then some (He.ga K C) else none
  | [], C => by simp
  | D :: l, C => by
    rw [List.map_cons, List.lookup_cons, lookup_ga K l C]
    by_cases h : C = D
    · subst h
      simp
    · have h' : (C == D) = false := by simpa using h
      rw [h']
      simp [h]
theorem ecl_iff {K : PySem.W.Frag} {C : Str} {a : Addr} : (gx K).toG.ecl C = some a ↔ C ∈ en ∧ a = He.ga K C := by
  show (enA K).lookup C = some a ↔ _
  unfold enA
  rw [lookup_ga]
  by_cases h : C ∈ en
  · rw [if_pos h]
    constructor
    · intro e; cases e; exact ⟨h, rfl⟩
    · rintro ⟨_, rfl⟩; rfl
  · rw [if_neg h]
    constructor
    · intro e; cases e
    · rintro ⟨h', _⟩; exact absurd h' h
structure Ex (K : PySem.W.Frag) : Prop where
  ec : ∀ C ∈ en, EcX K (He.ga K C)
  fl : ∀ C ∈ en, ∀ f ∈ fldT, PySem.W.findIn K (.ref (He.ga K C)) f = some none
  em : ∀ C ∈ en, ∀ D ∈ en, PySem.W.exmOne K (.ref (He.ga K C)) (.ref (He.ga K D)) = some (gi.sub C D)
  is : ∀ C ∈ en, isKB gi K [] (enA K) C (.ref (He.ga K C)) = true
  ix : ∀ q ∈ iniT, inixB K q.1 = true
  ib : ∀ C ∈ inbT, MkB K (He.ga K C)
  ins : ∀ d ∈ insD, d.ok pfile K = true
  op : PySem.W.nsIn K cStatics "thirdparty.any" = some none
  ty : ∀ q ∈ tyB, isKB gi K [] (enA K) q.1 (.type q.2) = true
theorem ex_of {K : PySem.W.Frag} (h : exB K = true) : Ex K := by
  obtain ⟨h, h6⟩ := ja2 h
  obtain ⟨h, h5⟩ := ja2 h
  obtain ⟨h, h4⟩ := ja2 h
  obtain ⟨h, h3⟩ := ja2 h
  obtain ⟨h1, h2⟩ := ja2 h
  have e := fun C hC => List.all_eq_true.mp h1 C hC
  exact ⟨fun C hC => ecB_ok (ja2 (ja2 (ja2 (e C hC)).1).1).1, fun C hC f hf => of_decide_eq_true (List.all_eq_true.mp (ja2 (ja2 (ja2 (e C hC)).1).1).2 f hf),
    fun C hC D hD => of_decide_eq_true (List.all_eq_true.mp (ja2 (ja2 (e C hC)).1).2 D hD), fun C hC => (ja2 (e C hC)).2, fun q hq => List.all_eq_true.mp h2 q hq, fun C hC => inbB_ok (List.all_eq_true.mp h3 C hC), fun d hd => List.all_eq_true.mp h4 d hd, of_decide_eq_true h5, fun q hq => List.all_eq_true.mp h6 q hq⟩
section
variable {P : Program} {w : World} {K : PySem.W.Frag} {h : Heap} {mg : Str → Option Value} {base : Heap}
theorem fa_glo {x : Str} (hx : x ∈ glos) : He.Fa.glo x ∈ fa := List.mem_append_left _ (List.mem_append_left _ (List.mem_map_of_mem hx))
theorem fa_free {x : Str} (hx : x ∈ blts) : He.Fa.free x ∈ fa := List.mem_append_left _ (List.mem_append_right _ (List.mem_map_of_mem hx))
theorem fg_BadValue (c : SaysY fa fnD insD exB K) (X : Ex K) (hfree : mg "super" = none) (hP : P = PySem.Challenge.pw_deepasdrawn_k00_errors_keep_their_fields) : ∃ (kV doc pm : Value) (an : Option Addr) (cc : Addr) (cdv ct : Value), ∀ k,
    FnG P w K mg base CX0 (k + 1) (iniA K ("BadValue" : Str)) (PySem.W.fnX "__init__" I_BadValue.qual I_BadValue.params I_BadValue.body I_BadValue.scope [(("__class__" : Str), cc)] .none kV doc pm an cdv ct) ["self", ("part" : Str)] (spE (He.ga K ("BadValue" : Str)) [("part" : Str)]) := by
  obtain ⟨oc, od, osl, cc, kV, doc, pm, an, cdv, ct, lk, hcd, hcb, hcl⟩ := InD.get (c.init (d := I_BadValue) (by simp [insD])) (X.ins I_BadValue (by simp [insD]))
  obtain ⟨mk, sx, hcls, hmro⟩ := inixB_ok (X.ix (("BadValue" : Str), [("part" : Str)]) (by simp [iniT]))
  have sd : SupD P K mg (iniA K ("BadValue" : Str)) cc (He.ga K ("BadValue" : Str)) cdv := supD_of lk rfl rfl hcl hcb (by subst hP; rfl) hcls hmro hfree (by subst hP; rfl) X.op
  have IX : InitX P K mg (iniA K ("BadValue" : Str)) cc (He.ga K ("BadValue" : Str)) cdv I_BadValue.scope ["self", ("part" : Str)] := ⟨sd, sx, ⟨rfl, rfl, rfl, by decide +kernel, rfl, by decide +kernel, by decide +kernel, rfl, by decide +kernel⟩, rfl, rfl, by decide +kernel⟩
  exact ⟨kV, doc, pm, an, cc, cdv, ct, fun k => xinit1 lk hcd IX (.inl rfl) (X.fl ("BadValue" : Str) (by decide +kernel) ("part" : Str) (by decide +kernel)) rfl rfl rfl (fun _ => rfl)⟩
theorem fg_BadNumber (c : SaysY fa fnD insD exB K) (X : Ex K) (hfree : mg "super" = none) (hP : P = PySem.Challenge.pw_deepasdrawn_k00_errors_keep_their_fields) : ∃ (kV doc pm : Value) (an : Option Addr) (cc : Addr) (cdv ct : Value), ∀ k,
    FnG P w K mg base CX0 (k + 1) (iniA K ("BadNumber" : Str)) (PySem.W.fnX "__init__" I_BadNumber.qual I_BadNumber.params I_BadNumber.body I_BadNumber.scope [(("__class__" : Str), cc)] .none kV doc pm an cdv ct) ["self", ("part" : Str)] (spE (He.ga K ("BadNumber" : Str)) [("part" : Str)]) := by
  obtain ⟨oc, od, osl, cc, kV, doc, pm, an, cdv, ct, lk, hcd, hcb, hcl⟩ := InD.get (c.init (d := I_BadNumber) (by simp [insD])) (X.ins I_BadNumber (by simp [insD]))
  obtain ⟨mk, sx, hcls, hmro⟩ := inixB_ok (X.ix (("BadNumber" : Str), [("part" : Str)]) (by simp [iniT]))
  have sd : SupD P K mg (iniA K ("BadNumber" : Str)) cc (He.ga K ("BadNumber" : Str)) cdv := supD_of lk rfl rfl hcl hcb (by subst hP; rfl) hcls hmro hfree (by subst hP; rfl) X.op
  have IX : InitX P K mg (iniA K ("BadNumber" : Str)) cc (He.ga K ("BadNumber" : Str)) cdv I_BadNumber.scope ["self", ("part" : Str)] := ⟨sd, sx, ⟨rfl, rfl, rfl, by decide +kernel, rfl, by decide +kernel, by decide +kernel, rfl, by decide +kernel⟩, rfl, rfl, by decide +kernel⟩
  exact ⟨kV, doc, pm, an, cc, cdv, ct, fun k => xinit1 lk hcd IX (.inl rfl) (X.fl ("BadNumber" : Str) (by decide +kernel) ("part" : Str) (by decide +kernel)) rfl rfl rfl (fun _ => rfl)⟩
theorem fg_Misfit (c : SaysY fa fnD insD exB K) (X : Ex K) (hfree : mg "super" = none) (hP : P = PySem.Challenge.pw_deepasdrawn_k00_errors_keep_their_fields) : ∃ (kV doc pm : Value) (an : Option Addr) (cc : Addr) (cdv ct : Value), ∀ k,
    FnG P w K mg base CX0 (k + 1) (iniA K ("Misfit" : Str)) (PySem.W.fnX "__init__" I_Misfit.qual I_Misfit.params I_Misfit.body I_Misfit.scope [(("__class__" : Str), cc)] .none kV doc pm an cdv ct) ["self", ("part" : Str)] (spE (He.ga K ("Misfit" : Str)) [("part" : Str)]) := by
  obtain ⟨oc, od, osl, cc, kV, doc, pm, an, cdv, ct, lk, hcd, hcb, hcl⟩ := InD.get (c.init (d := I_Misfit) (by simp [insD])) (X.ins I_Misfit (by simp [insD]))
  obtain ⟨mk, sx, hcls, hmro⟩ := inixB_ok (X.ix (("Misfit" : Str), [("part" : Str)]) (by simp [iniT]))
  have sd : SupD P K mg (iniA K ("Misfit" : Str)) cc (He.ga K ("Misfit" : Str)) cdv := supD_of lk rfl rfl hcl hcb (by subst hP; rfl) hcls hmro hfree (by subst hP; rfl) X.op
  have IX : InitX P K mg (iniA K ("Misfit" : Str)) cc (He.ga K ("Misfit" : Str)) cdv I_Misfit.scope ["self", ("part" : Str)] := ⟨sd, sx, ⟨rfl, rfl, rfl, by decide +kernel, rfl, by decide +kernel, by decide +kernel, rfl, by decide +kernel⟩, rfl, rfl, by decide +kernel⟩
  exact ⟨kV, doc, pm, an, cc, cdv, ct, fun k => xinit1 lk hcd IX (.inl rfl) (X.fl ("Misfit" : Str) (by decide +kernel) ("part" : Str) (by decide +kernel)) rfl rfl rfl (fun _ => rfl)⟩
theorem fg_TooMany (c : SaysY fa fnD insD exB K) (X : Ex K) (hfree : mg "super" = none) (hP : P = PySem.Challenge.pw_deepasdrawn_k00_errors_keep_their_fields) : ∃ (kV doc pm : Value) (an : Option Addr) (cc : Addr) (cdv ct : Value), ∀ k,
    FnG P w K mg base CX0 (k + 1) (iniA K ("TooMany" : Str)) (PySem.W.fnX "__init__" I_TooMany.qual I_TooMany.params I_TooMany.body I_TooMany.scope [(("__class__" : Str), cc)] .none kV doc pm an cdv ct) ["self", ("what" : Str), ("most" : Str)] (spE (He.ga K ("TooMany" : Str)) [("what" : Str), ("most" : Str)]) := by
  obtain ⟨oc, od, osl, cc, kV, doc, pm, an, cdv, ct, lk, hcd, hcb, hcl⟩ := InD.get (c.init (d := I_TooMany) (by simp [insD])) (X.ins I_TooMany (by simp [insD]))
  obtain ⟨mk, sx, hcls, hmro⟩ := inixB_ok (X.ix (("TooMany" : Str), [("what" : Str), ("most" : Str)]) (by simp [iniT]))
  have sd : SupD P K mg (iniA K ("TooMany" : Str)) cc (He.ga K ("TooMany" : Str)) cdv := supD_of lk rfl rfl hcl hcb (by subst hP; rfl) hcls hmro hfree (by subst hP; rfl) X.op
  have IX : InitX P K mg (iniA K ("TooMany" : Str)) cc (He.ga K ("TooMany" : Str)) cdv I_TooMany.scope ["self", ("what" : Str), ("most" : Str)] := ⟨sd, sx, ⟨rfl, rfl, rfl, by decide +kernel, rfl, by decide +kernel, by decide +kernel, rfl, by decide +kernel⟩, rfl, rfl, by decide +kernel⟩
  exact ⟨kV, doc, pm, an, cc, cdv, ct, fun k => xinit2 lk hcd IX (.inl rfl) (.inl rfl) (X.fl ("TooMany" : Str) (by decide +kernel) ("what" : Str) (by decide +kernel)) (X.fl ("TooMany" : Str) (by decide +kernel) ("most" : Str) (by decide +kernel)) rfl rfl rfl rfl rfl (fun _ => rfl) (fun _ => rfl)⟩
theorem fg_NoName (c : SaysY fa fnD insD exB K) (X : Ex K) (hfree : mg "super" = none) (hP : P = PySem.Challenge.pw_deepasdrawn_k00_errors_keep_their_fields) : ∃ (kV doc pm : Value) (an : Option Addr) (cc : Addr) (cdv ct : Value), ∀ k,
    FnG P w K mg base CX0 (k + 1) (iniA K ("NoName" : Str)) (PySem.W.fnX "__init__" I_NoName.qual I_NoName.params I_NoName.body I_NoName.scope [(("__class__" : Str), cc)] .none kV doc pm an cdv ct) ["self", ("name" : Str)] (spE (He.ga K ("NoName" : Str)) [("name" : Str)]) := by
  obtain ⟨oc, od, osl, cc, kV, doc, pm, an, cdv, ct, lk, hcd, hcb, hcl⟩ := InD.get (c.init (d := I_NoName) (by simp [insD])) (X.ins I_NoName (by simp [insD]))
  obtain ⟨mk, sx, hcls, hmro⟩ := inixB_ok (X.ix (("NoName" : Str), [("name" : Str)]) (by simp [iniT]))
  have sd : SupD P K mg (iniA K ("NoName" : Str)) cc (He.ga K ("NoName" : Str)) cdv := supD_of lk rfl rfl hcl hcb (by subst hP; rfl) hcls hmro hfree (by subst hP; rfl) X.op
  have IX : InitX P K mg (iniA K ("NoName" : Str)) cc (He.ga K ("NoName" : Str)) cdv I_NoName.scope ["self", ("name" : Str)] := ⟨sd, sx, ⟨rfl, rfl, rfl, by decide +kernel, rfl, by decide +kernel, by decide +kernel, rfl, by decide +kernel⟩, rfl, rfl, by decide +kernel⟩
  exact ⟨kV, doc, pm, an, cc, cdv, ct, fun k => xinit1 lk hcd IX (.inl rfl) (X.fl ("NoName" : Str) (by decide +kernel) ("name" : Str) (by decide +kernel)) rfl rfl rfl (fun _ => rfl)⟩
theorem fg_Nothing (c : SaysY fa fnD insD exB K) (X : Ex K) (hfree : mg "super" = none) (hP : P = PySem.Challenge.pw_deepasdrawn_k00_errors_keep_their_fields) : ∃ (kV doc pm : Value) (an : Option Addr) (cc : Addr) (cdv ct : Value), ∀ k,
    FnG P w K mg base CX0 (k + 1) (iniA K ("Nothing" : Str)) (PySem.W.fnX "__init__" I_Nothing.qual I_Nothing.params I_Nothing.body I_Nothing.scope [(("__class__" : Str), cc)] .none kV doc pm an cdv ct) ["self", ("word" : Str)] (spE (He.ga K ("Nothing" : Str)) [("word" : Str)]) := by
  obtain ⟨oc, od, osl, cc, kV, doc, pm, an, cdv, ct, lk, hcd, hcb, hcl⟩ := InD.get (c.init (d := I_Nothing) (by simp [insD])) (X.ins I_Nothing (by simp [insD]))
  obtain ⟨mk, sx, hcls, hmro⟩ := inixB_ok (X.ix (("Nothing" : Str), [("word" : Str)]) (by simp [iniT]))
  have sd : SupD P K mg (iniA K ("Nothing" : Str)) cc (He.ga K ("Nothing" : Str)) cdv := supD_of lk rfl rfl hcl hcb (by subst hP; rfl) hcls hmro hfree (by subst hP; rfl) X.op
  have IX : InitX P K mg (iniA K ("Nothing" : Str)) cc (He.ga K ("Nothing" : Str)) cdv I_Nothing.scope ["self", ("word" : Str)] := ⟨sd, sx, ⟨rfl, rfl, rfl, by decide +kernel, rfl, by decide +kernel, by decide +kernel, rfl, by decide +kernel⟩, rfl, rfl, by decide +kernel⟩
  exact ⟨kV, doc, pm, an, cc, cdv, ct, fun k => xinit1 lk hcd IX (.inl rfl) (X.fl ("Nothing" : Str) (by decide +kernel) ("word" : Str) (by decide +kernel)) rfl rfl rfl (fun _ => rfl)⟩
theorem fg_BadText (c : SaysY fa fnD insD exB K) (X : Ex K) (hfree : mg "super" = none) (hP : P = PySem.Challenge.pw_deepasdrawn_k00_errors_keep_their_fields) : ∃ (kV doc pm : Value) (an : Option Addr) (cc : Addr) (cdv ct : Value), ∀ k,
    FnG P w K mg base CX0 (k + 1) (iniA K ("BadText" : Str)) (PySem.W.fnX "__init__" I_BadText.qual I_BadText.params I_BadText.body I_BadText.scope [(("__class__" : Str), cc)] .none kV doc pm an cdv ct) ["self", ("line" : Str), ("word" : Str)] (spE (He.ga K ("BadText" : Str)) [("line" : Str), ("word" : Str)]) := by
  obtain ⟨oc, od, osl, cc, kV, doc, pm, an, cdv, ct, lk, hcd, hcb, hcl⟩ := InD.get (c.init (d := I_BadText) (by simp [insD])) (X.ins I_BadText (by simp [insD]))
  obtain ⟨mk, sx, hcls, hmro⟩ := inixB_ok (X.ix (("BadText" : Str), [("line" : Str), ("word" : Str)]) (by simp [iniT]))
  have sd : SupD P K mg (iniA K ("BadText" : Str)) cc (He.ga K ("BadText" : Str)) cdv := supD_of lk rfl rfl hcl hcb (by subst hP; rfl) hcls hmro hfree (by subst hP; rfl) X.op
  have IX : InitX P K mg (iniA K ("BadText" : Str)) cc (He.ga K ("BadText" : Str)) cdv I_BadText.scope ["self", ("line" : Str), ("word" : Str)] := ⟨sd, sx, ⟨rfl, rfl, rfl, by decide +kernel, rfl, by decide +kernel, by decide +kernel, rfl, by decide +kernel⟩, rfl, rfl, by decide +kernel⟩
  exact ⟨kV, doc, pm, an, cc, cdv, ct, fun k => xinit2 lk hcd IX (.inl rfl) (.inl rfl) (X.fl ("BadText" : Str) (by decide +kernel) ("line" : Str) (by decide +kernel)) (X.fl ("BadText" : Str) (by decide +kernel) ("word" : Str) (by decide +kernel)) rfl rfl rfl rfl rfl (fun _ => rfl) (fun _ => rfl)⟩
theorem fg_BadLine (c : SaysY fa fnD insD exB K) (X : Ex K) (hfree : mg "super" = none) (hP : P = PySem.Challenge.pw_deepasdrawn_k00_errors_keep_their_fields) : ∃ (kV doc pm : Value) (an : Option Addr) (cc : Addr) (cdv ct : Value), ∀ k,
    FnG P w K mg base CX0 (k + 1) (iniA K ("BadLine" : Str)) (PySem.W.fnX "__init__" I_BadLine.qual I_BadLine.params I_BadLine.body I_BadLine.scope [(("__class__" : Str), cc)] .none kV doc pm an cdv ct) ["self", ("word" : Str)] (spE (He.ga K ("BadLine" : Str)) [("word" : Str)]) := by
  obtain ⟨oc, od, osl, cc, kV, doc, pm, an, cdv, ct, lk, hcd, hcb, hcl⟩ := InD.get (c.init (d := I_BadLine) (by simp [insD])) (X.ins I_BadLine (by simp [insD]))
  obtain ⟨mk, sx, hcls, hmro⟩ := inixB_ok (X.ix (("BadLine" : Str), [("word" : Str)]) (by simp [iniT]))
  have sd : SupD P K mg (iniA K ("BadLine" : Str)) cc (He.ga K ("BadLine" : Str)) cdv := supD_of lk rfl rfl hcl hcb (by subst hP; rfl) hcls hmro hfree (by subst hP; rfl) X.op
  have IX : InitX P K mg (iniA K ("BadLine" : Str)) cc (He.ga K ("BadLine" : Str)) cdv I_BadLine.scope ["self", ("word" : Str)] := ⟨sd, sx, ⟨rfl, rfl, rfl, by decide +kernel, rfl, by decide +kernel, by decide +kernel, rfl, by decide +kernel⟩, rfl, rfl, by decide +kernel⟩
  exact ⟨kV, doc, pm, an, cc, cdv, ct, fun k => xinit1 lk hcd IX (.inl rfl) (X.fl ("BadLine" : Str) (by decide +kernel) ("word" : Str) (by decide +kernel)) rfl rfl rfl (fun _ => rfl)⟩
theorem sg_0 (c : SaysY fa fnD insD exB K) (X : Ex K) (hfree : mg "super" = none) (hP : P = PySem.Challenge.pw_deepasdrawn_k00_errors_keep_their_fields) (k : Nat) : FnC P w K mg base CX0 (k + 1) (iniA K ("Nothing" : Str)) (1 + 1) [] (spX (He.ga K ("Nothing" : Str)) [("word" : Str)] (([.pos 0] : List Src).map srcV)) := by
  obtain ⟨kV, doc, pm, an, cc, cdv, ct, F⟩ := fg_Nothing (w := w) (base := base) c X hfree hP
  exact er_sig (F k) fun us ws h1 h2 => match us, ws, h1, h2 with | [_, _], [], _, _ => rfl
theorem sg_1 (c : SaysY fa fnD insD exB K) (X : Ex K) (hfree : mg "super" = none) (hP : P = PySem.Challenge.pw_deepasdrawn_k00_errors_keep_their_fields) (k : Nat) : FnC P w K mg base CX0 (k + 1) (iniA K ("BadValue" : Str)) (1 + 1) [] (spX (He.ga K ("BadValue" : Str)) [("part" : Str)] (([.pos 0] : List Src).map srcV)) := by
  obtain ⟨kV, doc, pm, an, cc, cdv, ct, F⟩ := fg_BadValue (w := w) (base := base) c X hfree hP
  exact er_sig (F k) fun us ws h1 h2 => match us, ws, h1, h2 with | [_, _], [], _, _ => rfl
theorem sg_2 (c : SaysY fa fnD insD exB K) (X : Ex K) (hfree : mg "super" = none) (hP : P = PySem.Challenge.pw_deepasdrawn_k00_errors_keep_their_fields) (k : Nat) : FnC P w K mg base CX0 (k + 1) (iniA K ("BadNumber" : Str)) (1 + 1) [] (spX (He.ga K ("BadNumber" : Str)) [("part" : Str)] (([.pos 0] : List Src).map srcV)) := by
  obtain ⟨kV, doc, pm, an, cc, cdv, ct, F⟩ := fg_BadNumber (w := w) (base := base) c X hfree hP
  exact er_sig (F k) fun us ws h1 h2 => match us, ws, h1, h2 with | [_, _], [], _, _ => rfl
theorem sg_3 (c : SaysY fa fnD insD exB K) (X : Ex K) (hfree : mg "super" = none) (hP : P = PySem.Challenge.pw_deepasdrawn_k00_errors_keep_their_fields) (k : Nat) : FnC P w K mg base CX0 (k + 1) (iniA K ("Misfit" : Str)) (1 + 1) [] (spX (He.ga K ("Misfit" : Str)) [("part" : Str)] (([.pos 0] : List Src).map srcV)) := by
  obtain ⟨kV, doc, pm, an, cc, cdv, ct, F⟩ := fg_Misfit (w := w) (base := base) c X hfree hP
  exact er_sig (F k) fun us ws h1 h2 => match us, ws, h1, h2 with | [_, _], [], _, _ => rfl
theorem sg_4 (c : SaysY fa fnD insD exB K) (X : Ex K) (hfree : mg "super" = none) (hP : P = PySem.Challenge.pw_deepasdrawn_k00_errors_keep_their_fields) (k : Nat) : FnC P w K mg base CX0 (k + 1) (iniA K ("TooMany" : Str)) (2 + 1) [] (spX (He.ga K ("TooMany" : Str)) [("what" : Str), ("most" : Str)] (([.pos 0, .pos 1] : List Src).map srcV)) := by
  obtain ⟨kV, doc, pm, an, cc, cdv, ct, F⟩ := fg_TooMany (w := w) (base := base) c X hfree hP
  exact er_sig (F k) fun us ws h1 h2 => match us, ws, h1, h2 with | [_, _, _], [], _, _ => rfl
theorem sg_5 (c : SaysY fa fnD insD exB K) (X : Ex K) (hfree : mg "super" = none) (hP : P = PySem.Challenge.pw_deepasdrawn_k00_errors_keep_their_fields) (k : Nat) : FnC P w K mg base CX0 (k + 1) (iniA K ("NoName" : Str)) (1 + 1) [] (spX (He.ga K ("NoName" : Str)) [("name" : Str)] (([.pos 0] : List Src).map srcV)) := by
  obtain ⟨kV, doc, pm, an, cc, cdv, ct, F⟩ := fg_NoName (w := w) (base := base) c X hfree hP
  exact er_sig (F k) fun us ws h1 h2 => match us, ws, h1, h2 with | [_, _], [], _, _ => rfl
theorem sg_6 (c : SaysY fa fnD insD exB K) (X : Ex K) (hfree : mg "super" = none) (hP : P = PySem.Challenge.pw_deepasdrawn_k00_errors_keep_their_fields) (k : Nat) : FnC P w K mg base CX0 (k + 1) (iniA K ("BadText" : Str)) (2 + 1) [] (spX (He.ga K ("BadText" : Str)) [("line" : Str), ("word" : Str)] (([.pos 0, .pos 1] : List Src).map srcV)) := by
  obtain ⟨kV, doc, pm, an, cc, cdv, ct, F⟩ := fg_BadText (w := w) (base := base) c X hfree hP
  exact er_sig (F k) fun us ws h1 h2 => match us, ws, h1, h2 with | [_, _, _], [], _, _ => rfl
theorem sg_7 (c : SaysY fa fnD insD exB K) (X : Ex K) (hfree : mg "super" = none) (hP : P = PySem.Challenge.pw_deepasdrawn_k00_errors_keep_their_fields) (k : Nat) : FnC P w K mg base CX0 (k + 1) (iniA K ("BadLine" : Str)) (1 + 1) [] (spX (He.ga K ("BadLine" : Str)) [("word" : Str)] (([.pos 0] : List Src).map srcV)) := by
  obtain ⟨kV, doc, pm, an, cc, cdv, ct, F⟩ := fg_BadLine (w := w) (base := base) c X hfree hP
  exact er_sig (F k) fun us ws h1 h2 => match us, ws, h1, h2 with | [_, _], [], _, _ => rfl
theorem sg_8 (c : SaysY fa fnD insD exB K) (X : Ex K) (hfree : mg "super" = none) (hP : P = PySem.Challenge.pw_deepasdrawn_k00_errors_keep_their_fields) (k : Nat) : FnC P w K mg base CX0 (k + 1) (iniA K ("BadValue" : Str)) (0 + 1) [("part" : Str)] (spX (He.ga K ("BadValue" : Str)) [("part" : Str)] (([.kw 0] : List Src).map srcV)) := by
  obtain ⟨kV, doc, pm, an, cc, cdv, ct, F⟩ := fg_BadValue (w := w) (base := base) c X hfree hP
  exact er_sig (F k) fun us ws h1 h2 => match us, ws, h1, h2 with | [_], [_], _, _ => rfl
theorem sg_9 (c : SaysY fa fnD insD exB K) (X : Ex K) (hfree : mg "super" = none) (hP : P = PySem.Challenge.pw_deepasdrawn_k00_errors_keep_their_fields) (k : Nat) : FnC P w K mg base CX0 (k + 1) (iniA K ("BadNumber" : Str)) (0 + 1) [("part" : Str)] (spX (He.ga K ("BadNumber" : Str)) [("part" : Str)] (([.kw 0] : List Src).map srcV)) := by
  obtain ⟨kV, doc, pm, an, cc, cdv, ct, F⟩ := fg_BadNumber (w := w) (base := base) c X hfree hP
  exact er_sig (F k) fun us ws h1 h2 => match us, ws, h1, h2 with | [_], [_], _, _ => rfl
theorem sg_10 (c : SaysY fa fnD insD exB K) (X : Ex K) (hfree : mg "super" = none) (hP : P = PySem.Challenge.pw_deepasdrawn_k00_errors_keep_their_fields) (k : Nat) : FnC P w K mg base CX0 (k + 1) (iniA K ("Misfit" : Str)) (0 + 1) [("part" : Str)] (spX (He.ga K ("Misfit" : Str)) [("part" : Str)] (([.kw 0] : List Src).map srcV)) := by
  obtain ⟨kV, doc, pm, an, cc, cdv, ct, F⟩ := fg_Misfit (w := w) (base := base) c X hfree hP
  exact er_sig (F k) fun us ws h1 h2 => match us, ws, h1, h2 with | [_], [_], _, _ => rfl
theorem sg_11 (c : SaysY fa fnD insD exB K) (X : Ex K) (hfree : mg "super" = none) (hP : P = PySem.Challenge.pw_deepasdrawn_k00_errors_keep_their_fields) (k : Nat) : FnC P w K mg base CX0 (k + 1) (iniA K ("TooMany" : Str)) (0 + 1) [("most" : Str), ("what" : Str)] (spX (He.ga K ("TooMany" : Str)) [("what" : Str), ("most" : Str)] (([.kw 1, .kw 0] : List Src).map srcV)) := by
  obtain ⟨kV, doc, pm, an, cc, cdv, ct, F⟩ := fg_TooMany (w := w) (base := base) c X hfree hP
  exact er_sig (F k) fun us ws h1 h2 => match us, ws, h1, h2 with | [_], [_, _], _, _ => rfl
theorem sg_12 (c : SaysY fa fnD insD exB K) (X : Ex K) (hfree : mg "super" = none) (hP : P = PySem.Challenge.pw_deepasdrawn_k00_errors_keep_their_fields) (k : Nat) : FnC P w K mg base CX0 (k + 1) (iniA K ("NoName" : Str)) (0 + 1) [("name" : Str)] (spX (He.ga K ("NoName" : Str)) [("name" : Str)] (([.kw 0] : List Src).map srcV)) := by
  obtain ⟨kV, doc, pm, an, cc, cdv, ct, F⟩ := fg_NoName (w := w) (base := base) c X hfree hP
  exact er_sig (F k) fun us ws h1 h2 => match us, ws, h1, h2 with | [_], [_], _, _ => rfl
theorem sg_13 (c : SaysY fa fnD insD exB K) (X : Ex K) (hfree : mg "super" = none) (hP : P = PySem.Challenge.pw_deepasdrawn_k00_errors_keep_their_fields) (k : Nat) : FnC P w K mg base CX0 (k + 1) (iniA K ("Nothing" : Str)) (0 + 1) [("word" : Str)] (spX (He.ga K ("Nothing" : Str)) [("word" : Str)] (([.kw 0] : List Src).map srcV)) := by
  obtain ⟨kV, doc, pm, an, cc, cdv, ct, F⟩ := fg_Nothing (w := w) (base := base) c X hfree hP
  exact er_sig (F k) fun us ws h1 h2 => match us, ws, h1, h2 with | [_], [_], _, _ => rfl
theorem sg_14 (c : SaysY fa fnD insD exB K) (X : Ex K) (hfree : mg "super" = none) (hP : P = PySem.Challenge.pw_deepasdrawn_k00_errors_keep_their_fields) (k : Nat) : FnC P w K mg base CX0 (k + 1) (iniA K ("BadText" : Str)) (0 + 1) [("word" : Str), ("line" : Str)] (spX (He.ga K ("BadText" : Str)) [("line" : Str), ("word" : Str)] (([.kw 1, .kw 0] : List Src).map srcV)) := by
  obtain ⟨kV, doc, pm, an, cc, cdv, ct, F⟩ := fg_BadText (w := w) (base := base) c X hfree hP
  exact er_sig (F k) fun us ws h1 h2 => match us, ws, h1, h2 with | [_], [_, _], _, _ => rfl
theorem sg_15 (c : SaysY fa fnD insD exB K) (X : Ex K) (hfree : mg "super" = none) (hP : P = PySem.Challenge.pw_deepasdrawn_k00_errors_keep_their_fields) (k : Nat) : FnC P w K mg base CX0 (k + 1) (iniA K ("BadLine" : Str)) (0 + 1) [("word" : Str)] (spX (He.ga K ("BadLine" : Str)) [("word" : Str)] (([.kw 0] : List Src).map srcV)) := by
  obtain ⟨kV, doc, pm, an, cc, cdv, ct, F⟩ := fg_BadLine (w := w) (base := base) c X hfree hP
  exact er_sig (F k) fun us ws h1 h2 => match us, ws, h1, h2 with | [_], [_], _, _ => rfl
theorem sig_in {q : Str × Nat × List Str} {pl : List Src} : ∀ {l : List ((Str × Nat × List Str) × List Src)}, l.lookup q = some pl → (q, pl) ∈ l
  | [], h => by cases h
  | (y, u) :: l, h => by
    rw [List.lookup_cons] at h
    split at h
    · rename_i e
      cases h
      rw [eq_of_beq e]
      exact List.mem_cons_self
    · exact List.mem_cons_of_mem _ (sig_in h)
theorem er_all (c : SaysY fa fnD insD exB K) (X : Ex K) (hfree : mg "super" = none) (hP : P = PySem.Challenge.pw_deepasdrawn_k00_errors_keep_their_fields) {C : Str} {fs : List Str} {n : Nat} {ks : List Str} {pl : List Src} (h1 : gi.ini C = some fs) (h2 : gi.ksig C n ks = some pl) :
    ∃ fI plv, MkX K (He.ga K C) fI ∧ Paired (SrcR (gx K)) pl plv ∧ ∀ k, FnC P w K mg base CX0 (k + 1) fI (n + 1) ks (spX (He.ga K C) fs plv) := by
  have hm : ((C, n, ks), pl) ∈ sigT := sig_in h2
  unfold sigT at hm
  rcases List.mem_cons.mp hm with e | hm
  · cases e
    cases (show some ([("word" : Str)] : List Str) = some fs from h1)
    exact ⟨iniA K ("Nothing" : Str), _, (inixB_ok (X.ix (("Nothing" : Str), [("word" : Str)]) (by simp [iniT]))).1, src_pair rfl, fun k => sg_0 c X hfree hP k⟩
  rcases List.mem_cons.mp hm with e | hm
  · cases e
    cases (show some ([("part" : Str)] : List Str) = some fs from h1)
    exact ⟨iniA K ("BadValue" : Str), _, (inixB_ok (X.ix (("BadValue" : Str), [("part" : Str)]) (by simp [iniT]))).1, src_pair rfl, fun k => sg_1 c X hfree hP k⟩
  rcases List.mem_cons.mp hm with e | hm
  · cases e
    cases (show some ([("part" : Str)] : List Str) = some fs from h1)
    exact ⟨iniA K ("BadNumber" : Str), _, (inixB_ok (X.ix (("BadNumber" : Str), [("part" : Str)]) (by simp [iniT]))).1, src_pair rfl, fun k => sg_2 c X hfree hP k⟩
  rcases List.mem_cons.mp hm with e | hm
  · cases e
    cases (show some ([("part" : Str)] : List Str) = some fs from h1)
    exact ⟨iniA K ("Misfit" : Str), _, (inixB_ok (X.ix (("Misfit" : Str), [("part" : Str)]) (by simp [iniT]))).1, src_pair rfl, fun k => sg_3 c X hfree hP k⟩
  rcases List.mem_cons.mp hm with e | hm
  · cases e
    cases (show some ([("what" : Str), ("most" : Str)] : List Str) = some fs from h1)
    exact ⟨iniA K ("TooMany" : Str), _, (inixB_ok (X.ix (("TooMany" : Str), [("what" : Str), ("most" : Str)]) (by simp [iniT]))).1, src_pair rfl, fun k => sg_4 c X hfree hP k⟩
  rcases List.mem_cons.mp hm with e | hm
  · cases e
    cases (show some ([("name" : Str)] : List Str) = some fs from h1)
    exact ⟨iniA K ("NoName" : Str), _, (inixB_ok (X.ix (("NoName" : Str), [("name" : Str)]) (by simp [iniT]))).1, src_pair rfl, fun k => sg_5 c X hfree hP k⟩
  rcases List.mem_cons.mp hm with e | hm
  · cases e
    cases (show some ([("line" : Str), ("word" : Str)] : List Str) = some fs from h1)
    exact ⟨iniA K ("BadText" : Str), _, (inixB_ok (X.ix (("BadText" : Str), [("line" : Str), ("word" : Str)]) (by simp [iniT]))).1, src_pair rfl, fun k => sg_6 c X hfree hP k⟩
  rcases List.mem_cons.mp hm with e | hm
  · cases e
    cases (show some ([("word" : Str)] : List Str) = some fs from h1)
    exact ⟨iniA K ("BadLine" : Str), _, (inixB_ok (X.ix (("BadLine" : Str), [("word" : Str)]) (by simp [iniT]))).1, src_pair rfl, fun k => sg_7 c X hfree hP k⟩
  rcases List.mem_cons.mp hm with e | hm
  · cases e
    cases (show some ([("part" : Str)] : List Str) = some fs from h1)
    exact ⟨iniA K ("BadValue" : Str), _, (inixB_ok (X.ix (("BadValue" : Str), [("part" : Str)]) (by simp [iniT]))).1, src_pair rfl, fun k => sg_8 c X hfree hP k⟩
  rcases List.mem_cons.mp hm with e | hm
  · cases e
    cases (show some ([("part" : Str)] : List Str) = some fs from h1)
    exact ⟨iniA K ("BadNumber" : Str), _, (inixB_ok (X.ix (("BadNumber" : Str), [("part" : Str)]) (by simp [iniT]))).1, src_pair rfl, fun k => sg_9 c X hfree hP k⟩
  rcases List.mem_cons.mp hm with e | hm
  · cases e
    cases (show some ([("part" : Str)] : List Str) = some fs from h1)
    exact ⟨iniA K ("Misfit" : Str), _, (inixB_ok (X.ix (("Misfit" : Str), [("part" : Str)]) (by simp [iniT]))).1, src_pair rfl, fun k => sg_10 c X hfree hP k⟩
  rcases List.mem_cons.mp hm with e | hm
  · cases e
    cases (show some ([("what" : Str), ("most" : Str)] : List Str) = some fs from h1)
    exact ⟨iniA K ("TooMany" : Str), _, (inixB_ok (X.ix (("TooMany" : Str), [("what" : Str), ("most" : Str)]) (by simp [iniT]))).1, src_pair rfl, fun k => sg_11 c X hfree hP k⟩
  rcases List.mem_cons.mp hm with e | hm
  · cases e
    cases (show some ([("name" : Str)] : List Str) = some fs from h1)
    exact ⟨iniA K ("NoName" : Str), _, (inixB_ok (X.ix (("NoName" : Str), [("name" : Str)]) (by simp [iniT]))).1, src_pair rfl, fun k => sg_12 c X hfree hP k⟩
  rcases List.mem_cons.mp hm with e | hm
  · cases e
    cases (show some ([("word" : Str)] : List Str) = some fs from h1)
    exact ⟨iniA K ("Nothing" : Str), _, (inixB_ok (X.ix (("Nothing" : Str), [("word" : Str)]) (by simp [iniT]))).1, src_pair rfl, fun k => sg_13 c X hfree hP k⟩
  rcases List.mem_cons.mp hm with e | hm
  · cases e
    cases (show some ([("line" : Str), ("word" : Str)] : List Str) = some fs from h1)
    exact ⟨iniA K ("BadText" : Str), _, (inixB_ok (X.ix (("BadText" : Str), [("line" : Str), ("word" : Str)]) (by simp [iniT]))).1, src_pair rfl, fun k => sg_14 c X hfree hP k⟩
  rcases List.mem_cons.mp hm with e | hm
  · cases e
    cases (show some ([("word" : Str)] : List Str) = some fs from h1)
    exact ⟨iniA K ("BadLine" : Str), _, (inixB_ok (X.ix (("BadLine" : Str), [("word" : Str)]) (by simp [iniT]))).1, src_pair rfl, fun k => sg_15 c X hfree hP k⟩
  exact absurd hm List.not_mem_nil
theorem fx__law_pen (hX : K.In h) (G : h.Ns mainGlobals mg) (c : SaysY fa fnD insD exB K) : ∃ f fd, mg ("_law_pen" : Str) = some (.ref f) ∧ PySem.W.keepIn K (.ref f) = true ∧ DefF K f fd d__law_pen ∧ Binds K fd d__law_pen.params [] ∧ ∀ (s : Shared) (us : List Value), us.length = d__law_pen.params.length → BindsTo s fd ⟨us, []⟩ (d__law_pen.params.zip us) := by
  obtain ⟨fd, F⟩ := He.SaysD.defs c.d (d := D__law_pen) (by simp [fnD])
  have hg := He.glo_ok hX G (He.SaysD.facts c.d (fa_glo (x := ("_law_pen" : Str)) (by decide +kernel)))
  exact ⟨_, fd, hg, F.kp, defF_of F ⟨rfl, rfl, rfl, by decide +kernel, rfl, by decide +kernel, by decide +kernel⟩ rfl, FunD.bindsN F fun _ _ _ _ _ _ us hl => (match us, hl with | [_], _ => rfl), FunD.bindsA F fun _ _ _ _ _ _ us hl => (match us, hl with | [_], _ => rfl)⟩
theorem fx__law_draw (hX : K.In h) (G : h.Ns mainGlobals mg) (c : SaysY fa fnD insD exB K) : ∃ f fd, mg ("_law_draw" : Str) = some (.ref f) ∧ PySem.W.keepIn K (.ref f) = true ∧ DefF K f fd d__law_draw ∧ Binds K fd d__law_draw.params [] ∧ ∀ (s : Shared) (us : List Value), us.length = d__law_draw.params.length → BindsTo s fd ⟨us, []⟩ (d__law_draw.params.zip us) := by
  obtain ⟨fd, F⟩ := He.SaysD.defs c.d (d := D__law_draw) (by simp [fnD])
  have hg := He.glo_ok hX G (He.SaysD.facts c.d (fa_glo (x := ("_law_draw" : Str)) (by decide +kernel)))
  exact ⟨_, fd, hg, F.kp, defF_of F ⟨rfl, rfl, rfl, by decide +kernel, rfl, by decide +kernel, by decide +kernel⟩ rfl, FunD.bindsN F fun _ _ _ _ _ _ us hl => (match us, hl with | [_, _], _ => rfl), FunD.bindsA F fun _ _ _ _ _ _ us hl => (match us, hl with | [_, _], _ => rfl)⟩
theorem fx__law_pick (hX : K.In h) (G : h.Ns mainGlobals mg) (c : SaysY fa fnD insD exB K) : ∃ f fd, mg ("_law_pick" : Str) = some (.ref f) ∧ PySem.W.keepIn K (.ref f) = true ∧ DefF K f fd d__law_pick ∧ Binds K fd d__law_pick.params [] ∧ ∀ (s : Shared) (us : List Value), us.length = d__law_pick.params.length → BindsTo s fd ⟨us, []⟩ (d__law_pick.params.zip us) := by
  obtain ⟨fd, F⟩ := He.SaysD.defs c.d (d := D__law_pick) (by simp [fnD])
  have hg := He.glo_ok hX G (He.SaysD.facts c.d (fa_glo (x := ("_law_pick" : Str)) (by decide +kernel)))
  exact ⟨_, fd, hg, F.kp, defF_of F ⟨rfl, rfl, rfl, by decide +kernel, rfl, by decide +kernel, by decide +kernel⟩ rfl, FunD.bindsN F fun _ _ _ _ _ _ us hl => (match us, hl with | [_, _], _ => rfl), FunD.bindsA F fun _ _ _ _ _ _ us hl => (match us, hl with | [_, _], _ => rfl)⟩
theorem fx__law_caught (hX : K.In h) (G : h.Ns mainGlobals mg) (c : SaysY fa fnD insD exB K) : ∃ f fd, mg ("_law_caught" : Str) = some (.ref f) ∧ PySem.W.keepIn K (.ref f) = true ∧ DefF K f fd d__law_caught ∧ Binds K fd d__law_caught.params [] ∧ ∀ (s : Shared) (us : List Value), us.length = d__law_caught.params.length → BindsTo s fd ⟨us, []⟩ (d__law_caught.params.zip us) := by
  obtain ⟨fd, F⟩ := He.SaysD.defs c.d (d := D__law_caught) (by simp [fnD])
  have hg := He.glo_ok hX G (He.SaysD.facts c.d (fa_glo (x := ("_law_caught" : Str)) (by decide +kernel)))
  exact ⟨_, fd, hg, F.kp, defF_of F ⟨rfl, rfl, rfl, by decide +kernel, rfl, by decide +kernel, by decide +kernel⟩ rfl, FunD.bindsN F fun _ _ _ _ _ _ us hl => (match us, hl with | [_], _ => rfl), FunD.bindsA F fun _ _ _ _ _ _ us hl => (match us, hl with | [_], _ => rfl)⟩
theorem fx_law (hX : K.In h) (G : h.Ns mainGlobals mg) (c : SaysY fa fnD insD exB K) : ∃ f fd, mg ("law" : Str) = some (.ref f) ∧ PySem.W.keepIn K (.ref f) = true ∧ DefF K f fd d_law ∧ Binds K fd d_law.params [] ∧ ∀ (s : Shared) (us : List Value), us.length = d_law.params.length → BindsTo s fd ⟨us, []⟩ (d_law.params.zip us) := by
  obtain ⟨fd, F⟩ := He.SaysD.defs c.d (d := D_law) (by simp [fnD])
  have hg := He.glo_ok hX G (He.SaysD.facts c.d (fa_glo (x := ("law" : Str)) (by decide +kernel)))
  exact ⟨_, fd, hg, F.kp, defF_of F ⟨rfl, rfl, rfl, by decide +kernel, rfl, by decide +kernel, by decide +kernel⟩ rfl, FunD.bindsN F fun _ _ _ _ _ _ us hl => (match us, hl with | [_], _ => rfl), FunD.bindsA F fun _ _ _ _ _ _ us hl => (match us, hl with | [_], _ => rfl)⟩
theorem glob_fn {x q : Str} (e : gi.glob x = some (.fn q)) : (x, Glob.fn q) ∈ globT := lookup_in e
theorem prg (hX : K.In h) (G : h.Ns mainGlobals mg) (c : SaysY fa fnD insD exB K) (hP : P = PySem.Challenge.pw_deepasdrawn_k00_errors_keep_their_fields) : Prg gi (gx K) P w K mg base := by
  have X := ex_of c.ex
  have hfree : ∀ x ∈ blts, mg x = none := fun x hx => He.free_ok hX G (He.SaysD.facts c.d (fa_free hx))
  have glo : ∀ x ∈ glos, mg x = some (.ref (He.ga K x)) := fun x hx => He.glo_ok hX G (He.SaysD.facts c.d (fa_glo hx))
  have hcl : ∀ {x C : Str}, gi.glob x = some (.cls C) → x = C ∧ C ∈ en ∧ x ∈ glos := fun {x C} e => by
    have hm : (x, Glob.cls C) ∈ globT := lookup_in e
    refine ⟨?_, ?_, List.mem_map.mpr ⟨_, hm, rfl⟩⟩
    all_goals
      unfold globT at hm
      simp only [List.mem_cons, Prod.mk.injEq, reduceCtorEq, and_false, false_or, Glob.cls.injEq, List.not_mem_nil, or_false] at hm
      rcases hm with ⟨rfl, rfl⟩ | ⟨rfl, rfl⟩ | ⟨rfl, rfl⟩ | ⟨rfl, rfl⟩ | ⟨rfl, rfl⟩ | ⟨rfl, rfl⟩ | ⟨rfl, rfl⟩ | ⟨rfl, rfl⟩ | ⟨rfl, rfl⟩
      all_goals decide +kernel
  refine ⟨rfl, rfl, (fun a kvs e => by cases e), fun x C e => ?_, fun C a => ?_, fun x t e => ?_, fun x hx e => ?_, (fun C Ca e => by cases e), (fun C Ca f e => by cases e), (fun C Ca e => ?_), fun C Ca f e hf => ?_, fun x q d n ts e1 e2 e3 => ?_, fun x q d n ks pl e1 e2 e3 => ?_, (fun C Ca q d n ts e => by cases e), (fun C Ca q d n ks pl e => by cases e), fun C Ca fs n ks pl e h1 h2 => ?_, fun C Ca e hb => ?_, fun C D Ca Da e1 e2 => ?_, fun x C e a ha => ?_, fun x hx e => ?_⟩
  · obtain ⟨rfl, h1, h2⟩ := hcl e
    exact ⟨He.ga K x, .inr (ecl_iff.mpr ⟨h1, rfl⟩), glo x h2⟩
  · constructor
    · intro e
      exact ⟨.inr e, decide_eq_true (ecl_iff.mp e).1⟩
    · rintro ⟨e | e, _⟩
      · cases e
      · exact e
  · have hm : (x, Glob.const t) ∈ globT := lookup_in e
    unfold globT at hm
    simp [List.mem_cons] at hm
  · exact hfree x (List.mem_filter.mpr ⟨hx, by rw [show globT.lookup x = none from e]; rfl⟩)
  · obtain ⟨h1, rfl⟩ := ecl_iff.mp e
    exact X.ec C h1
  · obtain ⟨h1, rfl⟩ := ecl_iff.mp e
    exact X.fl C h1 f hf
  · have hm := glob_fn e1
    unfold globT at hm
    simp only [List.mem_cons, Prod.mk.injEq, reduceCtorEq, and_false, or_false, Glob.fn.injEq, List.not_mem_nil] at hm
    rcases hm with ⟨rfl, rfl⟩ | ⟨rfl, rfl⟩ | ⟨rfl, rfl⟩ | ⟨rfl, rfl⟩ | ⟨rfl, rfl⟩
    · cases (show some d__law_pen = some d from e2)
      obtain ⟨rfl, hn⟩ := dfl_none (d := d__law_pen) rfl rfl e3
      obtain ⟨f, fd, a1, a2, a3, a4, _⟩ := fx__law_pen hX G c
      exact ⟨f, fd, [], [], a1, a2, a3, a4, .nil, by rw [mf_len, hn]; rfl, fun F H => ⟨rfl, rfl⟩⟩
    · cases (show some d__law_draw = some d from e2)
      obtain ⟨rfl, hn⟩ := dfl_none (d := d__law_draw) rfl rfl e3
      obtain ⟨f, fd, a1, a2, a3, a4, _⟩ := fx__law_draw hX G c
      exact ⟨f, fd, [], [], a1, a2, a3, a4, .nil, by rw [mf_len, hn]; rfl, fun F H => ⟨rfl, rfl⟩⟩
    · cases (show some d__law_pick = some d from e2)
      obtain ⟨rfl, hn⟩ := dfl_none (d := d__law_pick) rfl rfl e3
      obtain ⟨f, fd, a1, a2, a3, a4, _⟩ := fx__law_pick hX G c
      exact ⟨f, fd, [], [], a1, a2, a3, a4, .nil, by rw [mf_len, hn]; rfl, fun F H => ⟨rfl, rfl⟩⟩
    · cases (show some d__law_caught = some d from e2)
      obtain ⟨rfl, hn⟩ := dfl_none (d := d__law_caught) rfl rfl e3
      obtain ⟨f, fd, a1, a2, a3, a4, _⟩ := fx__law_caught hX G c
      exact ⟨f, fd, [], [], a1, a2, a3, a4, .nil, by rw [mf_len, hn]; rfl, fun F H => ⟨rfl, rfl⟩⟩
    · cases (show some d_law = some d from e2)
      obtain ⟨rfl, hn⟩ := dfl_none (d := d_law) rfl rfl e3
      obtain ⟨f, fd, a1, a2, a3, a4, _⟩ := fx_law hX G c
      exact ⟨f, fd, [], [], a1, a2, a3, a4, .nil, by rw [mf_len, hn]; rfl, fun F H => ⟨rfl, rfl⟩⟩
  · have hm := glob_fn e1
    have hs : ((q, n, ks), pl) ∈ sigT := sig_in e3
    have h1 : q ∈ sigT.map (·.1.1) := List.mem_map.mpr ⟨_, hs, rfl⟩
    unfold globT at hm
    simp only [List.mem_cons, Prod.mk.injEq, reduceCtorEq, and_false, or_false, Glob.fn.injEq, List.not_mem_nil] at hm
    rcases hm with ⟨rfl, rfl⟩ | ⟨rfl, rfl⟩ | ⟨rfl, rfl⟩ | ⟨rfl, rfl⟩ | ⟨rfl, rfl⟩
    all_goals exact absurd h1 (by decide +kernel)
  · obtain ⟨h3, rfl⟩ := ecl_iff.mp e
    exact er_all c X (hfree "super" (by decide +kernel)) hP h1 h2
  · obtain ⟨h3, rfl⟩ := ecl_iff.mp e
    exact X.ib C (of_decide_eq_true hb)
  · obtain ⟨h1, rfl⟩ := ecl_iff.mp e1
    obtain ⟨h2, rfl⟩ := ecl_iff.mp e2
    exact X.em C h1 D h2
  · obtain ⟨rfl, h1, h2⟩ := hcl e
    rcases ha with ha | ha
    · cases ha
    · obtain ⟨_, rfl⟩ := ecl_iff.mp ha
      exact isKB_ok (cl := []) (ec := enA K) (fun _ => rfl) (fun _ => rfl) (X.is x h1)
  · have hb : ∀ x ∈ tyBase, ∃ q ∈ tyB, q.1 = x ∧ bootBuiltins q.1 = some (.type q.2) := by decide +kernel
    obtain ⟨q, hq, rfl, hbo⟩ := hb x hx
    exact ⟨q.2, hbo, isKB_ok (cl := []) (ec := enA K) (fun _ => rfl) (fun _ => rfl) (X.ty q hq)⟩
end

/-! ### the draw -/
abbrev cD (j : Nat) : Ctx := bodyCtx gi false (callFn gi false j) d__law_draw
abbrev pen (ns : List Int) (lap gr : Int) : T := .lst true [.lst true (ns.map T.int), .int lap, .int gr]
def dS (i : Nat) : Stmt := d__law_draw.body.getD i (.Pass ⟨0,0,0,0⟩)
theorem dS_all : d__law_draw.body = [dS 0, dS 1, dS 2, dS 3, dS 4, dS 5, dS 6, dS 7, dS 8] := by rfl
abbrev dE (ns : List Int) (lap gr many : Int) (a b c d e : T) : PV.Env := [pen ns lap gr, .int many, a, b, c, d, e]
def ifT : Stmt → Expr | .If t _ _ _ => t | _ => .Name "" ⟨0,0,0,0⟩
def ifB : Stmt → List Stmt | .If _ b _ _ => b | _ => []
def asgV : Stmt → Expr | .Assign _ e _ => e | .Return (some e) _ => e | _ => .Name "" ⟨0,0,0,0⟩
def binA : Expr → Expr | .BinOp a _ _ _ => a | .Compare a _ _ _ => a | .Subscript a _ _ => a | .Call _ (a :: _) _ _ => a | .BoolOp _ (a :: _) _ => a | _ => .Name "" ⟨0,0,0,0⟩
def binB : Expr → Expr | .BinOp _ _ b _ => b | .Compare _ _ (b :: _) _ => b | .Subscript _ b _ => b | .BoolOp _ (_ :: b :: _) _ => b | _ => .Name "" ⟨0,0,0,0⟩
abbrev fS (j : Nat) (s : Stmt) : M Fl := stmtN (recN 30) (cD j) 10 s
abbrev fS9 (j : Nat) (s : Stmt) : M Fl := stmtN (recN 30) (cD j) 9 s
section
variable (j : Nat) (ns : List Int) (lap gr many : Int) (a b c d e : T)
theorem d0t : (recN 30).t (cD j) (ifT (dS 0)) (dE ns lap gr many a b c d e) = .ok (decide (0 < gr)) (dE ns lap gr many a b c d e) := by rfl
theorem d0 : fS j (dS 0) = cIf ((recN 30).t (cD j) (ifT (dS 0))) (seqS (fS9 j) (ifB (dS 0))) sNx := by rfl
theorem d1 : fS j (dS 1) (dE ns lap gr many a b c d e) = .ok .nx (dE ns lap gr many a (.int lap) c d e) := by rfl
theorem d2 : fS j (dS 2) (dE ns lap gr many a (.int lap) c d e) = .ok .nx (dE ns (lap + 1) gr many a (.int lap) c d e) := by rfl
theorem d3 (l : Int) : ∃ z, fS j (dS 3) (dE ns l gr many a (.int lap) c d e) = .ok .nx (dE ns l gr many a (.int lap) (.int z) d e) := ⟨_, by rfl⟩
/-- digit: the rest of a great number -/
theorem d0b (hm : 0 < many) (hm2 : many < 1073741824) : ∃ b' : T, seqS (fS9 j) (ifB (dS 0)) (dE ns lap gr many a b c d e) = .ok (.ret (.int (gr.fmod many))) (dE ns lap (gr.fdiv many) many (.int (gr.fmod many)) b c d e) := by
  have e1 : fS9 j ((ifB (dS 0)).getD 0 (.Pass ⟨0,0,0,0⟩)) (dE ns lap gr many a b c d e) = .ok .nx (dE ns lap gr many (.int (gr.fmod many)) b c d e) :=
    ev_asg (m := cBin .Mod true ((recN 29).e (cD j) (binA (asgV ((ifB (dS 0)).getD 0 (.Pass ⟨0,0,0,0⟩))))) ((recN 29).e (cD j) (binB (asgV ((ifB (dS 0)).getD 0 (.Pass ⟨0,0,0,0⟩)))))) (g := gSlot .sh 2) (ev_bin (x := .val (.int gr)) (y := .val (.int many)) rfl rfl rfl rfl rfl (mod_ok (by omega))) rfl
  have e2 : fS9 j ((ifB (dS 0)).getD 1 (.Pass ⟨0,0,0,0⟩)) (dE ns lap gr many (.int (gr.fmod many)) b c d e) = .ok .nx (dE ns lap (gr.fdiv many) many (.int (gr.fmod many)) b c d e) :=
    ev_asg (m := cBin .FloorDiv true ((recN 29).e (cD j) (binA (asgV ((ifB (dS 0)).getD 1 (.Pass ⟨0,0,0,0⟩))))) ((recN 29).e (cD j) (binB (asgV ((ifB (dS 0)).getD 1 (.Pass ⟨0,0,0,0⟩)))))) (g := fun t => gSub true ((recN 30).e (cD j) (.Name "pen" ⟨0,0,0,0⟩)) (cVal (.int 2)) t) (ev_bin (x := .val (.int gr)) (y := .val (.int many)) rfl rfl rfl rfl rfl (div_ok (by omega) (by omega))) rfl
  refine ⟨.non, ?_⟩
  show seqS (fS9 j) [(ifB (dS 0)).getD 0 (.Pass ⟨0,0,0,0⟩), (ifB (dS 0)).getD 1 (.Pass ⟨0,0,0,0⟩), (ifB (dS 0)).getD 2 (.Pass ⟨0,0,0,0⟩)] _ = _
  rw [seq_nx e1, seq_nx e2]
  rfl
end

section
variable (j : Nat) (ns : List Int) (lap l gr many z : Int) (a b c d e : T)
theorem d4 : fS j (dS 4) = cIf ((recN 30).t (cD j) (ifT (dS 4))) (fS9 j ((ifB (dS 4)).getD 0 (.Pass ⟨0,0,0,0⟩))) sNx := by rfl
theorem d4c : ∃ z', fS j (dS 4) (dE ns l gr many a (.int lap) (.int z) d e) = .ok .nx (dE ns l gr many a (.int lap) (.int z') d e) := by
  by_cases h : ns = []
  · subst h
    exact ⟨z, by rfl⟩
  · have ht : (recN 30).t (cD j) (ifT (dS 4)) (dE ns l gr many a (.int lap) (.int z) d e) = .ok true (dE ns l gr many a (.int lap) (.int z) d e) := by
      rw [show (recN 30).t (cD j) (ifT (dS 4)) = two true ((recN 29).e (cD j) (binA (ifT (dS 4)))) ((recN 29).e (cD j) (binB (ifT (dS 4)))) (cmpop (eiC (cD j)) .NotEq) from rfl]
      exact ev_two (q := true) (a := (recN 29).e (cD j) (binA (ifT (dS 4)))) (b := (recN 29).e (cD j) (binB (ifT (dS 4)))) (f := cmpop (eiC (cD j)) .NotEq) (x := .plc 0 [.idx 0]) (y := .val (.lst true [])) rfl rfl rfl rfl rfl (ne_nil h)
    have hpos : 0 < ns.length := List.length_pos_iff.mpr h
    have hlen : ((ns.map T.int).length : Int) = ns.length := by rw [List.length_map]
    obtain ⟨i, hi, hlt⟩ := ix_fmod (l := lap) hpos
    refine ⟨ns.getD i 0, ?_⟩
    rw [d4, ev_if ht, if_pos rfl]
    exact ev_asg (E := dE ns l gr many a (.int lap) (.int z) d e) (E1 := dE ns l gr many a (.int lap) (.int (ns.getD i 0)) d e) (m := cSub true ((recN 29).e (cD j) (binA (asgV ((ifB (dS 4)).getD 0 (.Pass ⟨0,0,0,0⟩))))) ((recN 29).e (cD j) (binB (asgV ((ifB (dS 4)).getD 0 (.Pass ⟨0,0,0,0⟩)))))) (g := gSlot .sh 4)
      (ev_cell (i := 0) (p := [.idx 0]) (o := true) (ns := ns) (j := lap.fmod ((ns.map T.int).length : Int)) rfl rfl
        (ev_bin (q := true) (a := (recN 28).e (cD j) (binA (binB (asgV ((ifB (dS 4)).getD 0 (.Pass ⟨0,0,0,0⟩)))))) (b := (recN 28).e (cD j) (binB (binB (asgV ((ifB (dS 4)).getD 0 (.Pass ⟨0,0,0,0⟩)))))) (x := .val (.int lap)) (y := .val (.int ((ns.map T.int).length : Int))) rfl rfl rfl rfl rfl (mod_ok (by rw [hlen]; omega))) (by rw [hlen]; exact hi) hlt) rfl
theorem d5 : fS j (dS 5) = cIf ((recN 30).t (cD j) (ifT (dS 5))) (seqS (fS9 j) (ifB (dS 5))) sNx := by rfl
theorem d5t : ∃ k, (recN 30).t (cD j) (ifT (dS 5)) (dE ns l gr many a (.int lap) (.int z) d e) = .ok k (dE ns l gr many a (.int lap) (.int z) d e) :=
  ⟨decide (lap < ((ns.map T.int).length : Int)) && decide ((10 : Int) ^ 18 ≤ (if z < 0 then -z else z)), by
    rw [show (recN 30).t (cD j) (ifT (dS 5)) = tAnd ((recN 29).t (cD j) (binA (ifT (dS 5)))) ((recN 29).t (cD j) (binB (ifT (dS 5)))) from rfl]
    exact ev_and (a := (recN 29).t (cD j) (binA (ifT (dS 5)))) (b := (recN 29).t (cD j) (binB (ifT (dS 5)))) (k := decide (lap < ((ns.map T.int).length : Int))) (k' := decide ((10 : Int) ^ 18 ≤ (if z < 0 then -z else z))) rfl fun _ => rfl⟩
theorem d5b (hm : 0 < many) (hm2 : many < 1073741824) : ∃ (w : Int) (gr' : Int), seqS (fS9 j) (ifB (dS 5)) (dE ns l gr many a (.int lap) (.int z) d e) = .ok (.ret (.int (w.fmod many))) (dE ns l gr' many a (.int lap) (.int z) (.int w) e) := by
  obtain ⟨w, e1⟩ : ∃ w : Int, fS9 j ((ifB (dS 5)).getD 0 (.Pass ⟨0,0,0,0⟩)) (dE ns l gr many a (.int lap) (.int z) d e) = .ok .nx (dE ns l gr many a (.int lap) (.int z) (.int w) e) := ⟨_, by rfl⟩
  have e2 : fS9 j ((ifB (dS 5)).getD 1 (.Pass ⟨0,0,0,0⟩)) (dE ns l gr many a (.int lap) (.int z) (.int w) e) = .ok .nx (dE ns l (w.fdiv many) many a (.int lap) (.int z) (.int w) e) :=
    ev_asg (m := cBin .FloorDiv true ((recN 29).e (cD j) (binA (asgV ((ifB (dS 5)).getD 1 (.Pass ⟨0,0,0,0⟩))))) ((recN 29).e (cD j) (binB (asgV ((ifB (dS 5)).getD 1 (.Pass ⟨0,0,0,0⟩)))))) (g := fun t => gSub true ((recN 30).e (cD j) (.Name "pen" ⟨0,0,0,0⟩)) (cVal (.int 2)) t) (ev_bin (x := .val (.int w)) (y := .val (.int many)) rfl rfl rfl rfl rfl (div_ok (by omega) (by omega))) rfl
  have e3 : fS9 j ((ifB (dS 5)).getD 2 (.Pass ⟨0,0,0,0⟩)) (dE ns l (w.fdiv many) many a (.int lap) (.int z) (.int w) e) = .ok (.ret (.int (w.fmod many))) (dE ns l (w.fdiv many) many a (.int lap) (.int z) (.int w) e) :=
    ev_ret (m := cBin .Mod true ((recN 29).e (cD j) (binA (asgV ((ifB (dS 5)).getD 2 (.Pass ⟨0,0,0,0⟩))))) ((recN 29).e (cD j) (binB (asgV ((ifB (dS 5)).getD 2 (.Pass ⟨0,0,0,0⟩)))))) (ev_bin (x := .val (.int w)) (y := .val (.int many)) rfl rfl rfl rfl rfl (mod_ok (by omega)))
  refine ⟨w, w.fdiv many, ?_⟩
  show seqS (fS9 j) [(ifB (dS 5)).getD 0 (.Pass ⟨0,0,0,0⟩), (ifB (dS 5)).getD 1 (.Pass ⟨0,0,0,0⟩), (ifB (dS 5)).getD 2 (.Pass ⟨0,0,0,0⟩)] _ = _
  rw [seq_nx e1, seq_nx e2]
  exact e3
theorem d6 (h0 : 0 ≤ lap) (h1 : lap ≤ 1000) : ∃ m : Int, 0 ≤ m ∧ m < 2147483563 ∧ fS j (dS 6) (dE ns l gr many a (.int lap) (.int z) d e) = .ok .nx (dE ns l gr many a (.int lap) (.int z) d (.int m)) := by
  obtain ⟨p, hp, e1⟩ : ∃ p : Int, p.natAbs < 2 ^ 64 ∧ (recN 27).e (cD j) (binA (binA (binA (asgV (dS 6))))) (dE ns l gr many a (.int lap) (.int z) d e) = .ok (.val (.int p)) (dE ns l gr many a (.int lap) (.int z) d e) := by
    refine ⟨z.fmod 2147483587 + 164409 * lap + 18403, ?_, by rfl⟩
    have b1 : 0 ≤ z.fmod 2147483587 := Int.fmod_nonneg_of_pos z (by decide)
    have b2 : z.fmod 2147483587 < 2147483587 := Int.fmod_lt_of_pos z (by decide)
    omega
  refine ⟨(p ^ (5 : Int).toNat).fmod 2147483563, Int.fmod_nonneg_of_pos _ (by decide), Int.fmod_lt_of_pos _ (by decide), ?_⟩
  exact ev_asg (m := cBin .Mod true ((recN 29).e (cD j) (binA (asgV (dS 6)))) ((recN 29).e (cD j) (binB (asgV (dS 6))))) (g := gSlot .sh 6)
    (ev_bin (x := .val (.int (p ^ (5 : Int).toNat))) (y := .val (.int 2147483563))
      (ev_b1 (f := bInt) (a := cBin .Pow true ((recN 27).e (cD j) (binA (binA (binA (asgV (dS 6)))))) ((recN 27).e (cD j) (binB (binA (binA (asgV (dS 6))))))) (ev_bin (x := .val (.int p)) (y := .val (.int 5)) e1 rfl rfl rfl rfl (pow_ok ⟨by decide, by decide, hp⟩)) rfl rfl)
      rfl rfl rfl rfl (mod_ok (by decide))) rfl
end

section
variable (j : Nat) (ns : List Int) (lap l gr many z m : Int) (a b c d e : T)
theorem d7 (h0 : 0 ≤ lap) (h1 : lap ≤ 1000) (m0 : 0 ≤ m) (m1 : m < 2147483563) : ∃ m' : Int, fS j (dS 7) (dE ns l gr many a (.int lap) (.int z) d (.int m)) = .ok .nx (dE ns l gr many a (.int lap) (.int z) d (.int m')) := by
  obtain ⟨p, hp, e1⟩ : ∃ p : Int, p.natAbs < 2 ^ 64 ∧ (recN 27).e (cD j) (binA (binA (binA (asgV (dS 7))))) (dE ns l gr many a (.int lap) (.int z) d (.int m)) = .ok (.val (.int p)) (dE ns l gr many a (.int lap) (.int z) d (.int m)) := by
    have eM : (recN 25).e (cD j) (binA (binA (binA (binA (binA (asgV (dS 7))))))) (dE ns l gr many a (.int lap) (.int z) d (.int m)) = .ok (.val (.int (m * (2 * lap + 18403)))) (dE ns l gr many a (.int lap) (.int z) d (.int m)) :=
      ev_bin (q := true) (a := (recN 24).e (cD j) (binA (binA (binA (binA (binA (binA (asgV (dS 7)))))))))  (b := (recN 24).e (cD j) (binB (binA (binA (binA (binA (binA (asgV (dS 7))))))))) (x := .val (.int m)) (y := .val (.int (2 * lap + 18403))) rfl rfl rfl rfl rfl (mul_ok (by omega))
    have eL : (recN 25).e (cD j) (binB (binA (binA (binA (binA (asgV (dS 7))))))) (dE ns l gr many a (.int lap) (.int z) d (.int m)) = .ok (.val (.int (164409 * lap * lap))) (dE ns l gr many a (.int lap) (.int z) d (.int m)) :=
      ev_bin (q := true) (a := (recN 24).e (cD j) (binA (binB (binA (binA (binA (binA (asgV (dS 7)))))))))  (b := (recN 24).e (cD j) (binB (binB (binA (binA (binA (binA (asgV (dS 7))))))))) (x := .val (.int (164409 * lap))) (y := .val (.int lap)) rfl rfl rfl rfl rfl (mul_ok (by omega))
    have eA : (recN 26).e (cD j) (binA (binA (binA (binA (asgV (dS 7)))))) (dE ns l gr many a (.int lap) (.int z) d (.int m)) = .ok (.val (.int (m * (2 * lap + 18403) + 164409 * lap * lap))) (dE ns l gr many a (.int lap) (.int z) d (.int m)) :=
      ev_bin (q := true) (a := (recN 25).e (cD j) (binA (binA (binA (binA (binA (asgV (dS 7))))))))  (b := (recN 25).e (cD j) (binB (binA (binA (binA (binA (asgV (dS 7)))))))) (x := .val (.int (m * (2 * lap + 18403)))) (y := .val (.int (164409 * lap * lap))) eM rfl eL rfl rfl rfl
    refine ⟨m * (2 * lap + 18403) + 164409 * lap * lap + 102213, ?_, ev_bin (q := true) (a := (recN 26).e (cD j) (binA (binA (binA (binA (asgV (dS 7)))))))  (b := (recN 26).e (cD j) (binB (binA (binA (binA (asgV (dS 7))))))) (x := .val (.int (m * (2 * lap + 18403) + 164409 * lap * lap))) (y := .val (.int 102213)) eA rfl rfl rfl rfl rfl⟩
    have b1 : 0 ≤ m * (2 * lap + 18403) := Int.mul_nonneg m0 (by omega)
    have b2 : m * (2 * lap + 18403) ≤ 2147483563 * 20403 := Int.mul_le_mul (by omega) (by omega) (by omega) (by decide)
    have b3 : 0 ≤ 164409 * lap * lap := Int.mul_nonneg (by omega) h0
    have b4 : 164409 * lap * lap ≤ 164409000 * 1000 := Int.mul_le_mul (by omega) h1 h0 (by decide)
    omega
  refine ⟨(p ^ (3 : Int).toNat).fmod 2147483549, ?_⟩
  exact ev_asg (m := cBin .Mod true ((recN 29).e (cD j) (binA (asgV (dS 7)))) ((recN 29).e (cD j) (binB (asgV (dS 7))))) (g := gSlot .sh 6)
    (ev_bin (x := .val (.int (p ^ (3 : Int).toNat))) (y := .val (.int 2147483549))
      (ev_b1 (f := bInt) (a := cBin .Pow true ((recN 27).e (cD j) (binA (binA (binA (asgV (dS 7)))))) ((recN 27).e (cD j) (binB (binA (binA (asgV (dS 7))))))) (ev_bin (x := .val (.int p)) (y := .val (.int 3)) e1 rfl rfl rfl rfl (pow_ok ⟨by decide, by decide, hp⟩)) rfl rfl)
      rfl rfl rfl rfl (mod_ok (by decide))) rfl
theorem d8 (hm : 0 < many) : ∃ w : Int, fS j (dS 8) (dE ns l gr many a (.int lap) (.int z) d (.int m)) = .ok (.ret (.int (w.fmod many))) (dE ns l gr many a (.int lap) (.int z) d (.int m)) := by
  obtain ⟨w, e1⟩ : ∃ w : Int, (recN 29).e (cD j) (binA (asgV (dS 8))) (dE ns l gr many a (.int lap) (.int z) d (.int m)) = .ok (.val (.int w)) (dE ns l gr many a (.int lap) (.int z) d (.int m)) := ⟨_, by rfl⟩
  exact ⟨w, ev_ret (m := cBin .Mod true ((recN 29).e (cD j) (binA (asgV (dS 8)))) ((recN 29).e (cD j) (binB (asgV (dS 8))))) (ev_bin (x := .val (.int w)) (y := .val (.int many)) e1 rfl rfl rfl rfl (mod_ok (by omega)))⟩
/-- a draw -/
theorem draw (h0 : 0 ≤ lap) (h1 : lap ≤ 1000) (hm : 0 < many) (hm2 : many < 1073741824) : ∃ w lap' gr' : Int, callFn gi false (j + 1) "_law_draw" [pen ns lap gr, .int many] = .ret (.int (w.fmod many)) [pen ns lap' gr', .int many] ∧ lap ≤ lap' ∧ lap' ≤ lap + 1 := by
  have fin : ∀ {r : T} {E1 : PV.Env}, seqS (fS j) [dS 0, dS 1, dS 2, dS 3, dS 4, dS 5, dS 6, dS 7, dS 8] (dE ns lap gr many .hole .hole .hole .hole .hole) = .ok (.ret r) E1 → callFn gi false (j + 1) "_law_draw" [pen ns lap gr, .int many] = .ret r (E1.take 2) := fun {r E1} h => by
    show runM d__law_draw (bodyM gi false (callFn gi false j) d__law_draw) [pen ns lap gr, .int many] = _
    unfold runM
    rw [if_pos (show [pen ns lap gr, T.int many].length = d__law_draw.params.length from rfl)]
    have h' : bodyM gi false (callFn gi false j) d__law_draw ([pen ns lap gr, T.int many] ++ List.replicate (d__law_draw.N.length - [pen ns lap gr, T.int many].length) .hole) = .ok (.ret r) E1 := h
    rw [h']
    rfl
  by_cases hg : 0 < gr
  · obtain ⟨_, e0⟩ := d0b j ns lap gr many .hole .hole .hole .hole .hole hm hm2
    have s0 := show fS j (dS 0) (dE ns lap gr many .hole .hole .hole .hole .hole) = .ok (.ret (.int (gr.fmod many))) (dE ns lap (gr.fdiv many) many (.int (gr.fmod many)) .hole .hole .hole .hole) from (by rw [d0, ev_if (d0t ..), if_pos (decide_eq_true hg)]; exact e0)
    exact ⟨gr, lap, gr.fdiv many, (fin (seq_ret s0)).trans rfl, by omega, by omega⟩
  · have s0 : fS j (dS 0) (dE ns lap gr many .hole .hole .hole .hole .hole) = .ok .nx (dE ns lap gr many .hole .hole .hole .hole .hole) := by rw [d0, ev_if (d0t ..), if_neg (by simpa using hg)]; rfl
    obtain ⟨z, s3⟩ := d3 j ns lap gr many .hole .hole .hole .hole (lap + 1)
    obtain ⟨z', s4⟩ := d4c j ns lap (lap + 1) gr many z .hole .hole .hole
    obtain ⟨k, t5⟩ := d5t j ns lap (lap + 1) gr many z' .hole .hole .hole
    have go : ∀ {r : T} {E1 : PV.Env}, seqS (fS j) [dS 5, dS 6, dS 7, dS 8] (dE ns (lap + 1) gr many .hole (.int lap) (.int z') .hole .hole) = .ok (.ret r) E1 → callFn gi false (j + 1) "_law_draw" [pen ns lap gr, .int many] = .ret r (E1.take 2) := fun {r E1} h => fin (by
      rw [seq_nx s0, seq_nx (d1 ..), seq_nx (d2 ..), seq_nx s3, seq_nx s4]
      exact h)
    cases k with
    | true =>
      obtain ⟨w, gr', e5⟩ := d5b j ns lap (lap + 1) gr many z' .hole .hole .hole hm hm2
      have s5 := show fS j (dS 5) (dE ns (lap + 1) gr many .hole (.int lap) (.int z') .hole .hole) = .ok (.ret (.int (w.fmod many))) (dE ns (lap + 1) gr' many .hole (.int lap) (.int z') (.int w) .hole) from (by rw [d5, ev_if t5, if_pos rfl]; exact e5)
      exact ⟨w, lap + 1, gr', (go (seq_ret s5)).trans rfl, by omega, by omega⟩
    | false =>
      have s5 : fS j (dS 5) (dE ns (lap + 1) gr many .hole (.int lap) (.int z') .hole .hole) = .ok .nx (dE ns (lap + 1) gr many .hole (.int lap) (.int z') .hole .hole) := by rw [d5, ev_if t5, if_neg (by decide)]; rfl
      obtain ⟨m6, q0, q1, s6⟩ := d6 j ns lap (lap + 1) gr many z' .hole .hole .hole h0 h1
      obtain ⟨m7, s7⟩ := d7 j ns lap (lap + 1) gr many z' m6 .hole .hole h0 h1 q0 q1
      obtain ⟨w, s8⟩ := d8 j ns lap (lap + 1) gr many z' m7 .hole .hole hm
      exact ⟨w, lap + 1, gr, (go (by rw [seq_nx s5, seq_nx s6, seq_nx s7]; exact s8)).trans rfl, by omega, by omega⟩
end

/-! ### the pen -/
theorem frz_ints : ∀ ns : List Int, T.frzL (ns.map T.int) = ns.map T.int
  | [] => rfl
  | n :: ns => by
    rw [List.map_cons]
    show T.int n :: T.frzL (ns.map T.int) = _
    rw [frz_ints ns]
theorem cut_map {α β : Type} (f : α → β) (xs : List α) (lo hi : Option Int) : cut (xs.map f) lo hi = (cut xs lo hi).map f := by
  unfold cut
  rw [List.length_map, List.map_take, List.map_drop]
theorem ev_slice {a : M R} {lo hi st : M (Option Int)} {E : PV.Env} {x : R} {l h s : Option Int} {t u : T} (ha : a E = .ok x E) (hd : deep x = false) (h1 : lo E = .ok l E) (h2 : hi E = .ok h E) (h3 : st E = .ok s E) (hv : view x E = some t) (hs : slice t l h s = some u) : cSlice a lo hi st E = .ok (.val u) E := by
  have e1 : viewR x E = .ok t E := by unfold viewR; rw [hv]
  unfold cSlice
  rw [bind_ok ha, bind_ok h1, bind_ok h2, bind_ok h3, hd]
  show M.bind (viewR x) _ E = _
  rw [bind_ok e1, hs]
  rfl
theorem ev_item {q : Bool} {a : M R} {l : M (List T)} {E : PV.Env} {t : T} {ts : List T} (ha : a E = .ok (.val t) E) (hl : l E = .ok ts E) : lItem q a l E = .ok (t :: ts) E := by
  unfold lItem
  rw [bind_ok ha]
  show M.bind l _ E = _
  rw [bind_ok hl]
  rfl
abbrev cP (j : Nat) : Ctx := bodyCtx gi false (callFn gi false j) d__law_pen
def pS : Stmt := d__law_pen.body.getD 0 (.Pass ⟨0,0,0,0⟩)
def lstA : Expr → Expr | .List (a :: _) _ => a | _ => .Name "" ⟨0,0,0,0⟩
def lstR : Expr → List Expr | .List (_ :: r) _ => r | _ => []
theorem pen_call (j : Nat) (ns : List Int) : callFn gi false (j + 1) "_law_pen" [.lst false (ns.map T.int)] = .ret (pen (cut ns none (some 63)) 0 0) [.lst false (ns.map T.int)] := by
  have hp : T.pureT (.lst false (ns.map T.int)) = true := pure_ints ns
  have v0 : cVar 0 [.lst false (ns.map T.int)] = .ok (.val (.lst false (ns.map T.int))) [.lst false (ns.map T.int)] := by
    show (if T.pureT (.lst false (ns.map T.int)) = true then _ else _) = _
    rw [if_pos hp]
  have vw : view (.val (.lst false (ns.map T.int))) [.lst false (ns.map T.int)] = some (.lst false (ns.map T.int)) := by
    show some (if T.pureT (.lst false (ns.map T.int)) = true then _ else _) = _
    rw [if_pos hp]
  have e1 : (recN 28).e (cP j) (binA (lstA (asgV pS))) [.lst false (ns.map T.int)] = .ok (.val (.lst true ((cut ns none (some 63)).map T.int))) [.lst false (ns.map T.int)] :=
    ev_slice (a := cVar 0) (lo := oNone) (hi := oSome (cVal (.int 63))) (st := oNone) v0 rfl rfl rfl rfl vw (by
      show (if T.pureL (ns.map T.int) = true then some (T.lst true (cut (ns.map T.int) none (some 63))) else none) = _
      rw [if_pos (pure_ints ns), cut_map])
  have e2 : (recN 29).e (cP j) (lstA (asgV pS)) [.lst false (ns.map T.int)] = .ok (.val (.lst true ((cut ns none (some 63)).map T.int))) [.lst false (ns.map T.int)] :=
    ev_b1 (f := bList) (a := (recN 28).e (cP j) (binA (lstA (asgV pS)))) (t := .lst false ((cut ns none (some 63)).map T.int)) e1 (by
      show some (T.lst false (T.frzL ((cut ns none (some 63)).map T.int))) = _
      rw [frz_ints]) (by
      show (if T.pureL ((cut ns none (some 63)).map T.int) = true then some (T.lst true ((cut ns none (some 63)).map T.int)) else none) = _
      rw [if_pos (pure_ints _)])
  have e3 : stmtN (recN 30) (cP j) 10 pS [.lst false (ns.map T.int)] = .ok (.ret (pen (cut ns none (some 63)) 0 0)) [.lst false (ns.map T.int)] := by
    exact ev_ret (m := cList (lItem true ((recN 29).e (cP j) (lstA (asgV pS))) (itemsE ((recN 29).e (cP j)) (lstR (asgV pS))))) (ev_list (ev_item e2 (ts := [.int 0, .int 0]) rfl) (by show 3 ≤ lim; decide))
  show runM d__law_pen (bodyM gi false (callFn gi false j) d__law_pen) _ = _
  unfold runM
  rw [if_pos (show [T.lst false (ns.map T.int)].length = d__law_pen.params.length from rfl)]
  have h' : bodyM gi false (callFn gi false j) d__law_pen ([T.lst false (ns.map T.int)] ++ List.replicate (d__law_pen.N.length - [T.lst false (ns.map T.int)].length) .hole) = _ := e3
  rw [h']
  rfl

/-! ### a pick -/
abbrev cK (j : Nat) : Ctx := bodyCtx gi false (callFn gi false j) d__law_pick
def kS : Stmt := d__law_pick.body.getD 0 (.Pass ⟨0,0,0,0⟩)
def xs6 : List T := [.non, .int 3, .str "word", .tup [.int 1, .int 2], .lst false [.int 4], .bl true]
def xs4 : List T := [.int 0, .int (-7), .str "most", .non]
def callA : Expr → List Expr | .Call _ es _ _ => es | _ => []
theorem pick_draw (j : Nat) (ns : List Int) (lap gr lap' gr' w many : Int) (L : T) (hL : argsE ((recN 28).e (cK j)) (callA (binB (asgV kS))) [pen ns lap gr, L] = .ok [.plc 0 [], .val (.int many)] [pen ns lap gr, L]) (hd : callFn gi false j "_law_draw" [pen ns lap gr, .int many] = .ret (.int w) [pen ns lap' gr', .int many]) :
    (recN 29).e (cK j) (binB (asgV kS)) [pen ns lap gr, L] = .ok (.val (.int w)) [pen ns lap' gr', L] := by
  rw [show (recN 29).e (cK j) (binB (asgV kS)) = cCall0 false (callFn gi false j) "_law_draw" [true, false] [] (argsE ((recN 28).e (cK j)) (callA (binB (asgV kS)))) from rfl]
  exact ev_call (E1 := [.hole, L]) (ts := [pen ns lap gr, .int many]) hL rfl rfl hd rfl rfl
theorem pick_of (j : Nat) (ns : List Int) (lap gr lap' gr' w many : Int) (L v : T) (hv : cVar 1 [pen ns lap gr, L] = .ok (.val L) [pen ns lap gr, L]) (hL : argsE ((recN 28).e (cK j)) (callA (binB (asgV kS))) [pen ns lap gr, L] = .ok [.plc 0 [], .val (.int many)] [pen ns lap gr, L])
    (hd : callFn gi false j "_law_draw" [pen ns lap gr, .int many] = .ret (.int w) [pen ns lap' gr', .int many]) (hs : subR (.val L) (.int w) [pen ns lap' gr', L] = .ok (.val v) [pen ns lap' gr', L]) : callFn gi false (j + 1) "_law_pick" [pen ns lap gr, L] = .ret v [pen ns lap' gr', L] := by
  have e : stmtN (recN 30) (cK j) 10 kS [pen ns lap gr, L] = .ok (.ret v) [pen ns lap' gr', L] := by
    rw [show stmtN (recN 30) (cK j) 10 kS = sRet (cSub (qt (binB (asgV kS))) (cVar 1) ((recN 29).e (cK j) (binB (asgV kS)))) from rfl]
    exact ev_ret2 (ev_sub hv rfl (pick_draw j ns lap gr lap' gr' w many L hL hd) rfl hs)
  show runM d__law_pick (bodyM gi false (callFn gi false j) d__law_pick) _ = _
  unfold runM
  rw [if_pos (show [pen ns lap gr, L].length = d__law_pick.params.length from rfl)]
  have h' : bodyM gi false (callFn gi false j) d__law_pick ([pen ns lap gr, L] ++ List.replicate (d__law_pick.N.length - [pen ns lap gr, L].length) .hole) = _ := e
  rw [h']
  rfl
theorem pick6 (j : Nat) (ns : List Int) (lap gr : Int) (h0 : 0 ≤ lap) (h1 : lap ≤ 1000) : ∃ v ∈ xs6, ∃ lap' gr', callFn gi false (j + 2) "_law_pick" [pen ns lap gr, .lst false xs6] = .ret v [pen ns lap' gr', .lst false xs6] ∧ lap ≤ lap' ∧ lap' ≤ lap + 1 := by
  obtain ⟨w0, lap', gr', hd, h2, h3⟩ := draw j ns lap gr 6 h0 h1 (by decide) (by decide)
  have b0 : 0 ≤ w0.fmod 6 := Int.fmod_nonneg_of_pos _ (by decide)
  have b1 : w0.fmod 6 < 6 := Int.fmod_lt_of_pos _ (by decide)
  generalize w0.fmod 6 = w at hd b0 b1
  have hw : w = 0 ∨ w = 1 ∨ w = 2 ∨ w = 3 ∨ w = 4 ∨ w = 5 := by omega
  rcases hw with rfl | rfl | rfl | rfl | rfl | rfl
  · exact ⟨.non, by simp [xs6], lap', gr', pick_of (j + 1) ns lap gr lap' gr' _ 6 (.lst false xs6) _ rfl rfl hd (by rfl), h2, h3⟩
  · exact ⟨.int 3, by simp [xs6], lap', gr', pick_of (j + 1) ns lap gr lap' gr' _ 6 (.lst false xs6) _ rfl rfl hd (by rfl), h2, h3⟩
  · exact ⟨.str "word", by simp [xs6], lap', gr', pick_of (j + 1) ns lap gr lap' gr' _ 6 (.lst false xs6) _ rfl rfl hd (by rfl), h2, h3⟩
  · exact ⟨.tup [.int 1, .int 2], by simp [xs6], lap', gr', pick_of (j + 1) ns lap gr lap' gr' _ 6 (.lst false xs6) _ rfl rfl hd (by rfl), h2, h3⟩
  · exact ⟨.lst false [.int 4], by simp [xs6], lap', gr', pick_of (j + 1) ns lap gr lap' gr' _ 6 (.lst false xs6) _ rfl rfl hd (by rfl), h2, h3⟩
  · exact ⟨.bl true, by simp [xs6], lap', gr', pick_of (j + 1) ns lap gr lap' gr' _ 6 (.lst false xs6) _ rfl rfl hd (by rfl), h2, h3⟩
theorem pick4 (j : Nat) (ns : List Int) (lap gr : Int) (h0 : 0 ≤ lap) (h1 : lap ≤ 1000) : ∃ v ∈ xs4, ∃ lap' gr', callFn gi false (j + 2) "_law_pick" [pen ns lap gr, .lst false xs4] = .ret v [pen ns lap' gr', .lst false xs4] ∧ lap ≤ lap' ∧ lap' ≤ lap + 1 := by
  obtain ⟨w0, lap', gr', hd, h2, h3⟩ := draw j ns lap gr 4 h0 h1 (by decide) (by decide)
  have b0 : 0 ≤ w0.fmod 4 := Int.fmod_nonneg_of_pos _ (by decide)
  have b1 : w0.fmod 4 < 4 := Int.fmod_lt_of_pos _ (by decide)
  generalize w0.fmod 4 = w at hd b0 b1
  have hw : w = 0 ∨ w = 1 ∨ w = 2 ∨ w = 3 := by omega
  rcases hw with rfl | rfl | rfl | rfl
  · exact ⟨.int 0, by simp [xs4], lap', gr', pick_of (j + 1) ns lap gr lap' gr' _ 4 (.lst false xs4) _ rfl rfl hd (by rfl), h2, h3⟩
  · exact ⟨.int (-7), by simp [xs4], lap', gr', pick_of (j + 1) ns lap gr lap' gr' _ 4 (.lst false xs4) _ rfl rfl hd (by rfl), h2, h3⟩
  · exact ⟨.str "most", by simp [xs4], lap', gr', pick_of (j + 1) ns lap gr lap' gr' _ 4 (.lst false xs4) _ rfl rfl hd (by rfl), h2, h3⟩
  · exact ⟨.non, by simp [xs4], lap', gr', pick_of (j + 1) ns lap gr lap' gr' _ 4 (.lst false xs4) _ rfl rfl hd (by rfl), h2, h3⟩
/-! ### the law -/
abbrev cL (j : Nat) : Ctx := bodyCtx gi false (callFn gi false j) d_law
def lS (i : Nat) : Stmt := d_law.body.getD i (.Pass ⟨0,0,0,0⟩)
abbrev lE (X P a b : T) : PV.Env := [X, P, a, b, .hole, .hole, .hole, .hole, .hole, .hole, .hole, .hole]
def retT : Res Fl → Bool | .ok (.ret (.bl true)) _ => true | _ => false
theorem retT_ok {r : Res Fl} (h : retT r = true) : ∃ E', r = .ok (.ret (.bl true)) E' := by
  unfold retT at h
  split at h
  · exact ⟨_, rfl⟩
  · cases h
theorem rest_0 (X P : T) : retT (seqS (stmtN (recN 30) (cL 4) 10) [lS 2, lS 3, lS 4, lS 5, lS 6] (lE X P (.non) (.int 0))) = true := by kernel_rfl
theorem rest_1 (X P : T) : retT (seqS (stmtN (recN 30) (cL 4) 10) [lS 2, lS 3, lS 4, lS 5, lS 6] (lE X P (.non) (.int (-7)))) = true := by kernel_rfl
theorem rest_2 (X P : T) : retT (seqS (stmtN (recN 30) (cL 4) 10) [lS 2, lS 3, lS 4, lS 5, lS 6] (lE X P (.non) (.str "most"))) = true := by kernel_rfl
theorem rest_3 (X P : T) : retT (seqS (stmtN (recN 30) (cL 4) 10) [lS 2, lS 3, lS 4, lS 5, lS 6] (lE X P (.non) (.non))) = true := by kernel_rfl
theorem rest_4 (X P : T) : retT (seqS (stmtN (recN 30) (cL 4) 10) [lS 2, lS 3, lS 4, lS 5, lS 6] (lE X P (.int 3) (.int 0))) = true := by kernel_rfl
theorem rest_5 (X P : T) : retT (seqS (stmtN (recN 30) (cL 4) 10) [lS 2, lS 3, lS 4, lS 5, lS 6] (lE X P (.int 3) (.int (-7)))) = true := by kernel_rfl
theorem rest_6 (X P : T) : retT (seqS (stmtN (recN 30) (cL 4) 10) [lS 2, lS 3, lS 4, lS 5, lS 6] (lE X P (.int 3) (.str "most"))) = true := by kernel_rfl
theorem rest_7 (X P : T) : retT (seqS (stmtN (recN 30) (cL 4) 10) [lS 2, lS 3, lS 4, lS 5, lS 6] (lE X P (.int 3) (.non))) = true := by kernel_rfl
theorem rest_8 (X P : T) : retT (seqS (stmtN (recN 30) (cL 4) 10) [lS 2, lS 3, lS 4, lS 5, lS 6] (lE X P (.str "word") (.int 0))) = true := by kernel_rfl
theorem rest_9 (X P : T) : retT (seqS (stmtN (recN 30) (cL 4) 10) [lS 2, lS 3, lS 4, lS 5, lS 6] (lE X P (.str "word") (.int (-7)))) = true := by kernel_rfl
theorem rest_10 (X P : T) : retT (seqS (stmtN (recN 30) (cL 4) 10) [lS 2, lS 3, lS 4, lS 5, lS 6] (lE X P (.str "word") (.str "most"))) = true := by kernel_rfl
theorem rest_11 (X P : T) : retT (seqS (stmtN (recN 30) (cL 4) 10) [lS 2, lS 3, lS 4, lS 5, lS 6] (lE X P (.str "word") (.non))) = true := by kernel_rfl
theorem rest_12 (X P : T) : retT (seqS (stmtN (recN 30) (cL 4) 10) [lS 2, lS 3, lS 4, lS 5, lS 6] (lE X P (.tup [.int 1, .int 2]) (.int 0))) = true := by kernel_rfl
theorem rest_13 (X P : T) : retT (seqS (stmtN (recN 30) (cL 4) 10) [lS 2, lS 3, lS 4, lS 5, lS 6] (lE X P (.tup [.int 1, .int 2]) (.int (-7)))) = true := by kernel_rfl
theorem rest_14 (X P : T) : retT (seqS (stmtN (recN 30) (cL 4) 10) [lS 2, lS 3, lS 4, lS 5, lS 6] (lE X P (.tup [.int 1, .int 2]) (.str "most"))) = true := by kernel_rfl
theorem rest_15 (X P : T) : retT (seqS (stmtN (recN 30) (cL 4) 10) [lS 2, lS 3, lS 4, lS 5, lS 6] (lE X P (.tup [.int 1, .int 2]) (.non))) = true := by kernel_rfl
theorem rest_16 (X P : T) : retT (seqS (stmtN (recN 30) (cL 4) 10) [lS 2, lS 3, lS 4, lS 5, lS 6] (lE X P (.lst false [.int 4]) (.int 0))) = true := by kernel_rfl
theorem rest_17 (X P : T) : retT (seqS (stmtN (recN 30) (cL 4) 10) [lS 2, lS 3, lS 4, lS 5, lS 6] (lE X P (.lst false [.int 4]) (.int (-7)))) = true := by kernel_rfl
theorem rest_18 (X P : T) : retT (seqS (stmtN (recN 30) (cL 4) 10) [lS 2, lS 3, lS 4, lS 5, lS 6] (lE X P (.lst false [.int 4]) (.str "most"))) = true := by kernel_rfl
theorem rest_19 (X P : T) : retT (seqS (stmtN (recN 30) (cL 4) 10) [lS 2, lS 3, lS 4, lS 5, lS 6] (lE X P (.lst false [.int 4]) (.non))) = true := by kernel_rfl
theorem rest_20 (X P : T) : retT (seqS (stmtN (recN 30) (cL 4) 10) [lS 2, lS 3, lS 4, lS 5, lS 6] (lE X P (.bl true) (.int 0))) = true := by kernel_rfl
theorem rest_21 (X P : T) : retT (seqS (stmtN (recN 30) (cL 4) 10) [lS 2, lS 3, lS 4, lS 5, lS 6] (lE X P (.bl true) (.int (-7)))) = true := by kernel_rfl
theorem rest_22 (X P : T) : retT (seqS (stmtN (recN 30) (cL 4) 10) [lS 2, lS 3, lS 4, lS 5, lS 6] (lE X P (.bl true) (.str "most"))) = true := by kernel_rfl
theorem rest_23 (X P : T) : retT (seqS (stmtN (recN 30) (cL 4) 10) [lS 2, lS 3, lS 4, lS 5, lS 6] (lE X P (.bl true) (.non))) = true := by kernel_rfl
theorem rest_all (X P v u : T) (hv : v ∈ xs6) (hu : u ∈ xs4) : retT (seqS (stmtN (recN 30) (cL 4) 10) [lS 2, lS 3, lS 4, lS 5, lS 6] (lE X P v u)) = true := by
  simp only [xs6, List.mem_cons, List.not_mem_nil, or_false] at hv
  simp only [xs4, List.mem_cons, List.not_mem_nil, or_false] at hu
  rcases hv with rfl | rfl | rfl | rfl | rfl | rfl
  · rcases hu with rfl | rfl | rfl | rfl
    · exact rest_0 X P
    · exact rest_1 X P
    · exact rest_2 X P
    · exact rest_3 X P
  · rcases hu with rfl | rfl | rfl | rfl
    · exact rest_4 X P
    · exact rest_5 X P
    · exact rest_6 X P
    · exact rest_7 X P
  · rcases hu with rfl | rfl | rfl | rfl
    · exact rest_8 X P
    · exact rest_9 X P
    · exact rest_10 X P
    · exact rest_11 X P
  · rcases hu with rfl | rfl | rfl | rfl
    · exact rest_12 X P
    · exact rest_13 X P
    · exact rest_14 X P
    · exact rest_15 X P
  · rcases hu with rfl | rfl | rfl | rfl
    · exact rest_16 X P
    · exact rest_17 X P
    · exact rest_18 X P
    · exact rest_19 X P
  · rcases hu with rfl | rfl | rfl | rfl
    · exact rest_20 X P
    · exact rest_21 X P
    · exact rest_22 X P
    · exact rest_23 X P
theorem lS_all : d_law.body = [lS 0, lS 1, lS 2, lS 3, lS 4, lS 5, lS 6] := by rfl
def parV : Stmt → List Expr | .Assign _ (.Tuple es _ _) _ => es | _ => []
theorem pure46 : ∀ v ∈ xs6 ++ xs4, v.fz = v ∧ T.noFrz v = T.noFrz v := by
  intro v hv
  simp only [xs6, xs4, List.cons_append, List.nil_append, List.mem_cons, List.not_mem_nil, or_false] at hv
  rcases hv with rfl | rfl | rfl | rfl | rfl | rfl | rfl | rfl | rfl | rfl <;> exact ⟨rfl, rfl⟩
theorem l0 (ns : List Int) : stmtN (recN 30) (cL 4) 10 (lS 0) (lE (.lst false (ns.map T.int)) .hole .hole .hole) = .ok .nx (lE (.lst false (ns.map T.int)) (pen (cut ns none (some 63)) 0 0) .hole .hole) := by
  have hp : T.pureT (.lst false (ns.map T.int)) = true := pure_ints ns
  have hfz : (T.lst false (ns.map T.int)).fz = .lst false (ns.map T.int) := by unfold T.fz; rw [if_pos hp]
  have v0 : cVar 0 (lE (.lst false (ns.map T.int)) .hole .hole .hole) = .ok (.val (.lst false (ns.map T.int))) (lE (.lst false (ns.map T.int)) .hole .hole .hole) := by
    show (if T.pureT (.lst false (ns.map T.int)) = true then _ else _) = _
    rw [if_pos hp]
  have hes : lArg true (cVar 0) lNil (lE (.lst false (ns.map T.int)) .hole .hole .hole) = .ok [.val (.lst false (ns.map T.int))] (lE (.lst false (ns.map T.int)) .hole .hole .hole) := by
    unfold lArg
    rw [bind_ok v0]
    rfl
  rw [show stmtN (recN 30) (cL 4) 10 (lS 0) = sAsg (cCall0 false (callFn gi false 4) "_law_pen" [false] [] (lArg true (cVar 0) lNil)) (gSlot .dp 1) from rfl]
  exact ev_asg (E := lE (.lst false (ns.map T.int)) .hole .hole .hole) (ev_call (E1 := lE (.lst false (ns.map T.int)) .hole .hole .hole) (ts := [.lst false (ns.map T.int)]) hes rfl (by
    show some ([(T.lst false (ns.map T.int)).fz], _) = _
    rw [hfz]) (pen_call 3 ns) rfl rfl) rfl

theorem ev_item2 {q : Bool} {a : M R} {l : M (List T)} {E E1 E2 : PV.Env} {t : T} {ts : List T} (ha : a E = .ok (.val t) E1) (hl : l E1 = .ok ts E2) : lItem q a l E = .ok (t :: ts) E2 := by
  unfold lItem
  rw [bind_ok ha]
  show M.bind l _ E1 = _
  rw [bind_ok hl]
  rfl
theorem ev_par {n : Nat} {l : M (List T)} {gs : List T → M Unit} {E E1 E2 : PV.Env} {ts : List T} (h : l E = .ok ts E1) (hl : ts.length = n) (hg : gs ts E1 = .ok () E2) : sPar n l gs E = .ok .nx E2 := by
  unfold sPar
  rw [bind_ok h, decide_eq_true hl]
  show M.bind (gs ts) _ E1 = _
  rw [bind_ok hg]
  rfl
def pc1 : Expr := (parV (lS 1)).getD 0 (.Name "" ⟨0,0,0,0⟩)
def pc2 : Expr := (parV (lS 1)).getD 1 (.Name "" ⟨0,0,0,0⟩)
theorem l1 (X : T) (ns : List Int) : ∃ v ∈ xs6, ∃ u ∈ xs4, ∃ P : T, stmtN (recN 30) (cL 4) 10 (lS 1) (lE X (pen ns 0 0) .hole .hole) = .ok .nx (lE X P v u) := by
  obtain ⟨v, hv, l6, g6, c6, a6, b6⟩ := pick6 2 ns 0 0 (by decide) (by decide)
  obtain ⟨u, hu, l4, g4, c4, a4, b4⟩ := pick4 2 ns l6 g6 (by omega) (by omega)
  refine ⟨v, hv, u, hu, pen ns l4 g4, ?_⟩
  have e1 : (recN 30).e (cL 4) pc1 (lE X (pen ns 0 0) .hole .hole) = .ok (.val v) (lE X (pen ns l6 g6) .hole .hole) := by
    rw [show (recN 30).e (cL 4) pc1 = cCall0 false (callFn gi false 4) "_law_pick" [true, false] [] (argsE ((recN 29).e (cL 4)) (callA pc1)) from rfl]
    exact ev_call (E := lE X (pen ns 0 0) .hole .hole) (E0 := lE X (pen ns 0 0) .hole .hole) (rs := [.plc 1 [], .val (.lst true [.non, .int 3, .str "word", .tup [.int 1, .int 2], .lst true [.int 4], .bl true])]) (E1 := lE X .hole .hole .hole) (ts := [pen ns 0 0, .lst false xs6]) rfl rfl rfl c6 rfl rfl
  have e2 : (recN 30).e (cL 4) pc2 (lE X (pen ns l6 g6) .hole .hole) = .ok (.val u) (lE X (pen ns l4 g4) .hole .hole) := by
    rw [show (recN 30).e (cL 4) pc2 = cCall0 false (callFn gi false 4) "_law_pick" [true, false] [] (argsE ((recN 29).e (cL 4)) (callA pc2)) from rfl]
    exact ev_call (E := lE X (pen ns l6 g6) .hole .hole) (E0 := lE X (pen ns l6 g6) .hole .hole) (rs := [.plc 1 [], .val (.lst true [.int 0, .int (-7), .str "most", .non])]) (E1 := lE X .hole .hole .hole) (ts := [pen ns l6 g6, .lst false xs4]) rfl rfl rfl c4 rfl rfl
  have hv' := (pure46 v (List.mem_append_left _ hv)).1
  have hu' := (pure46 u (List.mem_append_right _ hu)).1
  rw [show stmtN (recN 30) (cL 4) 10 (lS 1) = sPar 2 (lItem (qts [pc2]) ((recN 30).e (cL 4) pc1) (lItem true ((recN 30).e (cL 4) pc2) lNil)) (PV.gCons (gSlot .sh 2) (PV.gCons (gSlot .sh 3) PV.gNil)) from rfl]
  refine ev_par (ev_item2 e1 (ev_item2 e2 (ts := []) rfl)) rfl ?_
  show Res.ok () (lE X (pen ns l4 g4) v.fz u.fz) = _
  rw [hv', hu']
theorem plain (ns : List Int) (_ : ns.length ≤ 63) : ∃ as, callFn gi false 5 "law" [.lst false (ns.map .int)] = .ret (.bl true) as := by
  obtain ⟨v, hv, u, hu, P, e1⟩ := l1 (.lst false (ns.map T.int)) (cut ns none (some 63))
  obtain ⟨E', e2⟩ := retT_ok (rest_all (.lst false (ns.map T.int)) P v u hv hu)
  have h : seqS (stmtN (recN 30) (cL 4) 10) [lS 0, lS 1, lS 2, lS 3, lS 4, lS 5, lS 6] (lE (.lst false (ns.map T.int)) .hole .hole .hole) = .ok (.ret (.bl true)) E' := by
    rw [seq_nx (l0 ns), seq_nx e1]
    exact e2
  refine ⟨E'.take 1, ?_⟩
  show runM d_law (bodyM gi false (callFn gi false 4) d_law) _ = _
  unfold runM
  rw [if_pos (show [T.lst false (ns.map T.int)].length = d_law.params.length from rfl)]
  have h' : bodyM gi false (callFn gi false 4) d_law ([T.lst false (ns.map T.int)] ++ List.replicate (d_law.N.length - [T.lst false (ns.map T.int)].length) .hole) = _ := h
  rw [h']
  rfl

/-- the law's walk -/
theorem law_walk (plain : ∀ ns : List Int, ns.length ≤ 63 → ∃ as, callFn gi false 5 "law" [.lst false (ns.map .int)] = .ret (.bl true) as) (d : DefRec) (hd : d.name = "law") (hdf : d.params.defaults = []) (loose : List PySem.Str) (XP : (Str → Option Value) → Heap → Prop) (q : Program) :
    PySem.W.WalkO q loose XP hk.says (PySem.W.OpenLaw.row PySem.Challenge.rw_deepasdrawn_k00_errors_keep_their_fields).toRowW d [] (fun f vs => PySem.call f vs) := by
  refine walk_ofG (l := PySem.Challenge.rw_deepasdrawn_k00_errors_keep_their_fields) (n := 63) (k := 11) (x := "script") rfl (by decide) hdf ⟨rfl, by decide, by decide⟩ fun w mg fa h Y G hmg => ?_
  obtain ⟨K, KX, c⟩ := Y
  obtain ⟨f, fd, a1, a2, a3, a4, a5⟩ := fx_law KX G c
  rw [hd, a1] at hmg
  cases hmg
  refine ⟨K, fd, spT (gx K) false (callFn gi false 5) "law" (mutFlags d_law), KX, fun s u => a5 s [u] rfl, fun H a ns hl hO hS => law_says (by decide +kernel) rfl hS hO (plain ns hl), fun base h1 h2 => ?_⟩
  exact law_level (j := 4) (prg KX G c rfl) a3 rfl
end PV
open PySem PySem.W PySem.Calls PyProof.Rows
theorem PySem.Challenge.cw_deepasdrawn_k00_errors_keep_their_fields_holds : PySem.Challenge.rw_deepasdrawn_k00_errors_keep_their_fields.Holds := by
  w_on; o_law
  refine HandSHeadRun.head_any (r := OpenLaw.row PySem.Challenge.rw_deepasdrawn_k00_errors_keep_their_fields) (q := view (OpenLaw.row PySem.Challenge.rw_deepasdrawn_k00_errors_keep_their_fields).prog [15]) (H := PV.hk) (ob := PV.ob) (M := 4000) (loose := [("_law_pen" : Str), ("_law_draw" : Str), ("_law_pick" : Str), ("_law_caught" : Str), ("ChartError" : Str), ("BadValue" : Str), ("BadNumber" : Str), ("Misfit" : Str), ("TooMany" : Str), ("NoName" : Str), ("Nothing" : Str), ("BadText" : Str), ("BadLine" : Str)]) (d := HandSHeadRun.topDef (OpenLaw.row PySem.Challenge.rw_deepasdrawn_k00_errors_keep_their_fields).prog 15) (kwd := []) PV.ob_eq
    (by kernel_rfl) (fun s => by kernel_rfl) PV.run (by kernel_rfl) (by kernel_rfl) (by kernel_rfl) (by rfl) (by first | assumption | decide +kernel) (by decide +kernel) ⟨rfl, rfl, rfl, rfl, rfl, by decide +kernel⟩ ?hw ?hc
  case hw => w_witness2
  case hc => exact PV.law_walk PV.plain _ (by kernel_rfl) (by kernel_rfl) _ _ _

