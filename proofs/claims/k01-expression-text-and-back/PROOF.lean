import PyProof.Rows.All
import Wide.All
import OpenK.AllK
import Wide.FinOn
import Lean
import HandS.ForMost
import HandS.ForExc
import HandS.More
import HandS.Flow
import HandS.Defaults
import HandS.IsInst
import HandS.SortInts
import HandS.Evl
import HandS.Head0
import HandS.Head1
import HandS.Head2
import HandS.HeadEnd
import HandS.HeadHook1
import HandS.HeadHook2
import HandS.HeadHook3
import HandS.DictComp
import HandS.Zip
import HandS.TupAny
import KE.KIndexOf
import HandS.TupMul
import HandS.MakeKwOnly
import KE.GoesZip
import KE.GoesMore
import HandS.RaiseMore
import HandS.Rev
import PySem.Challenge.RW_rungstead_k01_expression_text_and_back
set_option Elab.async false
set_option linter.all false
set_option maxRecDepth 100000
set_option maxHeartbeats 4000000
namespace EV
open PySem PySem.Spec PyProof.Rows L2
/-! ### values without addresses, the store of shared objects, results -/
inductive W where
  | non | bl (b : Bool) | int (i : Int) | str (s : Str) | tup (xs : List W) | lst (xs : List W) | dct (kvs : List (Key × W)) | loc (n : Nat) | ty (n : String) | gl (x : Str) | scr (xs : List W)
inductive Ob where
  | lst (xs : List W) | dct (kvs : List (Key × W)) | ins (c : Str) (fs : List (Str × W)) | frz (xs : List W) | lck (kvs : List (Key × W))
/-- a slot: empty, a value that stays, a list or dict of its own that may change -/
inductive Sl where
  | emp | fr (w : W) | ow (w : W)
abbrev Sls := List Sl
abbrev Sto := List Ob
inductive Res (α : Type) where
  | ok (a : α) (S : Sto) | ex (c : Str) (as : List W) (S : Sto) | bad
abbrev M (α : Type) := Sls → Sto → Res α
def Res.bind {α β : Type} (r : Res α) (f : α → Sto → Res β) : Res β := match r with
  | .ok a S => f a S
  | .ex c as S => .ex c as S
  | .bad => .bad
inductive Fl where
  | nx (σ : Sls) | rt (w : W) | bk (σ : Sls) | ct (σ : Sls)
/-- lists made by the program are at most so long -/
abbrev LIM : Nat := 10000000
def olift {α : Type} (o : Option α) (S : Sto) : Res α := match o with
  | some a => .ok a S
  | none => .bad
/-- a shared list or dict as a value -/
def vw (S : Sto) (w : W) : W := match w with
  | .loc n => match S[n]? with
    | some (.lst xs) => .lst xs
    | some (.dct kvs) => .dct kvs
    | _ => .loc n
  | w => w
/-- .. the script, too -/
def vwz (S : Sto) (w : W) : W := match w with
  | .loc n => match S[n]? with
    | some (.lst xs) => .lst xs
    | some (.dct kvs) => .dct kvs
    | some (.frz xs) => .lst xs
    | _ => .loc n
  | .scr xs => .lst xs
  | w => w
/-! ### operators -/
/-- text * int -/
def repS (s : Str) (n : Nat) : Str := ⟨((List.replicate n s.cps.toList).flatten).toArray⟩
def wbin : Operator → W → W → Option W
  | .Add, .int i, .int j => some (.int (i + j))
  | .Add, .str a, .str b => if a.length + b.length ≤ sizeLine then some (.str (a ++ b)) else none
  | .Add, .lst a, .lst b => if a.length + b.length ≤ LIM then some (.lst (a ++ b)) else none
  | .Add, .tup a, .tup b => if a.length + b.length ≤ LIM then some (.tup (a ++ b)) else none
  | .Sub, .int i, .int j => some (.int (i - j))
  | .Mult, .int i, .int j => if (-(2 ^ 64) < i ∧ i < 2 ^ 64) ∨ (-(2 ^ 64) < j ∧ j < 2 ^ 64) then some (.int (i * j)) else none
  | .Mult, .lst a, .int j => if -(2 ^ 63) ≤ j ∧ j < 2 ^ 63 ∧ a.length * j.toNat ≤ LIM then some (.lst (List.replicate j.toNat a).flatten) else none
  | .Mult, .tup a, .int j => if a ≠ [] ∧ 2 ≤ j ∧ j ≤ 1000 ∧ a.length ≤ 1000 then some (.tup (List.replicate j.toNat a).flatten) else if j = 1 then some (.tup a) else if j = 0 ∧ a ≠ [] then some (.tup []) else none
  | .Mult, .str a, .int j => if 0 ≤ j ∧ j ≤ 1000 ∧ a.length ≤ 1000 then some (.str (repS a j.toNat)) else none
  | .Mod, .int i, .int j => if j ≠ 0 then some (.int (i.fmod j)) else none
  | .FloorDiv, .int i, .int j => if j ≠ 0 ∧ j.natAbs < 1073741824 then some (.int (i.fdiv j)) else none
  | .Pow, .int i, .int j => if 0 ≤ j ∧ j ≤ 1000000 ∧ i.natAbs < 2 ^ 64 then some (.int (i ^ j.toNat)) else none
  | _, _, _ => none
mutual
/-- plain data -/
def toD : W → Option PyData
  | .non => some .none
  | .bl b => some (.bool b)
  | .int i => some (.int i)
  | .str s => some (.str s)
  | .tup xs => (toDs xs).map .tuple
  | .lst xs => (toDs xs).map .list
  | _ => none
def toDs : List W → Option (List PyData)
  | [] => some []
  | x :: xs => match toD x, toDs xs with
    | some d, some ds => some (d :: ds)
    | _, _ => none
end
def weq (a b : W) : Option Bool := match a, b with
  | .int i, .int j => some (decide (i = j))
  | .str i, .str j => some (decide (i = j))
  | .bl i, .bl j => some (decide (i = j))
  | .int _, .str _ => some false
  | .str _, .int _ => some false
  | a, b => match toD a, toD b with
    | some d, some e => if SeqAt.shaped d = true ∧ SeqAt.shaped e = true then some (PyData.eqv d e) else none
    | _, _ => none
def wflat : W → Bool
  | .non | .bl _ | .int _ | .str _ => true
  | _ => false
/-- == of flat values -/
def wfeq : W → W → Bool
  | .non, .non => true
  | .bl a, .bl b => a == b
  | .bl a, .int b => (if a then 1 else 0) == b
  | .int a, .bl b => a == (if b then 1 else 0)
  | .int a, .int b => a == b
  | .str a, .str b => a == b
  | _, _ => false
def wkey : W → Option Key
  | .int i => some (.inl i)
  | .str s => some (.inr s)
  | _ => none
/-- the value of a key -/
def dval {α : Type} (kvs : List (Key × α)) (k : Key) : Option α := (kvs.find? fun kv => decide (kv.1 = k)).map (·.2)
def dput {α : Type} (kvs : List (Key × α)) (k : Key) (v : α) : List (Key × α) := if kvs.any fun kv => decide (kv.1 = k) then kvs.map fun kv => if kv.1 = k then (kv.1, v) else kv else kvs ++ [(k, v)]
def ddrop {α : Type} (kvs : List (Key × α)) (k : Key) : List (Key × α) := kvs.filter fun kv => decide (kv.1 ≠ k)
/-- x in y of any data -/
def wdeep (x y : W) : Option Bool := match toD x, toD y with
  | some d, some (.list ds) => if SeqAt.shaped d = true ∧ SeqAt.shaped (.list ds) = true ∧ d.depth ≤ 10 then some (ds.any fun z => PyData.eqv z d) else none
  | some d, some (.tuple ds) => if SeqAt.shaped d = true ∧ SeqAt.shaped (.tuple ds) = true ∧ d.depth ≤ 10 then some (ds.any fun z => PyData.eqv z d) else none
  | _, _ => none
def wmem (x y : W) : Option Bool := match y with
  | .lst xs => if wflat x = true ∧ xs.all wflat = true then some (xs.any fun z => wfeq z x) else wdeep x (.lst xs)
  | .tup xs => if wflat x = true ∧ xs.all wflat = true then some (xs.any fun z => wfeq z x) else wdeep x (.tup xs)
  | .dct kvs => (wkey x).map fun k => (dval kvs k).isSome
  | .str s => match x with
    | .str t => if t.cps.size = 1 then some (decide (t.cps.getD 0 0 ∈ s.cps.toList)) else none
    | _ => none
  | _ => none
def wcmp : CmpOp → W → W → Option Bool
  | .Eq, a, b => weq a b
  | .NotEq, a, b => (weq a b).map (!·)
  | .Lt, .int i, .int j => some (decide (i < j))
  | .LtE, .int i, .int j => some (decide (i ≤ j))
  | .Gt, .int i, .int j => some (decide (j < i))
  | .GtE, .int i, .int j => some (decide (j ≤ i))
  | .Lt, .str i, .str j => some (decide (i.cps.toList < j.cps.toList))
  | .Is, a, .non => some (match a with | .non => true | _ => false)
  | .IsNot, a, .non => some (match a with | .non => false | _ => true)
  | .In, a, b => wmem a b
  | .NotIn, a, b => (wmem a b).map (!·)
  | _, _, _ => none
def wtru : W → Option Bool
  | .non => some false
  | .bl b => some b
  | .int i => some (i != 0)
  | .str s => if s.length ≤ sizeLine then some ((s.length : Int) != 0) else none
  | .lst xs => some (!xs.isEmpty)
  | .tup xs => some (!xs.isEmpty)
  | .dct kvs => some (!kvs.isEmpty)
  | _ => none
def wix : W → W → Option W
  | .lst xs, .int i => atI xs i
  | .tup xs, .int i => atI xs i
  | .str s, .int i => if s.length ≤ sizeLine then (atI s.cps.toList i).map fun c => .str ⟨#[c]⟩ else none
  | .dct kvs, k => (wkey k).bind (dval kvs)
  | _, _ => none
/-- the part of a list -/
def wcut {α : Type} (xs : List α) (lo hi : Option Int) : List α := (xs.drop (HT.sIx xs.length 0 lo)).take (HT.sIx xs.length xs.length hi - HT.sIx xs.length 0 lo)
def wsl : W → Option Int → Option Int → Option W
  | .lst xs, lo, hi => some (.lst (wcut xs lo hi))
  | .tup xs, lo, hi => some (.tup (wcut xs lo hi))
  | .str s, lo, hi => if s.length ≤ sizeLine then some (.str (cutS s lo hi)) else none
  | _, _, _ => none
def wun : UnaryOp → W → Option W
  | .USub, .int i => some (.int (-i))
  | _, _ => none
/-! ### built-in functions -/
def kW : Key → W
  | .inl i => .int i
  | .inr x => .str x
inductive Bf where
  | len | int | bool | str | abs | min | max | sum | tuple | list | isinstance | all | any | sorted | none
def bfOf (x : Str) : Bf :=
  if x = "len" then .len else if x = "int" then .int else if x = "isinstance" then .isinstance else if x = "tuple" then .tuple else if x = "list" then .list else if x = "min" then .min else if x = "max" then .max
  else if x = "sum" then .sum else if x = "str" then .str else if x = "abs" then .abs else if x = "bool" then .bool else if x = "all" then .all else if x = "any" then .any else if x = "sorted" then .sorted else .none
def wints : List W → Option (List Int)
  | [] => some []
  | .int i :: r => (wints r).map (i :: ·)
  | _ => none
def wbls : List W → Option (List Bool)
  | [] => some []
  | .bl i :: r => (wbls r).map (i :: ·)
  | _ => none
def imax : List Int → Int
  | [] => 0
  | i :: r => r.foldl max i
def imin : List Int → Int
  | [] => 0
  | i :: r => r.foldl min i
/-- isinstance of a built-in class -/
def wisi : W → String → Option Bool
  | .non, n => if n = "int" ∨ n = "bool" ∨ n = "str" ∨ n = "tuple" ∨ n = "list" then some false else none
  | .bl _, n => if n = "int" ∨ n = "bool" then some true else if n = "str" ∨ n = "tuple" ∨ n = "list" then some false else none
  | .int _, n => if n = "int" then some true else if n = "bool" ∨ n = "str" ∨ n = "tuple" ∨ n = "list" then some false else none
  | .str _, n => if n = "str" then some true else if n = "bool" ∨ n = "int" ∨ n = "tuple" ∨ n = "list" then some false else none
  | .tup _, n => if n = "tuple" then some true else if n = "bool" ∨ n = "int" ∨ n = "str" ∨ n = "list" then some false else none
  | .lst _, n => if n = "list" then some true else if n = "bool" ∨ n = "int" ∨ n = "str" ∨ n = "tuple" then some false else none
  | _, _ => none
def wblt : Bf → List W → Option W
  | .len, [.lst xs] => some (.int xs.length)
  | .len, [.tup xs] => some (.int xs.length)
  | .len, [.str s] => if s.length ≤ sizeLine then some (.int s.length) else none
  | .len, [.dct kvs] => some (.int kvs.length)
  | .int, [.int i] => some (.int i)
  | .int, [.bl b] => some (.int (if b then 1 else 0))
  | .int, [.str s] => if s.length ≤ 640 then (intText? s).map .int else none
  | .bool, [.int i] => some (.bl (i != 0))
  | .bool, [.bl b] => some (.bl b)
  | .str, [.int i] => if i.natAbs.log2 < 1920 then some (.str (toString i)) else none
  | .str, [.str s] => some (.str s)
  | .abs, [.int i] => some (.int (if i < 0 then -i else i))
  | .min, [.int i, .int j] => some (.int (min i j))
  | .max, [.int i, .int j] => some (.int (max i j))
  | .min, [.lst xs] => match wints xs with
    | some (i :: r) => some (.int (imin (i :: r)))
    | _ => none
  | .max, [.lst xs] => match wints xs with
    | some (i :: r) => some (.int (imax (i :: r)))
    | _ => none
  | .sum, [.lst xs] => (wints xs).map fun ns => .int ns.sum
  | .sum, [.tup xs] => (wints xs).map fun ns => .int ns.sum
  | .all, [.lst xs] => (wbls xs).map fun bs => .bl (bs.all id)
  | .any, [.lst xs] => (wbls xs).map fun bs => .bl (bs.any id)
  | .tuple, [.lst xs] => some (.tup xs)
  | .tuple, [.tup xs] => some (.tup xs)
  | .list, [.lst xs] => some (.lst xs)
  | .list, [.tup xs] => some (.lst xs)
  | .list, [.dct kvs] => some (.lst (kvs.map fun kv => kW kv.1))
  | .isinstance, [w, .ty n] => (wisi w n).map .bl
  | _, _ => none
/-! ### methods of built-in classes -/
inductive Mt where
  | append | extend | pop | insert | reverse | index | get | items | values | keys | other
  deriving DecidableEq
def mtOf (x : Str) : Mt :=
  if x = "append" then .append else if x = "extend" then .extend else if x = "pop" then .pop else if x = "get" then .get else if x = "index" then .index else if x = "reverse" then .reverse else if x = "insert" then .insert
  else if x = "items" then .items else if x = "values" then .values else if x = "keys" then .keys else .other
/-- methods that change a list: the answer, the list behind it -/
def lstUp (S : Sto) : Mt → List W → List W → Option (W × List W)
  | .append, xs, [y] => if xs.length < LIM then some (.non, xs ++ [y]) else none
  | .extend, xs, [y] => match vw S y with
    | .lst ys => if xs.length + ys.length ≤ LIM then some (.non, xs ++ ys) else none
    | .tup ys => if xs.length + ys.length ≤ LIM then some (.non, xs ++ ys) else none
    | _ => none
  | .pop, xs, [] => match xs[xs.length - 1]? with
    | some y => some (y, xs.dropLast)
    | none => none
  | .pop, xs, [.int i] => if -(2 ^ 63) ≤ i ∧ i < 2 ^ 63 then match ixN xs.length i with
    | some k => match xs[k]? with
      | some y => some (y, xs.eraseIdx k)
      | none => none
    | none => none else none
  | .reverse, xs, [] => some (.non, xs.reverse)
  | .insert, xs, [.int i, y] => if 0 ≤ i ∧ i < 2 ^ 63 ∧ xs.length < LIM then some (.non, xs.take i.toNat ++ [y] ++ xs.drop i.toNat) else none
  | _, _, _ => none
/-- methods that read -/
def wrd : Mt → W → List W → Option W
  | .index, .lst xs, [.str k] => match wstrs xs with
    | some ys => if k ∈ ys then some (.int (ys.idxOf k : Nat)) else none
    | none => none
  | .get, .dct kvs, [k] => (wkey k).map fun k => (dval kvs k).getD .non
  | .get, .dct kvs, [k, d] => (wkey k).map fun k => (dval kvs k).getD d
  | _, _, _ => none
where wstrs : List W → Option (List Str)
  | [] => some []
  | .str i :: r => (wstrs r).map (i :: ·)
  | _ => none
/-! ### what the program's text is to the walk -/
/-- a def: how many positional parameters, keyword-only ones with their defaults -/
structure FnI where
  np : Nat
  kw : List (Str × W) := []
structure Glob where
  cst : List (Str × W)
  /-- built-in names that the module leaves as they are -/
  fre : List Str
  fns : List (Str × FnI)
  /-- classes that are made by C(..): the parameters of __init__ without self -/
  cls : List (Str × Nat)
  /-- methods: (class, name), the def's own name -/
  mts : List ((Str × Str) × Str)
  /-- classes' fields -/
  fld : List (Str × Str)
  /-- calls with keywords: (def, the keywords), how many values go ahead, where each further parameter's value comes from -/
  kwc : List ((Str × List (Option Str)) × Nat × List (Nat ⊕ W)) := []
  /-- dicts of the top with text keys: what stands in them, some texts that are no key -/
  tbl : List (Str × List (Str × W) × List Str) := []
  /-- dicts of the top whose text keys are all known -/
  dts : List (Str × List (Str × W)) := []
/-- a def's names by slot; list displays that are shared objects (row, column, end column) -/
structure Dx where
  N : List Str
  locs : List (Nat × Nat × Nat) := []
  /-- expressions in which the shared list of a slot is walked, locked meanwhile -/
  lck : List ((Nat × Nat × Nat) × Nat) := []
abbrev Fenv := Str → List W → Sto → Res W
/-! ### the steps -/
def mBad {α : Type} : M α := fun _ _ => .bad
def mC (w : W) : M W := fun _ S => .ok w S
def mVar (i : Nat) : M W := fun σ S => match σ[i]? with
  | some (.fr w) => .ok w S
  | _ => .bad
/-- .. a list of its own may be looked at -/
def mVarB (i : Nat) : M W := fun σ S => match σ[i]? with
  | some (.fr w) => .ok w S
  | some (.ow w) => .ok w S
  | _ => .bad
def mBin (op : Operator) (a b : M W) : M W := fun σ S => (a σ S).bind fun x S1 => (b σ S1).bind fun y S2 => olift (wbin op (vw S2 x) (vw S2 y)) S2
def mUn (op : UnaryOp) (a : M W) : M W := fun σ S => (a σ S).bind fun x S1 => olift (wun op x) S1
def mCmp (op : CmpOp) (a b : M W) : M W := fun σ S => (a σ S).bind fun x S1 => (b σ S1).bind fun y S2 => olift ((wcmp op (vw S2 x) (vw S2 y)).map .bl) S2
def mCmpT (op : CmpOp) (a b : M W) : M Bool := fun σ S => (a σ S).bind fun x S1 => (b σ S1).bind fun y S2 => olift (wcmp op (vw S2 x) (vw S2 y)) S2
def mTru (a : M W) : M Bool := fun σ S => (a σ S).bind fun x S1 => olift (wtru (vw S1 x)) S1
def mChain (o p : CmpOp) (a b c : M W) : M Bool := fun σ S => (a σ S).bind fun x S1 => (b σ S1).bind fun y S2 => match wcmp o (vw S2 x) (vw S2 y) with
  | some false => .ok false S2
  | some true => (c σ S2).bind fun z S3 => olift (wcmp p (vw S3 y) (vw S3 z)) S3
  | none => .bad
def mNotT (a : M Bool) : M Bool := fun σ S => (a σ S).bind fun b S1 => .ok (!b) S1
def mAnd (a b : M Bool) : M Bool := fun σ S => (a σ S).bind fun x S1 => if x then b σ S1 else .ok false S1
def mOr (a b : M Bool) : M Bool := fun σ S => (a σ S).bind fun x S1 => if x then .ok true S1 else b σ S1
def mVal (a : M Bool) : M W := fun σ S => (a σ S).bind fun b S1 => .ok (.bl b) S1
/-- and, or by truth -/
def mAndV (a b : M W) : M W := fun σ S => (a σ S).bind fun x S1 => match wtru (vw S1 x) with
  | some true => b σ S1
  | some false => .ok x S1
  | none => .bad
def mOrV (a b : M W) : M W := fun σ S => (a σ S).bind fun x S1 => match wtru (vw S1 x) with
  | some true => .ok x S1
  | some false => b σ S1
  | none => .bad
def mIfE (t : M Bool) (a b : M W) : M W := fun σ S => (t σ S).bind fun x S1 => if x then a σ S1 else b σ S1
def mNil : M (List W) := fun _ S => .ok [] S
def mCons (a : M W) (b : M (List W)) : M (List W) := fun σ S => (a σ S).bind fun x S1 => (b σ S1).bind fun xs S2 => .ok (x :: xs) S2
def mTup (a : M (List W)) : M W := fun σ S => (a σ S).bind fun xs S1 => if xs.length ≤ LIM then .ok (.tup xs) S1 else .bad
def mLst (a : M (List W)) : M W := fun σ S => (a σ S).bind fun xs S1 => if xs.length ≤ LIM then .ok (.lst xs) S1 else .bad
/-- a new list or dict becomes a shared object -/
def mToLoc (a : M W) : M W := fun σ S => (a σ S).bind fun w S1 => match w with
  | .lst xs => .ok (.loc S1.length) (S1 ++ [.lst xs])
  | .dct kvs => .ok (.loc S1.length) (S1 ++ [.dct kvs])
  | _ => .bad
def mNewD : M W := fun _ S => .ok (.dct []) S
def mPairs : List (M W × M W) → M (List (Key × W))
  | [] => fun _ S => .ok [] S
  | (k, v) :: r => fun σ S => (k σ S).bind fun x S1 => (v σ S1).bind fun y S2 => (mPairs r σ S2).bind fun kvs S3 => match wkey x with
    | some k => .ok ((k, y) :: kvs) S3
    | none => .bad
def dmerge {α : Type} (kvs more : List (Key × α)) : List (Key × α) := more.foldl (fun acc kv => dput acc kv.1 kv.2) kvs
def mDict (ps : List (M W × M W)) : M W := fun σ S => (mPairs ps σ S).bind fun kvs S1 => if kvs.length ≤ 15 then .ok (.dct (dmerge [] kvs)) S1 else .bad
def mIx (a b : M W) : M W := fun σ S => (a σ S).bind fun x S1 => (b σ S1).bind fun i S2 => olift (wix (vwz S2 x) i) S2
def mPart : Option (M W) → M (Option Int)
  | none => fun _ S => .ok none S
  | some a => fun σ S => (a σ S).bind fun x S1 => match x with
    | .int i => .ok (some i) S1
    | _ => .bad
def mSl (a : M W) (lo hi : Option (M W)) : M W := fun σ S => (a σ S).bind fun x S1 => (mPart lo σ S1).bind fun l S2 => (mPart hi σ S2).bind fun h S3 => olift (wsl (vw S3 x) l h) S3
def mFld (a : M W) (f : Str) (ok : Str → Bool) : M W := fun σ S => (a σ S).bind fun x S1 => match x with
  | .loc n => match S1[n]? with
    | some (.ins c fs) => if ok c then olift (fs.lookup f) S1 else .bad
    | _ => .bad
  | _ => .bad
def mBlt (f : Bf) (a : M (List W)) : M W := fun σ S => (a σ S).bind fun xs S1 => olift (wblt f (xs.map (vwz S1))) S1
def mCall (F : Fenv) (f : Str) (a : M (List W)) (more : List W) : M W := fun σ S => (a σ S).bind fun xs S1 => F f (xs ++ more) S1
def kwSel (us : List W) : Nat ⊕ W → W
  | .inl i => us.getD i .non
  | .inr w => w
/-- keyword arguments: each parameter's value by its place among the keywords, or its default -/
def mCallK (F : Fenv) (f : Str) (a k : M (List W)) (ord : List (Nat ⊕ W)) : M W := fun σ S => (a σ S).bind fun xs S1 => (k σ S1).bind fun us S2 => F f (xs ++ ord.map (kwSel us)) S2
def mMake (F : Fenv) (c : Str) (ini : Str) (a : M (List W)) : M W := fun σ S => (a σ S).bind fun xs S1 => (F ini (.loc S1.length :: xs) (S1 ++ [.ins c []])).bind fun w S2 => match w with
  | .non => .ok (.loc S1.length) S2
  | _ => .bad
/-- of which kind the receiver of a method is -/
inductive Kd where
  | lst | dct | str | tup | ins (c : Str) (fs : List (Str × W)) | bad
def kdOf (S : Sto) (w : W) : Kd := match w with
  | .loc n => match S[n]? with
    | some (.ins c fs) => .ins c fs
    | some (.lst _) => .lst
    | some (.dct _) => .dct
    | _ => .bad
  | .lst _ => .lst
  | .dct _ => .dct
  | .str _ => .str
  | .tup _ => .tup
  | _ => .bad
/-- a method of a built-in class -/
def doB (k : Kd) (m : Mt) (w : W) (ws : List W) (S : Sto) : Res W := match k, vw S w with
  | .lst, .lst xs => match w, lstUp S m xs ws with
    | .loc n, some (r, ys) => .ok r (S.set n (.lst ys))
    | _, _ => olift (wrd m (.lst xs) ws) S
  | .dct, .dct kvs => olift (wrd m (.dct kvs) ws) S
  | _, _ => .bad
def goMeth (F : Fenv) (own : Str → Option Str) (m : Mt) (nm : Str) (w : W) (a : Sto → Res (List W)) (S : Sto) : Res W := match kdOf S w with
  | .ins c fs => match own c, fs.lookup nm, decide (m = .extend) with
    | some q, none, false => (a S).bind fun ws S2 => F q (w :: ws) S2
    | _, _, _ => .bad
  | .bad => .bad
  | k => (a S).bind fun ws S2 => doB k m w ws S2
/-- x.index(e), where x is a tuple of the top -/
def mTIx (ws : List W) (a : M W) : M W := fun σ S => (a σ S).bind fun x S1 => olift (wrd .index (.lst ws) [x]) S1
/-- x.get(k, d), where x is a dict of the top -/
def wTGet (t : List (Str × W) × List Str) (k d : W) : Option W := match k with
  | .str s => match t.1.lookup s with
    | some w => some w
    | none => if t.2.contains s = true then some d else none
  | _ => none
def mTGet (t : List (Str × W) × List Str) (a b : M W) : M W := fun σ S => (a σ S).bind fun x S1 => (b σ S1).bind fun y S2 => olift (wTGet t x y) S2
/-- k in x, x[k], where x is a dict of the top -/
def wTIn (t : List (Str × W)) (neg : Bool) (k : W) : Option Bool := match k with
  | .str s => some ((t.lookup s).isSome != neg)
  | _ => none
def mTIn (t : List (Str × W)) (neg : Bool) (a : M W) : M Bool := fun σ S => (a σ S).bind fun x S1 => olift (wTIn t neg x) S1
def wTSub (t : List (Str × W)) (k : W) : Option W := match k with
  | .str s => t.lookup s
  | _ => none
def mTSub (t : List (Str × W)) (a : M W) : M W := fun σ S => (a σ S).bind fun x S1 => olift (wTSub t x) S1
/-- methods of texts with one argument -/
inductive Sm where
  | split | join
  deriving DecidableEq
def smOf (x : Str) : Option Sm := if x = "split" then some .split else if x = "join" then some .join else none
def wSm : Sm → W → W → Option W
  | .split, .str a, .str b => if (b.length == 0) = false ∧ a.length + 2 ≤ sizeLine then some (.lst ((Txt.split a b).map .str)) else none
  | .join, .str a, .lst xs => match wrd.wstrs xs with
    | some ys => if (ys.map (·.length)).sum + ys.length * a.length ≤ 16777216 then some (.str (Txt.join a ys)) else none
    | none => none
  | .join, .str a, .tup xs => match wrd.wstrs xs with
    | some ys => if (ys.map (·.length)).sum + ys.length * a.length ≤ 16777216 then some (.str (Txt.join a ys)) else none
    | none => none
  | _, _, _ => none
def mSm (k : Sm) (a b : M W) : M W := fun σ S => (a σ S).bind fun x S1 => (b σ S1).bind fun y S2 => olift (wSm k x y) S2
def mMeth (F : Fenv) (own : Str → Option Str) (m : Mt) (nm : Str) (o : M W) (a : M (List W)) : M W := fun σ S => (o σ S).bind fun w S1 => goMeth F own m nm w (a σ) S1
/-- slots forgotten -/
def wwipe (σ : Sls) : List Nat → Sls
  | [] => σ
  | v :: vs => (wwipe σ vs).set v .emp
def lcL (bd : W → M Sls) (t : M Bool) (e : M W) (σ : Sls) : List W → Sto → Res (List W)
  | [], S => .ok [] S
  | w :: ws, S => (bd w σ S).bind fun σ1 S1 => (t σ1 S1).bind fun b S2 => if b then (e σ1 S2).bind fun v S3 => (lcL bd t e σ ws S3).bind fun vs S4 => .ok (v :: vs) S4 else lcL bd t e σ ws S2
def mLc (it : M (List W)) (bd : W → M Sls) (t : M Bool) (e : M W) (own : List Nat) : M W := fun σ S => (it σ S).bind fun ws S1 => if ws.length ≤ LIM ∧ (own.all fun i => match σ[i]? with
  | some (.ow _) => false
  | _ => true) = true then (lcL bd t e (wwipe σ own) ws S1).bind fun vs S2 => .ok (.lst vs) S2 else .bad
/-- dict comprehensions -/
def mPr (mk mv : M W) : M W := fun σ S => (mk σ S).bind fun x S1 => (mv σ S1).bind fun y S2 => match wkey x with
  | some _ => .ok (.tup [x, y]) S2
  | none => .bad
def pairsD (vs : List W) : List (Key × W) := vs.foldl (fun acc w => match w with
  | .tup [x, y] => match wkey x with
    | some k => dput acc k y
    | none => acc
  | _ => acc) []
def mDc (mit : M (List W)) (bd : W → M Sls) (t : M Bool) (mk mv : M W) (own : List Nat) : M W := fun σ S => (mit σ S).bind fun ws S1 => if ws.length ≤ LIM ∧ (own.all fun i => match σ[i]? with
  | some (.ow _) => false
  | _ => true) = true then (lcL bd t (mPr mk mv) (wwipe σ own) ws S1).bind fun vs S2 => .ok (.dct (pairsD vs)) S2 else .bad
/-- a comprehension with two fors -/
def noOw (σ : Sls) (own : List Nat) : Bool := own.all fun i => match σ[i]? with
  | some (.ow _) => false
  | _ => true
def lc2L (bd : W → M Sls) (t : M Bool) (it1 : M (List W)) (bd1 : W → M Sls) (t1 : M Bool) (e : M W) (own1 : List Nat) (σ : Sls) : List W → Sto → Res (List W)
  | [], S => .ok [] S
  | w :: ws, S => (bd w σ S).bind fun σ1 S1 => (t σ1 S1).bind fun b S2 => if b then (if noOw σ1 own1 = true then (it1 σ1 S2).bind fun us S3 => (lcL bd1 t1 e (wwipe σ1 own1) us S3).bind fun vs S4 => (lc2L bd t it1 bd1 t1 e own1 σ ws S4).bind fun vs2 S5 => .ok (vs ++ vs2) S5 else .bad) else lc2L bd t it1 bd1 t1 e own1 σ ws S2
def mLc2 (it : M (List W)) (bd : W → M Sls) (t : M Bool) (it1 : M (List W)) (bd1 : W → M Sls) (t1 : M Bool) (e : M W) (own own1 : List Nat) : M W := fun σ S => (it σ S).bind fun ws S1 => if noOw σ own = true then (lc2L bd t it1 bd1 t1 e own1 (wwipe σ own) ws S1).bind fun vs S2 => if vs.length ≤ LIM then .ok (.lst vs) S2 else .bad else .bad
/-- a shared list is locked while e runs -/
def mLockE (i : Nat) (m : M W) : M W := fun σ S => match σ[i]? with
  | some (.fr (.loc n)) => match S[n]? with
    | some (.lst xs) => (m σ (S.set n (.frz xs))).bind fun w S3 => match S3[n]? with
      | some (.frz _) => .ok w (S3.set n (.lst xs))
      | _ => .bad
    | _ => .bad
  | _ => .bad
def mYes : M Bool := fun _ S => .ok true S
/-- what is walked -/
def mIt (a : M W) : M (List W) := fun σ S => (a σ S).bind fun x S1 => match x with
  | .lst xs => .ok xs S1
  | .tup xs => .ok xs S1
  | .scr xs => .ok xs S1
  | .str s => .ok (s.cps.toList.map fun c => .str ⟨#[c]⟩) S1
  | .loc n => match S1[n]? with
    | some (.frz xs) => .ok xs S1
    | _ => .bad
  | _ => .bad
def rngW (lo : Int) (n : Nat) : List W := (List.range n).map fun i => .int (lo + (i : Nat))
def in62 (i : Int) : Prop := -(2 ^ 62) ≤ i ∧ i < 2 ^ 62
instance (i : Int) : Decidable (in62 i) := inferInstanceAs (Decidable (_ ∧ _))
def mRng1 (a : M W) : M (List W) := fun σ S => (a σ S).bind fun x S1 => match x with
  | .int j => if in62 j then .ok (rngW 0 j.toNat) S1 else .bad
  | _ => .bad
def mRng2 (a b : M W) : M (List W) := fun σ S => (a σ S).bind fun x S1 => (b σ S1).bind fun y S2 => match x, y with
  | .int i, .int j => if in62 i ∧ in62 j then .ok (rngW i (j - i).toNat) S2 else .bad
  | _, _ => .bad
/-- range(i, j, -1) -/
def rngC (lo c : Int) (n : Nat) : List W := (List.range n).map fun i => .int (lo + (i : Nat) * c)
def mRng3 (a b c : M W) : M (List W) := fun σ S => (a σ S).bind fun x S1 => (b σ S1).bind fun y S2 => (c σ S2).bind fun z S3 => match x, y, z with
  | .int i, .int j, .int k => if in62 i ∧ in62 j ∧ k = -1 then .ok (rngC i (-1) (i - j).toNat) S3 else .bad
  | _, _, _ => .bad
def mEnum (a : M W) : M (List W) := fun σ S => (a σ S).bind fun x S1 => match x with
  | .lst xs => .ok (xs.mapIdx fun i w => .tup [.int (i : Nat), w]) S1
  | .tup xs => .ok (xs.mapIdx fun i w => .tup [.int (i : Nat), w]) S1
  | _ => .bad
def mRev (a : M W) : M (List W) := fun σ S => (a σ S).bind fun x S1 => match x with
  | .lst xs => .ok xs.reverse S1
  | .tup xs => .ok xs.reverse S1
  | _ => .bad
theorem lt_split (x : W) (p : List W → Nat) : (match x with
  | .lst ys => p ys
  | .tup ys => p ys
  | _ => 0) = 0 ∨ True := by split <;> exact .inr trivial
/-- the items of a list or tuple -/
def wseq : W → Option (Bool × List W)
  | .lst xs => some (false, xs)
  | .tup xs => some (true, xs)
  | _ => none
def mZip (a b : M W) : M (List W) := fun σ S => (a σ S).bind fun x S1 => (b σ S1).bind fun y S2 => match wseq x, wseq y with
  | some (_, xs), some (_, ys) => .ok ((xs.zip ys).map fun p => .tup [p.1, p.2]) S2
  | _, _ => .bad
/-! ### targets -/
def bName (i : Nat) : W → M Sls := fun w σ S => .ok (σ.set i (.fr w)) S
def bAll : List (W → M Sls) → List W → M Sls
  | [], [] => fun σ S => .ok σ S
  | g :: gs, w :: ws => fun σ S => (g w σ S).bind fun σ1 S1 => bAll gs ws σ1 S1
  | _, _ => mBad
def bTup (gs : List (W → M Sls)) : W → M Sls := fun w => match w with
  | .tup ws => if ws.length = gs.length then bAll gs ws else mBad
  | _ => mBad
/-! ### statements -/
def sNext : M Fl := fun σ S => .ok (.nx σ) S
def sBrk : M Fl := fun σ S => .ok (.bk σ) S
def sCnt : M Fl := fun σ S => .ok (.ct σ) S
def sSeq (a b : M Fl) : M Fl := fun σ S => (a σ S).bind fun f S1 => match f with
  | .nx σ1 => b σ1 S1
  | f => .ok f S1
def sDrop (a : M W) : M Fl := fun σ S => (a σ S).bind fun _ S1 => .ok (.nx σ) S1
def sRet (a : M W) : M Fl := fun σ S => (a σ S).bind fun w S1 => .ok (.rt w) S1
def sRetN : M Fl := fun _ S => .ok (.rt .non) S
/-- a new list or dict is the slot's own -/
def mkOwn (w : W) : Sl := match w with
  | .lst _ => .ow w
  | .dct _ => .ow w
  | w => .fr w
def sSetF (i : Nat) (a : M W) : M Fl := fun σ S => (a σ S).bind fun w S1 => .ok (.nx (σ.set i (mkOwn w))) S1
def sSet (i : Nat) (a : M W) : M Fl := fun σ S => (a σ S).bind fun w S1 => .ok (.nx (σ.set i (.fr w))) S1
def sAsg (a : M W) (g : W → M Sls) : M Fl := fun σ S => (a σ S).bind fun w S1 => (g w σ S1).bind fun σ1 S2 => .ok (.nx σ1) S2
def sPar (i j : Nat) (a b : M W) : M Fl := fun σ S => (a σ S).bind fun x S1 => (b σ S1).bind fun y S2 => .ok (.nx ((σ.set i (.fr x)).set j (.fr y))) S2
def sAug (i : Nat) (op : Operator) (a : M W) : M Fl := fun σ S => match σ[i]? with
  | some (.fr (.int x)) => (a σ S).bind fun y S1 => match op, y with
    | .Add, .int y => .ok (.nx (σ.set i (.fr (.int (x + y))))) S1
    | .Sub, .int y => .ok (.nx (σ.set i (.fr (.int (x - y))))) S1
    | _, _ => .bad
  | _ => .bad
/-- x[j] = e: a list or dict of the slot's own .. -/
def putOwn (n : Nat) (w : W) (ix e : M W) : M Fl := fun σ S => (e σ S).bind fun v S1 => (ix σ S1).bind fun i S2 => match w with
  | .lst xs => match i with
    | .int k => match ixN xs.length k with
      | some j => .ok (.nx (σ.set n (.ow (.lst (xs.set j v))))) S2
      | none => .bad
    | _ => .bad
  | .dct kvs => match wkey i with
    | some k => if kvs.length < LIM then .ok (.nx (σ.set n (.ow (.dct (dput kvs k v))))) S2 else .bad
    | none => .bad
  | _ => .bad
/-- .. or a shared one -/
def sPutS (ob ix e : M W) : M Fl := fun σ S => (e σ S).bind fun v S1 => (ob σ S1).bind fun x S2 => (ix σ S2).bind fun i S3 => match x with
  | .loc n => match S3[n]? with
    | some (.lst xs) => match i with
      | .int k => match ixN xs.length k with
        | some j => .ok (.nx σ) (S3.set n (.lst (xs.set j v)))
        | none => .bad
      | _ => .bad
    | some (.dct kvs) => match wkey i with
      | some k => if kvs.length < LIM then .ok (.nx σ) (S3.set n (.dct (dput kvs k v))) else .bad
      | none => .bad
    | _ => .bad
  | _ => .bad
def sPut (n : Nat) (ob ix e : M W) : M Fl := fun σ S => match σ[n]? with
  | some (.ow w) => putOwn n w ix e σ S
  | _ => sPutS ob ix e σ S
def fput (f : Str) (v : W) : List (Str × W) → List (Str × W)
  | [] => [(f, v)]
  | (g, x) :: r => if g = f then (g, v) :: r else (g, x) :: fput f v r
def sFldM (o e : M W) (f : Str) (ok : Str → Bool) : M Fl := fun σ S => (e σ S).bind fun v S1 => (o σ S1).bind fun x S2 => match x with
  | .loc n => match S2[n]? with
    | some (.ins c fs) => if ok c ∧ fs.length < 1000 then .ok (.nx σ) (S2.set n (.ins c (fput f v fs))) else .bad
    | _ => .bad
  | _ => .bad
/-- x.m(..), where x is a name: its answer, the slots behind it -/
def mutE (F : Fenv) (own : Str → Option Str) (m : Mt) (nm : Str) (n : Nat) (a : M (List W)) : M (W × Sls) := fun σ S => match σ[n]? with
  | some (.ow (.lst xs)) => (a σ S).bind fun ws S1 => match lstUp S1 m xs ws with
    | some (r, ys) => .ok (r, σ.set n (.ow (.lst ys))) S1
    | none => (olift (wrd m (.lst xs) ws) S1).bind fun r S2 => .ok (r, σ) S2
  | some (.ow (.dct kvs)) => (a σ S).bind fun ws S1 => (olift (wrd m (.dct kvs) ws) S1).bind fun r S2 => .ok (r, σ) S2
  | some (.fr w) => (goMeth F own m nm w (a σ) S).bind fun r S2 => .ok (r, σ) S2
  | _ => .bad
/-- .. as a statement, or y = x.m(..) -/
def sMut (e : M (W × Sls)) : M Fl := fun σ S => (e σ S).bind fun r S1 => .ok (.nx r.2) S1
def sMutY (k : Nat) (e : M (W × Sls)) : M Fl := fun σ S => (e σ S).bind fun r S1 => .ok (.nx (r.2.set k (.fr r.1))) S1
def sIf (t : M Bool) (a b : M Fl) : M Fl := fun σ S => (t σ S).bind fun x S1 => if x then a σ S1 else b σ S1
def forL (bd : W → M Sls) (body : M Fl) : List W → M Fl
  | [], σ, S => .ok (.nx σ) S
  | w :: ws, σ, S => (bd w σ S).bind fun σ1 S1 => (body σ1 S1).bind fun f S2 => match f with
    | .nx σ2 => forL bd body ws σ2 S2
    | .ct σ2 => forL bd body ws σ2 S2
    | .bk σ2 => .ok (.nx σ2) S2
    | .rt w => .ok (.rt w) S2
def sFor (it : M (List W)) (bd : W → M Sls) (body : M Fl) : M Fl := fun σ S => (it σ S).bind fun ws S1 => forL bd body ws σ S1
/-- a walk over the items of a shared dict, which is locked meanwhile -/
def mItems (o : M W) : M (List W) := fun σ S => (o σ S).bind fun x S1 => match x with
  | .loc n => match S1[n]? with
    | some (.lck kvs) => .ok (kvs.map fun kv => .tup [kW kv.1, kv.2]) S1
    | _ => .bad
  | _ => .bad
def sForI (o : M W) (bd : W → M Sls) (body : M Fl) : M Fl := fun σ S => (o σ S).bind fun x _ => match x with
  | .loc n => match S[n]? with
    | some (.dct kvs) => (sFor (mItems o) bd body σ (S.set n (.lck kvs))).bind fun f S3 => match S3[n]? with
      | some (.lck _) => .ok f (S3.set n (.dct kvs))
      | _ => .bad
    | _ => .bad
  | _ => .bad
def whL (c : M Bool) (body : M Fl) : Nat → M Fl
  | 0 => mBad
  | n + 1 => fun σ S => (c σ S).bind fun b S1 => if b then (body σ S1).bind fun f S2 => match f with
    | .nx σ2 => whL c body n σ2 S2
    | .ct σ2 => whL c body n σ2 S2
    | .bk σ2 => .ok (.nx σ2) S2
    | .rt w => .ok (.rt w) S2 else .ok (.nx σ) S1
/-- how often a while may turn -/
@[irreducible] def whMax : Nat := 100000000
theorem whMax_eq : whMax = 100000000 := by unfold whMax; rfl
def sWh (c : M Bool) (body : M Fl) : M Fl := whL c body whMax
/-- lists of their own become values that stay -/
def frz (σ : Sls) : List Nat → Sls
  | [] => σ
  | i :: is => match (frz σ is)[i]? with
    | some (.ow w) => (frz σ is).set i (.fr w)
    | _ => frz σ is
def sFrz (is : List Nat) (a : M Fl) : M Fl := fun σ S => a (frz σ is) S
/-! ### the text's walk -/
def slotOf (N : List Str) (x : Str) : Option Nat := if N.idxOf x < N.length then some (N.idxOf x) else none
def okNm (x : Str) : Bool := !(x == ("__debug__" : Str)) && !(x == ("__classdict__" : Str))
def isLoc (sc : Scope) (x : Str) : Bool := okNm x && match sc.names.lookup x with
  | some .local => true
  | some .cell => true
  | some .free => true
  | _ => false
/-- names that a value's expression may hand on -/
def kept : Nat → Bool → Expr → List Str
  | 0, _, _ => []
  | n + 1, br, e => match e with
    | .Name x _ => if br then [] else [x]
    | .BinOp a _ b _ => kept n true a ++ kept n true b
    | .UnaryOp _ a _ => kept n true a
    | .BoolOp _ es _ => es.flatMap (kept n br)
    | .Compare a _ bs _ => kept n true a ++ bs.flatMap (kept n true)
    | .IfExp t a b _ => kept n true t ++ kept n br a ++ kept n br b
    | .Tuple es _ _ => es.flatMap (kept n false)
    | .List es _ => es.flatMap (kept n false)
    | .Dict ks vs _ => ks.flatMap (fun o => match o with
      | some k => kept n true k
      | none => []) ++ vs.flatMap (kept n false)
    | .Subscript a (.Slice lo hi _ _) _ => kept n true a ++ (match lo with
      | some i => kept n true i
      | none => []) ++ match hi with
      | some i => kept n true i
      | none => []
    | .Subscript a i _ => kept n true a ++ kept n true i
    | .Attribute a _ _ => kept n true a
    | .Call (.Name f _) es _ _ => es.flatMap (kept n (match bfOf f with
      | .none => false
      | _ => true))
    | .Call (.Attribute o m _) es _ _ => kept n true o ++ es.flatMap (kept n (decide (mtOf m = .extend)))
    | .ListComp e gs _ _ => kept n false e ++ gs.flatMap (fun g => match g with
      | ⟨_, it, ifs, _⟩ => kept n false it ++ ifs.flatMap (kept n true))
    | .DictComp e f gs _ _ => kept n true e ++ kept n false f ++ gs.flatMap (fun g => match g with
      | ⟨_, it, ifs, _⟩ => kept n false it ++ ifs.flatMap (kept n true))
    | _ => []
/-- its value, if a list or dict, is new -/
def isNew : Expr → Bool
  | .List _ _ => true
  | .Dict _ _ _ => true
  | .ListComp _ _ _ _ => true
  | .DictComp _ _ _ _ _ => true
  | .BinOp _ _ _ _ => true
  | .Subscript _ (.Slice _ _ _ _) _ => true
  | .Call (.Name f _) _ _ _ => decide (f = "list" ∨ f = "sorted")
  | _ => false
def tgNames : Nat → Expr → List Str
  | 0, _ => []
  | n + 1, e => match e with
    | .Name x _ => [x]
    | .Tuple es _ _ => es.flatMap (tgNames n)
    | _ => []
/-- its receiver is read as it stands -/
def baseOk : Expr → Bool
  | .Call (.Name _ _) [] [] _ => false
  | _ => true
def isStar : Expr → Bool
  | .Starred _ _ => true
  | _ => false
def noStar (es : List Expr) : Bool := es.all fun e => !isStar e
def callOk (es : List Expr) : Bool := noStar es && decide (es.length < 28)
def methOk (o : Expr) (p q : Pos) (es : List Expr) : Bool := baseOk o && p.endLine == q.line && callOk es
/-- a, b = x, y stores without a tuple -/
def parOk (p q : Pos) (es : List Expr) : Bool := decide (q.line = p.line) && noStar es && !es.all (foldedForSure 8) && !es.all (constantsAlone 8)
def isTup : Expr → Bool
  | .Tuple _ _ _ => true
  | _ => false
def isSDC : Expr → Bool
  | .SetComp _ _ _ _ => true
  | .DictComp _ _ _ _ _ => true
  | _ => false
def isLCm : Expr → Bool
  | .ListComp _ _ _ _ => true
  | _ => false
def isSl : Expr → Bool
  | .Slice _ _ _ _ => true
  | _ => false
def isSet : Expr → Bool
  | .Set _ _ _ => true
  | _ => false
/-- enumerate wants a tuple of targets -/
def itFits (tg it : Expr) : Bool := !isSet it && match it with
  | .Call (.Name f _) _ _ _ => if f = "enumerate" ∨ f = "zip" then isTup tg else true
  | _ => true
def dictOk (ks : List (Option Expr)) (vs : List Expr) : Bool := ks.all (·.isSome) && decide (ks.length = vs.length) && !ks.isEmpty && decide (ks.length ≤ 15)
section
variable (G : Glob) (F : Fenv) (D : Dx)
def cName (sc : Scope) (br : Bool) (x : Str) : M W := match sc.names.lookup x with
  | some .globalImplicit => match G.cst.lookup x with
    | some w => mC w
    | none => mBad
  | _ => if isLoc sc x then match slotOf D.N x with
    | some i => if br then mVarB i else mVar i
    | none => mBad else mBad
def cTg (sc : Scope) : Nat → Expr → W → M Sls
  | 0, _ => fun _ => mBad
  | n + 1, e => match e with
    | .Name x _ => match sc.names.lookup x, slotOf D.N x with
      | some .local, some i => bName i
      | some .cell, some i => bName i
      | _, _ => fun _ => mBad
    | .Tuple es _ _ => if noStar es then bTup (es.map (cTg sc n)) else fun _ => mBad
    | _ => fun _ => mBad
def isG (sc : Scope) (x : Str) : Bool := match sc.names.lookup x with
  | some .globalImplicit => true
  | _ => false
/-- a tuple of the top whose index is asked -/
def gtup (sc : Scope) (x m : Str) : Option (List W) := if isG sc x = true ∧ m = ("index" : Str) then match G.cst.lookup x with
  | some (.tup ws) => some ws
  | _ => none else none
/-- a dict of the top that is asked -/
def gtbl (sc : Scope) (x m : Str) : Option (List (Str × W) × List Str) := if isG sc x = true ∧ m = ("get" : Str) then G.tbl.lookup x else none
/-- a dict of the top whose keys are all known -/
def gdts (sc : Scope) (b : Expr) : Option (List (Str × W)) := match b with
  | .Name x _ => if isG sc x = true then G.dts.lookup x else none
  | _ => none
def inOp : CmpOp → Option Bool
  | .In => some false
  | .NotIn => some true
  | _ => none
def isShr (e : Expr) : Bool := isNew e && D.locs.contains (e.pos.line, e.pos.col, e.pos.endCol)
def shr (e : Expr) (m : M W) : M W := if isShr D e then mToLoc m else m
def lkOf (e : Expr) : Option Nat := if isLCm e then D.lck.lookup (e.pos.line, e.pos.col, e.pos.endCol) else none
def lkE (e : Expr) (m : M W) : M W := match lkOf D e with
  | some i => mLockE i m
  | none => m
mutual
def cE : Nat → Bool → Scope → Expr → M W
  | 0, _, _, _ => mBad
  | n + 1, br, sc, e => shr D e (lkE D e (cE1 n br sc e))
def cE1 : Nat → Bool → Scope → Expr → M W
  | 0, _, _, _ => mBad
  | n + 1, br, sc, e => match e with
    | .Name x _ => cName G D sc br x
    | .Constant c _ _ => match c with
      | .none => mC .non
      | .bool b => mC (.bl b)
      | .int i => mC (.int i)
      | .str s => mC (.str s)
      | _ => mBad
    | .BinOp a op b _ => mBin op (cE n true sc a) (cE n true sc b)
    | .UnaryOp .Not a _ => mVal (mNotT (mTru (cE n true sc a)))
    | .UnaryOp op a _ => mUn op (cE n true sc a)
    | .BoolOp .And es _ => cAnd n br sc es
    | .BoolOp .Or es _ => cOr n br sc es
    | .Compare a [op] [b] _ => match gdts G sc b, inOp op with
      | some t, some ng => mVal (mTIn t ng (cE n true sc a))
      | _, _ => if behindInMarks op b then mBad else mCmp op (cE n true sc a) (cE n true sc b)
    | .Compare a [o, p] [b, c] _ => if behindInMarks p c then mBad else mVal (mChain o p (cE n true sc a) (cE n true sc b) (cE n true sc c))
    | .IfExp t a b _ => mIfE (cT n sc t) (cE n br sc a) (cE n br sc b)
    | .Tuple es _ _ => mTup (cA n false sc es)
    | .List es _ => mLst (cA n false sc es)
    | .Dict [] [] _ => mNewD
    | .Dict ks vs _ => if dictOk ks vs then mDict (cPs n sc ks vs) else mBad
    | .Subscript a (.Slice lo hi none _) _ => mSl (cE n true sc a) (lo.map (cE n true sc)) (hi.map (cE n true sc))
    | .Subscript a i _ => if isSl i then mBad else match gdts G sc a with
      | some t => mTSub t (cE n true sc i)
      | none => mIx (cE n true sc a) (cE n true sc i)
    | .Attribute a f _ => if baseOk a = false then mBad else mFld (cE n true sc a) f fun c => G.fld.contains (c, f)
    | .Call (.Name f _) es [] _ => if isG sc f = true ∧ callOk es = true then match bfOf f with
      | .none => match G.fns.lookup f, G.cls.lookup f with
        | some i, _ => if es.length = i.np then mCall F f (cA n false sc es) (i.kw.map (·.2)) else mBad
        | none, some k => if es.length = k then mMake F f (f ++ ".__init__") (cA n false sc es) else mBad
        | none, none => mBad
      | b => if G.fre.contains f = true ∧ es ≠ [] then mBlt b (cA n true sc es) else mBad else mBad
    | .Call (.Name f _) es (kw :: kws) _ => match bfOf f, G.kwc.lookup (f, (kw :: kws).map (·.arg)) with
      | .none, some (np, ord) => if isG sc f = true ∧ callOk es = true ∧ es.length = np ∧ es ≠ [] then mCallK F f (cA n false sc es) (cA n false sc ((kw :: kws).map (·.value))) ord else mBad
      | _, _ => mBad
    | .Call (.Attribute (.Name x p0) m p) [a] [] q => match smOf m with
      | some k => if methOk (.Name x p0) p q [a] = false then mBad else mSm k (cE n true sc (.Name x p0)) (cE n false sc a)
      | none => match gtup G sc x m with
        | some ws => if methOk (.Name x p0) p q [a] = false then mBad else mTIx ws (cE n false sc a)
        | none => if methOk (.Name x p0) p q [a] = false then mBad else mMeth F (fun c => G.mts.lookup (c, m)) (mtOf m) m (cE n true sc (.Name x p0)) (cA n (decide (mtOf m = .extend)) sc [a])
    | .Call (.Attribute (.Name x p0) m p) [a, b] [] q => match gtbl G sc x m with
      | some t => if methOk (.Name x p0) p q [a, b] = false then mBad else mTGet t (cE n false sc a) (cE n false sc b)
      | none => if methOk (.Name x p0) p q [a, b] = false then mBad else mMeth F (fun c => G.mts.lookup (c, m)) (mtOf m) m (cE n true sc (.Name x p0)) (cA n (decide (mtOf m = .extend)) sc [a, b])
    | .Call (.Attribute o m p) es [] q => match smOf m, es with
      | some k, [a] => if methOk o p q [a] = false then mBad else mSm k (cE n true sc o) (cE n false sc a)
      | _, es => if methOk o p q es = false then mBad else mMeth F (fun c => G.mts.lookup (c, m)) (mtOf m) m (cE n true sc o) (cA n (decide (mtOf m = .extend)) sc es)
    | .ListComp e [⟨tg, it, ifs, 0⟩, ⟨tg1, it1, ifs1, 0⟩] cs _ => if itFits tg it = true ∧ itFits tg1 it1 = true ∧ blkC D.N sc cs ((tgNames 9 tg ++ tgNames 9 tg1).map fun x => (x, D.N.idxOf x)) = true then mLc2 (cIt n sc it) (cTg D cs 9 tg) (cIfs n cs ifs) (cIt n cs it1) (cTg D cs 9 tg1) (cIfs n cs ifs1) (cE n false cs e) ((tgNames 9 tg ++ tgNames 9 tg1).map fun x => D.N.idxOf x) ((tgNames 9 tg1).map fun x => D.N.idxOf x) else mBad
    | .ListComp e [⟨tg, it, ifs, 0⟩] cs _ => if itFits tg it = true ∧ blkC D.N sc cs ((tgNames 9 tg).map fun x => (x, D.N.idxOf x)) = true then mLc (cIt n sc it) (cTg D cs 9 tg) (cIfs n cs ifs) (cE n false cs e) ((tgNames 9 tg).map fun x => D.N.idxOf x) else mBad
    | .DictComp kx e [⟨tg, it, ifs, 0⟩] cs _ => if itFits tg it = true ∧ blkC D.N sc cs ((tgNames 9 tg).map fun x => (x, D.N.idxOf x)) = true then mDc (cIt n sc it) (cTg D cs 9 tg) (cIfs n cs ifs) (cE n true cs kx) (cE n false cs e) ((tgNames 9 tg).map fun x => D.N.idxOf x) else mBad
    | _ => mBad
def cAnd : Nat → Bool → Scope → List Expr → M W
  | 0, _, _, _ => mBad
  | n + 1, br, sc, es => match es with
    | [] => mBad
    | [a] => cE n br sc a
    | a :: b :: r => mAndV (cE n br sc a) (cAnd n br sc (b :: r))
def cOr : Nat → Bool → Scope → List Expr → M W
  | 0, _, _, _ => mBad
  | n + 1, br, sc, es => match es with
    | [] => mBad
    | [a] => cE n br sc a
    | a :: b :: r => mOrV (cE n br sc a) (cOr n br sc (b :: r))
def cPs : Nat → Scope → List (Option Expr) → List Expr → List (M W × M W)
  | 0, _, _, _ => [(mBad, mBad)]
  | n + 1, sc, ks, vs => match ks, vs with
    | [], [] => []
    | some k :: ks, v :: vs => (cE n true sc k, cE n false sc v) :: cPs n sc ks vs
    | _, _ => [(mBad, mBad)]
def cA : Nat → Bool → Scope → List Expr → M (List W)
  | 0, _, _, es => match es with
    | [] => mNil
    | _ => mBad
  | n + 1, br, sc, es => match es with
    | [] => mNil
    | e :: r => if isStar e then mBad else mCons (cE n br sc e) (cA n br sc r)
def cIfs : Nat → Scope → List Expr → M Bool
  | 0, _, _ => mBad
  | n + 1, sc, es => match es with
    | [] => mYes
    | [t] => cT n sc t
    | _ => mBad
def cT : Nat → Scope → Expr → M Bool
  | 0, _, _ => mBad
  | n + 1, sc, e => match e with
    | .BoolOp .And es _ => cAndT n sc es
    | .BoolOp .Or es _ => cOrT n sc es
    | .UnaryOp .Not a _ => mNotT (cT n sc a)
    | .Compare a [op] [b] _ => match gdts G sc b, inOp op with
      | some t, some ng => mTIn t ng (cE n true sc a)
      | _, _ => if behindInMarks op b then mBad else mCmpT op (cE n true sc a) (cE n true sc b)
    | .Compare a [o, p] [b, c] _ => if behindInMarks p c then mBad else mChain o p (cE n true sc a) (cE n true sc b) (cE n true sc c)
    | .Compare _ _ _ _ => mBad
    | .IfExp _ _ _ _ => mBad
    | e => mTru (cE n true sc e)
def cAndT : Nat → Scope → List Expr → M Bool
  | 0, _, _ => mBad
  | n + 1, sc, es => match es with
    | [] => mBad
    | [a] => cT n sc a
    | a :: b :: r => mAnd (cT n sc a) (cAndT n sc (b :: r))
def cOrT : Nat → Scope → List Expr → M Bool
  | 0, _, _ => mBad
  | n + 1, sc, es => match es with
    | [] => mBad
    | [a] => cT n sc a
    | a :: b :: r => mOr (cT n sc a) (cOrT n sc (b :: r))
def cIt : Nat → Scope → Expr → M (List W)
  | 0, _, _ => mBad
  | n + 1, sc, e => match e with
    | .Call (.Name f p) [a] [] q => if isG sc f ∧ G.fre.contains f then if f = "range" then mRng1 (cE n true sc a) else if f = "enumerate" then mEnum (cE n false sc a) else if f = "reversed" then (if isStar a then mBad else mRev (cE n false sc a)) else mIt (cE n false sc (.Call (.Name f p) [a] [] q)) else mIt (cE n false sc (.Call (.Name f p) [a] [] q))
    | .Call (.Name f p) [a, b] [] q => if isG sc f ∧ G.fre.contains f ∧ f = "range" then mRng2 (cE n true sc a) (cE n true sc b) else if isG sc f ∧ G.fre.contains f ∧ f = "zip" ∧ noStar [a, b] = true then mZip (cE n false sc a) (cE n false sc b) else mIt (cE n false sc (.Call (.Name f p) [a, b] [] q))
    | .Call (.Name f p) [a, b, c] [] q => if isG sc f ∧ G.fre.contains f ∧ f = "range" ∧ noStar [a, b, c] = true then mRng3 (cE n true sc a) (cE n true sc b) (cE n true sc c) else mIt (cE n false sc (.Call (.Name f p) [a, b, c] [] q))
    | e => mIt (cE n false sc e)
end
def slots (xs : List Str) : List Nat := xs.filterMap (slotOf D.N)
def cKeep (e : Expr) (a : M Fl) : M Fl := match slots D (kept 9 false e) with
  | [] => a
  | l => sFrz l a
def cKeeps (es : List Expr) (a : M Fl) : M Fl := match slots D (es.flatMap (kept 9 false)) with
  | [] => a
  | l => sFrz l a
/-- a comprehension stored by its own words -/
def lcSw (sc : Scope) (y : Str) (p : Pos) (cs : Scope) (q : Pos) : Bool := (sc.names.lookup y == some .local) && p.line == q.line && !(cs.names.any fun (n, k) => n == y && (k == .local || k == .cell))
/-- a method that gives an answer and changes its list -/
def popsB (m : Mt) : Bool := decide (m = .pop)
mutual
def cS (sc : Scope) : Nat → Stmt → M Fl
  | 0, _ => mBad
  | n + 1, s => match s with
    | .Pass _ => sNext
    | .Break _ => sBrk
    | .Continue _ => sCnt
    | .Expr (.Constant (.str _) _ _) _ => sNext
    | .Expr (.Call (.Attribute (.Name x p) m q) es [] r) _ => match isLoc sc x, slotOf D.N x with
      | true, some i => if methOk (.Name x p) q r es = false then mBad else cKeeps D es (sMut (mutE F (fun c => G.mts.lookup (c, m)) (mtOf m) m i (cA G F D n (decide (mtOf m = .extend)) sc es)))
      | _, _ => cKeep D (.Call (.Attribute (.Name x p) m q) es [] r) (sDrop (cE G F D n false sc (.Call (.Attribute (.Name x p) m q) es [] r)))
    | .Expr e _ => if isLCm e || isSDC e then mBad else cKeep D e (sDrop (cE G F D n false sc e))
    | .Return none _ => sRetN
    | .Return (some e) _ => cKeep D e (sRet (cE G F D n false sc e))
    | .Assign [.Name y p] e q => match sc.names.lookup y, slotOf D.N y with
      | some k, some j => if k = .local ∨ k = .cell then match e with
        | .Call (.Attribute (.Name x p') m q') es [] r => match isLoc sc x, slotOf D.N x, popsB (mtOf m) with
          | true, some i, true => if methOk (.Name x p') q' r es = false then mBad else cKeeps D es (sMutY j (mutE F (fun c => G.mts.lookup (c, m)) (mtOf m) m i (cA G F D n (decide (mtOf m = .extend)) sc es)))
          | _, _, _ => cKeep D (.Call (.Attribute (.Name x p') m q') es [] r) (sSet j (cE G F D n false sc (.Call (.Attribute (.Name x p') m q') es [] r)))
        | .ListComp e gs cs q' => cKeep D (.ListComp e gs cs q') (if isShr D (.ListComp e gs cs q') then (if lcSw sc y p cs q' then mBad else sSet j (cE G F D n false sc (.ListComp e gs cs q'))) else if lcSw sc y p cs q' && ((lkOf D (.ListComp e gs cs q')).isSome || gs.length != 1) then mBad else sSetF j (cE G F D n false sc (.ListComp e gs cs q')))
        | .DictComp e f gs cs q' => if isShr D (.DictComp e f gs cs q') || gs.length != 1 then mBad else cKeep D (.DictComp e f gs cs q') (sSetF j (cE G F D n false sc (.DictComp e f gs cs q')))
        | e => if isSDC e then mBad else cKeep D e (if isNew e && !isShr D e then sSetF j (cE G F D n false sc e) else sSet j (cE G F D n false sc e)) else mBad
      | _, _ => mBad
    | .Assign [.Tuple [.Name x p, .Name y p'] k q] (.Tuple [a, b] k' q') r => match sc.names.lookup x, slotOf D.N x, sc.names.lookup y, slotOf D.N y with
      | some .local, some i, some .local, some j => if i = j ∨ parOk p p' [a, b] = false then mBad else cKeeps D [a, b] (sPar i j (cE G F D n false sc a) (cE G F D n false sc b))
      | _, _, _, _ => mBad
    | .Assign [.Tuple es k p] e _ => if isTup e || isLCm e || isSDC e then mBad else cKeep D e (sAsg (cE G F D n false sc e) (cTg D sc 9 (.Tuple es k p)))
    | .Assign [.Subscript (.Name x p) i q] e _ => if isLCm e || isSDC e || isSl i then mBad else match isLoc sc x, slotOf D.N x with
      | true, some j => cKeep D e (sPut j (cE G F D n true sc (.Name x p)) (cE G F D n true sc i) (cE G F D n false sc e))
      | _, _ => mBad
    | .Assign [.Subscript o i _] e _ => if isLCm e || isSDC e || isSl i then mBad else cKeeps D [e] (sPutS (cE G F D n true sc o) (cE G F D n true sc i) (cE G F D n false sc e))
    | .Assign [.Attribute o f _] e _ => if isLCm e || isSDC e then mBad else cKeep D e (sFldM (cE G F D n true sc o) (cE G F D n false sc e) f fun c => G.fld.contains (c, f))
    | .AugAssign (.Name x _) op e _ => match sc.names.lookup x, slotOf D.N x with
      | some .local, some i => cKeep D e (sAug i op (cE G F D n false sc e))
      | some .cell, some i => cKeep D e (sAug i op (cE G F D n false sc e))
      | _, _ => mBad
    | .If t a b _ => cKeep D t (sIf (cT G F D n sc t) (cSs sc n a) (cSs sc n b))
    | .For tg (.Call (.Attribute o m p) [] [] q) body [] _ => if mtOf m = .items then if (isTup tg && methOk o p q []) = false then mBad else sForI (cE G F D n false sc o) (cTg D sc 9 tg) (cSs sc n body) else cKeep D (.Call (.Attribute o m p) [] [] q) (sFor (cIt G F D n sc (.Call (.Attribute o m p) [] [] q)) (cTg D sc 9 tg) (cSs sc n body))
    | .For tg it body [] _ => if itFits tg it = false then mBad else cKeep D it (sFor (cIt G F D n sc it) (cTg D sc 9 tg) (cSs sc n body))
    | .While t body [] _ => cKeep D t (sWh (cT G F D n sc t) (cSs sc n body))
    | _ => mBad
def cSs (sc : Scope) : Nat → List Stmt → M Fl
  | 0, _ => mBad
  | n + 1, ss => match ss with
    | [] => sNext
    | [s] => cS sc n s
    | s :: t :: r => sSeq (cS sc n s) (cSs sc n (t :: r))
end
end
/-- a def of the text: names, scope, body -/
structure DefI where
  dx : Dx
  sc : Scope
  body : List Stmt
  /-- how many parameters -/
  np : Nat

def runB (b : M Fl) (N : List Str) (ws : List W) (S : Sto) : Res W := (b (ws.map Sl.fr ++ List.replicate (N.length - ws.length) .emp) S).bind fun f S1 => match f with
  | .nx _ => .ok .non S1
  | .rt w => .ok w S1
  | _ => .bad
def Fn (G : Glob) (P : List (Str × DefI)) : Nat → Fenv
  | 0 => fun _ _ _ => .bad
  | d + 1 => fun f ws S => match P.lookup f with
    | some i => if ws.length = i.np then runB (cSs G (Fn G P d) i.dx i.sc 300 i.body) i.dx.N ws S else .bad
    | none => .bad
end EV

namespace EV
open PySem PySem.Spec PyProof.Rows L2
/-! ### values with addresses -/
/-- a tuple that stands: tracked, or of the written part -/
def TupAt (K : PySem.W.Frag) (Z : Addr → Prop) (H : Hp) (a : Addr) (vs : List V) : Prop := (H a = some (.tup vs) ∧ ¬ Z a) ∨
  ∃ (o : Obj) (its : Array Value) (n : Nat), K.lookup a = some o ∧ o.cls = .type "tuple" ∧ o.dict = none ∧ o.data = .seq its n ∧ its.size ≤ sizeLine ∧ Vals vs its.toList
/-- a list that never changes: the script -/
def SqZ (K : PySem.W.Frag) (Z : Addr → Prop) (H : Hp) (a : Addr) (xs : List V) : Prop := (∃ o, H a = some (.frz o (.lst xs)) ∧ ¬ Z a) ∨
  ∃ (o : Obj) (its : Array Value) (n : Nat), K.lookup a = some o ∧ o.cls = .type "list" ∧ o.dict = none ∧ o.data = .seq its n ∧ its.size ≤ sizeLine ∧ Vals xs its.toList
theorem SqZ.sql {K : PySem.W.Frag} {Z : Addr → Prop} {H : Hp} {a : Addr} {xs : List V} (h : SqZ K Z H a xs) : SqL K H a xs := h.elim (fun ⟨o, h, _⟩ => .inl (.inr ⟨o, h⟩)) .inr
theorem sqz_of {K : PySem.W.Frag} {H : Hp} {a : Addr} {xs : List V} {Z : Addr → Prop} (hO : Only H) (h : SqL K H a xs) (hz : ¬ Z a) : SqZ K Z H a xs := by
  rcases h with (h | h) | h
  · rcases hO a with e | ⟨o, ys, e⟩ <;> rw [e] at h <;> cases h
  · obtain ⟨o, h⟩ := h; exact .inl ⟨o, h, hz⟩
  · exact .inr h
mutual
/-- v is w, where what stands at addresses of Z may change -/
inductive RF (K : PySem.W.Frag) (φ : List Addr) (Z : Addr → Prop) (H : Hp) : W → V → Prop
  | non : RF K φ Z H .non .non
  | bl (b : Bool) : RF K φ Z H (.bl b) (.bl b)
  | int (i : Int) : RF K φ Z H (.int i) (.int i)
  | str (s : Str) : RF K φ Z H (.str s) (.str s)
  | ty (n : String) : RF K φ Z H (.ty n) (.ty n)
  | gl (x : Str) : RF K φ Z H (.gl x) (.ref (He.ga K x))
  | loc {n : Nat} {a : Addr} : φ[n]? = some a → RF K φ Z H (.loc n) (.ref a)
  | scr {a : Addr} {vs : List V} {ws : List W} : SqZ K Z H a vs → RFs K φ Z H ws vs → RF K φ Z H (.scr ws) (.ref a)
  | tup {a : Addr} {vs : List V} {ws : List W} : TupAt K Z H a vs → RFs K φ Z H ws vs → RF K φ Z H (.tup ws) (.ref a)
  | lst {a : Addr} {vs : List V} {ws : List W} : H a = some (.lst vs) → ¬ Z a → RFs K φ Z H ws vs → RF K φ Z H (.lst ws) (.ref a)
  | dct {a : Addr} {kvs : List (Key × V)} {kws : List (Key × W)} : H a = some (.dK kvs) → ¬ Z a → RKs K φ Z H kws kvs → RF K φ Z H (.dct kws) (.ref a)
inductive RFs (K : PySem.W.Frag) (φ : List Addr) (Z : Addr → Prop) (H : Hp) : List W → List V → Prop
  | nil : RFs K φ Z H [] []
  | cons {w : W} {v : V} {ws : List W} {vs : List V} : RF K φ Z H w v → RFs K φ Z H ws vs → RFs K φ Z H (w :: ws) (v :: vs)
inductive RKs (K : PySem.W.Frag) (φ : List Addr) (Z : Addr → Prop) (H : Hp) : List (Key × W) → List (Key × V) → Prop
  | nil : RKs K φ Z H [] []
  | cons {k : Key} {w : W} {v : V} {ws : List (Key × W)} {vs : List (Key × V)} : RF K φ Z H w v → RKs K φ Z H ws vs → RKs K φ Z H ((k, w) :: ws) ((k, v) :: vs)
end
/-- a later heap, of which less may change -/
structure Later (φ : List Addr) (Z : Addr → Prop) (H : Hp) (φ' : List Addr) (Z' : Addr → Prop) (H' : Hp) : Prop where
  ix : ∀ (n : Nat) (a : Addr), φ[n]? = some a → φ'[n]? = some a
  keep : ∀ a o, ¬ Z a → H a = some o → H' a = some o
  new : ∀ a, Z' a → Z a ∨ H a = none
  fz : ∀ a o u, H a = some (.frz o u) → H' a = some (.frz o u)
theorem fz_upd {H : Hp} {p : Addr} {ho : HO} (h : ∀ o u, H p ≠ some (.frz o u)) : ∀ a o u, H a = some (.frz o u) → upd H p ho a = some (.frz o u) := fun a o u e => by
  rw [upd_ne (fun z => h o u (by rw [← z]; exact e))]; exact e
theorem nfz {H : Hp} {p : Addr} {ho : HO} (e : H p = some ho) (h : ∀ o u, ho ≠ .frz o u) : ∀ o u, H p ≠ some (.frz o u) := fun o u z => by
  rw [e] at z; cases z; exact h _ _ rfl
section
variable {K : PySem.W.Frag} {φ φ' φ'' : List Addr} {Z Z' Z'' : Addr → Prop} {H H' H'' : Hp} {a : Addr} {o : HO} {w : W} {v : V} {ws us : List W} {vs xs : List V} {kws : List (Key × W)} {kvs : List (Key × V)}
theorem Later.refl : Later φ Z H φ Z H := ⟨fun _ _ h => h, fun _ _ _ h => h, fun _ h => .inl h, fun _ _ _ h => h⟩
theorem Later.at (L : Later φ Z H φ' Z' H') (h : H a = some o) (n : ¬ Z a) : H' a = some o ∧ ¬ Z' a := ⟨L.keep _ _ n h, fun z => (L.new _ z).elim n fun e => by rw [h] at e; cases e⟩
theorem Later.trans (L : Later φ Z H φ' Z' H') (M : Later φ' Z' H' φ'' Z'' H'') : Later φ Z H φ'' Z'' H'' where
  ix := fun n a h => M.ix n a (L.ix n a h)
  fz := fun a o u h => M.fz a o u (L.fz a o u h)
  keep := fun a o n h => M.keep a o (L.at h n).2 (L.at h n).1
  new := fun a z => by
    by_cases hz : Z a
    · exact .inl hz
    · right
      cases e : H a with
      | none => rfl
      | some o =>
        obtain ⟨e1, n1⟩ := L.at e hz
        rcases M.new a z with z | z
        · exact absurd z n1
        · rw [e1] at z; cases z
theorem Later.same (e : Same H H') (z : ∀ a, Z' a → Z a) : Later φ Z H φ Z' H' := ⟨fun _ _ h => h, fun a o _ h => e a o h, fun a h => .inl (z a h), fun a o u h => e a _ h⟩
theorem Later.less (z : ∀ a, Z' a → Z a) : Later φ Z H φ Z' H := .same (Same.refl H) z
theorem TupAt.mono (L : Later φ Z H φ' Z' H') (h : TupAt K Z H a vs) : TupAt K Z' H' a vs := h.elim (fun ⟨e, n⟩ => .inl (L.at e n)) .inr
mutual
theorem RF.mono (L : Later φ Z H φ' Z' H') : ∀ {w : W} {v : V}, RF K φ Z H w v → RF K φ' Z' H' w v
  | _, _, .non => .non
  | _, _, .bl b => .bl b
  | _, _, .int i => .int i
  | _, _, .str s => .str s
  | _, _, .ty n => .ty n
  | _, _, .gl x => .gl x
  | _, _, .loc h => .loc (L.ix _ _ h)
  | _, _, .scr h r => .scr (h.elim (fun ⟨o, h, n⟩ => .inl ⟨o, L.at h n⟩) .inr) (RFs.mono L r)
  | _, _, .tup h r => .tup (TupAt.mono L h) (RFs.mono L r)
  | _, _, .lst h n r => .lst (L.at h n).1 (L.at h n).2 (RFs.mono L r)
  | _, _, .dct h n r => .dct (L.at h n).1 (L.at h n).2 (RKs.mono L r)
theorem RFs.mono (L : Later φ Z H φ' Z' H') : ∀ {ws : List W} {vs : List V}, RFs K φ Z H ws vs → RFs K φ' Z' H' ws vs
  | _, _, .nil => .nil
  | _, _, .cons a b => .cons (RF.mono L a) (RFs.mono L b)
theorem RKs.mono (L : Later φ Z H φ' Z' H') : ∀ {ws : List (Key × W)} {vs : List (Key × V)}, RKs K φ Z H ws vs → RKs K φ' Z' H' ws vs
  | _, _, .nil => .nil
  | _, _, .cons a b => .cons (RF.mono L a) (RKs.mono L b)
end
/-- the same, where frozen things may thaw -/
structure Later0 (φ : List Addr) (Z : Addr → Prop) (H : Hp) (φ' : List Addr) (Z' : Addr → Prop) (H' : Hp) : Prop where
  ix : ∀ (n : Nat) (a : Addr), φ[n]? = some a → φ'[n]? = some a
  keep : ∀ a o, ¬ Z a → H a = some o → H' a = some o
  new : ∀ a, Z' a → Z a ∨ H a = none
theorem Later0.at (L : Later0 φ Z H φ' Z' H') (h : H a = some o) (n : ¬ Z a) : H' a = some o ∧ ¬ Z' a := ⟨L.keep _ _ n h, fun z => (L.new _ z).elim n fun e => by rw [h] at e; cases e⟩
theorem TupAt.mono0 (L : Later0 φ Z H φ' Z' H') (h : TupAt K Z H a vs) : TupAt K Z' H' a vs := h.elim (fun ⟨e, n⟩ => .inl (L.at e n)) .inr
mutual
theorem RF.mono0 (L : Later0 φ Z H φ' Z' H') : ∀ {w : W} {v : V}, RF K φ Z H w v → RF K φ' Z' H' w v
  | _, _, .non => .non
  | _, _, .bl b => .bl b
  | _, _, .int i => .int i
  | _, _, .str s => .str s
  | _, _, .ty n => .ty n
  | _, _, .gl x => .gl x
  | _, _, .loc h => .loc (L.ix _ _ h)
  | _, _, .scr h r => .scr (h.elim (fun ⟨o, h, n⟩ => .inl ⟨o, L.at h n⟩) .inr) (RFs.mono0 L r)
  | _, _, .tup h r => .tup (TupAt.mono0 L h) (RFs.mono0 L r)
  | _, _, .lst h n r => .lst (L.at h n).1 (L.at h n).2 (RFs.mono0 L r)
  | _, _, .dct h n r => .dct (L.at h n).1 (L.at h n).2 (RKs.mono0 L r)
theorem RFs.mono0 (L : Later0 φ Z H φ' Z' H') : ∀ {ws : List W} {vs : List V}, RFs K φ Z H ws vs → RFs K φ' Z' H' ws vs
  | _, _, .nil => .nil
  | _, _, .cons a b => .cons (RF.mono0 L a) (RFs.mono0 L b)
theorem RKs.mono0 (L : Later0 φ Z H φ' Z' H') : ∀ {ws : List (Key × W)} {vs : List (Key × V)}, RKs K φ Z H ws vs → RKs K φ' Z' H' ws vs
  | _, _, .nil => .nil
  | _, _, .cons a b => .cons (RF.mono0 L a) (RKs.mono0 L b)
end
theorem rf_kW (k : Key) : RF K φ Z H (kW k) (kV k) := by cases k <;> first | exact .int _ | exact .str _
theorem RKs.keysF : ∀ {kws : List (Key × W)} {kvs : List (Key × V)}, RKs K φ Z H kws kvs → RFs K φ Z H (kws.map fun kv => kW kv.1) (kvs.map fun kv => kV kv.1)
  | _, _, .nil => .nil
  | _, _, .cons _ b => .cons (rf_kW _) b.keysF
theorem RFs.len : ∀ {ws : List W} {vs : List V}, RFs K φ Z H ws vs → ws.length = vs.length
  | _, _, .nil => rfl
  | _, _, .cons _ b => congrArg Nat.succ b.len
theorem RFs.append : ∀ {ws us : List W} {vs xs : List V}, RFs K φ Z H ws vs → RFs K φ Z H us xs → RFs K φ Z H (ws ++ us) (vs ++ xs)
  | _, _, _, _, .nil, s => s
  | _, _, _, _, .cons a b, s => .cons a (b.append s)
theorem RFs.get : ∀ {ws : List W} {vs : List V} {i : Nat} {w : W}, RFs K φ Z H ws vs → ws[i]? = some w → ∃ v, vs[i]? = some v ∧ RF K φ Z H w v
  | _, _, _, _, .nil, e => by simp at e
  | _, _, 0, _, .cons a _, e => by simp at e; subst e; exact ⟨_, rfl, a⟩
  | _, _, i + 1, _, .cons _ b, e => by simpa using b.get (i := i) (by simpa using e)
theorem RFs.set : ∀ {ws : List W} {vs : List V} {w : W} {v : V} (i : Nat), RFs K φ Z H ws vs → RF K φ Z H w v → RFs K φ Z H (ws.set i w) (vs.set i v)
  | _, _, _, _, _, .nil, _ => .nil
  | _, _, _, _, 0, .cons _ b, r => .cons r b
  | _, _, _, _, i + 1, .cons a b, r => .cons a (b.set i r)
theorem RFs.take : ∀ {ws : List W} {vs : List V} (n : Nat), RFs K φ Z H ws vs → RFs K φ Z H (ws.take n) (vs.take n)
  | _, _, 0, _ => .nil
  | _, _, _ + 1, .nil => .nil
  | _, _, n + 1, .cons a b => .cons a (b.take n)
theorem RFs.drop : ∀ {ws : List W} {vs : List V} (n : Nat), RFs K φ Z H ws vs → RFs K φ Z H (ws.drop n) (vs.drop n)
  | _, _, 0, r => r
  | _, _, _ + 1, .nil => .nil
  | _, _, n + 1, .cons _ b => b.drop n
theorem RFs.eraseIdx : ∀ {ws : List W} {vs : List V} (i : Nat), RFs K φ Z H ws vs → RFs K φ Z H (ws.eraseIdx i) (vs.eraseIdx i)
  | _, _, _, .nil => .nil
  | _, _, 0, .cons _ b => b
  | _, _, i + 1, .cons a b => .cons a (b.eraseIdx i)
theorem RFs.dropLast (r : RFs K φ Z H ws vs) : RFs K φ Z H ws.dropLast vs.dropLast := by
  rw [List.dropLast_eq_take, List.dropLast_eq_take, ← r.len]
  exact r.take _
theorem RFs.reverse : ∀ {ws : List W} {vs : List V}, RFs K φ Z H ws vs → RFs K φ Z H ws.reverse vs.reverse
  | _, _, .nil => .nil
  | _, _, .cons a b => by rw [List.reverse_cons, List.reverse_cons]; exact b.reverse.append (.cons a .nil)
theorem RFs.rep (r : RFs K φ Z H ws vs) : ∀ k : Nat, RFs K φ Z H (List.replicate k ws).flatten (List.replicate k vs).flatten
  | 0 => .nil
  | k + 1 => by simp only [List.replicate_succ, List.flatten_cons]; exact r.append (r.rep k)
theorem RFs.cut (r : RFs K φ Z H ws vs) (lo hi : Option Int) : RFs K φ Z H (wcut ws lo hi) (cutV vs lo hi) := by
  unfold wcut cutV
  rw [r.len]
  exact (r.drop _).take _
theorem RFs.atI (r : RFs K φ Z H ws vs) {i : Int} (e : L2.atI ws i = some w) : ∃ v, L2.atI vs i = some v ∧ RF K φ Z H w v := by
  unfold L2.atI at e ⊢
  rw [← r.len]
  cases h : ixN ws.length i with
  | none => rw [h] at e; cases e
  | some j =>
    rw [h] at e
    exact r.get e
theorem RFs.one (r : RFs K φ Z H [w] vs) : ∃ v, vs = [v] ∧ RF K φ Z H w v := by
  cases r with
  | cons a b => cases b; exact ⟨_, rfl, a⟩
theorem RFs.cons_inv (r : RFs K φ Z H (w :: ws) vs) : ∃ v us, vs = v :: us ∧ RF K φ Z H w v ∧ RFs K φ Z H ws us := by
  cases r with
  | cons a b => exact ⟨_, _, rfl, a, b⟩
theorem RFs.nil_inv (r : RFs K φ Z H [] vs) : vs = [] := by cases r; rfl
/-! ### dicts -/
theorem RKs.val (k : Key) : ∀ {kws : List (Key × W)} {kvs : List (Key × V)}, RKs K φ Z H kws kvs → (dval kws k = none ∧ valV kvs k = none) ∨ ∃ w v, dval kws k = some w ∧ valV kvs k = some v ∧ RF K φ Z H w v
  | _, _, .nil => .inl ⟨rfl, rfl⟩
  | _, _, @RKs.cons _ _ _ _ j w v _ _ a b => by
    by_cases e : j = k
    · refine .inr ⟨w, v, ?_, ?_, a⟩ <;> simp [dval, valV, List.find?_cons, e]
    · have := b.val k
      simpa [dval, valV, List.find?_cons, e] using this
theorem RKs.len : ∀ {kws : List (Key × W)} {kvs : List (Key × V)}, RKs K φ Z H kws kvs → kws.length = kvs.length
  | _, _, .nil => rfl
  | _, _, .cons _ b => congrArg Nat.succ b.len
theorem RKs.any (p : Key → Bool) : ∀ {kws : List (Key × W)} {kvs : List (Key × V)}, RKs K φ Z H kws kvs → (kws.any fun kv => p kv.1) = kvs.any fun kv => p kv.1
  | _, _, .nil => rfl
  | _, _, .cons _ b => by simp only [List.any_cons, b.any p]
theorem RKs.append : ∀ {kws kus : List (Key × W)} {kvs kxs : List (Key × V)}, RKs K φ Z H kws kvs → RKs K φ Z H kus kxs → RKs K φ Z H (kws ++ kus) (kvs ++ kxs)
  | _, _, _, _, .nil, s => s
  | _, _, _, _, .cons a b, s => .cons a (b.append s)
theorem RKs.repl (k : Key) (r : RF K φ Z H w v) : ∀ {kws : List (Key × W)} {kvs : List (Key × V)}, RKs K φ Z H kws kvs → RKs K φ Z H (kws.map fun kv => if kv.1 = k then (kv.1, w) else kv) (kvs.map fun kv => if kv.1 = k then (kv.1, v) else kv)
  | _, _, .nil => .nil
  | _, _, @RKs.cons _ _ _ _ j _ _ _ _ a b => by
    simp only [List.map_cons]
    by_cases e : j = k
    · rw [if_pos e, if_pos e]; exact .cons r (b.repl k r)
    · rw [if_neg e, if_neg e]; exact .cons a (b.repl k r)
theorem RKs.put (k : Key) (r : RF K φ Z H w v) (b : RKs K φ Z H kws kvs) : RKs K φ Z H (dput kws k w) (putK kvs k v) := by
  unfold dput putK
  rw [b.any (fun j => decide (j = k))]
  split
  · exact b.repl k r
  · exact b.append (.cons r .nil)
theorem RKs.get : ∀ {kws : List (Key × W)} {kvs : List (Key × V)} {i : Nat} {k : Key} {w : W}, RKs K φ Z H kws kvs → kws[i]? = some (k, w) → ∃ v, kvs[i]? = some (k, v) ∧ RF K φ Z H w v
  | _, _, _, _, _, .nil, e => by simp at e
  | _, _, 0, _, _, .cons a _, e => by simp at e; obtain ⟨rfl, rfl⟩ := e; exact ⟨_, rfl, a⟩
  | _, _, i + 1, _, _, .cons _ b, e => by simpa using b.get (i := i) (by simpa using e)
theorem RKs.merge : ∀ {more : List (Key × W)} {mv : List (Key × V)} {kws : List (Key × W)} {kvs : List (Key × V)}, RKs K φ Z H more mv → RKs K φ Z H kws kvs → RKs K φ Z H (dmerge kws more) (mergeK kvs mv)
  | _, _, _, _, .nil, s => s
  | _, _, _, _, @RKs.cons _ _ _ _ k w v more mv a b, s => (RKs.merge b (s.put k a) : RKs K φ Z H (dmerge (dput _ k w) more) (mergeK (putK _ k v) mv))
end
/-! ### states -/
/-- the entry of a def: the shared objects, the heap, what others own -/
structure Ent where
  φ : List Addr
  H : Hp
  Z : Addr → Prop
/-- .. and p -/
def Ent.plus (E : Ent) (p : Addr) : Ent := { E with Z := fun a => E.Z a ∨ a = p }
/-- what may change -/
def ZZ (E : Ent) (σw : Sls) (φ : List Addr) (σ : L2.St) (a : Addr) : Prop := E.Z a ∨ a ∈ φ ∨ ∃ (i : Nat) (w : W), σw[i]? = some (.ow w) ∧ σ[i]? = some (some (.ref a))
/-- a list or dict of one's own -/
def Holds (K : PySem.W.Frag) (φ : List Addr) (Z : Addr → Prop) (H : Hp) (w : W) (a : Addr) : Prop :=
  (∃ ws vs, w = .lst ws ∧ H a = some (.lst vs) ∧ RFs K φ Z H ws vs) ∨ ∃ kws kvs, w = .dct kws ∧ H a = some (.dK kvs) ∧ RKs K φ Z H kws kvs
def RL (K : PySem.W.Frag) (φ : List Addr) (Z : Addr → Prop) (H : Hp) (fs : List (Str × W)) (gs : List (Str × V)) : Prop := Paired (fun (p : Str × W) (q : Str × V) => p.1 = q.1 ∧ RF K φ Z H p.2 q.2) fs gs
/-- a shared object -/
def HoldsO (K : PySem.W.Frag) (φ : List Addr) (Z : Addr → Prop) (H : Hp) (ob : Ob) (a : Addr) : Prop := match ob with
  | .lst ws => ∃ vs, H a = some (.lst vs) ∧ RFs K φ Z H ws vs
  | .dct kws => ∃ kvs, H a = some (.dK kvs) ∧ RKs K φ Z H kws kvs
  | .ins c fs => ∃ dx gs, H a = some (.ins (He.ga K c) dx gs) ∧ RL K φ Z H fs gs
  | .frz ws => ∃ o vs, H a = some (.frz o (.lst vs)) ∧ RFs K φ Z H ws vs
  | .lck kws => ∃ o kvs, H a = some (.frz o (.dK kvs)) ∧ RKs K φ Z H kws kvs
structure StOk (K : PySem.W.Frag) (S : Sto) (φ : List Addr) (Z : Addr → Prop) (H : Hp) : Prop where
  len : φ.length = S.length
  nd : φ.Nodup
  ob : ∀ (n : Nat) (ob : Ob) (a : Addr), S[n]? = some ob → φ[n]? = some a → HoldsO K φ Z H ob a
structure Rl (K : PySem.W.Frag) (E : Ent) (σw : Sls) (S : Sto) (φ : List Addr) (σ : L2.St) (H : Hp) : Prop where
  st : StOk K S φ (ZZ E σw φ σ) H
  len : σ.length = σw.length
  fr : ∀ (i : Nat) (w : W), σw[i]? = some (.fr w) → ∃ v, σ[i]? = some (some v) ∧ RF K φ (ZZ E σw φ σ) H w v
  ow : ∀ (i : Nat) (w : W), σw[i]? = some (.ow w) → ∃ a, σ[i]? = some (some (.ref a)) ∧ Holds K φ (ZZ E σw φ σ) H w a ∧ a ∉ φ ∧ ¬ E.Z a ∧ E.H a = none
  inj : ∀ (i j : Nat) (w w' : W) (a : Addr), σw[i]? = some (.ow w) → σw[j]? = some (.ow w') → σ[i]? = some (some (.ref a)) → σ[j]? = some (some (.ref a)) → i = j
  zφ : ∀ a, a ∈ φ → ¬ E.Z a
  zal : ∀ a, E.Z a → H a ≠ none
  eφ : ∀ (n : Nat) (a : Addr), E.φ[n]? = some a → φ[n]? = some a
  ekeep : ∀ a o, a ∉ E.φ → E.H a = some o → H a = some o
  enew : ∀ a, a ∈ φ → a ∈ E.φ ∨ E.H a = none
  efz : ∀ a o u, E.H a = some (.frz o u) → H a = some (.frz o u)
/-- behind an expression: shared objects may have changed, nothing else -/
structure Ext (φ : List Addr) (H : Hp) (φ' : List Addr) (H' : Hp) : Prop where
  ix : ∀ (n : Nat) (a : Addr), φ[n]? = some a → φ'[n]? = some a
  keep : ∀ a o, a ∉ φ → H a = some o → H' a = some o
  new : ∀ a, a ∈ φ' → a ∈ φ ∨ H a = none
  fz : ∀ a o u, H a = some (.frz o u) → H' a = some (.frz o u)
section
variable {K : PySem.W.Frag} {E : Ent} {σw : Sls} {S S' : Sto} {φ φ' φ'' : List Addr} {Z Z' : Addr → Prop} {σ : L2.St} {H H' H'' : Hp} {a p : Addr} {o : HO} {w : W} {v : V} {ws : List W} {vs : List V} {ob : Ob}
theorem Ext.refl : Ext φ H φ H := ⟨fun _ _ h => h, fun _ _ _ h => h, fun _ h => .inl h, fun _ _ _ h => h⟩
theorem Ext.same (e : Same H H') : Ext φ H φ H' := ⟨fun _ _ h => h, fun a o _ h => e a o h, fun _ h => .inl h, fun a o u h => e a _ h⟩
theorem mem_of_ix {l : List Addr} {n : Nat} {a : Addr} (h : l[n]? = some a) : a ∈ l := List.mem_of_getElem? h
theorem Ext.trans (x : Ext φ H φ' H') (y : Ext φ' H' φ'' H'') : Ext φ H φ'' H'' where
  ix := fun n a h => y.ix n a (x.ix n a h)
  fz := fun a o u h => y.fz a o u (x.fz a o u h)
  keep := fun a o n h => y.keep a o (fun m => (x.new a m).elim n fun e => by rw [h] at e; cases e) (x.keep a o n h)
  new := fun a m => by
    by_cases ha : a ∈ φ
    · exact .inl ha
    · rcases y.new a m with m | e
      · exact x.new a m
      · right
        cases q : H a with
        | none => rfl
        | some o => rw [x.keep a o ha q] at e; cases e
theorem Ext.later (x : Ext φ H φ' H') : Later φ (ZZ E σw φ σ) H φ' (ZZ E σw φ' σ) H' where
  ix := x.ix
  fz := x.fz
  keep := fun a o n h => x.keep a o (fun m => n (.inr (.inl m))) h
  new := fun a z => by
    rcases z with z | z | z
    · exact .inl (.inl z)
    · exact (x.new a z).elim (fun m => .inl (.inr (.inl m))) .inr
    · exact .inl (.inr (.inr z))
theorem Holds.mono (L : Later φ Z H φ' Z' H') (k : ∀ o, H a = some o → H' a = some o) (h : Holds K φ Z H w a) : Holds K φ' Z' H' w a := by
  rcases h with ⟨ws, vs, e, h, r⟩ | ⟨ws, vs, e, h, r⟩
  · exact .inl ⟨ws, vs, e, k _ h, r.mono L⟩
  · exact .inr ⟨ws, vs, e, k _ h, r.mono L⟩
theorem RL.mono (L : Later φ Z H φ' Z' H') {fs : List (Str × W)} {gs : List (Str × V)} (h : RL K φ Z H fs gs) : RL K φ' Z' H' fs gs := Paired.mapP h fun _ _ r => ⟨r.1, r.2.mono L⟩
theorem HoldsO.mono (L : Later φ Z H φ' Z' H') (k : ∀ o, H a = some o → H' a = some o) (h : HoldsO K φ Z H ob a) : HoldsO K φ' Z' H' ob a := by
  cases ob with
  | lst ws => obtain ⟨vs, h, r⟩ := h; exact ⟨vs, k _ h, r.mono L⟩
  | dct ws => obtain ⟨vs, h, r⟩ := h; exact ⟨vs, k _ h, r.mono L⟩
  | ins c fs => obtain ⟨dx, gs, h, r⟩ := h; exact ⟨dx, gs, k _ h, RL.mono L r⟩
  | frz ws => obtain ⟨o, vs, h, r⟩ := h; exact ⟨o, vs, k _ h, r.mono L⟩
  | lck ws => obtain ⟨o, vs, h, r⟩ := h; exact ⟨o, vs, k _ h, r.mono L⟩
theorem Holds.mono0 (L : Later0 φ Z H φ' Z' H') (k : ∀ o, H a = some o → H' a = some o) (h : Holds K φ Z H w a) : Holds K φ' Z' H' w a := by
  rcases h with ⟨ws, vs, e, h, r⟩ | ⟨ws, vs, e, h, r⟩
  · exact .inl ⟨ws, vs, e, k _ h, r.mono0 L⟩
  · exact .inr ⟨ws, vs, e, k _ h, r.mono0 L⟩
theorem RL.mono0 (L : Later0 φ Z H φ' Z' H') {fs : List (Str × W)} {gs : List (Str × V)} (h : RL K φ Z H fs gs) : RL K φ' Z' H' fs gs := Paired.mapP h fun _ _ r => ⟨r.1, r.2.mono0 L⟩
theorem HoldsO.mono0 (L : Later0 φ Z H φ' Z' H') (k : ∀ o, H a = some o → H' a = some o) (h : HoldsO K φ Z H ob a) : HoldsO K φ' Z' H' ob a := by
  cases ob with
  | lst ws => obtain ⟨vs, h, r⟩ := h; exact ⟨vs, k _ h, r.mono0 L⟩
  | dct ws => obtain ⟨vs, h, r⟩ := h; exact ⟨vs, k _ h, r.mono0 L⟩
  | ins c fs => obtain ⟨dx, gs, h, r⟩ := h; exact ⟨dx, gs, k _ h, RL.mono0 L r⟩
  | frz ws => obtain ⟨o, vs, h, r⟩ := h; exact ⟨o, vs, k _ h, r.mono0 L⟩
  | lck ws => obtain ⟨o, vs, h, r⟩ := h; exact ⟨o, vs, k _ h, r.mono0 L⟩
theorem Holds.got (h : Holds K φ Z H w a) : ∃ o, H a = some o := by
  rcases h with ⟨ws, vs, e, h, r⟩ | ⟨ws, vs, e, h, r⟩ <;> exact ⟨_, h⟩
theorem HoldsO.got (h : HoldsO K φ Z H ob a) : ∃ o, H a = some o := by
  cases ob with
  | lst ws => obtain ⟨vs, h, r⟩ := h; exact ⟨_, h⟩
  | dct ws => obtain ⟨vs, h, r⟩ := h; exact ⟨_, h⟩
  | ins c fs => obtain ⟨dx, gs, h, r⟩ := h; exact ⟨_, h⟩
  | frz ws => obtain ⟨o, vs, h, r⟩ := h; exact ⟨_, h⟩
  | lck ws => obtain ⟨o, vs, h, r⟩ := h; exact ⟨_, h⟩
theorem StOk.at (st : StOk K S φ Z H) {n : Nat} (e : S[n]? = some ob) : ∃ a, φ[n]? = some a ∧ HoldsO K φ Z H ob a := by
  obtain ⟨hn, _⟩ := List.getElem?_eq_some_iff.mp e
  have h : n < φ.length := by rw [st.len]; exact hn
  exact ⟨φ[n], List.getElem?_eq_getElem h, st.ob n ob _ e (List.getElem?_eq_getElem h)⟩
theorem StOk.mem (st : StOk K S φ Z H) (m : a ∈ φ) : ∃ (n : Nat) (ob : Ob), S[n]? = some ob ∧ φ[n]? = some a ∧ HoldsO K φ Z H ob a := by
  obtain ⟨n, e⟩ := List.mem_iff_getElem?.mp m
  obtain ⟨hn, _⟩ := List.getElem?_eq_some_iff.mp e
  have h : n < S.length := by rw [← st.len]; exact hn
  exact ⟨n, S[n], List.getElem?_eq_getElem h, e, st.ob n _ a (List.getElem?_eq_getElem h) e⟩
theorem StOk.got (st : StOk K S φ Z H) (m : a ∈ φ) : ∃ o, H a = some o := by
  obtain ⟨n, ob, _, _, h⟩ := st.mem m
  exact h.got
theorem ix_inj {l : List Addr} (nd : l.Nodup) {i j : Nat} {a : Addr} (h : l[i]? = some a) (h' : l[j]? = some a) : i = j := by
  obtain ⟨hi, e⟩ := List.getElem?_eq_some_iff.mp h
  obtain ⟨hj, e'⟩ := List.getElem?_eq_some_iff.mp h'
  rcases Nat.lt_trichotomy i j with g | g | g
  · exact absurd (e.trans e'.symm) (List.pairwise_iff_getElem.mp nd i j hi hj g)
  · exact g
  · exact absurd (e'.trans e.symm) (List.pairwise_iff_getElem.mp nd j i hj hi g)
theorem StOk.mono (st : StOk K S φ Z H) (L : Later φ Z H φ Z' H') (k : ∀ a o, a ∈ φ → H a = some o → H' a = some o) : StOk K S φ Z' H' :=
  ⟨st.len, st.nd, fun n ob a e f => (st.ob n ob a e f).mono L fun o h => k a o (mem_of_ix f) h⟩
/-- one shared object is written -/
theorem StOk.set (st : StOk K S φ Z H) {n : Nat} (hp : φ[n]? = some p) (L : Later φ Z H φ Z' (upd H p o)) (h : HoldsO K φ Z' (upd H p o) ob p) : StOk K (S.set n ob) φ Z' (upd H p o) := by
  refine ⟨by rw [List.length_set]; exact st.len, st.nd, fun m ob' a e f => ?_⟩
  by_cases hm : n = m
  · subst hm
    rw [hp] at f; cases f
    obtain ⟨hn, _⟩ := List.getElem?_eq_some_iff.mp hp
    rw [List.getElem?_set_self (by rw [← st.len]; exact hn)] at e
    cases e
    exact h
  · rw [List.getElem?_set_ne hm] at e
    refine (st.ob m ob' a e f).mono L fun u hu => ?_
    rw [upd_ne (fun z : a = p => hm (ix_inj st.nd hp (by rw [← z]; exact f)))]
    exact hu
theorem Rl.alloc (R : Rl K E σw S φ σ H) (z : ZZ E σw φ σ a) : ∃ o, H a = some o := by
  rcases z with z | z | ⟨i, w, e, f⟩
  · cases q : H a with
    | none => exact absurd q (R.zal a z)
    | some o => exact ⟨o, rfl⟩
  · exact R.st.got z
  · obtain ⟨b, g, h, _⟩ := R.ow i w e
    rw [f] at g; cases g
    exact h.got
theorem Rl.free (R : Rl K E σw S φ σ H) (h : H a = none) : ¬ ZZ E σw φ σ a := fun z => by
  obtain ⟨o, e⟩ := R.alloc z
  rw [h] at e; cases e
/-- behind an expression -/
theorem Rl.ext (R : Rl K E σw S φ σ H) (x : Ext φ H φ' H') (st : StOk K S' φ' (ZZ E σw φ' σ) H') : Rl K E σw S' φ' σ H' := by
  have L := x.later (E := E) (σw := σw) (σ := σ)
  have nφ : ∀ a o, H a = some o → a ∉ φ → a ∉ φ' := fun a o h n m => (x.new a m).elim n fun e => by rw [h] at e; cases e
  have enφ : ∀ a o, a ∉ E.φ → E.H a = some o → a ∉ φ := fun a o n h m => (R.enew a m).elim n fun e => by rw [h] at e; cases e
  refine ⟨st, R.len, fun i w e => ?_, fun i w e => ?_, R.inj, fun a m z => ?_, fun a z => ?_, fun n a h => x.ix n a (R.eφ n a h), fun a o n h => x.keep a o (enφ a o n h) (R.ekeep a o n h), fun a m => ?_, fun a o u h => x.fz a o u (R.efz a o u h)⟩
  · obtain ⟨v, f, r⟩ := R.fr i w e
    exact ⟨v, f, r.mono L⟩
  · obtain ⟨a, f, h, n1, n2, n3⟩ := R.ow i w e
    obtain ⟨o, ho⟩ := h.got
    exact ⟨a, f, h.mono L fun o h => x.keep a o n1 h, nφ a o ho n1, n2, n3⟩
  · rcases x.new a m with m | e
    · exact R.zφ a m z
    · exact R.zal a z e
  · cases q : H a with
    | none => exact absurd q (R.zal a z)
    | some o => rw [x.keep a o (fun m => R.zφ a m z) q]; simp
  · rcases x.new a m with m | e
    · exact R.enew a m
    · by_cases hm : a ∈ E.φ
      · exact .inl hm
      · right
        cases q : E.H a with
        | none => rfl
        | some o => rw [R.ekeep a o hm q] at e; cases e
theorem Rl.same (R : Rl K E σw S φ σ H) (e : Same H H') : Rl K E σw S φ σ H' := R.ext (.same e) (R.st.mono (.same e fun _ z => z) fun a o _ h => e a o h)
/-- the plus of an address that nothing speaks of -/
theorem zz_plus {z : ZZ (E.plus p) σw φ σ a} : ZZ E σw φ σ a ∨ a = p := by
  rcases z with (z | z) | z
  · exact .inl (.inl z)
  · exact .inr z
  · exact .inl (.inr z)
theorem Rl.plus (R : Rl K E σw S φ σ H) (hp : H p = none) : Rl K (E.plus p) σw S φ σ (upd H p o) := by
  have nz := R.free hp
  have e : Same H (upd H p o) := fun a u h => by rw [upd_ne (ne_of_none h hp)]; exact h
  have L : Later φ (ZZ E σw φ σ) H φ (ZZ (E.plus p) σw φ σ) (upd H p o) := ⟨fun _ _ h => h, fun a o _ h => e a o h, fun a z => (zz_plus (z := z)).imp id fun q => by rw [q]; exact hp, fun a o u h => e a _ h⟩
  have R' := R.same e
  refine ⟨R.st.mono L fun a o _ h => e a o h, R.len, fun i w f => ?_, fun i w f => ?_, R.inj, fun a m z => ?_, fun a z => ?_, R.eφ, R'.ekeep, R.enew, R'.efz⟩
  · obtain ⟨v, g, r⟩ := R.fr i w f
    exact ⟨v, g, r.mono L⟩
  · obtain ⟨a, g, h, n1, n2, n3⟩ := R.ow i w f
    refine ⟨a, g, h.mono L fun o h => e a o h, n1, fun z => z.elim n2 fun q => ?_, n3⟩
    obtain ⟨o, ho⟩ := h.got
    rw [q, hp] at ho; cases ho
  · rcases z with z | z
    · exact R.zφ a m z
    · subst z
      obtain ⟨o, ho⟩ := R.st.got m
      rw [hp] at ho; cases ho
  · rcases z with z | z
    · exact R'.zal a z
    · subst z; rw [upd_same]; simp
/-- .. and back -/
theorem Rl.minus (R : Rl K (E.plus p) σw S φ σ H) : Rl K E σw S φ σ H := by
  have z : ∀ a, ZZ E σw φ σ a → ZZ (E.plus p) σw φ σ a := fun a z => z.imp .inl id
  have L : Later φ (ZZ (E.plus p) σw φ σ) H φ (ZZ E σw φ σ) H := .less z
  refine ⟨R.st.mono L fun a o _ h => h, R.len, fun i w f => ?_, fun i w f => ?_, R.inj, fun a m z => R.zφ a m (.inl z), fun a z => R.zal a (.inl z), R.eφ, R.ekeep, R.enew, R.efz⟩
  · obtain ⟨v, g, r⟩ := R.fr i w f
    exact ⟨v, g, r.mono L⟩
  · obtain ⟨a, g, h, n1, n2, n3⟩ := R.ow i w f
    exact ⟨a, g, h.mono L fun o h => h, n1, fun z => n2 (.inl z), n3⟩
/-! ### what an expression gives -/
/-- its value, handed on; or (br) looked at: a slot's own list, too -/
def RX (K : PySem.W.Frag) (E : Ent) (σw : Sls) (φ : List Addr) (σ : L2.St) (H : Hp) (br : Bool) (w : W) (v : V) : Prop :=
  RF K φ (ZZ E σw φ σ) H w v ∨ (br = true ∧ ∃ (i : Nat) (a : Addr), σw[i]? = some (.ow w) ∧ σ[i]? = some (some (.ref a)) ∧ v = .ref a)
inductive RXs (K : PySem.W.Frag) (E : Ent) (σw : Sls) (φ : List Addr) (σ : L2.St) (H : Hp) (br : Bool) : List W → List V → Prop
  | nil : RXs K E σw φ σ H br [] []
  | cons {w : W} {v : V} {ws : List W} {vs : List V} : RX K E σw φ σ H br w v → RXs K E σw φ σ H br ws vs → RXs K E σw φ σ H br (w :: ws) (v :: vs)
theorem RX.ext {br : Bool} (x : Ext φ H φ' H') (r : RX K E σw φ σ H br w v) : RX K E σw φ' σ H' br w v := r.imp (fun r => r.mono x.later) id
theorem RXs.ext {br : Bool} (x : Ext φ H φ' H') : ∀ {ws : List W} {vs : List V}, RXs K E σw φ σ H br ws vs → RXs K E σw φ' σ H' br ws vs
  | _, _, .nil => .nil
  | _, _, .cons a b => .cons (a.ext x) (b.ext x)
theorem RX.fr (r : RX K E σw φ σ H false w v) : RF K φ (ZZ E σw φ σ) H w v := r.elim id fun h => by cases h.1
theorem RXs.fr : ∀ {ws : List W} {vs : List V}, RXs K E σw φ σ H false ws vs → RFs K φ (ZZ E σw φ σ) H ws vs
  | _, _, .nil => .nil
  | _, _, .cons a b => .cons a.fr b.fr
theorem RFs.rx {br : Bool} : ∀ {ws : List W} {vs : List V}, RFs K φ (ZZ E σw φ σ) H ws vs → RXs K E σw φ σ H br ws vs
  | _, _, .nil => .nil
  | _, _, .cons a b => .cons (.inl a) b.rx
theorem RXs.len {br : Bool} : ∀ {ws : List W} {vs : List V}, RXs K E σw φ σ H br ws vs → ws.length = vs.length
  | _, _, .nil => rfl
  | _, _, .cons _ b => congrArg Nat.succ b.len
/-- a value that is new (it was not at H0), if it is a list or a dict: nothing else speaks of it -/
def New (K : PySem.W.Frag) (E : Ent) (σw : Sls) (S : Sto) (φ : List Addr) (σ : L2.St) (H0 H : Hp) (w : W) (v : V) : Prop := match w with
  | .lst ws => ∃ p vs, v = .ref p ∧ H p = some (.lst vs) ∧ H0 p = none ∧ ¬ ZZ E σw φ σ p ∧ E.H p = none ∧ Rl K (E.plus p) σw S φ σ H ∧ RFs K φ (ZZ (E.plus p) σw φ σ) H ws vs
  | .dct ws => ∃ p vs, v = .ref p ∧ H p = some (.dK vs) ∧ H0 p = none ∧ ¬ ZZ E σw φ σ p ∧ E.H p = none ∧ Rl K (E.plus p) σw S φ σ H ∧ RKs K φ (ZZ (E.plus p) σw φ σ) H ws vs
  | w => Rl K E σw S φ σ H ∧ RF K φ (ZZ E σw φ σ) H w v
theorem New.rl {H0 : Hp} (h : New K E σw S φ σ H0 H w v) : Rl K E σw S φ σ H := by
  cases w <;> first | exact h.1 | (obtain ⟨p, vs, _, _, _, _, _, R, _⟩ := h; exact R.minus)
theorem zz_of_plus (z : ZZ E σw φ σ a) : ZZ (E.plus p) σw φ σ a := z.imp .inl id
theorem New.rf {H0 : Hp} (h : New K E σw S φ σ H0 H w v) : RF K φ (ZZ E σw φ σ) H w v := by
  cases w with
  | lst ws => obtain ⟨p, vs, rfl, hp, _, nz, _, R, r⟩ := h; exact .lst hp nz (r.mono (.less fun _ => zz_of_plus))
  | dct ws => obtain ⟨p, vs, rfl, hp, _, nz, _, R, r⟩ := h; exact .dct hp nz (r.mono (.less fun _ => zz_of_plus))
  | _ => exact h.2
/-- what is new at the end was not at the start -/
theorem ext_none (x : Ext φ' H' φ H) (R : Rl K E σw S φ σ H) (h : H p = none) : H' p = none := by
  cases q : H' p with
  | none => rfl
  | some o =>
    by_cases m : p ∈ φ'
    · obtain ⟨n, e⟩ := List.mem_iff_getElem?.mp m
      obtain ⟨o, ho⟩ := R.st.got (mem_of_ix (x.ix n p e))
      rw [h] at ho; cases ho
    · rw [x.keep p o m q] at h; cases h
theorem New.back {S1 : Sto} {φ1 : List Addr} {H0 H1 : Hp} (x : Ext φ1 H1 φ' H0) (R : Rl K E σw S1 φ' σ H0) (h : New K E σw S φ σ H0 H w v) : New K E σw S φ σ H1 H w v := by
  cases w with
  | lst ws => obtain ⟨p, vs, h1, h2, h3, h4⟩ := h; exact ⟨p, vs, h1, h2, ext_none x R h3, h4⟩
  | dct ws => obtain ⟨p, vs, h1, h2, h3, h4⟩ := h; exact ⟨p, vs, h1, h2, ext_none x R h3, h4⟩
  | _ => exact h
theorem enone (R : Rl K E σw S φ σ H) (hp : H p = none) : E.H p = none := by
  cases q : E.H p with
  | none => rfl
  | some o =>
    by_cases m : p ∈ E.φ
    · obtain ⟨n, e⟩ := List.mem_iff_getElem?.mp m
      obtain ⟨o, ho⟩ := R.st.got (mem_of_ix (R.eφ n p e))
      rw [hp] at ho; cases ho
    · rw [R.ekeep p o m q] at hp; cases hp
theorem plus_later (R : Rl K E σw S φ σ H) (hp : H p = none) : Later φ (ZZ E σw φ σ) H φ (ZZ (E.plus p) σw φ σ) (upd H p o) :=
  ⟨fun _ _ h => h, fun a u _ h => by rw [upd_ne (ne_of_none h hp)]; exact h, fun a z => (zz_plus (z := z)).imp id fun q => by rw [q]; exact hp, fun a o u h => by rw [upd_ne (ne_of_none h hp)]; exact h⟩
theorem new_lst (R : Rl K E σw S φ σ H) (hp : H p = none) (r : RFs K φ (ZZ E σw φ σ) H ws vs) : New K E σw S φ σ H (upd H p (.lst vs)) (.lst ws) (.ref p) :=
  ⟨p, vs, rfl, upd_same, hp, R.free hp, enone R hp, R.plus hp, r.mono (plus_later R hp)⟩
theorem new_dct {kws : List (Key × W)} {kvs : List (Key × V)} (R : Rl K E σw S φ σ H) (hp : H p = none) (r : RKs K φ (ZZ E σw φ σ) H kws kvs) : New K E σw S φ σ H (upd H p (.dK kvs)) (.dct kws) (.ref p) :=
  ⟨p, kvs, rfl, upd_same, hp, R.free hp, enone R hp, R.plus hp, r.mono (plus_later R hp)⟩
theorem same_new (hp : H p = none) : Same H (upd H p o) := fun a u h => by rw [upd_ne (ne_of_none h hp)]; exact h
theorem new_tup (R : Rl K E σw S φ σ H) (hp : H p = none) (r : RFs K φ (ZZ E σw φ σ) H ws vs) : New K E σw S φ σ H (upd H p (.tup vs)) (.tup ws) (.ref p) :=
  ⟨R.same (same_new hp), .tup (.inl ⟨upd_same, R.free hp⟩) (r.mono (.same (same_new hp) fun _ z => z))⟩
end
end EV

namespace EV
open PySem PySem.Spec PyProof.Rows L2
/-! ### tuple * 1, tuple * 0 -/
theorem tuple_mul1 (l : Addr) (items : Array Value) (n : Nat) (dd : Option Addr) (sl : Array (Option Value)) (u : Tok) :
    Meets (Builtin.«tuple.__mul__» ⟨[.ref l, .int 1 u], []⟩) (fun _ R s => s.heap.get? l = some { cls := .type "tuple", dict := dd, data := .seq items n, slots := sl } ∧ R (.ok (.ret (Value.ref l))) s) :=
  .of_wp fun prog w A R s h => by
    obtain ⟨hp, g, d, tk, os⟩ := s
    obtain ⟨hl, h⟩ := h
    have f1 := AutoSeq1.idx_int
    have c0 : (decide ((1 : Int) < -(2 ^ 63)) || decide ((1 : Int) ≥ 2 ^ 63)) = false := by decide
    have c1 : (items.isEmpty || (1 : Int) == 1) = true := by rw [show ((1 : Int) == 1) = true from rfl, Bool.or_true]
    wp_walk using wpAny_loadPart' hl
    exact ⟨_, rfl, h⟩
theorem tuple_mul0 (l : Addr) (items : Array Value) (n : Nat) (dd : Option Addr) (sl : Array (Option Value)) (u : Tok) (hne : items.isEmpty = false) :
    Meets (Builtin.«tuple.__mul__» ⟨[.ref l, .int 0 u], []⟩) (fun _ R s => s.heap.get? l = some { cls := .type "tuple", dict := dd, data := .seq items n, slots := sl } ∧
      R (.ok (.ret (Value.ref s.heap.objs.size))) { s with heap := s.heap.push { cls := Value.type "tuple", data := Data.seq #[] }, toks := s.toks }) :=
  .of_wp fun prog w A R s h => by
    obtain ⟨hp, g, d, tk, os⟩ := s
    obtain ⟨hl, h⟩ := h
    have f1 := AutoSeq1.idx_int
    have c0 : (decide ((0 : Int) < -(2 ^ 63)) || decide ((0 : Int) ≥ 2 ^ 63)) = false := by decide
    have c1 : (items.isEmpty || (0 : Int) == 1) = false := by rw [hne]; rfl
    have c2 : (decide ((0 : Int) ≤ 0) || items.isEmpty) = true := by rw [decide_eq_true (by decide)]; rfl
    wp_walk using wpAny_loadPart' hl
    repeat (first
      | (refine wpAny_ite_false (decide_eq_false (by rw [c1]; exact Bool.false_ne_true)) ?_; wp_walk using wpAny_loadPart' hl)
      | (refine wpAny_ite_true (decide_eq_true c2) ?_; wp_walk using wpAny_loadPart' hl)
      | (refine wpAny_ite_false (decide_eq_false (by rw [hne]; exact Bool.false_ne_true)) ?_; wp_walk using wpAny_loadPart' hl))
    exact ⟨_, rfl, h⟩
def rRepT1 (K : PySem.W.Frag) : R2 := fun x y H Q => ∃ l xs, x = .ref l ∧ y = .int 1 ∧ SqT K H l xs ∧ Q (.ref l) H
def rRepT0 (K : PySem.W.Frag) : R2 := fun x y H Q => ∃ l xs, x = .ref l ∧ y = .int 0 ∧ SqT K H l xs ∧ xs ≠ [] ∧ ∀ p, H p = none → Q (.ref p) (upd H p (.tup []))
theorem op_repT1 {X : Cx} : OpR X (binaryOp .Mult) (rRepT1 X.K) := by
  intro pins s σ H x y v u Q I rx ry h
  obtain ⟨l, xs, rfl, rfl, hT, q⟩ := h
  cases rx
  obtain ⟨t, rfl⟩ := ry
  obtain ⟨its, r, ⟨⟨cls, dd, data, sl⟩, ho, hc, n, hd⟩, hs⟩ := I.tuple hT
  simp only at hc hd
  subst hc hd
  refine wpAny_binaryOp_repeat_ref (T := "tuple") (U := "int") (by decide) ⟨_, ho, rfl⟩ (fun s' => typeIs_int s' 1 t) noFill_tuple_mul F.fills_int_mul F.slot_int_rmul repeat_tuple F.slot_int_index.lookup
    (call_meets F.slot_int_rmul (typeIs_int s 1 t) F.entry_int_rmul (F.args_int_rmul_2 _ _) (int_rmul_tuple 1 t l its.toArray n dd sl)
      ⟨ho, rfl, ⟨_, ho, rfl⟩, call_meets F.slot_tuple_mul ⟨_, ho, rfl⟩ F.entry_tuple_mul (F.args_tuple_mul_2 _ _) (tuple_mul1 l its.toArray n dd sl t) ⟨ho, ?_⟩⟩)
  exact ⟨.ref l, H, I, rfl, q⟩
theorem op_repT0 {X : Cx} : OpR X (binaryOp .Mult) (rRepT0 X.K) := by
  intro pins s σ H x y v u Q I rx ry h
  obtain ⟨l, xs, rfl, rfl, hT, hne, q⟩ := h
  cases rx
  obtain ⟨t, rfl⟩ := ry
  obtain ⟨its, r, ⟨⟨cls, dd, data, sl⟩, ho, hc, n, hd⟩, hs⟩ := I.tuple hT
  simp only at hc hd
  subst hc hd
  have hi : its.toArray.isEmpty = false := by
    cases its with
    | nil => exact absurd (List.eq_nil_of_length_eq_zero (r.length.trans rfl)) hne
    | cons a b => rfl
  refine wpAny_binaryOp_repeat_ref (T := "tuple") (U := "int") (by decide) ⟨_, ho, rfl⟩ (fun s' => typeIs_int s' 0 t) noFill_tuple_mul F.fills_int_mul F.slot_int_rmul repeat_tuple F.slot_int_index.lookup
    (call_meets F.slot_int_rmul (typeIs_int s 0 t) F.entry_int_rmul (F.args_int_rmul_2 _ _) (int_rmul_tuple 0 t l its.toArray n dd sl)
      ⟨ho, rfl, ⟨_, ho, rfl⟩, call_meets F.slot_tuple_mul ⟨_, ho, rfl⟩ F.entry_tuple_mul (F.args_tuple_mul_2 _ _) (tuple_mul0 l its.toArray n dd sl t hi) ⟨ho, ?_⟩⟩)
  refine ⟨.ref s.heap.objs.size, _, I.laid (t' := s.toks) (o := .tup []) (fun b ob q => Heap.get?_push_of_some _ q) (Nat.le_refl _) ?_, rfl, q _ (I.hok.fresh (Nat.le_refl _))⟩
  exact ⟨by simp, _, .nil, IsTup.new _ _⟩
/-! ### text * int -/
theorem foldl_app (c : Array Nat) : ∀ (n : Nat) (acc : Array Nat), (List.replicate n c).foldl (· ++ ·) acc = acc ++ ((List.replicate n c.toList).flatten).toArray
  | 0, acc => by simp
  | n + 1, acc => by
    rw [List.replicate_succ, List.foldl_cons, foldl_app c n, List.replicate_succ, List.flatten_cons]
    apply Array.ext'
    simp
theorem op_repS {X : Cx} : OpR X (binaryOp .Mult) (fun x y H Q => ∃ s j, x = .str s ∧ y = .int j ∧ 0 ≤ j ∧ j ≤ 1000 ∧ s.length ≤ 1000 ∧ Q (.str (repS s j.toNat)) H) := by
  intro pins s σ H x y v u Q I rx ry h
  obtain ⟨a, j, rfl, rfl, h0, h1, h2, q⟩ := h
  obtain ⟨t, rfl⟩ := rx
  obtain ⟨t', rfl⟩ := ry
  have e63 : (2 : Int) ^ 63 = 9223372036854775808 := by rfl
  have hsz : sizeLine ≥ 1000000 := by rw [sizeLine_eq]; decide
  have hmul : a.length * j.toNat ≤ 1000000 := Nat.le_trans (Nat.mul_le_mul h2 (show j.toNat ≤ 1000 by omega)) (by decide)
  refine PySem.P.mul_str (by rw [decide_eq_false (by omega), decide_eq_false (by omega)]; rfl) (fun h3 _ => ?_) (fun h3 _ => ?_) ?_
  · have hj : 0 < j := by omega
    have : (1000 : Int) ≤ (2 ^ 63 - 1) / j := by
      rw [Int.le_ediv_iff_mul_le hj, e63]
      omega
    omega
  · show decide (a.length * j.toNat > sizeLine) = false
    exact decide_eq_false (by omega)
  · split
    · rename_i h3
      have hj : j = 0 := by omega
      subst hj
      refine ⟨by decide, ⟨.str (repS a 0), H, I.tok _, ⟨_, rfl⟩, q⟩⟩
    · split
      · rename_i h3 h4
        have hr : repS a j.toNat = a := by
          rw [Bool.or_eq_true] at h4
          rcases h4 with h4 | h4
          · have : j = 1 := by simpa using h4
            subst this
            unfold repS
            simp
          · have hz : a.cps = #[] := Array.eq_empty_of_size_eq_zero (by simpa [Str.length] using h4)
            unfold repS
            obtain ⟨c⟩ := a
            simp only at hz
            subst hz
            simp
        rw [hr] at q
        exact ⟨.str a, H, I, ⟨_, rfl⟩, q⟩
      · have hr : (⟨(List.replicate j.toNat a.cps).foldl (· ++ ·) #[]⟩ : Str) = repS a j.toNat := by
          unfold repS
          rw [foldl_app]
          simp
        rw [hr]
        refine ⟨?_, ⟨.str (repS a j.toNat), H, I.tok _, ⟨_, rfl⟩, q⟩⟩
        have : (repS a j.toNat).length = a.length * j.toNat := by
          unfold repS Str.length
          simp [Nat.mul_comm]
        omega
/-! ### the operators keep it -/
theorem lim_size {n : Nat} (h : n ≤ LIM) : n ≤ sizeLine := Nat.le_trans h (by rw [sizeLine_eq]; decide)
theorem lim_lt {n : Nat} (h : n < LIM) : n < sizeLine := Nat.lt_of_lt_of_le h (by rw [sizeLine_eq]; decide)
section
variable {X : Cx} {E : Ent} {σw : Sls} {S : Sto} {φ : List Addr} {σ : L2.St} {H : Hp} {br : Bool} {x y w : W} {v u : V} {Q : VK}
theorem TupAt.sq {Z : Addr → Prop} {a : Addr} {vs : List V} {K : PySem.W.Frag} (h : TupAt K Z H a vs) : SqT K H a vs := h.elim (fun h => .inl (.inl h.1)) fun ⟨o, its, n, h1, h2, _, h3⟩ => .inr ⟨o, its, n, h1, h2, h3⟩
theorem vw_id (h : ∀ n, x ≠ .loc n) : vw S x = x := by
  cases x <;> first | rfl | (exact absurd rfl (h _))
/-- what a looked-at value is -/
theorem rx_cases (R : Rl X.K E σw S φ σ H) (r : RX X.K E σw φ σ H br x v) : RF X.K φ (ZZ E σw φ σ) H x v ∨ ∃ a, v = .ref a ∧ Holds X.K φ (ZZ E σw φ σ) H x a := by
  rcases r with r | ⟨_, i, a, e, f, rfl⟩
  · exact .inl r
  · obtain ⟨b, g, h, _⟩ := R.ow i x e
    rw [f] at g; cases g
    exact .inr ⟨_, rfl, h⟩
theorem rx_lst {ws : List W} (R : Rl X.K E σw S φ σ H) (r : RX X.K E σw φ σ H br x v) (e : vw S x = .lst ws) : ∃ a vs, v = .ref a ∧ H a = some (.lst vs) ∧ RFs X.K φ (ZZ E σw φ σ) H ws vs := by
  rcases rx_cases R r with r | ⟨a, rfl, h⟩
  · cases r with
    | lst h n r1 => cases e; exact ⟨_, _, rfl, h, r1⟩
    | @loc n a h =>
      simp only [vw] at e
      split at e
      · rename_i xs hs
        cases e
        obtain ⟨vs, h1, r⟩ := R.st.ob n _ a hs h
        exact ⟨a, vs, rfl, h1, r⟩
      · cases e
      · cases e
    | _ => cases e
  · rcases h with ⟨ws', vs, rfl, h, r⟩ | ⟨ws', vs, rfl, h, r⟩
    · cases e; exact ⟨a, vs, rfl, h, r⟩
    · cases e
theorem rx_dct {ws : List (Key × W)} (R : Rl X.K E σw S φ σ H) (r : RX X.K E σw φ σ H br x v) (e : vw S x = .dct ws) : ∃ a vs, v = .ref a ∧ H a = some (.dK vs) ∧ RKs X.K φ (ZZ E σw φ σ) H ws vs := by
  rcases rx_cases R r with r | ⟨a, rfl, h⟩
  · cases r with
    | dct h n r1 => cases e; exact ⟨_, _, rfl, h, r1⟩
    | @loc n a h =>
      simp only [vw] at e
      split at e
      · cases e
      · rename_i xs hs
        cases e
        obtain ⟨vs, h1, r⟩ := R.st.ob n _ a hs h
        exact ⟨a, vs, rfl, h1, r⟩
      · cases e
    | _ => cases e
  · rcases h with ⟨ws', vs, rfl, h, r⟩ | ⟨ws', vs, rfl, h, r⟩
    · cases e
    · cases e; exact ⟨a, vs, rfl, h, r⟩
theorem vw_not_ob (h : ∀ ws, y ≠ .lst ws) (h' : ∀ ws, y ≠ .dct ws) (e : vw S x = y) : x = y := by
  cases x with
  | loc n =>
    simp only [vw] at e
    split at e
    · exact absurd e.symm (h _)
    · exact absurd e.symm (h' _)
    · exact e
  | _ => exact e
/-- .. one that is neither a list nor a dict -/
theorem rx_rf (R : Rl X.K E σw S φ σ H) (r : RX X.K E σw φ σ H br x v) (e : vw S x = y) (h : ∀ ws, y ≠ .lst ws) (h' : ∀ ws, y ≠ .dct ws) : RF X.K φ (ZZ E σw φ σ) H y v := by
  have e1 := vw_not_ob h h' e
  subst e1
  rcases rx_cases R r with r | ⟨a, rfl, hd⟩
  · exact r
  · rcases hd with ⟨ws', vs, rfl, _⟩ | ⟨ws', vs, rfl, _⟩
    · exact absurd rfl (h _)
    · exact absurd rfl (h' _)
theorem rx_int {i : Int} (R : Rl X.K E σw S φ σ H) (r : RX X.K E σw φ σ H br x v) (e : vw S x = .int i) : v = .int i := by
  have h := rx_rf R r e (fun _ z => by cases z) (fun _ z => by cases z)
  cases h; rfl
theorem rx_str {i : Str} (R : Rl X.K E σw S φ σ H) (r : RX X.K E σw φ σ H br x v) (e : vw S x = .str i) : v = .str i := by
  have h := rx_rf R r e (fun _ z => by cases z) (fun _ z => by cases z)
  cases h; rfl
theorem rx_bl {i : Bool} (R : Rl X.K E σw S φ σ H) (r : RX X.K E σw φ σ H br x v) (e : vw S x = .bl i) : v = .bl i := by
  have h := rx_rf R r e (fun _ z => by cases z) (fun _ z => by cases z)
  cases h; rfl
theorem rx_non (R : Rl X.K E σw S φ σ H) (r : RX X.K E σw φ σ H br x v) (e : vw S x = .non) : v = .non := by
  have h := rx_rf R r e (fun _ z => by cases z) (fun _ z => by cases z)
  cases h; rfl
theorem rx_ty {n : String} (R : Rl X.K E σw S φ σ H) (r : RX X.K E σw φ σ H br x v) (e : vw S x = .ty n) : v = .ty n := by
  have h := rx_rf R r e (fun _ z => by cases z) (fun _ z => by cases z)
  cases h; rfl
theorem rx_tup {ws : List W} (R : Rl X.K E σw S φ σ H) (r : RX X.K E σw φ σ H br x v) (e : vw S x = .tup ws) : ∃ a vs, v = .ref a ∧ TupAt X.K (ZZ E σw φ σ) H a vs ∧ RFs X.K φ (ZZ E σw φ σ) H ws vs := by
  have h := rx_rf R r e (fun _ z => by cases z) (fun _ z => by cases z)
  cases h with
  | tup t r1 => exact ⟨_, _, rfl, t, r1⟩
theorem rf_none_iff {φ : List Addr} {Z : Addr → Prop} {K : PySem.W.Frag} (r : RF K φ Z H x v) : v = .non ↔ x = .non := by
  cases r <;> simp
theorem RFs.nil_iff {φ : List Addr} {Z : Addr → Prop} {K : PySem.W.Frag} {ws : List W} {vs : List V} (r : RFs K φ Z H ws vs) : vs = [] ↔ ws = [] := by
  cases r <;> simp
theorem RFs.isEmpty {φ : List Addr} {Z : Addr → Prop} {K : PySem.W.Frag} {ws : List W} {vs : List V} (r : RFs K φ Z H ws vs) : vs.isEmpty = ws.isEmpty := by
  cases r <;> rfl
theorem RKs.isEmpty {φ : List Addr} {Z : Addr → Prop} {K : PySem.W.Frag} {ws : List (Key × W)} {vs : List (Key × V)} (r : RKs K φ Z H ws vs) : vs.isEmpty = ws.isEmpty := by
  cases r <;> rfl
/-- a value as it is -/
theorem fin_same (R : Rl X.K E σw S φ σ H) (hw : (∀ ws, w ≠ .lst ws) ∧ ∀ ws, w ≠ .dct ws) (k : ∀ H' z, Same H H' → New X.K E σw S φ σ H H' w z → Q z H') (r : RF X.K φ (ZZ E σw φ σ) H w v) : Q v H := by
  refine k H v (Same.refl H) ?_
  cases w with
  | lst ws => exact absurd rfl (hw.1 ws)
  | dct ws => exact absurd rfl (hw.2 ws)
  | _ => exact ⟨R, r⟩
theorem wbin_ok {op : Operator} (R : Rl X.K E σw S φ σ H) (rx : RX X.K E σw φ σ H true x v) (ry : RX X.K E σw φ σ H true y u) (e : wbin op (vw S x) (vw S y) = some w)
    (k : ∀ H' z, Same H H' → New X.K E σw S φ σ H H' w z → Q z H') : ∃ r : R2, OpR X (binaryOp op) r ∧ r v u H Q := by
  have ki : ∀ i, w = .int i → Q (.int i) H := fun i q => by subst q; exact k _ _ (Same.refl H) ⟨R, .int i⟩
  have ks : ∀ i, w = .str i → Q (.str i) H := fun i q => by subst q; exact k _ _ (Same.refl H) ⟨R, .str i⟩
  generalize hx : vw S x = a at e
  generalize hy : vw S y = b at e
  unfold wbin at e
  split at e
  · cases e; cases rx_int R rx hx; cases rx_int R ry hy
    exact ⟨_, op_add, _, _, rfl, rfl, ki _ rfl⟩
  · split at e
    · rename_i h; cases e; cases rx_str R rx hx; cases rx_str R ry hy
      exact ⟨_, op_add_str, _, _, rfl, rfl, h, ks _ rfl⟩
    · cases e
  · split at e
    · rename_i h; cases e
      obtain ⟨p, vs, rfl, hp, r1⟩ := rx_lst R rx hx
      obtain ⟨q, us, rfl, hq, r2⟩ := rx_lst R ry hy
      rw [r1.len, r2.len] at h
      exact ⟨_, op_cat, _, _, _, _, rfl, rfl, hp, hq, lim_size h, fun l hl => k _ _ (same_new hl) (new_lst R hl (r1.append r2))⟩
    · cases e
  · split at e
    · rename_i h; cases e
      obtain ⟨p, vs, rfl, hp, r1⟩ := rx_tup R rx hx
      obtain ⟨q, us, rfl, hq, r2⟩ := rx_tup R ry hy
      rw [r1.len, r2.len] at h
      refine ⟨_, op_catA, _, _, _, _, rfl, rfl, hp.sq, hq.sq, lim_size h, fun z => ?_, fun _ z => ?_, fun _ _ l hl => k _ _ (same_new hl) (new_tup R hl (r1.append r2))⟩
      · cases r1.nil_iff.mp z
        exact k _ _ (Same.refl H) ⟨R, .tup hq r2⟩
      · cases r2.nil_iff.mp z
        refine k _ _ (Same.refl H) ⟨R, .tup hp ?_⟩
        rw [List.append_nil]; exact r1
    · cases e
  · cases e; cases rx_int R rx hx; cases rx_int R ry hy
    exact ⟨_, op_sub, _, _, rfl, rfl, ki _ rfl⟩
  · split at e
    · rename_i h; cases e; cases rx_int R rx hx; cases rx_int R ry hy
      exact ⟨_, op_mul, _, _, rfl, rfl, h, ki _ rfl⟩
    · cases e
  · split at e
    · rename_i h; cases e; cases rx_int R ry hy
      obtain ⟨p, vs, rfl, hp, r1⟩ := rx_lst R rx hx
      rw [r1.len] at h
      exact ⟨_, op_rep, _, _, _, rfl, rfl, hp, h.1, h.2.1, lim_size h.2.2, fun l hl => k _ _ (same_new hl) (new_lst R hl (r1.rep _))⟩
    · cases e
  · split at e
    · rename_i h; cases e; cases rx_int R ry hy
      obtain ⟨p, vs, rfl, hp, r1⟩ := rx_tup R rx hx
      rw [r1.len] at h
      exact ⟨_, op_repT, _, _, _, rfl, rfl, hp.sq, fun z => h.1 (r1.nil_iff.mp z), h.2.1, h.2.2.1, h.2.2.2, fun l hl => k _ _ (same_new hl) (new_tup R hl (r1.rep _))⟩
    · split at e
      · rename_i h; cases e; cases rx_int R ry hy
        obtain ⟨p, vs, rfl, hp, r1⟩ := rx_tup R rx hx
        subst h
        exact ⟨_, op_repT1, _, _, rfl, rfl, hp.sq, k _ _ (Same.refl H) ⟨R, .tup hp r1⟩⟩
      · split at e
        · rename_i h; cases e; cases rx_int R ry hy
          obtain ⟨p, vs, rfl, hp, r1⟩ := rx_tup R rx hx
          obtain ⟨rfl, h2⟩ := h
          exact ⟨_, op_repT0, _, _, rfl, rfl, hp.sq, fun z => h2 (r1.nil_iff.mp z), fun l hl => k _ _ (same_new hl) (new_tup R hl .nil)⟩
        · cases e
  · split at e
    · rename_i h; cases e; cases rx_str R rx hx; cases rx_int R ry hy
      exact ⟨_, op_repS, _, _, rfl, rfl, h.1, h.2.1, h.2.2, ks _ rfl⟩
    · cases e
  · split at e
    · rename_i h; cases e; cases rx_int R rx hx; cases rx_int R ry hy
      exact ⟨_, op_modN, _, _, rfl, rfl, h, ki _ rfl⟩
    · cases e
  · split at e
    · rename_i h; cases e; cases rx_int R rx hx; cases rx_int R ry hy
      exact ⟨_, op_fdivN, _, _, rfl, rfl, h, ki _ rfl⟩
    · cases e
  · split at e
    · rename_i h; cases e; cases rx_int R rx hx; cases rx_int R ry hy
      exact ⟨_, op_pow, _, _, rfl, rfl, h, ki _ rfl⟩
    · cases e
  · cases e
mutual
theorem rf_dp {φ : List Addr} {Z : Addr → Prop} {K : PySem.W.Frag} : ∀ {x : W} {v : V} {d : PyData}, RF K φ Z H x v → toD x = some d → Dp K H v d
  | _, _, _, .non, e => by cases e; exact .non
  | _, _, _, .bl b, e => by cases e; exact .bl b
  | _, _, _, .int b, e => by cases e; exact .int b
  | _, _, _, .str b, e => by cases e; exact .str b
  | _, _, _, .ty b, e => by cases e
  | _, _, _, .gl b, e => by cases e
  | _, _, _, .loc b, e => by cases e
  | _, _, _, .scr h r, e => by cases e
  | _, _, _, .tup h r, e => by
    unfold toD at e
    obtain ⟨ds, e1, e2⟩ := Option.map_eq_some_iff.mp e
    subst e2
    exact .tup h.sq (rfs_dp r e1)
  | _, _, _, .lst h n r, e => by
    unfold toD at e
    obtain ⟨ds, e1, e2⟩ := Option.map_eq_some_iff.mp e
    subst e2
    exact .lst (SqL.of h) (rfs_dp r e1)
  | _, _, _, .dct h n r, e => by cases e
theorem rfs_dp {φ : List Addr} {Z : Addr → Prop} {K : PySem.W.Frag} : ∀ {x : List W} {v : List V} {d : List PyData}, RFs K φ Z H x v → toDs x = some d → DpAll K H v d
  | _, _, _, .nil, e => by cases e; exact .nil
  | _, _, _, .cons (w := w) (ws := ws) a b, e => by
    unfold toDs at e
    cases e1 : toD w with
    | none => rw [e1] at e; cases e
    | some d =>
      cases e2 : toDs ws with
      | none => rw [e1, e2] at e; cases e
      | some ds =>
        rw [e1, e2] at e
        cases e
        exact .cons (rf_dp a e1) (rfs_dp b e2)
end
theorem rx_dp {d : PyData} (R : Rl X.K E σw S φ σ H) (r : RX X.K E σw φ σ H br x v) (e : toD (vw S x) = some d) : Dp X.K H v d := by
  by_cases hl : ∃ ws, vw S x = .lst ws
  · obtain ⟨ws, h⟩ := hl
    obtain ⟨a, vs, rfl, ha, r1⟩ := rx_lst R r h
    rw [h] at e
    unfold toD at e
    obtain ⟨ds, e1, e2⟩ := Option.map_eq_some_iff.mp e
    subst e2
    exact .lst (SqL.of ha) (rfs_dp r1 e1)
  · by_cases hd : ∃ ws, vw S x = .dct ws
    · obtain ⟨ws, h⟩ := hd
      rw [h] at e; cases e
    · exact rf_dp (rx_rf R r rfl (fun ws z => hl ⟨ws, z⟩) fun ws z => hd ⟨ws, z⟩) e
/-- == -/
theorem weq_ok {b : Bool} (hu : X.A.units + 64 < cLine) (R : Rl X.K E σw S φ σ H) (rx : RX X.K E σw φ σ H true x v) (ry : RX X.K E σw φ σ H true y u) (e : weq (vw S x) (vw S y) = some b) :
    (∃ r : R2, OpR X (compareOp .Eq) r ∧ ∀ Q : VK, Q (.bl b) H → r v u H Q) ∧ ∃ r : R2, OpR X (compareOp .NotEq) r ∧ ∀ Q : VK, Q (.bl (!b)) H → r v u H Q := by
  have deep : (match toD (vw S x), toD (vw S y) with
    | some d, some e => if SeqAt.shaped d = true ∧ SeqAt.shaped e = true then some (PyData.eqv d e) else none
    | _, _ => none) = some b → (∃ r : R2, OpR X (compareOp .Eq) r ∧ ∀ Q : VK, Q (.bl b) H → r v u H Q) ∧ ∃ r : R2, OpR X (compareOp .NotEq) r ∧ ∀ Q : VK, Q (.bl (!b)) H → r v u H Q := fun e => by
    split at e
    · rename_i d e' h1 h2
      split at e
      · rename_i h
        cases e
        exact ⟨⟨_, op_eqD hu, fun Q q => ⟨d, e', rx_dp R rx h1, rx_dp R ry h2, h.1, h.2, q⟩⟩, ⟨_, op_neD hu, fun Q q => ⟨d, e', rx_dp R rx h1, rx_dp R ry h2, h.1, h.2, q⟩⟩⟩
      · cases e
    · cases e
  have fin : scal v u = true → b = decide (v = u) → (∃ r : R2, OpR X (compareOp .Eq) r ∧ ∀ Q : VK, Q (.bl b) H → r v u H Q) ∧ ∃ r : R2, OpR X (compareOp .NotEq) r ∧ ∀ Q : VK, Q (.bl (!b)) H → r v u H Q := fun h1 h2 =>
    ⟨⟨_, op_eq, fun Q q => ⟨h1, by rw [← h2]; exact q⟩⟩, ⟨_, op_ne, fun Q q => ⟨h1, by rw [← h2]; exact q⟩⟩⟩
  unfold weq at e
  split at e
  · rename_i i j hx hy; cases e; cases rx_int R rx hx; cases rx_int R ry hy
    exact fin rfl (by simp)
  · rename_i i j hx hy; cases e; cases rx_str R rx hx; cases rx_str R ry hy
    exact fin rfl (by simp)
  · rename_i i j hx hy; cases e; cases rx_bl R rx hx; cases rx_bl R ry hy
    exact fin rfl (by simp)
  · rename_i i j hx hy; cases e; cases rx_int R rx hx; cases rx_str R ry hy
    exact fin rfl (by simp)
  · rename_i i j hx hy; cases e; cases rx_str R rx hx; cases rx_int R ry hy
    exact fin rfl (by simp)
  · exact deep e
def vflat : W → V
  | .bl b => .bl b
  | .int i => .int i
  | .str s => .str s
  | _ => .non
theorem flat_v {φ : List Addr} {Z : Addr → Prop} {K : PySem.W.Frag} (r : RF K φ Z H x v) (h : wflat x = true) : v = vflat x ∧ flatV v = true := by
  cases r <;> first | (cases h; done) | exact ⟨rfl, rfl⟩
theorem wfeq_v (hx : wflat x = true) (hy : wflat y = true) : wfeq x y = eqV (vflat x) (vflat y) := by
  cases x <;> cases y <;> first | rfl | (simp [wflat] at hx; done) | (simp [wflat] at hy; done)
theorem RFs.flat {φ : List Addr} {Z : Addr → Prop} {K : PySem.W.Frag} : ∀ {ws : List W} {vs : List V}, RFs K φ Z H ws vs → ws.all wflat = true → vs = ws.map vflat ∧ vs.all flatV = true
  | _, _, .nil, _ => ⟨rfl, rfl⟩
  | _, _, .cons a b, h => by
    rw [List.all_cons, Bool.and_eq_true] at h
    obtain ⟨e1, e2⟩ := flat_v a h.1
    obtain ⟨e3, e4⟩ := b.flat h.2
    exact ⟨by rw [List.map_cons, ← e1, ← e3], by rw [List.all_cons, e2, e4]; rfl⟩
theorem inV_w {ws : List W} (hx : wflat x = true) (h : ws.all wflat = true) : inV (vflat x) (ws.map vflat) = ws.any fun z => wfeq z x := by
  unfold inV
  rw [List.any_map]
  induction ws with
  | nil => rfl
  | cons z ws ih =>
    rw [List.all_cons, Bool.and_eq_true] at h
    rw [List.any_cons, List.any_cons, ih h.2, wfeq_v h.1 hx]
    rfl
theorem str1 {t : Str} (h : t.cps.size = 1) : t = ⟨#[t.cps.getD 0 0]⟩ := by
  obtain ⟨a⟩ := t
  simp only at h
  have : a = #[a.getD 0 0] := by
    apply Array.ext
    · simp [h]
    · intro i h1 h2
      have : i = 0 := by simp at h2; omega
      subst this
      simp [h]
  exact congrArg Str.mk this
theorem key_v {φ : List Addr} {Z : Addr → Prop} {K : PySem.W.Frag} {k : Key} (r : RF K φ Z H x v) (h : wkey x = some k) : v = kV k := by
  cases r <;> (unfold wkey at h; cases h) <;> rfl
theorem rx_key {k : Key} (R : Rl X.K E σw S φ σ H) (r : RX X.K E σw φ σ H br x v) (h : wkey (vw S x) = some k) : v = kV k := by
  generalize hx : vw S x = a at h
  cases a with
  | int i => cases h; exact rx_int R r hx
  | str i => cases h; exact rx_str R r hx
  | _ => cases h
theorem opr_din (hu : X.A.units + 1 < cLine) : OpR X (compareOp .In) (fun y x H Q => ∃ a o, x = .ref a ∧ DGet H a y o ∧ Q (.bl o.isSome) H) := by
  intro pins s σ H x y v u Q I rx ry h
  obtain ⟨a, o, rfl, g, q⟩ := h
  obtain rfl : u = Value.ref a := ry
  exact d_in hu I g rx fun s3 I3 => ⟨.bl o.isSome, H, I3, rfl, q⟩
theorem opr_dnotin (hu : X.A.units + 1 < cLine) : OpR X (compareOp .NotIn) (fun y x H Q => ∃ a o, x = .ref a ∧ DGet H a y o ∧ Q (.bl (!o.isSome)) H) := by
  intro pins s σ H x y v u Q I rx ry h
  obtain ⟨a, o, rfl, g, q⟩ := h
  obtain rfl : u = Value.ref a := ry
  exact d_notIn hu I g rx fun s3 I3 => ⟨.bl (!o.isSome), H, I3, rfl, q⟩
def rInDD (K : PySem.W.Frag) (nt : Bool) : R2 := fun x y H Q => ∃ d ds, Dp K H x d ∧ (Dp K H y (.list ds) ∨ Dp K H y (.tuple ds)) ∧ d.canLay0 = true ∧ PyData.canLayAll0 ds = true ∧ d.depth ≤ 10 ∧ Q (.bl (nt != ds.any fun z => PyData.eqv z d)) H
theorem op_inDD (hu : X.A.units + 64 < cLine) : OpR X (compareOp .In) (rInDD X.K false) := by
  intro pins s σ H x y v u Q I rx ry h
  obtain ⟨d, ds, hd, he, sd, se, hl, q⟩ := h
  obtain ⟨as, r1⟩ := Dp.reads I d x v hd rx
  have q : Q (.bl (ds.any fun z => PyData.eqv z d)) H := by simpa using q
  rcases he with he | he
  · obtain ⟨bs, r2⟩ := Dp.reads I (.list ds) y u he ry
    exact SeqAt.in_list_reads r2 r1 se sd (by omega) ⟨.bl _, H, I, rfl, q⟩
  · obtain ⟨bs, r2⟩ := Dp.reads I (.tuple ds) y u he ry
    exact SeqAt.in_tuple_reads r2 r1 se sd (by omega) ⟨.bl _, H, I, rfl, q⟩
theorem op_notInDD (hu : X.A.units + 64 < cLine) : OpR X (compareOp .NotIn) (rInDD X.K true) := by
  intro pins s σ H x y v u Q I rx ry h
  obtain ⟨d, ds, hd, he, sd, se, hl, q⟩ := h
  obtain ⟨as, r1⟩ := Dp.reads I d x v hd rx
  have q : Q (.bl (!ds.any fun z => PyData.eqv z d)) H := by simpa using q
  rcases he with he | he
  · obtain ⟨bs, r2⟩ := Dp.reads I (.list ds) y u he ry
    exact SeqAt.notIn_list_reads r2 r1 se sd (by omega) ⟨.bl _, H, I, rfl, q⟩
  · obtain ⟨bs, r2⟩ := Dp.reads I (.tuple ds) y u he ry
    exact SeqAt.notIn_tuple_reads r2 r1 se sd (by omega) ⟨.bl _, H, I, rfl, q⟩
theorem wdeep_ok {b : Bool} (hu : X.A.units + 64 < cLine) (R : Rl X.K E σw S φ σ H) (rx : RX X.K E σw φ σ H true x v) (ry : RX X.K E σw φ σ H true y u) (e : wdeep (vw S x) (vw S y) = some b) :
    (∃ r : R2, OpR X (compareOp .In) r ∧ ∀ Q : VK, Q (.bl b) H → r v u H Q) ∧ ∃ r : R2, OpR X (compareOp .NotIn) r ∧ ∀ Q : VK, Q (.bl (!b)) H → r v u H Q := by
  unfold wdeep at e
  split at e
  · rename_i d ds h1 h2
    split at e
    · rename_i h
      cases e
      exact ⟨⟨_, op_inDD hu, fun Q q => ⟨d, ds, rx_dp R rx h1, .inl (rx_dp R ry h2), SeqAt.canLay_of_shaped h.1, SeqAt.canLay_of_shaped h.2.1, h.2.2, by simpa using q⟩⟩, ⟨_, op_notInDD hu, fun Q q => ⟨d, ds, rx_dp R rx h1, .inl (rx_dp R ry h2), SeqAt.canLay_of_shaped h.1, SeqAt.canLay_of_shaped h.2.1, h.2.2, by simpa using q⟩⟩⟩
    · cases e
  · rename_i d ds h1 h2
    split at e
    · rename_i h
      cases e
      exact ⟨⟨_, op_inDD hu, fun Q q => ⟨d, ds, rx_dp R rx h1, .inr (rx_dp R ry h2), SeqAt.canLay_of_shaped h.1, SeqAt.canLay_of_shaped h.2.1, h.2.2, by simpa using q⟩⟩, ⟨_, op_notInDD hu, fun Q q => ⟨d, ds, rx_dp R rx h1, .inr (rx_dp R ry h2), SeqAt.canLay_of_shaped h.1, SeqAt.canLay_of_shaped h.2.1, h.2.2, by simpa using q⟩⟩⟩
    · cases e
  · cases e
theorem wmem_ok {b : Bool} (hu : X.A.units + 64 < cLine) (R : Rl X.K E σw S φ σ H) (rx : RX X.K E σw φ σ H true x v) (ry : RX X.K E σw φ σ H true y u) (e : wmem (vw S x) (vw S y) = some b) :
    (∃ r : R2, OpR X (compareOp .In) r ∧ ∀ Q : VK, Q (.bl b) H → r v u H Q) ∧ ∃ r : R2, OpR X (compareOp .NotIn) r ∧ ∀ Q : VK, Q (.bl (!b)) H → r v u H Q := by
  have flat1 : wflat (vw S x) = true → v = vflat (vw S x) ∧ flatV v = true := fun h => flat_v (rx_rf R rx rfl (fun ws z => by rw [z] at h; cases h) fun ws z => by rw [z] at h; cases h) h
  unfold wmem at e
  split at e
  · rename_i ws hy
    split at e
    · rename_i h
      cases e
      obtain ⟨a, vs, rfl, ha, r⟩ := rx_lst R ry hy
      obtain ⟨f1, f2⟩ := flat1 h.1
      obtain ⟨f3, f4⟩ := r.flat h.2
      have ei := inV_w h.1 h.2
      rw [← f1, ← f3] at ei
      exact ⟨⟨_, op_in_seq, fun Q q => ⟨a, vs, rfl, .inl (SqL.of ha), f2, f4, by rw [ei]; exact q⟩⟩, ⟨_, op_notIn_seq, fun Q q => ⟨a, vs, rfl, .inl (SqL.of ha), f2, f4, by rw [ei]; exact q⟩⟩⟩
    · rw [← hy] at e
      exact wdeep_ok hu R rx ry e
  · rename_i ws hy
    split at e
    · rename_i h
      cases e
      obtain ⟨a, vs, rfl, ha, r⟩ := rx_tup R ry hy
      obtain ⟨f1, f2⟩ := flat1 h.1
      obtain ⟨f3, f4⟩ := r.flat h.2
      have ei := inV_w h.1 h.2
      rw [← f1, ← f3] at ei
      exact ⟨⟨_, op_in_seq, fun Q q => ⟨a, vs, rfl, .inr ha.sq, f2, f4, by rw [ei]; exact q⟩⟩, ⟨_, op_notIn_seq, fun Q q => ⟨a, vs, rfl, .inr ha.sq, f2, f4, by rw [ei]; exact q⟩⟩⟩
    · rw [← hy] at e
      exact wdeep_ok hu R rx ry e
  · rename_i kws hy
    obtain ⟨k, e1, e2⟩ := Option.map_eq_some_iff.mp e
    subst e2
    obtain ⟨a, vs, rfl, ha, r⟩ := rx_dct R ry hy
    cases rx_key R rx e1
    have es : (valV vs k).isSome = (dval kws k).isSome := by
      rcases r.val k with ⟨z1, z2⟩ | ⟨w, v, z1, z2, _⟩ <;> rw [z1, z2] <;> rfl
    exact ⟨⟨_, opr_din (by omega), fun Q q => ⟨a, valV vs k, rfl, DGet.k ha, by rw [es]; exact q⟩⟩, ⟨_, opr_dnotin (by omega), fun Q q => ⟨a, valV vs k, rfl, DGet.k ha, by rw [es]; exact q⟩⟩⟩
  · rename_i s hy
    split at e
    · rename_i t hx
      split at e
      · rename_i h
        cases e
        cases rx_str R rx hx; cases rx_str R ry hy
        have e1 := str1 h
        exact ⟨⟨_, op_in_sign, fun Q q => ⟨_, s, congrArg V.str e1, rfl, q⟩⟩, ⟨_, op_notIn_sign, fun Q q => ⟨_, s, congrArg V.str e1, rfl, q⟩⟩⟩
      · cases e
    · cases e
  · cases e
theorem is_non (R : Rl X.K E σw S φ σ H) (r : RX X.K E σw φ σ H br x v) : decide (v = .non) = (match vw S x with | .non => true | _ => false) := by
  by_cases hl : ∃ ws, vw S x = .lst ws
  · obtain ⟨ws, h⟩ := hl
    obtain ⟨a, vs, rfl, _⟩ := rx_lst R r h
    rw [h]; rfl
  · by_cases hd : ∃ ws, vw S x = .dct ws
    · obtain ⟨ws, h⟩ := hd
      obtain ⟨a, vs, rfl, _⟩ := rx_dct R r h
      rw [h]; rfl
    · have r := rx_rf R r rfl (fun ws z => hl ⟨ws, z⟩) fun ws z => hd ⟨ws, z⟩
      generalize vw S x = y at r
      cases r <;> rfl
theorem is_non' (R : Rl X.K E σw S φ σ H) (r : RX X.K E σw φ σ H br x v) : (!decide (v = .non)) = (match vw S x with | .non => false | _ => true) := by
  rw [is_non R r]
  generalize vw S x = y
  cases y <;> rfl
theorem wcmp_ok {op : CmpOp} {b : Bool} (hu : X.A.units + 64 < cLine) (R : Rl X.K E σw S φ σ H) (rx : RX X.K E σw φ σ H true x v) (ry : RX X.K E σw φ σ H true y u) (e : wcmp op (vw S x) (vw S y) = some b) (q : Q (.bl b) H) :
    ∃ r : R2, OpR X (compareOp op) r ∧ r v u H Q := by
  generalize hx : vw S x = a at e
  generalize hy : vw S y = c at e
  unfold wcmp at e
  split at e
  · subst hx hy
    obtain ⟨⟨r, h1, h2⟩, _⟩ := weq_ok hu R rx ry e
    exact ⟨r, h1, h2 Q q⟩
  · subst hx hy
    obtain ⟨d, e1, e2⟩ := Option.map_eq_some_iff.mp e
    subst e2
    obtain ⟨_, ⟨r, h1, h2⟩⟩ := weq_ok hu R rx ry e1
    exact ⟨r, h1, h2 Q q⟩
  · cases e; cases rx_int R rx hx; cases rx_int R ry hy; exact ⟨_, op_lt, _, _, rfl, rfl, q⟩
  · cases e; cases rx_int R rx hx; cases rx_int R ry hy; exact ⟨_, op_le, _, _, rfl, rfl, q⟩
  · cases e; cases rx_int R rx hx; cases rx_int R ry hy; exact ⟨_, op_gt, _, _, rfl, rfl, q⟩
  · cases e; cases rx_int R rx hx; cases rx_int R ry hy; exact ⟨_, op_ge, _, _, rfl, rfl, q⟩
  · cases e; cases rx_str R rx hx; cases rx_str R ry hy; exact ⟨_, op_lt_str, _, _, rfl, rfl, q⟩
  · cases rx_non R ry hy
    subst hx
    have e' := Option.some.inj e
    subst e'
    exact ⟨_, op_isN, rfl, by rw [is_non R rx]; exact q⟩
  · cases rx_non R ry hy
    subst hx
    have e' := Option.some.inj e
    subst e'
    exact ⟨_, op_notN, rfl, by rw [is_non' R rx]; exact q⟩
  · subst hx hy
    obtain ⟨⟨r, h1, h2⟩, _⟩ := wmem_ok hu R rx ry e
    exact ⟨r, h1, h2 Q q⟩
  · subst hx hy
    obtain ⟨d, e1, e2⟩ := Option.map_eq_some_iff.mp e
    subst e2
    obtain ⟨_, ⟨r, h1, h2⟩⟩ := wmem_ok hu R rx ry e1
    exact ⟨r, h1, h2 Q q⟩
  · cases e
theorem wtru_ok {b : Bool} (R : Rl X.K E σw S φ σ H) (rx : RX X.K E σw φ σ H true x v) (e : wtru (vw S x) = some b) : TruV X.K v H b := by
  generalize hx : vw S x = a at e
  unfold wtru at e
  split at e
  · cases e; cases rx_non R rx hx; rfl
  · cases e; cases rx_bl R rx hx; rfl
  · cases e; cases rx_int R rx hx; rfl
  · split at e
    · rename_i h; cases e; cases rx_str R rx hx; exact ⟨h, rfl⟩
    · cases e
  · cases e
    obtain ⟨a, vs, rfl, ha, r⟩ := rx_lst R rx hx
    exact .inl ⟨vs, SqL.of ha, by rw [r.isEmpty]⟩
  · cases e
    obtain ⟨a, vs, rfl, ha, r⟩ := rx_tup R rx hx
    exact .inr (.inl ⟨vs, ha.sq, by rw [r.isEmpty]⟩)
  · cases e
    obtain ⟨a, vs, rfl, ha, r⟩ := rx_dct R rx hx
    exact .inr (.inr ⟨vs, ha, by rw [r.isEmpty]⟩)
  · cases e
/-! ### the script, too -/
theorem rz_lst {ws : List W} (R : Rl X.K E σw S φ σ H) (r : RX X.K E σw φ σ H br x v) (e : vwz S x = .lst ws) : ∃ a vs, v = .ref a ∧ SqL X.K H a vs ∧ RFs X.K φ (ZZ E σw φ σ) H ws vs := by
  cases x with
  | loc n =>
    simp only [vwz] at e
    split at e
    · rename_i xs hs
      obtain ⟨a, vs, h1, h2, h3⟩ := rx_lst (ws := ws) R r (by simp only [vw, hs]; exact e)
      exact ⟨a, vs, h1, SqL.of h2, h3⟩
    · cases e
    · rename_i xs hs
      cases e
      rcases rx_cases R r with r | ⟨a, rfl, h⟩
      · cases r with
        | loc h =>
          obtain ⟨o, vs, h1, r⟩ := R.st.ob n _ _ hs h
          exact ⟨_, vs, rfl, .inl (.inr ⟨o, h1⟩), r⟩
      · rcases h with ⟨ws', vs, z, _⟩ | ⟨ws', vs, z, _⟩ <;> cases z
    · cases e
  | scr xs =>
    cases e
    rcases rx_cases R r with r | ⟨a, rfl, h⟩
    · cases r with
      | scr h r' => exact ⟨_, _, rfl, h.sql, r'⟩
    · rcases h with ⟨ws', vs, z, _⟩ | ⟨ws', vs, z, _⟩ <;> cases z
  | _ =>
    obtain ⟨a, vs, h1, h2, h3⟩ := rx_lst R r e
    exact ⟨a, vs, h1, SqL.of h2, h3⟩
theorem vwz_vw (h : ∀ ws, vwz S x ≠ .lst ws) : vw S x = vwz S x := by
  cases x with
  | loc n =>
    simp only [vwz] at h
    simp only [vw, vwz]
    split at h
    · exact absurd rfl (h _)
    · rename_i hs; simp [hs]
    · exact absurd rfl (h _)
    · rename_i h1 h2 h3
      split <;> first | (exfalso; exact h1 _ (by assumption)) | (exfalso; exact h2 _ (by assumption)) | (exfalso; exact h3 _ (by assumption)) | rfl
  | scr xs => exact absurd rfl (h _)
  | _ => rfl
/-- x[i] -/
theorem wix_ok (R : Rl X.K E σw S φ σ H) (rx : RX X.K E σw φ σ H true x v) (ry : RX X.K E σw φ σ H true y u) (hd : ∀ kws, vwz S x ≠ .dct kws) (e : wix (vwz S x) y = some w) (k : ∀ z, RF X.K φ (ZZ E σw φ σ) H w z → Q z H) :
    ∃ r : R2, IxR X r ∧ r v u H Q := by
  generalize hx : vwz S x = a at e
  unfold wix at e
  split at e
  · obtain ⟨a, vs, rfl, ha, r⟩ := rz_lst R rx hx
    cases rx_int R ry rfl
    obtain ⟨z, e1, r1⟩ := r.atI e
    exact ⟨_, ix_list, a, vs, _, z, rfl, rfl, ha, e1, k z r1⟩
  · rw [← vwz_vw (by rw [hx]; intro ws z; cases z)] at hx
    obtain ⟨a, vs, rfl, ha, r⟩ := rx_tup R rx hx
    cases rx_int R ry rfl
    obtain ⟨z, e1, r1⟩ := r.atI e
    exact ⟨_, ix_tup, a, vs, _, z, rfl, rfl, ha.sq, e1, k z r1⟩
  · rw [← vwz_vw (by rw [hx]; intro ws z; cases z)] at hx
    split at e
    · rename_i h
      obtain ⟨c, e1, e2⟩ := Option.map_eq_some_iff.mp e
      subst e2
      cases rx_str R rx hx
      cases rx_int R ry rfl
      exact ⟨_, ix_str, _, _, c, rfl, rfl, h, e1, k _ (.str _)⟩
    · cases e
  · exact absurd hx (hd _)
  · cases e
/-- x[lo:hi] -/
theorem wsl_ok {lo hi : Option Int} (R : Rl X.K E σw S φ σ H) (rx : RX X.K E σw φ σ H true x v) (e : wsl (vw S x) lo hi = some w) (k : ∀ H' z, Same H H' → New X.K E σw S φ σ H H' w z → Q z H') :
    ∃ r, SlR X r ∧ r v lo hi H Q := by
  generalize hx : vw S x = a at e
  unfold wsl at e
  split at e
  · cases e
    obtain ⟨a, vs, rfl, ha, r⟩ := rx_lst R rx hx
    exact ⟨_, sl_list, a, vs, rfl, SqL.of ha, fun p hp => k _ _ (same_new hp) (new_lst R hp (r.cut _ _))⟩
  · cases e
    obtain ⟨a, vs, rfl, ha, r⟩ := rx_tup R rx hx
    refine ⟨_, sl_tupA, a, vs, rfl, ha.sq, fun z => ?_, fun _ p hp => k _ _ (same_new hp) (new_tup R hp (r.cut _ _))⟩
    refine k _ _ (Same.refl H) ⟨R, .tup ha ?_⟩
    have e1 : ∀ ws : List W, ws.length = vs.length → wcut ws lo hi = ws := fun ws h => by
      unfold wcut
      rw [h, z.1, z.2]
      simp [← h]
    rw [e1 _ r.len]
    exact r
  · split at e
    · rename_i h; cases e; cases rx_str R rx hx
      exact ⟨_, sl_str, _, rfl, h, k _ _ (Same.refl H) ⟨R, .str _⟩⟩
    · cases e
  · cases e
theorem wun_ok {op : UnaryOp} (R : Rl X.K E σw S φ σ H) (rx : RX X.K E σw φ σ H true x v) (e : wun op x = some w) (k : RF X.K φ (ZZ E σw φ σ) H w w' → True) (q : ∀ z, RF X.K φ (ZZ E σw φ σ) H w z → Q z H) : ∃ r, UnR X (unaryOp op) r ∧ r v H Q := by
  unfold wun at e
  split at e
  · cases e; cases rx_int R rx rfl
    exact ⟨_, un_neg, _, rfl, q _ (.int _)⟩
  · cases e
end
end EV

namespace EV
open PySem PySem.Spec PyProof.Rows L2
/-! ### sum of a tuple -/
def rSumT (K : PySem.W.Frag) : List V → Hp → VK → Prop := fun vs H Q => ∃ (a : Addr) (ns : List Int), vs = [V.ref a] ∧ SqT K H a (ns.map V.int) ∧ Q (.int ns.sum) H
theorem cr_sumT {X : Cx} (hc : X.calm = true) : CallR X (.builtin "sum") (rSumT X.K) := by
  intro pins s σ H vs us Q I r h
  obtain ⟨a, ns, rfl, hs, q⟩ := h
  obtain ⟨its, rv, hl, _⟩ := I.tuple hs
  rw [Vals.ref1 r]
  obtain ⟨xs, hx⟩ := rv.ints.allInts.items
  have hn : numsOf its.toArray.toList = ns := by rw [show its.toArray.toList = its from rfl, rv.ints.numsOf]
  rw [hx] at hl hn
  rw [nums_intItems] at hn
  refine PySem.W.ktm_sumG (I.ok.hd hc) hl fun h' tk t' hk => ?_
  rw [preSum_eq, List.take_of_length_le (by simp), hn]
  exact ⟨.int _, H, I.kept hk, ⟨_, rfl⟩, q⟩
/-! ### built-in functions and methods -/
def bfV : Bf → Value
  | .len => .builtin "len"
  | .int => .type "int"
  | .bool => .type "bool"
  | .str => .type "str"
  | .abs => .builtin "abs"
  | .min => .builtin "min"
  | .max => .builtin "max"
  | .sum => .builtin "sum"
  | .tuple => .type "tuple"
  | .list => .type "list"
  | .isinstance => .builtin "isinstance"
  | .all => .builtin "all"
  | .any => .builtin "any"
  | .sorted => .builtin "sorted"
  | .none => .none
section
variable {X : Cx} {E : Ent} {σw : Sls} {S : Sto} {φ : List Addr} {σ : L2.St} {H : Hp} {br : Bool} {x y w : W} {v u : V} {Q : VK}
theorem rxs_one {f : W → W} {ws : List W} {vs : List V} {a : W} (r : RXs X.K E σw φ σ H br ws vs) (e : ws.map f = [a]) : ∃ x v, vs = [v] ∧ f x = a ∧ RX X.K E σw φ σ H br x v := by
  cases r with
  | nil => cases e
  | cons r1 r2 =>
    cases r2 with
    | nil => simp at e; exact ⟨_, _, rfl, e, r1⟩
    | cons _ _ => simp at e
theorem rxs_two {f : W → W} {ws : List W} {vs : List V} {a b : W} (r : RXs X.K E σw φ σ H br ws vs) (e : ws.map f = [a, b]) : ∃ x y v u, vs = [v, u] ∧ f x = a ∧ f y = b ∧ RX X.K E σw φ σ H br x v ∧ RX X.K E σw φ σ H br y u := by
  cases r with
  | nil => cases e
  | cons r1 r2 =>
    simp only [List.map_cons, List.cons.injEq] at e
    obtain ⟨x, v, h1, h2, h3⟩ := rxs_one r2 e.2
    subst h1
    exact ⟨_, _, _, _, rfl, e.1, h2, r1, h3⟩
theorem vz_int {i : Int} (R : Rl X.K E σw S φ σ H) (r : RX X.K E σw φ σ H br x v) (e : vwz S x = .int i) : v = .int i :=
  rx_int R r ((vwz_vw (by rw [e]; intro ws z; cases z)).trans e)
theorem vz_bl {i : Bool} (R : Rl X.K E σw S φ σ H) (r : RX X.K E σw φ σ H br x v) (e : vwz S x = .bl i) : v = .bl i :=
  rx_bl R r ((vwz_vw (by rw [e]; intro ws z; cases z)).trans e)
theorem vz_str {i : Str} (R : Rl X.K E σw S φ σ H) (r : RX X.K E σw φ σ H br x v) (e : vwz S x = .str i) : v = .str i :=
  rx_str R r ((vwz_vw (by rw [e]; intro ws z; cases z)).trans e)
theorem vz_ty {i : String} (R : Rl X.K E σw S φ σ H) (r : RX X.K E σw φ σ H br x v) (e : vwz S x = .ty i) : v = .ty i :=
  rx_ty R r ((vwz_vw (by rw [e]; intro ws z; cases z)).trans e)
theorem vz_non (R : Rl X.K E σw S φ σ H) (r : RX X.K E σw φ σ H br x v) (e : vwz S x = .non) : v = .non :=
  rx_non R r ((vwz_vw (by rw [e]; intro ws z; cases z)).trans e)
theorem vz_tup {ws : List W} (R : Rl X.K E σw S φ σ H) (r : RX X.K E σw φ σ H br x v) (e : vwz S x = .tup ws) : ∃ a vs, v = .ref a ∧ TupAt X.K (ZZ E σw φ σ) H a vs ∧ RFs X.K φ (ZZ E σw φ σ) H ws vs :=
  rx_tup R r ((vwz_vw (by rw [e]; intro ws z; cases z)).trans e)
theorem vz_dct {ws : List (Key × W)} (R : Rl X.K E σw S φ σ H) (r : RX X.K E σw φ σ H br x v) (e : vwz S x = .dct ws) : ∃ a vs, v = .ref a ∧ H a = some (.dK vs) ∧ RKs X.K φ (ZZ E σw φ σ) H ws vs :=
  rx_dct R r ((vwz_vw (by rw [e]; intro ws z; cases z)).trans e)
theorem RFs.ints {φ : List Addr} {Z : Addr → Prop} {K : PySem.W.Frag} : ∀ {ws : List W} {vs : List V} {ns : List Int}, RFs K φ Z H ws vs → wints ws = some ns → vs = ns.map V.int
  | _, _, _, .nil, e => by cases e; rfl
  | _, _, _, .cons (w := w) (ws := ws) a b, e => by
    cases a with
    | int i =>
      unfold wints at e
      obtain ⟨ms, e1, e2⟩ := Option.map_eq_some_iff.mp e
      subst e2
      rw [b.ints e1]; rfl
    | _ => cases e
theorem RFs.bls {φ : List Addr} {Z : Addr → Prop} {K : PySem.W.Frag} : ∀ {ws : List W} {vs : List V} {ns : List Bool}, RFs K φ Z H ws vs → wbls ws = some ns → vs = ns.map V.bl
  | _, _, _, .nil, e => by cases e; rfl
  | _, _, _, .cons (w := w) (ws := ws) a b, e => by
    cases a with
    | bl i =>
      unfold wbls at e
      obtain ⟨ms, e1, e2⟩ := Option.map_eq_some_iff.mp e
      subst e2
      rw [b.bls e1]; rfl
    | _ => cases e
theorem RFs.strs {φ : List Addr} {Z : Addr → Prop} {K : PySem.W.Frag} : ∀ {ws : List W} {vs : List V} {ns : List Str}, RFs K φ Z H ws vs → wrd.wstrs ws = some ns → vs = ns.map V.str
  | _, _, _, .nil, e => by cases e; rfl
  | _, _, _, .cons (w := w) (ws := ws) a b, e => by
    cases a with
    | str i =>
      unfold wrd.wstrs at e
      obtain ⟨ms, e1, e2⟩ := Option.map_eq_some_iff.mp e
      subst e2
      rw [b.strs e1]; rfl
    | _ => cases e
theorem imin_ok : ∀ (r : List Int) (i m : Int), m ∈ i :: r → (∀ y ∈ i :: r, m ≤ y) → m = r.foldl min i
  | [], i, m, h, _ => by simpa using h
  | j :: r, i, m, h, l => by
    rw [List.foldl_cons]
    refine imin_ok r (min i j) m ?_ fun y hy => ?_
    · have h1 := l i (by simp)
      have h2 := l j (by simp)
      rcases List.mem_cons.mp h with rfl | h
      · have : min m j = m := by omega
        rw [this]; exact List.mem_cons_self ..
      · rcases List.mem_cons.mp h with rfl | h
        · have : min i m = m := by omega
          rw [this]; exact List.mem_cons_self ..
        · exact List.mem_cons_of_mem _ h
    · rcases List.mem_cons.mp hy with rfl | hy
      · have h1 := l i (by simp)
        have h2 := l j (by simp)
        omega
      · exact l y (by simp [hy])
theorem imax_ok : ∀ (r : List Int) (i m : Int), m ∈ i :: r → (∀ y ∈ i :: r, y ≤ m) → m = r.foldl max i
  | [], i, m, h, _ => by simpa using h
  | j :: r, i, m, h, l => by
    rw [List.foldl_cons]
    refine imax_ok r (max i j) m ?_ fun y hy => ?_
    · have h1 := l i (by simp)
      have h2 := l j (by simp)
      rcases List.mem_cons.mp h with rfl | h
      · have : max m j = m := by omega
        rw [this]; exact List.mem_cons_self ..
      · rcases List.mem_cons.mp h with rfl | h
        · have : max i m = m := by omega
          rw [this]; exact List.mem_cons_self ..
        · exact List.mem_cons_of_mem _ h
    · rcases List.mem_cons.mp hy with rfl | hy
      · have h1 := l i (by simp)
        have h2 := l j (by simp)
        omega
      · exact l y (by simp [hy])
theorem tyx_t {K : PySem.W.Frag} {a : Addr} {xs : List V} (h : SqT K H a xs) : TyX K H (.ref a) (.type "tuple") := by
  rcases h with (h | ⟨o, h⟩) | ⟨o, its, n, h, c, _⟩
  · exact .base (.tup h)
  · exact .fTuple h
  · exact .kTuple h c
theorem tyx_l {K : PySem.W.Frag} {a : Addr} {xs : List V} (h : SqL K H a xs) : TyX K H (.ref a) (.type "list") := by
  rcases h with (h | ⟨o, h⟩) | ⟨o, its, n, h, c, _⟩
  · exact .base (.lst h)
  · exact .base (.frz h)
  · exact .kList h c
theorem isi_k {t : String} {n : String} {b : Bool} (ty : TyX X.K H v (.type t)) (e : PySem.W.kitOne X.K (.type t) (.type n) = some b) (q : Q (.bl b) H) : ∃ r, CallR X (.builtin "isinstance") r ∧ r [v, .ty n] H Q :=
  ⟨_, call_isi, v, .ty n, _, .type n, b, rfl, .ty n, ty, e, q⟩
theorem wisi_ok {n : String} {b : Bool} (R : Rl X.K E σw S φ σ H) (r : RX X.K E σw φ σ H true x v) (e : wisi (vwz S x) n = some b) (q : Q (.bl b) H) : ∃ r, CallR X (.builtin "isinstance") r ∧ r [v, .ty n] H Q := by
  generalize hx : vwz S x = a at e
  unfold wisi at e
  split at e
  · cases vz_non R r hx
    split at e
    · rename_i h
      cases e
      rcases h with rfl | rfl | rfl | rfl | rfl <;> exact isi_k (.base .non) (kit_ty (by decide +kernel)) q
    · cases e
  · cases vz_bl R r hx
    split at e
    · rename_i h
      cases e
      rcases h with rfl | rfl <;> exact isi_k (.base (.bl _)) (kit_ty (by decide +kernel)) q
    · split at e
      · rename_i h
        cases e
        rcases h with rfl | rfl | rfl <;> exact isi_k (.base (.bl _)) (kit_ty (by decide +kernel)) q
      · cases e
  · cases vz_int R r hx
    split at e
    · rename_i h
      cases e
      subst h
      exact isi_k (.base (.int _)) (kit_ty (by decide +kernel)) q
    · split at e
      · rename_i h
        cases e
        rcases h with rfl | rfl | rfl | rfl <;> exact isi_k (.base (.int _)) (kit_ty (by decide +kernel)) q
      · cases e
  · cases vz_str R r hx
    split at e
    · rename_i h
      cases e
      subst h
      exact isi_k (.base (.str _)) (kit_ty (by decide +kernel)) q
    · split at e
      · rename_i h
        cases e
        rcases h with rfl | rfl | rfl | rfl <;> exact isi_k (.base (.str _)) (kit_ty (by decide +kernel)) q
      · cases e
  · obtain ⟨a, vs, rfl, ha, _⟩ := vz_tup R r hx
    split at e
    · rename_i h
      cases e
      subst h
      exact isi_k (tyx_t ha.sq) (kit_ty (by decide +kernel)) q
    · split at e
      · rename_i h
        cases e
        rcases h with rfl | rfl | rfl | rfl <;> exact isi_k (tyx_t ha.sq) (kit_ty (by decide +kernel)) q
      · cases e
  · obtain ⟨a, vs, rfl, ha, _⟩ := rz_lst R r hx
    split at e
    · rename_i h
      cases e
      subst h
      exact isi_k (tyx_l ha) (kit_ty (by decide +kernel)) q
    · split at e
      · rename_i h
        cases e
        rcases h with rfl | rfl | rfl | rfl <;> exact isi_k (tyx_l ha) (kit_ty (by decide +kernel)) q
      · cases e
  · cases e
theorem wblt_ok {f : Bf} {ws : List W} {vs : List V} (hc : X.calm = true) (R : Rl X.K E σw S φ σ H) (r : RXs X.K E σw φ σ H true ws vs) (e : wblt f (ws.map (vwz S)) = some w)
    (k : ∀ H' z, Same H H' → New X.K E σw S φ σ H H' w z → Q z H') : ∃ r, CallR X (bfV f) r ∧ r vs H Q := by
  have ki : ∀ i, w = .int i → Q (.int i) H := fun i q => by subst q; exact k _ _ (Same.refl H) ⟨R, .int i⟩
  have ks : ∀ i, w = .str i → Q (.str i) H := fun i q => by subst q; exact k _ _ (Same.refl H) ⟨R, .str i⟩
  have kb : ∀ i, w = .bl i → Q (.bl i) H := fun i q => by subst q; exact k _ _ (Same.refl H) ⟨R, .bl i⟩
  generalize hm : ws.map (vwz S) = l at e
  unfold wblt at e
  split at e
  · obtain ⟨x, v, rfl, h1, h2⟩ := rxs_one r hm
    obtain ⟨a, us, rfl, ha, r1⟩ := rz_lst R h2 h1
    cases e
    exact ⟨_, call_len_seq, a, us, rfl, .inl ha, by rw [← r1.len]; exact ki _ rfl⟩
  · obtain ⟨x, v, rfl, h1, h2⟩ := rxs_one r hm
    obtain ⟨a, us, rfl, ha, r1⟩ := vz_tup R h2 h1
    cases e
    exact ⟨_, call_len_seq, a, us, rfl, .inr ha.sq, by rw [← r1.len]; exact ki _ rfl⟩
  · split at e
    · rename_i h
      obtain ⟨x, v, rfl, h1, h2⟩ := rxs_one r hm
      cases vz_str R h2 h1
      cases e
      exact ⟨_, call_len_str, _, rfl, h, ki _ rfl⟩
    · cases e
  · obtain ⟨x, v, rfl, h1, h2⟩ := rxs_one r hm
    obtain ⟨a, us, rfl, ha, r1⟩ := vz_dct R h2 h1
    cases e
    exact ⟨_, call_lenD, a, us, rfl, ha, by rw [← r1.len]; exact ki _ rfl⟩
  · obtain ⟨x, v, rfl, h1, h2⟩ := rxs_one r hm
    cases vz_int R h2 h1
    cases e
    exact ⟨_, call_int1, .inl ⟨_, rfl, ki _ rfl⟩⟩
  · obtain ⟨x, v, rfl, h1, h2⟩ := rxs_one r hm
    cases vz_bl R h2 h1
    cases e
    exact ⟨_, call_int1, .inr ⟨_, rfl, ki _ rfl⟩⟩
  · split at e
    · rename_i h
      obtain ⟨x, v, rfl, h1, h2⟩ := rxs_one r hm
      cases vz_str R h2 h1
      obtain ⟨n, hn, e⟩ := Option.map_eq_some_iff.mp e
      cases e
      exact ⟨_, call_int_str, _, _, rfl, hn, h, ki _ rfl⟩
    · cases e
  · obtain ⟨x, v, rfl, h1, h2⟩ := rxs_one r hm
    cases vz_int R h2 h1
    cases e
    exact ⟨_, call_bool1, .inl ⟨_, rfl, kb _ rfl⟩⟩
  · obtain ⟨x, v, rfl, h1, h2⟩ := rxs_one r hm
    cases vz_bl R h2 h1
    cases e
    exact ⟨_, call_bool1, .inr ⟨_, rfl, kb _ rfl⟩⟩
  · split at e
    · rename_i h
      obtain ⟨x, v, rfl, h1, h2⟩ := rxs_one r hm
      cases vz_int R h2 h1
      cases e
      exact ⟨_, call_str_int, _, rfl, h, ks _ rfl⟩
    · cases e
  · obtain ⟨x, v, rfl, h1, h2⟩ := rxs_one r hm
    cases vz_str R h2 h1
    cases e
    exact ⟨_, SkE.call_str_str, _, rfl, ks _ rfl⟩
  · obtain ⟨x, v, rfl, h1, h2⟩ := rxs_one r hm
    cases vz_int R h2 h1
    cases e
    exact ⟨_, call_abs, _, rfl, ki _ rfl⟩
  · obtain ⟨x, y, v, u, rfl, h1, h3, h2, h4⟩ := rxs_two r hm
    cases vz_int R h2 h1; cases vz_int R h4 h3
    cases e
    refine ⟨_, call_min2 hc, _, _, rfl, ?_⟩
    have := ki _ rfl
    rename_i i j
    have e : (if j < i then j else i) = min i j := by split <;> omega
    rw [e]; exact this
  · obtain ⟨x, y, v, u, rfl, h1, h3, h2, h4⟩ := rxs_two r hm
    cases vz_int R h2 h1; cases vz_int R h4 h3
    cases e
    refine ⟨_, call_max2 hc, _, _, rfl, ?_⟩
    have := ki _ rfl
    rename_i i j
    have e : (if j > i then j else i) = max i j := by split <;> omega
    rw [e]; exact this
  · split at e
    · rename_i i r0 hi
      obtain ⟨x, v, rfl, h1, h2⟩ := rxs_one r hm
      obtain ⟨a, us, rfl, ha, r1⟩ := rz_lst R h2 h1
      have e1 := r1.ints hi
      subst e1
      cases e
      exact ⟨_, cr_min hc, a, _, rfl, ha, by simp, fun m hm hl => by rw [imin_ok _ _ m hm hl]; exact ki _ rfl⟩
    · cases e
  · split at e
    · rename_i i r0 hi
      obtain ⟨x, v, rfl, h1, h2⟩ := rxs_one r hm
      obtain ⟨a, us, rfl, ha, r1⟩ := rz_lst R h2 h1
      have e1 := r1.ints hi
      subst e1
      cases e
      exact ⟨_, cr_max hc, a, _, rfl, ha, by simp, fun m hm hl => by rw [imax_ok _ _ m hm hl]; exact ki _ rfl⟩
    · cases e
  · obtain ⟨ns, e1, e2⟩ := Option.map_eq_some_iff.mp e
    subst e2
    obtain ⟨x, v, rfl, h1, h2⟩ := rxs_one r hm
    obtain ⟨a, us, rfl, ha, r1⟩ := rz_lst R h2 h1
    have e1 := r1.ints e1
    subst e1
    exact ⟨_, cr_sum hc, a, _, rfl, ha, ki _ rfl⟩
  · obtain ⟨ns, e1, e2⟩ := Option.map_eq_some_iff.mp e
    subst e2
    obtain ⟨x, v, rfl, h1, h2⟩ := rxs_one r hm
    obtain ⟨a, us, rfl, ha, r1⟩ := vz_tup R h2 h1
    have e1 := r1.ints e1
    subst e1
    exact ⟨_, cr_sumT hc, a, _, rfl, ha.sq, ki _ rfl⟩
  · obtain ⟨ns, e1, e2⟩ := Option.map_eq_some_iff.mp e
    subst e2
    obtain ⟨x, v, rfl, h1, h2⟩ := rxs_one r hm
    obtain ⟨a, us, rfl, ha, r1⟩ := rz_lst R h2 h1
    have e1 := r1.bls e1
    subst e1
    exact ⟨_, cr_all hc, a, _, rfl, ha, kb _ rfl⟩
  · obtain ⟨ns, e1, e2⟩ := Option.map_eq_some_iff.mp e
    subst e2
    obtain ⟨x, v, rfl, h1, h2⟩ := rxs_one r hm
    obtain ⟨a, us, rfl, ha, r1⟩ := rz_lst R h2 h1
    have e1 := r1.bls e1
    subst e1
    exact ⟨_, cr_any hc, a, _, rfl, ha, kb _ rfl⟩
  · obtain ⟨x, v, rfl, h1, h2⟩ := rxs_one r hm
    obtain ⟨a, us, rfl, ha, r1⟩ := rz_lst R h2 h1
    cases e
    exact ⟨_, call_tuple_of, a, us, rfl, .inl ⟨ha, fun l hl => k _ _ (same_new hl) (new_tup R hl r1)⟩⟩
  · obtain ⟨x, v, rfl, h1, h2⟩ := rxs_one r hm
    obtain ⟨a, us, rfl, ha, r1⟩ := vz_tup R h2 h1
    cases e
    exact ⟨_, call_tuple_of, a, us, rfl, .inr ⟨ha.sq, k _ _ (Same.refl H) ⟨R, .tup ha r1⟩⟩⟩
  · obtain ⟨x, v, rfl, h1, h2⟩ := rxs_one r hm
    obtain ⟨a, us, rfl, ha, r1⟩ := rz_lst R h2 h1
    cases e
    exact ⟨_, call_list_of, a, us, rfl, .inl ha, fun l hl => k _ _ (same_new hl) (new_lst R hl r1)⟩
  · obtain ⟨x, v, rfl, h1, h2⟩ := rxs_one r hm
    obtain ⟨a, us, rfl, ha, r1⟩ := vz_tup R h2 h1
    cases e
    exact ⟨_, call_list_of, a, us, rfl, .inr ha.sq, fun l hl => k _ _ (same_new hl) (new_lst R hl r1)⟩
  · obtain ⟨x, v, rfl, h1, h2⟩ := rxs_one r hm
    obtain ⟨a, us, rfl, ha, r1⟩ := vz_dct R h2 h1
    cases e
    exact ⟨_, call_listD hc, a, us, rfl, .inl ha, fun l hl => k _ _ (same_new hl) (new_lst R hl r1.keysF)⟩
  · obtain ⟨x, y, v, u, rfl, h1, h3, h2, h4⟩ := rxs_two r hm
    cases vz_ty R h4 h3
    obtain ⟨b, e1, e2⟩ := Option.map_eq_some_iff.mp e
    subst e2
    subst h1
    exact wisi_ok R h2 e1 (kb _ rfl)
  · cases e
/-- the built-in's name -/
theorem bf_boot {x : Str} (n : bfOf x ≠ .none) : bootBuiltins x = some (bfV (bfOf x)) ∧ x ≠ "__name__" ∧ (x == ("__debug__" : Str)) = false := by
  by_cases h : x = "len" ∨ x = "int" ∨ x = "isinstance" ∨ x = "tuple" ∨ x = "list" ∨ x = "min" ∨ x = "max" ∨ x = "sum" ∨ x = "str" ∨ x = "abs" ∨ x = "bool" ∨ x = "all" ∨ x = "any" ∨ x = "sorted"
  · rcases h with rfl | rfl | rfl | rfl | rfl | rfl | rfl | rfl | rfl | rfl | rfl | rfl | rfl | rfl <;> exact ⟨by decide +kernel, by decide +kernel, by decide +kernel⟩
  · simp only [not_or] at h
    exfalso
    apply n
    unfold bfOf
    simp only [h, if_false]
end
end EV

namespace EV
open PySem PySem.Spec PyProof.Rows L2
/-! ### readings -/
section
variable (K : PySem.W.Frag)
def okE (E : Ent) (σw : Sls) (φ : List Addr) (σ : L2.St) (H : Hp) (br : Bool) (r : Res W) (Q : VK) : Prop :=
  ∃ w S', r = .ok w S' ∧ ∀ φ' H' v, Ext φ H φ' H' → Rl K E σw S' φ' σ H' → RX K E σw φ' σ H' br w v → Q v H'
def rdE (br : Bool) (m : M W) : TE := fun σ H Q => ∃ E σw S φ, Rl K E σw S φ σ H ∧ okE K E σw φ σ H br (m σw S) Q
/-- .. of a new list or dict -/
def okN (E : Ent) (σw : Sls) (φ : List Addr) (σ : L2.St) (H : Hp) (r : Res W) (Q : VK) : Prop :=
  ∃ w S', r = .ok w S' ∧ ∀ φ' H' v, Ext φ H φ' H' → New K E σw S' φ' σ H H' w v → Q v H'
def rdN (m : M W) : TE := fun σ H Q => ∃ E σw S φ, Rl K E σw S φ σ H ∧ okN K E σw φ σ H (m σw S) Q
def okA (E : Ent) (σw : Sls) (φ : List Addr) (σ : L2.St) (H : Hp) (br : Bool) (r : Res (List W)) (Q : List V → Hp → Prop) : Prop :=
  ∃ w S', r = .ok w S' ∧ ∀ φ' H' v, Ext φ H φ' H' → Rl K E σw S' φ' σ H' → RXs K E σw φ' σ H' br w v → Q v H'
def rdA (br : Bool) (m : M (List W)) : TA := fun σ H Q => ∃ E σw S φ, Rl K E σw S φ σ H ∧ okA K E σw φ σ H br (m σw S) Q
def okT (E : Ent) (σw : Sls) (φ : List Addr) (σ : L2.St) (H : Hp) (r : Res Bool) (Q : Bool → Hp → Prop) : Prop :=
  ∃ b S', r = .ok b S' ∧ ∀ φ' H', Ext φ H φ' H' → Rl K E σw S' φ' σ H' → Q b H'
def rdT (m : M Bool) : TT := fun σ H Q => ∃ E σw S φ, Rl K E σw S φ σ H ∧ okT K E σw φ σ H (m σw S) Q
/-- the turns that J gives are ws, as long as what stands stays -/
def ItOk (J : It) (ws : List W) (φ : List Addr) (Z : Addr → Prop) (H : Hp) : Prop := ∀ φ' Z' H', Later φ Z H φ' Z' H' → (∀ a, Z' a → H' a ≠ none) →
  J.stop ws.length H' ∧ ∀ (i : Nat) (w : W), ws[i]? = some w → J.go i H' ∧ ∀ x H'', J.yld i H' x H'' → Same H' H'' ∧ RF K φ' Z' H'' w x
def okI (E : Ent) (σw : Sls) (φ : List Addr) (σ : L2.St) (H : Hp) (r : Res (List W)) (R : It → Hp → Prop) : Prop :=
  ∃ ws S', r = .ok ws S' ∧ ∀ φ' H' J, Ext φ H φ' H' → Rl K E σw S' φ' σ H' → ItOk K J ws φ' (ZZ E σw φ' σ) H' → R J H'
def rdI (m : M (List W)) : TI := fun σ H R => ∃ E σw S φ, Rl K E σw S φ σ H ∧ okI K E σw φ σ H (m σw S) R
/-- a target takes the value w: it stores to slots of own alone -/
def okG (own : List Nat) (E : Ent) (σw : Sls) (S : Sto) (φ : List Addr) (σ : L2.St) (H : Hp) (r : Res Sls) (Q : L2.St → Hp → Prop) : Prop :=
  ∃ σw1, r = .ok σw1 S ∧ ∀ σ1, (∀ i, i ∉ own → σ1[i]? = σ[i]?) → Rl K E σw1 S φ σ1 H → (∀ a, ZZ E σw1 φ σ1 a → ZZ E σw φ σ a) → Q σ1 H
def rdG (own : List Nat) (bd : W → M Sls) : TG := fun v σ H Q => ∃ E σw S φ w, Rl K E σw S φ σ H ∧ RF K φ (ZZ E σw φ σ) H w v ∧ okG K own E σw S φ σ H (bd w σw S) Q
/-- what a def's caller sees at its end -/
def RetOk (E : Ent) (S : Sto) (φ : List Addr) (H : Hp) (w : W) (v : V) : Prop :=
  StOk K S φ (fun a => E.Z a ∨ a ∈ φ) H ∧ RF K φ (fun a => E.Z a ∨ a ∈ φ) H w v ∧ Ext E.φ E.H φ H
def okS (E : Ent) (σw : Sls) (φ : List Addr) (σ : L2.St) (H : Hp) (r : Res Fl) (D : Ends) : Prop := match r with
  | .ok (.nx σw') S' => ∀ φ' σ' H', Later φ (ZZ E σw φ σ) H φ' (ZZ E σw' φ' σ') H' → Rl K E σw' S' φ' σ' H' → D.nx σ' H'
  | .ok (.bk σw') S' => ∀ φ' σ' H', Later φ (ZZ E σw φ σ) H φ' (ZZ E σw' φ' σ') H' → Rl K E σw' S' φ' σ' H' → D.bk σ' H'
  | .ok (.ct σw') S' => ∀ φ' σ' H', Later φ (ZZ E σw φ σ) H φ' (ZZ E σw' φ' σ') H' → Rl K E σw' S' φ' σ' H' → D.ct σ' H'
  | .ok (.rt w) S' => ∀ φ' H' v, Later φ (ZZ E σw φ σ) H φ' (fun a => E.Z a ∨ a ∈ φ') H' → RetOk K E S' φ' H' w v → D.rt v H'
  | _ => False
def rdS (m : M Fl) : TS := fun D σ H => ∃ E σw S φ, Rl K E σw S φ σ H ∧ okS K E σw φ σ H (m σw S) D
end
theorem bind_ok {α β : Type} {r : Res α} {f : α → Sto → Res β} {b : β} {S : Sto} (h : r.bind f = .ok b S) : ∃ a S1, r = .ok a S1 ∧ f a S1 = .ok b S := by
  cases r with
  | ok a S1 => exact ⟨a, S1, rfl, h⟩
  | ex c as S1 => cases h
  | bad => cases h
theorem olift_ok {α : Type} {o : Option α} {S S' : Sto} {a : α} (h : olift o S = .ok a S') : o = some a ∧ S' = S := by
  cases o with
  | none => cases h
  | some b => cases h; exact ⟨rfl, rfl⟩
section
variable {X : Cx} {e : Expr} {t t' : TE} {pos : Pos}
theorem _root_.L2.PE.imp (h : PE X e t) (k : ∀ σ H Q, t' σ H Q → t σ H Q) : PE X e t' := ⟨fun pins s σ H Q I q => h.run pins s σ H Q I (k σ H Q q)⟩
theorem _root_.L2.PE.no {br : Bool} : PE X e (rdE X.K br mBad) := ⟨fun _ _ _ _ _ _ ⟨_, _, _, _, _, _, _, q, _⟩ => by cases q⟩
theorem _root_.L2.PE.noN : PE X e (rdN X.K mBad) := ⟨fun _ _ _ _ _ _ ⟨_, _, _, _, _, _, _, q, _⟩ => by cases q⟩
theorem _root_.L2.PT.imp {t t' : TT} (h : PT X e t) (k : ∀ σ H Q, t' σ H Q → t σ H Q) : PT X e t' := ⟨fun pins s σ H Q I q => h.run pins s σ H Q I (k σ H Q q)⟩
theorem _root_.L2.PW.imp {t t' : TT} (h : PW X e t) (k : ∀ σ H Q, t' σ H Q → t σ H Q) : PW X e t' := ⟨fun wh pins s σ H Q I q => h.run wh pins s σ H Q I (k σ H Q q)⟩
theorem _root_.L2.PT.no : PT X e (rdT X.K mBad) := ⟨fun _ _ _ _ _ _ ⟨_, _, _, _, _, _, _, q, _⟩ => by cases q⟩
theorem _root_.L2.PA.imp {es : List Expr} {t t' : TA} (h : PA X es t) (k : ∀ σ H Q, t' σ H Q → t σ H Q) : PA X es t' := ⟨fun pos pins s σ H Q I q => h.run pos pins s σ H Q I (k σ H Q q)⟩
theorem _root_.L2.PA.no {br : Bool} {es : List Expr} : PA X es (rdA X.K br mBad) := ⟨fun _ _ _ _ _ _ _ ⟨_, _, _, _, _, _, _, q, _⟩ => by cases q⟩
theorem _root_.L2.PI.imp {tg : Expr} {t t' : TI} (h : PI X tg e t) (k : ∀ σ H Q, t' σ H Q → t σ H Q) : PI X tg e t' := ⟨fun pins s σ H Q I q => h.run pins s σ H Q I (k σ H Q q)⟩
theorem _root_.L2.PI.no {tg : Expr} : PI X tg e (rdI X.K mBad) := ⟨fun _ _ _ _ _ _ ⟨_, _, _, _, _, _, _, q, _⟩ => by cases q⟩
theorem _root_.L2.PG.imp {t t' : TG} (h : PG X e t) (k : ∀ v σ H Q, t' v σ H Q → t v σ H Q) : PG X e t' := ⟨fun pins s σ H v u Q I r q => h.run pins s σ H v u Q I r (k v σ H Q q)⟩
theorem _root_.L2.PGs.imp {es : List Expr} {t t' : TGs} (h : PGs X es t) (k : ∀ v σ H Q, t' v σ H Q → t v σ H Q) : PGs X es t' := ⟨fun pins s σ H v u Q I r q => h.run pins s σ H v u Q I r (k v σ H Q q)⟩
theorem _root_.L2.PG.no {own : List Nat} : PG X e (rdG X.K own fun _ => mBad) := ⟨fun _ _ _ _ _ _ _ _ _ ⟨_, _, _, _, _, _, _, _, q, _⟩ => by cases q⟩
theorem _root_.L2.PS.imp {st : Stmt} {t t' : TS} (h : PS X st t) (k : ∀ D σ H, t' D σ H → t D σ H) : PS X st t' := ⟨fun pins s σ H D I q => h.run pins s σ H D I (k D σ H q)⟩
theorem _root_.L2.PSs.imp {st : List Stmt} {t t' : TS} (h : PSs X st t) (k : ∀ D σ H, t' D σ H → t D σ H) : PSs X st t' := ⟨fun pins s σ H D I q => h.run pins s σ H D I (k D σ H q)⟩
theorem _root_.L2.PS.no {st : Stmt} : PS X st (rdS X.K mBad) := ⟨fun _ _ _ _ _ _ ⟨_, _, _, _, _, q⟩ => q.elim⟩
theorem _root_.L2.PSs.no {st : List Stmt} : PSs X st (rdS X.K mBad) := ⟨fun _ _ _ _ _ _ ⟨_, _, _, _, _, q⟩ => q.elim⟩
/-- any of its readings -/
theorem _root_.L2.PE.any {T : TE} (k : ∀ σ H Q, T σ H Q → ∃ t, PE X e t ∧ t σ H Q) : PE X e T := ⟨fun pins s σ H Q I q => by
  obtain ⟨t, h, q⟩ := k σ H Q q
  exact h.run pins s σ H Q I q⟩
theorem _root_.L2.PS.any {st : Stmt} {T : TS} (k : ∀ D σ H, T D σ H → ∃ t, PS X st t ∧ t D σ H) : PS X st T := ⟨fun pins s σ H D I q => by
  obtain ⟨t, h, q⟩ := k D σ H q
  exact h.run pins s σ H D I q⟩
def opAny (X : Cx) (f : Value → Value → Sem Value) : R2 := fun x y H Q => ∃ r : R2, OpR X f r ∧ r x y H Q
theorem opAny_ok {f : Value → Value → Sem Value} : OpR X f (opAny X f) := by
  intro pins s σ H x y v u Q I rx ry h
  obtain ⟨r, h1, q⟩ := h
  exact h1 pins s σ H x y v u Q I rx ry q
def unAny (X : Cx) (f : Value → Sem Value) : V → Hp → VK → Prop := fun x H Q => ∃ r, UnR X f r ∧ r x H Q
theorem unAny_ok {f : Value → Sem Value} : UnR X f (unAny X f) := by
  intro pins s σ H x v Q I rx h
  obtain ⟨r, h1, q⟩ := h
  exact h1 pins s σ H x v Q I rx q
def callAny (X : Cx) (f : Value) : List V → Hp → VK → Prop := fun xs H Q => ∃ r, CallR X f r ∧ r xs H Q
theorem callAny_ok {f : Value} : CallR X f (callAny X f) := by
  intro pins s σ H xs us Q I rx h
  obtain ⟨r, h1, q⟩ := h
  exact h1 pins s σ H xs us Q I rx q
def ixAny (X : Cx) : R2 := fun x y H Q => ∃ r : R2, IxR X r ∧ r x y H Q
theorem ixAny_ok : IxR X (ixAny X) := by
  intro value slice pins s σ H x y v u Q I rx ry h hs
  obtain ⟨r, h1, q⟩ := h
  exact h1 value slice pins s σ H x y v u Q I rx ry q hs
def slAny (X : Cx) : V → Option Int → Option Int → Hp → VK → Prop := fun x lo hi H Q => ∃ r, SlR X r ∧ r x lo hi H Q
theorem slAny_ok : SlR X (slAny X) := by
  intro pins s σ H x v vl vu lo hi sl Q I rx hs pl pu h
  obtain ⟨r, h1, q⟩ := h
  exact h1 pins s σ H x v vl vu lo hi sl Q I rx hs pl pu q
end
section
variable {X : Cx} {a b c e : Expr} {ma mb mc m : M W} {br : Bool} {pos : Pos} {E : Ent} {σw : Sls} {S S' : Sto} {φ φ' : List Addr} {σ : L2.St} {H H' : Hp} {w : W} {v : V}
theorem rdE_of_rdN (h : PE X e (rdN X.K m)) : PE X e (rdE X.K br m) := h.imp fun _ _ _ ⟨E, σw, S, φ, R, w, S', q, k⟩ =>
  ⟨E, σw, S, φ, R, w, S', q, fun φ' H' v x n => k φ' H' v x n.rl (.inl n.rf)⟩
theorem rdE_mono (h : PE X e (rdE X.K false m)) : PE X e (rdE X.K true m) := h.imp fun _ _ _ ⟨E, σw, S, φ, R, w, S', q, k⟩ =>
  ⟨E, σw, S, φ, R, w, S', q, fun φ' H' v x n r => k φ' H' v x n (.inl r.fr)⟩
theorem pe_c {w : W} {v : V} (h : PE X e (tC v)) (r : ∀ φ Z H, RF X.K φ Z H w v) : PE X e (rdE X.K br (mC w)) := h.imp fun σ H Q ⟨E, σw, S, φ, R, w', S', q, k⟩ => by
  cases q
  exact k φ H v .refl R (.inl (r _ _ _))
theorem pe_bin {op : Operator} (ha : PE X a (rdE X.K true ma)) (hb : PE X b (rdE X.K true mb)) : PE X (.BinOp a op b pos) (rdN X.K (mBin op ma mb)) :=
  (pe_op opAny_ok ha hb).imp fun σ H Q ⟨E, σw, S, φ, R, w, S', q, k⟩ => by
    obtain ⟨x, S1, e1, q⟩ := bind_ok q
    obtain ⟨y, S2, e2, q⟩ := bind_ok q
    obtain ⟨q2, rfl⟩ := olift_ok q
    exact ⟨E, σw, S, φ, R, x, S1, e1, fun φ1 H1 v x1 R1 r1 => ⟨E, σw, S1, φ1, R1, y, _, e2, fun φ2 H2 u x2 R2 r2 =>
      wbin_ok R2 (r1.ext x2) r2 q2 fun H' z s n => k φ2 H' z ((x1.trans x2).trans (.same s)) (n.back (x1.trans x2) R2)⟩⟩
theorem pe_unop {op : UnaryOp} (ha : PE X a (rdE X.K true ma)) : PE X (.UnaryOp op a pos) (rdE X.K br (mUn op ma)) :=
  (pe_un unAny_ok ha).imp fun σ H Q ⟨E, σw, S, φ, R, w, S', q, k⟩ => by
    obtain ⟨x, S1, e1, q⟩ := bind_ok q
    obtain ⟨q2, rfl⟩ := olift_ok q
    exact ⟨E, σw, S, φ, R, x, _, e1, fun φ1 H1 v x1 R1 r1 => wun_ok (w' := v) R1 r1 q2 (fun _ => trivial) fun z r => k φ1 H1 z x1 R1 (.inl r)⟩
theorem pe_cmpop {op : CmpOp} (hu : X.A.units + 64 < cLine) (hm : behindInMarks op b = false) (ha : PE X a (rdE X.K true ma)) (hb : PE X b (rdE X.K true mb)) : PE X (.Compare a [op] [b] pos) (rdE X.K br (mCmp op ma mb)) :=
  (pe_cmpR opAny_ok ha hb hm).imp fun σ H Q ⟨E, σw, S, φ, R, w, S', q, k⟩ => by
    obtain ⟨x, S1, e1, q⟩ := bind_ok q
    obtain ⟨y, S2, e2, q⟩ := bind_ok q
    obtain ⟨q2, rfl⟩ := olift_ok q
    obtain ⟨d, q3, rfl⟩ := Option.map_eq_some_iff.mp q2
    exact ⟨E, σw, S, φ, R, x, S1, e1, fun φ1 H1 v x1 R1 r1 => ⟨E, σw, S1, φ1, R1, y, _, e2, fun φ2 H2 u x2 R2 r2 =>
      wcmp_ok hu R2 (r1.ext x2) r2 q3 (k φ2 H2 _ (x1.trans x2) R2 (.inl (.bl _)))⟩⟩
theorem pt_cmpop {op : CmpOp} (hu : X.A.units + 64 < cLine) (hm : behindInMarks op b = false) (ha : PE X a (rdE X.K true ma)) (hb : PE X b (rdE X.K true mb)) : PT X (.Compare a [op] [b] pos) (rdT X.K (mCmpT op ma mb)) :=
  (pt_cmpR opAny_ok ha hb hm).imp fun σ H Q ⟨E, σw, S, φ, R, w, S', q, k⟩ => by
    obtain ⟨x, S1, e1, q⟩ := bind_ok q
    obtain ⟨y, S2, e2, q⟩ := bind_ok q
    obtain ⟨q2, rfl⟩ := olift_ok q
    exact ⟨E, σw, S, φ, R, x, S1, e1, fun φ1 H1 v x1 R1 r1 => ⟨E, σw, S1, φ1, R1, y, _, e2, fun φ2 H2 u x2 R2 r2 =>
      wcmp_ok hu R2 (r1.ext x2) r2 q2 ⟨w, rfl, k φ2 H2 (x1.trans x2) R2⟩⟩⟩
theorem chain_go {o p : CmpOp} (hu : X.A.units + 64 < cLine) {Qf : VK} {d : Bool} (R : Rl X.K E σw S φ σ H) (q : mChain o p ma mb mc σw S = .ok d S') (k : ∀ φ' H', Ext φ H φ' H' → Rl X.K E σw S' φ' σ H' → Qf (.bl d) H') :
    tChain (opAny X (compareOp o)) (opAny X (compareOp p)) (rdE X.K true ma) (rdE X.K true mb) (rdE X.K true mc) σ H Qf := by
  obtain ⟨x, S1, e1, q⟩ := bind_ok q
  obtain ⟨y, S2, e2, q⟩ := bind_ok q
  refine ⟨E, σw, S, φ, R, x, S1, e1, fun φ1 H1 v x1 R1 r1 => ⟨E, σw, S1, φ1, R1, y, S2, e2, fun φ2 H2 u x2 R2 r2 => ?_⟩⟩
  split at q
  · rename_i h
    cases q
    exact wcmp_ok hu R2 (r1.ext x2) r2 h ⟨false, rfl, k φ2 H2 (x1.trans x2) R2⟩
  · rename_i h
    refine wcmp_ok hu R2 (r1.ext x2) r2 h ⟨true, rfl, ?_⟩
    obtain ⟨z, S3, e3, q⟩ := bind_ok q
    obtain ⟨q2, rfl⟩ := olift_ok q
    exact ⟨E, σw, S2, φ2, R2, z, _, e3, fun φ3 H3 t x3 R3 r3 => wcmp_ok hu R3 (r2.ext x3) r3 q2 (k φ3 H3 ((x1.trans x2).trans x3) R3)⟩
  · cases q
theorem pe_chainop {o p : CmpOp} (hu : X.A.units + 64 < cLine) (hm : behindInMarks p c = false) (ha : PE X a (rdE X.K true ma)) (hb : PE X b (rdE X.K true mb)) (hc : PE X c (rdE X.K true mc)) :
    PE X (.Compare a [o, p] [b, c] pos) (rdE X.K br (mVal (mChain o p ma mb mc))) :=
  (pe_chain opAny_ok opAny_ok ha hb hc hm).imp fun σ H Q ⟨E, σw, S, φ, R, w, S', q, k⟩ => by
    obtain ⟨d, S1, e1, q⟩ := bind_ok q
    cases q
    exact chain_go hu R e1 fun φ' H' x R' => k φ' H' _ x R' (.inl (.bl _))
theorem pt_chainop {o p : CmpOp} (hu : X.A.units + 64 < cLine) (hm : behindInMarks p c = false) (ha : PE X a (rdE X.K true ma)) (hb : PE X b (rdE X.K true mb)) (hc : PE X c (rdE X.K true mc)) :
    PT X (.Compare a [o, p] [b, c] pos) (rdT X.K (mChain o p ma mb mc)) :=
  (pt_chain opAny_ok opAny_ok ha hb hc hm).imp fun σ H Q ⟨E, σw, S, φ, R, w, S', q, k⟩ => chain_go hu R q fun φ' H' x R' => ⟨w, rfl, k φ' H' x R'⟩
theorem pt_tru (ha : PE X a (rdE X.K true ma)) (he : ∀ whole, isTrue a X.env whole = (do let v ← whole; standAt a.pos; holding [v] (truthy v))) : PT X a (rdT X.K (mTru ma)) :=
  (pt_truth ha he).imp fun σ H Q ⟨E, σw, S, φ, R, w, S', q, k⟩ => by
    obtain ⟨x, S1, e1, q⟩ := bind_ok q
    obtain ⟨q2, rfl⟩ := olift_ok q
    exact ⟨E, σw, S, φ, R, x, _, e1, fun φ1 H1 v x1 R1 r1 => ⟨w, wtru_ok R1 r1 q2, k φ1 H1 x1 R1⟩⟩
theorem pe_notop (ha : PE X a (rdE X.K true ma)) : PE X (.UnaryOp .Not a pos) (rdE X.K br (mVal (mNotT (mTru ma)))) :=
  (pe_notT ha).imp fun σ H Q ⟨E, σw, S, φ, R, w, S', q, k⟩ => by
    obtain ⟨d, S1, q, e⟩ := bind_ok q
    cases e
    obtain ⟨d', S1, q, e⟩ := bind_ok q
    cases e
    obtain ⟨x, S1, e1, q⟩ := bind_ok q
    obtain ⟨q2, rfl⟩ := olift_ok q
    exact ⟨E, σw, S, φ, R, x, _, e1, fun φ1 H1 v x1 R1 r1 => ⟨d', wtru_ok R1 r1 q2, k φ1 H1 _ x1 R1 (.inl (.bl _))⟩⟩
variable {ta tb : M Bool}
theorem pt_notop (ha : PT X a (rdT X.K ta)) : PT X (.UnaryOp .Not a pos) (rdT X.K (mNotT ta)) :=
  (pt_not ha).imp fun σ H Q ⟨E, σw, S, φ, R, w, S', q, k⟩ => by
    obtain ⟨d, S1, e1, q⟩ := bind_ok q
    cases q
    exact ⟨E, σw, S, φ, R, d, _, e1, fun φ1 H1 x1 R1 => k φ1 H1 x1 R1⟩
theorem pw_andop {rest : List Expr} (ha : PT X a (rdT X.K ta)) (hb : PW X (.BoolOp .And (b :: rest) pos) (rdT X.K tb)) : PW X (.BoolOp .And (a :: b :: rest) pos) (rdT X.K (mAnd ta tb)) :=
  (pw_and ha hb).imp fun σ H Q ⟨E, σw, S, φ, R, w, S', q, k⟩ => by
    obtain ⟨d, S1, e1, q⟩ := bind_ok q
    refine ⟨E, σw, S, φ, R, d, S1, e1, fun φ1 H1 x1 R1 => ?_⟩
    cases d with
    | true => exact ⟨E, σw, S1, φ1, R1, w, S', q, fun φ2 H2 x2 R2 => k φ2 H2 (x1.trans x2) R2⟩
    | false => cases q; exact k φ1 H1 x1 R1
theorem pw_orop {rest : List Expr} (ha : PT X a (rdT X.K ta)) (hb : PW X (.BoolOp .Or (b :: rest) pos) (rdT X.K tb)) : PW X (.BoolOp .Or (a :: b :: rest) pos) (rdT X.K (mOr ta tb)) :=
  (pw_or ha hb).imp fun σ H Q ⟨E, σw, S, φ, R, w, S', q, k⟩ => by
    obtain ⟨d, S1, e1, q⟩ := bind_ok q
    refine ⟨E, σw, S, φ, R, d, S1, e1, fun φ1 H1 x1 R1 => ?_⟩
    cases d with
    | false => exact ⟨E, σw, S1, φ1, R1, w, S', q, fun φ2 H2 x2 R2 => k φ2 H2 (x1.trans x2) R2⟩
    | true => cases q; exact k φ1 H1 x1 R1
theorem pe_andop {rest : List Expr} (ha : PE X a (rdE X.K br ma)) (hb : PE X (.BoolOp .And (b :: rest) pos) (rdE X.K br mb)) : PE X (.BoolOp .And (a :: b :: rest) pos) (rdE X.K br (mAndV ma mb)) :=
  (pe_andT ha hb).imp fun σ H Q ⟨E, σw, S, φ, R, w, S', q, k⟩ => by
    obtain ⟨x, S1, e1, q⟩ := bind_ok q
    refine ⟨E, σw, S, φ, R, x, S1, e1, fun φ1 H1 v x1 R1 r1 => ?_⟩
    have r1' : RX X.K E σw φ1 σ H1 true x v := r1.imp id fun z => ⟨rfl, z.2⟩
    split at q
    · rename_i h
      exact ⟨true, wtru_ok R1 r1' h, E, σw, S1, φ1, R1, w, S', q, fun φ2 H2 v x2 R2 r2 => k φ2 H2 v (x1.trans x2) R2 r2⟩
    · rename_i h
      cases q
      exact ⟨false, wtru_ok R1 r1' h, k φ1 H1 v x1 R1 r1⟩
    · cases q
theorem pe_orop {rest : List Expr} (ha : PE X a (rdE X.K br ma)) (hb : PE X (.BoolOp .Or (b :: rest) pos) (rdE X.K br mb)) : PE X (.BoolOp .Or (a :: b :: rest) pos) (rdE X.K br (mOrV ma mb)) :=
  (pe_orT ha hb).imp fun σ H Q ⟨E, σw, S, φ, R, w, S', q, k⟩ => by
    obtain ⟨x, S1, e1, q⟩ := bind_ok q
    refine ⟨E, σw, S, φ, R, x, S1, e1, fun φ1 H1 v x1 R1 r1 => ?_⟩
    have r1' : RX X.K E σw φ1 σ H1 true x v := r1.imp id fun z => ⟨rfl, z.2⟩
    split at q
    · rename_i h
      cases q
      exact ⟨true, wtru_ok R1 r1' h, k φ1 H1 v x1 R1 r1⟩
    · rename_i h
      exact ⟨false, wtru_ok R1 r1' h, E, σw, S1, φ1, R1, w, S', q, fun φ2 H2 v x2 R2 r2 => k φ2 H2 v (x1.trans x2) R2 r2⟩
    · cases q
theorem pe_ifop (hc : PT X c (rdT X.K ta)) (ha : PE X a (rdE X.K br ma)) (hb : PE X b (rdE X.K br mb)) : PE X (.IfExp c a b pos) (rdE X.K br (mIfE ta ma mb)) :=
  (pe_ifExp hc ha hb).imp fun σ H Q ⟨E, σw, S, φ, R, w, S', q, k⟩ => by
    obtain ⟨d, S1, e1, q⟩ := bind_ok q
    refine ⟨E, σw, S, φ, R, d, S1, e1, fun φ1 H1 x1 R1 => ?_⟩
    cases d with
    | true => exact ⟨E, σw, S1, φ1, R1, w, S', q, fun φ2 H2 v x2 R2 r2 => k φ2 H2 v (x1.trans x2) R2 r2⟩
    | false => exact ⟨E, σw, S1, φ1, R1, w, S', q, fun φ2 H2 v x2 R2 r2 => k φ2 H2 v (x1.trans x2) R2 r2⟩
/-! ### lists of expressions -/
variable {es : List Expr} {la lb : M (List W)}
theorem pa_nilop : PA X [] (rdA X.K br mNil) := pa_nil.imp fun σ H Q ⟨E, σw, S, φ, R, w, S', q, k⟩ => by
  cases q
  exact k φ H [] .refl R .nil
theorem pa_consop (hs : isStar e = false) (ha : PE X e (rdE X.K br ma)) (hb : PA X es (rdA X.K br lb)) : PA X (e :: es) (rdA X.K br (mCons ma lb)) :=
  (pa_cons ha hb (by cases e <;> first | rfl | cases hs)).imp fun σ H Q ⟨E, σw, S, φ, R, w, S', q, k⟩ => by
    obtain ⟨x, S1, e1, q⟩ := bind_ok q
    obtain ⟨y, S2, e2, q⟩ := bind_ok q
    cases q
    exact ⟨E, σw, S, φ, R, x, S1, e1, fun φ1 H1 v x1 R1 r1 => ⟨E, σw, S1, φ1, R1, y, _, e2, fun φ2 H2 us x2 R2 r2 => k φ2 H2 _ (x1.trans x2) R2 (.cons (r1.ext x2) r2)⟩⟩
theorem pe_tupop {k0 : Nat} (ha : PA X es (rdA X.K false la)) : PE X (.Tuple es k0 pos) (rdE X.K br (mTup la)) :=
  (pe_tup ha).imp fun σ H Q ⟨E, σw, S, φ, R, w, S', q, k⟩ => by
    obtain ⟨x, S1, e1, q⟩ := bind_ok q
    split at q
    · rename_i h
      cases q
      refine ⟨E, σw, S, φ, R, x, _, e1, fun φ1 H1 us x1 R1 r1 => ⟨lim_size (by rw [← r1.len]; exact h), fun p hp => ?_⟩⟩
      have n := new_tup R1 hp r1.fr
      exact k φ1 _ _ (x1.trans (.same (same_new hp))) n.rl (.inl n.rf)
    · cases q
theorem pe_lstop (ha : PA X es (rdA X.K false la)) : PE X (.List es pos) (rdN X.K (mLst la)) :=
  (pe_lst ha).imp fun σ H Q ⟨E, σw, S, φ, R, w, S', q, k⟩ => by
    obtain ⟨x, S1, e1, q⟩ := bind_ok q
    split at q
    · rename_i h
      cases q
      exact ⟨E, σw, S, φ, R, x, _, e1, fun φ1 H1 us x1 R1 r1 => ⟨lim_size (by rw [← r1.len]; exact h), fun p hp => k φ1 _ _ (x1.trans (.same (same_new hp))) ((new_lst R1 hp r1.fr).back x1 R1)⟩⟩
    · cases q
theorem pe_dnew : PE X (.Dict [] [] pos) (rdN X.K mNewD) := pe_dnewK.imp fun σ H Q ⟨E, σw, S, φ, R, w, S', q, k⟩ => by
  cases q
  exact fun p hp => k φ _ _ (.same (same_new hp)) (new_dct R hp .nil)
/-! ### subscripts, fields -/
theorem plain_ix {i : Expr} (h : ∀ lo hi st p, i ≠ .Slice lo hi st p) : PlainIx i ∧ NoSl i := by
  have : ∀ o j, subscripted i false o j = operate [o, j] (getItem o j) := fun o j => by
    cases i <;> first | rfl | (exfalso; exact h _ _ _ _ rfl)
  exact ⟨this, this⟩
theorem pe_ixop (hu : X.A.units + 64 < cLine) (hs : ∀ lo hi st p, b ≠ .Slice lo hi st p) (ha : PE X a (rdE X.K true ma)) (hb : PE X b (rdE X.K true mb)) : PE X (.Subscript a b pos) (rdE X.K br (mIx ma mb)) :=
  PE.any fun σ H Q ⟨E, σw, S, φ, R, w, S', q, k⟩ => by
    obtain ⟨x, S1, e1, q⟩ := bind_ok q
    obtain ⟨y, S2, e2, q⟩ := bind_ok q
    obtain ⟨q2, e5⟩ := olift_ok q
    subst e5
    by_cases hd : ∃ kws, vwz S' x = .dct kws
    · obtain ⟨kws, hd⟩ := hd
      refine ⟨_, pe_dget (by omega) ha hb (plain_ix hs).2, E, σw, S, φ, R, x, S1, e1, fun φ1 H1 v x1 R1 r1 => ⟨E, σw, S1, φ1, R1, y, _, e2, fun φ2 H2 u x2 R2 r2 => ?_⟩⟩
      obtain ⟨c, vs, rfl, hc, rk⟩ := vz_dct R2 (r1.ext x2) hd
      rw [hd] at q2
      obtain ⟨kk, e3, e4⟩ := Option.bind_eq_some_iff.mp (show (wkey y).bind (dval kws) = some w from q2)
      have hy : vw S' y = y := by cases y <;> first | rfl | cases e3
      cases rx_key (k := kk) R2 r2 (by rw [hy]; exact e3)
      rcases rk.val kk with ⟨z1, z2⟩ | ⟨w', z, z1, z2, r3⟩
      · rw [z1] at e4; cases e4
      · rw [z1] at e4; cases e4
        refine ⟨c, z, rfl, ?_, k φ2 H2 z (x1.trans x2) R2 (.inl r3)⟩
        rw [← z2]
        exact DGet.k hc
    · refine ⟨_, pe_ix ixAny_ok ha hb (plain_ix hs).1, E, σw, S, φ, R, x, S1, e1, fun φ1 H1 v x1 R1 r1 => ⟨E, σw, S1, φ1, R1, y, _, e2, fun φ2 H2 u x2 R2 r2 => ?_⟩⟩
      exact wix_ok (Q := Q) R2 (r1.ext x2) r2 (fun kws z => hd ⟨kws, z⟩) q2 fun z r => k φ2 H2 z (x1.trans x2) R2 (.inl r)
end
end EV

namespace EV
open PySem PySem.Spec PyProof.Rows L2
/-! ### calls, methods, comprehensions -/
section
variable {X : Cx} {a b c e : Expr} {ma mb mc m : M W} {br : Bool} {pos : Pos} {E : Ent} {σw : Sls} {S S' : Sto} {φ φ' : List Addr} {σ : L2.St} {H H' : Hp} {w : W} {v : V} {es : List Expr} {la lb : M (List W)}
theorem star_cons {env : PySem.Env} (h : isStar e = false) : starEach (e :: es) env = (false, eval e env) :: starEach es env := by
  cases e <;> first | rfl | cases h
theorem noStar_cons (h : noStar (e :: es) = true) : isStar e = false ∧ noStar es = true := by
  unfold noStar at h ⊢
  rw [List.all_cons, Bool.and_eq_true] at h
  exact ⟨by simpa using h.1, h.2⟩
theorem star_any {env : PySem.Env} : ∀ {es : List Expr}, noStar es = true → (backTo pos (starEach es env)).any (·.1) = false ∧ (backTo pos (starEach es env)).all (fun x => !x.1) = true
  | [], _ => ⟨rfl, rfl⟩
  | e :: es, h => by
    obtain ⟨h1, h2⟩ := noStar_cons h
    obtain ⟨h3, h4⟩ := star_any (env := env) h2
    rw [star_cons h1]
    constructor
    · show (false || (backTo pos (starEach es env)).any (·.1)) = false
      rw [h3]; rfl
    · show (true && (backTo pos (starEach es env)).all (fun x => !x.1)) = true
      rw [h4]; rfl
theorem base_ok {o : Expr} {f : Str} {env : PySem.Env} (h : baseOk o = true) : attributeBase o f env (eval o env) = eval o env := by
  cases o with
  | Call fn args kws p =>
    cases fn with
    | Name x q =>
      cases args with
      | nil =>
        cases kws with
        | nil => cases h
        | cons _ _ => rfl
      | cons _ _ => rfl
    | _ => rfl
  | _ => rfl
/-! ### shared objects are made -/
theorem nodup_snoc {l : List Addr} {p : Addr} (h : l.Nodup) (n : p ∉ l) : (l ++ [p]).Nodup := by
  rw [List.nodup_append]
  exact ⟨h, by simp, fun a ha b hb => by simp at hb; subst hb; exact fun z => n (z ▸ ha)⟩
theorem ix_app {p : Addr} : ∀ (n : Nat) (a : Addr), φ[n]? = some a → (φ ++ [p])[n]? = some a := fun n a h => by
  obtain ⟨hn, _⟩ := List.getElem?_eq_some_iff.mp h
  rw [List.getElem?_append_left hn]; exact h
theorem ix_snoc {p : Addr} : (φ ++ [p])[φ.length]? = some p := by simp
/-- p, of which nothing speaks, becomes shared -/
theorem share {p : Addr} {ob : Ob} (R : Rl X.K (E.plus p) σw S φ σ H) (hp : ¬ ZZ E σw φ σ p) (he : E.H p = none) (hob : HoldsO X.K (φ ++ [p]) (ZZ (E.plus p) σw φ σ) H ob p) : Rl X.K E σw (S ++ [ob]) (φ ++ [p]) σ H := by
  have L : Later φ (ZZ (E.plus p) σw φ σ) H (φ ++ [p]) (ZZ E σw (φ ++ [p]) σ) H := ⟨fun n a h => by
      obtain ⟨hn, _⟩ := List.getElem?_eq_some_iff.mp h
      rw [List.getElem?_append_left hn]; exact h, fun _ _ _ h => h, fun a z => by
      rcases z with z | z | z
      · exact .inl (.inl (.inl z))
      · rcases List.mem_append.mp z with z | z
        · exact .inl (.inr (.inl z))
        · simp at z; exact .inl (.inl (.inr z))
      · exact .inl (.inr (.inr z)), fun _ _ _ h => h⟩
  have L2' : Later (φ ++ [p]) (ZZ (E.plus p) σw φ σ) H (φ ++ [p]) (ZZ E σw (φ ++ [p]) σ) H := ⟨fun _ _ h => h, fun _ _ _ h => h, L.new, fun _ _ _ h => h⟩
  have npφ : p ∉ φ := fun h => hp (.inr (.inl h))
  refine ⟨⟨by simp [R.st.len], nodup_snoc R.st.nd npφ, fun n o a h1 h2 => ?_⟩, R.len, fun i w f => ?_, fun i w f => ?_, R.inj, fun a h z => ?_, fun a z => R.zal a (.inl z), fun n a h => L.ix n a (R.eφ n a h), R.ekeep, fun a h => ?_, R.efz⟩
  · by_cases hn : n < φ.length
    · rw [List.getElem?_append_left hn] at h2
      rw [List.getElem?_append_left (by rw [← R.st.len]; exact hn)] at h1
      exact (R.st.ob n o a h1 h2).mono L fun o h => h
    · have h3 : n = φ.length := by
        have := (List.getElem?_eq_some_iff.mp h2).1
        simp at this; omega
      subst h3
      rw [ix_snoc] at h2; cases h2
      rw [R.st.len] at h1
      simp at h1; subst h1
      exact hob.mono L2' fun o h => h
  · obtain ⟨v, g, r⟩ := R.fr i w f
    exact ⟨v, g, r.mono L⟩
  · obtain ⟨a, g, h, n1, n2, n3⟩ := R.ow i w f
    refine ⟨a, g, h.mono L fun o h => h, fun m => ?_, fun z => n2 (.inl z), n3⟩
    rcases List.mem_append.mp m with m | m
    · exact n1 m
    · simp at m; exact n2 (.inr m)
  · rcases List.mem_append.mp h with h | h
    · exact R.zφ a h (.inl z)
    · simp at h; subst h; exact hp (.inl z)
  · rcases List.mem_append.mp h with h | h
    · exact R.enew a h
    · simp at h; subst h; exact .inr he
theorem ext_share {p : Addr} {H0 : Hp} (x : Ext φ' H0 φ H) (hp : H0 p = none ∨ p ∈ φ') : Ext φ' H0 (φ ++ [p]) H :=
  ⟨fun n a h => by
    have h := x.ix n a h
    obtain ⟨hn, _⟩ := List.getElem?_eq_some_iff.mp h
    rw [List.getElem?_append_left hn]; exact h, x.keep, fun a h => by
    rcases List.mem_append.mp h with h | h
    · exact x.new a h
    · simp at h; subst h; exact hp.symm, x.fz⟩
theorem pe_toLoc (he : PE X e (rdN X.K m)) : PE X e (rdE X.K br (mToLoc m)) := he.imp fun σ H Q ⟨E, σw, S, φ, R, w, S', q, k⟩ => by
  obtain ⟨x, S1, e1, q⟩ := bind_ok q
  refine ⟨E, σw, S, φ, R, x, S1, e1, fun φ1 H1 v x1 n => ?_⟩
  split at q
  · cases q
    obtain ⟨p, vs, rfl, hp, h0, nz, he, R1, r⟩ := n
    have R2 := share (ob := .lst _) R1 nz he ⟨vs, hp, r.mono ⟨ix_app, fun _ _ _ h => h, fun _ h => .inl h, fun _ _ _ h => h⟩⟩
    exact k _ H1 _ (ext_share x1 (.inl h0)) R2 (.inl (.loc (by rw [← R1.st.len]; exact ix_snoc)))
  · cases q
    obtain ⟨p, vs, rfl, hp, h0, nz, he, R1, r⟩ := n
    have R2 := share (ob := .dct _) R1 nz he ⟨vs, hp, r.mono ⟨ix_app, fun _ _ _ h => h, fun _ h => .inl h, fun _ _ _ h => h⟩⟩
    exact k _ H1 _ (ext_share x1 (.inl h0)) R2 (.inl (.loc (by rw [← R1.st.len]; exact ix_snoc)))
  · cases q
/-! ### slices, fields -/
def rdO (K : PySem.W.Frag) (m : M (Option Int)) : TO := fun σ H Q => ∃ E σw S φ, Rl K E σw S φ σ H ∧ ∃ o S', m σw S = .ok o S' ∧ ∀ φ' H', Ext φ H φ' H' → Rl K E σw S' φ' σ H' → Q o H'
theorem _root_.L2.PO.imp {X : Cx} {e : Option Expr} {t t' : TO} (h : PO X e t) (k : ∀ σ H Q, t' σ H Q → t σ H Q) : PO X e t' := by
  obtain ⟨r⟩ := h
  refine ⟨?_⟩
  intro pins s σ H Q I q
  exact r pins s σ H Q I (k σ H Q q)
theorem po_op {o : Option Expr} {f : Expr → M W} (h : ∀ e, o = some e → PE X e (rdE X.K true (f e))) : PO X o (rdO X.K (mPart (o.map f))) := by
  cases o with
  | none => exact po_none.imp fun σ H Q ⟨E, σw, S, φ, R, w, S', q, k⟩ => by cases q; exact k φ H .refl R
  | some e =>
    refine (po_some (h e rfl)).imp fun σ H Q ⟨E, σw, S, φ, R, w, S', q, k⟩ => ?_
    obtain ⟨x, S1, e1, q⟩ := bind_ok q
    split at q
    · rename_i i
      cases q
      exact ⟨E, σw, S, φ, R, _, _, e1, fun φ1 H1 v x1 R1 r1 => ⟨i, rx_int R1 r1 rfl, k φ1 H1 x1 R1⟩⟩
    · cases q
theorem pe_slop {lo hi : Option Expr} {f : Expr → M W} {p2 : Pos} (ha : PE X a (rdE X.K true ma)) (hl : ∀ e, lo = some e → PE X e (rdE X.K true (f e))) (hh : ∀ e, hi = some e → PE X e (rdE X.K true (f e))) :
    PE X (.Subscript a (.Slice lo hi none p2) pos) (rdN X.K (mSl ma (lo.map f) (hi.map f))) :=
  (pe_slice slAny_ok ha (po_op hl) (po_op hh)).imp fun σ H Q ⟨E, σw, S, φ, R, w, S', q, k⟩ => by
    obtain ⟨x, S1, e1, q⟩ := bind_ok q
    obtain ⟨l, S2, e2, q⟩ := bind_ok q
    obtain ⟨u, S3, e3, q⟩ := bind_ok q
    obtain ⟨q2, e5⟩ := olift_ok q
    subst e5
    exact ⟨E, σw, S, φ, R, x, S1, e1, fun φ1 H1 v x1 R1 r1 => ⟨E, σw, S1, φ1, R1, l, S2, e2, fun φ2 H2 x2 R2 => ⟨E, σw, S2, φ2, R2, u, _, e3, fun φ3 H3 x3 R3 =>
      wsl_ok R3 (r1.ext (x2.trans x3)) q2 fun H' z s n => k φ3 H' z (((x1.trans x2).trans x3).trans (.same s)) (n.back ((x1.trans x2).trans x3) R3)⟩⟩⟩
theorem RL.lookup {K : PySem.W.Frag} {Z : Addr → Prop} {f : Str} : ∀ {fs : List (Str × W)} {gs : List (Str × V)}, RL K φ Z H fs gs → (fs.lookup f = none ∧ gs.lookup f = none) ∨ ∃ w v, fs.lookup f = some w ∧ gs.lookup f = some v ∧ RF K φ Z H w v
  | [], [], .nil => .inl ⟨rfl, rfl⟩
  | (g, w) :: fs, (g', v) :: gs, .cons ⟨h1, h2⟩ t => by
    simp only at h1 h2
    subst h1
    by_cases e : f = g
    · subst e
      exact .inr ⟨w, v, by simp [List.lookup], by simp [List.lookup], h2⟩
    · have e2 := beq_false_of_ne e
      rw [List.lookup_cons, List.lookup_cons, e2]
      exact RL.lookup (fs := fs) (gs := gs) t
theorem RL.put {K : PySem.W.Frag} {Z : Addr → Prop} {f : Str} {w : W} {v : V} (r : RF K φ Z H w v) : ∀ {fs : List (Str × W)} {gs : List (Str × V)}, RL K φ Z H fs gs → RL K φ Z H (fput f w fs) (putF f v gs)
  | [], [], .nil => .cons ⟨rfl, r⟩ .nil
  | (g, w) :: fs, (g', v) :: gs, .cons ⟨h1, h2⟩ t => by
    simp only at h1 h2
    subst h1
    unfold fput putF
    by_cases e : g = f
    · rw [if_pos e, if_pos e]; exact .cons ⟨rfl, r⟩ t
    · rw [if_neg e, if_neg e]; exact .cons ⟨rfl, h2⟩ (RL.put r (fs := fs) (gs := gs) t)
theorem RL.len {K : PySem.W.Frag} {Z : Addr → Prop} {fs : List (Str × W)} {gs : List (Str × V)} (h : RL K φ Z H fs gs) : fs.length = gs.length := Paired.length h
theorem rx_loc {x : W} {n : Nat} (R : Rl X.K E σw S φ σ H) (r : RX X.K E σw φ σ H br x v) (e : x = .loc n) : ∃ a, v = .ref a ∧ φ[n]? = some a := by
  subst e
  rcases rx_cases R r with r | ⟨a, rfl, h⟩
  · cases r with
    | loc h => exact ⟨_, rfl, h⟩
  · rcases h with ⟨_, _, z, _⟩ | ⟨_, _, z, _⟩ <;> cases z
theorem pe_fldop {f : Str} {ok : Str → Bool} (hb : baseOk a = true) (hf : ∀ c, ok c = true → Cls X.K (He.ga X.K c) ∧ NoAttr X.K (He.ga X.K c) f) (ha : PE X a (rdE X.K true ma)) : PE X (.Attribute a f pos) (rdE X.K br (mFld ma f ok)) :=
  (pe_fld ha (base_ok hb)).imp fun σ H Q ⟨E, σw, S, φ, R, w, S', q, k⟩ => by
    obtain ⟨x, S1, e1, q⟩ := bind_ok q
    refine ⟨E, σw, S, φ, R, x, S1, e1, fun φ1 H1 v x1 R1 r1 => ?_⟩
    split at q
    · rename_i n
      split at q
      · rename_i c fs hs
        split at q
        · rename_i hok
          obtain ⟨q2, e5⟩ := olift_ok q
          subst e5
          obtain ⟨p, rfl, hp⟩ := rx_loc R1 r1 rfl
          obtain ⟨dx, gs, h1, h2⟩ := R1.st.ob n _ p hs hp
          obtain ⟨f1, f2⟩ := hf c hok
          rcases RL.lookup (f := f) h2 with ⟨z, _⟩ | ⟨w', v', z1, z2, z3⟩
          · rw [z] at q2; cases q2
          · rw [z1] at q2; cases q2
            exact ⟨p, _, dx, gs, v', rfl, h1, f1, f2, z2, k φ1 H1 v' x1 R1 (.inl z3)⟩
        · cases q
      · cases q
    · cases q
/-! ### built-in functions -/
theorem pe_bltop {x : Str} {p : Pos} (hc : X.calm = true) (hg : Gl X x) (hm : X.mg x = none) (n : bfOf x ≠ .none) (hs : noStar (e :: es) = true) (ha : PA X (e :: es) (rdA X.K true la)) : PE X (.Call (.Name x p) (e :: es) [] pos) (rdN X.K (mBlt (bfOf x) la)) := by
  obtain ⟨hv, hn, hd⟩ := bf_boot n
  obtain ⟨s1, s2⟩ := noStar_cons hs
  have he := star_cons (es := es) (env := X.env) s1
  have hpl := (star_any (pos := pos) (env := X.env) s2).1
  have go : ∀ σ H Q, rdN X.K (mBlt (bfOf x) la) σ H Q → tCB (callAny X (bfV (bfOf x))) (rdA X.K true la) σ H Q := fun σ H Q ⟨E, σw, S, φ, R, w, S', q, k⟩ => by
    obtain ⟨xs, S1, e1, q⟩ := bind_ok q
    obtain ⟨q2, e5⟩ := olift_ok q
    subst e5
    exact ⟨E, σw, S, φ, R, xs, _, e1, fun φ1 H1 us x1 R1 r1 => wblt_ok hc R1 r1 q2 fun H' z s n => k φ1 H' z (x1.trans (.same s)) (n.back x1 R1)⟩
  cases hb : bfOf x with
  | none => exact absurd hb n
  | _ =>
    rw [hb] at hv go
    first
    | exact (pe_callB callAny_ok hg hm hv ha hn hd he hpl).imp go
    | exact (pe_callTy callAny_ok hg hm hv ha hn hd he hpl).imp go
/-! ### own defs -/
/-- what a def does, by its walk -/
def spF (K : PySem.W.Frag) (F : Fenv) (f : Str) : Sp := fun vs H Q _ => ∃ (S : Sto) (φ : List Addr) (Zo : Addr → Prop) (ws : List W), StOk K S φ (fun a => Zo a ∨ a ∈ φ) H ∧ (∀ a, a ∈ φ → ¬ Zo a) ∧ (∀ a, Zo a → H a ≠ none) ∧
  RFs K φ (fun a => Zo a ∨ a ∈ φ) H ws vs ∧ ∃ w S', F f ws S = .ok w S' ∧ ∀ φ' H' v, Ext φ H φ' H' → StOk K S' φ' (fun a => Zo a ∨ a ∈ φ') H' → RF K φ' (fun a => Zo a ∨ a ∈ φ') H' w v → Q v H'
theorem call_go {F : Fenv} {f : Str} {ws : List W} {us : List V} {Q : VK} {Ex : XK} (R : Rl X.K E σw S φ σ H) (r : RFs X.K φ (ZZ E σw φ σ) H ws us) (q : F f ws S = .ok w S') (k : ∀ φ' H' v, Ext φ H φ' H' → Rl X.K E σw S' φ' σ H' → RF X.K φ' (ZZ E σw φ' σ) H' w v → Q v H') : spF X.K F f us H Q Ex := by
  have z1 : ∀ a, ((ZZ E σw φ σ a ∧ a ∉ φ) ∨ a ∈ φ) → ZZ E σw φ σ a := fun a h => h.elim (·.1) fun m => .inr (.inl m)
  refine ⟨S, φ, fun a => ZZ E σw φ σ a ∧ a ∉ φ, ws, R.st.mono (.less z1) fun _ _ _ h => h, fun a m z => z.2 m, fun a z => by obtain ⟨o, h⟩ := R.alloc z.1; rw [h]; simp, r.mono (.less z1), w, S', q, fun φ' H' v x st rv => ?_⟩
  have z2 : ∀ a, ZZ E σw φ' σ a → ((ZZ E σw φ σ a ∧ a ∉ φ) ∨ a ∈ φ') := fun a z => by
    rcases z with z | z | ⟨i, w, h1, h2⟩
    · exact .inl ⟨.inl z, fun m => R.zφ a m z⟩
    · exact .inr z
    · obtain ⟨b, g, h, n1, _⟩ := R.ow i w h1
      rw [h2] at g; cases g
      exact .inl ⟨.inr (.inr ⟨i, w, h1, h2⟩), n1⟩
  exact k φ' H' v x (R.ext x (st.mono (.less z2) fun _ _ _ h => h)) (rv.mono (.less z2))
structure FnK (X : Cx) (F : Fenv) (f : Str) (i : FnI) : Prop where
  ex : ∃ (a : Addr) (fd : FuncData) (ps : List Str) (k : Nat) (ds : List Value) (dvs : List V), FnOk X.prog X.w X.K X.mg X.base CX0 k a fd ps (spF X.K F f) ∧ Room k X.A ∧ X.mg f = some (.ref a) ∧ PySem.W.keepIn X.K (.ref a) = true ∧
    Binds X.K fd ps ds ∧ Vals dvs ds ∧ ∀ φ Z H, RFs X.K φ Z H (i.kw.map (·.2)) dvs
  nd : (f == ("__debug__" : Str)) = false
theorem pe_callop {F : Fenv} {f : Str} {i : FnI} {p : Pos} (h : FnK X F f i) (hg : Gl X f) (hs : noStar es = true) (ha : PA X es (rdA X.K false la)) (hl : es = [] → la = mNil) : PE X (.Call (.Name f p) es [] pos) (rdE X.K br (mCall F f la (i.kw.map (·.2)))) := by
  obtain ⟨a, fd, ps, kk, ds, dvs, F1, hr, hm, hk, hb, hd, hrf⟩ := h.ex
  cases es with
  | nil =>
    cases hl rfl
    refine (pe_call0 F1 hr hg hm hk hb hd (E := E0) pass0 h.nd).imp fun σ H Q ⟨E, σw, S, φ, R, w, S', q, k⟩ => ?_
    exact call_go (Ex := E0) R (hrf _ _ _) q fun φ' H' v x R' r' => k φ' H' v x R' (.inl r')
  | cons e es =>
    obtain ⟨s1, s2⟩ := noStar_cons hs
    refine (pe_call F1 hr hg hm hk hb hd (E := E0) pass0 ha h.nd (star_cons s1) (star_any s2).1).imp fun σ H Q ⟨E, σw, S, φ, R, w, S', q, k⟩ => ?_
    obtain ⟨xs, S1, e1, q⟩ := bind_ok q
    exact ⟨E, σw, S, φ, R, xs, S1, e1, fun φ1 H1 us x1 R1 r1 => call_go (Ex := E0) R1 (r1.fr.append (hrf _ _ _)) q fun φ' H' v x R' r' => k φ' H' v (x1.trans x) R' (.inl r')⟩
/-! ### instances -/
structure MkK (X : Cx) (F : Fenv) (c : Str) : Prop where
  ex : ∃ (fI : Addr) (fd : FuncData) (ps : List Str) (k : Nat), Mk X.K (He.ga X.K c) fI ∧ FnOk X.prog X.w X.K X.mg X.base CX0 k fI fd ps (spF X.K F (c ++ ".__init__")) ∧ Room (k + 1) X.A ∧ X.mg c = some (.ref (He.ga X.K c)) ∧ Binds X.K fd ps []
  nd : (c == ("__debug__" : Str)) = false
theorem make_go {F : Fenv} {c : Str} {xs : List W} {us : List V} {Q : VK} (R : Rl X.K E σw S φ σ H) (r : RFs X.K φ (ZZ E σw φ σ) H xs us) {S2 : Sto}
    (q : F (c ++ ".__init__") (.loc S.length :: xs) (S ++ [.ins c []]) = .ok .non S2) (k : ∀ φ' H' v, Ext φ H φ' H' → Rl X.K E σw S2 φ' σ H' → RF X.K φ' (ZZ E σw φ' σ) H' (.loc S.length) v → Q v H') :
    ∀ x dx, H x = none → H dx = none → dx ≠ x → spF X.K F (c ++ ".__init__") (.ref x :: (us ++ [])) (upd (upd H dx (.own x)) x (.ins (He.ga X.K c) dx [])) (fun v H2 => v = .non ∧ Q (.ref x) H2) E0 := by
  intro x dx hx hdx hne
  have s1 : Same H (upd H dx (.own x)) := same_new hdx
  have hx1 : upd H dx (.own x) x = none := by rw [upd_ne (Ne.symm hne)]; exact hx
  have R1 := (R.same s1).plus (p := x) (o := .ins (He.ga X.K c) dx []) hx1
  have nz := (R.same s1).free hx1
  have he := enone (R.same s1) hx1
  have R2 := share (ob := .ins c []) R1 nz he ⟨dx, [], upd_same, .nil⟩
  have x2 : Ext φ H (φ ++ [x]) (upd (upd H dx (.own x)) x (.ins (He.ga X.K c) dx [])) := ext_share (.same (s1.trans (same_new hx1))) (.inl hx)
  have hl : (φ ++ [x])[S.length]? = some x := by rw [← R.st.len]; exact ix_snoc
  rw [List.append_nil]
  refine call_go (Ex := E0) R2 (.cons (.loc hl) (r.mono x2.later)) q fun φ' H' v x3 R3 r3 => ?_
  refine ⟨(rf_none_iff r3).mpr rfl, k φ' H' _ (x2.trans x3) R3 (.loc (x3.ix _ _ hl))⟩
theorem pe_makeop {F : Fenv} {c : Str} {p : Pos} (h : MkK X F c) (hg : Gl X c) (hs : noStar es = true) (ha : PA X es (rdA X.K false la)) (hl : es = [] → la = mNil) : PE X (.Call (.Name c p) es [] pos) (rdE X.K br (mMake F c (c ++ ".__init__") la)) := by
  obtain ⟨fI, fd, ps, kk, M1, F1, hr, hm, hb⟩ := h.ex
  have go : ∀ {σ H Q}, rdE X.K br (mMake F c (c ++ ".__init__") la) σ H Q → tMake (He.ga X.K c) (spF X.K F (c ++ ".__init__")) [] E0 (rdA X.K false la) σ H Q := fun {σ H Q} ⟨E, σw, S, φ, R, w, S', q, k⟩ => by
    obtain ⟨xs, S1, e1, q⟩ := bind_ok q
    obtain ⟨z, S2, e2, q⟩ := bind_ok q
    split at q
    · cases q
      exact ⟨E, σw, S, φ, R, xs, S1, e1, fun φ1 H1 us x1 R1 r1 => make_go R1 r1.fr e2 fun φ' H' v x R' r' => k φ' H' v (x1.trans x) R' (.inl r')⟩
    · cases q
  cases es with
  | nil =>
    cases hl rfl
    refine (pe_make0 M1 F1 hr hg hm hb .nil (E := E0) pass0 h.nd).imp fun σ H Q h => ?_
    obtain ⟨E, σw, S, φ, R, w, S', q, k⟩ := h
    obtain ⟨xs, S1, e1, q⟩ := bind_ok q
    cases e1
    obtain ⟨z, S2, e2, q⟩ := bind_ok q
    split at q
    · cases q
      exact make_go R .nil e2 fun φ' H' v x R' r' => k φ' H' v x R' (.inl r')
    · cases q
  | cons e es =>
    obtain ⟨s1, s2⟩ := noStar_cons hs
    exact (pe_make M1 F1 hr hg hm hb .nil (E := E0) pass0 ha h.nd (star_cons s1) (star_any s2).1).imp fun σ H Q h => go h
end
end EV

namespace EV
open PySem PySem.Spec PyProof.Rows L2
/-! ### methods -/
theorem Vals.take1 : ∀ {vs : List V} {us : List Value}, Vals vs us → Vals (vs.take 1) (us.take 1)
  | _, _, .nil => .nil
  | _, _, .cons r _ => .cons r .nil
theorem extend_tupleD (l : Addr) (items : Array Value) (n : Nat) (b : Addr) (items2 : Array Value) (n2 : Nat) (dd : Option Addr) (sl : Array (Option Value)) (hs0 : ¬(!items.isEmpty && Builtin.List.listTooLong (items.size + items2.size)) = true) (hs1 : items.size ≤ sizeLine) (hs2 : items.size + items2.size ≤ sizeLine + 1) :
    Meets (Builtin.«list.extend» ⟨[.ref l, .ref b], []⟩) (fun _ R s => s.heap.get? l = some { cls := .type "list", dict := none, data := .seq items n, slots := #[] } ∧ s.heap.get? b = some { cls := .type "tuple", dict := dd, data := .seq items2 n2, slots := sl } ∧ R (.ok (.ret Value.none)) { s with heap := s.heap.update l (Obj.mapSeq fun x => x ++ items2), toks := s.toks }) :=
  .of_wp fun prog w A R s h => by
    obtain ⟨hp, g, d, tk, os⟩ := s; obtain ⟨hl, hb, h⟩ := h; have f1 := AutoSeq1.idx_int; have f2 := AutoSeq1.sub_tuple_tuple; have f3 := AutoSeq1.sub_list_list; have f4 := AutoSeq1.sub_tuple_list; have f5 := AutoSeq1.sub_list_tuple;
    have hz' : (items ++ items2).size ≤ sizeLine + 1 := by rw [Array.size_append]; exact hs2
    wp_walk using (wpAny_updateSeq hl rfl (hz := hs1) (_hz' := hz')), AutoSeq1.wpAny_loadPart' hl, AutoSeq1.wpAny_loadPart' hb; exact ⟨_, rfl, h⟩
section
variable {X : Cx}
/-- xs.extend(t), t a tuple -/
def rExtendT (K : PySem.W.Frag) : V → List V → Hp → VK → Prop := fun x vs H Q => ∃ l b xs zs, x = .ref l ∧ vs = [.ref b] ∧ H l = some (.lst xs) ∧ SqT K H b zs ∧ xs.length + zs.length ≤ sizeLine ∧ Q .non (upd H l (.lst (xs ++ zs)))
theorem mt_extendT : MtR X "list.extend" (rExtendT X.K) := by
  intro pins s σ H x vs v us Q I rx rv h
  obtain ⟨l, b, xs, zs, rfl, rfl, hH, hB, hz, q⟩ := h
  cases rx
  obtain ⟨u, rfl, ru⟩ := rv.one
  cases ru
  obtain ⟨z, its, n, r, hl, e⟩ := I.lstM hH
  obtain ⟨its2, r2, ⟨⟨cls, dd, data, sl⟩, ho, hc, n2, hd⟩, hz2⟩ := I.tuple hB
  simp only at hc hd
  subst hc hd
  have l2 := r2.length
  have hsz : its.toArray.size + its2.toArray.size ≤ sizeLine := by rw [List.size_toArray, List.size_toArray]; omega
  have hlong : ¬ (!its.toArray.isEmpty && Builtin.List.listTooLong (its.toArray.size + its2.toArray.size)) = true := by
    rw [notLongL hsz, Bool.and_false]
    exact Bool.false_ne_true
  refine call_meets F.slot_list_extend ⟨_, e, rfl⟩ F.entry_list_extend (F.args_list_extend_2 _ _)
    (extend_tupleD l its.toArray n b its2.toArray n2 dd sl hlong (by rw [List.size_toArray]; omega) (by omega)) ⟨e, ho, ?_⟩
  refine ⟨.non, _, I.lset (its' := its ++ its2) hH e (by simp) (r.append r2) ?_, rfl, q⟩
  rw [List.length_append]
  omega
/-- xs.index(k), a list of texts -/
def rIndexL (K : PySem.W.Frag) : V → List V → Hp → VK → Prop := fun x vs H Q => ∃ (a : Addr) (ys : List Str) (k : Str), x = .ref a ∧ vs = [.str k] ∧ SqL K H a (ys.map V.str) ∧ k ∈ ys ∧ Q (.int (ys.idxOf k : Nat)) H
theorem mt_indexL : MtR X "list.index" (rIndexL X.K) := by
  intro pins s σ H x vs v us Q I rx rv h
  obtain ⟨a, ys, k, rfl, rfl, hs, hk, q⟩ := h
  cases rx
  obtain ⟨u, rfl, ru⟩ := rv.one
  obtain ⟨t, rfl⟩ := ru
  obtain ⟨its, r, p, hz⟩ := I.list hs
  exact SeqAt.list_index_strs p.isList r.strs (by simpa using hz) hk ⟨.int _, H, I.tok _, ⟨_, rfl⟩, q⟩
def rGet1 : V → List V → Hp → VK → Prop := fun x vs H Q => ∃ a y o, x = .ref a ∧ vs = [y] ∧ DGet H a y o ∧ Q (o.getD .non) H
theorem mt_get1 (hu : X.A.units + 1 < cLine) : MtR X "dict.get" rGet1 := by
  intro pins s σ H x vs v us Q I rx rv h
  obtain ⟨a, y, o, rfl, rfl, g, q⟩ := h
  cases rx
  obtain ⟨u, rfl, ru⟩ := rv.one
  exact d_get1 hu I g ru fun w' s3 I3 rw' => ⟨_, H, I3, rw', q⟩
def rGet2 : V → List V → Hp → VK → Prop := fun x vs H Q => ∃ a y z o, x = .ref a ∧ vs = [y, z] ∧ DGet H a y o ∧ Q (o.getD z) H
theorem mt_get2 (hu : X.A.units + 1 < cLine) : MtR X "dict.get" rGet2 := by
  intro pins s σ H x vs v us Q I rx rv h
  obtain ⟨a, y, z, o, rfl, rfl, g, q⟩ := h
  cases rx
  obtain ⟨u, u2, rfl, ru, ru2⟩ := rv.two
  exact d_get2 hu I g ru ru2 fun w' s3 I3 rw' => ⟨_, H, I3, rw', q⟩
def mtAny (X : Cx) (id : String) : V → List V → Hp → VK → Prop := fun x xs H Q => ∃ r, MtR X id r ∧ r x xs H Q
theorem mtAny_ok {id : String} : MtR X id (mtAny X id) := by
  intro pins s σ H x xs v us Q I rx rv h
  obtain ⟨r, h1, q⟩ := h
  exact h1 pins s σ H x xs v us Q I rx rv q
/-- the built-in method's id -/
def mtId : Kd → Mt → Option String
  | .lst, .append => some "list.append"
  | .lst, .extend => some "list.extend"
  | .lst, .pop => some "list.pop"
  | .lst, .reverse => some "list.reverse"
  | .lst, .index => some "list.index"
  | .lst, .insert => some "list.insert"
  | .dct, .get => some "dict.get"
  | _, _ => none
def kdT : Kd → String
  | .dct => "dict"
  | _ => "list"
theorem mt_id {k : Kd} {nm : Str} {id : String} (h : mtId k (mtOf nm) = some id) : PlainAttrs (kdT k) ∧ Slot (kdT k) nm id ∧ typeOf (.builtin id) = pure (.type "method_descriptor") := by
  have hn : ∀ m, mtOf nm = m → m ≠ .other → nm = (match m with | .append => "append" | .extend => "extend" | .pop => "pop" | .insert => "insert" | .reverse => "reverse" | .index => "index" | .get => "get" | .items => "items" | .values => "values" | .keys => "keys" | .other => "" : Str) := by
    intro m e n
    by_cases hh : nm = "append" ∨ nm = "extend" ∨ nm = "pop" ∨ nm = "get" ∨ nm = "index" ∨ nm = "reverse" ∨ nm = "insert" ∨ nm = "items" ∨ nm = "values" ∨ nm = "keys"
    · rcases hh with rfl | rfl | rfl | rfl | rfl | rfl | rfl | rfl | rfl | rfl <;> (subst e; decide +kernel)
    · simp only [not_or] at hh
      exfalso
      apply n
      rw [← e]
      unfold mtOf
      simp only [hh, if_false]
  cases hm : mtOf nm <;> rw [hm] at h <;> cases k <;> first
    | (cases h; done)
    | (cases h
       have e := hn _ hm (by decide)
       subst e
       first
       | exact ⟨F.plainAttrs_list, F.slot_list_append, F.type_list_append⟩
       | exact ⟨F.plainAttrs_list, F.slot_list_extend, F.type_list_extend⟩
       | exact ⟨F.plainAttrs_list, F.slot_list_pop, F.type_list_pop⟩
       | exact ⟨F.plainAttrs_list, F.slot_list_reverse, F.type_list_reverse⟩
       | exact ⟨F.plainAttrs_list, F.slot_list_index, F.type_list_index⟩
       | exact ⟨F.plainAttrs_list, F.slot_list_insert, F.type_list_insert⟩
       | exact ⟨F.plainAttrs_dict, F.slot_dict_get, F.type_dict_get⟩)
end
section
variable {X : Cx} {a b c e o : Expr} {mo m : M W} {br : Bool} {pos apos : Pos} {E : Ent} {σw : Sls} {S S' : Sto} {φ φ' : List Addr} {σ : L2.St} {H H' : Hp} {w x : W} {v : V} {es : List Expr} {la : M (List W)} {p : Addr} {Q : VK}
theorem rxs_cons1 {ws : List W} {us : List V} {y : W} (r : RXs X.K E σw φ σ H br ws us) (e : ws = [y]) : ∃ u, us = [u] ∧ RX X.K E σw φ σ H br y u := by
  subst e
  cases r with
  | cons a b => cases b; exact ⟨_, rfl, a⟩
theorem rxs_cons2 {ws : List W} {us : List V} {y z : W} (r : RXs X.K E σw φ σ H br ws us) (e : ws = [y, z]) : ∃ u t, us = [u, t] ∧ RX X.K E σw φ σ H br y u ∧ RX X.K E σw φ σ H br z t := by
  subst e
  cases r with
  | cons a b =>
    obtain ⟨t, rfl, h⟩ := rxs_cons1 b rfl
    exact ⟨_, _, rfl, a, h⟩
/-- a list changed by a method -/
theorem lstUp_ok {mt : Mt} {xs ys ws : List W} {r : W} {us vs : List V} (e : lstUp S mt xs ws = some (r, ys)) (R : Rl X.K E σw S φ σ H) (hp : H p = some (.lst vs)) (rv : RFs X.K φ (ZZ E σw φ σ) H xs vs)
    (ra : RXs X.K E σw φ σ H (decide (mt = .extend)) ws us) (k : ∀ vs' z, RFs X.K φ (ZZ E σw φ σ) H ys vs' → RF X.K φ (ZZ E σw φ σ) H r z → Q z (upd H p (.lst vs'))) :
    ∃ id, mtId .lst mt = some id ∧ mtAny X id (.ref p) us H Q := by
  unfold lstUp at e
  split at e
  · rename_i y
    split at e
    · rename_i hl
      cases e
      obtain ⟨u, rfl, ru⟩ := rxs_cons1 ra rfl
      rw [rv.len] at hl
      exact ⟨_, rfl, _, mt_append, p, vs, u, rfl, rfl, hp, lim_lt hl, k _ _ (rv.append (.cons ru.fr .nil)) .non⟩
    · cases e
  · rename_i y
    obtain ⟨u, rfl, ru⟩ := rxs_cons1 ra rfl
    split at e
    · rename_i zs hz
      split at e
      · rename_i hl
        cases e
        obtain ⟨b, bs, rfl, hb, rb⟩ := rx_lst R ru hz
        rw [rv.len, rb.len] at hl
        exact ⟨_, rfl, _, mt_extend, p, b, vs, bs, rfl, rfl, hp, hb, lim_size hl, k _ _ (rv.append rb) .non⟩
      · cases e
    · rename_i zs hz
      split at e
      · rename_i hl
        cases e
        obtain ⟨b, bs, rfl, hb, rb⟩ := rx_tup R ru hz
        rw [rv.len, rb.len] at hl
        exact ⟨_, rfl, _, mt_extendT, p, b, vs, bs, rfl, rfl, hp, hb.sq, lim_size hl, k _ _ (rv.append rb) .non⟩
      · cases e
    · cases e
  · cases ra
    split at e
    · rename_i y hy
      cases e
      obtain ⟨z, hz, rz⟩ := rv.get hy
      rw [rv.len] at hz
      exact ⟨_, rfl, _, mt_pop, p, vs, z, rfl, rfl, hp, hz, k _ _ rv.dropLast rz⟩
    · cases e
  · rename_i i
    split at e
    · rename_i hi
      split at e
      · rename_i j hj
        split at e
        · rename_i y hy
          cases e
          obtain ⟨u, rfl, ru⟩ := rxs_cons1 ra rfl
          cases rx_int R ru rfl
          obtain ⟨z, hz, rz⟩ := rv.get hy
          rw [rv.len] at hj
          exact ⟨_, rfl, _, mt_popAt, p, vs, i, j, z, rfl, rfl, hp, hi.1, hi.2, (ixN_seq hj).1, hz, k _ _ (rv.eraseIdx j) rz⟩
        · cases e
      · cases e
    · cases e
  · cases ra
    cases e
    exact ⟨_, rfl, _, mt_reverse, p, vs, rfl, rfl, hp, k _ _ rv.reverse .non⟩
  · rename_i i y
    split at e
    · rename_i hi
      cases e
      obtain ⟨u, t, rfl, ru, rt⟩ := rxs_cons2 ra rfl
      cases rx_int R ru rfl
      rw [rv.len] at hi
      exact ⟨_, rfl, _, mt_insert, p, vs, i, t, rfl, rfl, hp, lim_lt hi.2.2, hi.1, hi.2.1, k _ _ (((rv.take i.toNat).append (.cons rt.fr .nil)).append (rv.drop i.toNat)) .non⟩
    · cases e
  · cases e
/-- a list read by a method -/
theorem lstRd_ok {mt : Mt} {xs ws : List W} {us vs : List V} (e : wrd mt (.lst xs) ws = some w) (hp : H p = some (.lst vs)) (rv : RFs X.K φ (ZZ E σw φ σ) H xs vs) (R : Rl X.K E σw S φ σ H)
    (ra : RXs X.K E σw φ σ H (decide (mt = .extend)) ws us) (k : ∀ z, RF X.K φ (ZZ E σw φ σ) H w z → Q z H) : ∃ id, mtId .lst mt = some id ∧ mtAny X id (.ref p) us H Q := by
  unfold wrd at e
  split at e
  · rename_i ys0 kk hy
    cases hy
    split at e
    · rename_i ys hs
      split at e
      · rename_i hm
        cases e
        obtain ⟨u, rfl, ru⟩ := rxs_cons1 ra rfl
        cases rx_str R ru rfl
        have e1 := rv.strs hs
        subst e1
        exact ⟨_, rfl, _, mt_indexL, p, ys, kk, rfl, rfl, SqL.of hp, hm, k _ (.int _)⟩
      · cases e
    · cases e
  · rename_i h; cases h
  · rename_i h; cases h
  · cases e
theorem dctRd_ok {mt : Mt} {xs : List (Key × W)} {ws : List W} {us : List V} {vs : List (Key × V)} (hu : X.A.units + 1 < cLine) (e : wrd mt (.dct xs) ws = some w) (hp : H p = some (.dK vs)) (rv : RKs X.K φ (ZZ E σw φ σ) H xs vs) (R : Rl X.K E σw S φ σ H)
    (ra : RXs X.K E σw φ σ H (decide (mt = .extend)) ws us) (k : ∀ z, RF X.K φ (ZZ E σw φ σ) H w z → Q z H) : ∃ id, mtId .dct mt = some id ∧ mtAny X id (.ref p) us H Q := by
  unfold wrd at e
  split at e
  · rename_i h; cases h
  · rename_i kvs kk hy
    cases hy
    obtain ⟨q, e1, e2⟩ := Option.map_eq_some_iff.mp e
    subst e2
    obtain ⟨u, rfl, ru⟩ := rxs_cons1 ra rfl
    have hy : vw S kk = kk := by cases kk <;> first | rfl | cases e1
    cases rx_key (k := q) R ru (by rw [hy]; exact e1)
    refine ⟨_, rfl, _, mt_get1 hu, p, _, valV vs q, rfl, rfl, DGet.k hp, ?_⟩
    rcases rv.val q with ⟨z1, z2⟩ | ⟨w', z, z1, z2, r3⟩
    · rw [z2]; exact k _ (by rw [z1]; exact .non)
    · rw [z2]; exact k _ (by rw [z1]; exact r3)
  · rename_i kvs kk dd hy
    cases hy
    obtain ⟨q, e1, e2⟩ := Option.map_eq_some_iff.mp e
    subst e2
    obtain ⟨u, t, rfl, ru, rt⟩ := rxs_cons2 ra rfl
    have hy : vw S kk = kk := by cases kk <;> first | rfl | cases e1
    cases rx_key (k := q) R ru (by rw [hy]; exact e1)
    refine ⟨_, rfl, _, mt_get2 hu, p, _, t, valV vs q, rfl, rfl, DGet.k hp, ?_⟩
    rcases rv.val q with ⟨z1, z2⟩ | ⟨w', z, z1, z2, r3⟩
    · rw [z2]; exact k _ (by rw [z1]; exact rt.fr)
    · rw [z2]; exact k _ (by rw [z1]; exact r3)
  · cases e
/-- one shared object is written -/
theorem Rl.write {n : Nat} {ob : Ob} {ho : HO} (R : Rl X.K E σw S φ σ H) (hp : φ[n]? = some p) (hf : ∀ o u, H p ≠ some (.frz o u)) (h : (∀ (φ' : List Addr) (Z' : Addr → Prop) (H' : Hp), Later φ (ZZ E σw φ σ) H φ' Z' H' → H' p = some ho → HoldsO X.K φ' Z' H' ob p)) :
    Ext φ H φ (upd H p ho) ∧ Rl X.K E σw (S.set n ob) φ σ (upd H p ho) := by
  have x : Ext φ H φ (upd H p ho) := ⟨fun _ _ h => h, fun a o n h => by rw [upd_ne (fun z => n (by rw [z]; exact mem_of_ix hp))]; exact h, fun a h => .inl h, fz_upd hf⟩
  exact ⟨x, R.ext x (R.st.set hp x.later (h _ _ _ x.later upd_same))⟩
end
end EV

namespace EV
open PySem PySem.Spec PyProof.Rows L2
section
variable {X : Cx} {a b c e o : Expr} {mo m : M W} {br : Bool} {pos apos : Pos} {E : Ent} {σw : Sls} {S S' : Sto} {φ φ' : List Addr} {σ : L2.St} {H H' : Hp} {w x : W} {v : V} {es : List Expr} {la : M (List W)} {p : Addr} {Q : VK}
/-! ### methods called -/
theorem meth_ht {nm : Str} {env : PySem.Env} (hb : attributeBase o nm env (eval o env) = eval o env) (hl : (apos.endLine == pos.line) = true) (hs : noStar es = true) (hn : es.length < 28) :
    eval (.Call (.Attribute o nm apos) es [] pos) env = (do
      let ov ← eval o env
      standAt apos.atName
      let (f, first) ← holding [ov] (getMethod ov nm (do return (← importBound o env).getD true))
      callWith pos f first (backTo pos (starEach es env)) (backToKw pos (keywordEach [] env))) := by
  rw [arm_eval_Call, hb]
  have hform : methodCallForm (es.length + ([] : List Keyword).length) (backTo pos (starEach es env)) (backToKw pos (keywordEach [] env)) = true := by
    unfold methodCallForm
    rw [(star_any hs).2]
    have : decide (es.length + 0 + 0 < 30) = true := decide_eq_true (by omega)
    exact this
  have hpos : methodCallPos true o env apos pos = pure pos := by unfold methodCallPos; simp [hl]
  unfold methodCall
  rw [hform, hpos]
  rfl
structure MtK (X : Cx) (F : Fenv) (c nm q : Str) : Prop where
  ex : ∃ (fI : Addr) (fd : FuncData) (ps : List Str) (k : Nat), Cls X.K (He.ga X.K c) ∧ Meth X.K (He.ga X.K c) nm fI ∧ FnOk X.prog X.w X.K X.mg X.base CX0 k fI fd ps (spF X.K F q) ∧ Room k X.A ∧ Binds X.K fd ps []
theorem kd_lst (h : kdOf S x = .lst) : ∃ xs, vw S x = .lst xs := by
  cases x with
  | loc n =>
    simp only [kdOf] at h
    simp only [vw]
    split at h <;> first | (cases h; done) | (cases h; rename_i xs hs; exact ⟨xs, by rw [hs]⟩)
  | lst xs => exact ⟨xs, rfl⟩
  | _ => cases h
theorem kd_dct (h : kdOf S x = .dct) : ∃ xs, vw S x = .dct xs := by
  cases x with
  | loc n =>
    simp only [kdOf] at h
    simp only [vw]
    split at h <;> first | (cases h; done) | (cases h; rename_i xs hs; exact ⟨xs, by rw [hs]⟩)
  | dct xs => exact ⟨xs, rfl⟩
  | _ => cases h
theorem kd_ins {c : Str} {fs : List (Str × W)} (h : kdOf S x = .ins c fs) : ∃ n, x = .loc n ∧ S[n]? = some (.ins c fs) := by
  cases x with
  | loc n =>
    simp only [kdOf] at h
    split at h
    · rename_i c' fs' hs; cases h; exact ⟨n, rfl, hs⟩
    · cases h
    · cases h
    · cases h
  | _ => cases h
/-- a built-in method, at the end -/
theorem doB_ok {nm : Str} {k : Kd} {us : List V} {ws : List W} (hu : X.A.units + 1 < cLine) (hk : k = .lst ∨ k = .dct) (R : Rl X.K E σw S φ σ H) (rx : RX X.K E σw φ σ H true x v) (ra : RXs X.K E σw φ σ H (decide (mtOf nm = .extend)) ws us)
    (q : doB k (mtOf nm) x ws S = .ok w S') (kk : ∀ φ' H' z, Ext φ H φ' H' → Rl X.K E σw S' φ' σ H' → RF X.K φ' (ZZ E σw φ' σ) H' w z → Q z H') :
    ∃ id, mtId k (mtOf nm) = some id ∧ mtAny X id v us H Q := by
  unfold doB at q
  split at q
  · rename_i xs hx
    obtain ⟨p, vs, rfl, hp, rv⟩ := rx_lst R rx hx
    have rd : olift (wrd (mtOf nm) (.lst xs) ws) S = .ok w S' → ∃ id, mtId .lst (mtOf nm) = some id ∧ mtAny X id (.ref p) us H Q := fun q => by
      obtain ⟨q2, e5⟩ := olift_ok q
      subst e5
      exact lstRd_ok q2 hp rv R ra fun z r => kk φ H z .refl R r
    split at q
    · rename_i n r ys hl
      cases q
      obtain ⟨p', e1, hn⟩ := rx_loc R rx rfl
      cases e1
      exact lstUp_ok hl R hp rv ra fun vs' z r1 r2 => by
        obtain ⟨x2, R2⟩ := R.write (ob := .lst ys) (ho := .lst vs') hn (nfz hp fun _ _ z => by cases z) fun φ' Z' H' L h => ⟨vs', h, r1.mono L⟩
        exact kk φ _ z x2 R2 (r2.mono x2.later)
    · exact rd q
  · rename_i kvs hx
    obtain ⟨p, vs, rfl, hp, rv⟩ := rx_dct R rx hx
    obtain ⟨q2, e5⟩ := olift_ok q
    subst e5
    exact dctRd_ok hu q2 hp rv R ra fun z r => kk φ H z .refl R r
  · cases q
theorem pe_methop {nm : Str} {F : Fenv} {own : Str → Option Str} (hu : X.A.units + 64 < cLine) (hown : ∀ c q, own c = some q → MtK X F c nm q) (hok : methOk o apos pos es = true) (ho : PE X o (rdE X.K true mo))
    (ha : PA X es (rdA X.K (decide (mtOf nm = .extend)) la)) (hl : es = [] → la = mNil) : PE X (.Call (.Attribute o nm apos) es [] pos) (rdE X.K br (mMeth F own (mtOf nm) nm mo la)) := by
  simp only [methOk, callOk, Bool.and_eq_true, decide_eq_true_eq] at hok
  obtain ⟨⟨hb, hline⟩, hs, hn⟩ := hok
  have hbase := base_ok (f := nm) (env := X.env) hb
  have ht := meth_ht (es := es) (pos := pos) (apos := apos) hbase hline hs hn
  refine PE.any fun σ H Q ⟨E, σw, S, φ, R, w, S', q, k⟩ => ?_
  obtain ⟨x, S1, e1, q⟩ := bind_ok q
  -- a built-in one
  have bi : ∀ kd, (kd = .lst ∨ kd = .dct) → kdOf S1 x = kd → ((la σw S1).bind fun ws S2 => doB kd (mtOf nm) x ws S2) = .ok w S' → ∃ t, PE X (.Call (.Attribute o nm apos) es [] pos) t ∧ t σ H Q := fun kd hkd hkx q => by
    obtain ⟨ws, S2, e2, q⟩ := bind_ok q
    have hid : ∃ id, mtId kd (mtOf nm) = some id := by
      cases hm : mtId kd (mtOf nm) with
      | some id => exact ⟨id, rfl⟩
      | none =>
        exfalso
        rcases hkd with rfl | rfl
        · unfold doB at q
          split at q
          · rename_i xs h00 hx
            cases hmm : mtOf nm <;> rw [hmm] at q hm <;> first
              | (cases hm; done)
              | (have e0 : lstUp S2 Mt.get xs ws = none ∧ lstUp S2 Mt.items xs ws = none ∧ lstUp S2 Mt.values xs ws = none ∧ lstUp S2 Mt.keys xs ws = none ∧ lstUp S2 Mt.other xs ws = none := ⟨rfl, rfl, rfl, rfl, rfl⟩
                 simp only [e0.1, e0.2.1, e0.2.2.1, e0.2.2.2.1, e0.2.2.2.2, wrd, olift] at q
                 cases q)
          · rename_i h _; cases h
          · cases q
        · unfold doB at q
          split at q
          · rename_i h _; cases h
          · rename_i kvs h00 hx
            cases hmm : mtOf nm <;> rw [hmm] at q hm <;> first
              | (cases hm; done)
              | (simp only [wrd, olift] at q; cases q)
          · cases q
    obtain ⟨id, hid⟩ := hid
    obtain ⟨f1, f2, f3⟩ := mt_id hid
    have ty : ∀ φ1 H1 v, Rl X.K E σw S1 φ1 σ H1 → RX X.K E σw φ1 σ H1 true x v → tyV X.K (kdT kd) v H1 := fun φ1 H1 v R1 r1 => by
      rcases hkd with rfl | rfl
      · obtain ⟨xs, hx⟩ := kd_lst hkx
        obtain ⟨p, vs, rfl, hp, _⟩ := rx_lst R1 r1 hx
        exact .inl ⟨rfl, vs, SqL.of hp⟩
      · obtain ⟨xs, hx⟩ := kd_dct hkx
        obtain ⟨p, vs, rfl, hp, _⟩ := rx_dct R1 r1 hx
        exact .inr (.inr (.inl ⟨rfl, .inl ⟨vs, hp⟩⟩))
    have fin : ∀ φ1 H1 v φ2 H2 us, Ext φ H φ1 H1 → Rl X.K E σw S1 φ1 σ H1 → RX X.K E σw φ1 σ H1 true x v → Ext φ1 H1 φ2 H2 → Rl X.K E σw S2 φ2 σ H2 → RXs X.K E σw φ2 σ H2 (decide (mtOf nm = .extend)) ws us → mtAny X id v us H2 Q :=
      fun φ1 H1 v φ2 H2 us x1 R1 r1 x2 R2 r2 => by
        obtain ⟨id', h1, h2⟩ := doB_ok (Q := Q) (by omega) hkd R2 (r1.ext x2) r2 q fun φ' H' z x3 R3 r3 => k φ' H' z ((x1.trans x2).trans x3) R3 (.inl r3)
        rw [hid] at h1; cases h1
        exact h2
    cases es with
    | nil =>
      cases hl rfl
      cases e2
      exact ⟨_, pe_bm0 f1 f2 f3 mtAny_ok ho hbase hline, E, σw, S, φ, R, x, S1, e1, fun φ1 H1 v x1 R1 r1 => ⟨ty φ1 H1 v R1 r1, fin φ1 H1 v φ1 H1 [] x1 R1 r1 .refl R1 .nil⟩⟩
    | cons e es =>
      obtain ⟨s1, s2⟩ := noStar_cons hs
      refine ⟨_, pe_bm f1 f2 f3 mtAny_ok ho ha hbase ?_ hline (star_cons s1) (star_any s2).1, E, σw, S, φ, R, x, S1, e1, fun φ1 H1 v x1 R1 r1 => ⟨ty φ1 H1 v R1 r1, E, σw, S1, φ1, R1, ws, S2, e2, fun φ2 H2 us x2 R2 r2 => fin φ1 H1 v φ2 H2 us x1 R1 r1 x2 R2 r2⟩⟩
      rw [(star_any hs).2]
      have : decide ((e :: es).length + 0 + 0 < 30) = true := decide_eq_true (by omega)
      exact this
  unfold goMeth at q
  split at q
  · rename_i c fs hk
    obtain ⟨n, rfl, hS⟩ := kd_ins hk
    split at q
    · rename_i q0 h1 h2 h3
      obtain ⟨ws, S2, e2, q⟩ := bind_ok q
      obtain ⟨fI, fd, ps, kk, C1, M1, F1, hr, hbd⟩ := (hown c q0 h1).ex
      have hx : decide (mtOf nm = .extend) = false := h3
      have at1 : ∀ φ1 H1 v, Rl X.K E σw S1 φ1 σ H1 → RX X.K E σw φ1 σ H1 true (.loc n) v → ∃ a dx gs, v = .ref a ∧ H1 a = some (.ins (He.ga X.K c) dx gs) ∧ gs.lookup nm = none ∧ φ1[n]? = some a := fun φ1 H1 v R1 r1 => by
        obtain ⟨p, rfl, hp⟩ := rx_loc R1 r1 rfl
        obtain ⟨dx, gs, g1, g2⟩ := R1.st.ob n _ p hS hp
        refine ⟨p, dx, gs, rfl, g1, ?_, hp⟩
        rcases RL.lookup (f := nm) g2 with ⟨_, z⟩ | ⟨w', v', z1, _⟩
        · exact z
        · rw [h2] at z1; cases z1
      cases es with
      | nil =>
        cases hl rfl
        cases e2
        refine ⟨_, pe_meth0 ho C1 M1 F1 hr hbd .nil (E := E0) pass0 ht, E, σw, S, φ, R, _, S1, e1, fun φ1 H1 v x1 R1 r1 => ?_⟩
        obtain ⟨a, dx, gs, rfl, g1, g2, g3⟩ := at1 φ1 H1 v R1 r1
        exact ⟨a, dx, gs, rfl, g1, g2, call_go (Ex := E0) R1 (.cons (.loc g3) .nil) q fun φ' H' v x R' r' => k φ' H' v (x1.trans x) R' (.inl r')⟩
      | cons e es =>
        obtain ⟨s1, s2⟩ := noStar_cons hs
        rw [hx] at ha
        refine ⟨_, pe_meth ho C1 M1 F1 hr hbd .nil (E := E0) pass0 ha (star_cons s1) (star_any s2).1 ht, E, σw, S, φ, R, _, S1, e1, fun φ1 H1 v x1 R1 r1 => ?_⟩
        obtain ⟨a, dx, gs, rfl, g1, g2, g3⟩ := at1 φ1 H1 v R1 r1
        refine ⟨a, dx, gs, rfl, g1, g2, E, σw, S1, φ1, R1, ws, S2, e2, fun φ2 H2 us x2 R2 r2 => ?_⟩
        show spF X.K F q0 (.ref a :: (us ++ [])) H2 Q E0
        rw [List.append_nil]
        exact call_go (Ex := E0) R2 (.cons (.loc (x2.ix _ _ g3)) r2.fr) q fun φ' H' v x R' r' => k φ' H' v ((x1.trans x2).trans x) R' (.inl r')
    · cases q
  · cases q
  · rename_i h1 h2
    cases hk : kdOf S1 x with
    | ins c fs => exact absurd hk (h1 c fs)
    | bad => exact absurd hk h2
    | lst => rw [hk] at q; exact bi .lst (.inl rfl) hk q
    | dct => rw [hk] at q; exact bi .dct (.inr rfl) hk q
    | str => rw [hk] at q; obtain ⟨ws, S2, e2, q⟩ := bind_ok q; simp only [doB] at q; cases q
    | tup => rw [hk] at q; obtain ⟨ws, S2, e2, q⟩ := bind_ok q; simp only [doB] at q; cases q
/-- t.index(k), a tuple of texts -/
def rIndexT (K : PySem.W.Frag) : V → List V → Hp → VK → Prop := fun x vs H Q => ∃ (a : Addr) (ys : List Str) (k : Str), x = .ref a ∧ vs = [.str k] ∧ SqT K H a (ys.map V.str) ∧ k ∈ ys ∧ Q (.int (ys.idxOf k : Nat)) H
theorem mt_indexT : MtR X "tuple.index" (rIndexT X.K) := by
  intro pins s σ H x vs v us Q I rx rv h
  obtain ⟨a, ys, k, rfl, rfl, hs, hk, q⟩ := h
  cases rx
  obtain ⟨u, rfl, ru⟩ := rv.one
  obtain ⟨t, rfl⟩ := ru
  obtain ⟨its, r, p, _⟩ := I.tuple hs
  exact SeqAt.tuple_index_strs (show s.heap.IsTuple a its.toArray from p) r.strs hk ⟨.int _, H, I.tok _, ⟨_, rfl⟩, q⟩
theorem pe_tixop {x m : Str} {ws : List W} {p0 p q : Pos} {a : Expr} {ma : M W} {v : V} (hp : PE X (.Name x p0) (fun _ H Q => Q v H)) (h1 : ∀ φ Z H, RF X.K φ Z H (.tup ws) v) (hm : m = ("index" : Str)) (hok : methOk (.Name x p0) p q [a] = true) (ha : PE X a (rdE X.K false ma)) :
    PE X (.Call (.Attribute (.Name x p0) m p) [a] [] q) (rdE X.K br (mTIx ws ma)) := by
  subst hm
  simp only [methOk, callOk, Bool.and_eq_true, decide_eq_true_eq] at hok
  obtain ⟨⟨hb, hline⟩, hs, hn⟩ := hok
  have hbase := base_ok (f := "index") (env := X.env) hb
  obtain ⟨s1, s2⟩ := noStar_cons hs
  have h0 := h1 [] (fun _ => True) (fun _ => none)
  cases h0 with
  | tup h r =>
    rename_i a0 vs
    rcases h with ⟨_, n⟩ | ⟨o, its, n, k1, k2, k3, k4⟩
    · exact absurd trivial n
    · refine (pe_bm F.plainAttrs_tuple F.slot_tuple_index F.type_tuple_index mt_indexT hp (pa_consop s1 ha pa_nilop) hbase ?_ hline (star_cons s1) (star_any s2).1).imp fun σ H Q ⟨E, σw, S, φ, R, w, S', qq, k⟩ => ?_
      · rw [(star_any hs).2]
        rfl
      · obtain ⟨y, S1, e1, qq⟩ := bind_ok qq
        obtain ⟨q2, e5⟩ := olift_ok qq
        subst e5
        refine ⟨.inr (.inl ⟨rfl, o, k1, k2, k3⟩), E, σw, S, φ, R, [y], S', by unfold mCons; rw [e1]; rfl, fun φ1 H1 us x1 R1 r1 => ?_⟩
        obtain ⟨u, rfl, ru⟩ := rxs_cons1 r1 rfl
        have hsq : SqT X.K H1 a0 vs := .inr ⟨o, its, n, k1, k2, k4⟩
        cases y with
        | str kk =>
          simp only [wrd] at q2
          split at q2
          · rename_i ys hst
            split at q2
            · rename_i hmem
              cases q2
              cases rx_str R1 ru rfl
              have e1 := r.strs hst
              subst e1
              exact ⟨a0, ys, kk, rfl, rfl, hsq, hmem, k φ1 H1 _ x1 R1 (.inl (.int _))⟩
            · cases q2
          · cases q2
        | _ => simp only [wrd] at q2; cases q2
/-- d.get(k, x), d a dict of the top with text keys -/
structure TblK (K : PySem.W.Frag) (w : World) (mg : Str → Option Value) (x : Str) (t : List (Str × W) × List Str) : Prop where
  ex : ∃ (d : Addr) (es : Array DictEntry) (n : Nat), KDict K w d es n ∧ mg x = some (.ref d) ∧
    (∀ s y, (s, y) ∈ t.1 → ∃ u v, PySem.W.nsIn K d s = some (some u) ∧ RelV v u ∧ ∀ φ Z H, RF K φ Z H y v) ∧ ∀ s, s ∈ t.2 → PySem.W.nsIn K d s = some none
  nd : (x == ("__debug__" : Str)) = false
theorem tbl_mem {s : Str} {w : W} : ∀ {l : List (Str × W)}, l.lookup s = some w → (s, w) ∈ l
  | [], h => by cases h
  | (a, b) :: l, h => by
    rw [List.lookup_cons] at h
    cases e : s == a with
    | true => rw [e] at h; cases h; rw [eq_of_beq e]; exact List.mem_cons_self ..
    | false => rw [e] at h; exact List.mem_cons_of_mem _ (tbl_mem h)
theorem pe_tgetop {x m : Str} {t : List (Str × W) × List Str} {p0 p q : Pos} {a b : Expr} {ma mb : M W} (C : TblK X.K X.w X.mg x t) (hg : Gl X x) (hm : m = ("get" : Str)) (hok : methOk (.Name x p0) p q [a, b] = true) (ha : PE X a (rdE X.K false ma)) (hb : PE X b (rdE X.K false mb)) :
    PE X (.Call (.Attribute (.Name x p0) m p) [a, b] [] q) (rdE X.K br (mTGet t ma mb)) := by
  subst hm
  obtain ⟨⟨d, es, n, D, hd, hv, hn⟩, hdb⟩ := C
  simp only [methOk, callOk, Bool.and_eq_true, decide_eq_true_eq] at hok
  obtain ⟨⟨hb0, hline⟩, hs, hn0⟩ := hok
  have hbase := base_ok (f := "get") (env := X.env) hb0
  obtain ⟨s1, s2⟩ := noStar_cons hs
  obtain ⟨s3, s4⟩ := noStar_cons s2
  have ho : PE X (.Name x p0) (tC (.ref d)) := pe_glob hg hd rfl hdb
  have htr : backTo q (starEach [a, b] X.env) = [(false, eval a X.env), (false, eval b X.env)] := by
    rw [star_cons s1, star_cons s3]
    rfl
  have M : M2 X (.Name x p0) "get" p a b q := ⟨hbase, by rw [htr]; rfl, hline, htr⟩
  refine ⟨fun pins s σ H Q I ⟨E, σw, S, φ, R, w, S', qq, k⟩ => ?_⟩
  obtain ⟨kw, S1, e1, qq⟩ := bind_ok qq
  obtain ⟨dw, S2, e2, qq⟩ := bind_ok qq
  obtain ⟨q2, e5⟩ := olift_ok qq
  subst e5
  refine wpAny_Call_method M.base M.few M.line PySem.F.plainAttrs_dict PySem.F.slot_dict_get PySem.F.type_dict_get (thn (ho.run pins s σ H (fun v H1 => v = .ref d ∧ H1 = H) I ⟨rfl, rfl⟩) fun u s1 ⟨y, H1, I1, rx, ex, eh⟩ => ?_)
  subst ex eh
  obtain rfl : u = Value.ref d := rx
  refine ⟨kd_type D I1, fun b q => ?_, ?_⟩
  · cases q
    exact ⟨_, I1.kIn d _ D.at_, rfl⟩
  rw [M.trees]
  refine Calls.callWith_builtin rfl (Calls.evalArgs_plain (Calls.spliced_cons (thn (ha.run pins s1 σ H1 _ I1 ⟨E, σw, S, φ, R, kw, S1, e1, fun φ1 H2 v x1 R1 r1 => (⟨φ1, x1, R1, r1⟩ : ∃ φ1, Ext φ H1 φ1 H2 ∧ Rl X.K E σw S1 φ1 σ H2 ∧ RX X.K E σw φ1 σ H2 false kw v)⟩) fun iv s2 ⟨y, H2, I2, ry, φ1, x1, R1, r1⟩ =>
    Calls.spliced_cons (thn (hb.run pins s2 σ H2 _ I2 ⟨E, σw, S1, φ1, R1, dw, _, e2, fun φ2 H3 v x2 R2 r2 => (⟨φ2, x2, R2, r2⟩ : ∃ φ2, Ext φ1 H2 φ2 H3 ∧ Rl X.K E σw S' φ2 σ H3 ∧ RX X.K E σw φ2 σ H3 false dw v)⟩) fun fv s3 ⟨z, H3, I3, rz, φ2, x2, R2, r2⟩ => Calls.spliced_nil ?_))))
  cases kw with
  | str kk =>
    cases rx_str R1 r1 rfl
    obtain ⟨t0, rfl⟩ := ry
    simp only [wTGet] at q2
    refine call_meetsIn PySem.F.slot_dict_get (kd_type D I3) PySem.F.entry_dict_get (PySem.F.args_dict_get_3 _ _ _) (meets_dict_get_default (strKind X.prog X.w) d (PySem.strKind_is X.prog X.w kk t0) D.low fv) ⟨_, PySem.W.mapOf_K (prog := X.prog) I3.kIn D.at_ D.lit, ?_⟩
    cases hl : t.1.lookup kk with
    | some w0 =>
      rw [hl] at q2
      cases q2
      obtain ⟨u, v, h1, h2, h3⟩ := hv _ _ (tbl_mem hl)
      rw [PySem.W.find_K D.at_ h1]
      exact ⟨v, H3, I3.tok _, h2, k φ2 H3 v (x1.trans x2) R2 (.inl (h3 _ _ _))⟩
    | none =>
      rw [hl] at q2
      simp only at q2
      split at q2
      · rename_i hc
        cases q2
        rw [PySem.W.find_K D.at_ (hn kk (List.contains_iff_mem.mp hc))]
        exact ⟨z, H3, I3.tok _, rz, k φ2 H3 z (x1.trans x2) R2 (.inl r2.fr)⟩
      · cases q2
  | _ => simp only [wTGet] at q2; cases q2
/-! ### a dict of the top whose text keys are all known -/
structure DtsK (K : PySem.W.Frag) (w : World) (mg : Str → Option Value) (x : Str) (t : List (Str × W)) : Prop where
  ex : ∃ (d : Addr) (es : Array DictEntry) (n : Nat), KDict K w d es n ∧ mg x = some (.ref d) ∧
    (∀ s y, t.lookup s = some y → ∃ u v, PySem.W.nsIn K d s = some (some u) ∧ RelV v u ∧ ∀ φ Z H, RF K φ Z H y v) ∧ ∀ s, t.lookup s = none → PySem.W.nsIn K d s = some none
  nd : (x == ("__debug__" : Str)) = false
theorem tin_go {x : Str} {t : List (Str × W)} {ng : Bool} {ma : M W} {d : Addr} {r : Bool → R2} {R0 : Bool → Hp → Prop} {Qf : VK} (get : ∀ (s : Str), ∃ r, PySem.W.nsIn X.K d s = some r ∧ r.isSome = (t.lookup s).isSome)
    (hr : ∀ (s : Str) (o : Option Value) H1 Q1, PySem.W.nsIn X.K d s = some o → Q1 (.bl (o.isSome != ng)) H1 → r ng (.str s) (.ref d) H1 Q1) (k0 : ∀ b H1, R0 b H1 → Qf (.bl b) H1) (q : rdT X.K (mTIn t ng ma) σ H R0) : tOp (r ng) (rdE X.K true ma) (tC (.ref d)) σ H Qf := by
  obtain ⟨E, σw, S, φ, R, b, S', q, k⟩ := q
  obtain ⟨y, S1, e1, q⟩ := bind_ok q
  obtain ⟨q2, e5⟩ := olift_ok q
  subst e5
  refine ⟨E, σw, S, φ, R, y, _, e1, fun φ1 H1 v x1 R1 r1 => ?_⟩
  cases y with
  | str s =>
    cases rx_str R1 r1 rfl
    obtain ⟨o, h1, h2⟩ := get s
    cases q2
    refine hr s o H1 _ h1 ?_
    rw [h2]
    exact k0 _ _ (k φ1 H1 x1 R1)
  | _ => cases q2
theorem dts_get {x : Str} {t : List (Str × W)} {d : Addr} (hv : ∀ s y, t.lookup s = some y → ∃ u v, PySem.W.nsIn X.K d s = some (some u) ∧ RelV v u ∧ ∀ φ Z H, RF X.K φ Z H y v) (hn : ∀ s, t.lookup s = none → PySem.W.nsIn X.K d s = some none) (s : Str) : ∃ r, PySem.W.nsIn X.K d s = some r ∧ r.isSome = (t.lookup s).isSome := by
  cases hl : t.lookup s with
  | none => exact ⟨none, hn s hl, rfl⟩
  | some y => obtain ⟨u, v, h1, _⟩ := hv s y hl; exact ⟨some u, h1, rfl⟩
theorem pe_tinop {x : Str} {t : List (Str × W)} {op : CmpOp} {ng : Bool} {p0 pos : Pos} {a : Expr} {ma : M W} (C : DtsK X.K X.w X.mg x t) (hg : Gl X x) (hop : inOp op = some ng) (hm : behindInMarks op (.Name x p0) = false) (ha : PE X a (rdE X.K true ma)) :
    PE X (.Compare a [op] [.Name x p0] pos) (rdE X.K br (mVal (mTIn t ng ma))) := by
  obtain ⟨⟨d, es, n, D, hd, hv, hn⟩, hdb⟩ := C
  have ho : PE X (.Name x p0) (tC (.ref d)) := pe_glob hg hd rfl hdb
  have go : ∀ σ H Q, rdE X.K br (mVal (mTIn t ng ma)) σ H Q → rdT X.K (mTIn t ng ma) σ H fun b H1 => Q (.bl b) H1 := fun σ H Q ⟨E, σw, S, φ, R, w, S', q, k⟩ => by
    obtain ⟨b, S1, e1, q⟩ := bind_ok q
    cases q
    exact ⟨E, σw, S, φ, R, b, _, e1, fun φ1 H1 x1 R1 => k φ1 H1 _ x1 R1 (.inl (.bl _))⟩
  cases op <;> first | cases hop | skip
  · exact (pe_cmpR (op_in_kd D) ha ho hm).imp fun σ H Q q => tin_go (x := x) (r := fun _ => fun x y H Q => ∃ (z : Str) (r : Option Value), x = .str z ∧ y = .ref d ∧ PySem.W.nsIn X.K d z = some r ∧ Q (.bl r.isSome) H) (dts_get (x := x) hv hn) (fun s o H1 Q1 h q => ⟨s, o, rfl, rfl, h, by simpa using q⟩) (fun b H1 h => h) (go σ H Q q)
  · exact (pe_cmpR (op_notIn_kd D) ha ho hm).imp fun σ H Q q => tin_go (x := x) (r := fun _ => fun x y H Q => ∃ (z : Str) (r : Option Value), x = .str z ∧ y = .ref d ∧ PySem.W.nsIn X.K d z = some r ∧ Q (.bl (!r.isSome)) H) (dts_get (x := x) hv hn) (fun s o H1 Q1 h q => ⟨s, o, rfl, rfl, h, by simpa using q⟩) (fun b H1 h => h) (go σ H Q q)
theorem pt_tinop {x : Str} {t : List (Str × W)} {op : CmpOp} {ng : Bool} {p0 pos : Pos} {a : Expr} {ma : M W} (C : DtsK X.K X.w X.mg x t) (hg : Gl X x) (hop : inOp op = some ng) (hm : behindInMarks op (.Name x p0) = false) (ha : PE X a (rdE X.K true ma)) :
    PT X (.Compare a [op] [.Name x p0] pos) (rdT X.K (mTIn t ng ma)) := by
  obtain ⟨⟨d, es, n, D, hd, hv, hn⟩, hdb⟩ := C
  have ho : PE X (.Name x p0) (tC (.ref d)) := pe_glob hg hd rfl hdb
  cases op <;> first | cases hop | skip
  · exact (pt_cmpR (op_in_kd D) ha ho hm).imp fun σ H Q q => tin_go (x := x) (r := fun _ => fun x y H Q => ∃ (z : Str) (r : Option Value), x = .str z ∧ y = .ref d ∧ PySem.W.nsIn X.K d z = some r ∧ Q (.bl r.isSome) H) (dts_get (x := x) hv hn) (fun s o H1 Q1 h q => ⟨s, o, rfl, rfl, h, by simpa using q⟩) (fun b H1 h => ⟨b, rfl, h⟩) q
  · exact (pt_cmpR (op_notIn_kd D) ha ho hm).imp fun σ H Q q => tin_go (x := x) (r := fun _ => fun x y H Q => ∃ (z : Str) (r : Option Value), x = .str z ∧ y = .ref d ∧ PySem.W.nsIn X.K d z = some r ∧ Q (.bl (!r.isSome)) H) (dts_get (x := x) hv hn) (fun s o H1 Q1 h q => ⟨s, o, rfl, rfl, h, by simpa using q⟩) (fun b H1 h => ⟨b, rfl, h⟩) q
theorem pe_tsubop {x : Str} {t : List (Str × W)} {p0 pos : Pos} {i : Expr} {mi : M W} (C : DtsK X.K X.w X.mg x t) (hg : Gl X x) (hs : ∀ lo hi st p, i ≠ .Slice lo hi st p) (hi : PE X i (rdE X.K true mi)) :
    PE X (.Subscript (.Name x p0) i pos) (rdE X.K br (mTSub t mi)) := by
  obtain ⟨⟨d, es, n, D, hd, hv, hn⟩, hdb⟩ := C
  have ho : PE X (.Name x p0) (tC (.ref d)) := pe_glob hg hd rfl hdb
  refine ⟨fun pins s σ H Q I ⟨E, σw, S, φ, R, w, S', q, k⟩ => ?_⟩
  obtain ⟨y, S1, e1, q⟩ := bind_ok q
  obtain ⟨q2, e5⟩ := olift_ok q
  subst e5
  refine subD_of PySem.F.slot_dict_getitem.lookup (plain_ix hs).2 (thn (ho.run pins s σ H (fun v H1 => v = .ref d ∧ H1 = H) I ⟨rfl, rfl⟩) fun u s1 ⟨x0, H1, I1, rx, ex, eh⟩ => ?_)
  subst ex eh
  refine thn (hi.run pins s1 σ H1 _ I1 ⟨E, σw, S, φ, R, y, _, e1, fun φ1 H2 v x1 R1 r1 => (⟨φ1, x1, R1, r1⟩ : ∃ φ1, Ext φ H1 φ1 H2 ∧ Rl X.K E σw S' φ1 σ H2 ∧ RX X.K E σw φ1 σ H2 true y v)⟩) fun iv s2 ⟨z, H2, I2, ry, φ1, x1, R1, r1⟩ => ?_
  obtain rfl : u = Value.ref d := rx
  cases y with
  | str s =>
    cases rx_str R1 r1 rfl
    obtain ⟨u, z, h1, h2, h3⟩ := hv s w q2
    exact ⟨kd_type D I2, op_item_kd D pins s2 σ H2 (.ref d) (.str s) _ _ Q I2 rfl ry ⟨s, u, z, rfl, rfl, h1, h2, k φ1 H2 z x1 R1 (.inl (h3 _ _ _))⟩⟩
  | _ => cases q2
/-! ### methods of texts -/
theorem rfs_strs {φ : List Addr} {Z : Addr → Prop} : ∀ ys : List Str, RFs X.K φ Z H (ys.map .str) (ys.map V.str)
  | [] => .nil
  | y :: ys => .cons (.str y) (rfs_strs ys)
theorem pe_smop {m : Str} {k : Sm} {p q : Pos} {a : Expr} {ma : M W} (hk : smOf m = some k) (hok : methOk o p q [a] = true) (ho : PE X o (rdE X.K true mo)) (ha : PE X a (rdE X.K false ma)) :
    PE X (.Call (.Attribute o m p) [a] [] q) (rdE X.K br (mSm k mo ma)) := by
  simp only [methOk, callOk, Bool.and_eq_true, decide_eq_true_eq] at hok
  obtain ⟨⟨hb, hline⟩, hs, hn⟩ := hok
  have hbase := base_ok (f := m) (env := X.env) hb
  obtain ⟨s1, s2⟩ := noStar_cons hs
  have hse : starEach [a] X.env = [(false, eval a X.env)] := by rw [star_cons s1]; rfl
  unfold smOf at hk
  split at hk
  · rename_i hm
    cases hk
    subst hm
    refine (pe_split ho ha hse hbase hline).imp fun σ H Q ⟨E, σw, S, φ, R, w, S', qq, k⟩ => ?_
    obtain ⟨x, S1, e1, qq⟩ := bind_ok qq
    obtain ⟨y, S2, e2, qq⟩ := bind_ok qq
    obtain ⟨q2, e5⟩ := olift_ok qq
    subst e5
    refine ⟨E, σw, S, φ, R, x, _, e1, fun φ1 H1 v x1 R1 r1 => ?_⟩
    cases x with
    | str s =>
      cases y with
      | str t =>
        cases rx_str R1 r1 rfl
        simp only [wSm] at q2
        split at q2
        · rename_i h
          cases q2
          refine ⟨⟨_, rfl⟩, E, σw, _, φ1, R1, _, _, e2, fun φ2 H2 u x2 R2 r2 => ?_⟩
          cases rx_str R2 r2 rfl
          refine ⟨s, t, rfl, rfl, h.1, h.2, fun p hp => ?_⟩
          have n := new_lst (ws := (Txt.split s t).map .str) (vs := (Txt.split s t).map V.str) R2 hp (rfs_strs _)
          exact k φ2 _ _ ((x1.trans x2).trans (.same (same_new hp))) n.rl (.inl n.rf)
        · cases q2
      | _ => cases q2
    | _ => cases q2
  · split at hk
    · rename_i hm
      cases hk
      subst hm
      refine (pe_join ho ha hse hbase hline).imp fun σ H Q ⟨E, σw, S, φ, R, w, S', qq, k⟩ => ?_
      obtain ⟨x, S1, e1, qq⟩ := bind_ok qq
      obtain ⟨y, S2, e2, qq⟩ := bind_ok qq
      obtain ⟨q2, e5⟩ := olift_ok qq
      subst e5
      refine ⟨E, σw, S, φ, R, x, _, e1, fun φ1 H1 v x1 R1 r1 => ?_⟩
      cases x with
      | str s =>
        cases rx_str R1 r1 rfl
        cases y with
        | lst xs =>
          simp only [wSm] at q2
          split at q2
          · rename_i ys hst
            split at q2
            · rename_i h
              cases q2
              refine ⟨⟨_, rfl⟩, E, σw, _, φ1, R1, _, _, e2, fun φ2 H2 u x2 R2 r2 => ?_⟩
              cases r2.fr with
              | lst hh n r =>
                rename_i a0 vs
                have e1 := r.strs hst
                subst e1
                exact ⟨s, a0, ys, rfl, rfl, .inl (SqL.of hh), h, k φ2 H2 _ (x1.trans x2) R2 (.inl (.str _))⟩
            · cases q2
          · cases q2
        | tup xs =>
          simp only [wSm] at q2
          split at q2
          · rename_i ys hst
            split at q2
            · rename_i h
              cases q2
              refine ⟨⟨_, rfl⟩, E, σw, _, φ1, R1, _, _, e2, fun φ2 H2 u x2 R2 r2 => ?_⟩
              cases r2.fr with
              | tup hh r =>
                rename_i a0 vs
                have e1 := r.strs hst
                subst e1
                exact ⟨s, a0, ys, rfl, rfl, .inr hh.sq, h, k φ2 H2 _ (x1.trans x2) R2 (.inl (.str _))⟩
            · cases q2
          · cases q2
        | _ => cases q2
      | _ => simp only [wSm] at q2; cases q2
    · cases hk
/-! ### keywords -/
theorem _root_.L2.PK.imp {kws : List Keyword} {t t' : TA} (h : PK X kws t) (k : ∀ σ H Q, t' σ H Q → t σ H Q) : PK X kws t' := ⟨fun pos pins s σ H Q I q => h.run pos pins s σ H Q I (k σ H Q q)⟩
theorem _root_.L2.PK.no {br : Bool} {kws : List Keyword} : PK X kws (rdA X.K br mBad) := ⟨fun _ _ _ _ _ _ _ ⟨_, _, _, _, _, _, _, q, _⟩ => by cases q⟩
theorem pk_nilop : PK X [] (rdA X.K br mNil) := pk_nil.imp fun σ H Q ⟨E, σw, S, φ, R, w, S', q, k⟩ => by
  cases q
  exact k φ H [] .refl R .nil
theorem pk_consop {nm : Option Str} {kpos : Pos} {ma : M W} {lb : M (List W)} {kws : List Keyword} (ha : PE X e (rdE X.K br ma)) (hb : PK X kws (rdA X.K br lb)) : PK X (⟨nm, e, kpos⟩ :: kws) (rdA X.K br (mCons ma lb)) :=
  (pk_cons ha hb).imp fun σ H Q ⟨E, σw, S, φ, R, w, S', q, k⟩ => by
    obtain ⟨x, S1, e1, q⟩ := bind_ok q
    obtain ⟨y, S2, e2, q⟩ := bind_ok q
    cases q
    exact ⟨E, σw, S, φ, R, x, S1, e1, fun φ1 H1 v x1 R1 r1 => ⟨E, σw, S1, φ1, R1, y, _, e2, fun φ2 H2 us x2 R2 r2 => k φ2 H2 _ (x1.trans x2) R2 (.cons (r1.ext x2) r2)⟩⟩
theorem kw_each {env : PySem.Env} : ∀ {kws : List Keyword} {ks : List Str}, kws.map (·.arg) = ks.map some → (backToKw pos (keywordEach kws env)).all (·.1.isSome) = true ∧ (backToKw pos (keywordEach kws env)).filterMap (·.1) = ks ∧ (backToKw pos (keywordEach kws env)).any (·.1.isNone) = false
  | [], [], _ => ⟨rfl, rfl, rfl⟩
  | [], _ :: _, h => by cases h
  | _ :: _, [], h => by cases h
  | ⟨nm, v, p⟩ :: kws, k :: ks, h => by
    rw [List.map_cons, List.map_cons, List.cons.injEq] at h
    obtain ⟨h1, h2⟩ := h
    have h1 : nm = some k := h1
    subst h1
    obtain ⟨a, b, c⟩ := kw_each (env := env) h2
    refine ⟨?_, ?_, ?_⟩
    · show (true && (backToKw pos (keywordEach kws env)).all (·.1.isSome)) = true
      rw [a]; rfl
    · show k :: (backToKw pos (keywordEach kws env)).filterMap (·.1) = k :: ks
      rw [b]
    · show (false || (backToKw pos (keywordEach kws env)).any (·.1.isNone)) = false
      rw [c]; rfl
structure KwK (X : Cx) (F : Fenv) (f : Str) (ks : List (Option Str)) (np : Nat) (ord : List (Nat ⊕ W)) : Prop where
  ex : ∃ (a : Addr) (fd : FuncData) (ps : List Str) (k : Nat) (kn : List Str) (g : List Value → List Value → List Value) (gV : List V → List V → List V), FnOk X.prog X.w X.K X.mg X.base CX0 k a fd ps (spF X.K F f) ∧ Room k X.A ∧ X.mg f = some (.ref a) ∧ PySem.W.keepIn X.K (.ref a) = true ∧
    ks = kn.map some ∧ KBn X.K fd ps np kn g gV ∧ ∀ φ Z H ws vs us zs, RFs X.K φ Z H ws vs → RFs X.K φ Z H us zs → us.length = kn.length → RFs X.K φ Z H (ws ++ ord.map (kwSel us)) (gV vs zs)
  nd : (f == ("__debug__" : Str)) = false
theorem pe_callKop {F : Fenv} {f : Str} {np : Nat} {ord : List (Nat ⊕ W)} {p : Pos} {kws : List Keyword} {lk : M (List W)} (h : KwK X F f (kws.map (·.arg)) np ord) (hg : Gl X f) (hs : noStar es = true) (hn : es ≠ []) (hnp : es.length = np) (ha : PA X es (rdA X.K false la)) (hk : PK X kws (rdA X.K false lk))
    (len : ∀ σ S xs S', la σ S = .ok xs S' → xs.length = es.length) (lenk : ∀ σ S xs S', lk σ S = .ok xs S' → xs.length = kws.length) : PE X (.Call (.Name f p) es kws pos) (rdE X.K br (mCallK F f la lk ord)) := by
  obtain ⟨a, fd, ps, kk, kn, g, gV, F1, hr, hm, hkp, hks, hb, hrf⟩ := h.ex
  cases es with
  | nil => exact absurd rfl hn
  | cons e es =>
    obtain ⟨s1, s2⟩ := noStar_cons hs
    obtain ⟨w1, w2, w3⟩ := kw_each (pos := pos) (env := X.env) hks
    have hkl : kws.length = kn.length := by have := congrArg List.length hks; simpa using this
    refine (pe_callN F1 hr hg hm hkp hb (E := E0) pass0 ha hk w1 w2 h.nd (star_cons s1) (by rw [(star_any hs).1, w3]; rfl)).imp fun σ H Q ⟨E, σw, S, φ, R, w, S', q, k⟩ => ?_
    obtain ⟨xs, S1, e1, q⟩ := bind_ok q
    obtain ⟨us, S2, e2, q⟩ := bind_ok q
    have l1 := len _ _ _ _ e1
    have l2 := lenk _ _ _ _ e2
    refine ⟨E, σw, S, φ, R, xs, S1, e1, fun φ1 H1 vs x1 R1 r1 => ⟨E, σw, S1, φ1, R1, us, S2, e2, fun φ2 H2 zs x2 R2 r2 => ⟨by rw [← r1.len, l1, hnp], by rw [← r2.len, l2, hkl], ?_⟩⟩⟩
    exact call_go (Ex := E0) R2 (hrf _ _ _ _ _ _ _ (r1.ext x2).fr r2.fr (by rw [l2, hkl])) q fun φ' H' v x R' r' => k φ' H' v ((x1.trans x2).trans x) R' (.inl r')
end
end EV

namespace EV
open PySem PySem.Spec PyProof.Rows L2
section
variable {X : Cx} {a b c e o : Expr} {mo m : M W} {br : Bool} {pos apos : Pos} {E : Ent} {σw σw' : Sls} {S S' : Sto} {φ φ' : List Addr} {σ σ' : L2.St} {H H' : Hp} {w x : W} {v : V} {es : List Expr} {la : M (List W)} {p : Addr} {Q : VK}
/-- what others own may be written by whoever owns it -/
theorem Rl.wr {K : PySem.W.Frag} {ho : HO} (R : Rl K E σw S φ σ H) (hz : E.Z p) (he : E.H p = none) (hf : ∀ o u, H p ≠ some (.frz o u)) : Rl K E σw S φ σ (upd H p ho) := by
  have k : ∀ a o, a ≠ p → H a = some o → upd H p ho a = some o := fun a o n h => by rw [upd_ne n]; exact h
  have L : Later φ (ZZ E σw φ σ) H φ (ZZ E σw φ σ) (upd H p ho) := ⟨fun _ _ h => h, fun a o n h => k a o (fun z => n (.inl (by rw [z]; exact hz))) h, fun a h => .inl h, fz_upd hf⟩
  refine ⟨R.st.mono L fun a o m h => k a o (fun z => R.zφ a m (by rw [z]; exact hz)) h, R.len, fun i w f => ?_, fun i w f => ?_, R.inj, R.zφ, fun a z => ?_, R.eφ, fun a o n h => k a o (fun z => by rw [z, he] at h; cases h) (R.ekeep a o n h), R.enew, fun a o u h => fz_upd hf a o u (R.efz a o u h)⟩
  · obtain ⟨v, g, r⟩ := R.fr i w f
    exact ⟨v, g, r.mono L⟩
  · obtain ⟨a, g, h, n1, n2, n3⟩ := R.ow i w f
    exact ⟨a, g, h.mono L fun o h => k a o (fun z => n2 (by rw [z]; exact hz)) h, n1, n2, n3⟩
  · by_cases e : a = p
    · rw [e, upd_same]; simp
    · rw [upd_ne e]; exact R.zal a z
/-! ### displays of dicts -/
theorem _root_.L2.PPs.no {X : Cx} {pos : Pos} {ks : List (Option Expr)} {vs : List Expr} : PPs X pos ks vs [(rdE X.K true mBad, rdE X.K false mBad)] := by
  refine ⟨?_⟩
  intro pins s σ H Q I h
  obtain ⟨_, _, _, _, _, _, _, q, _⟩ := h
  cases q
theorem pairs_go {Q : List (V × V) → Hp → Prop} : ∀ {ps : List (M W × M W)} {σw : Sls} {S S' : Sto} {φ : List Addr} {H : Hp} {kvs : List (Key × W)}, Rl X.K E σw S φ σ H → mPairs ps σw S = .ok kvs S' →
    (∀ φ' H' us, Ext φ H φ' H' → Rl X.K E σw S' φ' σ H' → RKs X.K φ' (ZZ E σw φ' σ) H' kvs us → Q (us.map fun kv => (kV kv.1, kv.2)) H') → tPairs (ps.map fun p => (rdE X.K true p.1, rdE X.K false p.2)) σ H Q
  | [], σw, S, S', φ, H, kvs, R, q, k => by cases q; exact k φ H [] .refl R .nil
  | (mk, mv) :: ps, σw, S, S', φ, H, kvs, R, q, k => by
    obtain ⟨x, S1, e1, q⟩ := bind_ok q
    obtain ⟨y, S2, e2, q⟩ := bind_ok q
    obtain ⟨kvs', S3, e3, q⟩ := bind_ok q
    split at q
    · rename_i kk hk
      cases q
      refine ⟨E, σw, S, φ, R, x, S1, e1, fun φ1 H1 v x1 R1 r1 => ⟨E, σw, S1, φ1, R1, y, S2, e2, fun φ2 H2 u x2 R2 r2 => ?_⟩⟩
      refine pairs_go R2 e3 fun φ3 H3 us x3 R3 r3 => ?_
      have hy : vw S1 x = x := by cases x <;> first | rfl | cases hk
      cases rx_key (k := kk) R1 r1 (by rw [hy]; exact hk)
      exact k φ3 H3 ((kk, u) :: us) ((x1.trans x2).trans x3) R3 (.cons (r2.fr.mono x3.later) r3)
    · cases q
theorem pe_dictop {ks : List (Option Expr)} {vs : List Expr} {ps : List (M W × M W)} (hd : dictOk ks vs = true) (h : PPs X pos ks vs (ps.map fun p => (rdE X.K true p.1, rdE X.K false p.2))) : PE X (.Dict ks vs pos) (rdN X.K (mDict ps)) := by
  simp only [dictOk, Bool.and_eq_true, decide_eq_true_eq] at hd
  refine (pe_disp h hd.1.1.1 hd.1.1.2 (fun z => by rw [z] at hd; simp at hd) hd.2).imp fun σ H Q ⟨E, σw, S, φ, R, w, S', q, k⟩ => ?_
  obtain ⟨kvs, S1, e1, q⟩ := bind_ok q
  split at q
  · rename_i hl
    cases q
    intro p hp
    refine pairs_go (R.plus hp) e1 fun φ' H' us x' R' r' => ?_
    have hpp : H' p = some (.dK []) := x'.keep p _ (fun m => R.free hp (.inr (.inl m))) upd_same
    refine ⟨hpp, us, rfl, by rw [← r'.len]; exact hl, ?_⟩
    have he := enone R hp
    have R2 := R'.wr (ho := .dK (mergeK [] us)) (.inr rfl) he (nfz hpp fun _ _ z => by cases z)
    refine k φ' _ _ ?_ ⟨p, _, rfl, upd_same, hp, fun z => ?_, he, R2, (RKs.merge r' .nil).mono ⟨fun _ _ h => h, fun a o n h => by rw [upd_ne (fun z => n (.inl (.inr z)))]; exact h, fun a h => .inl h, fz_upd (nfz hpp fun _ _ z => by cases z)⟩⟩
    · refine ⟨x'.ix, fun a o n h => ?_, fun a m => ?_, fun a o u h => ?_⟩
      · have : a ≠ p := ne_of_none h hp
        rw [upd_ne this]
        exact x'.keep a o n (by rw [upd_ne this]; exact h)
      · rcases x'.new a m with z | z
        · exact .inl z
        · right
          by_cases ha : a = p
          · rw [ha]; exact hp
          · rw [upd_ne ha] at z; exact z
      · have : a ≠ p := ne_of_none h hp
        rw [upd_ne this]
        exact x'.fz a o u (by rw [upd_ne this]; exact h)
    · rcases z with z | z | ⟨i, w, f, g⟩
      · exact R.zal p z hp
      · exact R'.zφ p z (.inr rfl)
      · obtain ⟨c, g', _, _, n2, _⟩ := R'.ow i w f
        rw [g] at g'; cases g'
        exact n2 (.inr rfl)
  · cases q
/-! ### slots -/
theorem Rl.setFr {K : PySem.W.Frag} {i : Nat} (R : Rl K E σw S φ σ H) (r : RF K φ (ZZ E σw φ σ) H w v) : Rl K E (σw.set i (.fr w)) S φ (σ.set i (some v)) H ∧ ∀ a, ZZ E (σw.set i (.fr w)) φ (σ.set i (some v)) a → ZZ E σw φ σ a := by
  have o1 : ∀ j u, (σw.set i (.fr w))[j]? = some (.ow u) → j ≠ i ∧ σw[j]? = some (.ow u) := fun j u h => by
    by_cases e : i = j
    · subst e
      by_cases hl : i < σw.length
      · rw [List.getElem?_set_self hl] at h; cases h
      · rw [List.getElem?_eq_none (by simpa using hl)] at h; cases h
    · rw [List.getElem?_set_ne e] at h
      exact ⟨fun z => e z.symm, h⟩
  have z : ∀ a, ZZ E (σw.set i (.fr w)) φ (σ.set i (some v)) a → ZZ E σw φ σ a := fun a z => by
    rcases z with z | z | ⟨j, u, f, g⟩
    · exact .inl z
    · exact .inr (.inl z)
    · obtain ⟨n, f⟩ := o1 j u f
      rw [List.getElem?_set_ne (Ne.symm n)] at g
      exact .inr (.inr ⟨j, u, f, g⟩)
  have L : Later φ (ZZ E σw φ σ) H φ (ZZ E (σw.set i (.fr w)) φ (σ.set i (some v))) H := .less z
  refine ⟨⟨R.st.mono L fun _ _ _ h => h, by rw [List.length_set, List.length_set]; exact R.len, fun j u f => ?_, fun j u f => ?_, fun j j' u u' a f f' g g' => ?_, R.zφ, R.zal, R.eφ, R.ekeep, R.enew, R.efz⟩, z⟩
  · by_cases e : i = j
    · subst e
      have hl : i < σw.length := by
        have := (List.getElem?_eq_some_iff.mp f).1
        simpa using this
      rw [List.getElem?_set_self hl] at f
      cases f
      exact ⟨v, by rw [List.getElem?_set_self (by rw [R.len]; exact hl)], r.mono L⟩
    · rw [List.getElem?_set_ne e] at f ⊢
      obtain ⟨v, g, r⟩ := R.fr j u f
      exact ⟨v, g, r.mono L⟩
  · obtain ⟨n, f⟩ := o1 j u f
    obtain ⟨a, g, h, n1⟩ := R.ow j u f
    exact ⟨a, by rw [List.getElem?_set_ne (Ne.symm n)]; exact g, h.mono L fun _ h => h, n1⟩
  · obtain ⟨n, f⟩ := o1 j u f
    obtain ⟨n', f'⟩ := o1 j' u' f'
    rw [List.getElem?_set_ne (Ne.symm n)] at g
    rw [List.getElem?_set_ne (Ne.symm n')] at g'
    exact R.inj j j' u u' a f f' g g'
theorem Rl.setEmp {K : PySem.W.Frag} {i : Nat} (R : Rl K E σw S φ σ H) : Rl K E (σw.set i .emp) S φ (σ.set i none) H ∧ ∀ a, ZZ E (σw.set i .emp) φ (σ.set i none) a → ZZ E σw φ σ a := by
  have o1 : ∀ j s, (σw.set i .emp)[j]? = some s → s ≠ .emp → j ≠ i ∧ σw[j]? = some s := fun j u h n => by
    by_cases e : i = j
    · subst e
      by_cases hl : i < σw.length
      · rw [List.getElem?_set_self hl] at h; cases h; exact absurd rfl n
      · rw [List.getElem?_eq_none (by simpa using hl)] at h; cases h
    · rw [List.getElem?_set_ne e] at h
      exact ⟨fun z => e z.symm, h⟩
  have z : ∀ a, ZZ E (σw.set i .emp) φ (σ.set i none) a → ZZ E σw φ σ a := fun a z => by
    rcases z with z | z | ⟨j, u, f, g⟩
    · exact .inl z
    · exact .inr (.inl z)
    · obtain ⟨n, f⟩ := o1 j _ f (by intro z; cases z)
      rw [List.getElem?_set_ne (Ne.symm n)] at g
      exact .inr (.inr ⟨j, u, f, g⟩)
  have L : Later φ (ZZ E σw φ σ) H φ (ZZ E (σw.set i .emp) φ (σ.set i none)) H := .less z
  refine ⟨⟨R.st.mono L fun _ _ _ h => h, by rw [List.length_set, List.length_set]; exact R.len, fun j u f => ?_, fun j u f => ?_, fun j j' u u' a f f' g g' => ?_, R.zφ, R.zal, R.eφ, R.ekeep, R.enew, R.efz⟩, z⟩
  · obtain ⟨n, f⟩ := o1 j _ f (by intro z; cases z)
    obtain ⟨v, g, r⟩ := R.fr j u f
    exact ⟨v, by rw [List.getElem?_set_ne (Ne.symm n)]; exact g, r.mono L⟩
  · obtain ⟨n, f⟩ := o1 j _ f (by intro z; cases z)
    obtain ⟨a, g, h, n1⟩ := R.ow j u f
    exact ⟨a, by rw [List.getElem?_set_ne (Ne.symm n)]; exact g, h.mono L fun _ h => h, n1⟩
  · obtain ⟨n, f⟩ := o1 j _ f (by intro z; cases z)
    obtain ⟨n', f'⟩ := o1 j' _ f' (by intro z; cases z)
    rw [List.getElem?_set_ne (Ne.symm n)] at g
    rw [List.getElem?_set_ne (Ne.symm n')] at g'
    exact R.inj j j' u u' a f f' g g'
theorem Rl.wiped {K : PySem.W.Frag} (R : Rl K E σw S φ σ H) : ∀ own : List Nat, Rl K E (wwipe σw own) S φ (wipe σ own) H ∧ ∀ a, ZZ E (wwipe σw own) φ (wipe σ own) a → ZZ E σw φ σ a
  | [] => ⟨R, fun _ z => z⟩
  | i :: own => by
    obtain ⟨R1, z1⟩ := Rl.wiped R own
    obtain ⟨R2, z2⟩ := R1.setEmp (i := i)
    exact ⟨R2, fun a z => z1 a (z2 a z)⟩
theorem wwipe_ne {i : Nat} : ∀ {own : List Nat}, i ∉ own → (wwipe σw own)[i]? = σw[i]?
  | [], _ => rfl
  | j :: own, h => by
    simp only [List.mem_cons, not_or] at h
    show ((wwipe σw own).set j .emp)[i]? = _
    rw [List.getElem?_set_ne (Ne.symm h.1)]
    exact wwipe_ne h.2
theorem wipe_ne {i : Nat} : ∀ {own : List Nat}, i ∉ own → (wipe σ own)[i]? = σ[i]?
  | [], _ => rfl
  | j :: own, h => by
    simp only [List.mem_cons, not_or] at h
    show ((wipe σ own).set j none)[i]? = _
    rw [List.getElem?_set_ne (Ne.symm h.1)]
    exact wipe_ne h.2
theorem wipe_in {i : Nat} : ∀ {own : List Nat}, i ∈ own → i < σ.length → (wipe σ own)[i]? = some none
  | j :: own, h, hl => by
    show ((wipe σ own).set j none)[i]? = _
    by_cases e : j = i
    · subst e; rw [List.getElem?_set_self (by rw [wipe_length]; exact hl)]
    · rw [List.getElem?_set_ne e]
      exact wipe_in ((List.mem_cons.mp h).resolve_left fun z => e z.symm) hl
theorem wipe_eq {own : List Nat} (hl : σ'.length = σ.length) (h : ∀ i, i ∉ own → σ'[i]? = (wipe σ own)[i]?) : wipe σ' own = wipe σ own := by
  apply List.ext_getElem?
  intro i
  by_cases hi : i ∈ own
  · by_cases hlt : i < σ.length
    · rw [wipe_in hi hlt, wipe_in hi (by rw [hl]; exact hlt)]
    · rw [List.getElem?_eq_none (by rw [wipe_length, hl]; omega), List.getElem?_eq_none (by rw [wipe_length]; omega)]
  · rw [wipe_ne hi, h i hi]
/-! ### targets -/
/-- a target stores to slots of own alone -/
def BdOk (own : List Nat) (bd : W → M Sls) : Prop := ∀ w σ S σ1 S1, bd w σ S = .ok σ1 S1 → S1 = S ∧ σ1.length = σ.length ∧ ∀ i, i ∉ own → σ1[i]? = σ[i]?
theorem bd_bad {own : List Nat} : BdOk own fun _ => mBad := fun _ _ _ _ _ h => by cases h
theorem bd_name {i : Nat} : BdOk [i] (bName i) := fun w σ S σ1 S1 h => by
  cases h
  exact ⟨rfl, by simp, fun j hj => by rw [List.getElem?_set_ne (by simp at hj; exact fun z => hj z.symm)]⟩
theorem BdOk.mono {own own' : List Nat} {bd : W → M Sls} (h : BdOk own bd) (k : ∀ i, i ∈ own → i ∈ own') : BdOk own' bd := fun w σ S σ1 S1 e => by
  obtain ⟨h1, h2, h3⟩ := h w σ S σ1 S1 e
  exact ⟨h1, h2, fun i hi => h3 i fun z => hi (k i z)⟩
theorem bd_all {own : List Nat} : ∀ {gs : List (W → M Sls)}, (∀ g, g ∈ gs → BdOk own g) → ∀ ws σ S σ1 S1, bAll gs ws σ S = .ok σ1 S1 → S1 = S ∧ σ1.length = σ.length ∧ ∀ i, i ∉ own → σ1[i]? = σ[i]?
  | [], _, [], σ, S, σ1, S1, e => by cases e; exact ⟨rfl, rfl, fun _ _ => rfl⟩
  | [], _, _ :: _, σ, S, σ1, S1, e => by cases e
  | g :: gs, h, [], σ, S, σ1, S1, e => by cases e
  | g :: gs, h, w :: ws, σ, S, σ1, S1, e => by
    obtain ⟨σ2, S2, e1, e2⟩ := bind_ok (show ((g w σ S).bind fun σ1 S1 => bAll gs ws σ1 S1) = .ok σ1 S1 from e)
    obtain ⟨a1, a2, a3⟩ := h g (List.mem_cons_self ..) _ _ _ _ _ e1
    obtain ⟨b1, b2, b3⟩ := bd_all (fun g hg => h g (List.mem_cons_of_mem _ hg)) ws σ2 S2 σ1 S1 e2
    exact ⟨b1.trans a1, b2.trans a2, fun i hi => (b3 i hi).trans (a3 i hi)⟩
theorem bd_tup {own : List Nat} {gs : List (W → M Sls)} (h : ∀ g, g ∈ gs → BdOk own g) : BdOk own (bTup gs) := fun w σ S σ1 S1 e => by
  unfold bTup at e
  split at e
  · split at e
    · exact bd_all h _ _ _ _ _ e
    · cases e
  · cases e
theorem pg_nameop {i : Nat} {y : Str} (hN : X.N.Nodup) (hi : X.N[i]? = some y) (hx : Loc X.env.scope y) (hf : X.fn y = true ∨ X.env.scope.names.lookup y = some .local) : PG X (.Name y pos) (rdG X.K [i] (bName i)) :=
  (pg_name hN hi hx hf).imp fun v σ H Q ⟨E, σw, S, φ, w, R, r, σw1, q, k⟩ => by
    cases q
    obtain ⟨R1, z⟩ := R.setFr (i := i) r
    exact k _ (fun j hj => by rw [List.getElem?_set_ne (by simp at hj; exact fun z => hj z.symm)]) R1 z
theorem rdG_mono {own own' : List Nat} {bd : W → M Sls} (h : PG X e (rdG X.K own bd)) (k : ∀ i, i ∈ own → i ∈ own') : PG X e (rdG X.K own' bd) := h.imp fun v σ H Q ⟨E, σw, S, φ, w, R, r, σw1, q, kk⟩ =>
  ⟨E, σw, S, φ, w, R, r, σw1, q, fun σ1 h1 => kk σ1 fun i hi => h1 i fun z => hi (k i z)⟩
/-- several targets, one after another -/
def rdGs (K : PySem.W.Frag) (own : List Nat) (gs : List (W → M Sls)) : TGs := fun vs σ H Q => ∃ E σw S φ ws, Rl K E σw S φ σ H ∧ RFs K φ (ZZ E σw φ σ) H ws vs ∧ okG K own E σw S φ σ H (bAll gs ws σw S) Q
theorem pgs_nilop {own : List Nat} : PGs X [] (rdGs X.K own []) := pgs_nil.imp fun vs σ H Q ⟨E, σw, S, φ, ws, R, r, σw1, q, k⟩ => by
  cases ws with
  | nil => cases q; cases r; exact ⟨rfl, k σ (fun _ _ => rfl) R fun _ z => z⟩
  | cons _ _ => cases q
theorem assign_cons {env : PySem.Env} (h : isStar e = false) : (assignEach (e :: es) env).map (·.2) = assign e env :: (assignEach es env).map (·.2) := by
  cases e <;> first | rfl | cases h
theorem assign_plain {env : PySem.Env} : ∀ {es : List Expr}, noStar es = true → (assignEach es env).length = es.length ∧ (assignEach es env).findIdx? (·.1) = none
  | [], _ => ⟨rfl, rfl⟩
  | e :: es, h => by
    obtain ⟨h1, h2⟩ := noStar_cons h
    obtain ⟨h3, h4⟩ := assign_plain (env := env) h2
    have e1 : assignEach (e :: es) env = (false, assign e env) :: assignEach es env := by cases e <;> first | rfl | cases h1
    rw [e1]
    refine ⟨by rw [List.length_cons, List.length_cons, h3], ?_⟩
    rw [List.findIdx?_cons, h4]
    rfl
theorem pgs_consop {g : W → M Sls} {gs : List (W → M Sls)} {own : List Nat} (hs : isStar e = false) (hg : PG X e (rdG X.K own g)) (hgs : PGs X es (rdGs X.K own gs)) (hb : BdOk own g) : PGs X (e :: es) (rdGs X.K own (g :: gs)) :=
  (pgs_cons hg hgs (assign_cons hs)).imp fun vs σ H Q ⟨E, σw, S, φ, ws, R, r, σw1, q, k⟩ => by
    cases ws with
    | nil => cases q
    | cons w ws =>
      obtain ⟨v, us, rfl, r1, r2⟩ := r.cons_inv
      obtain ⟨σw2, S2, e1, q⟩ := bind_ok (show ((g w σw S).bind fun σ1 S1 => bAll gs ws σ1 S1) = .ok σw1 S from q)
      have hS := (hb _ _ _ _ _ e1).1
      subst hS
      exact ⟨v, us, rfl, E, σw, _, φ, w, R, r1, σw2, e1, fun σ1 hσ R1 z1 => ⟨E, σw2, _, φ, ws, R1, r2.mono (.less z1), σw1, q, fun σ2 hσ2 R2 z2 => k σ2 (fun i hi => (hσ2 i hi).trans (hσ i hi)) R2 fun a z => z1 a (z2 a z)⟩⟩
theorem pg_tupop {gs : List (W → M Sls)} {own : List Nat} {k0 : Nat} (hc : X.calm = true) (hs : noStar es = true) (hl : gs.length = es.length) (h : PGs X es (rdGs X.K own gs)) : PG X (.Tuple es k0 pos) (rdG X.K own (bTup gs)) :=
  (pg_tup hc h (assign_plain hs).1 (assign_plain hs).2).imp fun v σ H Q ⟨E, σw, S, φ, w, R, r, σw1, q, k⟩ => by
    unfold bTup at q
    split at q
    · rename_i ws
      split at q
      · rename_i hw
        cases r with
        | tup ht rs => exact ⟨_, _, rfl, ht.sq, by rw [← rs.len, hw, hl], E, σw, S, φ, ws, R, rs, σw1, q, k⟩
      · cases q
    · cases q
/-! ### comprehensions -/
theorem zz_same {K : PySem.W.Frag} {own : List Nat} (hl : ∀ i w, i ∈ own → σw[i]? ≠ some (.ow w)) (h : ∀ i, i ∉ own → σw'[i]? = σw[i]?) (h' : ∀ i, i ∉ own → σ'[i]? = σ[i]?) : ∀ a, ZZ E σw φ σ a → ZZ E σw' φ σ' a := fun a z => by
  rcases z with z | z | ⟨i, w, f, g⟩
  · exact .inl z
  · exact .inr (.inl z)
  · have hi : i ∉ own := fun m => hl i w m f
    exact .inr (.inr ⟨i, w, (h i hi).trans f, (h' i hi).trans g⟩)
theorem lc_go {mit : M (List W)} {bd : W → M Sls} {mt : M Bool} {me : M W} {own : List Nat} (hb : BdOk own bd) (R : Rl X.K E σw S φ σ H) (q : mLc mit bd mt me own σw S = .ok w S')
    (k : ∀ φ' H' v, Ext φ H φ' H' → New X.K E σw S' φ' σ H H' w v → Q v H') : tLc (rdI X.K mit) (rdG X.K own bd) (rdT X.K mt) (rdE X.K false me) own σ H Q := by
  obtain ⟨ws, S1, e1, q⟩ := bind_ok q
  split at q
  · rename_i hlim
    obtain ⟨hlim, how⟩ := hlim
    have how : ∀ i w, i ∈ own → σw[i]? ≠ some (.ow w) := fun i w hi z => by
      have := List.all_eq_true.mp how i hi
      rw [z] at this
      cases this
    obtain ⟨vs, S2, e2, q⟩ := bind_ok q
    cases q
    refine ⟨E, σw, S, φ, R, ws, S1, e1, fun φ1 H1 J x1 R1 it => fun D hD => ?_⟩
    have RD := R1.plus (o := .lst []) hD
    have heD := enone R1 hD
    refine ⟨fun i m H' => m = ws.length - i ∧ i ≤ ws.length ∧ ∃ φ' Si acc accw rest, Rl X.K (E.plus D) σw Si φ' σ H' ∧ H' D = some (.lst acc) ∧ RFs X.K φ' (ZZ (E.plus D) σw φ' σ) H' accw acc ∧ acc.length ≤ i ∧ Ext φ1 H1 φ' H' ∧
      lcL bd mt me (wwipe σw own) (ws.drop i) Si = .ok rest S' ∧ vs = accw ++ rest, ⟨_, rfl, Nat.zero_le _, φ1, S1, [], [], vs, RD, upd_same, .nil, Nat.le_refl _, .same (same_new hD), e2, rfl⟩, ?_⟩
    rintro i m H' ⟨rfl, hi, φ', Si, acc, accw, rest, R', hA, rA, hlen, x', e', hv⟩
    have L : Later φ1 (ZZ E σw φ1 σ) H1 φ' (ZZ (E.plus D) σw φ' σ) H' := ⟨x'.ix, fun a o n h => x'.keep a o (fun z => n (.inr (.inl z))) h, fun a z => by
      rcases z with (z | z) | z | z
      · exact .inl (.inl z)
      · right; rw [z]; exact hD
      · exact (x'.new a z).imp (fun z => .inr (.inl z)) id
      · exact .inl (.inr (.inr z)), x'.fz⟩
    obtain ⟨st, go⟩ := it φ' _ H' L fun a z => by obtain ⟨o, h⟩ := R'.alloc z; rw [h]; simp
    by_cases hlt : i < ws.length
    · right
      have hw : ws[i]? = some ws[i] := List.getElem?_eq_getElem hlt
      obtain ⟨g1, g2⟩ := go i _ hw
      have hdrop : ws.drop i = ws[i] :: ws.drop (i + 1) := (List.getElem_cons_drop ..).symm
      rw [hdrop, lcL] at e'
      obtain ⟨σw1, Sa, b1, e3⟩ := bind_ok e'
      clear e'
      obtain ⟨hSa, hlw, hnw⟩ := hb _ _ _ _ _ b1
      subst hSa
      obtain ⟨tb, Sb, b2, e'⟩ := bind_ok e3
      refine ⟨g1, fun H5 => ∃ m', m' < ws.length - i ∧ (m' = ws.length - (i + 1) ∧ i + 1 ≤ ws.length ∧ ∃ φ' Si acc accw rest, Rl X.K (E.plus D) σw Si φ' σ H5 ∧ H5 D = some (.lst acc) ∧ RFs X.K φ' (ZZ (E.plus D) σw φ' σ) H5 accw acc ∧ acc.length ≤ i + 1 ∧ Ext φ1 H1 φ' H5 ∧
        lcL bd mt me (wwipe σw own) (ws.drop (i + 1)) Si = .ok rest S' ∧ vs = accw ++ rest), fun H5 h => h, fun x H2 hy => ?_⟩
      obtain ⟨s2, rx⟩ := g2 x H2 hy
      have R2 := R'.same s2
      obtain ⟨Rw, zw⟩ := R2.wiped own
      refine ⟨E.plus D, wwipe σw own, _, φ', _, Rw, rx.mono (.less zw), σw1, b1, fun σ1 hσ1 R3 z3 => ?_⟩
      have hlσ : σ1.length = σ.length := by rw [R3.len, hlw, ← Rw.len, wipe_length]
      refine ⟨wipe_eq hlσ hσ1, ?_⟩
      have hZ : ∀ φ a, ZZ (E.plus D) σw φ σ a → ZZ (E.plus D) σw1 φ σ1 a := fun φ => zz_same (K := X.K) how (fun i hi => (hnw i hi).trans (wwipe_ne hi)) fun i hi => (hσ1 i hi).trans (wipe_ne hi)
      refine ⟨E.plus D, σw1, _, φ', R3, tb, Sb, b2, fun φ4 H4 x4 R4 => ?_⟩
      have xs : Ext φ' H' φ4 H4 := (Ext.same s2).trans x4
      have hDφ : ∀ φ, (∃ S σ H, Rl X.K (E.plus D) σw1 S φ σ H) → D ∉ φ := fun φ ⟨_, _, _, r⟩ z => r.zφ D z (.inr rfl)
      have R4' : Rl X.K (E.plus D) σw Sb φ4 σ H4 := R'.ext xs (R4.st.mono (.less (hZ φ4)) fun _ _ _ h => h)
      have hD4 : H4 D = some (.lst acc) := xs.keep D _ (fun z => R'.zφ D z (.inr rfl)) hA
      cases tb with
      | true =>
        obtain ⟨y, Sc, b3, e'⟩ := bind_ok (show ((me σw1 Sb).bind fun v S3 => (lcL bd mt me (wwipe σw own) (ws.drop (i + 1)) S3).bind fun vs S4 => .ok (v :: vs) S4) = .ok rest S' from e')
        obtain ⟨rest', Sd, b4, e'⟩ := bind_ok e'
        cases e'
        refine ⟨E.plus D, σw1, Sb, φ4, R4, y, Sc, b3, fun φ5 H5 v x5 R5 r5 => ?_⟩
        have xs5 := xs.trans x5
        have R5' : Rl X.K (E.plus D) σw Sc φ5 σ H5 := R'.ext xs5 (R5.st.mono (.less (hZ φ5)) fun _ _ _ h => h)
        have hD5 : H5 D = some (.lst acc) := xs5.keep D _ (fun z => R'.zφ D z (.inr rfl)) hA
        refine ⟨acc, hD5, lim_lt (by omega), ws.length - (i + 1), by omega, rfl, by omega, φ5, Sc, acc ++ [v], accw ++ [y], rest', R5'.wr (.inr rfl) heD (nfz hD5 fun _ _ z => by cases z), upd_same, ?_, by simp; omega, ?_, b4, by rw [hv]; simp⟩
        · have L6 : Later φ5 (ZZ (E.plus D) σw φ5 σ) H5 φ5 (ZZ (E.plus D) σw φ5 σ) (upd H5 D (.lst (acc ++ [v]))) := ⟨fun _ _ h => h, fun a o n h => by rw [upd_ne (fun z => n (.inl (.inr z)))]; exact h, fun a h => .inl h, fz_upd (nfz hD5 fun _ _ z => by cases z)⟩
          exact ((rA.mono xs5.later).append (.cons (r5.fr.mono (.less (hZ φ5))) .nil)).mono L6
        · have xx := x'.trans xs5
          exact ⟨xx.ix, fun a o n h => by rw [upd_ne (ne_of_none h hD)]; exact xx.keep a o n h, fun a m => xx.new a m, fun a o u h => by rw [upd_ne (ne_of_none h hD)]; exact xx.fz a o u h⟩
      | false =>
        exact ⟨ws.length - (i + 1), by omega, rfl, by omega, φ4, Sb, acc, accw, rest, R4', hD4, rA.mono xs.later, by omega, x'.trans xs, e', hv⟩
    · have hie : i = ws.length := by omega
      subst hie
      rw [List.drop_length] at e'
      cases e'
      rw [List.append_nil] at hv
      subst hv
      refine .inl ⟨st, k φ' H' _ (x1.trans x') ⟨D, acc, rfl, hA, ext_none x1 R1 hD, fun z => ?_, heD, R', rA⟩⟩
      rcases z with z | z | ⟨i, w, f, g⟩
      · exact R1.zal D z hD
      · exact R'.zφ D z (.inr rfl)
      · obtain ⟨c, g', _, _, n2, _⟩ := R'.ow i w f
        rw [g] at g'; cases g'
        exact n2 (.inr rfl)
  · cases q
/-! ### dict comprehensions -/
theorem putK_len (acc : List (Key × V)) (k : Key) (v : V) : (L2.putK acc k v).length ≤ acc.length + 1 := by
  unfold L2.putK
  split
  · simp
  · simp
theorem dc_go {mit : M (List W)} {bd : W → M Sls} {mt : M Bool} {mk me : M W} {own : List Nat} (hb : BdOk own bd) (R : Rl X.K E σw S φ σ H) (q : mDc mit bd mt mk me own σw S = .ok w S')
    (k : ∀ φ' H' v, Ext φ H φ' H' → New X.K E σw S' φ' σ H H' w v → Q v H') : tDc (rdI X.K mit) (rdG X.K own bd) (rdT X.K mt) (rdE X.K true mk) (rdE X.K false me) own σ H Q := by
  obtain ⟨ws, S1, e1, q⟩ := bind_ok q
  split at q
  · rename_i hlim
    obtain ⟨hlim, how⟩ := hlim
    have how : ∀ i w, i ∈ own → σw[i]? ≠ some (.ow w) := fun i w hi z => by
      have := List.all_eq_true.mp how i hi
      rw [z] at this
      cases this
    obtain ⟨vs, S2, e2, q⟩ := bind_ok q
    cases q
    refine ⟨E, σw, S, φ, R, ws, S1, e1, fun φ1 H1 J x1 R1 it => fun D hD => ?_⟩
    have RD := R1.plus (o := .dK []) hD
    have heD := enone R1 hD
    refine ⟨fun i m H' => m = ws.length - i ∧ i ≤ ws.length ∧ ∃ φ' Si acc accw rest, Rl X.K (E.plus D) σw Si φ' σ H' ∧ H' D = some (.dK acc) ∧ RKs X.K φ' (ZZ (E.plus D) σw φ' σ) H' (pairsD accw) acc ∧ acc.length ≤ i ∧ Ext φ1 H1 φ' H' ∧
      lcL bd mt (mPr mk me) (wwipe σw own) (ws.drop i) Si = .ok rest S' ∧ vs = accw ++ rest, ⟨_, rfl, Nat.zero_le _, φ1, S1, [], [], vs, RD, upd_same, RKs.nil, Nat.le_refl _, .same (same_new hD), e2, rfl⟩, ?_⟩
    rintro i m H' ⟨rfl, hi, φ', Si, acc, accw, rest, R', hA, rA, hlen, x', e', hv⟩
    have L : Later φ1 (ZZ E σw φ1 σ) H1 φ' (ZZ (E.plus D) σw φ' σ) H' := ⟨x'.ix, fun a o n h => x'.keep a o (fun z => n (.inr (.inl z))) h, fun a z => by
      rcases z with (z | z) | z | z
      · exact .inl (.inl z)
      · right; rw [z]; exact hD
      · exact (x'.new a z).imp (fun z => .inr (.inl z)) id
      · exact .inl (.inr (.inr z)), x'.fz⟩
    obtain ⟨st, go⟩ := it φ' _ H' L fun a z => by obtain ⟨o, h⟩ := R'.alloc z; rw [h]; simp
    by_cases hlt : i < ws.length
    · right
      have hw : ws[i]? = some ws[i] := List.getElem?_eq_getElem hlt
      obtain ⟨g1, g2⟩ := go i _ hw
      have hdrop : ws.drop i = ws[i] :: ws.drop (i + 1) := (List.getElem_cons_drop ..).symm
      rw [hdrop, lcL] at e'
      obtain ⟨σw1, Sa, b1, e3⟩ := bind_ok e'
      clear e'
      obtain ⟨hSa, hlw, hnw⟩ := hb _ _ _ _ _ b1
      subst hSa
      obtain ⟨tb, Sb, b2, e'⟩ := bind_ok e3
      refine ⟨g1, fun H5 => ∃ m', m' < ws.length - i ∧ (m' = ws.length - (i + 1) ∧ i + 1 ≤ ws.length ∧ ∃ φ' Si acc accw rest, Rl X.K (E.plus D) σw Si φ' σ H5 ∧ H5 D = some (.dK acc) ∧ RKs X.K φ' (ZZ (E.plus D) σw φ' σ) H5 (pairsD accw) acc ∧ acc.length ≤ i + 1 ∧ Ext φ1 H1 φ' H5 ∧
        lcL bd mt (mPr mk me) (wwipe σw own) (ws.drop (i + 1)) Si = .ok rest S' ∧ vs = accw ++ rest), fun H5 h => h, fun x H2 hy => ?_⟩
      obtain ⟨s2, rx⟩ := g2 x H2 hy
      have R2 := R'.same s2
      obtain ⟨Rw, zw⟩ := R2.wiped own
      refine ⟨E.plus D, wwipe σw own, _, φ', _, Rw, rx.mono (.less zw), σw1, b1, fun σ1 hσ1 R3 z3 => ?_⟩
      have hlσ : σ1.length = σ.length := by rw [R3.len, hlw, ← Rw.len, wipe_length]
      refine ⟨wipe_eq hlσ hσ1, ?_⟩
      have hZ : ∀ φ a, ZZ (E.plus D) σw φ σ a → ZZ (E.plus D) σw1 φ σ1 a := fun φ => zz_same (K := X.K) how (fun i hi => (hnw i hi).trans (wwipe_ne hi)) fun i hi => (hσ1 i hi).trans (wipe_ne hi)
      refine ⟨E.plus D, σw1, _, φ', R3, tb, Sb, b2, fun φ4 H4 x4 R4 => ?_⟩
      have xs : Ext φ' H' φ4 H4 := (Ext.same s2).trans x4
      have hDφ : ∀ φ, (∃ S σ H, Rl X.K (E.plus D) σw1 S φ σ H) → D ∉ φ := fun φ ⟨_, _, _, r⟩ z => r.zφ D z (.inr rfl)
      have R4' : Rl X.K (E.plus D) σw Sb φ4 σ H4 := R'.ext xs (R4.st.mono (.less (hZ φ4)) fun _ _ _ h => h)
      have hD4 : H4 D = some (.dK acc) := xs.keep D _ (fun z => R'.zφ D z (.inr rfl)) hA
      cases tb with
      | true =>
        obtain ⟨yp, Sc, b3, e'⟩ := bind_ok (show ((mPr mk me σw1 Sb).bind fun v S3 => (lcL bd mt (mPr mk me) (wwipe σw own) (ws.drop (i + 1)) S3).bind fun vs S4 => .ok (v :: vs) S4) = .ok rest S' from e')
        obtain ⟨rest', Sd, b4, e'⟩ := bind_ok e'
        cases e'
        obtain ⟨xk, Sk, c1, b3⟩ := bind_ok b3
        obtain ⟨y, Sv, c2, b3⟩ := bind_ok b3
        split at b3
        · rename_i kk hk
          cases b3
          refine ⟨E.plus D, σw1, Sb, φ4, R4, xk, Sk, c1, fun φ5 H5 vk x5 R5 r5 => ⟨E.plus D, σw1, Sk, φ5, R5, y, Sc, c2, fun φ6 H6 v x6 R6 r6 => ?_⟩⟩
          have hy : vw Sk xk = xk := by cases xk <;> first | rfl | cases hk
          cases rx_key (k := kk) R5 r5 (by rw [hy]; exact hk)
          have xs5 := (xs.trans x5).trans x6
          have R6' : Rl X.K (E.plus D) σw Sc φ6 σ H6 := R'.ext xs5 (R6.st.mono (.less (hZ φ6)) fun _ _ _ h => h)
          have hD6 : H6 D = some (.dK acc) := xs5.keep D _ (fun z => R'.zφ D z (.inr rfl)) hA
          have hput : pairsD (accw ++ [.tup [xk, y]]) = dput (pairsD accw) kk y := by unfold pairsD; rw [List.foldl_append]; simp only [List.foldl_cons, List.foldl_nil, hk]
          have hal : acc.length ≤ i := hlen
          refine ⟨acc, kk, rfl, hD6, lim_lt (by omega), ws.length - (i + 1), by omega, rfl, by omega, φ6, Sc, L2.putK acc kk v, accw ++ [.tup [xk, y]], rest', R6'.wr (.inr rfl) heD (nfz hD6 fun _ _ z => by cases z), upd_same, ?_, Nat.le_trans (putK_len acc kk v) (by omega), ?_, b4, by rw [hv]; simp⟩
          · have L6 : Later φ6 (ZZ (E.plus D) σw φ6 σ) H6 φ6 (ZZ (E.plus D) σw φ6 σ) (upd H6 D (.dK (L2.putK acc kk v))) := ⟨fun _ _ h => h, fun a o n h => by rw [upd_ne (fun z => n (.inl (.inr z)))]; exact h, fun a h => .inl h, fz_upd (nfz hD6 fun _ _ z => by cases z)⟩
            rw [hput]
            exact (RKs.put kk (r6.fr.mono (.less (hZ φ6))) (rA.mono xs5.later)).mono L6
          · have xx := x'.trans xs5
            exact ⟨xx.ix, fun a o n h => by rw [upd_ne (ne_of_none h hD)]; exact xx.keep a o n h, fun a m => xx.new a m, fun a o u h => by rw [upd_ne (ne_of_none h hD)]; exact xx.fz a o u h⟩
        · cases b3
      | false =>
        exact ⟨ws.length - (i + 1), by omega, rfl, by omega, φ4, Sb, acc, accw, rest, R4', hD4, rA.mono xs.later, by omega, x'.trans xs, e', hv⟩
    · have hie : i = ws.length := by omega
      subst hie
      rw [List.drop_length] at e'
      cases e'
      rw [List.append_nil] at hv
      subst hv
      refine .inl ⟨st, k φ' H' _ (x1.trans x') ⟨D, acc, rfl, hA, ext_none x1 R1 hD, fun z => ?_, heD, R', rA⟩⟩
      rcases z with z | z | ⟨i, w, f, g⟩
      · exact R1.zal D z hD
      · exact R'.zφ D z (.inr rfl)
      · obtain ⟨c, g', _, _, n2, _⟩ := R'.ow i w f
        rw [g] at g'; cases g'
        exact n2 (.inr rfl)
  · cases q
/-- as Ext, while the list D grows -/
structure ExtD (D : Addr) (φ : List Addr) (H : Hp) (φ' : List Addr) (H' : Hp) : Prop where
  ix : ∀ (n : Nat) (a : Addr), φ[n]? = some a → φ'[n]? = some a
  keep : ∀ a o, a ∉ φ → a ≠ D → H a = some o → H' a = some o
  new : ∀ a, a ∈ φ' → a ∈ φ ∨ H a = none
  fz : ∀ a o u, H a = some (.frz o u) → H' a = some (.frz o u)
theorem ExtD.refl {D : Addr} {φ : List Addr} {H : Hp} : ExtD D φ H φ H := ⟨fun _ _ h => h, fun _ _ _ _ h => h, fun _ h => .inl h, fun _ _ _ h => h⟩
theorem ExtD.trans {D : Addr} {φ φ' φ'' : List Addr} {H H' H'' : Hp} (x : ExtD D φ H φ' H') (hd : H' D ≠ none) (y : Ext φ' H' φ'' H'') : ExtD D φ H φ'' H'' := by
  refine ⟨fun n a h => y.ix n a (x.ix n a h), fun a o n d h => y.keep a o (fun m => ?_) (x.keep a o n d h), fun a m => ?_, fun a o u h => y.fz a o u (x.fz a o u h)⟩
  · rcases x.new a m with z | z
    · exact n z
    · rw [h] at z; cases z
  · rcases y.new a m with z | z
    · exact x.new a z
    · by_cases q : a ∈ φ
      · exact .inl q
      · right
        cases r : H a with
        | none => rfl
        | some o =>
          by_cases d : a = D
          · subst d; exact absurd z hd
          · rw [x.keep a o q d r] at z; cases z
theorem ExtD.upd {D : Addr} {φ φ' : List Addr} {H H' : Hp} {o : HO} (x : ExtD D φ H φ' H') (hf : ∀ o u, H' D ≠ some (.frz o u)) : ExtD D φ H φ' (upd H' D o) :=
  ⟨x.ix, fun a o n d h => by rw [upd_ne d]; exact x.keep a o n d h, x.new, fun a o u h => fz_upd hf a o u (x.fz a o u h)⟩
theorem ExtD.later {D : Addr} {φ φ' : List Addr} {H H' : Hp} (x : ExtD D φ H φ' H') : Later φ (ZZ (E.plus D) σw φ σ) H φ' (ZZ (E.plus D) σw φ' σ) H' where
  ix := x.ix
  fz := x.fz
  keep := fun a o n h => x.keep a o (fun m => n (.inr (.inl m))) (fun d => n (.inl (.inr d))) h
  new := fun a z => by
    rcases z with z | z | z
    · exact .inl (.inl z)
    · exact (x.new a z).imp (fun z => .inr (.inl z)) id
    · exact .inl (.inr (.inr z))
theorem noOw_of {own : List Nat} (h : noOw σw own = true) : ∀ i w, i ∈ own → σw[i]? ≠ some (.ow w) := fun i w hi z => by
  have := List.all_eq_true.mp h i hi
  rw [z] at this
  cases this
theorem lc2_go {mit mit1 : M (List W)} {bd bd1 : W → M Sls} {mt mt1 : M Bool} {me : M W} {own own1 : List Nat} (hb : BdOk own bd) (hb1 : BdOk own1 bd1) (R : Rl X.K E σw S φ σ H) (q : mLc2 mit bd mt mit1 bd1 mt1 me own own1 σw S = .ok w S')
    (k : ∀ φ' H' v, Ext φ H φ' H' → New X.K E σw S' φ' σ H H' w v → Q v H') : tLc2 (rdI X.K mit) (rdG X.K own bd) (rdT X.K mt) (rdI X.K mit1) (rdG X.K own1 bd1) (rdT X.K mt1) (rdE X.K false me) own own1 σ H Q := by
  obtain ⟨ws, S1, e1, q⟩ := bind_ok q
  split at q
  · rename_i how0
    have how := noOw_of how0
    obtain ⟨vs, S2, e2, q⟩ := bind_ok q
    split at q
    · rename_i hlim
      cases q
      refine ⟨E, σw, S, φ, R, ws, S1, e1, fun φ1 H1 J x1 R1 it => fun D hD => ?_⟩
      have RD := R1.plus (o := .lst []) hD
      have heD := enone R1 hD
      refine ⟨fun i m H' => m = ws.length - i ∧ i ≤ ws.length ∧ ∃ φ' Si acc accw rest, Rl X.K (E.plus D) σw Si φ' σ H' ∧ H' D = some (.lst acc) ∧ RFs X.K φ' (ZZ (E.plus D) σw φ' σ) H' accw acc ∧ Ext φ1 H1 φ' H' ∧ lc2L bd mt mit1 bd1 mt1 me own1 (wwipe σw own) (ws.drop i) Si = .ok rest S' ∧ vs = accw ++ rest, ⟨_, rfl, Nat.zero_le _, φ1, S1, [], [], vs, RD, upd_same, .nil, .same (same_new hD), e2, rfl⟩, ?_⟩
      rintro i m H' ⟨rfl, hi, φ', Si, acc, accw, rest, R', hA, rA, x', e', hv⟩
      have L : Later φ1 (ZZ E σw φ1 σ) H1 φ' (ZZ (E.plus D) σw φ' σ) H' := ⟨x'.ix, fun a o n h => x'.keep a o (fun z => n (.inr (.inl z))) h, fun a z => by
        rcases z with (z | z) | z | z
        · exact .inl (.inl z)
        · right; rw [z]; exact hD
        · exact (x'.new a z).imp (fun z => .inr (.inl z)) id
        · exact .inl (.inr (.inr z)), x'.fz⟩
      obtain ⟨st, go⟩ := it φ' _ H' L fun a z => by obtain ⟨o, h⟩ := R'.alloc z; rw [h]; simp
      by_cases hlt : i < ws.length
      · right
        have hw : ws[i]? = some ws[i] := List.getElem?_eq_getElem hlt
        obtain ⟨g1, g2⟩ := go i _ hw
        have hdrop : ws.drop i = ws[i] :: ws.drop (i + 1) := (List.getElem_cons_drop ..).symm
        rw [hdrop, lc2L] at e'
        obtain ⟨σw1, Sa, b1, e3⟩ := bind_ok e'
        clear e'
        obtain ⟨hSa, hlw, hnw⟩ := hb _ _ _ _ _ b1
        subst hSa
        obtain ⟨tb, Sb, b2, e'⟩ := bind_ok e3
        refine ⟨g1, fun H5 => ∃ m', m' < ws.length - i ∧ (m' = ws.length - (i + 1) ∧ i + 1 ≤ ws.length ∧ ∃ φ' Si acc accw rest, Rl X.K (E.plus D) σw Si φ' σ H5 ∧ H5 D = some (.lst acc) ∧ RFs X.K φ' (ZZ (E.plus D) σw φ' σ) H5 accw acc ∧ Ext φ1 H1 φ' H5 ∧ lc2L bd mt mit1 bd1 mt1 me own1 (wwipe σw own) (ws.drop (i + 1)) Si = .ok rest S' ∧ vs = accw ++ rest), fun H5 h => h, fun x H2 hy => ?_⟩
        obtain ⟨s2, rx⟩ := g2 x H2 hy
        have R2 := R'.same s2
        obtain ⟨Rw, zw⟩ := R2.wiped own
        refine ⟨E.plus D, wwipe σw own, _, φ', _, Rw, rx.mono (.less zw), σw1, b1, fun σ1 hσ1 R3 z3 => ?_⟩
        have hlσ : σ1.length = σ.length := by rw [R3.len, hlw, ← Rw.len, wipe_length]
        refine ⟨wipe_eq hlσ hσ1, ?_⟩
        have hZ : ∀ φ a, ZZ (E.plus D) σw φ σ a → ZZ (E.plus D) σw1 φ σ1 a := fun φ => zz_same (K := X.K) how (fun i hi => (hnw i hi).trans (wwipe_ne hi)) fun i hi => (hσ1 i hi).trans (wipe_ne hi)
        refine ⟨E.plus D, σw1, _, φ', R3, tb, Sb, b2, fun φ4 H4 x4 R4 => ?_⟩
        have xs : Ext φ' H' φ4 H4 := (Ext.same s2).trans x4
        have R4' : Rl X.K (E.plus D) σw Sb φ4 σ H4 := R'.ext xs (R4.st.mono (.less (hZ φ4)) fun _ _ _ h => h)
        have hD4 : H4 D = some (.lst acc) := xs.keep D _ (fun z => R'.zφ D z (.inr rfl)) hA
        cases tb with
        | true =>
          simp only [if_true] at e'
          split at e'
          · rename_i how1'
            have how1 := noOw_of how1'
            obtain ⟨us, Sc, b3, e'⟩ := bind_ok e'
            obtain ⟨vs1, Sd, b4, e'⟩ := bind_ok e'
            obtain ⟨vs2, Se, b5, e'⟩ := bind_ok e'
            cases e'
            refine ⟨E.plus D, σw1, Sb, φ4, R4, us, Sc, b3, fun φ5 H5 J1 x5 R5 it1 => ?_⟩
            have xs5 := xs.trans x5
            have R5o : Rl X.K (E.plus D) σw Sc φ5 σ H5 := R'.ext xs5 (R5.st.mono (.less (hZ φ5)) fun _ _ _ h => h)
            have hD5 : H5 D = some (.lst acc) := xs5.keep D _ (fun z => R'.zφ D z (.inr rfl)) hA
            refine ⟨fun j kk H6 => kk = us.length - j ∧ j ≤ us.length ∧ ∃ φ6 Si6 acc6 accw6 rest6, Rl X.K (E.plus D) σw Si6 φ6 σ H6 ∧ Rl X.K (E.plus D) σw1 Si6 φ6 σ1 H6 ∧ H6 D = some (.lst acc6) ∧ RFs X.K φ6 (ZZ (E.plus D) σw φ6 σ) H6 accw6 acc6 ∧ ExtD D φ5 H5 φ6 H6 ∧ Ext φ1 H1 φ6 H6 ∧ lcL bd1 mt1 me (wwipe σw1 own1) (us.drop j) Si6 = .ok rest6 Sd ∧ vs = accw6 ++ (rest6 ++ vs2), ⟨_, rfl, Nat.zero_le _, φ5, Sc, acc, accw, vs1, R5o, R5, hD5, rA.mono xs5.later, .refl, x'.trans xs5, b4, hv⟩, ?_⟩
            rintro j kk H6 ⟨rfl, hj, φ6, Si6, acc6, accw6, rest6, Ro, Ri, hA6, rA6, xd, xb, f', hv6⟩
            obtain ⟨st1, go1⟩ := it1 φ6 _ H6 xd.later fun a z => by obtain ⟨o, h⟩ := Ri.alloc z; rw [h]; simp
            by_cases hlt1 : j < us.length
            · right
              have hw1 : us[j]? = some us[j] := List.getElem?_eq_getElem hlt1
              obtain ⟨g3, g4⟩ := go1 j _ hw1
              have hdrop1 : us.drop j = us[j] :: us.drop (j + 1) := (List.getElem_cons_drop ..).symm
              rw [hdrop1, lcL] at f'
              obtain ⟨σw3, Sx, c1, f3⟩ := bind_ok f'
              clear f'
              obtain ⟨hSx, hlw1, hnw1⟩ := hb1 _ _ _ _ _ c1
              subst hSx
              obtain ⟨tb1, Sy, c2, f'⟩ := bind_ok f3
              refine ⟨g3, fun H7 => ∃ k', k' < us.length - j ∧ (k' = us.length - (j + 1) ∧ j + 1 ≤ us.length ∧ ∃ φ6 Si6 acc6 accw6 rest6, Rl X.K (E.plus D) σw Si6 φ6 σ H7 ∧ Rl X.K (E.plus D) σw1 Si6 φ6 σ1 H7 ∧ H7 D = some (.lst acc6) ∧ RFs X.K φ6 (ZZ (E.plus D) σw φ6 σ) H7 accw6 acc6 ∧ ExtD D φ5 H5 φ6 H7 ∧ Ext φ1 H1 φ6 H7 ∧ lcL bd1 mt1 me (wwipe σw1 own1) (us.drop (j + 1)) Si6 = .ok rest6 Sd ∧ vs = accw6 ++ (rest6 ++ vs2)), fun H7 h => h, fun x H7 hy => ?_⟩
              obtain ⟨s3, rx1⟩ := g4 x H7 hy
              have Ri7 := Ri.same s3
              obtain ⟨Rw1, zw1⟩ := Ri7.wiped own1
              refine ⟨E.plus D, wwipe σw1 own1, _, φ6, _, Rw1, rx1.mono (.less zw1), σw3, c1, fun σ3 hσ3 R8 z8 => ?_⟩
              have hlσ3 : σ3.length = σ1.length := by rw [R8.len, hlw1, ← Rw1.len, wipe_length]
              refine ⟨wipe_eq hlσ3 hσ3, ?_⟩
              have hZ1 : ∀ φ a, ZZ (E.plus D) σw1 φ σ1 a → ZZ (E.plus D) σw3 φ σ3 a := fun φ => zz_same (K := X.K) how1 (fun i hi => (hnw1 i hi).trans (wwipe_ne hi)) fun i hi => (hσ3 i hi).trans (wipe_ne hi)
              refine ⟨E.plus D, σw3, _, φ6, R8, tb1, Sy, c2, fun φ9 H9 x9 R9 => ?_⟩
              have xs9 : Ext φ6 H6 φ9 H9 := (Ext.same s3).trans x9
              have Ri9 : Rl X.K (E.plus D) σw1 Sy φ9 σ1 H9 := Ri.ext xs9 (R9.st.mono (.less (hZ1 φ9)) fun _ _ _ h => h)
              have Ro9 : Rl X.K (E.plus D) σw Sy φ9 σ H9 := Ro.ext xs9 (Ri9.st.mono (.less (hZ φ9)) fun _ _ _ h => h)
              have hD9 : H9 D = some (.lst acc6) := xs9.keep D _ (fun z => Ri.zφ D z (.inr rfl)) hA6
              cases tb1 with
              | true =>
                obtain ⟨y, Sz, c3, f'⟩ := bind_ok (show ((me σw3 Sy).bind fun v S3 => (lcL bd1 mt1 me (wwipe σw1 own1) (us.drop (j + 1)) S3).bind fun vs S4 => .ok (v :: vs) S4) = .ok rest6 Sd from f')
                obtain ⟨rest7, Sq, c4, f'⟩ := bind_ok f'
                cases f'
                refine ⟨E.plus D, σw3, Sy, φ9, R9, y, Sz, c3, fun φ10 H10 v x10 R10 r10 => ?_⟩
                have xs10 := xs9.trans x10
                have Ri10 : Rl X.K (E.plus D) σw1 Sz φ10 σ1 H10 := Ri.ext xs10 (R10.st.mono (.less (hZ1 φ10)) fun _ _ _ h => h)
                have Ro10 : Rl X.K (E.plus D) σw Sz φ10 σ H10 := Ro.ext xs10 (Ri10.st.mono (.less (hZ φ10)) fun _ _ _ h => h)
                have hD10 : H10 D = some (.lst acc6) := xs10.keep D _ (fun z => Ri.zφ D z (.inr rfl)) hA6
                have hn10 := nfz hD10 (fun _ _ z => by cases z)
                have hlen : acc6.length < LIM := by
                  have l1 := rA6.len
                  have l2 := congrArg List.length hv6
                  simp only [List.length_append, List.length_cons] at l2
                  omega
                refine ⟨acc6, hD10, lim_lt hlen, us.length - (j + 1), by omega, rfl, by omega, φ10, Sz, acc6 ++ [v], accw6 ++ [y], rest7, Ro10.wr (.inr rfl) heD hn10, Ri10.wr (.inr rfl) heD hn10, upd_same, ?_, (xd.trans (by rw [hA6]; simp) xs10).upd hn10, ?_, c4, by rw [hv6]; simp⟩
                · have L6 : Later φ10 (ZZ (E.plus D) σw φ10 σ) H10 φ10 (ZZ (E.plus D) σw φ10 σ) (upd H10 D (.lst (acc6 ++ [v]))) := ⟨fun _ _ h => h, fun a o n h => by rw [upd_ne (fun z => n (.inl (.inr z)))]; exact h, fun a h => .inl h, fz_upd hn10⟩
                  exact ((rA6.mono xs10.later).append (.cons ((r10.fr.mono (.less (hZ1 φ10))).mono (.less (hZ φ10))) .nil)).mono L6
                · have xx := xb.trans xs10
                  exact ⟨xx.ix, fun a o n h => by rw [upd_ne (ne_of_none h hD)]; exact xx.keep a o n h, fun a m => xx.new a m, fun a o u h => by rw [upd_ne (ne_of_none h hD)]; exact xx.fz a o u h⟩
              | false =>
                exact ⟨us.length - (j + 1), by omega, rfl, by omega, φ9, Sy, acc6, accw6, rest6, Ro9, Ri9, hD9, rA6.mono xs9.later, xd.trans (by rw [hA6]; simp) xs9, xb.trans xs9, f', hv6⟩
            · have hje : j = us.length := by omega
              subst hje
              rw [List.drop_length] at f'
              cases f'
              exact .inl ⟨st1, ws.length - (i + 1), by omega, rfl, by omega, φ6, _, acc6, accw6, vs2, Ro, hA6, rA6, xb, b5, by simpa using hv6⟩
          · cases e'
        | false =>
          exact ⟨ws.length - (i + 1), by omega, rfl, by omega, φ4, Sb, acc, accw, rest, R4', hD4, rA.mono xs.later, x'.trans xs, e', hv⟩
      · have hie : i = ws.length := by omega
        subst hie
        rw [List.drop_length] at e'
        cases e'
        rw [List.append_nil] at hv
        subst hv
        refine .inl ⟨st, k φ' H' _ (x1.trans x') ⟨D, acc, rfl, hA, ext_none x1 R1 hD, fun z => ?_, heD, R', rA⟩⟩
        rcases z with z | z | ⟨i, w, f, g⟩
        · exact R1.zal D z hD
        · exact R'.zφ D z (.inr rfl)
        · obtain ⟨c, g', _, _, n2, _⟩ := R'.ow i w f
          rw [g] at g'; cases g'
          exact n2 (.inr rfl)
    · cases q
  · cases q
end
end EV

namespace L2
open PySem PySem.Spec PyProof.Rows
section
variable {X : Cx}
/-- name = {k: v for ..} on one line, the name a local -/
theorem ps_setDc {i : Nat} {y : Str} {py : Pos} {kx vx tg iter : Expr} {ifs : List Expr} {scope : Scope} {own : List (Str × Nat)} {pos spos : Pos} {wi : TI} {g : TG} {tt : TT} {tk tv : TE} (hc : X.calm = true) (hN : X.N.Nodup) (hy : X.N[i]? = some y) (hyl : X.env.scope.names.lookup y = some .local)
    (hsw : swapsWith (.DictComp kx vx [⟨tg, iter, ifs, 0⟩] scope pos) (some (.Name y py)) spos.line X.env = pure true) (hi : PI X tg iter wi) (ok : BlkOk X.N X.env.scope scope own)
    (hg : ∀ (s : Shared) (H : Hp) (C : Addr) (cl : List (Str × Addr)) (fp : List Addr), PG (X.blk s H scope (compEnvC scope cl C X.env) fp) tg g) (ht : ∀ (s : Shared) (H : Hp) (C : Addr) (cl : List (Str × Addr)) (fp : List Addr), PTs (X.blk s H scope (compEnvC scope cl C X.env) fp) ifs tt)
    (hk : ∀ (s : Shared) (H : Hp) (C : Addr) (cl : List (Str × Addr)) (fp : List Addr), PE (X.blk s H scope (compEnvC scope cl C X.env) fp) kx tk)
    (he : ∀ (s : Shared) (H : Hp) (C : Addr) (cl : List (Str × Addr)) (fp : List Addr), PE (X.blk s H scope (compEnvC scope cl C X.env) fp) vx tv) (hs : ∀ x, foldedSetIterable iter X.env x = pure x := by intro _; rfl) :
    PS X (.Assign [.Name y py] (.DictComp kx vx [⟨tg, iter, ifs, 0⟩] scope pos) spos) (tAsg (tDc wi g tt tk tv (own.map (·.2))) (gName i)) := by
  refine ⟨fun pins s σ H D I h => ?_⟩
  rw [exec_Assign_Name_used _ _ _ _ hsw]
  refine wpAny_bind (wpAny_standAt (wpAny_bind ?_))
  show wpAny _ X.A (do let _ ← comprehension (.DictComp kx vx [⟨tg, iter, ifs, 0⟩] scope pos) scope X.env (firstIterPos [⟨tg, iter, ifs, 0⟩] pos) newDict false (eval iter X.env) (some (assign (.Name y py) X.env))) _ _ s
  have h : tDc wi g tt tk tv (own.map (·.2)) σ H (fun x H1 => gName i x σ H1 D.nx) := h
  refine wpAny_bind (thn (dc_core (Qf := fun _ s' => SP X pins D .next s') hc hN I hi ok hg ht hk he hs h fun L C s' m H' I' q hn f => ?_) fun _ s' hq => wpAny_pure (wpAny_pure hq))
  show wpAny _ _ (assign (.Name y py) X.env (.ref L)) _ _ _
  refine wpAny_assign_Name (store_ok2 (v := V.ref L) I' hN hy (.inl hyl) rfl (fun s2 I2 ⟨a, sb, ha⟩ => ?_) (.inr hyl))
  obtain ⟨f0, f1, f2, f3, f4, f5⟩ := f
  have haC : C ≠ a := by
    rcases ha with z | z
    · rw [z]; exact f1
    · exact fun e => f4 y a z e.symm
  refine ⟨m, hn.sameBut sb haC, fun h3 sb3 => ?_⟩
  exact ⟨_, H', I2.turned (t' := s2.toks) (fun b o hb e => (sb3.2 b hb).trans e) f0 f1 f3 f4 f5, q⟩
end
end L2
namespace EV
open PySem PySem.Spec PyProof.Rows L2
section
open Sem RZ
/-! ### enumerate of a tuple -/
open AutoSeq1 (wpAny_loadPart') in
theorem meets_enumerate_newT (l : Addr) (items : Array Value) (n : Nat) (dct : Option Addr) (sl : Array (Option Value)) :
    Meets (Builtin.«enumerate.__new__» ⟨[.type "enumerate", .ref l], []⟩) (fun _ R s => s.heap.get? l = some { cls := .type "tuple", dict := dct, data := .seq items n, slots := sl } ∧
      R (.ok (.ret (.ref (s.heap.push { cls := .type "tuple_iterator", data := .fields #[.ref l, .int 0 0] }).objs.size)))
        { s with heap := (s.heap.push { cls := .type "tuple_iterator", data := .fields #[.ref l, .int 0 0] }).push { cls := .type "enumerate", data := .fields #[.none, .bool false, .ref s.heap.objs.size, rawInt 0, .none, .none] } }) :=
  .of_wp fun prog w A R s h => by
    obtain ⟨hp, g, d, tk, os⟩ := s; obtain ⟨hl, h⟩ := h
    have hsub := sub_enumerate
    have hL : Heap.IsTuple (Shared.heap ⟨hp, g, d, tk, os⟩) l items := ⟨_, hl, rfl, n, rfl⟩
    wp_walk using wpAny_loadPart' hl
    refine wpAny_stack_any fun st => wpAny_pure ?_
    split
    · rename_i c _ _ _ _ _
      cases (c == Value.type "enumerate")
      · wp_walk using wpAny_loadPart' hl, wpAny_pyIter_tuple hL
        exact ⟨_, rfl, h⟩
      · wp_walk using wpAny_loadPart' hl, wpAny_pyIter_tuple hL
        exact ⟨_, rfl, h⟩
    · wp_walk using wpAny_loadPart' hl, wpAny_pyIter_tuple hL
      exact ⟨_, rfl, h⟩
section
variable {prog : Program} {w : World} {A : Around} {E : Value → Shared → Prop} {s : Shared}
theorem call_enumerate_tuple {l : Addr} {items : Array Value} {Q : Value → Shared → Prop} (hL : s.heap.IsTuple l items)
    (h : ∀ h', IsEnum h' (s.heap.objs.size + 1) s.heap.objs.size 0 .none → h'.IsTupleIter s.heap.objs.size l 0 → h'.objs.size = s.heap.objs.size + 2 →
      (∀ b o, s.heap.get? b = some o → h'.get? b = some o) → Q (.ref (s.heap.objs.size + 1)) { s with heap := h' }) :
    wpAny (model prog w) A (call (.type "enumerate") [.ref l]) Q E s := by
  obtain ⟨⟨c, dct, dt, sl⟩, hl, hc, n, hd⟩ := hL
  replace hc : c = .type "tuple" := hc
  replace hd : dt = .seq items n := hd
  subst hc hd
  refine callType_new F.called_enumerate (by decide) (F.typeCall_enumerate_1 _) (F.newCall_enumerate_1 _) (fun obj => F.args_object_init_2 obj _) F.entry_enumerate_new
    (meets_enumerate_newT l items n dct sl) ⟨hl, ?_⟩
  have hz : (s.heap.push { cls := .type "tuple_iterator", data := .fields #[.ref l, .int 0 0] }).objs.size = s.heap.objs.size + 1 := Heap.size_push ..
  show _ ∧ _
  rw [hz]
  have he : IsEnum ((s.heap.push { cls := .type "tuple_iterator", data := .fields #[.ref l, .int 0 0] }).push
      { cls := .type "enumerate", data := .fields #[.none, .bool false, .ref s.heap.objs.size, rawInt 0, .none, .none] }) (s.heap.objs.size + 1) s.heap.objs.size 0 .none := by
    have := Heap.get?_push_size (s.heap.push { cls := .type "tuple_iterator", data := .fields #[.ref l, .int 0 0] })
      (o := { cls := .type "enumerate", data := .fields #[.none, .bool false, .ref s.heap.objs.size, rawInt 0, .none, .none] }) rfl
    rw [hz] at this; exact this
  refine ⟨⟨_, he, rfl⟩, h _ he ⟨_, Heap.get?_push_of_some _ (Heap.get?_push_size _ rfl), rfl, rfl⟩ (by rw [Heap.size_push, hz]) fun b o x => Heap.get?_push_of_some _ (Heap.get?_push_of_some _ x)⟩
end
def IteT (K : PySem.W.Frag) (a : Addr) : It :=
  ⟨fun i H => ∃ (xs : List V) (x : V), SqT K H a xs ∧ xs[i]? = some x, fun i H v H' => ∃ T x, v = .ref T ∧ H T = none ∧ H' = upd H T (.tup [.int (i : Nat), x]) ∧ ∀ xs, SqT K H a xs → xs[i]? = some x, fun i H => ∃ xs : List V, SqT K H a xs ∧ xs.length = i⟩
theorem turn_enumT {P : Program} {w : World} {K : PySem.W.Frag} {elts : List Expr} {kk : Nat} {tpos : Pos} (a e it : Addr) (hai : a ≠ it) (hae : e ≠ a) :
    Turn P w K (.Tuple elts kk tpos) (IteT K a) [e, it] e (fun i h => (∃ old, IsEnum h e it ((i : Nat) : Int) old) ∧ h.IsTupleIter it a i ∧ e ≠ it) where
  mem := by simp
  obj := fun i h st b hb => by
    obtain ⟨⟨old, he⟩, ⟨o, ho, hc, hd⟩, _⟩ := st
    have e' : b = e ∨ b = it := by simpa using hb
    rcases e' with z | z
    · rw [z]; exact ⟨_, he, fun v q => nomatch q⟩
    · rw [z]; exact ⟨o, ho, fun v q => by rw [hd] at q; cases q⟩
  keep := fun i h h' st k => let ⟨⟨old, he⟩, hi, hne⟩ := st; ⟨⟨old, k e (by simp) _ he⟩, hi.at fun o q => k it (by simp) o q, hne⟩
  item := by
    intro X hP hw hK hc i pins s σ H E I hf st hg
    subst hP hw hK
    obtain ⟨⟨old, he⟩, hit, hne⟩ := st
    obtain ⟨xs, x, hq, hx⟩ := hg
    obtain ⟨its, rv, p, hz⟩ := I.tuple hq
    obtain ⟨u, hu, ru⟩ := rv.get hx
    have hel : e < s.heap.objs.size := Heap.lt_size he
    have hil : it < s.heap.objs.size := by obtain ⟨_, q, _⟩ := hit; exact Heap.lt_size q
    have hlt : i < its.toArray.size := by
      have := (List.getElem?_eq_some_iff.mp hu).1
      simpa using this
    refine wpAny_pyNext_enum_itemD (Draws.tuple (A := X.A.in1) (I.ok.hd hc) it a hai its.toArray) he ⟨hit, p⟩ hlt hne (by simp [hne, hae]) fun x' h' tk hP ho hit' hT hsz hk => ?_
    have hxu : x' = u := by
      have h1 : its[i]? = some x' := by simpa using hP
      rw [hu] at h1
      exact (Option.some.inj h1).symm
    subst hxu
    refine ⟨_, rfl, wpAny_letOwnedTupleGo_enum (s := { s with heap := h', toks := tk + 1 }) ho fun h'' he' sb => ?_⟩
    have hT2 : h''.get? s.heap.objs.size = some { cls := .type "tuple", data := .seq #[.int i tk, x'] } := (sb.2 _ (Nat.ne_of_gt hel)).trans hT
    have new : ObjOk X.prog X.w (upd H s.heap.objs.size (.tup [.int (i : Nat), x])) h'' s.heap.objs.size (.tup [.int (i : Nat), x]) :=
      ⟨by show 2 ≤ sizeLine; decide, [.int i tk, x'], .cons ⟨_, rfl⟩ (.cons ru .nil), ⟨_, hT2, rfl, _, rfl⟩⟩
    have I1 : Inv X pins σ (upd H s.heap.objs.size (.tup [.int (i : Nat), x])) { s with heap := h'', toks := tk + 1 } :=
      I.turnedNew (ch := [e, it]) (fun b ob hb q => (sb.2 b (fun z => hb (by simp [z]))).trans (hk b ob (fun z => hb (by simp [z])) (fun z => hb (by simp [z])) q)) hf (Nat.le_refl _) new
    refine ⟨.ref s.heap.objs.size, _, I1, rfl, ⟨_, x, rfl, I.hok.fresh (Nat.le_refl _), rfl, fun ys hy => by rw [I.tuple_inj hy hq]; exact hx⟩, ⟨⟨x', ?_⟩, hit'.1.at fun o q => (sb.2 it (Ne.symm hne)).trans q, hne⟩, fun b hb => ?_⟩
    · have e1 : ((i + 1 : Nat) : Int) = (i : Int) + 1 := by omega
      rw [e1]; exact he'
    · have hb' : b < s.heap.objs.size := by
        have e' : b = e ∨ b = it := by simpa using hb
        rcases e' with z | z
        · rw [z]; exact hel
        · rw [z]; exact hil
      rw [upd_ne (Nat.ne_of_lt hb')]
      exact (hf b hb).1
  done := by
    intro X hP hw hK hc i pins s σ H E I hf st hg
    subst hP hw hK
    obtain ⟨⟨old, he⟩, hit, hne⟩ := st
    obtain ⟨xs, hq, hx⟩ := hg
    obtain ⟨its, rv, p, hz⟩ := I.tuple hq
    obtain ⟨f0, f1, f2, f3, f4, f5⟩ := hf it (by simp)
    have hl := rv.length
    have hn : i = its.toArray.size := by simp; omega
    subst hn
    exact wpAny_pyNext_enum_endD (Draws.tuple (A := X.A.in1) (I.ok.hd hc) it a hai its.toArray) he ⟨hit, p⟩ fun h' eb => ⟨rfl, I.turned (t' := s.toks) (fun b o hb q => eb b o hb q) f0 f1 f3 f4 f5⟩
  self := fun A i s Q E st h => let ⟨⟨_, he⟩, _⟩ := st; wpAny_pyIter_enum he h
def iEnumA (K : PySem.W.Frag) (ta : TA) : TI := fun σ H R => ta σ H fun vs H1 => ∃ a xs, vs = [.ref a] ∧ ((SqL K H1 a xs ∧ R (Ite K a) H1) ∨ (SqT K H1 a xs ∧ R (IteT K a) H1))
theorem pi_enumA {X : Cx} {e : Expr} {ta : TA} {p pos tpos : Pos} {elts : List Expr} {kk : Nat} (hg : Gl X "enumerate") (hm : X.mg "enumerate" = none) (ha : PA X [e] ta) (hs : starEach [e] X.env = [(false, eval e X.env)] := by rfl) :
    PI X (.Tuple elts kk tpos) (.Call (.Name "enumerate" p) [e] [] pos) (iEnumA X.K ta) := by
  refine ⟨fun pins s σ H R I h => ?_⟩
  refine Call_ (ld_blt I hg hm boot_enumerate (PyProof.Rows.callWith_type1 (thn (ha.run pos pins s σ H _ I h) fun us s1 ⟨vs, H1, I1, r1, q1⟩ => ?_) hs rfl))
  obtain ⟨a, xs, ex, q⟩ := q1
  subst ex
  cases r1 with
  | cons r rr =>
    cases rr
    cases r
    have fresh2 : ∀ b, b ∈ [s1.heap.objs.size + 1, s1.heap.objs.size] → FpOk X pins H1 b := fun b hb => by
      have e' : b = s1.heap.objs.size + 1 ∨ b = s1.heap.objs.size := by simpa using hb
      have hle : s1.heap.objs.size ≤ b := by
        rcases e' with z | z
        · rw [z]; exact Nat.le_add_right _ _
        · rw [z]; exact Nat.le_refl _
      exact I1.fpOk hle (I1.hok.fresh hle)
    rcases q with ⟨hq, q⟩ | ⟨hq, q⟩
    · obtain ⟨its, rv, p', hz⟩ := I1.list hq
      refine call_enumerate_list p'.isList fun h' he hit hsz hk => wpAny_pyIter_enum he ?_
      have I2 : Inv X pins σ H1 { s1 with heap := h' } := I1.kept (t' := s1.toks) hk
      exact ⟨s1.heap.objs.size + 1, [s1.heap.objs.size + 1, s1.heap.objs.size], _, _, H1, rfl, I2, turn_enum a (s1.heap.objs.size + 1) s1.heap.objs.size, ⟨⟨.none, he⟩, hit, Nat.succ_ne_self _⟩, fresh2, q⟩
    · obtain ⟨its, rv, p', hz⟩ := I1.tuple hq
      have hal : a < s1.heap.objs.size := by obtain ⟨o, q, _⟩ := p'; exact Heap.lt_size q
      refine call_enumerate_tuple p' fun h' he hit hsz hk => wpAny_pyIter_enum he ?_
      have I2 : Inv X pins σ H1 { s1 with heap := h' } := I1.kept (t' := s1.toks) hk
      exact ⟨s1.heap.objs.size + 1, [s1.heap.objs.size + 1, s1.heap.objs.size], _, _, H1, rfl, I2, turn_enumT a (s1.heap.objs.size + 1) s1.heap.objs.size (Nat.ne_of_lt hal) (Nat.ne_of_gt (Nat.lt_succ_of_lt hal)), ⟨⟨.none, he⟩, hit, Nat.succ_ne_self _⟩, fresh2, q⟩
/-! ### zip of two, lists or tuples -/
def iterT (b : Bool) : String := if b then "tuple_iterator" else "list_iterator"
def IsSeq (b : Bool) (h : Heap) (a : Addr) (items : Array Value) : Prop := if b then h.IsTuple a items else h.IsList a items
def IsItr (b : Bool) (h : Heap) (it a : Addr) (i : Nat) : Prop := if b then h.IsTupleIter it a i else h.IsListIter it a i
def SqB (b : Bool) (K : PySem.W.Frag) (H : Hp) (a : Addr) (xs : List V) : Prop := if b then SqT K H a xs else SqL K H a xs
theorem drawsB {prog : Program} {w : World} {A : Around} (b : Bool) (hh : A.handled = none) (it t : Addr) (hne : t ≠ it) (items : Array Value) :
    Draws prog w A it [it, t] items.size (fun i v => items[i]? = some v) (fun i h => IsItr b h it t i ∧ IsSeq b h t items) := by
  cases b
  · exact Draws.list hh it t hne items
  · exact Draws.tuple hh it t hne items
theorem IsItr.obj {b : Bool} {h : Heap} {it a : Addr} {i : Nat} (x : IsItr b h it a i) : ∃ o, h.get? it = some o ∧ o.data = .fields #[.ref a, .int i 0] := by
  cases b
  · obtain ⟨o, ho, _, hd⟩ := x; exact ⟨o, ho, hd⟩
  · obtain ⟨o, ho, _, hd⟩ := x; exact ⟨o, ho, hd⟩
theorem IsItr.at {b : Bool} {h h' : Heap} {it a : Addr} {i : Nat} (x : IsItr b h it a i) (k : ∀ o, h.get? it = some o → h'.get? it = some o) : IsItr b h' it a i := by
  cases b
  · exact Heap.IsListIter.at x k
  · exact Heap.IsTupleIter.at x k
theorem IsSeq.lt {b : Bool} {h : Heap} {a : Addr} {items : Array Value} (x : IsSeq b h a items) : a < h.objs.size := by
  cases b
  · obtain ⟨o, q, _⟩ := x; exact Heap.lt_size q
  · obtain ⟨o, q, _⟩ := x; exact Heap.lt_size q
theorem IsSeq.push {b : Bool} {h : Heap} {a : Addr} {items : Array Value} (x : IsSeq b h a items) (o : Obj) : IsSeq b (h.push o) a items := by
  cases b
  · exact Heap.IsList.push x o
  · exact Heap.IsTuple.push x o
section
variable {prog : Program} {w : World} {A : Around} {E : Value → Shared → Prop} {s : Shared}
theorem wpAny_pyIter_B {b : Bool} {l : Addr} {items : Array Value} {Q : Value → Shared → Prop} (hL : IsSeq b s.heap l items) (hQ : Q (.ref s.heap.objs.size) { s with heap := s.heap.push { cls := .type (iterT b), data := .fields #[.ref l, .int 0 0] } }) :
    wpAny (model prog w) A (pyIter (.ref l)) Q E s := by
  cases b
  · exact wpAny_pyIter_list hL hQ
  · exact wpAny_pyIter_tuple hL hQ
end
abbrev zbH1 (b1 : Bool) (h : Heap) (l1 : Addr) : Heap := h.push { cls := .type (iterT b1), data := .fields #[.ref l1, .int 0 0] }
abbrev zbH2 (b1 b2 : Bool) (h : Heap) (l1 l2 : Addr) : Heap := (zbH1 b1 h l1).push { cls := .type (iterT b2), data := .fields #[.ref l2, .int 0 0] }
abbrev zbH3 (b1 b2 : Bool) (h : Heap) (l1 l2 : Addr) : Heap := (zbH2 b1 b2 h l1 l2).push { cls := .type "tuple", data := .seq #[.ref h.objs.size, .ref (zbH1 b1 h l1).objs.size] }
abbrev zbH4 (b1 b2 : Bool) (h : Heap) (l1 l2 : Addr) : Heap := (zbH3 b1 b2 h l1 l2).push { cls := .type "tuple", data := .seq #[.none, .none] }
abbrev zbH5 (b1 b2 : Bool) (h : Heap) (l1 l2 : Addr) : Heap := (zbH4 b1 b2 h l1 l2).push { cls := .type "zip", data := .fields #[.none, .bool false, .bool false, .ref (zbH2 b1 b2 h l1 l2).objs.size, .ref (zbH3 b1 b2 h l1 l2).objs.size] }
theorem meets_zipB_new (b1 b2 : Bool) (l1 l2 : Addr) (xs ys : Array Value) :
    Meets (Builtin.«zip.__new__» ⟨[.type "zip", .ref l1, .ref l2], []⟩) (fun _ R s => IsSeq b1 s.heap l1 xs ∧ IsSeq b2 s.heap l2 ys ∧
      R (.ok (.ret (.ref (zbH4 b1 b2 s.heap l1 l2).objs.size))) { s with heap := zbH5 b1 b2 s.heap l1 l2 }) :=
  .of_wp fun prog w A R s h => by
    obtain ⟨hp, g, d, tk, os⟩ := s; obtain ⟨hl1, hl2, h⟩ := h
    have hsub := sub_zip
    have hL1 : IsSeq b1 (Shared.heap ⟨hp, g, d, tk, os⟩) l1 xs := hl1
    have hL2 : IsSeq b2 (Shared.heap ⟨hp.push { cls := .type (iterT b1), data := .fields #[.ref l1, .int 0 0] }, g, d, tk, os⟩) l2 ys := hl2.push _
    wp_walk using wpAny_pyIter_B hL1, wpAny_pyIter_B hL2
    exact ⟨_, rfl, h⟩
section
variable {prog : Program} {w : World} {A : Around} {E : Value → Shared → Prop} {s : Shared}
theorem isItr_of {b : Bool} {h : Heap} {it a : Addr} (e : h.get? it = some { cls := .type (iterT b), data := .fields #[.ref a, .int 0 0] }) : IsItr b h it a 0 := by
  cases b
  · exact ⟨_, e, rfl, rfl⟩
  · exact ⟨_, e, rfl, rfl⟩
theorem call_zipB {b1 b2 : Bool} {l1 l2 : Addr} {xs ys : Array Value} {Q : Value → Shared → Prop} (hl1 : IsSeq b1 s.heap l1 xs) (hl2 : IsSeq b2 s.heap l2 ys)
    (h : ∀ h', IsZip h' (s.heap.objs.size + 4) (s.heap.objs.size + 2) (s.heap.objs.size + 3) .none → IsTupOf2 h' (s.heap.objs.size + 2) (.ref s.heap.objs.size) (.ref (s.heap.objs.size + 1)) →
      IsTupOf2 h' (s.heap.objs.size + 3) .none .none → IsItr b1 h' s.heap.objs.size l1 0 → IsItr b2 h' (s.heap.objs.size + 1) l2 0 → h'.objs.size = s.heap.objs.size + 5 →
      (∀ c o, s.heap.get? c = some o → h'.get? c = some o) → Q (.ref (s.heap.objs.size + 4)) { s with heap := h' }) :
    wpAny (model prog w) A (call (.type "zip") [.ref l1, .ref l2]) Q E s := by
  refine callType_new F.called_zip (by decide) (F.typeCall_zip_2 _ _) (F.newCall_zip_2 _ _) (fun obj => F.args_object_init_3 obj _ _) F.entry_zip_new
    (meets_zipB_new b1 b2 l1 l2 xs ys) ⟨hl1, hl2, ?_⟩
  have z1 : (zbH1 b1 s.heap l1).objs.size = s.heap.objs.size + 1 := Heap.size_push ..
  have z2 : (zbH2 b1 b2 s.heap l1 l2).objs.size = s.heap.objs.size + 2 := by rw [Heap.size_push, z1]
  have z3 : (zbH3 b1 b2 s.heap l1 l2).objs.size = s.heap.objs.size + 3 := by rw [Heap.size_push, z2]
  have z4 : (zbH4 b1 b2 s.heap l1 l2).objs.size = s.heap.objs.size + 4 := by rw [Heap.size_push, z3]
  have z5 : (zbH5 b1 b2 s.heap l1 l2).objs.size = s.heap.objs.size + 5 := by rw [Heap.size_push, z4]
  have g5 : (zbH5 b1 b2 s.heap l1 l2).get? (zbH4 b1 b2 s.heap l1 l2).objs.size = some _ := Heap.get?_push_size _ rfl
  have g4 : (zbH5 b1 b2 s.heap l1 l2).get? (zbH3 b1 b2 s.heap l1 l2).objs.size = some _ := Heap.get?_push_of_some _ (Heap.get?_push_size _ rfl)
  have g3 : (zbH5 b1 b2 s.heap l1 l2).get? (zbH2 b1 b2 s.heap l1 l2).objs.size = some _ := Heap.get?_push_of_some _ (Heap.get?_push_of_some _ (Heap.get?_push_size _ rfl))
  have g2 : (zbH5 b1 b2 s.heap l1 l2).get? (zbH1 b1 s.heap l1).objs.size = some _ := Heap.get?_push_of_some _ (Heap.get?_push_of_some _ (Heap.get?_push_of_some _ (Heap.get?_push_size _ rfl)))
  have g1 : (zbH5 b1 b2 s.heap l1 l2).get? s.heap.objs.size = some _ := Heap.get?_push_of_some _ (Heap.get?_push_of_some _ (Heap.get?_push_of_some _ (Heap.get?_push_of_some _ (Heap.get?_push_size _ rfl))))
  show _ ∧ _
  rw [z2, z3, z4] at g5
  rw [z1, z2] at g3
  rw [z3] at g4
  rw [z1] at g2
  rw [z4]
  exact ⟨⟨_, g5, rfl⟩, h _ g5 g3 g4 (isItr_of g1) (isItr_of g2) z5 fun c o x =>
    Heap.get?_push_of_some _ (Heap.get?_push_of_some _ (Heap.get?_push_of_some _ (Heap.get?_push_of_some _ (Heap.get?_push_of_some _ x))))⟩
end
theorem inv_sq {X : Cx} {pins : List (Addr × Obj)} {σ : L2.St} {H : Hp} {s : Shared} (I : Inv X pins σ H s) {b : Bool} {a : Addr} {xs : List V} (h : SqB b X.K H a xs) : ∃ its : List Value, Vals xs its ∧ IsSeq b s.heap a its.toArray := by
  cases b
  · obtain ⟨its, r, p, _⟩ := I.list h
    exact ⟨its, r, p.isList⟩
  · obtain ⟨its, r, p, _⟩ := I.tuple h
    exact ⟨its, r, p⟩
theorem inv_sqInj {X : Cx} {pins : List (Addr × Obj)} {σ : L2.St} {H : Hp} {s : Shared} (I : Inv X pins σ H s) {b : Bool} {a : Addr} {xs ys : List V} (h : SqB b X.K H a xs) (g : SqB b X.K H a ys) : xs = ys := by
  cases b
  · exact I.list_inj h g
  · exact I.tuple_inj h g
def ItzB (b1 b2 : Bool) (K : PySem.W.Frag) (a b : Addr) : It :=
  ⟨fun i H => ∃ (xs ys : List V) (x y : V), SqB b1 K H a xs ∧ SqB b2 K H b ys ∧ xs[i]? = some x ∧ ys[i]? = some y,
    fun i H v H' => ∃ T x y, v = .ref T ∧ H T = none ∧ H' = upd H T (.tup [x, y]) ∧ (∀ xs, SqB b1 K H a xs → xs[i]? = some x) ∧ ∀ ys, SqB b2 K H b ys → ys[i]? = some y,
    fun i H => ∃ xs ys : List V, SqB b1 K H a xs ∧ SqB b2 K H b ys ∧ i ≤ xs.length ∧ i ≤ ys.length ∧ (i = xs.length ∨ i = ys.length)⟩
theorem turn_zipB {P : Program} {w : World} {K : PySem.W.Frag} {elts : List Expr} {kk : Nat} {tpos : Pos} (b1 b2 : Bool) {a b z TI TO i1 i2 : Addr} (D : ZipSep2 z TI TO i1 i2 [i1, a] [i2, b]) (ha1 : a ≠ i1) (hb2 : b ≠ i2) :
    Turn P w K (.Tuple elts kk tpos) (ItzB b1 b2 K a b) [z, TI, TO, i1, i2] z (fun i h => IsZip h z TI TO .none ∧ IsTupOf2 h TI (.ref i1) (.ref i2) ∧ (∃ x y, IsTupOf2 h TO x y) ∧ IsItr b1 h i1 a i ∧ IsItr b2 h i2 b i) where
  mem := by simp
  obj := fun i h st c hc => by
    obtain ⟨hz, hTI, ⟨x, y, hTO⟩, h1, h2⟩ := st
    obtain ⟨o1, e1, d1⟩ := h1.obj
    obtain ⟨o2, e2, d2⟩ := h2.obj
    have e' : c = z ∨ c = TI ∨ c = TO ∨ c = i1 ∨ c = i2 := by simpa using hc
    rcases e' with q | q | q | q | q
    · rw [q]; exact ⟨_, hz, fun v q => nomatch q⟩
    · rw [q]; exact ⟨_, hTI, fun v q => nomatch q⟩
    · rw [q]; exact ⟨_, hTO, fun v q => nomatch q⟩
    · rw [q]; exact ⟨o1, e1, fun v q => by rw [d1] at q; cases q⟩
    · rw [q]; exact ⟨o2, e2, fun v q => by rw [d2] at q; cases q⟩
  keep := fun i h h' st k => by
    obtain ⟨hz, hTI, ⟨x, y, hTO⟩, h1, h2⟩ := st
    exact ⟨k z (by simp) _ hz, k TI (by simp) _ hTI, ⟨x, y, k TO (by simp) _ hTO⟩, h1.at fun o q => k i1 (by simp) o q, h2.at fun o q => k i2 (by simp) o q⟩
  item := by
    intro X hP hw hK hc i pins s σ H E I hf st hg
    subst hP hw hK
    obtain ⟨hz, hTI, ⟨x0, y0, hTO⟩, h1, h2⟩ := st
    obtain ⟨xs, ys, x, y, hqx, hqy, hx, hy⟩ := hg
    obtain ⟨its, rv, p⟩ := inv_sq I hqx
    obtain ⟨its2, rv2, p2⟩ := inv_sq I hqy
    obtain ⟨u, hu, ru⟩ := rv.get hx
    obtain ⟨u2, hu2, ru2⟩ := rv2.get hy
    have hzl : z < s.heap.objs.size := Heap.lt_size hz
    have hl1 : i < its.toArray.size := by have := (List.getElem?_eq_some_iff.mp hu).1; simpa using this
    have hl2 : i < its2.toArray.size := by have := (List.getElem?_eq_some_iff.mp hu2).1; simpa using this
    refine wpAny_pyNext_zipD2_item D (drawsB (A := X.A.in1) b1 (I.ok.hd hc) i1 a ha1 its.toArray) (drawsB (A := X.A.in1) b2 (I.ok.hd hc) i2 b hb2 its2.toArray) hz hTI hTO ⟨h1, p⟩ ⟨h2, p2⟩ hl1 hl2 fun x1 x2 h' tk q1 q2 z' TO' s1' s2' hT hsz hk => ?_
    have e1 : x1 = u := by
      have h1 : its[i]? = some x1 := by simpa using q1
      rw [hu] at h1; exact (Option.some.inj h1).symm
    have e2 : x2 = u2 := by
      have h1 : its2[i]? = some x2 := by simpa using q2
      rw [hu2] at h1; exact (Option.some.inj h1).symm
    subst e1 e2
    refine ⟨_, rfl, wpAny_letOwnedTupleGo_zip (s := { s with heap := h', toks := tk }) z' fun h'' z'' sb => ?_⟩
    have hT2 : h''.get? s.heap.objs.size = some { cls := .type "tuple", data := .seq #[x1, x2] } := (sb.2 _ (Nat.ne_of_gt hzl)).trans hT
    have new : ObjOk X.prog X.w (upd H s.heap.objs.size (.tup [x, y])) h'' s.heap.objs.size (.tup [x, y]) :=
      ⟨by show 2 ≤ sizeLine; decide, [x1, x2], .cons ru (.cons ru2 .nil), ⟨_, hT2, rfl, _, rfl⟩⟩
    have I1 : Inv X pins σ (upd H s.heap.objs.size (.tup [x, y])) { s with heap := h'', toks := tk } :=
      I.turnedNew (t' := tk) (ch := [z, TI, TO, i1, i2]) (fun c o hb q => (sb.2 c (fun q' => hb (by simp [q']))).trans (hk c o (fun q' => hb (by simp [q'])) (fun q' => hb (by simp [q'])) (fun q' => hb (by simp [q'])) (fun q' => hb (by simp [q'])) q)) hf (Nat.le_refl _) new
    refine ⟨.ref s.heap.objs.size, _, I1, rfl, ⟨_, x, y, rfl, I.hok.fresh (Nat.le_refl _), rfl, fun l hl => by rw [inv_sqInj I hl hqx]; exact hx, fun l hl => by rw [inv_sqInj I hl hqy]; exact hy⟩, ⟨z'', ?_, ⟨x1, x2, ?_⟩, ?_, ?_⟩, fun c hcm => ?_⟩
    · exact (sb.2 _ D.TIz).trans (hk _ _ D.TIz D.TITO D.TIi1 D.TIi2 hTI)
    · exact (sb.2 _ D.TOz).trans TO'
    · exact s1'.1.at fun o q => (sb.2 _ (Ne.symm D.zi1)).trans q
    · exact s2'.1.at fun o q => (sb.2 _ (Ne.symm D.zi2)).trans q
    · have hlt : c < s.heap.objs.size := by
        have e' : c = z ∨ c = TI ∨ c = TO ∨ c = i1 ∨ c = i2 := by simpa using hcm
        rcases e' with q | q | q | q | q
        · rw [q]; exact hzl
        · rw [q]; exact Heap.lt_size hTI
        · rw [q]; exact Heap.lt_size hTO
        · rw [q]; obtain ⟨_, e1, _⟩ := h1.obj; exact Heap.lt_size e1
        · rw [q]; obtain ⟨_, e2, _⟩ := h2.obj; exact Heap.lt_size e2
      rw [upd_ne (Nat.ne_of_lt hlt)]
      exact (hf c hcm).1
  done := by
    intro X hP hw hK hc i pins s σ H E I hf st hg
    subst hP hw hK
    obtain ⟨hz, hTI, ⟨x0, y0, hTO⟩, h1, h2⟩ := st
    obtain ⟨xs, ys, hqx, hqy, hle1, hle2, hend⟩ := hg
    obtain ⟨its, rv, p⟩ := inv_sq I hqx
    obtain ⟨its2, rv2, p2⟩ := inv_sq I hqy
    have l1 := rv.length
    have l2 := rv2.length
    refine wpAny_pyNext_zipD2_end D (drawsB (A := X.A.in1) b1 (I.ok.hd hc) i1 a ha1 its.toArray) (drawsB (A := X.A.in1) b2 (I.ok.hd hc) i2 b hb2 its2.toArray) hz hTI hTO ⟨h1, p⟩ ⟨h2, p2⟩ (by simp; omega) (by simp; omega) (by simp; omega) fun h' tk hk => ⟨rfl, ?_⟩
    exact I.turnedL (t' := tk) (ch := [z, TI, TO, i1, i2]) (fun c o hb q =>
      hk c o (fun q' => hb (by simp [q'])) (fun q' => hb (by simp [q'])) (fun q' => hb (by simp [q'])) (fun q' => hb (by simp [q'])) q) hf
  self := fun A i s Q E st h => wpAny_pyIter_zip st.1 h
theorem sepZ (n a b : Nat) (la : a < n) (lb : b < n) : ZipSep2 (n + 4 : Nat) (n + 2 : Nat) (n + 3 : Nat) n (n + 1 : Nat) [n, a] [(n + 1 : Nat), b] := by
  have ne : ∀ x y : Nat, x ≠ y → ¬ (@Eq Addr x y) := fun x y h => h
  have nm : ∀ x y z : Nat, x ≠ y → x ≠ z → ¬ (@Membership.mem Addr (List Addr) _ [y, z] x) := fun x y z h g m => by
    rcases List.mem_cons.mp m with m | m
    · exact h m
    · exact g (List.mem_singleton.mp m)
  refine ⟨ne _ _ (by omega), ne _ _ (by omega), ne _ _ (by omega), ne _ _ (by omega), List.mem_cons_self .., nm _ _ _ (by omega) (by omega), nm _ _ _ (by omega) (by omega), ne _ _ (by omega), List.mem_cons_self .., nm _ _ _ (by omega) (by omega), nm _ _ _ (by omega) (by omega), nm _ _ _ (by omega) (by omega), nm _ _ _ (by omega) (by omega)⟩
def iZipB (K : PySem.W.Frag) (ta : TA) : TI := fun σ H R => ta σ H fun vs H1 => ∃ b1 b2 a b xs ys, vs = [.ref a, .ref b] ∧ SqB b1 K H1 a xs ∧ SqB b2 K H1 b ys ∧ R (ItzB b1 b2 K a b) H1
theorem pi_zipB {X : Cx} {e e2 : Expr} {ta : TA} {p pos tpos : Pos} {elts : List Expr} {kk : Nat} (hg : Gl X "zip") (hm : X.mg "zip" = none) (ha : PA X [e, e2] ta)
    (hs : starEach [e, e2] X.env = (false, eval e X.env) :: starEach [e2] X.env := by rfl) (hpl : (backTo pos (starEach [e2] X.env)).any (·.1) = false := by rfl) :
    PI X (.Tuple elts kk tpos) (.Call (.Name "zip" p) [e, e2] [] pos) (iZipB X.K ta) := by
  refine ⟨fun pins s σ H R I h => ?_⟩
  refine Call_ (ld_blt I hg hm PyProof.Rows.boot_zip (PyProof.Rows.callWith_type1 (thn (ha.run pos pins s σ H _ I h) fun us s1 ⟨vs, H1, I1, r1, q1⟩ => ?_) hs hpl))
  obtain ⟨b1, b2, a, b, xs, ys, ex, hqx, hqy, q⟩ := q1
  subst ex
  cases r1 with
  | cons r rr =>
    cases rr with
    | cons r' rr =>
      cases rr
      cases r
      cases r'
      obtain ⟨its, rv, p1⟩ := inv_sq I1 hqx
      obtain ⟨its2, rv2, p2⟩ := inv_sq I1 hqy
      have la := p1.lt
      have lb := p2.lt
      refine call_zipB p1 p2 fun h' hz hTI hTO h1 h2 hsz hk => wpAny_pyIter_zip hz ?_
      have I2 : Inv X pins σ H1 { s1 with heap := h' } := I1.kept (t' := s1.toks) hk
      refine ⟨s1.heap.objs.size + 4, [s1.heap.objs.size + 4, s1.heap.objs.size + 2, s1.heap.objs.size + 3, s1.heap.objs.size, s1.heap.objs.size + 1], _, _, H1, rfl, I2,
        turn_zipB b1 b2 (a := a) (b := b) (z := s1.heap.objs.size + 4) (TI := s1.heap.objs.size + 2) (TO := s1.heap.objs.size + 3) (i1 := s1.heap.objs.size) (i2 := s1.heap.objs.size + 1) (sepZ s1.heap.objs.size a b la lb) (Nat.ne_of_lt la) (Nat.ne_of_lt (Nat.lt_succ_of_lt lb)), ⟨hz, hTI, ⟨_, _, hTO⟩, h1, h2⟩, fun c hcm => ?_, q⟩
      · have e' : c = s1.heap.objs.size + 4 ∨ c = s1.heap.objs.size + 2 ∨ c = s1.heap.objs.size + 3 ∨ c = s1.heap.objs.size ∨ c = s1.heap.objs.size + 1 := by simpa using hcm
        have hle : s1.heap.objs.size ≤ c := by
          rcases e' with z | z | z | z | z
          · rw [z]; exact Nat.le_add_right _ _
          · rw [z]; exact Nat.le_add_right _ _
          · rw [z]; exact Nat.le_add_right _ _
          · rw [z]; exact Nat.le_refl _
          · rw [z]; exact Nat.le_add_right _ _
        exact I1.fpOk hle (I1.hok.fresh hle)
end
section
variable {X : Cx} {a b c e o tg : Expr} {mo m ma mb : M W} {br : Bool} {pos apos : Pos} {E : Ent} {σw σw' : Sls} {S S' : Sto} {φ φ' : List Addr} {σ σ' : L2.St} {H H' : Hp} {w x : W} {v : V} {es : List Expr} {la : M (List W)} {p : Addr} {Q : VK}
/-! ### what is walked -/
theorem _root_.L2.PI.any {T : TI} (k : ∀ σ H Q, T σ H Q → ∃ t, PI X tg e t ∧ t σ H Q) : PI X tg e T := ⟨fun pins s σ H Q I q => by
  obtain ⟨t, h, q⟩ := k σ H Q q
  exact h.run pins s σ H Q I q⟩
theorem pi_itop (ha : PE X e (rdE X.K false ma)) : PI X tg e (rdI X.K (mIt ma)) := PI.any fun σ H Q ⟨E, σw, S, φ, R, ws, S', q, k⟩ => by
  obtain ⟨x, S1, e1, q⟩ := bind_ok q
  split at q
  · rename_i xs
    cases q
    refine ⟨_, pi_list ha, E, σw, S, φ, R, _, _, e1, fun φ1 H1 v x1 R1 r1 => ?_⟩
    cases r1.fr with
    | lst h n r =>
      refine ⟨_, rfl, ⟨_, SqL.of h⟩, k φ1 H1 _ x1 R1 fun φ' Z' H' L al => ?_⟩
      obtain ⟨h', n'⟩ := L.at h n
      have r' := r.mono L
      refine ⟨⟨_, SqL.of h', by rw [r'.len]; exact Nat.le_refl _⟩, fun i w hw => ?_⟩
      obtain ⟨z, hz, rz⟩ := r'.get hw
      refine ⟨⟨_, z, SqL.of h', hz⟩, fun x H'' y => ?_⟩
      obtain ⟨e2, y⟩ := y
      subst e2
      have := y _ (SqL.of h')
      rw [hz] at this; cases this
      exact ⟨Same.refl _, rz⟩
  · rename_i xs
    cases q
    refine ⟨_, pi_tup ha, E, σw, S, φ, R, _, _, e1, fun φ1 H1 v x1 R1 r1 => ?_⟩
    cases r1.fr with
    | tup h r =>
      refine ⟨_, rfl, ⟨_, h.sq⟩, k φ1 H1 _ x1 R1 fun φ' Z' H' L al => ?_⟩
      have h' := TupAt.mono L h
      have r' := r.mono L
      refine ⟨⟨_, h'.sq, by rw [r'.len]; exact Nat.le_refl _⟩, fun i w hw => ?_⟩
      obtain ⟨z, hz, rz⟩ := r'.get hw
      refine ⟨⟨_, z, h'.sq, hz⟩, fun x H'' y => ?_⟩
      obtain ⟨e2, y⟩ := y
      subst e2
      have := y _ h'.sq
      rw [hz] at this; cases this
      exact ⟨Same.refl _, rz⟩
  · rename_i xs
    cases q
    refine ⟨_, pi_list ha, E, σw, S, φ, R, _, _, e1, fun φ1 H1 v x1 R1 r1 => ?_⟩
    cases r1.fr with
    | scr h r =>
      refine ⟨_, rfl, ⟨_, h.sql⟩, k φ1 H1 _ x1 R1 fun φ' Z' H' L al => ?_⟩
      have h' : SqZ _ _ H' _ _ := h.elim (fun ⟨o, h, n⟩ => .inl ⟨o, L.at h n⟩) .inr
      have r' := r.mono L
      refine ⟨⟨_, h'.sql, by rw [r'.len]; exact Nat.le_refl _⟩, fun i w hw => ?_⟩
      obtain ⟨z, hz, rz⟩ := r'.get hw
      refine ⟨⟨_, z, h'.sql, hz⟩, fun x H'' y => ?_⟩
      obtain ⟨e2, y⟩ := y
      subst e2
      have := y _ h'.sql
      rw [hz] at this; cases this
      exact ⟨Same.refl _, rz⟩
  · rename_i s
    cases q
    refine ⟨_, pi_str ha, E, σw, S, φ, R, _, _, e1, fun φ1 H1 v x1 R1 r1 => ?_⟩
    cases r1.fr with
    | str _ =>
      refine ⟨_, rfl, k φ1 H1 _ x1 R1 fun φ' Z' H' L al => ⟨by simp [Its], fun i w hw => ?_⟩⟩
      rw [List.getElem?_map] at hw
      obtain ⟨c, hc, hw⟩ := Option.map_eq_some_iff.mp hw
      subst hw
      have hlt := (List.getElem?_eq_some_iff.mp hc).1
      refine ⟨by simpa [Its] using hlt, fun x H'' y => ?_⟩
      obtain ⟨e2, c', hc', e3⟩ := y
      subst e2 e3
      have : s.cps[i]? = some c := by simpa using hc
      rw [this] at hc'; cases hc'
      exact ⟨Same.refl _, .str _⟩
  · rename_i n
    split at q
    · rename_i xs hn
      cases q
      refine ⟨_, pi_list ha, E, σw, S, φ, R, _, _, e1, fun φ1 H1 v x1 R1 r1 => ?_⟩
      obtain ⟨d, rfl, hd⟩ := rx_loc R1 r1 rfl
      obtain ⟨od, vs, hA, rA⟩ := R1.st.ob n _ d hn hd
      refine ⟨_, rfl, ⟨_, .inl (.inr ⟨od, hA⟩)⟩, k φ1 H1 _ x1 R1 fun φ' Z' H' L al => ?_⟩
      have h' : SqL X.K H' d vs := .inl (.inr ⟨od, L.fz d _ _ hA⟩)
      have r' := rA.mono L
      refine ⟨⟨_, h', by rw [r'.len]; exact Nat.le_refl _⟩, fun i w hw => ?_⟩
      obtain ⟨z, hz, rz⟩ := r'.get hw
      refine ⟨⟨_, z, h', hz⟩, fun x H'' y => ?_⟩
      obtain ⟨e2, y⟩ := y
      subst e2
      have := y _ h'
      rw [hz] at this; cases this
      exact ⟨Same.refl _, rz⟩
    · cases q
  · cases q
theorem rev_get {ws : List W} {i : Nat} {w : W} (h : ws.reverse[i]? = some w) : i < ws.length ∧ ws[ws.length - 1 - i]? = some w := by
  have hi := (List.getElem?_eq_some_iff.mp h).1
  rw [List.length_reverse] at hi
  rw [List.getElem?_reverse hi] at h
  exact ⟨hi, h⟩
theorem pi_revop {p : Pos} (hg : Gl X "reversed") (hm : X.mg "reversed" = none) (hs : isStar e = false) (ha : PE X e (rdE X.K false ma)) : PI X tg (.Call (.Name "reversed" p) [e] [] pos) (rdI X.K (mRev ma)) :=
  (RT.pi_revA hg hm ha (star_cons hs)).imp fun σ H Q ⟨E, σw, S, φ, R, ws, S', q, k⟩ => by
  obtain ⟨x, S1, e1, q⟩ := bind_ok q
  split at q
  · rename_i xs
    cases q
    refine ⟨E, σw, S, φ, R, _, _, e1, fun φ1 H1 v x1 R1 r1 => ?_⟩
    cases r1.fr with
    | lst h n r =>
      refine ⟨_, _, rfl, .inl ⟨SqL.of h, k φ1 H1 _ x1 R1 fun φ' Z' H' L al => ?_⟩⟩
      obtain ⟨h', n'⟩ := L.at h n
      have r' := r.mono L
      refine ⟨by show _ ≤ xs.reverse.length; rw [List.length_reverse, r'.len]; exact Nat.le_refl _, fun i w hw => ?_⟩
      obtain ⟨hi, hw'⟩ := rev_get hw
      obtain ⟨z, hz, rz⟩ := r'.get hw'
      rw [r'.len] at hz hi
      refine ⟨⟨hi, _, z, SqL.of h', hz⟩, fun x H'' y => ?_⟩
      obtain ⟨e2, y⟩ := y
      subst e2
      have := y _ (SqL.of h')
      rw [hz] at this; cases this
      exact ⟨Same.refl _, rz⟩
  · rename_i xs
    cases q
    refine ⟨E, σw, S, φ, R, _, _, e1, fun φ1 H1 v x1 R1 r1 => ?_⟩
    cases r1.fr with
    | tup h r =>
      refine ⟨_, _, rfl, .inr ⟨h.sq, k φ1 H1 _ x1 R1 fun φ' Z' H' L al => ?_⟩⟩
      have h' := TupAt.mono L h
      have r' := r.mono L
      refine ⟨by show _ ≤ xs.reverse.length; rw [List.length_reverse, r'.len]; exact Nat.le_refl _, fun i w hw => ?_⟩
      obtain ⟨hi, hw'⟩ := rev_get hw
      obtain ⟨z, hz, rz⟩ := r'.get hw'
      rw [r'.len] at hz hi
      refine ⟨⟨hi, _, z, h'.sq, hz⟩, fun x H'' y => ?_⟩
      obtain ⟨e2, y⟩ := y
      subst e2
      have := y _ h'.sq
      rw [hz] at this; cases this
      exact ⟨Same.refl _, rz⟩
  · cases q
theorem it_rng {lo : Int} {n : Nat} {Z : Addr → Prop} {K : PySem.W.Frag} : ItOk K (Itr lo n) (rngW lo n) φ Z H := fun φ' Z' H' L al => by
  unfold rngW
  refine ⟨by simp [Itr], fun i w hw => ?_⟩
  rw [List.getElem?_map] at hw
  obtain ⟨j, hj, hw⟩ := Option.map_eq_some_iff.mp hw
  obtain ⟨hlt, e1⟩ := List.getElem?_eq_some_iff.mp hj
  simp at hlt e1
  subst e1 hw
  refine ⟨hlt, fun x H'' y => ?_⟩
  obtain ⟨e2, e3⟩ := y
  subst e2 e3
  exact ⟨Same.refl _, .int _⟩
theorem pi_rng1op {p : Pos} (hg : Gl X "range") (hm : X.mg "range" = none) (hs : isStar a = false) (ha : PE X a (rdE X.K true ma)) : PI X tg (.Call (.Name "range" p) [a] [] pos) (rdI X.K (mRng1 ma)) :=
  (pi_range1 hg hm (pa_consop hs ha pa_nilop) (star_cons hs)).imp fun σ H Q ⟨E, σw, S, φ, R, ws, S', q, k⟩ => by
    obtain ⟨x, S1, e1, q⟩ := bind_ok q
    split at q
    · rename_i j
      split at q
      · rename_i h
        cases q
        have e2 : mCons ma mNil σw S = .ok [.int j] S' := by unfold mCons; rw [e1]; rfl
        refine ⟨E, σw, S, φ, R, _, _, e2, fun φ1 H1 us x1 R1 r1 => ?_⟩
        obtain ⟨u, rfl, ru⟩ := rxs_cons1 r1 rfl
        exact ⟨j, by rw [rx_int R1 ru rfl], h.1, h.2, k φ1 H1 _ x1 R1 it_rng⟩
      · cases q
    · cases q
theorem pi_rng2op {p : Pos} (hg : Gl X "range") (hm : X.mg "range" = none) (hs : isStar a = false) (hs2 : isStar b = false) (ha : PE X a (rdE X.K true ma)) (hb : PE X b (rdE X.K true mb)) : PI X tg (.Call (.Name "range" p) [a, b] [] pos) (rdI X.K (mRng2 ma mb)) :=
  (pi_range2 hg hm (pa_consop hs ha (pa_consop hs2 hb pa_nilop)) (by rw [star_cons hs, star_cons hs2]; rfl) (star_cons hs2)).imp fun σ H Q ⟨E, σw, S, φ, R, ws, S', q, k⟩ => by
    obtain ⟨x, S1, e1, q1⟩ := bind_ok q
    clear q
    obtain ⟨y, S2, e3, q⟩ := bind_ok q1
    clear q1
    split at q
    · rename_i i j
      split at q
      · rename_i h
        cases q
        have e2 : mCons ma (mCons mb mNil) σw S = .ok [.int i, .int j] S' := by
          unfold mCons; rw [e1]; show (Res.bind (Res.bind (mb σw S1) _) _) = _; rw [e3]; rfl
        refine ⟨E, σw, S, φ, R, _, _, e2, fun φ1 H1 us x1 R1 r1 => ?_⟩
        obtain ⟨u, t, rfl, ru, rt⟩ := rxs_cons2 r1 rfl
        exact ⟨i, j, by rw [rx_int R1 ru rfl, rx_int R1 rt rfl], ⟨h.1.1, h.1.2, h.2.1, h.2.2⟩, k φ1 H1 _ x1 R1 it_rng⟩
      · cases q
    · cases q
theorem it_rngC {lo c : Int} {n : Nat} {Z : Addr → Prop} {K : PySem.W.Frag} : ItOk K (Itc lo c n) (rngC lo c n) φ Z H := fun φ' Z' H' L al => by
  unfold rngC
  refine ⟨by simp [Itc], fun i w hw => ?_⟩
  rw [List.getElem?_map] at hw
  obtain ⟨j, hj, hw⟩ := Option.map_eq_some_iff.mp hw
  obtain ⟨hlt, e1⟩ := List.getElem?_eq_some_iff.mp hj
  simp at hlt e1
  subst e1 hw
  refine ⟨hlt, fun x H'' y => ?_⟩
  obtain ⟨e2, e3⟩ := y
  subst e2 e3
  exact ⟨Same.refl _, .int _⟩
theorem pi_rng3op {c : Expr} {mc : M W} {p : Pos} (hg : Gl X "range") (hm : X.mg "range" = none) (hs : noStar [a, b, c] = true) (ha : PE X a (rdE X.K true ma)) (hb : PE X b (rdE X.K true mb)) (hc : PE X c (rdE X.K true mc)) : PI X tg (.Call (.Name "range" p) [a, b, c] [] pos) (rdI X.K (mRng3 ma mb mc)) := by
  obtain ⟨s1, hs⟩ := noStar_cons hs
  obtain ⟨s2, hs⟩ := noStar_cons hs
  obtain ⟨s3, hs⟩ := noStar_cons hs
  exact (pi_range3 hg hm (pa_consop s1 ha (pa_consop s2 hb (pa_consop s3 hc pa_nilop))) (star_cons s1) (by rw [star_cons s2, star_cons s3]; rfl)).imp fun σ H Q ⟨E, σw, S, φ, R, ws, S', q, k⟩ => by
    obtain ⟨x, S1, e1, q1⟩ := bind_ok q
    clear q
    obtain ⟨y, S2, e3, q2⟩ := bind_ok q1
    clear q1
    obtain ⟨z, S3, e4, q⟩ := bind_ok q2
    clear q2
    split at q
    · rename_i i j kk
      split at q
      · rename_i h
        cases q
        have e2 : mCons ma (mCons mb (mCons mc mNil)) σw S = .ok [.int i, .int j, .int kk] S' := by
          unfold mCons; rw [e1]; show (Res.bind (Res.bind (mb σw S1) _) _) = _; rw [e3]; show (Res.bind (Res.bind (Res.bind (mc σw S2) _) _) _) = _; rw [e4]; rfl
        refine ⟨E, σw, S, φ, R, _, _, e2, fun φ1 H1 us x1 R1 r1 => ?_⟩
        cases r1 with
        | cons ru r1 =>
          obtain ⟨t, t2, rfl, rt, rt2⟩ := rxs_cons2 r1 rfl
          obtain ⟨h1, h2, rfl⟩ := h
          exact ⟨i, j, -1, _, by rw [rx_int R1 ru rfl, rx_int R1 rt rfl, rx_int R1 rt2 rfl], RgC.neg h1.1 h1.2 h2.1 h2.2, k φ1 H1 _ x1 R1 it_rngC⟩
      · cases q
    · cases q
theorem pi_enumop {p tpos : Pos} {elts : List Expr} {kk : Nat} (hg : Gl X "enumerate") (hm : X.mg "enumerate" = none) (hs : isStar a = false) (ha : PE X a (rdE X.K false ma)) : PI X (.Tuple elts kk tpos) (.Call (.Name "enumerate" p) [a] [] pos) (rdI X.K (mEnum ma)) :=
  (pi_enumA hg hm (pa_consop hs ha pa_nilop) (star_cons hs)).imp fun σ H Q ⟨E, σw, S, φ, R, ws, S', q, k⟩ => by
    obtain ⟨x, S1, e1, q⟩ := bind_ok q
    split at q
    · rename_i xs
      cases q
      have e2 : mCons ma mNil σw S = .ok [.lst xs] S' := by unfold mCons; rw [e1]; rfl
      refine ⟨E, σw, S, φ, R, _, _, e2, fun φ1 H1 us x1 R1 r1 => ?_⟩
      obtain ⟨u, rfl, ru⟩ := rxs_cons1 r1 rfl
      cases ru.fr with
      | lst h n r =>
        refine ⟨_, _, rfl, .inl ⟨SqL.of h, k φ1 H1 _ x1 R1 fun φ' Z' H' L al => ?_⟩⟩
        obtain ⟨h', n'⟩ := L.at h n
        have r' := r.mono L
        refine ⟨⟨_, SqL.of h', by rw [← r'.len]; simp⟩, fun i w hw => ?_⟩
        rw [List.getElem?_mapIdx] at hw
        obtain ⟨y, hy, hw⟩ := Option.map_eq_some_iff.mp hw
        subst hw
        obtain ⟨z, hz, rz⟩ := r'.get hy
        refine ⟨⟨_, z, SqL.of h', hz⟩, fun x H'' y => ?_⟩
        obtain ⟨T, x', e3, hT, e4, y⟩ := y
        subst e3 e4
        have := y _ (SqL.of h')
        rw [hz] at this; cases this
        have nT : ¬ Z' T := fun z => al T z hT
        exact ⟨same_new hT, .tup (.inl ⟨upd_same, nT⟩) ((RFs.cons (.int _) (.cons rz .nil)).mono (.same (same_new hT) fun _ z => z))⟩
    · rename_i xs
      cases q
      have e2 : mCons ma mNil σw S = .ok [.tup xs] S' := by unfold mCons; rw [e1]; rfl
      refine ⟨E, σw, S, φ, R, _, _, e2, fun φ1 H1 us x1 R1 r1 => ?_⟩
      obtain ⟨u, rfl, ru⟩ := rxs_cons1 r1 rfl
      cases ru.fr with
      | tup h r =>
        refine ⟨_, _, rfl, .inr ⟨h.sq, k φ1 H1 _ x1 R1 fun φ' Z' H' L al => ?_⟩⟩
        have h' := (h.mono L).sq
        have r' := r.mono L
        refine ⟨⟨_, h', by rw [← r'.len]; simp⟩, fun i w hw => ?_⟩
        rw [List.getElem?_mapIdx] at hw
        obtain ⟨y, hy, hw⟩ := Option.map_eq_some_iff.mp hw
        subst hw
        obtain ⟨z, hz, rz⟩ := r'.get hy
        refine ⟨⟨_, z, h', hz⟩, fun x H'' y => ?_⟩
        obtain ⟨T, x', e3, hT, e4, y⟩ := y
        subst e3 e4
        have := y _ h'
        rw [hz] at this; cases this
        have nT : ¬ Z' T := fun z => al T z hT
        exact ⟨same_new hT, .tup (.inl ⟨upd_same, nT⟩) ((RFs.cons (.int _) (.cons rz .nil)).mono (.same (same_new hT) fun _ z => z))⟩
    · cases q
theorem wseq_rf {K : PySem.W.Frag} {φ : List Addr} {Z : Addr → Prop} {H : Hp} {w : W} {v : V} {b : Bool} {xs : List W} (r : RF K φ Z H w v) (e : wseq w = some (b, xs)) : ∃ a vs, v = .ref a ∧ SqB b K H a vs ∧ RFs K φ Z H xs vs ∧ ∀ {φ' Z' H'}, Later φ Z H φ' Z' H' → SqB b K H' a vs := by
  cases r <;> simp only [wseq, Option.some.injEq, Prod.mk.injEq] at e <;> first | (cases e; done) | skip
  all_goals obtain ⟨rfl, rfl⟩ := e
  case lst h n r => exact ⟨_, _, rfl, SqL.of h, r, fun L => SqL.of (L.at h n).1⟩
  case tup h r => exact ⟨_, _, rfl, h.sq, r, fun L => (h.mono L).sq⟩
theorem pi_zipop {p tpos : Pos} {elts : List Expr} {kk : Nat} (hg : Gl X "zip") (hm : X.mg "zip" = none) (hs : isStar a = false) (hs2 : isStar b = false) (ha : PE X a (rdE X.K false ma)) (hb : PE X b (rdE X.K false mb)) : PI X (.Tuple elts kk tpos) (.Call (.Name "zip" p) [a, b] [] pos) (rdI X.K (mZip ma mb)) :=
  (pi_zipB hg hm (pa_consop hs ha (pa_consop hs2 hb pa_nilop)) (star_cons hs) (by rw [star_cons hs2]; rfl)).imp fun σ H Q ⟨E, σw, S, φ, R, ws, S', q, k⟩ => by
    obtain ⟨x, S1, e1, q1⟩ := bind_ok q
    clear q
    obtain ⟨y, S2, e3, q⟩ := bind_ok q1
    clear q1
    split at q
    · rename_i b1 xs b2 ys hx hy
      cases q
      have e2 : mCons ma (mCons mb mNil) σw S = .ok [x, y] S' := by
        unfold mCons; rw [e1]; show (Res.bind (Res.bind (mb σw S1) _) _) = _; rw [e3]; rfl
      refine ⟨E, σw, S, φ, R, _, _, e2, fun φ1 H1 us x1 R1 r1 => ?_⟩
      obtain ⟨u, t, rfl, ru, rt⟩ := rxs_cons2 r1 rfl
      obtain ⟨pa, va, rfl, sa, ra, la⟩ := wseq_rf ru.fr hx
      obtain ⟨pb, vb, rfl, sb, rb, lb⟩ := wseq_rf rt.fr hy
      refine ⟨b1, b2, pa, pb, va, vb, rfl, sa, sb, k φ1 H1 _ x1 R1 fun φ' Z' H' L al => ?_⟩
      have ra' := ra.mono L
      have rb' := rb.mono L
      have l1 := ra'.len
      have l2 := rb'.len
      refine ⟨⟨_, _, la L, lb L, ?_⟩, fun i w hw => ?_⟩
      · simp only [List.length_map, List.length_zip, ← l1, ← l2]
        omega
      rw [List.getElem?_map] at hw
      obtain ⟨pr, hp, hw⟩ := Option.map_eq_some_iff.mp hw
      subst hw
      obtain ⟨h1, h2⟩ := List.getElem?_zip_eq_some.mp hp
      obtain ⟨z1, hz1, rz1⟩ := ra'.get h1
      obtain ⟨z2, hz2, rz2⟩ := rb'.get h2
      refine ⟨⟨_, _, z1, z2, la L, lb L, hz1, hz2⟩, fun x H'' y => ?_⟩
      obtain ⟨T, x', y', e3, hT, e4, y1, y2⟩ := y
      subst e3 e4
      have q1 := y1 _ (la L)
      rw [hz1] at q1; cases q1
      have q2 := y2 _ (lb L)
      rw [hz2] at q2; cases q2
      have nT : ¬ Z' T := fun z => al T z hT
      exact ⟨same_new hT, .tup (.inl ⟨upd_same, nT⟩) ((RFs.cons rz1 (.cons rz2 .nil)).mono (.same (same_new hT) fun _ z => z))⟩
    · cases q
/-! ### comprehensions as expressions -/
theorem pe_lcop {mit : M (List W)} {bd : W → M Sls} {mt : M Bool} {me : M W} {own : List (Str × Nat)} {cs : Scope} {it : Expr} {ifs : List Expr} (hc : X.calm = true) (hN : X.N.Nodup) (hi : PI X tg it (rdI X.K mit)) (ok : BlkOk X.N X.env.scope cs own) (hb : BdOk (own.map (·.2)) bd)
    (hg : ∀ (s : Shared) (H : Hp) (C : Addr) (cl : List (Str × Addr)) (fp : List Addr), PG (X.blk s H cs (compEnvC cs cl C X.env) fp) tg (rdG X.K (own.map (·.2)) bd)) (ht : ∀ (s : Shared) (H : Hp) (C : Addr) (cl : List (Str × Addr)) (fp : List Addr), PTs (X.blk s H cs (compEnvC cs cl C X.env) fp) ifs (rdT X.K mt))
    (he : ∀ (s : Shared) (H : Hp) (C : Addr) (cl : List (Str × Addr)) (fp : List Addr), PE (X.blk s H cs (compEnvC cs cl C X.env) fp) e (rdE X.K false me)) (hs : isSet it = false) : PE X (.ListComp e [⟨tg, it, ifs, 0⟩] cs pos) (rdN X.K (mLc mit bd mt me (own.map (·.2)))) :=
  (pe_lc hc hN hi ok hg ht he (by cases it <;> first | (intro _; rfl) | cases hs)).imp fun σ H Q ⟨E, σw, S, φ, R, w, S', q, k⟩ => lc_go hb R q k
theorem pe_dcop {mit : M (List W)} {bd : W → M Sls} {mt : M Bool} {mk me : M W} {own : List (Str × Nat)} {cs : Scope} {kx it : Expr} {ifs : List Expr} (hc : X.calm = true) (hN : X.N.Nodup) (hi : PI X tg it (rdI X.K mit)) (ok : BlkOk X.N X.env.scope cs own) (hb : BdOk (own.map (·.2)) bd)
    (hg : ∀ (s : Shared) (H : Hp) (C : Addr) (cl : List (Str × Addr)) (fp : List Addr), PG (X.blk s H cs (compEnvC cs cl C X.env) fp) tg (rdG X.K (own.map (·.2)) bd)) (ht : ∀ (s : Shared) (H : Hp) (C : Addr) (cl : List (Str × Addr)) (fp : List Addr), PTs (X.blk s H cs (compEnvC cs cl C X.env) fp) ifs (rdT X.K mt))
    (hk : ∀ (s : Shared) (H : Hp) (C : Addr) (cl : List (Str × Addr)) (fp : List Addr), PE (X.blk s H cs (compEnvC cs cl C X.env) fp) kx (rdE X.K true mk))
    (he : ∀ (s : Shared) (H : Hp) (C : Addr) (cl : List (Str × Addr)) (fp : List Addr), PE (X.blk s H cs (compEnvC cs cl C X.env) fp) e (rdE X.K false me)) (hs : isSet it = false) : PE X (.DictComp kx e [⟨tg, it, ifs, 0⟩] cs pos) (rdN X.K (mDc mit bd mt mk me (own.map (·.2)))) :=
  (pe_dc hc hN hi ok hg ht hk he (by cases it <;> first | (intro _; rfl) | cases hs)).imp fun σ H Q ⟨E, σw, S, φ, R, w, S', q, k⟩ => dc_go hb R q k
theorem pe_lcop2 {mit mit1 : M (List W)} {bd bd1 : W → M Sls} {mt mt1 : M Bool} {me : M W} {own : List (Str × Nat)} {own1 : List Nat} {cs : Scope} {it it1 tg1 : Expr} {ifs ifs1 : List Expr} (hc : X.calm = true) (hN : X.N.Nodup) (hi : PI X tg it (rdI X.K mit)) (ok : BlkOk X.N X.env.scope cs own) (hv : ∀ i ∈ own1, i ∈ own.map (·.2)) (hb : BdOk (own.map (·.2)) bd) (hb1 : BdOk own1 bd1)
    (hg : ∀ (s : Shared) (H : Hp) (C : Addr) (cl : List (Str × Addr)) (fp : List Addr), PG (X.blk s H cs (compEnvC cs cl C X.env) fp) tg (rdG X.K (own.map (·.2)) bd)) (ht : ∀ (s : Shared) (H : Hp) (C : Addr) (cl : List (Str × Addr)) (fp : List Addr), PTs (X.blk s H cs (compEnvC cs cl C X.env) fp) ifs (rdT X.K mt))
    (hi1 : ∀ (s : Shared) (H : Hp) (C : Addr) (cl : List (Str × Addr)) (fp : List Addr), PI (X.blk s H cs (compEnvC cs cl C X.env) fp) tg1 it1 (rdI X.K mit1))
    (hg1 : ∀ (s : Shared) (H : Hp) (C : Addr) (cl : List (Str × Addr)) (fp : List Addr), PG (X.blk s H cs (compEnvC cs cl C X.env) fp) tg1 (rdG X.K own1 bd1)) (ht1 : ∀ (s : Shared) (H : Hp) (C : Addr) (cl : List (Str × Addr)) (fp : List Addr), PTs (X.blk s H cs (compEnvC cs cl C X.env) fp) ifs1 (rdT X.K mt1))
    (he : ∀ (s : Shared) (H : Hp) (C : Addr) (cl : List (Str × Addr)) (fp : List Addr), PE (X.blk s H cs (compEnvC cs cl C X.env) fp) e (rdE X.K false me)) (hs : isSet it = false) (hs1 : isSet it1 = false) : PE X (.ListComp e [⟨tg, it, ifs, 0⟩, ⟨tg1, it1, ifs1, 0⟩] cs pos) (rdN X.K (mLc2 mit bd mt mit1 bd1 mt1 me (own.map (·.2)) own1)) :=
  (pe_lc2 hc hN hi ok hv hg ht hi1 hg1 ht1 he (by cases it <;> first | (intro _; rfl) | cases hs) (by cases it1 <;> first | (intro _ _; rfl) | cases hs1)).imp fun σ H Q ⟨E, σw, S, φ, R, w, S', q, k⟩ => lc2_go hb hb1 R q k
end
end EV

namespace EV
open PySem PySem.Spec PyProof.Rows L2
section
variable {X : Cx} {a b c e o tg : Expr} {mo m ma mb me mi : M W} {br : Bool} {pos apos : Pos} {E : Ent} {σw σw' : Sls} {S S' : Sto} {φ φ' : List Addr} {σ σ' : L2.St} {H H' : Hp} {w x : W} {v : V} {es : List Expr} {la : M (List W)} {p : Addr} {Q : VK} {D : Ends} {f g : M Fl} {mt : M Bool}
/-! ### statements -/
theorem okS_move {K : PySem.W.Frag} {r : Res Fl} (L : Later φ (ZZ E σw φ σ) H φ' (ZZ E σw' φ' σ') H') (h : okS K E σw φ σ H r D) : okS K E σw' φ' σ' H' r D := by
  cases r with
  | ok fl S =>
    cases fl with
    | nx s => exact fun φ2 σ2 H2 L2 R2 => h φ2 σ2 H2 (L.trans L2) R2
    | bk s => exact fun φ2 σ2 H2 L2 R2 => h φ2 σ2 H2 (L.trans L2) R2
    | ct s => exact fun φ2 σ2 H2 L2 R2 => h φ2 σ2 H2 (L.trans L2) R2
    | rt w => exact fun φ2 H2 v L2 R2 => h φ2 H2 v (L.trans L2) R2
  | ex c as S => exact h
  | bad => exact h
theorem ps_nextop {st : Stmt} (h : PS X st tNext) : PS X st (rdS X.K sNext) := h.imp fun D σ H ⟨E, σw, S, φ, R, k⟩ => k φ σ H .refl R
theorem ps_brkop : PS X (.Break pos) (rdS X.K sBrk) := ps_break.imp fun D σ H ⟨E, σw, S, φ, R, k⟩ => k φ σ H .refl R
theorem ps_cntop : PS X (.Continue pos) (rdS X.K sCnt) := ps_continue.imp fun D σ H ⟨E, σw, S, φ, R, k⟩ => k φ σ H .refl R
theorem pss_nilop : PSs X [] (rdS X.K sNext) := pss_nil.imp fun D σ H ⟨E, σw, S, φ, R, k⟩ => k φ σ H .refl R
theorem seq_go {K : PySem.W.Frag} (R : Rl K E σw S φ σ H) (k : okS K E σw φ σ H (sSeq f g σw S) D) : rdS K f { D with nx := rdS K g D } σ H := by
  refine ⟨E, σw, S, φ, R, ?_⟩
  unfold sSeq at k
  cases hr : f σw S with
  | ok fl S1 =>
    rw [hr] at k
    cases fl with
    | nx s => exact fun φ1 σ1 H1 L1 R1 => ⟨E, s, S1, φ1, R1, okS_move L1 k⟩
    | bk s => exact k
    | ct s => exact k
    | rt w => exact k
  | ex c as S1 => rw [hr] at k; exact k
  | bad => rw [hr] at k; exact k
theorem pss_consop {st : Stmt} {rest : List Stmt} (h1 : PS X st (rdS X.K f)) (h2 : PSs X rest (rdS X.K g)) : PSs X (st :: rest) (rdS X.K (sSeq f g)) :=
  (pss_cons h1 h2).imp fun D σ H ⟨E, σw, S, φ, R, k⟩ => seq_go R k
theorem pss_oneop {st : Stmt} (h1 : PS X st (rdS X.K f)) : PSs X [st] (rdS X.K f) := pss_one h1
/-- an expression first -/
theorem okS_bind {α : Type} {r : Res α} {F : α → Sto → Res Fl} {K : PySem.W.Frag} (k : okS K E σw φ σ H (r.bind F) D) : ∃ x S1, r = .ok x S1 ∧ okS K E σw φ σ H (F x S1) D := by
  cases r with
  | ok x S1 => exact ⟨x, S1, rfl, k⟩
  | ex c as S1 => exact k.elim
  | bad => exact k.elim
theorem ps_dropop (hs : isLCm e = false ∧ isSDC e = false) (he : PE X e (rdE X.K false me)) : PS X (.Expr e pos) (rdS X.K (sDrop me)) :=
  (ps_expr he (by cases e <;> first | rfl | (cases hs.1; done) | (cases hs.2; done))).imp fun D σ H ⟨E, σw, S, φ, R, k⟩ => by
    obtain ⟨x, S1, e1, k⟩ := okS_bind k
    exact ⟨E, σw, S, φ, R, x, S1, e1, fun φ1 H1 v x1 R1 _ => k φ1 σ H1 x1.later R1⟩
theorem ret_z : ∀ a, (E.Z a ∨ a ∈ φ) → ZZ E σw φ σ a := fun a h => h.elim .inl fun m => .inr (.inl m)
theorem ret_ok {K : PySem.W.Frag} (R : Rl K E σw S φ σ H) (r : RF K φ (ZZ E σw φ σ) H w v) : RetOk K E S φ H w v := by
  have z : ∀ a, (E.Z a ∨ a ∈ φ) → ZZ E σw φ σ a := fun a h => h.elim .inl fun m => .inr (.inl m)
  exact ⟨R.st.mono (.less z) fun _ _ _ h => h, r.mono (.less z), R.eφ, R.ekeep, R.enew, R.efz⟩
theorem ps_retop (he : PE X e (rdE X.K false me)) : PS X (.Return (some e) pos) (rdS X.K (sRet me)) :=
  (ps_ret he).imp fun D σ H ⟨E, σw, S, φ, R, k⟩ => by
    obtain ⟨x, S1, e1, k⟩ := okS_bind k
    exact ⟨E, σw, S, φ, R, x, S1, e1, fun φ1 H1 v x1 R1 r1 => k φ1 H1 v (x1.later.trans (.less ret_z)) (ret_ok R1 r1.fr)⟩
theorem ps_retNop : PS X (.Return none pos) (rdS X.K sRetN) := ps_retN.imp fun D σ H ⟨E, σw, S, φ, R, k⟩ => k φ H .non (.less ret_z) (ret_ok R .non)
theorem ps_ifop {t : Expr} {A B : List Stmt} (ht : PT X t (rdT X.K mt)) (ha : PSs X A (rdS X.K f)) (hb : PSs X B (rdS X.K g)) : PS X (.If t A B pos) (rdS X.K (sIf mt f g)) :=
  (ps_if ht ha hb).imp fun D σ H ⟨E, σw, S, φ, R, k⟩ => by
    obtain ⟨d, S1, e1, k⟩ := okS_bind k
    refine ⟨E, σw, S, φ, R, d, S1, e1, fun φ1 H1 x1 R1 => ?_⟩
    cases d with
    | true => exact ⟨E, σw, S1, φ1, R1, okS_move x1.later k⟩
    | false => exact ⟨E, σw, S1, φ1, R1, okS_move x1.later k⟩
/-! ### stores to names -/
theorem later_fr {i : Nat} {K : PySem.W.Frag} (R : Rl K E σw S φ σ H) (r : RF K φ (ZZ E σw φ σ) H w v) : Later φ (ZZ E σw φ σ) H φ (ZZ E (σw.set i (.fr w)) φ (σ.set i (some v))) H := .less (R.setFr r).2
theorem ps_setop {i : Nat} (h : ∀ {te : TE}, PE X e te → PS X (.Assign [tg] e pos) (tAsg te (gName i))) (he : PE X e (rdE X.K false me)) : PS X (.Assign [tg] e pos) (rdS X.K (sSet i me)) :=
  (h he).imp fun D σ H ⟨E, σw, S, φ, R, k⟩ => by
    obtain ⟨x, S1, e1, k⟩ := okS_bind k
    exact ⟨E, σw, S, φ, R, x, S1, e1, fun φ1 H1 v x1 R1 r1 => k φ1 _ H1 (x1.later.trans (later_fr R1 r1.fr)) (R1.setFr r1.fr).1⟩
/-- a slot takes a new list or dict as its own -/
theorem Rl.setOw {K : PySem.W.Frag} {i : Nat} (R : Rl K (E.plus p) σw S φ σ H) (hp : ¬ ZZ E σw φ σ p) (he : E.H p = none) (hw : Holds K φ (ZZ (E.plus p) σw φ σ) H w p) :
    Rl K E (σw.set i (.ow w)) S φ (σ.set i (some (.ref p))) H ∧ ∀ a, ZZ E (σw.set i (.ow w)) φ (σ.set i (some (.ref p))) a → ZZ E σw φ σ a ∨ a = p := by
  have o1 : ∀ j u, (σw.set i (.ow w))[j]? = some (.ow u) → (j = i ∧ u = w ∧ i < σw.length) ∨ (j ≠ i ∧ σw[j]? = some (.ow u)) := fun j u h => by
    by_cases e : i = j
    · subst e
      by_cases hl : i < σw.length
      · rw [List.getElem?_set_self hl] at h; cases h; exact .inl ⟨rfl, rfl, hl⟩
      · rw [List.getElem?_eq_none (by simpa using hl)] at h; cases h
    · rw [List.getElem?_set_ne e] at h
      exact .inr ⟨fun z => e z.symm, h⟩
  have z : ∀ a, ZZ E (σw.set i (.ow w)) φ (σ.set i (some (.ref p))) a → ZZ E σw φ σ a ∨ a = p := fun a z => by
    rcases z with z | z | ⟨j, u, f, g⟩
    · exact .inl (.inl z)
    · exact .inl (.inr (.inl z))
    · rcases o1 j u f with ⟨rfl, rfl, hl⟩ | ⟨n, f⟩
      · rw [List.getElem?_set_self (by rw [R.len]; exact hl)] at g
        cases g; exact .inr rfl
      · rw [List.getElem?_set_ne (Ne.symm n)] at g
        exact .inl (.inr (.inr ⟨j, u, f, g⟩))
  have z' : ∀ a, ZZ E (σw.set i (.ow w)) φ (σ.set i (some (.ref p))) a → ZZ (E.plus p) σw φ σ a := fun a h => (z a h).elim zz_of_plus fun q => .inl (.inr q)
  have L : Later φ (ZZ (E.plus p) σw φ σ) H φ (ZZ E (σw.set i (.ow w)) φ (σ.set i (some (.ref p)))) H := .less z'
  refine ⟨⟨R.st.mono L fun _ _ _ h => h, by rw [List.length_set, List.length_set]; exact R.len, fun j u f => ?_, fun j u f => ?_, fun j j' u u' a f f' g g' => ?_, fun a m q => R.zφ a m (.inl q), fun a q => R.zal a (.inl q), R.eφ, R.ekeep, R.enew, R.efz⟩, z⟩
  · have n : i ≠ j := fun e => by
      subst e
      by_cases hl : i < σw.length
      · rw [List.getElem?_set_self hl] at f; cases f
      · rw [List.getElem?_eq_none (by simpa using hl)] at f; cases f
    rw [List.getElem?_set_ne n] at f ⊢
    obtain ⟨v, g, r⟩ := R.fr j u f
    exact ⟨v, g, r.mono L⟩
  · rcases o1 j u f with ⟨rfl, rfl, hl⟩ | ⟨n, f⟩
    · exact ⟨p, by rw [List.getElem?_set_self (by rw [R.len]; exact hl)], hw.mono L fun _ h => h, fun m => hp (.inr (.inl m)), fun q => hp (.inl q), he⟩
    · obtain ⟨a, g, h, n1, n2, n3⟩ := R.ow j u f
      exact ⟨a, by rw [List.getElem?_set_ne (Ne.symm n)]; exact g, h.mono L fun _ h => h, n1, fun q => n2 (.inl q), n3⟩
  · have own : ∀ (j : Nat) (u : W) (a : Addr), (σw.set i (Sl.ow w))[j]? = some (Sl.ow u) → (σ.set i (some (V.ref p)))[j]? = some (some (V.ref a)) → (j = i ∧ a = p) ∨ (j ≠ i ∧ σw[j]? = some (Sl.ow u) ∧ σ[j]? = some (some (V.ref a))) := fun j u a f g => by
      rcases o1 j u f with ⟨rfl, rfl, hl⟩ | ⟨n, f⟩
      · rw [List.getElem?_set_self (by rw [R.len]; exact hl)] at g
        cases g; exact .inl ⟨rfl, rfl⟩
      · rw [List.getElem?_set_ne (Ne.symm n)] at g
        exact .inr ⟨n, f, g⟩
    have np : ∀ (j : Nat) (u : W), σw[j]? = some (Sl.ow u) → σ[j]? = some (some (V.ref p)) → False := fun j u f g => by
      obtain ⟨a, g', _, _, n2, _⟩ := R.ow j u f
      rw [g] at g'; cases g'
      exact n2 (.inr rfl)
    rcases own j u a f g with ⟨e1, e2⟩ | ⟨e1, f1, g1⟩ <;> rcases own j' u' a f' g' with ⟨e3, e4⟩ | ⟨e3, f2, g2⟩
    · rw [e1, e3]
    · subst e2; exact (np _ _ f2 g2).elim
    · subst e4; exact (np _ _ f1 g1).elim
    · exact R.inj j j' u u' a f1 f2 g1 g2
theorem own_go {K : PySem.W.Frag} {i : Nat} {H0 : Hp} (n : New K E σw S φ σ H0 H w v) : Rl K E (σw.set i (mkOwn w)) S φ (σ.set i (some v)) H ∧ ∀ a, ZZ E (σw.set i (mkOwn w)) φ (σ.set i (some v)) a → ZZ E σw φ σ a ∨ H0 a = none := by
  cases w with
  | lst ws =>
    obtain ⟨p, vs, rfl, hp, h0, nz, he, R, r⟩ := n
    obtain ⟨R1, z⟩ := R.setOw (i := i) nz he (.inl ⟨ws, vs, rfl, hp, r⟩)
    exact ⟨R1, fun a h => (z a h).imp id fun q => by rw [q]; exact h0⟩
  | dct ws =>
    obtain ⟨p, vs, rfl, hp, h0, nz, he, R, r⟩ := n
    obtain ⟨R1, z⟩ := R.setOw (i := i) nz he (.inr ⟨ws, vs, rfl, hp, r⟩)
    exact ⟨R1, fun a h => (z a h).imp id fun q => by rw [q]; exact h0⟩
  | _ =>
    obtain ⟨R1, z⟩ := Rl.setFr (i := i) n.1 n.2
    exact ⟨R1, fun a h => .inl (z a h)⟩
theorem ps_setFop {i : Nat} (h : PS X (.Assign [tg] e pos) (tAsg (rdN X.K me) (gName i))) : PS X (.Assign [tg] e pos) (rdS X.K (sSetF i me)) :=
  h.imp fun D σ H ⟨E, σw, S, φ, R, k⟩ => by
    obtain ⟨x, S1, e1, k⟩ := okS_bind k
    refine ⟨E, σw, S, φ, R, x, S1, e1, fun φ1 H1 v x1 n => ?_⟩
    obtain ⟨R1, z⟩ := own_go (i := i) n
    refine k φ1 _ H1 ⟨x1.ix, fun a o q h => x1.keep a o (fun m => q (.inr (.inl m))) h, fun a h => ?_, x1.fz⟩ R1
    rcases z a h with z | z
    · rcases z with z | z | z
      · exact .inl (.inl z)
      · exact (x1.new a z).imp (fun z => .inr (.inl z)) id
      · exact .inl (.inr (.inr z))
    · exact .inr z
/-- .. one that the comprehension's own words store -/
theorem ps_setLcop {i : Nat} {y : Str} {py : Pos} {mit : M (List W)} {bd : W → M Sls} {own : List (Str × Nat)} {cs : Scope} {it : Expr} {ifs : List Expr} {spos : Pos} (hc : X.calm = true) (hN : X.N.Nodup) (hy : X.N[i]? = some y) (hyl : X.env.scope.names.lookup y = some .local)
    (hsw : swapsWith (.ListComp e [⟨tg, it, ifs, 0⟩] cs pos) (some (.Name y py)) spos.line X.env = pure true) (hi : PI X tg it (rdI X.K mit)) (ok : BlkOk X.N X.env.scope cs own) (hb : BdOk (own.map (·.2)) bd)
    (hg : ∀ (s : Shared) (H : Hp) (C : Addr) (cl : List (Str × Addr)) (fp : List Addr), PG (X.blk s H cs (compEnvC cs cl C X.env) fp) tg (rdG X.K (own.map (·.2)) bd)) (ht : ∀ (s : Shared) (H : Hp) (C : Addr) (cl : List (Str × Addr)) (fp : List Addr), PTs (X.blk s H cs (compEnvC cs cl C X.env) fp) ifs (rdT X.K mt))
    (he : ∀ (s : Shared) (H : Hp) (C : Addr) (cl : List (Str × Addr)) (fp : List Addr), PE (X.blk s H cs (compEnvC cs cl C X.env) fp) e (rdE X.K false me)) (hs : isSet it = false) : PS X (.Assign [.Name y py] (.ListComp e [⟨tg, it, ifs, 0⟩] cs pos) spos) (tAsg (rdN X.K (mLc mit bd mt me (own.map (·.2)))) (gName i)) :=
  (ps_setLc hc hN hy hyl hsw hi ok hg ht he (by cases it <;> first | (intro _; rfl) | cases hs)).imp fun D σ H ⟨E, σw, S, φ, R, w, S', q, k⟩ => lc_go hb R q k
theorem ps_setDcop {i : Nat} {y : Str} {py : Pos} {mit : M (List W)} {bd : W → M Sls} {mt : M Bool} {mk me : M W} {own : List (Str × Nat)} {cs : Scope} {kx it : Expr} {ifs : List Expr} {spos : Pos} (hc : X.calm = true) (hN : X.N.Nodup) (hy : X.N[i]? = some y) (hyl : X.env.scope.names.lookup y = some .local)
    (hsw : swapsWith (.DictComp kx e [⟨tg, it, ifs, 0⟩] cs pos) (some (.Name y py)) spos.line X.env = pure true) (hi : PI X tg it (rdI X.K mit)) (ok : BlkOk X.N X.env.scope cs own) (hb : BdOk (own.map (·.2)) bd)
    (hg : ∀ (s : Shared) (H : Hp) (C : Addr) (cl : List (Str × Addr)) (fp : List Addr), PG (X.blk s H cs (compEnvC cs cl C X.env) fp) tg (rdG X.K (own.map (·.2)) bd)) (ht : ∀ (s : Shared) (H : Hp) (C : Addr) (cl : List (Str × Addr)) (fp : List Addr), PTs (X.blk s H cs (compEnvC cs cl C X.env) fp) ifs (rdT X.K mt))
    (hk : ∀ (s : Shared) (H : Hp) (C : Addr) (cl : List (Str × Addr)) (fp : List Addr), PE (X.blk s H cs (compEnvC cs cl C X.env) fp) kx (rdE X.K true mk))
    (he : ∀ (s : Shared) (H : Hp) (C : Addr) (cl : List (Str × Addr)) (fp : List Addr), PE (X.blk s H cs (compEnvC cs cl C X.env) fp) e (rdE X.K false me)) (hs : isSet it = false) : PS X (.Assign [.Name y py] (.DictComp kx e [⟨tg, it, ifs, 0⟩] cs pos) spos) (tAsg (rdN X.K (mDc mit bd mt mk me (own.map (·.2)))) (gName i)) :=
  (ps_setDc hc hN hy hyl hsw hi ok hg ht hk he (by cases it <;> first | (intro _; rfl) | cases hs)).imp fun D σ H ⟨E, σw, S, φ, R, w, S', q, k⟩ => dc_go hb R q k
theorem ps_asgop {bd : W → M Sls} {own : List Nat} (h : ∀ {te : TE} {tgt : TG}, PE X e te → PG X tg tgt → PS X (.Assign [tg] e pos) (tAsg te tgt)) (hb : BdOk own bd) (he : PE X e (rdE X.K false me)) (hg : PG X tg (rdG X.K own bd)) : PS X (.Assign [tg] e pos) (rdS X.K (sAsg me bd)) :=
  (h he hg).imp fun D σ H ⟨E, σw, S, φ, R, k⟩ => by
    obtain ⟨x, S1, e1, k1⟩ := okS_bind k
    refine ⟨E, σw, S, φ, R, x, S1, e1, fun φ1 H1 v x1 R1 r1 => ?_⟩
    obtain ⟨σw1, S2, b1, k2⟩ := okS_bind k1
    have e5 := (hb _ _ _ _ _ b1).1
    subst e5
    exact ⟨E, σw, _, φ1, x, R1, r1.fr, σw1, b1, fun σ1 _ R2 z => k2 φ1 σ1 H1 (x1.later.trans (.less z)) R2⟩
theorem ps_parop {i j : Nat} (h : ∀ {ta : TA}, PA X [a, b] ta → PS X (.Assign [tg] e pos) (tPar i j ta)) (hs : isStar a = false) (hs2 : isStar b = false) (ha : PE X a (rdE X.K false ma)) (hb : PE X b (rdE X.K false mb)) : PS X (.Assign [tg] e pos) (rdS X.K (sPar i j ma mb)) :=
  (h (pa_consop hs ha (pa_consop hs2 hb pa_nilop))).imp fun D σ H ⟨E, σw, S, φ, R, k⟩ => by
    obtain ⟨x, S1, e1, k⟩ := okS_bind k
    obtain ⟨y, S2, e2, k⟩ := okS_bind k
    have e3 : mCons ma (mCons mb mNil) σw S = .ok [x, y] S2 := by
      unfold mCons; rw [e1]; show (Res.bind (Res.bind (mb σw S1) _) _) = _; rw [e2]; rfl
    refine ⟨E, σw, S, φ, R, _, _, e3, fun φ1 H1 us x1 R1 r1 => ?_⟩
    obtain ⟨u, t, rfl, ru, rt⟩ := rxs_cons2 r1 rfl
    obtain ⟨R2, z2⟩ := R1.setFr (i := i) ru.fr
    have rt' := rt.fr.mono (.less z2)
    exact ⟨u, t, rfl, k φ1 _ H1 (x1.later.trans ((later_fr R1 ru.fr).trans (later_fr R2 rt'))) (R2.setFr rt').1⟩
theorem ps_augop {i : Nat} {op : Operator} (h : ∀ {te : TE} {ti : TIp}, PE X e te → PIp X op ti → PS X (.AugAssign tg op e pos) (tAug i te ti)) (he : PE X e (rdE X.K false me)) : PS X (.AugAssign tg op e pos) (rdS X.K (sAug i op me)) :=
  PS.any fun D σ H ⟨E, σw, S, φ, R, k⟩ => by
    unfold sAug at k
    split at k
    · rename_i x hx
      obtain ⟨y, S1, e1, k⟩ := okS_bind k
      obtain ⟨u, hu, ru⟩ := R.fr i _ hx
      cases ru
      have go : ∀ (F : Int → Int → Int) (z : Int), y = .int z → okS X.K E σw φ σ H (.ok (.nx (σw.set i (.fr (.int (F x z))))) S1) D → tAug i (rdE X.K false me) (ipI F) D σ H := fun F z hy k2 => by
        subst hy
        refine ⟨.int x, hu, E, σw, S, φ, R, _, S1, e1, fun φ1 H1 v x1 R1 r1 => ?_⟩
        cases r1.fr
        exact ⟨x, z, rfl, rfl, k2 φ1 _ H1 (x1.later.trans (later_fr R1 (.int _))) (R1.setFr (.int _)).1⟩
      split at k
      · exact ⟨_, h he ip_add, go _ _ rfl k⟩
      · exact ⟨_, h he ip_sub, go _ _ rfl k⟩
      · exact k.elim
    · exact k.elim
/-- lists of one's own become values that stay -/
theorem Rl.frz {K : PySem.W.Frag} (R : Rl K E σw S φ σ H) : ∀ is : List Nat, Rl K E (frz σw is) S φ σ H ∧ ∀ a, ZZ E (frz σw is) φ σ a → ZZ E σw φ σ a
  | [] => ⟨R, fun _ z => z⟩
  | i :: is => by
    obtain ⟨R1, z1⟩ := Rl.frz R is
    unfold EV.frz
    split
    · rename_i w hw
      obtain ⟨a, g, hh, n1, n2, n3⟩ := R1.ow i w hw
      have hsz : ((EV.frz σw is).set i (.fr w)).length = (EV.frz σw is).length := List.length_set ..
      have o1 : ∀ j u, ((EV.frz σw is).set i (.fr w))[j]? = some (.ow u) → j ≠ i ∧ (EV.frz σw is)[j]? = some (.ow u) := fun j u h => by
        by_cases e : i = j
        · subst e
          rw [List.getElem?_set_self (List.getElem?_eq_some_iff.mp hw).1] at h; cases h
        · rw [List.getElem?_set_ne e] at h
          exact ⟨fun z => e z.symm, h⟩
      have z : ∀ b, ZZ E ((EV.frz σw is).set i (.fr w)) φ σ b → ZZ E (EV.frz σw is) φ σ b := fun b z => by
        rcases z with z | z | ⟨j, u, f, g⟩
        · exact .inl z
        · exact .inr (.inl z)
        · exact .inr (.inr ⟨j, u, (o1 j u f).2, g⟩)
      have na : ¬ ZZ E ((EV.frz σw is).set i (.fr w)) φ σ a := fun z => by
        rcases z with z | z | ⟨j, u, f, g'⟩
        · exact n2 z
        · exact n1 z
        · obtain ⟨n, f⟩ := o1 j u f
          exact n (R1.inj j i u w a f hw g' g)
      have L : Later φ (ZZ E (EV.frz σw is) φ σ) H φ (ZZ E ((EV.frz σw is).set i (.fr w)) φ σ) H := .less z
      refine ⟨⟨R1.st.mono L fun _ _ _ h => h, by rw [hsz]; exact R1.len, fun j u f => ?_, fun j u f => ?_, fun j j' u u' b f f' g g' => R1.inj j j' u u' b (o1 j u f).2 (o1 j' u' f').2 g g', R1.zφ, R1.zal, R1.eφ, R1.ekeep, R1.enew, R1.efz⟩, fun b h => z1 b (z b h)⟩
      · by_cases e : i = j
        · subst e
          rw [List.getElem?_set_self (List.getElem?_eq_some_iff.mp hw).1] at f
          cases f
          refine ⟨.ref a, g, ?_⟩
          rcases hh with ⟨ws, vs, rfl, h, r⟩ | ⟨ws, vs, rfl, h, r⟩
          · exact .lst h na (r.mono L)
          · exact .dct h na (r.mono L)
        · rw [List.getElem?_set_ne e] at f
          obtain ⟨v, g, r⟩ := R1.fr j u f
          exact ⟨v, g, r.mono L⟩
      · obtain ⟨b, g, h, n1⟩ := R1.ow j u (o1 j u f).2
        exact ⟨b, g, h.mono L fun _ h => h, n1⟩
    · exact ⟨R1, z1⟩
theorem ps_frzop {st : Stmt} {is : List Nat} (h : PS X st (rdS X.K f)) : PS X st (rdS X.K (sFrz is f)) := h.imp fun D σ H ⟨E, σw, S, φ, R, k⟩ => by
  obtain ⟨R1, z⟩ := R.frz is
  exact ⟨E, EV.frz σw is, S, φ, R1, okS_move (.less z) k⟩
end
end EV

namespace EV
open PySem PySem.Spec PyProof.Rows L2
section
variable {X : Cx} {a b c e o tg : Expr} {mo m ma mb me mi : M W} {br : Bool} {pos apos : Pos} {E : Ent} {σw σw' : Sls} {S S' : Sto} {φ φ' : List Addr} {σ σ' : L2.St} {H H' : Hp} {w x : W} {v : V} {es : List Expr} {la : M (List W)} {p : Addr} {Q : VK} {D : Ends} {f g : M Fl} {mt : M Bool}
/-! ### names -/
theorem pe_varop {i : Nat} {x : Str} (hN : X.N[i]? = some x) (hv : Vis X.env.scope x) (hd : (x == ("__debug__" : Str)) = false) (hcd : (x == ("__classdict__" : Str)) = false) : PE X (.Name x pos) (rdE X.K false (mVar i)) :=
  (pe_var hN hv hd hcd).imp fun σ H Q ⟨E, σw, S, φ, R, w, S', q, k⟩ => by
    unfold mVar at q
    split at q
    · rename_i w' hw
      cases q
      obtain ⟨v, hv, r⟩ := R.fr i _ hw
      exact ⟨v, hv, k φ H v .refl R (.inl r)⟩
    · cases q
theorem pe_varopB {i : Nat} {x : Str} (hN : X.N[i]? = some x) (hv : Vis X.env.scope x) (hd : (x == ("__debug__" : Str)) = false) (hcd : (x == ("__classdict__" : Str)) = false) : PE X (.Name x pos) (rdE X.K true (mVarB i)) :=
  (pe_var hN hv hd hcd).imp fun σ H Q ⟨E, σw, S, φ, R, w, S', q, k⟩ => by
    unfold mVarB at q
    split at q
    · rename_i w' hw
      cases q
      obtain ⟨v, hv, r⟩ := R.fr i _ hw
      exact ⟨v, hv, k φ H v .refl R (.inl r)⟩
    · rename_i w' hw
      cases q
      obtain ⟨a, ha, _⟩ := R.ow i _ hw
      exact ⟨_, ha, k φ H _ .refl R (.inr ⟨rfl, i, a, hw, ha, rfl⟩)⟩
    · cases q
/-! ### loops -/
theorem ps_forop {own : List Nat} {bd : W → M Sls} {mit : M (List W)} {it : Expr} {body : List Stmt} (hp : PassesOwn (model X.prog X.w) X.A X.env X.xe) (hc : X.calm = true) (hb : BdOk own bd) (hi : PI X tg it (rdI X.K mit)) (hg : PG X tg (rdG X.K own bd)) (hbody : PSs X body (rdS X.K f)) (hs : isSet it = false) :
    PS X (.For tg it body [] pos) (rdS X.K (sFor mit bd f)) :=
  (ps_for hp hc hi hg hbody (by cases it <;> first | (intro _; rfl) | cases hs)).imp fun D σ H ⟨E, σw, S, φ, R, k⟩ => by
    obtain ⟨ws, S1, e1, k1⟩ := okS_bind k
    refine ⟨E, σw, S, φ, R, ws, S1, e1, fun φ1 H1 J x1 R1 it => ?_⟩
    refine ⟨fun i m σ' H' => m = ws.length - i ∧ i ≤ ws.length ∧ ∃ σw' S' φ', Rl X.K E σw' S' φ' σ' H' ∧ Later φ1 (ZZ E σw φ1 σ) H1 φ' (ZZ E σw' φ' σ') H' ∧ okS X.K E σw' φ' σ' H' (forL bd f (ws.drop i) σw' S') D, ⟨_, rfl, Nat.zero_le _, σw, S1, φ1, R1, .refl, okS_move x1.later k1⟩, ?_⟩
    rintro i m σ' H' ⟨rfl, hi, σw', S', φ', R', L', k'⟩
    obtain ⟨st, go⟩ := it φ' _ H' L' fun a z => by obtain ⟨o, h⟩ := R'.alloc z; rw [h]; simp
    by_cases hlt : i < ws.length
    · right
      obtain ⟨g1, g2⟩ := go i _ (List.getElem?_eq_getElem hlt)
      have hdrop : ws.drop i = ws[i] :: ws.drop (i + 1) := (List.getElem_cons_drop ..).symm
      rw [hdrop, forL] at k'
      obtain ⟨σw1, Sa, b1, k2⟩ := okS_bind k'
      clear k'
      have hSa := (hb _ _ _ _ _ b1).1
      subst hSa
      refine ⟨g1, fun σ5 H5 => ∃ m', m' < ws.length - i ∧ (m' = ws.length - (i + 1) ∧ i + 1 ≤ ws.length ∧ ∃ σw' S' φ', Rl X.K E σw' S' φ' σ5 H5 ∧ Later φ1 (ZZ E σw φ1 σ) H1 φ' (ZZ E σw' φ' σ5) H5 ∧ okS X.K E σw' φ' σ5 H5 (forL bd f (ws.drop (i + 1)) σw' S') D), fun _ _ h => h, fun x H2 hy => ?_⟩
      obtain ⟨s2, rx⟩ := g2 x H2 hy
      refine ⟨E, σw', _, φ', _, R'.same s2, rx, σw1, b1, fun σ1 _ R3 z3 => ⟨E, σw1, _, φ', R3, ?_⟩⟩
      have L3 : Later φ' (ZZ E σw' φ' σ') H' φ' (ZZ E σw1 φ' σ1) H2 := .same s2 z3
      have step : ∀ (s : Sls) (S2 : Sto), okS X.K E σw' φ' σ' H' (forL bd f (ws.drop (i + 1)) s S2) D → ∀ φ5 σ5 H5, Later φ' (ZZ E σw1 φ' σ1) H2 φ5 (ZZ E s φ5 σ5) H5 → Rl X.K E s S2 φ5 σ5 H5 →
          ∃ m', m' < ws.length - i ∧ (m' = ws.length - (i + 1) ∧ i + 1 ≤ ws.length ∧ ∃ σw' S' φ', Rl X.K E σw' S' φ' σ5 H5 ∧ Later φ1 (ZZ E σw φ1 σ) H1 φ' (ZZ E σw' φ' σ5) H5 ∧ okS X.K E σw' φ' σ5 H5 (forL bd f (ws.drop (i + 1)) σw' S') D) :=
        fun s S2 k3 φ5 σ5 H5 L5 R5 => ⟨_, by omega, rfl, by omega, s, S2, φ5, R5, L'.trans (L3.trans L5), okS_move (L3.trans L5) k3⟩
      cases hr : f σw1 Sa with
      | ok fl S2 =>
        rw [hr] at k2
        cases fl with
        | nx s => exact step s S2 k2
        | ct s => exact step s S2 k2
        | bk s => exact fun φ5 σ5 H5 L5 R5 => k2 φ5 σ5 H5 (L3.trans L5) R5
        | rt w => exact fun φ5 H5 v L5 R5 => k2 φ5 H5 v (L3.trans L5) R5
      | ex c as S2 => rw [hr] at k2; exact k2.elim
      | bad => rw [hr] at k2; exact k2.elim
    · have hie : i = ws.length := by omega
      subst hie
      rw [List.drop_length] at k'
      exact .inl ⟨st, k' φ' σ' H' .refl R'⟩
theorem ps_whop {t : Expr} {body : List Stmt} (hp : PassesOwn (model X.prog X.w) X.A X.env X.xe) (ht : PT X t (rdT X.K mt)) (hbody : PSs X body (rdS X.K f)) : PS X (.While t body [] pos) (rdS X.K (sWh mt f)) :=
  (ps_while hp ht hbody).imp fun D σ H ⟨E, σw, S, φ, R, k⟩ => by
    refine ⟨fun m σ' H' => ∃ σw' S' φ', Rl X.K E σw' S' φ' σ' H' ∧ okS X.K E σw' φ' σ' H' (whL mt f m σw' S') D, ⟨_, σw, S, φ, R, k⟩, ?_⟩
    rintro m σ' H' ⟨σw', S', φ', R', k'⟩
    cases m with
    | zero => exact k'.elim
    | succ m =>
      rw [whL] at k'
      obtain ⟨b, S1, e1, k1⟩ := okS_bind k'
      refine ⟨E, σw', S', φ', R', b, S1, e1, fun φ1 H1 x1 R1 => ?_⟩
      cases b with
      | false => exact k1 φ1 σ' H1 x1.later R1
      | true =>
        have k1 : okS X.K E σw' φ' σ' H' ((f σw' S1).bind fun fl S2 => match fl with
          | .nx σ2 => whL mt f m σ2 S2
          | .ct σ2 => whL mt f m σ2 S2
          | .bk σ2 => .ok (.nx σ2) S2
          | .rt w => .ok (.rt w) S2) D := k1
        refine ⟨fun σ5 H5 => ∃ σw' S' φ', Rl X.K E σw' S' φ' σ5 H5 ∧ okS X.K E σw' φ' σ5 H5 (whL mt f m σw' S') D, fun σ5 H5 h => ⟨m, Nat.lt_succ_self _, h⟩, E, σw', S1, φ1, R1, ?_⟩
        cases hr : f σw' S1 with
        | ok fl S2 =>
          rw [hr] at k1
          cases fl with
          | nx s => exact fun φ5 σ5 H5 L5 R5 => ⟨s, S2, φ5, R5, okS_move (x1.later.trans L5) k1⟩
          | ct s => exact fun φ5 σ5 H5 L5 R5 => ⟨s, S2, φ5, R5, okS_move (x1.later.trans L5) k1⟩
          | bk s => exact fun φ5 σ5 H5 L5 R5 => k1 φ5 σ5 H5 (x1.later.trans L5) R5
          | rt w => exact fun φ5 H5 v L5 R5 => k1 φ5 H5 v (x1.later.trans L5) R5
        | ex c as S2 => rw [hr] at k1; exact k1.elim
        | bad => rw [hr] at k1; exact k1.elim
/-! ### stores to lists and dicts -/
/-- a list or dict of the slot's own is written -/
theorem Rl.setOwW {K : PySem.W.Frag} {n : Nat} {w' : W} {ho : HO} (R : Rl K E σw S φ σ H) (hw : σw[n]? = some (.ow w)) (hp : σ[n]? = some (some (.ref p))) (hf : ∀ o u, H p ≠ some (.frz o u))
    (h : Later φ (ZZ E σw φ σ) H φ (ZZ E σw φ σ) (upd H p ho) → Holds K φ (ZZ E σw φ σ) (upd H p ho) w' p) :
    Rl K E (σw.set n (.ow w')) S φ σ (upd H p ho) ∧ Later φ (ZZ E σw φ σ) H φ (ZZ E (σw.set n (.ow w')) φ σ) (upd H p ho) := by
  obtain ⟨a, g0, hh, n1, n2, n3⟩ := R.ow n w hw
  rw [hp] at g0; cases g0
  have hn := (List.getElem?_eq_some_iff.mp hw).1
  have o1 : ∀ (j : Nat) (u : W), (σw.set n (Sl.ow w'))[j]? = some (Sl.ow u) → (j = n ∧ u = w') ∨ (j ≠ n ∧ σw[j]? = some (Sl.ow u)) := fun j u h => by
    by_cases e : n = j
    · subst e; rw [List.getElem?_set_self hn] at h; cases h; exact .inl ⟨rfl, rfl⟩
    · rw [List.getElem?_set_ne e] at h; exact .inr ⟨fun z => e z.symm, h⟩
  have o2 : ∀ (j : Nat) (u : W), (σw.set n (Sl.ow w'))[j]? = some (Sl.ow u) → ∃ u', σw[j]? = some (Sl.ow u') := fun j u h => by
    rcases o1 j u h with ⟨rfl, _⟩ | ⟨_, h⟩
    · exact ⟨_, hw⟩
    · exact ⟨_, h⟩
  have z1 : ∀ a, ZZ E (σw.set n (.ow w')) φ σ a → ZZ E σw φ σ a := fun a z => by
    rcases z with z | z | ⟨j, u, f, g⟩
    · exact .inl z
    · exact .inr (.inl z)
    · obtain ⟨u', f'⟩ := o2 j u f; exact .inr (.inr ⟨j, u', f', g⟩)
  have zp : ZZ E σw φ σ p := .inr (.inr ⟨n, w, hw, hp⟩)
  have ne : ∀ a o, ¬ ZZ E σw φ σ a → H a = some o → upd H p ho a = some o := fun a o z h => by rw [upd_ne (fun q => z (by rw [q]; exact zp))]; exact h
  have L0 : Later φ (ZZ E σw φ σ) H φ (ZZ E σw φ σ) (upd H p ho) := ⟨fun _ _ h => h, ne, fun a z => .inl z, fz_upd hf⟩
  have L : Later φ (ZZ E σw φ σ) H φ (ZZ E (σw.set n (.ow w')) φ σ) (upd H p ho) := L0.trans (.less z1)
  refine ⟨⟨R.st.mono L fun a o m h => by rw [upd_ne (fun q => n1 (by rw [← q]; exact m))]; exact h, by rw [List.length_set]; exact R.len, fun i u f => ?_, fun i u f => ?_, fun i j u u' b f f' g g' => ?_, R.zφ, fun b z => ?_, R.eφ, fun b o z h => ?_, R.enew, fun b o u h => ?_⟩, L⟩
  · have e : n ≠ i := fun e => by subst e; rw [List.getElem?_set_self hn] at f; cases f
    rw [List.getElem?_set_ne e] at f
    obtain ⟨v, g, r⟩ := R.fr i u f
    exact ⟨v, g, r.mono L⟩
  · rcases o1 i u f with ⟨rfl, rfl⟩ | ⟨e, f⟩
    · exact ⟨p, hp, (h L0).mono (.less z1) fun _ h => h, n1, n2, n3⟩
    · obtain ⟨b, g, hb, m1, m2, m3⟩ := R.ow i u f
      exact ⟨b, g, hb.mono L fun o h => by rw [upd_ne (fun q => e (R.inj i n u w b f hw g (by rw [q]; exact hp)))]; exact h, m1, m2, m3⟩
  · obtain ⟨y, f⟩ := o2 i u f
    obtain ⟨y', f'⟩ := o2 j u' f'
    exact R.inj i j y y' b f f' g g'
  · by_cases q : b = p
    · subst q; rw [upd_same]; simp
    · rw [upd_ne q]; exact R.zal b z
  · rw [upd_ne (fun q => by rw [q, n3] at h; cases h)]; exact R.ekeep b o z h
  · rw [upd_ne (fun q => by rw [q, n3] at h; cases h)]; exact R.efz b o u h
/-- the slot's own list as it stands behind an expression -/
theorem own_lst {K : PySem.W.Frag} {n : Nat} {xs : List W} (R : Rl K E σw S φ σ H) (hw : σw[n]? = some (.ow (.lst xs))) : ∃ a vs, σ[n]? = some (some (.ref a)) ∧ H a = some (.lst vs) ∧ RFs K φ (ZZ E σw φ σ) H xs vs := by
  obtain ⟨a, g, h, _⟩ := R.ow n _ hw
  rcases h with ⟨ws, vs, e, h, r⟩ | ⟨_, _, e, _⟩
  · cases e; exact ⟨a, vs, g, h, r⟩
  · cases e
theorem own_dct {K : PySem.W.Frag} {n : Nat} {xs : List (Key × W)} (R : Rl K E σw S φ σ H) (hw : σw[n]? = some (.ow (.dct xs))) : ∃ a vs, σ[n]? = some (some (.ref a)) ∧ H a = some (.dK vs) ∧ RKs K φ (ZZ E σw φ σ) H xs vs := by
  obtain ⟨a, g, h, _⟩ := R.ow n _ hw
  rcases h with ⟨_, _, e, _⟩ | ⟨ws, vs, e, h, r⟩
  · cases e
  · cases e; exact ⟨a, vs, g, h, r⟩
theorem wkey_vw {S : Sto} {k : Key} (h : wkey w = some k) : wkey (vw S w) = some k := by cases w <;> first | exact h | cases h
theorem sub_side {i : Expr} {env : PySem.Env} {p0 : Pos} (h : isSl i = false) : ∀ v, assign (.Subscript o i p0) env v = (do
      let ov ← holding [v] (eval o env)
      let iv ← holding [v, ov] (eval i env)
      standAt p0
      holding [v, ov, iv] (setItem ov iv v)
      release [v, ov, iv] []) := by
  cases i <;> first | (intro _; rfl) | cases h
theorem asg_side {env : PySem.Env} {i : Expr} {p0 : Pos} {ln : Nat} (h1 : isLCm e = false) (h2 : isSDC e = false) : swapsWithSole [.Subscript o i p0] e ln env = pure false ∧ swappedStores [.Subscript o i p0] e env = pure none ∧ swapsWith e (some (.Subscript o i p0)) ln env = pure false := by
  cases e <;> first | exact ⟨rfl, rfl, rfl⟩ | cases h1 | cases h2
end
end EV

namespace EV
open PySem PySem.Spec PyProof.Rows L2
section
variable {X : Cx} {a b c e o tg : Expr} {mo m ma mb me mi : M W} {br : Bool} {pos apos : Pos} {E : Ent} {σw σw' : Sls} {S S' : Sto} {φ φ' : List Addr} {σ σ' : L2.St} {H H' : Hp} {w x : W} {v : V} {es : List Expr} {la : M (List W)} {p : Addr} {Q : VK} {D : Ends} {f g : M Fl} {mt : M Bool}
theorem ps_putOwn {i : Expr} {xn : Str} {px p0 : Pos} {n : Nat} (hu : X.A.units + 64 < cLine) (h1 : isLCm e = false) (h2 : isSDC e = false) (h3 : isSl i = false) (ho : PE X (.Name xn px) (tVar n)) (hi : PE X i (rdE X.K true mi)) (he : PE X e (rdE X.K false me)) :
    PS X (.Assign [.Subscript (.Name xn px) i p0] e pos) (fun D σ H => ∃ E σw S φ w, σw[n]? = some (.ow w) ∧ Rl X.K E σw S φ σ H ∧ okS X.K E σw φ σ H (putOwn n w mi me σw S) D) :=
  PS.any fun D σ H ⟨E, σw, S, φ, w, hw, R, k⟩ => by
    obtain ⟨s1, s2, s3⟩ := asg_side (o := .Name xn px) (i := i) (env := X.env) (p0 := p0) (ln := pos.line) h1 h2
    obtain ⟨y, S1, e1, k1⟩ := okS_bind k
    obtain ⟨ki, S2, e2, k2⟩ := okS_bind k1
    cases w with
    | lst xs =>
      cases ki with
      | int kk =>
        cases hj : ixN xs.length kk with
        | none => simp only [hj] at k2; exact k2.elim
        | some j =>
          simp only [hj] at k2
          refine ⟨_, ps_asg he (pg_sub ho hi set_list (sub_side h3)) s1 s2, E, σw, S, φ, R, y, S1, e1, fun φ1 H1 v x1 R1 r1 => ?_⟩
          obtain ⟨a, vs, g, hA, rA⟩ := own_lst R1 hw
          refine ⟨_, g, E, σw, S1, φ1, R1, _, S2, e2, fun φ2 H2 u x2 R2 r2 => ?_⟩
          obtain ⟨a', vs', g', hA', rA'⟩ := own_lst R2 hw
          rw [g] at g'; cases g'
          refine ⟨a, vs', kk, j, rfl, rx_int R2 r2 rfl, hA', by rw [← rA'.len]; exact hj, ?_⟩
          obtain ⟨R3, L3⟩ := R2.setOwW (w' := .lst (xs.set j y)) (ho := .lst (vs'.set j v)) hw g (nfz hA' fun _ _ z => by cases z) fun L => .inl ⟨_, _, rfl, upd_same, (rA'.set j (r1.fr.mono x2.later)).mono L⟩
          exact k2 φ2 σ _ ((x1.trans x2).later.trans L3) R3
      | _ => exact k2.elim
    | dct kvs =>
      cases hk : wkey ki with
      | none => simp only [hk] at k2; exact k2.elim
      | some kk =>
        simp only [hk] at k2
        split at k2
        · rename_i hlim
          refine ⟨_, ps_dput (by omega) ho hi he s3, E, σw, S, φ, R, y, S1, e1, fun φ1 H1 v x1 R1 r1 => ?_⟩
          obtain ⟨a, vs, g, hA, rA⟩ := own_dct R1 hw
          refine ⟨_, g, E, σw, S1, φ1, R1, _, S2, e2, fun φ2 H2 u x2 R2 r2 => ?_⟩
          obtain ⟨a', vs', g', hA', rA'⟩ := own_dct R2 hw
          rw [g] at g'; cases g'
          cases rx_key (k := kk) R2 r2 (wkey_vw hk)
          refine ⟨a, _, rfl, DPut.k hA' (lim_lt (by rw [← rA'.len]; exact hlim)), ?_⟩
          obtain ⟨R3, L3⟩ := R2.setOwW (w' := .dct (dput kvs kk y)) (ho := .dK (putK vs' kk v)) hw g (nfz hA' fun _ _ z => by cases z) fun L => .inr ⟨_, _, rfl, upd_same, (rA'.put kk (r1.fr.mono x2.later)).mono L⟩
          exact k2 φ2 σ _ ((x1.trans x2).later.trans L3) R3
        · exact k2.elim
    | _ => exact k2.elim
theorem ps_putS {i : Expr} {p0 : Pos} (hu : X.A.units + 64 < cLine) (h1 : isLCm e = false) (h2 : isSDC e = false) (h3 : isSl i = false) (ho : PE X o (rdE X.K true mo)) (hi : PE X i (rdE X.K true mi)) (he : PE X e (rdE X.K false me)) :
    PS X (.Assign [.Subscript o i p0] e pos) (rdS X.K (sPutS mo mi me)) :=
  PS.any fun D σ H ⟨E, σw, S, φ, R, k⟩ => by
    obtain ⟨s1, s2, s3⟩ := asg_side (o := o) (i := i) (env := X.env) (p0 := p0) (ln := pos.line) h1 h2
    obtain ⟨y, S1, e1, k1⟩ := okS_bind k
    obtain ⟨xo, S2, e2, k2⟩ := okS_bind k1
    obtain ⟨ki, S3, e3, k3⟩ := okS_bind k2
    cases xo with
    | loc n =>
      cases hn : S3[n]? with
      | none => simp only [hn] at k3; exact k3.elim
      | some ob =>
        simp only [hn] at k3
        cases ob with
        | lst xs =>
          cases ki with
          | int kk =>
            cases hj : ixN xs.length kk with
            | none => simp only [hj] at k3; exact k3.elim
            | some j =>
              simp only [hj] at k3
              refine ⟨_, ps_asg he (pg_sub ho hi set_list (sub_side h3)) s1 s2, E, σw, S, φ, R, y, S1, e1, fun φ1 H1 v x1 R1 r1 => ⟨E, σw, S1, φ1, R1, _, S2, e2, fun φ2 H2 u x2 R2 r2 => ⟨E, σw, S2, φ2, R2, _, S3, e3, fun φ3 H3 t x3 R3 r3 => ?_⟩⟩⟩
              obtain ⟨a, rfl, ha⟩ := rx_loc R3 (r2.ext x3) rfl
              obtain ⟨vs, hA, rA⟩ := R3.st.ob n _ a hn ha
              refine ⟨a, vs, kk, j, rfl, rx_int R3 r3 rfl, hA, by rw [← rA.len]; exact hj, ?_⟩
              have rset := rA.set j (r1.fr.mono (x2.trans x3).later)
              obtain ⟨x4, R4⟩ := R3.write (ob := .lst (xs.set j y)) (ho := .lst (vs.set j v)) ha (nfz hA fun _ _ z => by cases z) fun φ' Z' H' L h => ⟨_, h, rset.mono L⟩
              exact k3 φ3 σ _ (((x1.trans x2).trans x3).trans x4).later R4
          | _ => exact k3.elim
        | dct kvs =>
          cases hk : wkey ki with
          | none => simp only [hk] at k3; exact k3.elim
          | some kk =>
            simp only [hk] at k3
            split at k3
            · rename_i hlim
              refine ⟨_, ps_dput (by omega) ho hi he s3, E, σw, S, φ, R, y, S1, e1, fun φ1 H1 v x1 R1 r1 => ⟨E, σw, S1, φ1, R1, _, S2, e2, fun φ2 H2 u x2 R2 r2 => ⟨E, σw, S2, φ2, R2, _, S3, e3, fun φ3 H3 t x3 R3 r3 => ?_⟩⟩⟩
              obtain ⟨a, rfl, ha⟩ := rx_loc R3 (r2.ext x3) rfl
              obtain ⟨vs, hA, rA⟩ := R3.st.ob n _ a hn ha
              cases rx_key (k := kk) R3 r3 (wkey_vw hk)
              refine ⟨a, _, rfl, DPut.k hA (lim_lt (by rw [← rA.len]; exact hlim)), ?_⟩
              have rput := rA.put kk (r1.fr.mono (x2.trans x3).later)
              obtain ⟨x4, R4⟩ := R3.write (ob := .dct (dput kvs kk y)) (ho := .dK (putK vs kk v)) ha (nfz hA fun _ _ z => by cases z) fun φ' Z' H' L h => ⟨_, h, rput.mono L⟩
              exact k3 φ3 σ _ (((x1.trans x2).trans x3).trans x4).later R4
            · exact k3.elim
        | _ => exact k3.elim
    | _ => exact k3.elim
theorem ps_putop {i : Expr} {xn : Str} {px p0 : Pos} {n : Nat} (hu : X.A.units + 64 < cLine) (h1 : isLCm e = false) (h2 : isSDC e = false) (h3 : isSl i = false) (ho : PE X (.Name xn px) (tVar n)) (ho2 : PE X (.Name xn px) (rdE X.K true mo)) (hi : PE X i (rdE X.K true mi)) (he : PE X e (rdE X.K false me)) :
    PS X (.Assign [.Subscript (.Name xn px) i p0] e pos) (rdS X.K (sPut n mo mi me)) :=
  PS.any fun D σ H ⟨E, σw, S, φ, R, k⟩ => by
    unfold sPut at k
    split at k
    · rename_i w hw
      exact ⟨_, ps_putOwn hu h1 h2 h3 ho hi he, E, σw, S, φ, w, hw, R, k⟩
    · exact ⟨_, ps_putS hu h1 h2 h3 ho2 hi he, E, σw, S, φ, R, k⟩
theorem ps_fldop {fn : Str} {ok : Str → Bool} {p0 : Pos} (h1 : isLCm e = false) (h2 : isSDC e = false) (hf : ∀ c, ok c = true → Cls X.K (He.ga X.K c) ∧ NoAttr X.K (He.ga X.K c) fn) (ho : PE X o (rdE X.K true mo)) (he : PE X e (rdE X.K false me)) :
    PS X (.Assign [.Attribute o fn p0] e pos) (rdS X.K (sFldM mo me fn ok)) :=
  (ps_fld ho he (by cases e <;> first | rfl | cases h1 | cases h2)).imp fun D σ H ⟨E, σw, S, φ, R, k⟩ => by
    obtain ⟨y, S1, e1, k1⟩ := okS_bind k
    obtain ⟨xo, S2, e2, k2⟩ := okS_bind k1
    refine ⟨E, σw, S, φ, R, y, S1, e1, fun φ1 H1 v x1 R1 r1 => ⟨E, σw, S1, φ1, R1, _, S2, e2, fun φ2 H2 u x2 R2 r2 => ?_⟩⟩
    cases xo with
    | loc n =>
      cases hn : S2[n]? with
      | none => simp only [hn] at k2; exact k2.elim
      | some ob =>
        simp only [hn] at k2
        cases ob with
        | ins c fs =>
          simp only at k2
          split at k2
          · rename_i hok
            obtain ⟨a, rfl, ha⟩ := rx_loc R2 r2 rfl
            obtain ⟨dx, gs, hA, rA⟩ := R2.st.ob n _ a hn ha
            obtain ⟨f1, f2⟩ := hf c hok.1
            refine ⟨a, _, dx, gs, rfl, hA, f1, f2, by rw [← RL.len rA]; exact hok.2, ?_⟩
            have rput := RL.put (f := fn) (r1.fr.mono x2.later) rA
            obtain ⟨x4, R4⟩ := R2.write (ob := .ins c (fput fn y fs)) (ho := .ins (He.ga X.K c) dx (putF fn v gs)) ha (nfz hA fun _ _ z => by cases z) fun φ' Z' H' L h => ⟨dx, _, h, RL.mono L rput⟩
            exact k2 φ2 σ _ ((x1.trans x2).trans x4).later R4
          · exact k2.elim
        | _ => exact k2.elim
    | _ => exact k2.elim
/-! ### a name's list changed by its method -/
def okM (K : PySem.W.Frag) (E : Ent) (σw : Sls) (φ : List Addr) (σ : L2.St) (H : Hp) (r : Res (W × Sls)) (Q : VK) : Prop :=
  ∃ w σw' S', r = .ok (w, σw') S' ∧ ∀ φ' H' v, Later φ (ZZ E σw φ σ) H φ' (ZZ E σw' φ' σ) H' → Rl K E σw' S' φ' σ H' → RF K φ' (ZZ E σw' φ' σ) H' w v → Q v H'
def rdM (K : PySem.W.Frag) (m : M (W × Sls)) : TE := fun σ H Q => ∃ E σw S φ, Rl K E σw S φ σ H ∧ okM K E σw φ σ H (m σw S) Q
theorem up_id {mt : Mt} {xs ws : List W} {r : W × List W} (e : lstUp S mt xs ws = some r) : ∃ id, mtId .lst mt = some id := by
  unfold lstUp at e
  split at e <;> first | exact ⟨_, rfl⟩ | cases e
theorem rdl_id {mt : Mt} {xs ws : List W} {r : W} (e : wrd mt (.lst xs) ws = some r) : ∃ id, mtId .lst mt = some id := by
  unfold wrd at e
  split at e
  · exact ⟨_, rfl⟩
  · rename_i h; cases h
  · rename_i h; cases h
  · cases e
theorem rdd_id {mt : Mt} {xs : List (Key × W)} {ws : List W} {r : W} (e : wrd mt (.dct xs) ws = some r) : ∃ id, mtId .dct mt = some id := by
  unfold wrd at e
  split at e
  · rename_i h; cases h
  · exact ⟨_, rfl⟩
  · exact ⟨_, rfl⟩
  · cases e
/-- a built-in method of a slot's own list or dict: what it does when all is evaluated -/
theorem pe_ownmeth {nm xn : Str} {px : Pos} {n : Nat} {k0 : Kd} {id : String} (hid : mtId k0 (mtOf nm) = some id) (hok : methOk (.Name xn px) apos pos es = true) (hv : PE X (.Name xn px) (tVar n))
    (ha : PA X es (rdA X.K (decide (mtOf nm = .extend)) la)) (hl : es = [] → la = mNil) : PE X (.Call (.Attribute (.Name xn px) nm apos) es [] pos) (fun σ H Q => ∃ E σw S φ v ws S1, Rl X.K E σw S φ σ H ∧ σ[n]? = some (some v) ∧ tyV X.K (kdT k0) v H ∧ la σw S = .ok ws S1 ∧
      ∀ φ' H' us, Ext φ H φ' H' → Rl X.K E σw S1 φ' σ H' → RXs X.K E σw φ' σ H' (decide (mtOf nm = .extend)) ws us → mtAny X id v us H' Q) := by
  simp only [methOk, callOk, Bool.and_eq_true, decide_eq_true_eq] at hok
  obtain ⟨⟨hb, hline⟩, hs, hn⟩ := hok
  have hbase := base_ok (f := nm) (env := X.env) hb
  obtain ⟨f1, f2, f3⟩ := mt_id hid
  cases es with
  | nil =>
    cases hl rfl
    refine (pe_bm0 f1 f2 f3 mtAny_ok hv hbase hline).imp fun σ H Q ⟨E, σw, S, φ, v, ws, S1, R, h1, h2, h3, h4⟩ => ?_
    cases h3
    exact ⟨v, h1, h2, h4 φ H [] .refl R .nil⟩
  | cons e es =>
    obtain ⟨s1, s2⟩ := noStar_cons hs
    refine (pe_bm f1 f2 f3 mtAny_ok hv ha hbase ?_ hline (star_cons s1) (star_any s2).1).imp fun σ H Q ⟨E, σw, S, φ, v, ws, S1, R, h1, h2, h3, h4⟩ => ?_
    · rw [(star_any hs).2]
      have : decide ((e :: es).length + 0 + 0 < 30) = true := decide_eq_true (by omega)
      exact this
    · exact ⟨v, h1, h2, E, σw, S, φ, R, ws, S1, h3, h4⟩
theorem pe_mutop {nm xn : Str} {px : Pos} {n : Nat} {F : Fenv} {own : Str → Option Str} (hu : X.A.units + 64 < cLine) (hown : ∀ c q, own c = some q → MtK X F c nm q) (hok : methOk (.Name xn px) apos pos es = true) (hv : PE X (.Name xn px) (tVar n))
    (hv2 : PE X (.Name xn px) (rdE X.K false (mVar n))) (ha : PA X es (rdA X.K (decide (mtOf nm = .extend)) la)) (hl : es = [] → la = mNil) : PE X (.Call (.Attribute (.Name xn px) nm apos) es [] pos) (rdM X.K (mutE F own (mtOf nm) nm n la)) :=
  PE.any fun σ H Q ⟨E, σw, S, φ, R, w, σw2, S2, q, k⟩ => by
    unfold mutE at q
    split at q
    · rename_i xs hw
      obtain ⟨ws, S1, e1, q⟩ := bind_ok q
      obtain ⟨a, vs, g, hA, rA⟩ := own_lst R hw
      have ty : tyV X.K (kdT .lst) (.ref a) H := .inl ⟨rfl, vs, SqL.of hA⟩
      split at q
      · rename_i r ys hup
        cases q
        obtain ⟨id, hid⟩ := up_id hup
        refine ⟨_, pe_ownmeth hid hok hv ha hl, E, σw, S, φ, _, ws, _, R, g, ty, e1, fun φ1 H1 us x1 R1 r1 => ?_⟩
        obtain ⟨a', vs', g', hA', rA'⟩ := own_lst R1 hw
        rw [g] at g'; cases g'
        obtain ⟨id', h1, h2⟩ := lstUp_ok (Q := Q) hup R1 hA' rA' r1 fun vs2 z rv rz => by
          obtain ⟨R3, L3⟩ := R1.setOwW (w' := .lst ys) (ho := .lst vs2) hw g (nfz hA' fun _ _ z => by cases z) fun L => .inl ⟨_, _, rfl, upd_same, rv.mono L⟩
          exact k φ1 _ z (x1.later.trans L3) R3 (rz.mono L3)
        rw [hid] at h1; cases h1
        exact h2
      · obtain ⟨r, S3, q1, q⟩ := bind_ok q
        cases q
        obtain ⟨q2, e5⟩ := olift_ok q1
        subst e5
        obtain ⟨id, hid⟩ := rdl_id q2
        refine ⟨_, pe_ownmeth hid hok hv ha hl, E, σw, S, φ, _, ws, _, R, g, ty, e1, fun φ1 H1 us x1 R1 r1 => ?_⟩
        obtain ⟨a', vs', g', hA', rA'⟩ := own_lst R1 hw
        rw [g] at g'; cases g'
        obtain ⟨id', h1, h2⟩ := lstRd_ok (Q := Q) q2 hA' rA' R1 r1 fun z rz => k φ1 _ z x1.later R1 rz
        rw [hid] at h1; cases h1
        exact h2
    · rename_i xs hw
      obtain ⟨ws, S1, e1, q⟩ := bind_ok q
      obtain ⟨a, vs, g, hA, rA⟩ := own_dct R hw
      have ty : tyV X.K (kdT .dct) (.ref a) H := .inr (.inr (.inl ⟨rfl, .inl ⟨vs, hA⟩⟩))
      obtain ⟨r, S3, q1, q⟩ := bind_ok q
      cases q
      obtain ⟨q2, e5⟩ := olift_ok q1
      subst e5
      obtain ⟨id, hid⟩ := rdd_id q2
      refine ⟨_, pe_ownmeth hid hok hv ha hl, E, σw, S, φ, _, ws, _, R, g, ty, e1, fun φ1 H1 us x1 R1 r1 => ?_⟩
      obtain ⟨a', vs', g', hA', rA'⟩ := own_dct R1 hw
      rw [g] at g'; cases g'
      obtain ⟨id', h1, h2⟩ := dctRd_ok (Q := Q) (by omega) q2 hA' rA' R1 r1 fun z rz => k φ1 _ z x1.later R1 rz
      rw [hid] at h1; cases h1
      exact h2
    · rename_i w0 hw
      obtain ⟨r, S3, q1, q⟩ := bind_ok q
      cases q
      refine ⟨_, pe_methop (br := false) hu hown hok (rdE_mono hv2) ha hl, E, σw, S, φ, R, w, S2, ?_, fun φ1 H1 z x1 R1 r1 => k φ1 H1 z x1.later R1 r1.fr⟩
      have e0 : mVar n σw S = .ok w0 S := by unfold mVar; rw [hw]
      unfold mMeth
      rw [e0]
      exact q1
    · cases q
theorem ps_mutop {mm : M (W × Sls)} (h : isLCm e = false ∧ isSDC e = false) (he : PE X e (rdM X.K mm)) : PS X (.Expr e pos) (rdS X.K (sMut mm)) :=
  (ps_expr he (by cases e <;> first | rfl | (cases h.1; done) | (cases h.2; done))).imp fun D σ H ⟨E, σw, S, φ, R, k⟩ => by
    obtain ⟨⟨r, s⟩, S1, e1, k1⟩ := okS_bind k
    exact ⟨E, σw, S, φ, R, r, s, S1, e1, fun φ1 H1 v L1 R1 _ => k1 φ1 σ H1 L1 R1⟩
theorem ps_mutYop {i : Nat} {mm : M (W × Sls)} (h : ∀ {te : TE}, PE X e te → PS X (.Assign [tg] e pos) (tAsg te (gName i))) (he : PE X e (rdM X.K mm)) : PS X (.Assign [tg] e pos) (rdS X.K (sMutY i mm)) :=
  (h he).imp fun D σ H ⟨E, σw, S, φ, R, k⟩ => by
    obtain ⟨⟨r, s⟩, S1, e1, k1⟩ := okS_bind k
    exact ⟨E, σw, S, φ, R, r, s, S1, e1, fun φ1 H1 v L1 R1 r1 => k1 φ1 _ H1 (L1.trans (later_fr R1 r1)) (R1.setFr r1).1⟩
end
end EV

namespace EV
open PySem PySem.Spec PyProof.Rows L2
section
variable {X : Cx} {a b c e o tg : Expr} {mo m ma mb me mi : M W} {br : Bool} {pos apos : Pos} {E : Ent} {σw σw' : Sls} {S S' : Sto} {φ φ' : List Addr} {σ σ' : L2.St} {H H' : Hp} {w x : W} {v : V} {es : List Expr} {la : M (List W)} {p : Addr} {Q : VK} {D : Ends} {f g : M Fl} {mt : M Bool} {ob : Ob} {Z : Addr → Prop}
/-! ### a walk over a dict's items, locked -/
theorem StOk.set0 {K : PySem.W.Frag} {n : Nat} {ho : HO} (st : StOk K S φ Z H) (hp : φ[n]? = some p) (L : Later0 φ Z H φ Z (upd H p ho)) (h : HoldsO K φ Z (upd H p ho) ob p) : StOk K (S.set n ob) φ Z (upd H p ho) := by
  refine ⟨by rw [List.length_set]; exact st.len, st.nd, fun m ob' a e f => ?_⟩
  by_cases hm : n = m
  · subst hm
    rw [hp] at f; cases f
    obtain ⟨hn, _⟩ := List.getElem?_eq_some_iff.mp hp
    rw [List.getElem?_set_self (by rw [← st.len]; exact hn)] at e
    cases e
    exact h
  · rw [List.getElem?_set_ne hm] at e
    refine (st.ob m ob' a e f).mono0 L fun u hu => ?_
    rw [upd_ne (fun z : a = p => hm (ix_inj st.nd hp (by rw [← z]; exact f)))]
    exact hu
theorem later0_upd {ho : HO} (hz : Z p) : Later0 φ Z H φ Z (upd H p ho) := ⟨fun _ _ h => h, fun a o n h => by rw [upd_ne (fun z => n (by rw [z]; exact hz))]; exact h, fun a h => .inl h⟩
theorem Rl.wrt {K : PySem.W.Frag} {n : Nat} {ho : HO} (R : Rl K E σw S φ σ H) (hp : φ[n]? = some p) (he : ∀ o u, E.H p ≠ some (.frz o u)) (h : HoldsO K φ (ZZ E σw φ σ) (upd H p ho) ob p) : Rl K E σw (S.set n ob) φ σ (upd H p ho) := by
  have mp := mem_of_ix hp
  have L0 : Later0 φ (ZZ E σw φ σ) H φ (ZZ E σw φ σ) (upd H p ho) := later0_upd (.inr (.inl mp))
  refine ⟨R.st.set0 hp L0 h, R.len, fun i u f => ?_, fun i u f => ?_, R.inj, R.zφ, fun b z => ?_, R.eφ, fun b o z hb => ?_, R.enew, fun b o u hb => ?_⟩
  · obtain ⟨v, g, r⟩ := R.fr i u f
    exact ⟨v, g, r.mono0 L0⟩
  · obtain ⟨b, g, hb, n1, n2⟩ := R.ow i u f
    exact ⟨b, g, hb.mono0 L0 fun o h => by rw [upd_ne (fun q => n1 (by rw [q]; exact mp))]; exact h, n1, n2⟩
  · by_cases q : b = p
    · rw [q, upd_same]; simp
    · rw [upd_ne q]; exact R.zal b z
  · rw [upd_ne (fun q => by
      subst q
      rcases R.enew b mp with m | m
      · exact z m
      · rw [m] at hb; cases hb)]
    exact R.ekeep b o z hb
  · rw [upd_ne (fun q => he o u (by rw [← q]; exact hb))]; exact R.efz b o u hb
theorem pi_itemsop {elts : List Expr} {kk : Nat} {tpos : Pos} (hb : baseOk e = true) (hline : (apos.endLine == pos.line) = true) (he : PE X e (rdE X.K false me)) : PI X (.Tuple elts kk tpos) (.Call (.Attribute e "items" apos) [] [] pos) (rdI X.K (mItems me)) :=
  (pi_items he (base_ok hb) hline).imp fun σ H Q ⟨E, σw, S, φ, R, ws, S', q, k⟩ => by
    obtain ⟨x, S1, e1, q⟩ := bind_ok q
    split at q
    · rename_i n
      split at q
      · rename_i kvs hn
        cases q
        refine ⟨E, σw, S, φ, R, _, _, e1, fun φ1 H1 v x1 R1 r1 => ?_⟩
        obtain ⟨d, rfl, hd⟩ := rx_loc R1 r1 rfl
        obtain ⟨od, vs, hA, rA⟩ := R1.st.ob n _ d hn hd
        refine ⟨d, od, vs, rfl, hA, k φ1 H1 _ x1 R1 fun φ' Z' H' L al => ?_⟩
        have h' := L.fz d _ _ hA
        have rA' := rA.mono L
        refine ⟨⟨h', by rw [← rA.len]; simp⟩, fun i w hw => ?_⟩
        rw [List.getElem?_map] at hw
        obtain ⟨⟨ky, y⟩, hy, hw⟩ := Option.map_eq_some_iff.mp hw
        subst hw
        obtain ⟨z, hz, rz⟩ := rA'.get hy
        refine ⟨⟨h', (List.getElem?_eq_some_iff.mp hz).1⟩, fun x H'' yl => ?_⟩
        obtain ⟨T, ky', v', e3, e4, hT, e5⟩ := yl
        rw [hz] at e3; cases e3
        subst e4 e5
        have nT : ¬ Z' T := fun z => al T z hT
        exact ⟨same_new hT, .tup (.inl ⟨upd_same, nT⟩) ((RFs.cons (rf_kW ky) (.cons rz .nil)).mono (.same (same_new hT) fun _ z => z))⟩
      · cases q
    · cases q
theorem ps_forIop {bd : W → M Sls} {st : Stmt} (h : PS X st (rdS X.K (sFor (mItems mo) bd f))) : PS X st (rdS X.K (sForI mo bd f)) :=
  (ps_lock h).imp fun D σ H ⟨E, σw, S, φ, R, k⟩ => by
    obtain ⟨x, S0, e0, k0⟩ := okS_bind k
    cases x with
    | loc n =>
      cases hn : S[n]? with
      | none => simp only [hn] at k0; exact k0.elim
      | some ob =>
        simp only [hn] at k0
        cases ob with
        | dct kvs =>
          obtain ⟨a, ha, vs, hA, rA⟩ := R.st.at hn
          have ma := mem_of_ix ha
          have he : ∀ o u, E.H a ≠ some (.frz o u) := fun o u z => by
            have := R.efz a o u z
            rw [hA] at this; cases this
          refine ⟨a, .dK vs, hA, trivial, fun od => ?_⟩
          obtain ⟨x4, R4⟩ := R.write (ob := .lck kvs) (ho := .frz od (.dK vs)) ha (nfz hA fun _ _ z => by cases z) fun φ' Z' H' L h => ⟨od, vs, h, rA.mono L⟩
          refine ⟨E, σw, _, φ, R4, ?_⟩
          have hla : upd H a (.frz od (.dK vs)) a = some (.frz od (.dK vs)) := upd_same
          have back : ∀ {φ5 : List Addr} {Z5 : Addr → Prop} {H5 : Hp}, Later φ (ZZ E σw φ σ) (upd H a (.frz od (.dK vs))) φ5 Z5 H5 → Later φ (ZZ E σw φ σ) H φ5 Z5 (upd H5 a (.dK vs)) := fun {φ5 Z5 H5} L5 =>
            ⟨L5.ix, fun b o nz h => by
              have : b ≠ a := fun q => nz (by rw [q]; exact .inr (.inl ma))
              rw [upd_ne this]; exact L5.keep b o nz (by rw [upd_ne this]; exact h), fun b z => (L5.new b z).imp id fun q => by
              have : b ≠ a := fun w => by rw [w, upd_same] at q; cases q
              rw [upd_ne this] at q; exact q, fun b o u h => by
              have : b ≠ a := fun w => by rw [w, hA] at h; cases h
              rw [upd_ne this]; exact L5.fz b o u (by rw [upd_ne this]; exact h)⟩
          have hold : ∀ {φ5 : List Addr} {Z5 : Addr → Prop} {H5 : Hp}, Later φ (ZZ E σw φ σ) (upd H a (.frz od (.dK vs))) φ5 Z5 H5 → HoldsO X.K φ5 Z5 (upd H5 a (.dK vs)) (.dct kvs) a := fun {φ5 Z5 H5} L5 => ⟨vs, upd_same, rA.mono (back L5)⟩
          have k0 : okS X.K E σw φ σ H ((sFor (mItems mo) bd f σw (S.set n (.lck kvs))).bind fun fl S3 => match S3[n]? with
              | some (.lck _) => .ok fl (S3.set n (.dct kvs))
              | _ => .bad) D := k0
          cases hr : sFor (mItems mo) bd f σw (S.set n (.lck kvs)) with
          | ok fl S3 =>
            rw [hr] at k0
            have k0 : okS X.K E σw φ σ H (match S3[n]? with
              | some (.lck _) => .ok fl (S3.set n (.dct kvs))
              | _ => .bad) D := k0
            split at k0
            · have nxt : ∀ (s : Sls) (U : L2.St → Hp → Prop), (∀ φ' σ' H', Later φ (ZZ E σw φ σ) H φ' (ZZ E s φ' σ') H' → Rl X.K E s (S3.set n (.dct kvs)) φ' σ' H' → U σ' H') → ∀ φ5 σ5 H5, Later φ (ZZ E σw φ σ) (upd H a (.frz od (.dK vs))) φ5 (ZZ E s φ5 σ5) H5 → Rl X.K E s S3 φ5 σ5 H5 → H5 a = some (.frz od (.dK vs)) ∧ U σ5 (upd H5 a (.dK vs)) :=
                fun s U kU φ5 σ5 H5 L5 R5 => ⟨L5.fz a _ _ hla, kU φ5 σ5 _ (back L5) (R5.wrt (L5.ix n a ha) he (hold L5))⟩
              cases fl with
              | nx s => exact nxt s D.nx k0
              | bk s => exact nxt s D.bk k0
              | ct s => exact nxt s D.ct k0
              | rt w =>
                refine fun φ5 H5 v L5 ⟨st5, r5, x5⟩ => ⟨L5.fz a _ _ hla, k0 φ5 _ v (back L5) ?_⟩
                have ma5 : a ∈ φ5 := mem_of_ix (L5.ix n a ha)
                have L0 : Later0 φ5 (fun a => E.Z a ∨ a ∈ φ5) H5 φ5 (fun a => E.Z a ∨ a ∈ φ5) (upd H5 a (.dK vs)) := later0_upd (.inr ma5)
                refine ⟨st5.set0 (L5.ix n a ha) L0 (hold L5), r5.mono0 L0, x5.ix, fun b o z hb => ?_, x5.new, fun b o u hb => ?_⟩
                · rw [upd_ne (fun q => by
                    subst q
                    rcases R.enew b ma with m | m
                    · exact z m
                    · rw [m] at hb; cases hb)]
                  exact x5.keep b o z hb
                · rw [upd_ne (fun q => he o u (by rw [← q]; exact hb))]; exact x5.fz b o u hb
            · exact k0.elim
          | ex c as S3 => rw [hr] at k0; exact k0.elim
          | bad => rw [hr] at k0; exact k0.elim
        | _ => exact k0.elim
    | _ => exact k0.elim
/-! ### a shared list, locked while an expression runs -/
theorem lock_ext {ho hf : HO} (x5 : Ext φ (upd H p hf) φ' H') (hp : p ∈ φ) (hH : H p = some ho) (hn : ∀ o u, ho ≠ .frz o u) : Ext φ H φ' (upd H' p ho) where
  ix := x5.ix
  keep := fun b o nb hb => by
    have : b ≠ p := fun q => nb (by rw [q]; exact hp)
    rw [upd_ne this]; exact x5.keep b o nb (by rw [upd_ne this]; exact hb)
  new := fun b hb => (x5.new b hb).imp id fun q => by
    have : b ≠ p := fun w => by rw [w, upd_same] at q; cases q
    rw [upd_ne this] at q; exact q
  fz := fun b o u hb => by
    have : b ≠ p := fun q => by rw [q, hH] at hb; cases hb; exact hn _ _ rfl
    rw [upd_ne this]; exact x5.fz b o u (by rw [upd_ne this]; exact hb)
theorem lock_in {n : Nat} {xs : List W} (R : Rl X.K E σw S φ σ H) (hn : S[n]? = some (.lst xs)) : ∃ a vs, φ[n]? = some a ∧ H a = some (.lst vs) ∧ RFs X.K φ (ZZ E σw φ σ) H xs vs ∧ (∀ o u, E.H a ≠ some (.frz o u)) ∧ ∀ od, Rl X.K E σw (S.set n (.frz xs)) φ σ (upd H a (.frz od (.lst vs))) := by
  obtain ⟨a, ha, vs, hA, rA⟩ := R.st.at hn
  refine ⟨a, vs, ha, hA, rA, fun o u z => ?_, fun od => ?_⟩
  · have := R.efz a o u z
    rw [hA] at this; cases this
  · exact (R.write (ob := .frz xs) (ho := .frz od (.lst vs)) ha (nfz hA fun _ _ z => by cases z) fun φ' Z' H' L h => ⟨od, vs, h, rA.mono L⟩).2
theorem lockE_ok {i : Nat} (h : mLockE i m σw S = .ok w S') : ∃ n xs ys S3, σw[i]? = some (.fr (.loc n)) ∧ S[n]? = some (.lst xs) ∧ m σw (S.set n (.frz xs)) = .ok w S3 ∧ S3[n]? = some (.frz ys) ∧ S' = S3.set n (.lst xs) := by
  unfold mLockE at h
  split at h
  · rename_i n hi
    split at h
    · rename_i xs hn
      obtain ⟨w', S3, e3, h⟩ := bind_ok h
      split at h
      · rename_i ys hy
        cases h
        exact ⟨n, xs, ys, S3, hi, hn, e3, hy, rfl⟩
      · cases h
    · cases h
  · cases h
theorem pe_lockE {i : Nat} (h : PE X e (rdE X.K br m)) : PE X e (rdE X.K br (mLockE i m)) := (pe_lock h).imp fun σ H Q ⟨E, σw, S, φ, R, w, S', q, k⟩ => by
  obtain ⟨n, xs, ys, S3, hi, hn, e3, hy, rfl⟩ := lockE_ok q
  obtain ⟨a, vs, ha, hA, rA, he, R4⟩ := lock_in R hn
  have ma := mem_of_ix ha
  refine ⟨a, .lst vs, hA, trivial, fun od => ⟨E, σw, _, φ, R4 od, w, S3, e3, fun φ5 H5 v x5 R5 r5 => ⟨x5.fz a _ _ upd_same, ?_⟩⟩⟩
  have x6 : Ext φ H φ5 (upd H5 a (.lst vs)) := lock_ext x5 ma hA (fun _ _ z => by cases z)
  have ma5 : a ∈ φ5 := mem_of_ix (x5.ix n a ha)
  have L0 : Later0 φ5 (ZZ E σw φ5 σ) H5 φ5 (ZZ E σw φ5 σ) (upd H5 a (.lst vs)) := later0_upd (.inr (.inl ma5))
  exact k φ5 _ v x6 (R5.wrt (x5.ix n a ha) he ⟨vs, upd_same, rA.mono x6.later⟩) (r5.imp (fun r => r.mono0 L0) id)
theorem pe_lockN {i : Nat} (h : PE X e (rdN X.K m)) : PE X e (rdN X.K (mLockE i m)) := (pe_lock h).imp fun σ H Q ⟨E, σw, S, φ, R, w, S', q, k⟩ => by
  obtain ⟨n, xs, ys, S3, hi, hn, e3, hy, rfl⟩ := lockE_ok q
  obtain ⟨a, vs, ha, hA, rA, he, R4⟩ := lock_in R hn
  have ma := mem_of_ix ha
  refine ⟨a, .lst vs, hA, trivial, fun od => ⟨E, σw, _, φ, R4 od, w, S3, e3, fun φ5 H5 v x5 N5 => ⟨x5.fz a _ _ upd_same, ?_⟩⟩⟩
  have x6 : Ext φ H φ5 (upd H5 a (.lst vs)) := lock_ext x5 ma hA (fun _ _ z => by cases z)
  have ma5 : a ∈ φ5 := mem_of_ix (x5.ix n a ha)
  refine k φ5 _ v x6 ?_
  have hold : HoldsO X.K φ5 (ZZ E σw φ5 σ) (upd H5 a (.lst vs)) (.lst xs) a := ⟨vs, upd_same, rA.mono x6.later⟩
  have plain : ∀ {p : Addr}, Rl X.K (E.plus p) σw S3 φ5 σ H5 → H p = none → Rl X.K (E.plus p) σw (S3.set n (.lst xs)) φ5 σ (upd H5 a (.lst vs)) := fun {p} R5 hp => by
    have L6 := x6.later (E := E) (σw := σw) (σ := σ)
    have L7 : Later φ (ZZ E σw φ σ) H φ5 (ZZ (E.plus p) σw φ5 σ) (upd H5 a (.lst vs)) := ⟨L6.ix, L6.keep, fun b z => by
      rcases z with (z | z) | z
      · exact .inl (.inl z)
      · subst z; exact .inr hp
      · exact L6.new b (.inr z), L6.fz⟩
    exact R5.wrt (x5.ix n a ha) he ⟨vs, upd_same, rA.mono L7⟩
  cases w with
  | lst ws =>
    obtain ⟨p, us, rfl, h1, h2, h3, h4, R5, r5⟩ := N5
    have np : p ≠ a := fun q => h3 (by rw [q]; exact .inr (.inl ma5))
    rw [upd_ne np] at h2
    exact ⟨p, us, rfl, by rw [upd_ne np]; exact h1, h2, h3, h4, plain R5 h2, r5.mono0 (later0_upd (.inr (.inl ma5)))⟩
  | dct ws =>
    obtain ⟨p, us, rfl, h1, h2, h3, h4, R5, r5⟩ := N5
    have np : p ≠ a := fun q => h3 (by rw [q]; exact .inr (.inl ma5))
    rw [upd_ne np] at h2
    exact ⟨p, us, rfl, by rw [upd_ne np]; exact h1, h2, h3, h4, plain R5 h2, r5.mono0 (later0_upd (.inr (.inl ma5)))⟩
  | _ => exact ⟨N5.1.wrt (x5.ix n a ha) he hold, N5.2.mono0 (later0_upd (.inr (.inl ma5)))⟩
theorem pe_lkE {D : Dx} (h : PE X e (rdE X.K br m)) : PE X e (rdE X.K br (lkE D e m)) := by
  unfold lkE
  split
  · exact pe_lockE h
  · exact h
theorem pe_lkN {D : Dx} (h : PE X e (rdN X.K m)) : PE X e (rdN X.K (lkE D e m)) := by
  unfold lkE
  split
  · exact pe_lockN h
  · exact h
end
end EV

namespace EV
open PySem PySem.Spec PyProof.Rows L2
/-! ### the setting of a def's text -/
structure ScOk (sc sc' : Scope) : Prop where
  loc : ∀ x, sc.names.lookup x = some .local → sc'.names.lookup x = some .local
  gl : ∀ x, sc.names.lookup x = some .globalImplicit → sc'.names.lookup x = some .globalImplicit
  cell : ∀ x, sc.names.lookup x = some .cell → sc'.names.lookup x = some .cell
  fre : ∀ x, sc.names.lookup x = some .free → sc'.names.lookup x = some .free ∨ sc'.names.lookup x = some .cell
theorem ScOk.refl {sc : Scope} : ScOk sc sc := ⟨fun _ h => h, fun _ h => h, fun _ h => h, fun _ h => .inl h⟩
theorem lookup_relab {env : PySem.Env} {k : NameKind} : ∀ {names : List (Str × NameKind)} {x : Str}, names.lookup x = some k →
    (names.map fun (n, k) => if (k == NameKind.free && env.scope.kind == .function && env.kindOf n == some .cell) then (n, NameKind.cell) else (n, k)).lookup x = some k ∨ (k = .free ∧ (names.map fun (n, k) => if (k == NameKind.free && env.scope.kind == .function && env.kindOf n == some .cell) then (n, NameKind.cell) else (n, k)).lookup x = some .cell)
  | [], _, h => by simp at h
  | (n, k') :: r, x, h => by
    have ih := @lookup_relab env k r x
    rw [List.map_cons]
    by_cases hc : (k' == NameKind.free && env.scope.kind == .function && env.kindOf n == some .cell) = true
    · have hk : k' = .free := by
        simp only [Bool.and_eq_true] at hc
        exact eq_of_beq hc.1.1
      simp only [hc, if_true]
      cases hx : x == n with
      | true =>
        simp only [List.lookup_cons, hx] at h ⊢
        cases h
        exact .inr ⟨hk, trivial⟩
      | false =>
        simp only [List.lookup_cons, hx] at h ⊢
        exact ih h
    · simp only [hc]
      cases hx : x == n with
      | true =>
        simp only [List.lookup_cons, hx] at h
        cases h
        exact .inl (by simp [List.lookup_cons, hx])
      | false =>
        simp only [List.lookup_cons, hx] at h
        simpa [List.lookup_cons, hx] using ih h
theorem ScOk.relabel {cs : Scope} {env : PySem.Env} : ScOk cs (relabel cs env) :=
  ⟨fun x h => (lookup_relab h).elim id fun z => (by cases z.1), fun x h => (lookup_relab h).elim id fun z => (by cases z.1), fun x h => (lookup_relab h).elim id fun z => z.2, fun x h => (lookup_relab h).elim .inl fun z => .inr z.2⟩
/-- a constant of the module, or a built-in class as a value -/
structure CstK (X : Cx) (x : Str) (w : W) : Prop where
  ex : ∃ (v : V) (u : Value), RelV v u ∧ (∀ φ Z H, RF X.K φ Z H w v) ∧ (X.mg x = some u ∨ (X.mg x = none ∧ bootBuiltins x = some u ∧ x ≠ "__name__"))
  nd : (x == ("__debug__" : Str)) = false
structure CxOk (G : Glob) (F : Fenv) (D : Dx) (sc : Scope) (X : Cx) : Prop where
  N : X.N = D.N
  nd : D.N.Nodup
  sk : ScOk sc X.env.scope
  kind : X.env.scope.kind = .function
  calm : X.calm = true
  hu : X.A.units + 64 < cLine
  own : PassesOwn (model X.prog X.w) X.A X.env X.xe
  fnc : ∀ x, sc.names.lookup x = some .cell → X.fn x = true
  fre : ∀ x, G.fre.contains x = true → X.mg x = none
  cst : ∀ x w, G.cst.lookup x = some w → CstK X x w
  fns : ∀ f i, G.fns.lookup f = some i → FnK X F f i
  cls : ∀ c k, G.cls.lookup c = some k → MkK X F c
  mts : ∀ c m q, G.mts.lookup (c, m) = some q → MtK X F c m q
  kwc : ∀ f ks np ord, G.kwc.lookup (f, ks) = some (np, ord) → KwK X F f ks np ord
  fld : ∀ c f, G.fld.contains (c, f) = true → Cls X.K (He.ga X.K c) ∧ NoAttr X.K (He.ga X.K c) f
  tbl : ∀ x t, G.tbl.lookup x = some t → TblK X.K X.w X.mg x t
  dts : ∀ x t, G.dts.lookup x = some t → DtsK X.K X.w X.mg x t
section
variable {G : Glob} {F : Fenv} {D : Dx} {sc : Scope} {X : Cx} {br : Bool} {pos : Pos}
theorem CxOk.blk {cs : Scope} {own : List (Str × Nat)} (C : CxOk G F D sc X) (b : BlkOk X.N X.env.scope cs own) (s : Shared) (H : Hp) (A : Addr) (cl : List (Str × Addr)) (fp : List Addr) : CxOk G F D cs (X.blk s H cs (compEnvC cs cl A X.env) fp) where
  N := C.N
  nd := C.nd
  sk := ScOk.relabel
  kind := b.kind
  calm := C.calm
  hu := C.hu
  own := PassesOwn.never
  fnc := fun x h => by show (cs.names.lookup x == some .cell) = true; rw [h]; rfl
  fre := C.fre
  cst := fun x w h => ⟨(C.cst x w h).ex, (C.cst x w h).nd⟩
  fns := fun f i h => ⟨(C.fns f i h).ex, (C.fns f i h).nd⟩
  cls := fun c k h => ⟨(C.cls c k h).ex, (C.cls c k h).nd⟩
  mts := fun c m q h => ⟨(C.mts c m q h).ex⟩
  kwc := fun f ks np ord h => ⟨(C.kwc f ks np ord h).ex, (C.kwc f ks np ord h).nd⟩
  fld := C.fld
  tbl := fun x t h => ⟨(C.tbl x t h).ex, (C.tbl x t h).nd⟩
  dts := fun x t h => ⟨(C.dts x t h).ex, (C.dts x t h).nd⟩
theorem CxOk.blkOk {cs : Scope} {own : List (Str × Nat)} (C : CxOk G F D sc X) (h : blkC D.N sc cs own = true) : BlkOk X.N X.env.scope cs own := by
  have b := blkOk_by h
  rw [C.N]
  refine ⟨b.kind, b.uniq, b.ix, fun y hy e => ?_, b.own⟩
  rcases b.free y hy e with z | z
  · exact .inl (C.sk.cell _ z)
  · exact (C.sk.fre _ z).symm
theorem isG_gl {x : Str} (C : CxOk G F D sc X) (h : isG sc x = true) : Gl X x := by
  unfold isG at h
  split at h
  · rename_i e; exact C.sk.gl _ e
  · cases h
theorem isLoc_vis {x : Str} (C : CxOk G F D sc X) (h : isLoc sc x = true) : Vis X.env.scope x ∧ (x == ("__debug__" : Str)) = false ∧ (x == ("__classdict__" : Str)) = false := by
  unfold isLoc okNm at h
  simp only [Bool.and_eq_true, Bool.not_eq_true'] at h
  obtain ⟨⟨h1, h2⟩, h⟩ := h
  refine ⟨?_, h1, h2⟩
  split at h
  · rename_i e; exact .inl (C.sk.loc _ e)
  · rename_i e; exact .inr (.inl (C.sk.cell _ e))
  · rename_i e; exact (C.sk.fre _ e).elim (fun z => .inr (.inr z)) fun z => .inr (.inl z)
  · cases h
theorem slot_ix {x : Str} {i : Nat} (C : CxOk G F D sc X) (h : slotOf D.N x = some i) : X.N[i]? = some x ∧ i = D.N.idxOf x := by
  unfold slotOf at h
  split at h
  · rename_i hl
    cases h
    rw [C.N]
    refine ⟨?_, rfl⟩
    rw [List.getElem?_eq_getElem hl]
    exact congrArg some (List.getElem_idxOf hl)
  · cases h
theorem name_tv {x : Str} {i : Nat} (C : CxOk G F D sc X) (h : isLoc sc x = true) (hs : slotOf D.N x = some i) : PE X (.Name x pos) (tVar i) := by
  obtain ⟨h1, h2, h3⟩ := isLoc_vis C h
  exact pe_var (slot_ix C hs).1 h1 h2 h3
theorem name_mv {x : Str} {i : Nat} (C : CxOk G F D sc X) (h : isLoc sc x = true) (hs : slotOf D.N x = some i) : PE X (.Name x pos) (rdE X.K false (mVar i)) := by
  obtain ⟨h1, h2, h3⟩ := isLoc_vis C h
  exact pe_varop (slot_ix C hs).1 h1 h2 h3
theorem name_mvB {x : Str} {i : Nat} (C : CxOk G F D sc X) (h : isLoc sc x = true) (hs : slotOf D.N x = some i) : PE X (.Name x pos) (rdE X.K true (mVarB i)) := by
  obtain ⟨h1, h2, h3⟩ := isLoc_vis C h
  exact pe_varopB (slot_ix C hs).1 h1 h2 h3
theorem name_ok {x : Str} (C : CxOk G F D sc X) : PE X (.Name x pos) (rdE X.K br (cName G D sc br x)) := by
  unfold cName
  split
  · rename_i hg
    split
    · rename_i w hw
      obtain ⟨⟨v, u, r, h1, h2⟩, h3⟩ := C.cst x w hw
      have hgl : Gl X x := C.sk.gl _ hg
      rcases h2 with h2 | ⟨h2, h4, h5⟩
      · exact pe_c (pe_glob hgl h2 r h3) h1
      · exact pe_c (pe_bltn hgl h2 h4 r h5 h3) h1
    · exact PE.no
  · split
    · rename_i hl
      split
      · rename_i i hi
        cases br with
        | true => exact name_mvB C hl hi
        | false => exact name_mv C hl hi
      · exact PE.no
    · exact PE.no
/-! ### targets -/
theorem tg_bd : ∀ (n : Nat) (e : Expr), BdOk ((tgNames n e).map fun x => D.N.idxOf x) (cTg D sc n e)
  | 0, e => bd_bad
  | n + 1, e => by
    unfold cTg tgNames
    split
    · rename_i x p
      have nm : ∀ i, slotOf D.N x = some i → BdOk ([x].map fun x => D.N.idxOf x) (bName i) := fun i h => by
        unfold slotOf at h
        split at h
        · cases h; exact bd_name
        · cases h
      split
      · rename_i i h1 h2; exact nm i h2
      · rename_i i h1 h2; exact nm i h2
      · exact bd_bad
    · rename_i es k p
      split
      · refine bd_tup fun g hg => ?_
        obtain ⟨e, he, rfl⟩ := List.mem_map.mp hg
        refine (tg_bd n e).mono fun i hi => ?_
        obtain ⟨x, hx, rfl⟩ := List.mem_map.mp hi
        exact List.mem_map.mpr ⟨x, List.mem_flatMap.mpr ⟨e, he, hx⟩, rfl⟩
      · exact bd_bad
    · exact bd_bad
theorem tgs_pg {gs : Expr → W → M Sls} {ow : Expr → List Nat} {own : List Nat} : ∀ {es : List Expr}, noStar es = true → (∀ e, e ∈ es → BdOk (ow e) (gs e) ∧ PG X e (rdG X.K (ow e) (gs e)) ∧ ∀ i, i ∈ ow e → i ∈ own) → PGs X es (rdGs X.K own (es.map gs))
  | [], _, _ => pgs_nilop
  | e :: es, hs, h => by
    obtain ⟨s1, s2⟩ := noStar_cons hs
    obtain ⟨h1, h2, h3⟩ := h e (List.mem_cons_self ..)
    exact pgs_consop s1 (rdG_mono h2 h3) (tgs_pg s2 fun e he => h e (List.mem_cons_of_mem _ he)) (h1.mono h3)
theorem tg_pg (C : CxOk G F D sc X) : ∀ (n : Nat) (e : Expr), PG X e (rdG X.K ((tgNames n e).map fun x => D.N.idxOf x) (cTg D sc n e))
  | 0, e => PG.no
  | n + 1, e => by
    unfold cTg tgNames
    split
    · rename_i x p
      have nm : ∀ i, slotOf D.N x = some i → Loc X.env.scope x → (X.fn x = true ∨ X.env.scope.names.lookup x = some .local) → PG X (.Name x p) (rdG X.K ([x].map fun x => D.N.idxOf x) (bName i)) := fun i h h1 h2 => by
        obtain ⟨h3, rfl⟩ := slot_ix C h
        exact pg_nameop (by rw [C.N]; exact C.nd) h3 h1 h2
      split
      · rename_i i h1 h2; exact nm i h2 (.inl (C.sk.loc _ h1)) (.inr (C.sk.loc _ h1))
      · rename_i i h1 h2; exact nm i h2 (.inr (C.sk.cell _ h1)) (.inl (C.fnc _ h1))
      · exact PG.no
    · rename_i es k p
      split
      · rename_i hs
        refine pg_tupop C.calm hs (by rw [List.length_map]) (tgs_pg (ow := fun e => (tgNames n e).map fun x => D.N.idxOf x) hs fun e he => ⟨tg_bd n e, tg_pg C n e, fun i hi => ?_⟩)
        obtain ⟨x, hx, rfl⟩ := List.mem_map.mp hi
        exact List.mem_map.mpr ⟨x, List.mem_flatMap.mpr ⟨e, he, hx⟩, rfl⟩
      · exact PG.no
    · exact PG.no
end
end EV

namespace EV
open PySem PySem.Spec PyProof.Rows L2
/-! ### expressions: the text's walk is sound -/
section
variable {X : Cx} {e : Expr} {m : M W} {br : Bool}
theorem _root_.L2.PTs.no {es : List Expr} : PTs X es (rdT X.K mBad) := ⟨fun _ _ _ _ _ _ ⟨_, _, _, _, _, _, _, q, _⟩ => by cases q⟩
theorem _root_.L2.PW.no : PW X e (rdT X.K mBad) := ⟨fun _ _ _ _ _ _ _ ⟨_, _, _, _, _, _, _, q, _⟩ => by cases q⟩
theorem pts_nilop : PTs X [] (rdT X.K mYes) := by
  obtain ⟨h⟩ := pts_nil (X := X)
  exact ⟨fun pins s σ H Q I ⟨E, σw, S, φ, R, w, S', q, k⟩ => h pins s σ H Q I (by cases q; exact k φ H .refl R)⟩
theorem mkN (h : PE X e (rdN X.K m)) : (isNew e = true → PE X e (rdN X.K m)) ∧ PE X e (rdE X.K br m) := ⟨fun _ => h, rdE_of_rdN h⟩
theorem mkE (h0 : isNew e = false) (h : PE X e (rdE X.K br m)) : (isNew e = true → PE X e (rdN X.K m)) ∧ PE X e (rdE X.K br m) := ⟨fun h1 => (by rw [h0] at h1; cases h1), h⟩
theorem mkB : (isNew e = true → PE X e (rdN X.K mBad)) ∧ PE X e (rdE X.K br mBad) := ⟨fun _ => .noN, .no⟩
end
theorem isStar_bad {G : Glob} {F : Fenv} {D : Dx} {sc : Scope} {a : Expr} {n : Nat} {m : Bool} (h : isStar a = true) : cE G F D n m sc a = mBad := by
  cases a <;> first | cases h | skip
  cases n with
  | zero => rfl
  | succ n =>
    unfold cE shr isShr isNew lkE lkOf isLCm
    cases n <;> rfl
structure ExS (G : Glob) (F : Fenv) (D : Dx) (n : Nat) : Prop where
  E : ∀ {sc X br e}, CxOk G F D sc X → PE X e (rdE X.K br (cE G F D n br sc e))
  E1 : ∀ {sc X br e}, CxOk G F D sc X → (isNew e = true → PE X e (rdN X.K (cE1 G F D n br sc e))) ∧ PE X e (rdE X.K br (cE1 G F D n br sc e))
  An : ∀ {sc X br es pos}, CxOk G F D sc X → PE X (.BoolOp .And es pos) (rdE X.K br (cAnd G F D n br sc es))
  Or : ∀ {sc X br es pos}, CxOk G F D sc X → PE X (.BoolOp .Or es pos) (rdE X.K br (cOr G F D n br sc es))
  Ps : ∀ {sc X pos ks vs}, CxOk G F D sc X → PPs X pos ks vs ((cPs G F D n sc ks vs).map fun p => (rdE X.K true p.1, rdE X.K false p.2))
  A : ∀ {sc X br es}, CxOk G F D sc X → PA X es (rdA X.K br (cA G F D n br sc es))
  Ks : ∀ {sc X br kws}, CxOk G F D sc X → PK X kws (rdA X.K br (cA G F D n br sc (kws.map (·.value))))
  Ifs : ∀ {sc X es}, CxOk G F D sc X → PTs X es (rdT X.K (cIfs G F D n sc es))
  T : ∀ {sc X e}, CxOk G F D sc X → PT X e (rdT X.K (cT G F D n sc e))
  AnT : ∀ {sc X es pos}, CxOk G F D sc X → PW X (.BoolOp .And es pos) (rdT X.K (cAndT G F D n sc es))
  OrT : ∀ {sc X es pos}, CxOk G F D sc X → PW X (.BoolOp .Or es pos) (rdT X.K (cOrT G F D n sc es))
  It : ∀ {sc X tg it}, CxOk G F D sc X → itFits tg it = true → PI X tg it (rdI X.K (cIt G F D n sc it))
section
variable {G : Glob} {F : Fenv} {D : Dx}
theorem cA_nil {n : Nat} {br : Bool} {sc : Scope} : cA G F D n br sc [] = mNil := by cases n <;> rfl
theorem exs_zero : ExS G F D 0 where
  E := fun _ => by unfold cE; exact .no
  E1 := fun _ => by unfold cE1; exact mkB
  An := fun _ => by unfold cAnd; exact .no
  Or := fun _ => by unfold cOr; exact .no
  Ps := fun _ => by unfold cPs; exact .no
  A := fun _ => by
    unfold cA
    split
    · exact pa_nilop
    · exact .no
  Ks := fun {_ _ _ kws} _ => by
    cases kws with
    | nil => exact pk_nilop
    | cons _ _ => exact .no
  Ifs := fun _ => by unfold cIfs; exact .no
  T := fun _ => by unfold cT; exact .no
  AnT := fun _ => by unfold cAndT; exact .no
  OrT := fun _ => by unfold cOrT; exact .no
  It := fun _ _ => by unfold cIt; exact .no
variable {sc : Scope} {X : Cx} {n : Nat} {br : Bool}
theorem cA_len {br : Bool} {sc : Scope} : ∀ {n : Nat} {es : List Expr} {σ : Sls} {S S' : Sto} {xs : List W}, cA G F D n br sc es σ S = .ok xs S' → xs.length = es.length
  | 0, [], σ, S, S', xs, h => by cases h; rfl
  | 0, _ :: _, σ, S, S', xs, h => by cases h
  | n + 1, [], σ, S, S', xs, h => by cases h; rfl
  | n + 1, e :: es, σ, S, S', xs, h => by
    unfold cA at h
    simp only at h
    split at h
    · cases h
    · obtain ⟨y, S1, e1, h⟩ := bind_ok h
      obtain ⟨ys, S2, e2, h⟩ := bind_ok h
      cases h
      rw [List.length_cons, List.length_cons, cA_len e2]
theorem e_succ (I : ExS G F D n) (C : CxOk G F D sc X) {e : Expr} : PE X e (rdE X.K br (cE G F D (n + 1) br sc e)) := by
  unfold cE shr
  split
  · rename_i h
    unfold isShr at h
    rw [Bool.and_eq_true] at h
    exact pe_toLoc (pe_lkN ((I.E1 C).1 h.1))
  · exact pe_lkE (I.E1 C).2
theorem call_succ (I : ExS G F D n) (C : CxOk G F D sc X) {f : Str} {p pos : Pos} {es : List Expr} : (isNew (.Call (.Name f p) es [] pos) = true → PE X (.Call (.Name f p) es [] pos) (rdN X.K (cE1 G F D (n + 1) br sc (.Call (.Name f p) es [] pos)))) ∧ PE X (.Call (.Name f p) es [] pos) (rdE X.K br (cE1 G F D (n + 1) br sc (.Call (.Name f p) es [] pos))) := by
  unfold cE1
  simp only
  split
  · rename_i h
    obtain ⟨hg, hc⟩ := h
    unfold callOk at hc
    rw [Bool.and_eq_true] at hc
    have hs := hc.1
    have gl := isG_gl C hg
    have blt : bfOf f ≠ .none → G.fre.contains f = true ∧ es ≠ [] → PE X (.Call (.Name f p) es [] pos) (rdN X.K (mBlt (bfOf f) (cA G F D n true sc es))) := fun hb h => by
      cases es with
      | nil => exact absurd rfl h.2
      | cons e es => exact pe_bltop C.calm gl (C.fre f h.1) hb hs (I.A C)
    have hnew : bfOf f = .none → isNew (.Call (.Name f p) es [] pos) = false := fun h => by
      unfold isNew
      refine decide_eq_false fun z => ?_
      have e1 : bfOf "list" = .list := by rfl
      have e2 : bfOf "sorted" = .sorted := by rfl
      rcases z with z | z <;> rw [z] at h
      · rw [e1] at h; cases h
      · rw [e2] at h; cases h
    cases hb : bfOf f with
    | none =>
      simp only
      cases hi : G.fns.lookup f with
      | some i =>
        simp only
        split
        · exact mkE (hnew hb) (pe_callop (C.fns f i hi) gl hs (I.A C) fun h => by rw [h]; exact cA_nil)
        · exact mkB
      | none =>
        cases hk : G.cls.lookup f with
        | some k =>
          simp only
          split
          · exact mkE (hnew hb) (pe_makeop (C.cls f k hk) gl hs (I.A C) fun h => by rw [h]; exact cA_nil)
          · exact mkB
        | none => exact mkB
    | _ =>
      rw [hb] at blt
      simp only
      split
      · rename_i h; exact mkN (blt (by intro z; cases z) h)
      · exact mkB
  · exact mkB
theorem lc_succ (I : ExS G F D n) (C : CxOk G F D sc X) {e tg it : Expr} {ifs : List Expr} {cs : Scope} {pos : Pos} (h : itFits tg it = true ∧ blkC D.N sc cs ((tgNames 9 tg).map fun x => (x, D.N.idxOf x)) = true) :
    PE X (.ListComp e [⟨tg, it, ifs, 0⟩] cs pos) (rdN X.K (mLc (cIt G F D n sc it) (cTg D cs 9 tg) (cIfs G F D n cs ifs) (cE G F D n false cs e) ((tgNames 9 tg).map fun x => D.N.idxOf x))) := by
  have b := C.blkOk h.2
  have hm : ((tgNames 9 tg).map fun x => (x, D.N.idxOf x)).map (·.2) = (tgNames 9 tg).map fun x => D.N.idxOf x := by rw [List.map_map]; rfl
  have hset : isSet it = false := by
    have := h.1
    unfold itFits at this
    rw [Bool.and_eq_true] at this
    simpa using this.1
  rw [← hm]
  exact pe_lcop C.calm (by rw [C.N]; exact C.nd) (I.It C h.1) b (by rw [hm]; exact tg_bd 9 tg) (fun s H A cl fp => by rw [hm]; exact tg_pg (C.blk b s H A cl fp) 9 tg) (fun s H A cl fp => I.Ifs (C.blk b s H A cl fp)) (fun s H A cl fp => I.E (C.blk b s H A cl fp)) hset
theorem dc_succ (I : ExS G F D n) (C : CxOk G F D sc X) {kx e tg it : Expr} {ifs : List Expr} {cs : Scope} {pos : Pos} (h : itFits tg it = true ∧ blkC D.N sc cs ((tgNames 9 tg).map fun x => (x, D.N.idxOf x)) = true) :
    PE X (.DictComp kx e [⟨tg, it, ifs, 0⟩] cs pos) (rdN X.K (mDc (cIt G F D n sc it) (cTg D cs 9 tg) (cIfs G F D n cs ifs) (cE G F D n true cs kx) (cE G F D n false cs e) ((tgNames 9 tg).map fun x => D.N.idxOf x))) := by
  have b := C.blkOk h.2
  have hm : ((tgNames 9 tg).map fun x => (x, D.N.idxOf x)).map (·.2) = (tgNames 9 tg).map fun x => D.N.idxOf x := by rw [List.map_map]; rfl
  have hset : isSet it = false := by
    have := h.1
    unfold itFits at this
    rw [Bool.and_eq_true] at this
    simpa using this.1
  rw [← hm]
  exact pe_dcop C.calm (by rw [C.N]; exact C.nd) (I.It C h.1) b (by rw [hm]; exact tg_bd 9 tg) (fun s H A cl fp => by rw [hm]; exact tg_pg (C.blk b s H A cl fp) 9 tg) (fun s H A cl fp => I.Ifs (C.blk b s H A cl fp)) (fun s H A cl fp => I.E (C.blk b s H A cl fp)) (fun s H A cl fp => I.E (C.blk b s H A cl fp)) hset
theorem lc2_succ (I : ExS G F D n) (C : CxOk G F D sc X) {e tg it tg1 it1 : Expr} {ifs ifs1 : List Expr} {cs : Scope} {pos : Pos} (h : itFits tg it = true ∧ itFits tg1 it1 = true ∧ blkC D.N sc cs ((tgNames 9 tg ++ tgNames 9 tg1).map fun x => (x, D.N.idxOf x)) = true) :
    PE X (.ListComp e [⟨tg, it, ifs, 0⟩, ⟨tg1, it1, ifs1, 0⟩] cs pos) (rdN X.K (mLc2 (cIt G F D n sc it) (cTg D cs 9 tg) (cIfs G F D n cs ifs) (cIt G F D n cs it1) (cTg D cs 9 tg1) (cIfs G F D n cs ifs1) (cE G F D n false cs e) ((tgNames 9 tg ++ tgNames 9 tg1).map fun x => D.N.idxOf x) ((tgNames 9 tg1).map fun x => D.N.idxOf x))) := by
  have b := C.blkOk h.2.2
  have hm : ((tgNames 9 tg ++ tgNames 9 tg1).map fun x => (x, D.N.idxOf x)).map (·.2) = (tgNames 9 tg ++ tgNames 9 tg1).map fun x => D.N.idxOf x := by rw [List.map_map]; rfl
  have fs : ∀ {t i}, itFits t i = true → isSet i = false := fun {t i} h => by
    unfold itFits at h
    rw [Bool.and_eq_true] at h
    simpa using h.1
  have m1 : ∀ i, i ∈ (tgNames 9 tg).map (fun x => D.N.idxOf x) → i ∈ (tgNames 9 tg ++ tgNames 9 tg1).map fun x => D.N.idxOf x := fun i hi => by
    rw [List.map_append]; exact List.mem_append_left _ hi
  have m2 : ∀ i, i ∈ (tgNames 9 tg1).map (fun x => D.N.idxOf x) → i ∈ (tgNames 9 tg ++ tgNames 9 tg1).map fun x => D.N.idxOf x := fun i hi => by
    rw [List.map_append]; exact List.mem_append_right _ hi
  rw [← hm]
  exact pe_lcop2 C.calm (by rw [C.N]; exact C.nd) (I.It C h.1) b (fun i hi => by rw [hm]; exact m2 i hi) (by rw [hm]; exact (tg_bd 9 tg).mono m1) (tg_bd 9 tg1) (fun s H A cl fp => by rw [hm]; exact rdG_mono (tg_pg (C.blk b s H A cl fp) 9 tg) m1) (fun s H A cl fp => I.Ifs (C.blk b s H A cl fp)) (fun s H A cl fp => I.It (C.blk b s H A cl fp) h.2.1) (fun s H A cl fp => tg_pg (C.blk b s H A cl fp) 9 tg1) (fun s H A cl fp => I.Ifs (C.blk b s H A cl fp)) (fun s H A cl fp => I.E (C.blk b s H A cl fp)) (fs h.1) (fs h.2.1)
theorem gdts_ok {b : Expr} {t : List (Str × W)} (h : gdts G sc b = some t) : ∃ x p, b = .Name x p ∧ isG sc x = true ∧ G.dts.lookup x = some t := by
  unfold gdts at h
  split at h
  · split at h
    · rename_i h1; exact ⟨_, _, rfl, h1, h⟩
    · cases h
  · cases h
theorem inOp_marks {op : CmpOp} {ng : Bool} {x : Str} {p : Pos} (h : inOp op = some ng) : behindInMarks op (.Name x p) = false := by
  cases op <;> first | rfl | cases h
theorem e1_succ (I : ExS G F D n) (C : CxOk G F D sc X) {e : Expr} : (isNew e = true → PE X e (rdN X.K (cE1 G F D (n + 1) br sc e))) ∧ PE X e (rdE X.K br (cE1 G F D (n + 1) br sc e)) := by
  by_cases hcall : ∃ f p es pos, e = .Call (.Name f p) es [] pos
  · obtain ⟨f, p, es, pos, rfl⟩ := hcall
    exact call_succ I C
  unfold cE1
  split
  · exact mkE rfl (name_ok C)
  · split
    · exact mkE rfl (pe_c pe_non fun _ _ _ => .non)
    · exact mkE rfl (pe_c pe_bl fun _ _ _ => .bl _)
    · exact mkE rfl (pe_c pe_int fun _ _ _ => .int _)
    · exact mkE rfl (pe_c pe_str fun _ _ _ => .str _)
    · exact mkB
  · exact mkN (pe_bin (I.E C) (I.E C))
  · exact mkE rfl (pe_notop (I.E C))
  · exact mkE rfl (pe_unop (I.E C))
  · exact mkE rfl (I.An C)
  · exact mkE rfl (I.Or C)
  · rename_i a op b p
    split
    · rename_i t ng hg hop
      obtain ⟨x, p0, rfl, h1, h2⟩ := gdts_ok hg
      exact mkE rfl (pe_tinop (C.dts x t h2) (isG_gl C h1) hop (inOp_marks hop) (I.E C))
    · split
      · exact mkB
      · rename_i h; exact mkE rfl (pe_cmpop C.hu (by simpa using h) (I.E C) (I.E C))
  · split
    · exact mkB
    · rename_i h; exact mkE rfl (pe_chainop C.hu (by simpa using h) (I.E C) (I.E C) (I.E C))
  · exact mkE rfl (pe_ifop (I.T C) (I.E C) (I.E C))
  · exact mkE rfl (pe_tupop (I.A C))
  · exact mkN (pe_lstop (I.A C))
  · exact mkN pe_dnew
  · split
    · rename_i h; exact mkN (pe_dictop h (I.Ps C))
    · exact mkB
  · exact mkN (pe_slop (I.E C) (fun _ _ => I.E C) fun _ _ => I.E C)
  · rename_i a i p _
    split
    · exact mkB
    · rename_i h
      have hs : ∀ lo hi st p, i ≠ .Slice lo hi st p := fun lo hi st p z => by subst z; exact h rfl
      split
      · rename_i t hg
        obtain ⟨x, p0, rfl, h1, h2⟩ := gdts_ok hg
        exact mkE (by cases i <;> first | rfl | exact absurd rfl (hs _ _ _ _)) (pe_tsubop (C.dts x t h2) (isG_gl C h1) hs (I.E C))
      · exact mkE (by cases i <;> first | rfl | exact absurd rfl (hs _ _ _ _)) (pe_ixop C.hu hs (I.E C) (I.E C))
  · split
    · exact mkB
    · rename_i h; exact mkE rfl (pe_fldop (by simpa using h) (fun c hc => C.fld c _ hc) (I.E C))
  · exact absurd ⟨_, _, _, _, rfl⟩ hcall
  · rename_i f p es kw kws q
    split
    · rename_i np ord hb hk
      split
      · rename_i h
        obtain ⟨h1, h2, h3, h4⟩ := h
        unfold callOk at h2
        rw [Bool.and_eq_true] at h2
        have hnew : isNew (.Call (.Name f p) es (kw :: kws) q) = false := by
          unfold isNew
          refine decide_eq_false fun z => ?_
          have e1 : bfOf "list" = .list := by rfl
          have e2 : bfOf "sorted" = .sorted := by rfl
          rcases z with z | z <;> rw [z] at hb
          · rw [e1] at hb; cases hb
          · rw [e2] at hb; cases hb
        exact mkE hnew (pe_callKop (C.kwc _ _ _ _ hk) (isG_gl C h1) h2.1 h4 h3 (I.A C) (I.Ks C) (fun _ _ _ _ e => cA_len e) fun _ _ _ _ e => by rw [cA_len e, List.length_map])
      · exact mkB
    · exact mkB
  · rename_i x p0 m p a q
    split
    · rename_i k hk
      split
      · exact mkB
      · rename_i h; exact mkE rfl (pe_smop hk (by simpa using h) (I.E C) (I.E C))
    · split
      · rename_i ws hg
        split
        · exact mkB
        · rename_i h
          unfold gtup at hg
          split at hg
          · rename_i h2
            split at hg
            · rename_i ws' hc
              cases hg
              obtain ⟨⟨v, u, r, h1, h3⟩, h4⟩ := C.cst x _ hc
              have hgl : Gl X x := isG_gl C h2.1
              rcases h3 with h3 | ⟨h3, h5, h6⟩
              · exact mkE rfl (pe_tixop (pe_glob hgl h3 r h4) h1 h2.2 (by simpa using h) (I.E C))
              · exact mkE rfl (pe_tixop (pe_bltn hgl h3 h5 r h6 h4) h1 h2.2 (by simpa using h) (I.E C))
            · cases hg
          · cases hg
      · split
        · exact mkB
        · rename_i h; exact mkE rfl (pe_methop C.hu (fun c q hq => C.mts c _ q hq) (by simpa using h) (I.E C) (I.A C) fun h => by cases h)
  · rename_i x p0 m p a b q
    split
    · rename_i t hg
      split
      · exact mkB
      · rename_i h
        unfold gtbl at hg
        split at hg
        · rename_i h2
          exact mkE rfl (pe_tgetop (C.tbl x t hg) (isG_gl C h2.1) h2.2 (by simpa using h) (I.E C) (I.E C))
        · cases hg
    · split
      · exact mkB
      · rename_i h; exact mkE rfl (pe_methop C.hu (fun c q hq => C.mts c _ q hq) (by simpa using h) (I.E C) (I.A C) fun h => by cases h)
  · split
    · split
      · exact mkB
      · rename_i h; exact mkE rfl (pe_smop (by assumption) (by simpa using h) (I.E C) (I.E C))
    · split
      · exact mkB
      · rename_i h; exact mkE rfl (pe_methop C.hu (fun c q hq => C.mts c _ q hq) (by simpa using h) (I.E C) (I.A C) fun h => by rw [h]; exact cA_nil)
  · split
    · rename_i h; exact mkN (lc2_succ I C h)
    · exact mkB
  · split
    · rename_i h; exact mkN (lc_succ I C h)
    · exact mkB
  · split
    · rename_i h; exact mkN (dc_succ I C h)
    · exact mkB
  · exact mkB
theorem t_succ (I : ExS G F D n) (C : CxOk G F D sc X) {e : Expr} : PT X e (rdT X.K (cT G F D (n + 1) sc e)) := by
  unfold cT
  split
  · exact (I.AnT C).pt
  · exact (I.OrT C).pt
  · exact pt_notop (I.T C)
  · rename_i a op b p
    split
    · rename_i t ng hg hop
      obtain ⟨x, p0, rfl, h1, h2⟩ := gdts_ok hg
      exact pt_tinop (C.dts x t h2) (isG_gl C h1) hop (inOp_marks hop) (I.E C)
    · split
      · exact .no
      · rename_i h; exact pt_cmpop C.hu (by simpa using h) (I.E C) (I.E C)
  · split
    · exact .no
    · rename_i h; exact pt_chainop C.hu (by simpa using h) (I.E C) (I.E C) (I.E C)
  · exact .no
  · exact .no
  · rename_i h1 h2 h3 h4 h5 h6 h7
    refine pt_tru (I.E C) ?_
    cases e with
    | UnaryOp op a p => cases op <;> first | (intro _; rfl) | exact (h3 _ _ rfl).elim
    | BoolOp op a p => cases op <;> first | exact (h1 _ _ rfl).elim | exact (h2 _ _ rfl).elim
    | IfExp _ _ _ _ => exact (h7 _ _ _ _ rfl).elim
    | Compare _ _ _ _ => exact (h6 _ _ _ _ rfl).elim
    | _ => intro _; rfl
theorem it_succ (I : ExS G F D n) (C : CxOk G F D sc X) {tg it : Expr} (hf : itFits tg it = true) : PI X tg it (rdI X.K (cIt G F D (n + 1) sc it)) := by
  have hns : ∀ {a : Expr} {m : Bool}, isStar a = true → cE G F D n m sc a = mBad := fun {a m} h => by
    cases a <;> first | cases h | skip
    cases n with
    | zero => rfl
    | succ n =>
      unfold cE shr isShr isNew lkE lkOf isLCm
      cases n <;> rfl
  unfold cIt
  split
  · rename_i f p a q
    split
    · rename_i h
      have gl := isG_gl C h.1
      have hm := C.fre f h.2
      split
      · rename_i hr
        subst hr
        cases hs : isStar a with
        | false => exact pi_rng1op gl hm hs (I.E C)
        | true => rw [hns hs]; exact ⟨fun _ _ _ _ _ _ ⟨_, _, _, _, _, _, _, q, _⟩ => by cases q⟩
      · split
        · rename_i he
          subst he
          cases hs : isStar a with
          | false =>
            have : isTup tg = true := by
              unfold itFits at hf
              simpa [isSet] using hf
            cases tg <;> first | (cases this; done) | exact pi_enumop gl hm hs (I.E C)
          | true => rw [hns hs]; exact ⟨fun _ _ _ _ _ _ ⟨_, _, _, _, _, _, _, q, _⟩ => by cases q⟩
        · split
          · rename_i hr
            subst hr
            split
            · exact ⟨fun _ _ _ _ _ _ ⟨_, _, _, _, _, _, _, q, _⟩ => by cases q⟩
            · rename_i hs; exact pi_revop gl hm (by simpa using hs) (I.E C)
          · exact pi_itop (I.E C)
    · exact pi_itop (I.E C)
  · rename_i f p a b q
    split
    · rename_i h
      have gl := isG_gl C h.1
      have hm := C.fre f h.2.1
      have hr := h.2.2
      subst hr
      cases hs : isStar a with
      | true => rw [hns hs]; exact ⟨fun _ _ _ _ _ _ ⟨_, _, _, _, _, _, _, q, _⟩ => by cases q⟩
      | false =>
        cases hs2 : isStar b with
        | true =>
          rw [hns hs2]
          exact ⟨fun _ _ _ _ _ _ ⟨_, _, _, _, _, _, _, q, _⟩ => by
            obtain ⟨_, _, _, q⟩ := bind_ok q
            cases q⟩
        | false => exact pi_rng2op gl hm hs hs2 (I.E C) (I.E C)
    · split
      · rename_i h
        obtain ⟨h1, h2, h3, h4⟩ := h
        have gl := isG_gl C h1
        have hm := C.fre f h2
        subst h3
        have : isTup tg = true := by
          unfold itFits at hf
          simpa [isSet] using hf
        obtain ⟨s1, h5⟩ := noStar_cons h4
        obtain ⟨s2, _⟩ := noStar_cons h5
        cases tg <;> first | (cases this; done) | exact pi_zipop gl hm s1 s2 (I.E C) (I.E C)
      · exact pi_itop (I.E C)
  · rename_i f p a b c q
    split
    · rename_i h
      obtain ⟨h1, h2, h3, h4⟩ := h
      have gl := isG_gl C h1
      have hm := C.fre f h2
      subst h3
      exact pi_rng3op gl hm h4 (I.E C) (I.E C) (I.E C)
    · exact pi_itop (I.E C)
  · exact pi_itop (I.E C)
theorem exs_succ (I : ExS G F D n) : ExS G F D (n + 1) where
  E := fun C => e_succ I C
  E1 := fun C => e1_succ I C
  An := fun C => by
    unfold cAnd
    split
    · exact .no
    · exact pe_one (I.E C)
    · exact pe_andop (I.E C) (I.An C)
  Or := fun C => by
    unfold cOr
    split
    · exact .no
    · exact pe_one (I.E C)
    · exact pe_orop (I.E C) (I.Or C)
  Ps := fun C => by
    unfold cPs
    split
    · exact pps_nil
    · exact pps_cons (I.E C) (I.E C) (I.Ps C)
    · exact .no
  A := fun C => by
    unfold cA
    split
    · exact pa_nilop
    · split
      · exact .no
      · rename_i h; exact pa_consop (by simpa using h) (I.E C) (I.A C)
  Ks := fun {_ _ _ kws} C => by
    cases kws with
    | nil => exact pk_nilop
    | cons kw kws =>
      obtain ⟨nm, v, kp⟩ := kw
      rw [List.map_cons]
      unfold cA
      simp only
      split
      · exact .no
      · exact pk_consop (I.E C) (I.Ks C)
  Ifs := fun C => by
    unfold cIfs
    split
    · exact pts_nilop
    · exact pts_one (I.T C)
    · exact .no
  T := fun C => t_succ I C
  AnT := fun C => by
    unfold cAndT
    split
    · exact .no
    · exact pw_and1 (I.T C)
    · exact pw_andop (I.T C) (I.AnT C)
  OrT := fun C => by
    unfold cOrT
    split
    · exact .no
    · exact pw_or1 (I.T C)
    · exact pw_orop (I.T C) (I.OrT C)
  It := fun C h => it_succ I C h
theorem exs : ∀ n, ExS G F D n
  | 0 => exs_zero
  | n + 1 => exs_succ (exs n)
end
end EV

namespace EV
open PySem PySem.Spec PyProof.Rows L2
/-! ### statements: the text's walk is sound -/
section
variable {G : Glob} {F : Fenv} {D : Dx} {sc : Scope} {X : Cx} {n : Nat} {f : M Fl} {st : Stmt} {e tg : Expr} {pos : Pos}
theorem ps_keep (h : PS X st (rdS X.K f)) : PS X st (rdS X.K (cKeep D e f)) := by
  unfold cKeep
  split
  · exact h
  · exact ps_frzop h
theorem ps_keeps {es : List Expr} (h : PS X st (rdS X.K f)) : PS X st (rdS X.K (cKeeps D es f)) := by
  unfold cKeeps
  split
  · exact h
  · exact ps_frzop h
theorem sw_lc {gs : List Comprehension} {cs : Scope} {q p : Pos} {y : Str} {l : Nat} (hk : X.env.scope.kind = .function) (hsc : X.env.scope = sc) : swapsWith (.ListComp e gs cs q) (some (.Name y p)) l X.env = pure (lcSw sc y p cs q) := by
  have hb : X.env.blockKind = .function := by unfold Env.blockKind; rw [hk]; rfl
  have ky : X.env.kindOf y = sc.names.lookup y := by rw [← hsc]; rfl
  unfold swapsWith lcSw
  simp only [hb, ky, Expr.pos]
  rfl
theorem par_side {x y : Str} {p p' q q' : Pos} {a b : Expr} {k k' : Nat} {env : PySem.Env} (hk : env.scope.kind = .function) (hx : env.scope.names.lookup x = some .local) (hy : env.scope.names.lookup y = some .local) (hne : x ≠ y) (h : parOk p p' [a, b] = true) :
    swappedStores [.Tuple [.Name x p, .Name y p'] k q] (.Tuple [a, b] k' q') env = pure (some [x, y]) := by
  unfold parOk at h
  simp only [Bool.and_eq_true, decide_eq_true_eq, Bool.not_eq_true'] at h
  obtain ⟨⟨⟨h1, h2⟩, h3⟩, h4⟩ := h
  have hb : env.blockKind = .function := by unfold Env.blockKind; rw [hk]; rfl
  have kx : env.kindOf x = some .local := hx
  have ky : env.kindOf y = some .local := hy
  obtain ⟨s1, s2⟩ := noStar_cons h2
  obtain ⟨s2, _⟩ := noStar_cons s2
  have hst : ([a, b].any fun | .Starred .. => true | _ => false) = false := by
    cases a <;> first | (cases s1; done) | (cases b <;> first | rfl | cases s2)
  have hed : [x, y].eraseDups.length = 2 := by
    have : (y == x) = false := beq_false_of_ne (Ne.symm hne)
    simp [List.eraseDups_cons, this]
  unfold swappedStores
  simp only [hst, h3, h4, hb, List.filterMap, kx, ky, List.head?, Expr.pos, Option.map, Option.getD, h1]
  simp [hed]
  intro h
  rcases h with h | h
  · cases a <;> first | (cases s1; done) | cases h
  · cases b <;> first | (cases s2; done) | cases h
structure NmOk (sc : Scope) (D : Dx) (X : Cx) (y : Str) (j : Nat) : Prop where
  nd : X.N.Nodup
  ix : X.N[j]? = some y
  loc : Loc X.env.scope y
  fn : X.fn y = true ∨ X.env.scope.names.lookup y = some .local
theorem nm_ok (C : CxOk G F D sc X) {y : Str} {j : Nat} {k : NameKind} (hk : k = .local ∨ k = .cell) (h : sc.names.lookup y = some k) (hs : slotOf D.N y = some j) : NmOk sc D X y j := by
  refine ⟨by rw [C.N]; exact C.nd, (slot_ix C hs).1, ?_, ?_⟩
  · rcases hk with rfl | rfl
    · exact .inl (C.sk.loc _ h)
    · exact .inr (C.sk.cell _ h)
  · rcases hk with rfl | rfl
    · exact .inr (C.sk.loc _ h)
    · exact .inl (C.fnc _ h)
theorem cE_new (C : CxOk G F D sc X) {br : Bool} (h : isNew e = true) (hs : isShr D e = false) : PE X e (rdN X.K (cE G F D n br sc e)) := by
  cases n with
  | zero => unfold cE; exact .noN
  | succ n =>
    unfold cE shr
    rw [hs]
    exact pe_lkN (((exs n).E1 C).1 h)
theorem lc_set (C : CxOk G F D sc X) (hsc : X.env.scope = sc) {gs : List Comprehension} {cs : Scope} {q p : Pos} {y : Str} {j : Nat} (N : NmOk sc D X y j) (hs : isShr D (.ListComp e gs cs q) = false) (hlk : (lcSw sc y p cs q && ((lkOf D (.ListComp e gs cs q)).isSome || gs.length != 1)) = false) : PS X (.Assign [.Name y p] (.ListComp e gs cs q) pos) (rdS X.K (sSetF j (cE G F D n false sc (.ListComp e gs cs q)))) := by
  cases hw : lcSw sc y p cs q with
  | false => exact ps_setFop (ps_set N.nd N.ix N.loc (cE_new C rfl hs) (by rw [sw_lc C.kind hsc, hw]) N.fn)
  | true =>
    cases n with
    | zero => exact PS.no
    | succ n =>
      have hno : ∀ m, lkE D (.ListComp e gs cs q) m = m := fun m => by
        rw [hw, Bool.true_and] at hlk
        unfold lkE
        cases hl : lkOf D (.ListComp e gs cs q) with
        | none => rfl
        | some i => rw [hl] at hlk; simp at hlk
      unfold cE shr
      rw [hs, hno]
      cases n with
      | zero => exact PS.no
      | succ n =>
        by_cases hg : ∃ tg it ifs, gs = [⟨tg, it, ifs, 0⟩]
        · obtain ⟨tg, it, ifs, rfl⟩ := hg
          show PS X _ (rdS X.K (sSetF j (if itFits tg it = true ∧ blkC D.N sc cs ((tgNames 9 tg).map fun x => (x, D.N.idxOf x)) = true then mLc (cIt G F D n sc it) (cTg D cs 9 tg) (cIfs G F D n cs ifs) (cE G F D n false cs e) ((tgNames 9 tg).map fun x => D.N.idxOf x) else mBad)))
          split
          · rename_i h
            have I := exs (G := G) (F := F) (D := D) n
            have b := C.blkOk h.2
            have hm : ((tgNames 9 tg).map fun x => (x, D.N.idxOf x)).map (·.2) = (tgNames 9 tg).map fun x => D.N.idxOf x := by rw [List.map_map]; rfl
            have hset : isSet it = false := by
              have := h.1
              unfold itFits at this
              rw [Bool.and_eq_true] at this
              simpa using this.1
            have hyl : X.env.scope.names.lookup y = some .local := by
              unfold lcSw at hw
              simp only [Bool.and_eq_true] at hw
              rw [hsc]
              exact eq_of_beq hw.1.1
            refine ps_setFop ?_
            rw [← hm]
            exact ps_setLcop C.calm N.nd N.ix hyl (by rw [sw_lc C.kind hsc, hw]) (I.It C h.1) b (by rw [hm]; exact tg_bd 9 tg) (fun s H A cl fp => by rw [hm]; exact tg_pg (C.blk b s H A cl fp) 9 tg) (fun s H A cl fp => I.Ifs (C.blk b s H A cl fp)) (fun s H A cl fp => I.E (C.blk b s H A cl fp)) hset
          · exact PS.no
        · have hb : cE1 G F D (n + 1) false sc (.ListComp e gs cs q) = mBad := by
            rcases gs with _ | ⟨⟨tg, it, ifs, k⟩, _ | ⟨g2, gr⟩⟩
            · rfl
            · cases k with
              | ofNat k => cases k with
                | zero => exact absurd ⟨_, _, _, rfl⟩ hg
                | succ k => rfl
              | negSucc k => rfl
            · exfalso
              rw [hw] at hlk
              simp at hlk
          show PS X _ (rdS X.K (sSetF j (cE1 G F D (n + 1) false sc (.ListComp e gs cs q))))
          rw [hb]
          exact PS.no
theorem sw_dc {kx : Expr} {gs : List Comprehension} {cs : Scope} {q p : Pos} {y : Str} {l : Nat} (hk : X.env.scope.kind = .function) (hsc : X.env.scope = sc) : swapsWith (.DictComp kx e gs cs q) (some (.Name y p)) l X.env = pure (lcSw sc y p cs q) := by
  have hb : X.env.blockKind = .function := by unfold Env.blockKind; rw [hk]; rfl
  have ky : X.env.kindOf y = sc.names.lookup y := by rw [← hsc]; rfl
  unfold swapsWith lcSw
  simp only [hb, ky, Expr.pos]
  rfl
theorem dc_set (C : CxOk G F D sc X) (hsc : X.env.scope = sc) {kx : Expr} {gs : List Comprehension} {cs : Scope} {q p : Pos} {y : Str} {j : Nat} (N : NmOk sc D X y j) (hs : isShr D (.DictComp kx e gs cs q) = false) (hl : (gs.length != 1) = false) : PS X (.Assign [.Name y p] (.DictComp kx e gs cs q) pos) (rdS X.K (sSetF j (cE G F D n false sc (.DictComp kx e gs cs q)))) := by
  cases hw : lcSw sc y p cs q with
  | false => exact ps_setFop (ps_set N.nd N.ix N.loc (cE_new C rfl hs) (by rw [sw_dc C.kind hsc, hw]) N.fn)
  | true =>
    cases n with
    | zero => exact PS.no
    | succ n =>
      have hno : ∀ m, lkE D (.DictComp kx e gs cs q) m = m := fun m => rfl
      unfold cE shr
      rw [hs, hno]
      cases n with
      | zero => exact PS.no
      | succ n =>
        by_cases hg : ∃ tg it ifs, gs = [⟨tg, it, ifs, 0⟩]
        · obtain ⟨tg, it, ifs, rfl⟩ := hg
          show PS X _ (rdS X.K (sSetF j (if itFits tg it = true ∧ blkC D.N sc cs ((tgNames 9 tg).map fun x => (x, D.N.idxOf x)) = true then mDc (cIt G F D n sc it) (cTg D cs 9 tg) (cIfs G F D n cs ifs) (cE G F D n true cs kx) (cE G F D n false cs e) ((tgNames 9 tg).map fun x => D.N.idxOf x) else mBad)))
          split
          · rename_i h
            have I := exs (G := G) (F := F) (D := D) n
            have b := C.blkOk h.2
            have hm : ((tgNames 9 tg).map fun x => (x, D.N.idxOf x)).map (·.2) = (tgNames 9 tg).map fun x => D.N.idxOf x := by rw [List.map_map]; rfl
            have hset : isSet it = false := by
              have := h.1
              unfold itFits at this
              rw [Bool.and_eq_true] at this
              simpa using this.1
            have hyl : X.env.scope.names.lookup y = some .local := by
              unfold lcSw at hw
              simp only [Bool.and_eq_true] at hw
              rw [hsc]
              exact eq_of_beq hw.1.1
            refine ps_setFop ?_
            rw [← hm]
            exact ps_setDcop C.calm N.nd N.ix hyl (by rw [sw_dc C.kind hsc, hw]) (I.It C h.1) b (by rw [hm]; exact tg_bd 9 tg) (fun s H A cl fp => by rw [hm]; exact tg_pg (C.blk b s H A cl fp) 9 tg) (fun s H A cl fp => I.Ifs (C.blk b s H A cl fp)) (fun s H A cl fp => I.E (C.blk b s H A cl fp)) (fun s H A cl fp => I.E (C.blk b s H A cl fp)) hset
          · exact PS.no
        · have hb : cE1 G F D (n + 1) false sc (.DictComp kx e gs cs q) = mBad := by
            rcases gs with _ | ⟨⟨tg, it, ifs, k⟩, _ | ⟨g2, gr⟩⟩
            · rfl
            · cases k with
              | ofNat k => cases k with
                | zero => exact absurd ⟨_, _, _, rfl⟩ hg
                | succ k => rfl
              | negSucc k => rfl
            · exfalso
              simp at hl
          show PS X _ (rdS X.K (sSetF j (cE1 G F D (n + 1) false sc (.DictComp kx e gs cs q))))
          rw [hb]
          exact PS.no
theorem set_any (C : CxOk G F D sc X) {p : Pos} {y : Str} {j : Nat} (N : NmOk sc D X y j) (h1 : isSDC e = false) (h2 : isLCm e = false) : PS X (.Assign [.Name y p] e pos) (rdS X.K (if isNew e && !isShr D e then sSetF j (cE G F D n false sc e) else sSet j (cE G F D n false sc e))) := by
  have hsw : swapsWith e (some (.Name y p)) pos.line X.env = pure false := by cases e <;> first | rfl | (cases h1; done) | (cases h2; done)
  split
  · rename_i h
    simp only [Bool.and_eq_true, Bool.not_eq_true'] at h
    exact ps_setFop (ps_set N.nd N.ix N.loc (cE_new C h.1 h.2) hsw N.fn)
  · exact ps_setop (fun he => ps_set N.nd N.ix N.loc he hsw N.fn) ((exs n).E C)
theorem mt_items {m : Str} (h : mtOf m = .items) : m = "items" := by
  unfold mtOf at h
  repeat' split at h
  all_goals first | (cases h; done) | assumption
theorem itFits_set {it : Expr} (h : itFits tg it = true) : isSet it = false := by
  unfold itFits at h
  rw [Bool.and_eq_true] at h
  simpa using h.1
structure StS (G : Glob) (F : Fenv) (D : Dx) (n : Nat) : Prop where
  S : ∀ {sc X s}, CxOk G F D sc X → X.env.scope = sc → PS X s (rdS X.K (cS G F D sc n s))
  Ss : ∀ {sc X ss}, CxOk G F D sc X → X.env.scope = sc → PSs X ss (rdS X.K (cSs G F D sc n ss))
theorem s_succ (J : StS G F D n) (C : CxOk G F D sc X) (hsc : X.env.scope = sc) {s : Stmt} : PS X s (rdS X.K (cS G F D sc (n + 1) s)) := by
  have I := exs (G := G) (F := F) (D := D) n
  unfold cS
  split
  · exact ps_nextop ps_pass
  · exact ps_brkop
  · exact ps_cntop
  · exact ps_nextop ps_doc
  · rename_i x p m q es r _
    split
    · rename_i i h1 h2
      split
      · exact .no
      · rename_i h
        exact ps_keeps (ps_mutop ⟨rfl, rfl⟩ (pe_mutop C.hu (fun c q hq => C.mts c _ q hq) (by simpa using h) (name_tv C h1 h2) (name_mv C h1 h2) (I.A C) fun h => by rw [h]; exact cA_nil))
    · exact ps_keep (ps_dropop ⟨rfl, rfl⟩ (I.E C))
  · split
    · exact .no
    · rename_i h
      simp only [Bool.or_eq_true, not_or, Bool.not_eq_true] at h
      exact ps_keep (ps_dropop h (I.E C))
  · exact ps_retNop
  · exact ps_keep (ps_retop (I.E C))
  · rename_i y p e q
    split
    · rename_i k j h1 h2
      split
      · rename_i hk
        have N := nm_ok C hk h1 h2
        split
        · rename_i x p' m q' es r
          split
          · rename_i i h3 h4 h5
            split
            · exact .no
            · rename_i h
              exact ps_keeps (ps_mutYop (fun he => ps_set N.nd N.ix N.loc he rfl N.fn) (pe_mutop C.hu (fun c q hq => C.mts c _ q hq) (by simpa using h) (name_tv C h3 h4) (name_mv C h3 h4) (I.A C) fun h => by rw [h]; exact cA_nil))
          · exact ps_keep (ps_setop (fun he => ps_set N.nd N.ix N.loc he rfl N.fn) (I.E C))
        · rename_i e gs cs q'
          refine ps_keep ?_
          split
          · split
            · exact .no
            · rename_i hw
              exact ps_setop (fun he => ps_set N.nd N.ix N.loc he (by rw [sw_lc C.kind hsc, Bool.not_eq_true _ |>.mp hw]) N.fn) (I.E C)
          · rename_i hs
            split
            · exact .no
            · rename_i hlk
              exact lc_set C hsc N (by simpa using hs) (by simpa using hlk)
        · split
          · exact .no
          · rename_i h
            simp only [Bool.or_eq_true, not_or, Bool.not_eq_true] at h
            exact ps_keep (dc_set C hsc N h.1 h.2)
        · rename_i hx1 hx2 hx3
          split
          · exact .no
          · rename_i h
            exact ps_keep (set_any C N (by simpa using h) (by cases e <;> first | rfl | exact (hx2 _ _ _ _ rfl).elim))
      · exact .no
    · exact .no
  · rename_i x p y p' k q a b k' q' r
    split
    · rename_i i j h1 h2 h3 h4
      split
      · exact .no
      · rename_i h
        rw [not_or] at h
        obtain ⟨hij, hp⟩ := h
        have hp : parOk p p' [a, b] = true := by simpa using hp
        have hne : x ≠ y := fun z => by subst z; rw [h2] at h4; cases h4; exact hij rfl
        have N1 := nm_ok C (.inl rfl) h1 h2
        have N2 := nm_ok C (.inl rfl) h3 h4
        have hst : noStar [a, b] = true := by
          unfold parOk at hp
          simp only [Bool.and_eq_true] at hp
          exact hp.1.1.2
        obtain ⟨s1, s2⟩ := noStar_cons hst
        obtain ⟨s2, _⟩ := noStar_cons s2
        exact ps_keeps (ps_parop (fun ha => ps_par C.calm N1.nd N1.ix N2.ix hij (C.sk.loc _ h1) (C.sk.loc _ h3) ha (par_side C.kind (C.sk.loc _ h1) (C.sk.loc _ h3) hne hp)) s1 s2 (I.E C) (I.E C))
    · exact .no
  · rename_i es k p e q _
    split
    · exact .no
    · rename_i h
      simp only [Bool.or_eq_true, not_or, Bool.not_eq_true] at h
      obtain ⟨⟨h1, h2⟩, h3⟩ := h
      exact ps_keep (ps_asgop (fun he hg => ps_asg he hg (by cases e <;> first | rfl | (cases h1; done) | (cases h2; done) | (cases h3; done)) (by cases e <;> first | rfl | (cases h1; done) | (cases h2; done) | (cases h3; done))) (tg_bd 9 _) (I.E C) (tg_pg C 9 _))
  · rename_i x p i q e r
    split
    · exact .no
    · rename_i h
      simp only [Bool.or_eq_true, not_or, Bool.not_eq_true] at h
      obtain ⟨⟨h1, h2⟩, h3⟩ := h
      split
      · rename_i j h4 h5
        exact ps_keep (ps_putop C.hu h1 h2 h3 (name_tv C h4 h5) (I.E C) (I.E C) (I.E C))
      · exact .no
  · rename_i o i q e r _
    split
    · exact .no
    · rename_i h
      simp only [Bool.or_eq_true, not_or, Bool.not_eq_true] at h
      obtain ⟨⟨h1, h2⟩, h3⟩ := h
      exact ps_keeps (ps_putS C.hu h1 h2 h3 (I.E C) (I.E C) (I.E C))
  · rename_i o f q e r
    split
    · exact .no
    · rename_i h
      simp only [Bool.or_eq_true, not_or, Bool.not_eq_true] at h
      exact ps_keep (ps_fldop h.1 h.2 (fun c hc => C.fld c _ hc) (I.E C) (I.E C))
  · rename_i x p op e q
    split
    · rename_i i h1 h2
      have N := nm_ok C (.inl rfl) h1 h2
      exact ps_keep (ps_augop (fun he ho => ps_aug N.nd N.ix N.loc he ho N.fn) (I.E C))
    · rename_i i h1 h2
      have N := nm_ok C (.inr rfl) h1 h2
      exact ps_keep (ps_augop (fun he ho => ps_aug N.nd N.ix N.loc he ho N.fn) (I.E C))
    · exact .no
  · exact ps_keep (ps_ifop (I.T C) (J.Ss C hsc) (J.Ss C hsc))
  · rename_i tg o m p q body _
    split
    · rename_i hm
      have hm := mt_items hm
      subst hm
      split
      · exact .no
      · rename_i h
        have h : (isTup tg && methOk o p q []) = true := by simpa using h
        rw [Bool.and_eq_true] at h
        obtain ⟨ht, hok⟩ := h
        simp only [methOk, Bool.and_eq_true] at hok
        cases tg <;> first
          | (cases ht; done)
          | exact ps_forIop (ps_forop C.own C.calm (tg_bd 9 _) (pi_itemsop hok.1.1 hok.1.2 (I.E C)) (tg_pg C 9 _) (J.Ss C hsc) rfl)
    · exact ps_keep (ps_forop C.own C.calm (tg_bd 9 _) (I.It C rfl) (tg_pg C 9 _) (J.Ss C hsc) rfl)
  · rename_i tg it body _ _
    split
    · exact .no
    · rename_i h
      have h : itFits tg it = true := by simpa using h
      exact ps_keep (ps_forop C.own C.calm (tg_bd 9 _) (I.It C h) (tg_pg C 9 _) (J.Ss C hsc) (itFits_set h))
  · exact ps_keep (ps_whop C.own (I.T C) (J.Ss C hsc))
  · exact .no
theorem sts : ∀ n, StS G F D n
  | 0 => ⟨fun _ _ => by unfold cS; exact .no, fun _ _ => by unfold cSs; exact .no⟩
  | n + 1 => ⟨fun C hsc => s_succ (sts n) C hsc, fun C hsc => by
    unfold cSs
    split
    · exact pss_nilop
    · exact pss_oneop ((sts n).S C hsc)
    · exact pss_consop ((sts n).S C hsc) ((sts n).Ss C hsc)⟩
end
end EV

namespace EV
open PySem PySem.Spec PyProof.Rows L2
/-! ### defs, and the program -/
section
variable {K : PySem.W.Frag} {φ : List Addr} {Z Zo : Addr → Prop} {H : Hp} {S S' : Sto} {ws : List W} {vs : List V} {w : W} {b : M Fl} {N : List Str}
theorem start_w (i : Nat) (w : W) (h : (ws.map Sl.fr ++ List.replicate (N.length - ws.length) Sl.emp)[i]? = some (.ow w)) : False := by
  by_cases hi : i < (ws.map Sl.fr).length
  · rw [List.getElem?_append_left hi, List.getElem?_map] at h
    obtain ⟨y, _, h⟩ := Option.map_eq_some_iff.mp h
    cases h
  · rw [List.getElem?_append_right (by omega)] at h
    have := List.mem_of_getElem? h
    rw [List.mem_replicate] at this
    cases this.2
theorem start_rl (st : StOk K S φ (fun a => Zo a ∨ a ∈ φ) H) (h1 : ∀ a, a ∈ φ → ¬ Zo a) (h2 : ∀ a, Zo a → H a ≠ none) (r : RFs K φ (fun a => Zo a ∨ a ∈ φ) H ws vs) :
    Rl K ⟨φ, H, Zo⟩ (ws.map Sl.fr ++ List.replicate (N.length - ws.length) Sl.emp) S φ (L2.start N vs) H := by
  have z : ∀ {σ : L2.St} a, ZZ ⟨φ, H, Zo⟩ (ws.map Sl.fr ++ List.replicate (N.length - ws.length) Sl.emp) φ σ a → (Zo a ∨ a ∈ φ) := fun {σ} a h => by
    rcases h with h | h | ⟨i, w, h, _⟩
    · exact .inl h
    · exact .inr h
    · exact (start_w i w h).elim
  have L : ∀ {σ : L2.St}, Later φ (fun a => Zo a ∨ a ∈ φ) H φ (ZZ ⟨φ, H, Zo⟩ (ws.map Sl.fr ++ List.replicate (N.length - ws.length) Sl.emp) φ σ) H := fun {σ} => .less fun a h => z (σ := σ) a h
  refine ⟨st.mono L fun _ _ _ h => h, ?_, fun i w h => ?_, fun i w h => (start_w i w h).elim, fun i _ w _ _ h => (start_w i w h).elim, h1, h2, fun _ _ h => h, fun _ _ _ h => h, fun a h => .inl h, fun _ _ _ h => h⟩
  · unfold L2.start
    simp [r.len]
  · unfold L2.start
    by_cases hi : i < (ws.map Sl.fr).length
    · rw [List.getElem?_append_left hi, List.getElem?_map] at h
      obtain ⟨y, hy, h⟩ := Option.map_eq_some_iff.mp h
      cases h
      obtain ⟨v, hv, rv⟩ := r.get hy
      refine ⟨v, ?_, rv.mono L⟩
      rw [List.getElem?_append_left (by rw [List.length_map, ← r.len]; simpa using hi), List.getElem?_map, hv]
      rfl
    · rw [List.getElem?_append_right (by omega)] at h
      have := List.mem_of_getElem? h
      rw [List.mem_replicate] at this
      cases this.2
theorem body_ok {Q : VK} (st : StOk K S φ (fun a => Zo a ∨ a ∈ φ) H) (h1 : ∀ a, a ∈ φ → ¬ Zo a) (h2 : ∀ a, Zo a → H a ≠ none) (r : RFs K φ (fun a => Zo a ∨ a ∈ φ) H ws vs)
    (q : runB b N ws S = .ok w S') (k : ∀ φ' H' v, Ext φ H φ' H' → StOk K S' φ' (fun a => Zo a ∨ a ∈ φ') H' → RF K φ' (fun a => Zo a ∨ a ∈ φ') H' w v → Q v H') : rdS K b { nx := fun _ H' => Q .non H', rt := Q } (L2.start N vs) H := by
  refine ⟨⟨φ, H, Zo⟩, _, S, φ, start_rl (N := N) st h1 h2 r, ?_⟩
  unfold runB at q
  obtain ⟨fl, S1, e1, q⟩ := bind_ok q
  rw [e1]
  cases fl with
  | nx s =>
    cases q
    exact fun φ' σ' H' L R => (fun ⟨a, b, c⟩ => k φ' H' _ c a b) (ret_ok R .non)
  | rt w' =>
    cases q
    exact fun φ' H' v L ⟨a, b, c⟩ => k φ' H' v c a b
  | bk s => cases q
  | ct s => cases q
end
theorem fn_eq {G : Glob} {P : List (Str × DefI)} {d : Nat} {f : Str} {ws : List W} {S : Sto} {i : DefI} (e : P.lookup f = some i) : Fn G P (d + 1) f ws S = if ws.length = i.np then runB (cSs G (Fn G P d) i.dx i.sc 300 i.body) i.dx.N ws S else .bad := by
  conv => lhs; unfold Fn
  rw [e]
/-- all items -/
def Alls {α : Type} (P : α → Prop) : List α → Prop
  | [] => True
  | a :: l => P a ∧ Alls P l
theorem alls_nil {α : Type} {P : α → Prop} : Alls P [] := trivial
theorem alls_cons {α : Type} {P : α → Prop} {a : α} {l : List α} (h : P a) (t : Alls P l) : Alls P (a :: l) := ⟨h, t⟩
theorem Alls.mem {α : Type} {P : α → Prop} : ∀ {l : List α} {a : α}, Alls P l → a ∈ l → P a
  | b :: l, a, h, m => by
    rcases List.mem_cons.mp m with rfl | m
    · exact h.1
    · exact Alls.mem h.2 m
theorem lookup_mem {α β : Type} [BEq α] [LawfulBEq α] {k : α} {v : β} : ∀ {l : List (α × β)}, l.lookup k = some v → (k, v) ∈ l
  | [], h => by cases h
  | (a, b) :: l, h => by
    rw [List.lookup_cons] at h
    cases e : k == a with
    | true => rw [e] at h; cases h; rw [eq_of_beq e]; exact List.mem_cons_self ..
    | false => rw [e] at h; exact List.mem_cons_of_mem _ (lookup_mem h)
/-- where a def stands: its address, its object, its parameters -/
structure DefAt where
  ad : Addr
  fd : FuncData
  ps : List Str
/-- the def j of the table -/
structure DfK (K : PySem.W.Frag) (i : DefI) (d : DefAt) : Prop where
  ex : ∃ (x qual : Str) (params : Arguments) (kws : List (Str × V)), FunD K x qual params i.body i.sc [] kws d.ad d.fd
  sc : FnScope i.dx.N d.ps i.sc
  np : d.ps.length = i.np
def Dfs (K : PySem.W.Frag) : List (Str × DefI) → List DefAt → Prop
  | [], [] => True
  | p :: l, d :: ds => DfK K p.2 d ∧ Dfs K l ds
  | _, _ => False
theorem dfs_nil {K : PySem.W.Frag} : Dfs K [] [] := trivial
theorem dfs_cons {K : PySem.W.Frag} {p : Str × DefI} {l : List (Str × DefI)} {d : DefAt} {ds : List DefAt} (h : DfK K p.2 d) (t : Dfs K l ds) : Dfs K (p :: l) (d :: ds) := ⟨h, t⟩
theorem Dfs.get {K : PySem.W.Frag} : ∀ {l : List (Str × DefI)} {ds : List DefAt} {j : Nat} {p : Str × DefI} {d : DefAt}, Dfs K l ds → l[j]? = some p → ds[j]? = some d → DfK K p.2 d
  | [], _, _, _, _, _, e, _ => by simp at e
  | _ :: _, [], _, _, _, h, _, _ => h.elim
  | q :: l, c :: ds, 0, p, d, h, e, f => by simp at e f; subst e f; exact h.1
  | q :: l, c :: ds, j + 1, p, d, h, e, f => Dfs.get h.2 (by simpa using e) (by simpa using f)
theorem lookup_ix {α β : Type} [BEq α] [LawfulBEq α] : ∀ {l : List (α × β)} {j : Nat} {p : α × β}, (l.map (·.1)).Nodup → l[j]? = some p → l.lookup p.1 = some p.2
  | [], _, _, _, e => by simp at e
  | (a, b) :: l, 0, p, _, e => by simp at e; subst e; simp [List.lookup]
  | (a, b) :: l, j + 1, p, h, e => by
    rw [List.map_cons, List.nodup_cons] at h
    have e : l[j]? = some p := by simpa using e
    have hne : p.1 ≠ a := fun z => h.1 (by rw [← z]; exact List.mem_map.mpr ⟨p, List.mem_of_getElem? e, rfl⟩)
    rw [List.lookup_cons, beq_false_of_ne hne]
    exact lookup_ix h.2 e
structure ProgOk (K : PySem.W.Frag) (mg : Str → Option Value) (w : World) (G : Glob) (Pl : List (Str × DefI)) (ds : List DefAt) : Prop where
  df : Dfs K Pl ds
  nd : (Pl.map (·.1)).Nodup
  fre : Alls (fun (x : Str) => mg x = none) G.fre
  cst : Alls (fun (p : Str × W) => ∃ (v : V) (u : Value), RelV v u ∧ (∀ φ Z H, RF K φ Z H p.2 v) ∧ (mg p.1 = some u ∨ (mg p.1 = none ∧ bootBuiltins p.1 = some u ∧ p.1 ≠ "__name__")) ∧ (p.1 == ("__debug__" : Str)) = false) G.cst
  fns : Alls (fun (p : Str × FnI) => ∃ (j : Nat) (i : DefI) (d : DefAt), Pl[j]? = some (p.1, i) ∧ ds[j]? = some d ∧ mg p.1 = some (.ref d.ad) ∧ PySem.W.keepIn K (.ref d.ad) = true ∧ (p.1 == ("__debug__" : Str)) = false ∧
    ∃ (us : List Value) (dvs : List V), Binds K d.fd d.ps us ∧ Vals dvs us ∧ ∀ φ Z H, RFs K φ Z H (p.2.kw.map (·.2)) dvs) G.fns
  cls : Alls (fun (p : Str × Nat) => ∃ (j : Nat) (i : DefI) (d : DefAt), Pl[j]? = some (p.1 ++ ".__init__", i) ∧ ds[j]? = some d ∧ Mk K (He.ga K p.1) d.ad ∧ mg p.1 = some (.ref (He.ga K p.1)) ∧ (p.1 == ("__debug__" : Str)) = false ∧ Binds K d.fd d.ps []) G.cls
  mts : Alls (fun (p : (Str × Str) × Str) => ∃ (j : Nat) (i : DefI) (d : DefAt), Pl[j]? = some (p.2, i) ∧ ds[j]? = some d ∧ Cls K (He.ga K p.1.1) ∧ Meth K (He.ga K p.1.1) p.1.2 d.ad ∧ Binds K d.fd d.ps []) G.mts
  kwc : Alls (fun (p : (Str × List (Option Str)) × Nat × List (Nat ⊕ W)) => ∃ (j : Nat) (i : DefI) (d : DefAt), Pl[j]? = some (p.1.1, i) ∧ ds[j]? = some d ∧ mg p.1.1 = some (.ref d.ad) ∧ PySem.W.keepIn K (.ref d.ad) = true ∧ (p.1.1 == ("__debug__" : Str)) = false ∧
    ∃ (kn : List Str) (g : List Value → List Value → List Value) (gV : List V → List V → List V), p.1.2 = kn.map some ∧ KBn K d.fd d.ps p.2.1 kn g gV ∧ ∀ φ Z H ws vs us zs, RFs K φ Z H ws vs → RFs K φ Z H us zs → us.length = kn.length → RFs K φ Z H (ws ++ p.2.2.map (kwSel us)) (gV vs zs)) G.kwc
  fld : Alls (fun (p : Str × Str) => Cls K (He.ga K p.1) ∧ NoAttr K (He.ga K p.1) p.2) G.fld
  tbl : Alls (fun (p : Str × List (Str × W) × List Str) => TblK K w mg p.1 p.2) G.tbl
  dts : Alls (fun (p : Str × List (Str × W)) => DtsK K w mg p.1 p.2) G.dts
section
variable {P : Program} {w : World} {K : PySem.W.Frag} {mg : Str → Option Value} {base : Heap} {G : Glob} {Pl : List (Str × DefI)} {ds : List DefAt}
theorem fn_all (O : ProgOk K mg w G Pl ds) : ∀ (d : Nat) (j : Nat) (p : Str × DefI) (da : DefAt), Pl[j]? = some p → ds[j]? = some da → FnOk P w K mg base CX0 (2 * d + 1) da.ad da.fd da.ps (spF K (Fn G Pl d) p.1)
  | 0, j, p, da, h1, h2 => by
    obtain ⟨⟨x, qual, params, kws, F⟩, sc, np⟩ := O.df.get h1 h2
    exact F.ok (k := 0) sc (fun vs H Q E ⟨_, _, _, _, _, _, _, _, _, _, q, _⟩ => by cases q) fun cdv A outer s H vs Q E hr ⟨_, _, _, _, _, _, _, _, _, _, q, _⟩ => by cases q
  | d + 1, j, p, da, h1, h2 => by
    obtain ⟨⟨x, qual, params, kws, F⟩, sc, np⟩ := O.df.get h1 h2
    have lk := lookup_ix O.nd h1
    have un : ∀ {ws S w S'}, Fn G Pl (d + 1) p.1 ws S = .ok w S' → ws.length = p.2.np ∧ runB (cSs G (Fn G Pl d) p.2.dx p.2.sc 300 p.2.body) p.2.dx.N ws S = .ok w S' := fun {ws S w S'} q => by
      unfold Fn at q
      rw [lk] at q
      simp only at q
      split at q
      · rename_i h; exact ⟨h, q⟩
      · cases q
    refine F.ok (k := 2 * d + 2) sc (fun vs H Q E ⟨S, φ, Zo, ws, _, _, _, r, w, S', q, _⟩ => by rw [← r.len, np]; exact (un q).1) fun cdv A outer s H vs Q E hr ⟨S, φ, Zo, ws, st, z1, z2, r, w', S', q, k⟩ => ?_
    refine ⟨rdS K (cSs G (Fn G Pl d) p.2.dx p.2.sc 300 p.2.body), PSs.nox ?_, body_ok st z1 z2 r (un q).2 k⟩
    refine (sts 300).Ss (X := (cxOf CX0 P w K mg base p.2.dx.N qual p.2.sc da.ad cdv A outer s H E).nox) ?_ rfl
    exact {
      N := rfl
      nd := sc.nd
      sk := ScOk.refl
      kind := sc.kind
      calm := rfl
      hu := hr.units
      own := PassesOwn.never
      fnc := fun _ _ => rfl
      fre := fun x h => O.fre.mem (List.contains_iff_mem.mp h)
      cst := fun x w h => by
        obtain ⟨v, u, h1, h2, h3, h4⟩ := O.cst.mem (lookup_mem h)
        exact ⟨⟨v, u, h1, h2, h3⟩, h4⟩
      fns := fun f i h => by
        obtain ⟨j', i', d', h1, h2, h3, h4, h5, us, dvs, h6, h7, h8⟩ := O.fns.mem (lookup_mem h)
        exact ⟨⟨d'.ad, d'.fd, d'.ps, 2 * d + 1, us, dvs, fn_all O d j' _ d' h1 h2, hr.mono (by omega), h3, h4, h6, h7, h8⟩, h5⟩
      cls := fun c k h => by
        obtain ⟨j', i', d', h1, h2, h3, h4, h5, h6⟩ := O.cls.mem (lookup_mem h)
        exact ⟨⟨d'.ad, d'.fd, d'.ps, 2 * d + 1, h3, fn_all O d j' _ d' h1 h2, hr.mono (by omega), h4, h6⟩, h5⟩
      mts := fun c m q h => by
        obtain ⟨j', i', d', h1, h2, h3, h4, h5⟩ := O.mts.mem (lookup_mem h)
        exact ⟨⟨d'.ad, d'.fd, d'.ps, 2 * d + 1, h3, h4, fn_all O d j' _ d' h1 h2, hr.mono (by omega), h5⟩⟩
      kwc := fun f ks np ord h => by
        obtain ⟨j', i', d', h1, h2, h3, h4, h5, kn, g, gV, h6, h7, h8⟩ := O.kwc.mem (lookup_mem h)
        exact ⟨⟨d'.ad, d'.fd, d'.ps, 2 * d + 1, kn, g, gV, fn_all O d j' _ d' h1 h2, hr.mono (by omega), h3, h4, h6, h7, h8⟩, h5⟩
      fld := fun c f h => O.fld.mem (List.contains_iff_mem.mp h)
      tbl := fun x t h => ⟨(O.tbl.mem (lookup_mem h)).ex, (O.tbl.mem (lookup_mem h)).nd⟩
      dts := fun x t h => ⟨(O.dts.mem (lookup_mem h)).ex, (O.dts.mem (lookup_mem h)).nd⟩ }
/-- a table's values -/
def dvW : He.Dv → Option W
  | .non => some .non
  | .bl b => some (.bl b)
  | .int i => some (.int i)
  | .str s => some (.str s)
  | _ => none
theorem dvW_rf {x : He.Dv} {w : W} (h : dvW x = some w) : ∀ φ Z H, RF K φ Z H w (x.v K) := fun φ Z H => by
  cases x <;> simp only [dvW] at h <;> cases h
  · exact .non
  · exact .bl _
  · exact .int _
  · exact .str _
theorem tbl_vals {a : Addr} {l : List (Str × He.Dv)} {kvs : List (Str × W)} (h : He.valsB K a l = true) (e : kvs.map (fun q => (q.1, some q.2)) = l.map fun q => (q.1, dvW q.2)) :
    ∀ s y, (s, y) ∈ kvs → ∃ u v, PySem.W.nsIn K a s = some (some u) ∧ RelV v u ∧ ∀ φ Z H, RF K φ Z H y v := fun s y m => by
  have m1 : (s, some y) ∈ l.map fun q => (q.1, dvW q.2) := by
    rw [← e]
    exact List.mem_map.mpr ⟨(s, y), m, rfl⟩
  obtain ⟨q, hq, e1⟩ := List.mem_map.mp m1
  simp only [Prod.mk.injEq] at e1
  obtain ⟨u, hu, r⟩ := He.valsB_ok h hq
  exact ⟨u, q.2.v K, by rw [← e1.1]; exact hu, r, dvW_rf e1.2⟩
theorem tbl_nos {a : Addr} {l : List Str} (h : (l.all fun s => He.eqO (PySem.W.nsIn K a s) (some none)) = true) : ∀ s, s ∈ l → PySem.W.nsIn K a s = some none := fun s m => He.eqO_ok (List.all_eq_true.mp h s m)
/-- all keys of a dict of the top are among these -/
def keysB (K : PySem.W.Frag) (a : Addr) (ks : List Str) : Bool := match K.lookup a with
  | some ⟨_, _, .dict es _, _⟩ => es.toList.all fun e => match e.key with
    | .str x _ => ks.contains x
    | _ => false
  | _ => false
theorem keysB_no {a : Addr} {ks : List Str} {s : Str} (h : keysB K a ks = true) (hs : ks.contains s = false) : PySem.W.nsIn K a s = some none := by
  unfold keysB at h
  unfold PySem.W.nsIn
  split at h
  · rename_i es _ _ hl
    rw [List.all_eq_true] at h
    have h1 : es.toList.find? (·.key.isStr s) = none := List.find?_eq_none.mpr fun e he z => by
      have := h e he
      split at this
      · rename_i x t hx
        rw [hx] at z
        have z : (x == s) = true := z
        rw [beq_iff_eq] at z
        subst z
        rw [this] at hs; cases hs
      · cases this
    have h2 : es.toList.any (·.refKey) = false := by
      rw [List.any_eq_false]
      intro e he
      have := h e he
      split at this
      · rename_i x t hx
        simp [DictEntry.refKey, hx]
      · cases this
    rw [hl]
    simp only [h1, h2]
    rfl
  · cases h
theorem dts_no {s : Str} : ∀ {kvs : List (Str × W)}, kvs.lookup s = none → (kvs.map (·.1)).contains s = false
  | [], _ => rfl
  | (a, b) :: l, h => by
    rw [List.lookup_cons] at h
    rw [List.map_cons, List.contains_cons]
    cases e : s == a with
    | true => rw [e] at h; cases h
    | false => rw [e] at h; rw [Bool.false_or]; exact dts_no h
theorem dts_ok {w : World} {mg : Str → Option Value} {x : Str} {a : Addr} {es : Array DictEntry} {n : Nat} {l : List (Str × He.Dv)} {kvs : List (Str × W)} (D : KDict K w a es n) (hm : mg x = some (.ref a)) (h1 : He.valsB K a l = true) (e : kvs.map (fun q => (q.1, some q.2)) = l.map fun q => (q.1, dvW q.2))
    (h2 : keysB K a (kvs.map (·.1)) = true) (nd : (x == ("__debug__" : Str)) = false) : DtsK K w mg x kvs :=
  ⟨⟨a, es, n, D, hm, fun s y h => tbl_vals h1 e s y (tbl_mem h), fun s h => keysB_no h2 (dts_no h)⟩, nd⟩
/-- a tuple of the top has no dict -/
def tupD (K : PySem.W.Frag) (a : Addr) : Bool := match K.lookup a with
  | some ⟨_, none, _, _⟩ => true
  | _ => false
theorem tup_rf {a : Addr} {vs : List V} {ws : List W} (h : ∀ H, SqT K H a vs) (hd : tupD K a = true) (r : ∀ φ Z H, RFs K φ Z H ws vs) : ∀ φ Z H, RF K φ Z H (.tup ws) (.ref a) := fun φ Z H => by
  refine .tup (.inr ?_) (r φ Z H)
  rcases h (fun _ => none) with (h | ⟨o, h⟩) | ⟨o, its, n, h1, h2, h3⟩
  · cases h
  · cases h
  · refine ⟨o, its, n, h1, h2, ?_, h3⟩
    unfold tupD at hd
    rw [h1] at hd
    obtain ⟨c, d, dt, sl⟩ := o
    cases d with
    | none => rfl
    | some d => cases hd
/-- the law's own promise -/
theorem law_sp {H : Hp} {a : Addr} {ns : List Int} {F : Fenv} {f : Str} (hO : Only H) (hS : SqL K H a (ns.map V.int)) {S' : Sto} (h : F f [.scr (ns.map W.int)] [] = .ok (.bl true) S') : spF K F f [.ref a] H (fun v _ => v = .bl true) fun _ _ _ => False := by
  refine ⟨[], [], fun _ => False, [.scr (ns.map W.int)], ⟨rfl, List.nodup_nil, fun n ob a h => by simp at h⟩, fun _ _ h => h, fun _ h => h.elim, .cons (.scr (sqz_of hO hS (by simp)) ?_) .nil, _, _, h, fun φ' H' v _ _ r => ?_⟩
  · clear h hS
    induction ns with
    | nil => exact .nil
    | cons n ns ih => exact .cons (.int n) ih
  · cases r; rfl
end
end EV

namespace R
open PySem PySem.Spec PyProof.Rows L2
/-! ### the head's hook: facts, defs, tables with text keys, one more Bool -/
open He in
def obsRG (n : Nat) (fa : List Fa) (fn : List DefD) (ts : List Tab) (xb : PySem.W.Frag → Bool) (g : Addr → Option Obj) : AlT × Bool := (obsT fa fn ts (frG g (asD g n)), xb (frG g (asD g n)))
open He in
def hookR (n : Nat) (fa : List Fa) (fn : List DefD) (ts : List Tab) (xb : PySem.W.Frag → Bool) : PySem.W.Hook where
  α := AlT × Bool
  obs := fun s => obsRG n fa fn ts xb s.heap.get?
  val := fun w => (valT fn ts w, true)
  says := fun w h => ∃ K : PySem.W.Frag, K.In h ∧ SaysT fa fn ts w K ∧ xb K = true
  of := fun _ _ e => ⟨_, frG_in, congrArg Prod.fst e, congrArg Prod.snd e⟩
  keeps := fun _ _ _ ⟨K, hK, c⟩ k => ⟨K, PySem.W.Frag.In.keeps hK k, c⟩
theorem obsRG_eq {n : Nat} {fa : List He.Fa} {fn : List He.DefD} {ts : List He.Tab} {xb : PySem.W.Frag → Bool} {g : Addr → Option Obj} {s : Shared} (h : ∀ a, g a = s.heap.get? a) : obsRG n fa fn ts xb g = (hookR n fa fn ts xb).obs s := by
  have e : g = s.heap.get? := funext h
  rw [e] <;> rfl
/-! ### keywords -/
/-- one value, as a list -/
def seg {α : Type} (i : Nat) (xs : List α) : List α := (xs.drop i).take 1
theorem vals_seg {i : Nat} {vs : List V} {us : List Value} (h : Vals vs us) : Vals (seg i vs) (seg i us) := EV.Vals.take1 (h.drop i)
theorem rf_seg {K : PySem.W.Frag} {φ : List Addr} {Z : Addr → Prop} {H : Hp} {i : Nat} {ws : List EV.W} {vs : List V} (h : EV.RFs K φ Z H ws vs) (hi : i < ws.length) : EV.RFs K φ Z H [ws.getD i .non] (seg i vs) := by
  have e : [ws.getD i .non] = (ws.drop i).take 1 := by
    rw [List.getD_eq_getElem?_getD, List.getElem?_eq_getElem hi, ← List.getElem_cons_drop hi]
    rfl
  rw [e]
  exact (h.drop i).take 1
end R

namespace EV
open PySem PySem.Spec PyProof.Rows L2
/-- text literals differ as their letters do -/
theorem str_lit {a b : String} : ((Str.ofString a) = (Str.ofString b)) = (a = b) := by
  apply propext
  constructor
  · intro h
    rw [Str.ofString_eq_toList, Str.ofString_eq_toList] at h
    have h := congrArg Str.cps h
    have h : (a.toList.map Char.toNat) = (b.toList.map Char.toNat) := by simpa using h
    have inj : ∀ (l m : List Char), l.map Char.toNat = m.map Char.toNat → l = m := by
      intro l
      induction l with
      | nil => intro m h; cases m with
        | nil => rfl
        | cons _ _ => simp at h
      | cons c l ih => intro m h; cases m with
        | nil => simp at h
        | cons d m =>
          simp only [List.map_cons, List.cons.injEq] at h
          obtain ⟨h1, h2⟩ := h
          have : c = d := by
            apply Char.ext
            apply UInt32.toNat_inj.mp
            exact h1
          rw [this, ih m h2]
    exact String.toList_inj.mp (inj _ _ h)
  · intro h; rw [h]
/-! ### the steps, with continuations that have names (simp does not look into them before their time) -/
section
variable {α β : Type} {a b c : M W} {la lb : M (List W)} {ta tb : M Bool} {f g : M Fl} {σ σ1 : Sls} {S S1 : Sto} {x y w v : W} {ws xs : List W} {F : Fenv} {nm : Str} {i n : Nat}
theorem r_ok {x : α} {k : α → Sto → Res β} : (Res.ok x S).bind k = k x S := rfl
theorem r_some {x : α} : olift (some x) S = .ok x S := rfl
def varK (S : Sto) : Option Sl → Res W
  | some (.fr w) => .ok w S
  | _ => .bad
theorem r_var : mVar i σ S = varK S (σ[i]?) := by unfold mVar varK; rfl
theorem r_varK : varK S (some (.fr w)) = .ok w S := rfl
def varBK (S : Sto) : Option Sl → Res W
  | some (.fr w) => .ok w S
  | some (.ow w) => .ok w S
  | _ => .bad
theorem r_varB : mVarB i σ S = varBK S (σ[i]?) := by unfold mVarB varBK; rfl
theorem r_varBf : varBK S (some (.fr w)) = .ok w S := rfl
theorem r_varBo : varBK S (some (.ow w)) = .ok w S := rfl
theorem r_c : mC w σ S = .ok w S := rfl
def binG (op : Operator) (x : W) : W → Sto → Res W := fun y S2 => olift (wbin op (vw S2 x) (vw S2 y)) S2
def binF (op : Operator) (b : M W) (σ : Sls) : W → Sto → Res W := fun x S1 => (b σ S1).bind (binG op x)
theorem r_bin {op : Operator} : mBin op a b σ S = (a σ S).bind (binF op b σ) := rfl
theorem r_binF {op : Operator} : binF op b σ x S = (b σ S).bind (binG op x) := rfl
theorem r_binG {op : Operator} : binG op x y S = olift (wbin op (vw S x) (vw S y)) S := rfl
def unF (op : UnaryOp) : W → Sto → Res W := fun x S1 => olift (wun op x) S1
theorem r_un {op : UnaryOp} : mUn op a σ S = (a σ S).bind (unF op) := rfl
theorem r_unF {op : UnaryOp} : unF op x S = olift (wun op x) S := rfl
def cmpG (op : CmpOp) (x : W) : W → Sto → Res W := fun y S2 => olift ((wcmp op (vw S2 x) (vw S2 y)).map .bl) S2
def cmpF (op : CmpOp) (b : M W) (σ : Sls) : W → Sto → Res W := fun x S1 => (b σ S1).bind (cmpG op x)
theorem r_cmp {op : CmpOp} : mCmp op a b σ S = (a σ S).bind (cmpF op b σ) := rfl
theorem r_cmpF {op : CmpOp} : cmpF op b σ x S = (b σ S).bind (cmpG op x) := rfl
theorem r_cmpG {op : CmpOp} : cmpG op x y S = olift ((wcmp op (vw S x) (vw S y)).map .bl) S := rfl
def cmtG (op : CmpOp) (x : W) : W → Sto → Res Bool := fun y S2 => olift (wcmp op (vw S2 x) (vw S2 y)) S2
def cmtF (op : CmpOp) (b : M W) (σ : Sls) : W → Sto → Res Bool := fun x S1 => (b σ S1).bind (cmtG op x)
theorem r_cmt {op : CmpOp} : mCmpT op a b σ S = (a σ S).bind (cmtF op b σ) := rfl
theorem r_cmtF {op : CmpOp} : cmtF op b σ x S = (b σ S).bind (cmtG op x) := rfl
theorem r_cmtG {op : CmpOp} : cmtG op x y S = olift (wcmp op (vw S x) (vw S y)) S := rfl
def truF : W → Sto → Res Bool := fun x S1 => olift (wtru (vw S1 x)) S1
theorem r_tru : mTru a σ S = (a σ S).bind truF := rfl
theorem r_truF : truF x S = olift (wtru (vw S x)) S := rfl
def notF : Bool → Sto → Res Bool := fun b S1 => .ok (!b) S1
theorem r_not : mNotT ta σ S = (ta σ S).bind notF := rfl
theorem r_notF {b : Bool} : notF b S = .ok (!b) S := rfl
def andF (b : M Bool) (σ : Sls) : Bool → Sto → Res Bool := fun x S1 => if x then b σ S1 else .ok false S1
theorem r_and : mAnd ta tb σ S = (ta σ S).bind (andF tb σ) := rfl
theorem r_andT : andF tb σ true S = tb σ S := rfl
theorem r_andN : andF tb σ false S = .ok false S := rfl
def orF (b : M Bool) (σ : Sls) : Bool → Sto → Res Bool := fun x S1 => if x then .ok true S1 else b σ S1
theorem r_or : mOr ta tb σ S = (ta σ S).bind (orF tb σ) := rfl
theorem r_orT : orF tb σ true S = .ok true S := rfl
theorem r_orN : orF tb σ false S = tb σ S := rfl
def valF : Bool → Sto → Res W := fun b S1 => .ok (.bl b) S1
theorem r_val : mVal ta σ S = (ta σ S).bind valF := rfl
theorem r_valF {b : Bool} : valF b S = .ok (.bl b) S := rfl
def avG (b : M W) (σ : Sls) (x : W) (S1 : Sto) : Option Bool → Res W
  | some true => b σ S1
  | some false => .ok x S1
  | none => .bad
def avF (b : M W) (σ : Sls) : W → Sto → Res W := fun x S1 => avG b σ x S1 (wtru (vw S1 x))
theorem r_av : mAndV a b σ S = (a σ S).bind (avF b σ) := by
  unfold mAndV avF avG; rfl
theorem r_avF : avF b σ x S = avG b σ x S (wtru (vw S x)) := rfl
theorem r_avT : avG b σ x S (some true) = b σ S := rfl
theorem r_avN : avG b σ x S (some false) = .ok x S := rfl
def ovG (b : M W) (σ : Sls) (x : W) (S1 : Sto) : Option Bool → Res W
  | some true => .ok x S1
  | some false => b σ S1
  | none => .bad
def ovF (b : M W) (σ : Sls) : W → Sto → Res W := fun x S1 => ovG b σ x S1 (wtru (vw S1 x))
theorem r_ov : mOrV a b σ S = (a σ S).bind (ovF b σ) := by
  unfold mOrV ovF ovG; rfl
theorem r_ovF : ovF b σ x S = ovG b σ x S (wtru (vw S x)) := rfl
theorem r_ovT : ovG b σ x S (some true) = .ok x S := rfl
theorem r_ovN : ovG b σ x S (some false) = b σ S := rfl
def ifF (a b : M W) (σ : Sls) : Bool → Sto → Res W := fun x S1 => if x then a σ S1 else b σ S1
theorem r_ife : mIfE ta a b σ S = (ta σ S).bind (ifF a b σ) := rfl
theorem r_ifT : ifF a b σ true S = a σ S := rfl
theorem r_ifN : ifF a b σ false S = b σ S := rfl
theorem r_nil : mNil σ S = .ok [] S := rfl
def consG (x : W) : List W → Sto → Res (List W) := fun xs S2 => .ok (x :: xs) S2
def consF (b : M (List W)) (σ : Sls) : W → Sto → Res (List W) := fun x S1 => (b σ S1).bind (consG x)
theorem r_cons : mCons a lb σ S = (a σ S).bind (consF lb σ) := rfl
theorem r_consF : consF lb σ x S = (lb σ S).bind (consG x) := rfl
theorem r_consG : consG x xs S = .ok (x :: xs) S := rfl
def tupF : List W → Sto → Res W := fun xs S1 => if xs.length ≤ LIM then .ok (.tup xs) S1 else .bad
theorem r_tup : mTup la σ S = (la σ S).bind tupF := rfl
theorem r_tupF : tupF xs S = if xs.length ≤ LIM then .ok (.tup xs) S else .bad := rfl
def lstF : List W → Sto → Res W := fun xs S1 => if xs.length ≤ LIM then .ok (.lst xs) S1 else .bad
theorem r_lst : mLst la σ S = (la σ S).bind lstF := rfl
theorem r_lstF : lstF xs S = if xs.length ≤ LIM then .ok (.lst xs) S else .bad := rfl
def locF : W → Sto → Res W := fun w S1 => match w with
  | .lst xs => .ok (.loc S1.length) (S1 ++ [.lst xs])
  | .dct kvs => .ok (.loc S1.length) (S1 ++ [.dct kvs])
  | _ => .bad
theorem r_loc : mToLoc a σ S = (a σ S).bind locF := rfl
theorem r_locL : locF (.lst xs) S = .ok (.loc S.length) (S ++ [.lst xs]) := rfl
theorem r_locD {kvs : List (Key × W)} : locF (.dct kvs) S = .ok (.loc S.length) (S ++ [.dct kvs]) := rfl
theorem r_newd : mNewD σ S = .ok (.dct []) S := rfl
def ixG (x : W) : W → Sto → Res W := fun i S2 => olift (wix (vwz S2 x) i) S2
def ixF (b : M W) (σ : Sls) : W → Sto → Res W := fun x S1 => (b σ S1).bind (ixG x)
theorem r_ix : mIx a b σ S = (a σ S).bind (ixF b σ) := rfl
theorem r_ixF : ixF b σ x S = (b σ S).bind (ixG x) := rfl
theorem r_ixG : ixG x y S = olift (wix (vwz S x) y) S := rfl
def fldG (fn : Str) (ok : Str → Bool) (S1 : Sto) : Option Ob → Res W
  | some (.ins c fs) => if ok c then olift (fs.lookup fn) S1 else .bad
  | _ => .bad
def fldF (fn : Str) (ok : Str → Bool) : W → Sto → Res W := fun x S1 => match x with
  | .loc n => fldG fn ok S1 (S1[n]?)
  | _ => .bad
theorem r_fld {ok : Str → Bool} : mFld a nm ok σ S = (a σ S).bind (fldF nm ok) := by
  unfold mFld fldF fldG; rfl
theorem r_fldF {ok : Str → Bool} : fldF nm ok (.loc n) S = fldG nm ok S (S[n]?) := rfl
theorem r_fldG {ok : Str → Bool} {c : Str} {fs : List (Str × W)} : fldG nm ok S (some (.ins c fs)) = if ok c then olift (fs.lookup nm) S else .bad := rfl
def bltF (bf : Bf) : List W → Sto → Res W := fun xs S1 => olift (wblt bf (xs.map (vwz S1))) S1
theorem r_blt {bf : Bf} : mBlt bf la σ S = (la σ S).bind (bltF bf) := rfl
theorem r_bltF {bf : Bf} : bltF bf xs S = olift (wblt bf (xs.map (vwz S))) S := rfl
def callF (F : Fenv) (fn : Str) (more : List W) : List W → Sto → Res W := fun xs S1 => F fn (xs ++ more) S1
theorem r_call {more : List W} : mCall F nm la more σ S = (la σ S).bind (callF F nm more) := rfl
theorem r_callF {more : List W} : callF F nm more xs S = F nm (xs ++ more) S := rfl
def ckG (F : Fenv) (fn : Str) (ord : List (Nat ⊕ W)) (xs : List W) : List W → Sto → Res W := fun us S2 => F fn (xs ++ ord.map (kwSel us)) S2
def ckF (F : Fenv) (fn : Str) (k : M (List W)) (ord : List (Nat ⊕ W)) (σ : Sls) : List W → Sto → Res W := fun xs S1 => (k σ S1).bind (ckG F fn ord xs)
theorem r_callK {ord : List (Nat ⊕ W)} : mCallK F nm la lb ord σ S = (la σ S).bind (ckF F nm lb ord σ) := rfl
theorem r_ckF {ord : List (Nat ⊕ W)} : ckF F nm lb ord σ xs S = (lb σ S).bind (ckG F nm ord xs) := rfl
theorem r_ckG {ord : List (Nat ⊕ W)} : ckG F nm ord xs ws S = F nm (xs ++ ord.map (kwSel ws)) S := rfl
def makG (l : Nat) : W → Sto → Res W := fun w S2 => match w with
  | .non => .ok (.loc l) S2
  | _ => .bad
def makF (F : Fenv) (c ini : Str) : List W → Sto → Res W := fun xs S1 => (F ini (.loc S1.length :: xs) (S1 ++ [.ins c []])).bind (makG S1.length)
theorem r_make {ini : Str} : mMake F nm ini la σ S = (la σ S).bind (makF F nm ini) := rfl
theorem r_makF {ini : Str} : makF F nm ini xs S = (F ini (.loc S.length :: xs) (S ++ [.ins nm []])).bind (makG S.length) := rfl
theorem r_makG {l : Nat} : makG l .non S = .ok (.loc l) S := rfl
def metF (F : Fenv) (own : Str → Option Str) (m : Mt) (fn : Str) (a : M (List W)) (σ : Sls) : W → Sto → Res W := fun w S1 => goMeth F own m fn w (a σ) S1
theorem r_meth {own : Str → Option Str} {m : Mt} : mMeth F own m nm a la σ S = (a σ S).bind (metF F own m nm la σ) := rfl
theorem r_metF {own : Str → Option Str} {m : Mt} : metF F own m nm la σ x S = goMeth F own m nm x (la σ) S := rfl
/-! ### statements -/
def seqF (b : M Fl) : Fl → Sto → Res Fl := fun fl S1 => match fl with
  | .nx σ1 => b σ1 S1
  | fl => .ok fl S1
theorem r_seq : sSeq f g σ S = (f σ S).bind (seqF g) := rfl
theorem r_seqN : seqF g (.nx σ) S = g σ S := rfl
theorem r_seqR : seqF g (.rt w) S = .ok (.rt w) S := rfl
theorem r_seqB : seqF g (.bk σ) S = .ok (.bk σ) S := rfl
theorem r_seqC : seqF g (.ct σ) S = .ok (.ct σ) S := rfl
theorem r_next : sNext σ S = .ok (.nx σ) S := rfl
theorem r_brk : sBrk σ S = .ok (.bk σ) S := rfl
theorem r_cnt : sCnt σ S = .ok (.ct σ) S := rfl
def dropF (σ : Sls) : W → Sto → Res Fl := fun _ S1 => .ok (.nx σ) S1
theorem r_drop : sDrop a σ S = (a σ S).bind (dropF σ) := rfl
theorem r_dropF : dropF σ x S = .ok (.nx σ) S := rfl
def retF : W → Sto → Res Fl := fun w S1 => .ok (.rt w) S1
theorem r_ret : sRet a σ S = (a σ S).bind retF := rfl
theorem r_retF : retF w S = .ok (.rt w) S := rfl
theorem r_retN : sRetN σ S = .ok (.rt .non) S := rfl
def setOF (i : Nat) (σ : Sls) : W → Sto → Res Fl := fun w S1 => .ok (.nx (σ.set i (mkOwn w))) S1
theorem r_setO : sSetF i a σ S = (a σ S).bind (setOF i σ) := rfl
theorem r_setOF : setOF i σ w S = .ok (.nx (σ.set i (mkOwn w))) S := rfl
def setK (i : Nat) (σ : Sls) : W → Sto → Res Fl := fun w S1 => .ok (.nx (σ.set i (.fr w))) S1
theorem r_set : sSet i a σ S = (a σ S).bind (setK i σ) := rfl
theorem r_setK : setK i σ w S = .ok (.nx (σ.set i (.fr w))) S := rfl
def asgG : Sls → Sto → Res Fl := fun σ1 S2 => .ok (.nx σ1) S2
def asgF (bd : W → M Sls) (σ : Sls) : W → Sto → Res Fl := fun w S1 => (bd w σ S1).bind asgG
theorem r_asg {bd : W → M Sls} : sAsg a bd σ S = (a σ S).bind (asgF bd σ) := rfl
theorem r_asgF {bd : W → M Sls} : asgF bd σ w S = (bd w σ S).bind asgG := rfl
theorem r_asgG : asgG σ S = .ok (.nx σ) S := rfl
def sifF (f g : M Fl) (σ : Sls) : Bool → Sto → Res Fl := fun x S1 => if x then f σ S1 else g σ S1
theorem r_if : sIf ta f g σ S = (ta σ S).bind (sifF f g σ) := rfl
theorem r_sifT : sifF f g σ true S = f σ S := rfl
theorem r_sifN : sifF f g σ false S = g σ S := rfl
def forF (bd : W → M Sls) (body : M Fl) (σ : Sls) : List W → Sto → Res Fl := fun ws S1 => forL bd body ws σ S1
theorem r_for {bd : W → M Sls} : sFor la bd f σ S = (la σ S).bind (forF bd f σ) := rfl
theorem r_forF {bd : W → M Sls} : forF bd f σ ws S = forL bd f ws σ S := rfl
def forH (bd : W → M Sls) (body : M Fl) (ws : List W) : Fl → Sto → Res Fl := fun fl S2 => match fl with
  | .nx σ2 => forL bd body ws σ2 S2
  | .ct σ2 => forL bd body ws σ2 S2
  | .bk σ2 => .ok (.nx σ2) S2
  | .rt w => .ok (.rt w) S2
def forG (bd : W → M Sls) (body : M Fl) (ws : List W) : Sls → Sto → Res Fl := fun σ1 S1 => (body σ1 S1).bind (forH bd body ws)
theorem r_forN {bd : W → M Sls} : forL bd f [] σ S = .ok (.nx σ) S := rfl
theorem r_forC {bd : W → M Sls} : forL bd f (w :: ws) σ S = (bd w σ S).bind (forG bd f ws) := by
  unfold forG forH; rfl
theorem r_forG {bd : W → M Sls} : forG bd f ws σ S = (f σ S).bind (forH bd f ws) := rfl
theorem r_forHn {bd : W → M Sls} : forH bd f ws (.nx σ) S = forL bd f ws σ S := rfl
theorem r_forHc {bd : W → M Sls} : forH bd f ws (.ct σ) S = forL bd f ws σ S := rfl
theorem r_forHb {bd : W → M Sls} : forH bd f ws (.bk σ) S = .ok (.nx σ) S := rfl
theorem r_forHr {bd : W → M Sls} : forH bd f ws (.rt w) S = .ok (.rt w) S := rfl
theorem r_bname : bName i w σ S = .ok (σ.set i (.fr w)) S := rfl
def rng1F : W → Sto → Res (List W) := fun x S1 => match x with
  | .int j => if in62 j then .ok (rngW 0 j.toNat) S1 else .bad
  | _ => .bad
theorem r_rng1 : mRng1 a σ S = (a σ S).bind rng1F := by unfold rng1F; rfl
theorem r_rng1F {j : Int} (h : in62 j) : rng1F (.int j) S = .ok (rngW 0 j.toNat) S := if_pos h
def itF : W → Sto → Res (List W) := fun x S1 => match x with
  | .lst xs => .ok xs S1
  | .tup xs => .ok xs S1
  | .scr xs => .ok xs S1
  | .str s => .ok (s.cps.toList.map fun c => .str ⟨#[c]⟩) S1
  | .loc n => match S1[n]? with
    | some (.frz xs) => .ok xs S1
    | _ => .bad
  | _ => .bad
theorem r_it : mIt a σ S = (a σ S).bind itF := by unfold itF; rfl
theorem r_itL : itF (.lst xs) S = .ok xs S := rfl
theorem r_itT : itF (.tup xs) S = .ok xs S := rfl
def runF : Fl → Sto → Res W := fun fl S1 => match fl with
  | .nx _ => .ok .non S1
  | .rt w => .ok w S1
  | _ => .bad
theorem r_run {N : List Str} : runB f N ws S = (f (ws.map Sl.fr ++ List.replicate (N.length - ws.length) .emp) S).bind runF := by unfold runF; rfl
theorem r_runN : runF (.nx σ) S = .ok .non S := rfl
theorem r_runR : runF (.rt w) S = .ok w S := rfl
theorem r_frz {is : List Nat} : sFrz is f σ S = f (frz σ is) S := rfl
/-! ### more statements -/
def parG (i j : Nat) (σ : Sls) (x : W) : W → Sto → Res Fl := fun y S2 => .ok (.nx ((σ.set i (.fr x)).set j (.fr y))) S2
def parF (i j : Nat) (b : M W) (σ : Sls) : W → Sto → Res Fl := fun x S1 => (b σ S1).bind (parG i j σ x)
theorem r_par {j : Nat} : sPar i j a b σ S = (a σ S).bind (parF i j b σ) := rfl
theorem r_parF {j : Nat} : parF i j b σ x S = (b σ S).bind (parG i j σ x) := rfl
theorem r_parG {j : Nat} : parG i j σ x y S = .ok (.nx ((σ.set i (.fr x)).set j (.fr y))) S := rfl
def poH (n : Nat) (xs : List W) (σ : Sls) (v : W) (S : Sto) : Option Nat → Res Fl
  | some j => .ok (.nx (σ.set n (.ow (.lst (xs.set j v))))) S
  | none => .bad
def poD (n : Nat) (kvs : List (Key × W)) (σ : Sls) (v : W) (S : Sto) : Option Key → Res Fl
  | some k => if kvs.length < LIM then .ok (.nx (σ.set n (.ow (.dct (dput kvs k v))))) S else .bad
  | none => .bad
def poG (n : Nat) (w : W) (σ : Sls) (v : W) : W → Sto → Res Fl := fun i S2 => match w with
  | .lst xs => match i with
    | .int k => poH n xs σ v S2 (ixN xs.length k)
    | _ => .bad
  | .dct kvs => poD n kvs σ v S2 (wkey i)
  | _ => .bad
def poF (n : Nat) (w : W) (ix : M W) (σ : Sls) : W → Sto → Res Fl := fun v S1 => (ix σ S1).bind (poG n w σ v)
theorem r_po : putOwn n w a b σ S = (b σ S).bind (poF n w a σ) := by unfold putOwn poF poG poH poD; rfl
theorem r_poF : poF n w a σ v S = (a σ S).bind (poG n w σ v) := rfl
theorem r_poGl {k : Int} : poG n (.lst xs) σ v (.int k) S = poH n xs σ v S (ixN xs.length k) := rfl
theorem r_poGd {kvs : List (Key × W)} : poG n (.dct kvs) σ v x S = poD n kvs σ v S (wkey x) := rfl
theorem r_poH {j : Nat} : poH n xs σ v S (some j) = .ok (.nx (σ.set n (.ow (.lst (xs.set j v))))) S := rfl
theorem r_poD {kvs : List (Key × W)} {k : Key} : poD n kvs σ v S (some k) = if kvs.length < LIM then .ok (.nx (σ.set n (.ow (.dct (dput kvs k v))))) S else .bad := rfl
def psL (σ : Sls) (v : W) (n : Nat) (xs : List W) (S : Sto) : Option Nat → Res Fl
  | some j => .ok (.nx σ) (S.set n (.lst (xs.set j v)))
  | none => .bad
def psD (σ : Sls) (v : W) (n : Nat) (kvs : List (Key × W)) (S : Sto) : Option Key → Res Fl
  | some k => if kvs.length < LIM then .ok (.nx σ) (S.set n (.dct (dput kvs k v))) else .bad
  | none => .bad
def psI (σ : Sls) (v : W) (n : Nat) (i : W) (S : Sto) : Option Ob → Res Fl
  | some (.lst xs) => match i with
    | .int k => psL σ v n xs S (ixN xs.length k)
    | _ => .bad
  | some (.dct kvs) => psD σ v n kvs S (wkey i)
  | _ => .bad
def psH (σ : Sls) (v x : W) : W → Sto → Res Fl := fun i S3 => match x with
  | .loc n => psI σ v n i S3 (S3[n]?)
  | _ => .bad
def psG (ix : M W) (σ : Sls) (v : W) : W → Sto → Res Fl := fun x S2 => (ix σ S2).bind (psH σ v x)
def psF (ob ix : M W) (σ : Sls) : W → Sto → Res Fl := fun v S1 => (ob σ S1).bind (psG ix σ v)
theorem r_ps : sPutS a b c σ S = (c σ S).bind (psF a b σ) := by unfold sPutS psF psG psH psI psL psD; rfl
theorem r_psF : psF a b σ v S = (a σ S).bind (psG b σ v) := rfl
theorem r_psG : psG a σ v x S = (a σ S).bind (psH σ v x) := rfl
theorem r_psH : psH σ v (.loc n) x S = psI σ v n x S (S[n]?) := rfl
theorem r_psIl {k : Int} : psI σ v n (.int k) S (some (.lst xs)) = psL σ v n xs S (ixN xs.length k) := rfl
theorem r_psId {kvs : List (Key × W)} : psI σ v n x S (some (.dct kvs)) = psD σ v n kvs S (wkey x) := rfl
theorem r_psL {j : Nat} : psL σ v n xs S (some j) = .ok (.nx σ) (S.set n (.lst (xs.set j v))) := rfl
theorem r_psD {kvs : List (Key × W)} {k : Key} : psD σ v n kvs S (some k) = if kvs.length < LIM then .ok (.nx σ) (S.set n (.dct (dput kvs k v))) else .bad := rfl
def putK (n : Nat) (ob ix e : M W) (σ : Sls) (S : Sto) : Option Sl → Res Fl
  | some (.ow w) => putOwn n w ix e σ S
  | _ => sPutS ob ix e σ S
theorem r_put : sPut n a b c σ S = putK n a b c σ S (σ[n]?) := by unfold sPut putK; rfl
theorem r_putO : putK n a b c σ S (some (.ow w)) = putOwn n w b c σ S := rfl
theorem r_putF : putK n a b c σ S (some (.fr w)) = sPutS a b c σ S := rfl
def sfH (v : W) (fn : Str) (ok : Str → Bool) (σ : Sls) (n : Nat) (S : Sto) : Option Ob → Res Fl
  | some (.ins c fs) => if ok c ∧ fs.length < 1000 then .ok (.nx σ) (S.set n (.ins c (fput fn v fs))) else .bad
  | _ => .bad
def sfG (v : W) (fn : Str) (ok : Str → Bool) (σ : Sls) : W → Sto → Res Fl := fun x S2 => match x with
  | .loc n => sfH v fn ok σ n S2 (S2[n]?)
  | _ => .bad
def sfF (o : M W) (fn : Str) (ok : Str → Bool) (σ : Sls) : W → Sto → Res Fl := fun v S1 => (o σ S1).bind (sfG v fn ok σ)
theorem r_sf {ok : Str → Bool} : sFldM a b nm ok σ S = (b σ S).bind (sfF a nm ok σ) := by unfold sFldM sfF sfG sfH; rfl
theorem r_sfF {ok : Str → Bool} : sfF a nm ok σ v S = (a σ S).bind (sfG v nm ok σ) := rfl
theorem r_sfG {ok : Str → Bool} : sfG v nm ok σ (.loc n) S = sfH v nm ok σ n S (S[n]?) := rfl
theorem r_sfH {ok : Str → Bool} {cn : Str} {fs : List (Str × W)} : sfH v nm ok σ n S (some (.ins cn fs)) = if ok cn ∧ fs.length < 1000 then .ok (.nx σ) (S.set n (.ins cn (fput nm v fs))) else .bad := rfl
def mutF : W × Sls → Sto → Res Fl := fun r S1 => .ok (.nx r.2) S1
theorem r_mut {e : M (W × Sls)} : sMut e σ S = (e σ S).bind mutF := rfl
theorem r_mutF {r : W × Sls} : mutF r S = .ok (.nx r.2) S := rfl
def mutYF (k : Nat) : W × Sls → Sto → Res Fl := fun r S1 => .ok (.nx (r.2.set k (.fr r.1))) S1
theorem r_mutY {k : Nat} {e : M (W × Sls)} : sMutY k e σ S = (e σ S).bind (mutYF k) := rfl
theorem r_mutYF {k : Nat} {r : W × Sls} : mutYF k r S = .ok (.nx (r.2.set k (.fr r.1))) S := rfl
theorem r_btup {gs : List (W → M Sls)} (h : ws.length = gs.length) : bTup gs (.tup ws) σ S = bAll gs ws σ S := by
  show (if ws.length = gs.length then bAll gs ws else mBad) σ S = _
  rw [if_pos h]
theorem r_bnil : bAll [] [] σ S = .ok σ S := rfl
def bAllF (gs : List (W → M Sls)) (ws : List W) : Sls → Sto → Res Sls := fun σ1 S1 => bAll gs ws σ1 S1
theorem r_bcons {bd : W → M Sls} {gs : List (W → M Sls)} : bAll (bd :: gs) (w :: ws) σ S = (bd w σ S).bind (bAllF gs ws) := rfl
theorem r_bAllF {gs : List (W → M Sls)} : bAllF gs ws σ S = bAll gs ws σ S := rfl
theorem r_lkC {γ : Type} {x y : Str} {v : γ} {l : List (Str × γ)} : List.lookup x ((y, v) :: l) = if x = y then some v else List.lookup x l := by
  rw [List.lookup_cons]
  by_cases h : x = y
  · subst h; simp
  · rw [if_neg h, beq_false_of_ne h]
theorem r_beq {a b : String} : (Str.ofString a == Str.ofString b) = (a == b) := by
  by_cases h : a = b
  · subst h; simp
  · rw [beq_false_of_ne (fun e => h (Eq.mp str_lit e)), beq_false_of_ne h]
/-! ### slices, comprehensions -/
def slH (x : W) (l : Option Int) : Option Int → Sto → Res W := fun h S3 => olift (wsl (vw S3 x) l h) S3
def slG (x : W) (hi : Option (M W)) (σ : Sls) : Option Int → Sto → Res W := fun l S2 => (mPart hi σ S2).bind (slH x l)
def slF (lo hi : Option (M W)) (σ : Sls) : W → Sto → Res W := fun x S1 => (mPart lo σ S1).bind (slG x hi σ)
theorem r_sl {lo hi : Option (M W)} : mSl a lo hi σ S = (a σ S).bind (slF lo hi σ) := rfl
theorem r_slF {lo hi : Option (M W)} : slF lo hi σ x S = (mPart lo σ S).bind (slG x hi σ) := rfl
theorem r_slG {hi : Option (M W)} {l : Option Int} : slG x hi σ l S = (mPart hi σ S).bind (slH x l) := rfl
theorem r_slH {l h : Option Int} : slH x l h S = olift (wsl (vw S x) l h) S := rfl
def partF : W → Sto → Res (Option Int) := fun x S1 => match x with
  | .int i => .ok (some i) S1
  | _ => .bad
theorem r_partN : mPart none σ S = .ok none S := rfl
theorem r_partS : mPart (some a) σ S = (a σ S).bind partF := by unfold mPart partF; rfl
theorem r_partF {i : Int} : partF (.int i) S = .ok (some i) S := rfl
def lcH : List W → Sto → Res W := fun vs S2 => .ok (.lst vs) S2
def notOw : Option Sl → Bool
  | some (.ow _) => false
  | _ => true
def lcF (bd : W → M Sls) (t : M Bool) (e : M W) (own : List Nat) (σ : Sls) : List W → Sto → Res W := fun ws S1 => if ws.length ≤ LIM ∧ (own.all fun i => notOw (σ[i]?)) = true then (lcL bd t e (wwipe σ own) ws S1).bind lcH else .bad
theorem r_lc {it : M (List W)} {bd : W → M Sls} {t : M Bool} {e : M W} {own : List Nat} : mLc it bd t e own σ S = (it σ S).bind (lcF bd t e own σ) := by unfold mLc lcF lcH notOw; rfl
theorem r_lcF {bd : W → M Sls} {t : M Bool} {e : M W} {own : List Nat} : lcF bd t e own σ ws S = if ws.length ≤ LIM ∧ (own.all fun i => notOw (σ[i]?)) = true then (lcL bd t e (wwipe σ own) ws S).bind lcH else .bad := rfl
theorem r_lcH : lcH ws S = .ok (.lst ws) S := rfl
theorem r_notOwE : notOw (some .emp) = true := rfl
theorem r_notOwF : notOw (some (.fr w)) = true := rfl
theorem r_lcN {bd : W → M Sls} {t : M Bool} {e : M W} : lcL bd t e σ [] S = .ok [] S := rfl
theorem q_lcC {bd : W → M Sls} {t : M Bool} {e : M W} : lcL bd t e σ (w :: ws) S = (bd w σ S).bind fun σ1 S1 => (t σ1 S1).bind fun b S2 => if b then (e σ1 S2).bind fun v S3 => (lcL bd t e σ ws S3).bind fun vs S4 => .ok (v :: vs) S4 else lcL bd t e σ ws S2 := rfl
def lc2H : List W → Sto → Res W := fun vs S2 => if vs.length ≤ LIM then .ok (.lst vs) S2 else .bad
def lc2F (bd : W → M Sls) (t : M Bool) (it1 : M (List W)) (bd1 : W → M Sls) (t1 : M Bool) (e : M W) (own own1 : List Nat) (σ : Sls) : List W → Sto → Res W := fun ws S1 => if noOw σ own = true then (lc2L bd t it1 bd1 t1 e own1 (wwipe σ own) ws S1).bind lc2H else .bad
theorem q_lc2 {it it1 : M (List W)} {bd bd1 : W → M Sls} {t t1 : M Bool} {e : M W} {own own1 : List Nat} : mLc2 it bd t it1 bd1 t1 e own own1 σ S = (it σ S).bind (lc2F bd t it1 bd1 t1 e own own1 σ) := rfl
theorem q_lc2F {it1 : M (List W)} {bd bd1 : W → M Sls} {t t1 : M Bool} {e : M W} {own own1 : List Nat} : lc2F bd t it1 bd1 t1 e own own1 σ ws S = if noOw σ own = true then (lc2L bd t it1 bd1 t1 e own1 (wwipe σ own) ws S).bind lc2H else .bad := rfl
theorem q_lc2H : lc2H ws S = if ws.length ≤ LIM then .ok (.lst ws) S else .bad := rfl
theorem q_lc2N {it1 : M (List W)} {bd bd1 : W → M Sls} {t t1 : M Bool} {e : M W} {own1 : List Nat} : lc2L bd t it1 bd1 t1 e own1 σ [] S = .ok [] S := rfl
theorem q_lc2C {it1 : M (List W)} {bd bd1 : W → M Sls} {t t1 : M Bool} {e : M W} {own1 : List Nat} : lc2L bd t it1 bd1 t1 e own1 σ (w :: ws) S = (bd w σ S).bind fun σ1 S1 => (t σ1 S1).bind fun b S2 => if b then (if noOw σ1 own1 = true then (it1 σ1 S2).bind fun us S3 => (lcL bd1 t1 e (wwipe σ1 own1) us S3).bind fun vs S4 => (lc2L bd t it1 bd1 t1 e own1 σ ws S4).bind fun vs2 S5 => .ok (vs ++ vs2) S5 else .bad) else lc2L bd t it1 bd1 t1 e own1 σ ws S2 := rfl
theorem r_weqII {i j : Int} : weq (.int i) (.int j) = some (decide (i = j)) := by unfold weq; rfl
theorem r_weqSS {i j : Str} : weq (.str i) (.str j) = some (decide (i = j)) := by unfold weq; rfl
theorem r_weqBB {i j : Bool} : weq (.bl i) (.bl j) = some (decide (i = j)) := by unfold weq; rfl
theorem r_weqIS {i : Int} {j : Str} : weq (.int i) (.str j) = some false := by unfold weq; rfl
theorem r_weqSI {i : Str} {j : Int} : weq (.str i) (.int j) = some false := by unfold weq; rfl
end
end EV

namespace R
open PySem PySem.Spec PyProof.Rows L2
def topS (i : Nat) : Stmt := PySem.Challenge.pw_rungstead_k01_expression_text_and_back.main.body.getD i (.Pass ⟨0, 0, 0, 0⟩)
def gGf0 : List (Str × EV.FnI) := [("side_text", { np := 1 }), ("atom_text", { np := 1 }), ("right_text", { np := 2 }), ("expression_text", { np := 1 }), ("word_end", { np := 2 }), ("line_tokens", { np := 1 }), ("is_part", { np := 1 }), ("is_word", { np := 1 }), ("is_ref", { np := 1 }), ("is_number", { np := 1 }), ("line_cursor", { np := 2 }), ("read_ref", { np := 1 }), ("read_number", { np := 1 }), ("read_side", { np := 1 }), ("read_expression", { np := 1 }), ("read_term", { np := 1 }), ("read_atom", { np := 1 }), ("parse_expression", { np := 1 }), ("_law_bag", { np := 2 }), ("_law_take", { np := 2 }), ("_law_pick", { np := 2 }), ("_law_reserved", { np := 0 }), ("_law_word", { np := 1 }), ("_law_name", { np := 1 }), ("_law_ref", { np := 1 }), ("_law_number", { np := 1 }), ("_law_side", { np := 1 }), ("_law_expr", { np := 2 }), ("_law_expr_text", { np := 1 }), ("_law_tokens", { np := 3 })]
def gGf1 : List (Str × EV.FnI) := [("_law_spread", { np := 2 }), ("_law_same", { np := 2 }), ("law", { np := 1 })]
def gG : EV.Glob := { cst := [("SUMS_labels", .tup [.str "add", .str "sub"]), ("WORD_SIGNS", .str "abcdefghijklmnopqrstuvwxyz0123456789."), ("DOUBLE_SIGNS", .tup [.str ":=", .str "<=", .str ">=", .str "!="]), ("SINGLE_SIGNS", .str "()&|/^_<>=+-*,:SRTC"), ("MOST_BRACKETS", .int 12), ("LONGEST_NUMBER", .int 6), ("DIGITS", .str "0123456789"), ("RESERVED", .tup [.str "project", .str "steady", .str "fails", .str "input", .str "output", .str "top", .str "rest", .str "flag", .str "word", .str "first", .str "retained", .str "timer", .str "on", .str "off", .str "pulse", .str "sum", .str "counter", .str "up", .str "down", .str "chart", .str "step", .str "limit", .str "move", .str "to", .str "when", .str "end", .str "instance", .str "of", .str "block", .str "in", .str "out", .str "begin", .str "task", .str "every", .str "at", .str "rung", .str "zone", .str "advance", .str "part", .str "call", .str "skip", .str "plant", .str "budget", .str "cell", .str "sensor", .str "case", .str "chance", .str "fault", .str "stuck", .str "freeze", .str "blink", .str "never", .str "within", .str "after", .str "comes", .str "min", .str "max", .str "powered", .str "phase"]), ("LETTERS", .str "abcdefghijklmnopqrstuvwxyz"), ("NAME_SIGNS", .str "abcdefghijklmnopqrstuvwxyz0123456789"), ("int", .ty "int"), ("str", .ty "str"), ("bool", .ty "bool"), ("list", .ty "list"), ("tuple", .ty "tuple")] ,  fre := ["range", "str", "int", "len", "isinstance", "tuple", "list", "bool", "reversed", "min", "max"] ,  fns := gGf0 ++ gGf1 ,  cls := [("Cursor", 2)] ,  mts := [(("Cursor", "peek"), "Cursor.peek"), (("Cursor", "take"), "Cursor.take"), (("Cursor", "accept"), "Cursor.accept"), (("Cursor", "expect"), "Cursor.expect"), (("Cursor", "finish"), "Cursor.finish"), (("Cursor", "open_bracket"), "Cursor.open_bracket"), (("Cursor", "close_bracket"), "Cursor.close_bracket")] ,  kwc := [] ,  fld := [("Cursor", "tokens"), ("Cursor", "line"), ("Cursor", "at"), ("Cursor", "brackets")],  tbl := [("SIGNS", ([("add", .str " + "), ("sub", .str " - "), ("mul", .str " * ")], [])), ("SUMS_phrases", ([("+", .str "add"), ("-", .str "sub")], []))],  dts := [("SIGNS", [("add", .str " + "), ("sub", .str " - "), ("mul", .str " * ")]), ("SUMS_phrases", [("+", .str "add"), ("-", .str "sub")])] }
abbrev s_side_text : Stmt := topS 3
def x_side_text : EV.Dx := { N := ["side"] }
abbrev s_atom_text : Stmt := topS 4
def x_atom_text : EV.Dx := { N := ["expr"] }
abbrev s_right_text : Stmt := topS 5
def x_right_text : EV.Dx := { N := ["kind", "side", "text"] }
abbrev s_expression_text : Stmt := topS 6
def x_expression_text : EV.Dx := { N := ["expr", "row", "brackets", "pieces", "left", "node", "kind"] }
abbrev s_word_end : Stmt := topS 14
def x_word_end : EV.Dx := { N := ["line", "start", "end"] }
abbrev s_line_tokens : Stmt := topS 15
def x_line_tokens : EV.Dx := { N := ["line", "tokens", "at", "sign", "end"] }
abbrev s_is_part : Stmt := topS 22
def x_is_part : EV.Dx := { N := ["text", "sign"] }
abbrev s_is_word : Stmt := topS 23
def x_is_word : EV.Dx := { N := ["text"] }
abbrev s_is_ref : Stmt := topS 24
def x_is_ref : EV.Dx := { N := ["text", "parts", "part"] }
abbrev s_is_number : Stmt := topS 25
def x_is_number : EV.Dx := { N := ["text", "sign"] }
abbrev s_Cursoru_initu : Stmt := inClass (topS 29) 0
def x_Cursoru_initu : EV.Dx := { N := ["self", "tokens", "line"] }
abbrev s_Cursor_peek : Stmt := inClass (topS 29) 1
def x_Cursor_peek : EV.Dx := { N := ["self"] }
abbrev s_Cursor_take : Stmt := inClass (topS 29) 2
def x_Cursor_take : EV.Dx := { N := ["self", "token"] }
abbrev s_Cursor_accept : Stmt := inClass (topS 29) 3
def x_Cursor_accept : EV.Dx := { N := ["self", "token"] }
abbrev s_Cursor_expect : Stmt := inClass (topS 29) 4
def x_Cursor_expect : EV.Dx := { N := ["self", "token"] }
abbrev s_Cursor_finish : Stmt := inClass (topS 29) 5
def x_Cursor_finish : EV.Dx := { N := ["self"] }
abbrev s_Cursor_open_bracket : Stmt := inClass (topS 29) 6
def x_Cursor_open_bracket : EV.Dx := { N := ["self"] }
abbrev s_Cursor_close_bracket : Stmt := inClass (topS 29) 7
def x_Cursor_close_bracket : EV.Dx := { N := ["self"] }
abbrev s_line_cursor : Stmt := topS 30
def x_line_cursor : EV.Dx := { N := ["line", "number", "tokens"] }
abbrev s_read_ref : Stmt := topS 31
def x_read_ref : EV.Dx := { N := ["cursor", "token"] }
abbrev s_read_number : Stmt := topS 32
def x_read_number : EV.Dx := { N := ["cursor", "token"] }
abbrev s_read_side : Stmt := topS 33
def x_read_side : EV.Dx := { N := ["cursor"] }
abbrev s_read_expression : Stmt := topS 34
def x_read_expression : EV.Dx := { N := ["cursor", "expr", "kind"] }
abbrev s_read_term : Stmt := topS 35
def x_read_term : EV.Dx := { N := ["cursor", "expr"] }
abbrev s_read_atom : Stmt := topS 36
def x_read_atom : EV.Dx := { N := ["cursor", "expr", "kind", "left", "right"] }
abbrev s_parse_expression : Stmt := topS 37
def x_parse_expression : EV.Dx := { N := ["text", "cursor", "expr"] }
abbrev s_lw_bag : Stmt := topS 39
def x_lw_bag : EV.Dx := { N := ["script", "at", "cell"], locs := [(205, 11, 24), (204, 15, 39)] }
abbrev s_lw_take : Stmt := topS 40
def x_lw_take : EV.Dx := { N := ["bag", "many", "digit", "one", "two", "three"] }
abbrev s_lw_pick : Stmt := topS 41
def x_lw_pick : EV.Dx := { N := ["bag", "menu"] }
abbrev s_lw_reserved : Stmt := topS 42
def x_lw_reserved : EV.Dx := { N := ["words"] }
abbrev s_lw_word : Stmt := topS 43
def x_lw_word : EV.Dx := { N := ["bag", "letters", "word", "k"] }
abbrev s_lw_name : Stmt := topS 44
def x_lw_name : EV.Dx := { N := ["bag", "name"] }
abbrev s_lw_ref : Stmt := topS 45
def x_lw_ref : EV.Dx := { N := ["bag", "way", "ref", "k", "part"] }
abbrev s_lw_number : Stmt := topS 46
def x_lw_number : EV.Dx := { N := ["bag"] }
abbrev s_lw_side : Stmt := topS 47
def x_lw_side : EV.Dx := { N := ["bag"] }
abbrev s_lw_expr : Stmt := topS 48
def x_lw_expr : EV.Dx := { N := ["bag", "left", "sign", "one", "two"] }
abbrev s_lw_expr_text : Stmt := topS 49
def x_lw_expr_text : EV.Dx := { N := ["expr", "one", "two"] }
abbrev s_lw_tokens : Stmt := topS 50
def x_lw_tokens : EV.Dx := { N := ["bag", "expr", "left", "row", "one", "two", "more"] }
abbrev s_lw_spread : Stmt := topS 51
def x_lw_spread : EV.Dx := { N := ["bag", "row", "text", "token"] }
abbrev s_lw_same : Stmt := topS 52
def x_lw_same : EV.Dx := { N := ["got", "due", "k"] }
abbrev s_law : Stmt := topS 53
def x_law : EV.Dx := { N := ["script", "first", "k", "bag", "expr", "due", "spread", "signs", "some", "many", "row"], locs := [(314, 30, 63), (322, 57, 60)] }
def gP0 : List (Str × EV.DefI) := [("side_text", ⟨x_side_text, defScope s_side_text, defBody s_side_text, 1⟩), ("atom_text", ⟨x_atom_text, defScope s_atom_text, defBody s_atom_text, 1⟩), ("right_text", ⟨x_right_text, defScope s_right_text, defBody s_right_text, 2⟩), ("expression_text", ⟨x_expression_text, defScope s_expression_text, defBody s_expression_text, 1⟩), ("word_end", ⟨x_word_end, defScope s_word_end, defBody s_word_end, 2⟩), ("line_tokens", ⟨x_line_tokens, defScope s_line_tokens, defBody s_line_tokens, 1⟩), ("is_part", ⟨x_is_part, defScope s_is_part, defBody s_is_part, 1⟩), ("is_word", ⟨x_is_word, defScope s_is_word, defBody s_is_word, 1⟩), ("is_ref", ⟨x_is_ref, defScope s_is_ref, defBody s_is_ref, 1⟩), ("is_number", ⟨x_is_number, defScope s_is_number, defBody s_is_number, 1⟩), ("Cursor.__init__", ⟨x_Cursoru_initu, defScope s_Cursoru_initu, defBody s_Cursoru_initu, 3⟩), ("Cursor.peek", ⟨x_Cursor_peek, defScope s_Cursor_peek, defBody s_Cursor_peek, 1⟩), ("Cursor.take", ⟨x_Cursor_take, defScope s_Cursor_take, defBody s_Cursor_take, 1⟩), ("Cursor.accept", ⟨x_Cursor_accept, defScope s_Cursor_accept, defBody s_Cursor_accept, 2⟩), ("Cursor.expect", ⟨x_Cursor_expect, defScope s_Cursor_expect, defBody s_Cursor_expect, 2⟩), ("Cursor.finish", ⟨x_Cursor_finish, defScope s_Cursor_finish, defBody s_Cursor_finish, 1⟩), ("Cursor.open_bracket", ⟨x_Cursor_open_bracket, defScope s_Cursor_open_bracket, defBody s_Cursor_open_bracket, 1⟩), ("Cursor.close_bracket", ⟨x_Cursor_close_bracket, defScope s_Cursor_close_bracket, defBody s_Cursor_close_bracket, 1⟩), ("line_cursor", ⟨x_line_cursor, defScope s_line_cursor, defBody s_line_cursor, 2⟩), ("read_ref", ⟨x_read_ref, defScope s_read_ref, defBody s_read_ref, 1⟩), ("read_number", ⟨x_read_number, defScope s_read_number, defBody s_read_number, 1⟩), ("read_side", ⟨x_read_side, defScope s_read_side, defBody s_read_side, 1⟩), ("read_expression", ⟨x_read_expression, defScope s_read_expression, defBody s_read_expression, 1⟩), ("read_term", ⟨x_read_term, defScope s_read_term, defBody s_read_term, 1⟩), ("read_atom", ⟨x_read_atom, defScope s_read_atom, defBody s_read_atom, 1⟩), ("parse_expression", ⟨x_parse_expression, defScope s_parse_expression, defBody s_parse_expression, 1⟩), ("_law_bag", ⟨x_lw_bag, defScope s_lw_bag, defBody s_lw_bag, 2⟩), ("_law_take", ⟨x_lw_take, defScope s_lw_take, defBody s_lw_take, 2⟩), ("_law_pick", ⟨x_lw_pick, defScope s_lw_pick, defBody s_lw_pick, 2⟩), ("_law_reserved", ⟨x_lw_reserved, defScope s_lw_reserved, defBody s_lw_reserved, 0⟩)]
def gP1 : List (Str × EV.DefI) := [("_law_word", ⟨x_lw_word, defScope s_lw_word, defBody s_lw_word, 1⟩), ("_law_name", ⟨x_lw_name, defScope s_lw_name, defBody s_lw_name, 1⟩), ("_law_ref", ⟨x_lw_ref, defScope s_lw_ref, defBody s_lw_ref, 1⟩), ("_law_number", ⟨x_lw_number, defScope s_lw_number, defBody s_lw_number, 1⟩), ("_law_side", ⟨x_lw_side, defScope s_lw_side, defBody s_lw_side, 1⟩), ("_law_expr", ⟨x_lw_expr, defScope s_lw_expr, defBody s_lw_expr, 2⟩), ("_law_expr_text", ⟨x_lw_expr_text, defScope s_lw_expr_text, defBody s_lw_expr_text, 1⟩), ("_law_tokens", ⟨x_lw_tokens, defScope s_lw_tokens, defBody s_lw_tokens, 3⟩), ("_law_spread", ⟨x_lw_spread, defScope s_lw_spread, defBody s_lw_spread, 2⟩), ("_law_same", ⟨x_lw_same, defScope s_lw_same, defBody s_lw_same, 2⟩), ("law", ⟨x_law, defScope s_law, defBody s_law, 1⟩)]
def gP : List (Str × EV.DefI) := gP0 ++ gP1
theorem sc_side_text : FnScope x_side_text.N ["side"] (defScope s_side_text) := ⟨rfl, rfl, rfl, by decide +kernel, rfl, by decide +kernel, by decide +kernel⟩
abbrev d_side_text : He.DefD := ⟨("side_text", none), "side_text", "side_text", defArgs s_side_text, defBody s_side_text, defScope s_side_text, [], []⟩
theorem sc_atom_text : FnScope x_atom_text.N ["expr"] (defScope s_atom_text) := ⟨rfl, rfl, rfl, by decide +kernel, rfl, by decide +kernel, by decide +kernel⟩
abbrev d_atom_text : He.DefD := ⟨("atom_text", none), "atom_text", "atom_text", defArgs s_atom_text, defBody s_atom_text, defScope s_atom_text, [], []⟩
theorem sc_right_text : FnScope x_right_text.N ["kind", "side"] (defScope s_right_text) := ⟨rfl, rfl, rfl, by decide +kernel, rfl, by decide +kernel, by decide +kernel⟩
abbrev d_right_text : He.DefD := ⟨("right_text", none), "right_text", "right_text", defArgs s_right_text, defBody s_right_text, defScope s_right_text, [], []⟩
theorem sc_expression_text : FnScope x_expression_text.N ["expr"] (defScope s_expression_text) := ⟨rfl, rfl, rfl, by decide +kernel, rfl, by decide +kernel, by decide +kernel⟩
abbrev d_expression_text : He.DefD := ⟨("expression_text", none), "expression_text", "expression_text", defArgs s_expression_text, defBody s_expression_text, defScope s_expression_text, [], []⟩
theorem sc_word_end : FnScope x_word_end.N ["line", "start"] (defScope s_word_end) := ⟨rfl, rfl, rfl, by decide +kernel, rfl, by decide +kernel, by decide +kernel⟩
abbrev d_word_end : He.DefD := ⟨("word_end", none), "word_end", "word_end", defArgs s_word_end, defBody s_word_end, defScope s_word_end, [], []⟩
theorem sc_line_tokens : FnScope x_line_tokens.N ["line"] (defScope s_line_tokens) := ⟨rfl, rfl, rfl, by decide +kernel, rfl, by decide +kernel, by decide +kernel⟩
abbrev d_line_tokens : He.DefD := ⟨("line_tokens", none), "line_tokens", "line_tokens", defArgs s_line_tokens, defBody s_line_tokens, defScope s_line_tokens, [], []⟩
theorem sc_is_part : FnScope x_is_part.N ["text"] (defScope s_is_part) := ⟨rfl, rfl, rfl, by decide +kernel, rfl, by decide +kernel, by decide +kernel⟩
abbrev d_is_part : He.DefD := ⟨("is_part", none), "is_part", "is_part", defArgs s_is_part, defBody s_is_part, defScope s_is_part, [], []⟩
theorem sc_is_word : FnScope x_is_word.N ["text"] (defScope s_is_word) := ⟨rfl, rfl, rfl, by decide +kernel, rfl, by decide +kernel, by decide +kernel⟩
abbrev d_is_word : He.DefD := ⟨("is_word", none), "is_word", "is_word", defArgs s_is_word, defBody s_is_word, defScope s_is_word, [], []⟩
theorem sc_is_ref : FnScope x_is_ref.N ["text"] (defScope s_is_ref) := ⟨rfl, rfl, rfl, by decide +kernel, rfl, by decide +kernel, by decide +kernel⟩
abbrev d_is_ref : He.DefD := ⟨("is_ref", none), "is_ref", "is_ref", defArgs s_is_ref, defBody s_is_ref, defScope s_is_ref, [], []⟩
theorem sc_is_number : FnScope x_is_number.N ["text"] (defScope s_is_number) := ⟨rfl, rfl, rfl, by decide +kernel, rfl, by decide +kernel, by decide +kernel⟩
abbrev d_is_number : He.DefD := ⟨("is_number", none), "is_number", "is_number", defArgs s_is_number, defBody s_is_number, defScope s_is_number, [], []⟩
theorem sc_Cursoru_initu : FnScope x_Cursoru_initu.N ["self", "tokens", "line"] (defScope s_Cursoru_initu) := ⟨rfl, rfl, rfl, by decide +kernel, rfl, by decide +kernel, by decide +kernel⟩
abbrev d_Cursoru_initu : He.DefD := ⟨("Cursor", some "__init__"), "__init__", "Cursor.__init__", defArgs s_Cursoru_initu, defBody s_Cursoru_initu, defScope s_Cursoru_initu, [], []⟩
theorem sc_Cursor_peek : FnScope x_Cursor_peek.N ["self"] (defScope s_Cursor_peek) := ⟨rfl, rfl, rfl, by decide +kernel, rfl, by decide +kernel, by decide +kernel⟩
abbrev d_Cursor_peek : He.DefD := ⟨("Cursor", some "peek"), "peek", "Cursor.peek", defArgs s_Cursor_peek, defBody s_Cursor_peek, defScope s_Cursor_peek, [], []⟩
theorem sc_Cursor_take : FnScope x_Cursor_take.N ["self"] (defScope s_Cursor_take) := ⟨rfl, rfl, rfl, by decide +kernel, rfl, by decide +kernel, by decide +kernel⟩
abbrev d_Cursor_take : He.DefD := ⟨("Cursor", some "take"), "take", "Cursor.take", defArgs s_Cursor_take, defBody s_Cursor_take, defScope s_Cursor_take, [], []⟩
theorem sc_Cursor_accept : FnScope x_Cursor_accept.N ["self", "token"] (defScope s_Cursor_accept) := ⟨rfl, rfl, rfl, by decide +kernel, rfl, by decide +kernel, by decide +kernel⟩
abbrev d_Cursor_accept : He.DefD := ⟨("Cursor", some "accept"), "accept", "Cursor.accept", defArgs s_Cursor_accept, defBody s_Cursor_accept, defScope s_Cursor_accept, [], []⟩
theorem sc_Cursor_expect : FnScope x_Cursor_expect.N ["self", "token"] (defScope s_Cursor_expect) := ⟨rfl, rfl, rfl, by decide +kernel, rfl, by decide +kernel, by decide +kernel⟩
abbrev d_Cursor_expect : He.DefD := ⟨("Cursor", some "expect"), "expect", "Cursor.expect", defArgs s_Cursor_expect, defBody s_Cursor_expect, defScope s_Cursor_expect, [], []⟩
theorem sc_Cursor_finish : FnScope x_Cursor_finish.N ["self"] (defScope s_Cursor_finish) := ⟨rfl, rfl, rfl, by decide +kernel, rfl, by decide +kernel, by decide +kernel⟩
abbrev d_Cursor_finish : He.DefD := ⟨("Cursor", some "finish"), "finish", "Cursor.finish", defArgs s_Cursor_finish, defBody s_Cursor_finish, defScope s_Cursor_finish, [], []⟩
theorem sc_Cursor_open_bracket : FnScope x_Cursor_open_bracket.N ["self"] (defScope s_Cursor_open_bracket) := ⟨rfl, rfl, rfl, by decide +kernel, rfl, by decide +kernel, by decide +kernel⟩
abbrev d_Cursor_open_bracket : He.DefD := ⟨("Cursor", some "open_bracket"), "open_bracket", "Cursor.open_bracket", defArgs s_Cursor_open_bracket, defBody s_Cursor_open_bracket, defScope s_Cursor_open_bracket, [], []⟩
theorem sc_Cursor_close_bracket : FnScope x_Cursor_close_bracket.N ["self"] (defScope s_Cursor_close_bracket) := ⟨rfl, rfl, rfl, by decide +kernel, rfl, by decide +kernel, by decide +kernel⟩
abbrev d_Cursor_close_bracket : He.DefD := ⟨("Cursor", some "close_bracket"), "close_bracket", "Cursor.close_bracket", defArgs s_Cursor_close_bracket, defBody s_Cursor_close_bracket, defScope s_Cursor_close_bracket, [], []⟩
theorem sc_line_cursor : FnScope x_line_cursor.N ["line", "number"] (defScope s_line_cursor) := ⟨rfl, rfl, rfl, by decide +kernel, rfl, by decide +kernel, by decide +kernel⟩
abbrev d_line_cursor : He.DefD := ⟨("line_cursor", none), "line_cursor", "line_cursor", defArgs s_line_cursor, defBody s_line_cursor, defScope s_line_cursor, [], []⟩
theorem sc_read_ref : FnScope x_read_ref.N ["cursor"] (defScope s_read_ref) := ⟨rfl, rfl, rfl, by decide +kernel, rfl, by decide +kernel, by decide +kernel⟩
abbrev d_read_ref : He.DefD := ⟨("read_ref", none), "read_ref", "read_ref", defArgs s_read_ref, defBody s_read_ref, defScope s_read_ref, [], []⟩
theorem sc_read_number : FnScope x_read_number.N ["cursor"] (defScope s_read_number) := ⟨rfl, rfl, rfl, by decide +kernel, rfl, by decide +kernel, by decide +kernel⟩
abbrev d_read_number : He.DefD := ⟨("read_number", none), "read_number", "read_number", defArgs s_read_number, defBody s_read_number, defScope s_read_number, [], []⟩
theorem sc_read_side : FnScope x_read_side.N ["cursor"] (defScope s_read_side) := ⟨rfl, rfl, rfl, by decide +kernel, rfl, by decide +kernel, by decide +kernel⟩
abbrev d_read_side : He.DefD := ⟨("read_side", none), "read_side", "read_side", defArgs s_read_side, defBody s_read_side, defScope s_read_side, [], []⟩
theorem sc_read_expression : FnScope x_read_expression.N ["cursor"] (defScope s_read_expression) := ⟨rfl, rfl, rfl, by decide +kernel, rfl, by decide +kernel, by decide +kernel⟩
abbrev d_read_expression : He.DefD := ⟨("read_expression", none), "read_expression", "read_expression", defArgs s_read_expression, defBody s_read_expression, defScope s_read_expression, [], []⟩
theorem sc_read_term : FnScope x_read_term.N ["cursor"] (defScope s_read_term) := ⟨rfl, rfl, rfl, by decide +kernel, rfl, by decide +kernel, by decide +kernel⟩
abbrev d_read_term : He.DefD := ⟨("read_term", none), "read_term", "read_term", defArgs s_read_term, defBody s_read_term, defScope s_read_term, [], []⟩
theorem sc_read_atom : FnScope x_read_atom.N ["cursor"] (defScope s_read_atom) := ⟨rfl, rfl, rfl, by decide +kernel, rfl, by decide +kernel, by decide +kernel⟩
abbrev d_read_atom : He.DefD := ⟨("read_atom", none), "read_atom", "read_atom", defArgs s_read_atom, defBody s_read_atom, defScope s_read_atom, [], []⟩
theorem sc_parse_expression : FnScope x_parse_expression.N ["text"] (defScope s_parse_expression) := ⟨rfl, rfl, rfl, by decide +kernel, rfl, by decide +kernel, by decide +kernel⟩
abbrev d_parse_expression : He.DefD := ⟨("parse_expression", none), "parse_expression", "parse_expression", defArgs s_parse_expression, defBody s_parse_expression, defScope s_parse_expression, [], []⟩
theorem sc_lw_bag : FnScope x_lw_bag.N ["script", "at"] (defScope s_lw_bag) := ⟨rfl, rfl, rfl, by decide +kernel, rfl, by decide +kernel, by decide +kernel⟩
abbrev d_lw_bag : He.DefD := ⟨("_law_bag", none), "_law_bag", "_law_bag", defArgs s_lw_bag, defBody s_lw_bag, defScope s_lw_bag, [], []⟩
theorem sc_lw_take : FnScope x_lw_take.N ["bag", "many"] (defScope s_lw_take) := ⟨rfl, rfl, rfl, by decide +kernel, rfl, by decide +kernel, by decide +kernel⟩
abbrev d_lw_take : He.DefD := ⟨("_law_take", none), "_law_take", "_law_take", defArgs s_lw_take, defBody s_lw_take, defScope s_lw_take, [], []⟩
theorem sc_lw_pick : FnScope x_lw_pick.N ["bag", "menu"] (defScope s_lw_pick) := ⟨rfl, rfl, rfl, by decide +kernel, rfl, by decide +kernel, by decide +kernel⟩
abbrev d_lw_pick : He.DefD := ⟨("_law_pick", none), "_law_pick", "_law_pick", defArgs s_lw_pick, defBody s_lw_pick, defScope s_lw_pick, [], []⟩
theorem sc_lw_reserved : FnScope x_lw_reserved.N [] (defScope s_lw_reserved) := ⟨rfl, rfl, rfl, by decide +kernel, rfl, by decide +kernel, by decide +kernel⟩
abbrev d_lw_reserved : He.DefD := ⟨("_law_reserved", none), "_law_reserved", "_law_reserved", defArgs s_lw_reserved, defBody s_lw_reserved, defScope s_lw_reserved, [], []⟩
theorem sc_lw_word : FnScope x_lw_word.N ["bag"] (defScope s_lw_word) := ⟨rfl, rfl, rfl, by decide +kernel, rfl, by decide +kernel, by decide +kernel⟩
abbrev d_lw_word : He.DefD := ⟨("_law_word", none), "_law_word", "_law_word", defArgs s_lw_word, defBody s_lw_word, defScope s_lw_word, [], []⟩
theorem sc_lw_name : FnScope x_lw_name.N ["bag"] (defScope s_lw_name) := ⟨rfl, rfl, rfl, by decide +kernel, rfl, by decide +kernel, by decide +kernel⟩
abbrev d_lw_name : He.DefD := ⟨("_law_name", none), "_law_name", "_law_name", defArgs s_lw_name, defBody s_lw_name, defScope s_lw_name, [], []⟩
theorem sc_lw_ref : FnScope x_lw_ref.N ["bag"] (defScope s_lw_ref) := ⟨rfl, rfl, rfl, by decide +kernel, rfl, by decide +kernel, by decide +kernel⟩
abbrev d_lw_ref : He.DefD := ⟨("_law_ref", none), "_law_ref", "_law_ref", defArgs s_lw_ref, defBody s_lw_ref, defScope s_lw_ref, [], []⟩
theorem sc_lw_number : FnScope x_lw_number.N ["bag"] (defScope s_lw_number) := ⟨rfl, rfl, rfl, by decide +kernel, rfl, by decide +kernel, by decide +kernel⟩
abbrev d_lw_number : He.DefD := ⟨("_law_number", none), "_law_number", "_law_number", defArgs s_lw_number, defBody s_lw_number, defScope s_lw_number, [], []⟩
theorem sc_lw_side : FnScope x_lw_side.N ["bag"] (defScope s_lw_side) := ⟨rfl, rfl, rfl, by decide +kernel, rfl, by decide +kernel, by decide +kernel⟩
abbrev d_lw_side : He.DefD := ⟨("_law_side", none), "_law_side", "_law_side", defArgs s_lw_side, defBody s_lw_side, defScope s_lw_side, [], []⟩
theorem sc_lw_expr : FnScope x_lw_expr.N ["bag", "left"] (defScope s_lw_expr) := ⟨rfl, rfl, rfl, by decide +kernel, rfl, by decide +kernel, by decide +kernel⟩
abbrev d_lw_expr : He.DefD := ⟨("_law_expr", none), "_law_expr", "_law_expr", defArgs s_lw_expr, defBody s_lw_expr, defScope s_lw_expr, [], []⟩
theorem sc_lw_expr_text : FnScope x_lw_expr_text.N ["expr"] (defScope s_lw_expr_text) := ⟨rfl, rfl, rfl, by decide +kernel, rfl, by decide +kernel, by decide +kernel⟩
abbrev d_lw_expr_text : He.DefD := ⟨("_law_expr_text", none), "_law_expr_text", "_law_expr_text", defArgs s_lw_expr_text, defBody s_lw_expr_text, defScope s_lw_expr_text, [], []⟩
theorem sc_lw_tokens : FnScope x_lw_tokens.N ["bag", "expr", "left"] (defScope s_lw_tokens) := ⟨rfl, rfl, rfl, by decide +kernel, rfl, by decide +kernel, by decide +kernel⟩
abbrev d_lw_tokens : He.DefD := ⟨("_law_tokens", none), "_law_tokens", "_law_tokens", defArgs s_lw_tokens, defBody s_lw_tokens, defScope s_lw_tokens, [], []⟩
theorem sc_lw_spread : FnScope x_lw_spread.N ["bag", "row"] (defScope s_lw_spread) := ⟨rfl, rfl, rfl, by decide +kernel, rfl, by decide +kernel, by decide +kernel⟩
abbrev d_lw_spread : He.DefD := ⟨("_law_spread", none), "_law_spread", "_law_spread", defArgs s_lw_spread, defBody s_lw_spread, defScope s_lw_spread, [], []⟩
theorem sc_lw_same : FnScope x_lw_same.N ["got", "due"] (defScope s_lw_same) := ⟨rfl, rfl, rfl, by decide +kernel, rfl, by decide +kernel, by decide +kernel⟩
abbrev d_lw_same : He.DefD := ⟨("_law_same", none), "_law_same", "_law_same", defArgs s_lw_same, defBody s_lw_same, defScope s_lw_same, [], []⟩
theorem sc_law : FnScope x_law.N ["script"] (defScope s_law) := ⟨rfl, rfl, rfl, by decide +kernel, rfl, by decide +kernel, by decide +kernel⟩
abbrev d_law : He.DefD := ⟨("law", none), "law", "law", defArgs s_law, defBody s_law, defScope s_law, [], []⟩
def fn : List He.DefD := [d_side_text, d_atom_text, d_right_text, d_expression_text, d_word_end, d_line_tokens, d_is_part, d_is_word, d_is_ref, d_is_number, d_Cursoru_initu, d_Cursor_peek, d_Cursor_take, d_Cursor_accept, d_Cursor_expect, d_Cursor_finish, d_Cursor_open_bracket, d_Cursor_close_bracket, d_line_cursor, d_read_ref, d_read_number, d_read_side, d_read_expression, d_read_term, d_read_atom, d_parse_expression, d_lw_bag, d_lw_take, d_lw_pick, d_lw_reserved, d_lw_word, d_lw_name, d_lw_ref, d_lw_number, d_lw_side, d_lw_expr, d_lw_expr_text, d_lw_tokens, d_lw_spread, d_lw_same, d_law]
def fa0 : List He.Fa := [.free "range", .free "str", .free "int", .free "len", .free "isinstance", .free "tuple", .free "list", .free "bool", .free "reversed", .free "min", .free "max", .glo "SUMS_labels", .str "WORD_SIGNS" "abcdefghijklmnopqrstuvwxyz0123456789.", .glo "DOUBLE_SIGNS", .str "SINGLE_SIGNS" "()&|/^_<>=+-*,:SRTC", .int "MOST_BRACKETS" 12, .int "LONGEST_NUMBER" 6, .str "DIGITS" "0123456789", .glo "RESERVED", .str "LETTERS" "abcdefghijklmnopqrstuvwxyz", .str "NAME_SIGNS" "abcdefghijklmnopqrstuvwxyz0123456789", .glo "side_text", .glo "atom_text", .glo "right_text", .glo "expression_text", .glo "word_end", .glo "line_tokens", .glo "is_part", .glo "is_word", .glo "is_ref"]
def fa1 : List He.Fa := [.glo "is_number", .glo "line_cursor", .glo "read_ref", .glo "read_number", .glo "read_side", .glo "read_expression", .glo "read_term", .glo "read_atom", .glo "parse_expression", .glo "_law_bag", .glo "_law_take", .glo "_law_pick", .glo "_law_reserved", .glo "_law_word", .glo "_law_name", .glo "_law_ref", .glo "_law_number", .glo "_law_side", .glo "_law_expr", .glo "_law_expr_text", .glo "_law_tokens", .glo "_law_spread", .glo "_law_same", .glo "law", .mkr "Cursor", .glo "Cursor", .cls "Cursor", .meth "Cursor" "peek", .meth "Cursor" "take", .meth "Cursor" "accept"]
def fa2 : List He.Fa := [.meth "Cursor" "expect", .meth "Cursor" "finish", .meth "Cursor" "open_bracket", .meth "Cursor" "close_bracket", .noat "Cursor" "tokens", .noat "Cursor" "line", .noat "Cursor" "at", .noat "Cursor" "brackets", .glo "SIGNS", .glo "SUMS_phrases"]
def fa : List He.Fa := fa0 ++ fa1 ++ fa2
def ts : List He.Tab := [((fun K => He.ga K "SIGNS"), ["add", "sub", "mul"]), ((fun K => He.ga K "SUMS_phrases"), ["+", "-"])]
def xb0 (K : PySem.W.Frag) : Bool := He.tupB K "SUMS_labels" [.str "add", .str "sub"] && EV.tupD K (He.ga K "SUMS_labels")
def xb1 (K : PySem.W.Frag) : Bool := He.tupB K "DOUBLE_SIGNS" [.str ":=", .str "<=", .str ">=", .str "!="] && EV.tupD K (He.ga K "DOUBLE_SIGNS")
def xb2 (K : PySem.W.Frag) : Bool := He.tupB K "RESERVED" [.str "project", .str "steady", .str "fails", .str "input", .str "output", .str "top", .str "rest", .str "flag", .str "word", .str "first", .str "retained", .str "timer", .str "on", .str "off", .str "pulse", .str "sum", .str "counter", .str "up", .str "down", .str "chart", .str "step", .str "limit", .str "move", .str "to", .str "when", .str "end", .str "instance", .str "of", .str "block", .str "in", .str "out", .str "begin", .str "task", .str "every", .str "at", .str "rung", .str "zone", .str "advance", .str "part", .str "call", .str "skip", .str "plant", .str "budget", .str "cell", .str "sensor", .str "case", .str "chance", .str "fault", .str "stuck", .str "freeze", .str "blink", .str "never", .str "within", .str "after", .str "comes", .str "min", .str "max", .str "powered", .str "phase"] && EV.tupD K (He.ga K "RESERVED")
def xb3 (K : PySem.W.Frag) : Bool := He.valsB K (He.ga K "SIGNS") [("add", .str " + "), ("sub", .str " - "), ("mul", .str " * ")] && ([] : List Str).all fun s => He.eqO (PySem.W.nsIn K (He.ga K "SIGNS") s) (some none)
def xb4 (K : PySem.W.Frag) : Bool := He.valsB K (He.ga K "SUMS_phrases") [("+", .str "add"), ("-", .str "sub")] && ([] : List Str).all fun s => He.eqO (PySem.W.nsIn K (He.ga K "SUMS_phrases") s) (some none)
def xb5 (K : PySem.W.Frag) : Bool := EV.keysB K (He.ga K "SIGNS") ["add", "sub", "mul"]
def xb6 (K : PySem.W.Frag) : Bool := EV.keysB K (He.ga K "SUMS_phrases") ["+", "-"]
def xb (K : PySem.W.Frag) : Bool := xb0 K && (xb1 K && (xb2 K && (xb3 K && (xb4 K && (xb5 K && (xb6 K && (true)))))))
/-- what the top has left -/
structure Tx (K : PySem.W.Frag) (mg : Str → Option Value) (w : World) : Prop where
  ex : ∃ h : Heap, K.In h ∧ h.Ns mainGlobals mg
  c : He.SaysD fa fn K
  x : xb K = true
  k0 : ∃ es n, KDict K w (He.ga K "SIGNS") es n
  k1 : ∃ es n, KDict K w (He.ga K "SUMS_phrases") es n
section
variable {K : PySem.W.Frag} {mg : Str → Option Value} {w : World}
theorem xq0 (T : Tx K mg w) : xb0 K = true := (Bool.and_eq_true_iff.mp T.x).1
theorem xq1 (T : Tx K mg w) : xb1 K = true := (Bool.and_eq_true_iff.mp (Bool.and_eq_true_iff.mp T.x).2).1
theorem xq2 (T : Tx K mg w) : xb2 K = true := (Bool.and_eq_true_iff.mp (Bool.and_eq_true_iff.mp (Bool.and_eq_true_iff.mp T.x).2).2).1
theorem xq3 (T : Tx K mg w) : xb3 K = true := (Bool.and_eq_true_iff.mp (Bool.and_eq_true_iff.mp (Bool.and_eq_true_iff.mp (Bool.and_eq_true_iff.mp T.x).2).2).2).1
theorem xq4 (T : Tx K mg w) : xb4 K = true := (Bool.and_eq_true_iff.mp (Bool.and_eq_true_iff.mp (Bool.and_eq_true_iff.mp (Bool.and_eq_true_iff.mp (Bool.and_eq_true_iff.mp T.x).2).2).2).2).1
theorem xq5 (T : Tx K mg w) : xb5 K = true := (Bool.and_eq_true_iff.mp (Bool.and_eq_true_iff.mp (Bool.and_eq_true_iff.mp (Bool.and_eq_true_iff.mp (Bool.and_eq_true_iff.mp (Bool.and_eq_true_iff.mp T.x).2).2).2).2).2).1
theorem xq6 (T : Tx K mg w) : xb6 K = true := (Bool.and_eq_true_iff.mp (Bool.and_eq_true_iff.mp (Bool.and_eq_true_iff.mp (Bool.and_eq_true_iff.mp (Bool.and_eq_true_iff.mp (Bool.and_eq_true_iff.mp (Bool.and_eq_true_iff.mp T.x).2).2).2).2).2).2).1
noncomputable def fd_side_text (T : Tx K mg w) : FuncData := (T.c.def_ 0 (d := d_side_text) rfl).choose
theorem F_side_text (T : Tx K mg w) : FunD K "side_text" "side_text" (defArgs s_side_text) (defBody s_side_text) (defScope s_side_text) [] [] (He.fAd K d_side_text.at_) (fd_side_text T) := (T.c.def_ 0 (d := d_side_text) rfl).choose_spec
theorem B_side_text (T : Tx K mg w) : Binds K (fd_side_text T) ["side"] [] := (F_side_text T).bindsN fun _ _ _ _ _ _ us hl => match us, hl with | [_], _ => rfl
noncomputable def fd_atom_text (T : Tx K mg w) : FuncData := (T.c.def_ 1 (d := d_atom_text) rfl).choose
theorem F_atom_text (T : Tx K mg w) : FunD K "atom_text" "atom_text" (defArgs s_atom_text) (defBody s_atom_text) (defScope s_atom_text) [] [] (He.fAd K d_atom_text.at_) (fd_atom_text T) := (T.c.def_ 1 (d := d_atom_text) rfl).choose_spec
theorem B_atom_text (T : Tx K mg w) : Binds K (fd_atom_text T) ["expr"] [] := (F_atom_text T).bindsN fun _ _ _ _ _ _ us hl => match us, hl with | [_], _ => rfl
noncomputable def fd_right_text (T : Tx K mg w) : FuncData := (T.c.def_ 2 (d := d_right_text) rfl).choose
theorem F_right_text (T : Tx K mg w) : FunD K "right_text" "right_text" (defArgs s_right_text) (defBody s_right_text) (defScope s_right_text) [] [] (He.fAd K d_right_text.at_) (fd_right_text T) := (T.c.def_ 2 (d := d_right_text) rfl).choose_spec
theorem B_right_text (T : Tx K mg w) : Binds K (fd_right_text T) ["kind", "side"] [] := (F_right_text T).bindsN fun _ _ _ _ _ _ us hl => match us, hl with | [_, _], _ => rfl
noncomputable def fd_expression_text (T : Tx K mg w) : FuncData := (T.c.def_ 3 (d := d_expression_text) rfl).choose
theorem F_expression_text (T : Tx K mg w) : FunD K "expression_text" "expression_text" (defArgs s_expression_text) (defBody s_expression_text) (defScope s_expression_text) [] [] (He.fAd K d_expression_text.at_) (fd_expression_text T) := (T.c.def_ 3 (d := d_expression_text) rfl).choose_spec
theorem B_expression_text (T : Tx K mg w) : Binds K (fd_expression_text T) ["expr"] [] := (F_expression_text T).bindsN fun _ _ _ _ _ _ us hl => match us, hl with | [_], _ => rfl
noncomputable def fd_word_end (T : Tx K mg w) : FuncData := (T.c.def_ 4 (d := d_word_end) rfl).choose
theorem F_word_end (T : Tx K mg w) : FunD K "word_end" "word_end" (defArgs s_word_end) (defBody s_word_end) (defScope s_word_end) [] [] (He.fAd K d_word_end.at_) (fd_word_end T) := (T.c.def_ 4 (d := d_word_end) rfl).choose_spec
theorem B_word_end (T : Tx K mg w) : Binds K (fd_word_end T) ["line", "start"] [] := (F_word_end T).bindsN fun _ _ _ _ _ _ us hl => match us, hl with | [_, _], _ => rfl
noncomputable def fd_line_tokens (T : Tx K mg w) : FuncData := (T.c.def_ 5 (d := d_line_tokens) rfl).choose
theorem F_line_tokens (T : Tx K mg w) : FunD K "line_tokens" "line_tokens" (defArgs s_line_tokens) (defBody s_line_tokens) (defScope s_line_tokens) [] [] (He.fAd K d_line_tokens.at_) (fd_line_tokens T) := (T.c.def_ 5 (d := d_line_tokens) rfl).choose_spec
theorem B_line_tokens (T : Tx K mg w) : Binds K (fd_line_tokens T) ["line"] [] := (F_line_tokens T).bindsN fun _ _ _ _ _ _ us hl => match us, hl with | [_], _ => rfl
noncomputable def fd_is_part (T : Tx K mg w) : FuncData := (T.c.def_ 6 (d := d_is_part) rfl).choose
theorem F_is_part (T : Tx K mg w) : FunD K "is_part" "is_part" (defArgs s_is_part) (defBody s_is_part) (defScope s_is_part) [] [] (He.fAd K d_is_part.at_) (fd_is_part T) := (T.c.def_ 6 (d := d_is_part) rfl).choose_spec
theorem B_is_part (T : Tx K mg w) : Binds K (fd_is_part T) ["text"] [] := (F_is_part T).bindsN fun _ _ _ _ _ _ us hl => match us, hl with | [_], _ => rfl
noncomputable def fd_is_word (T : Tx K mg w) : FuncData := (T.c.def_ 7 (d := d_is_word) rfl).choose
theorem F_is_word (T : Tx K mg w) : FunD K "is_word" "is_word" (defArgs s_is_word) (defBody s_is_word) (defScope s_is_word) [] [] (He.fAd K d_is_word.at_) (fd_is_word T) := (T.c.def_ 7 (d := d_is_word) rfl).choose_spec
theorem B_is_word (T : Tx K mg w) : Binds K (fd_is_word T) ["text"] [] := (F_is_word T).bindsN fun _ _ _ _ _ _ us hl => match us, hl with | [_], _ => rfl
noncomputable def fd_is_ref (T : Tx K mg w) : FuncData := (T.c.def_ 8 (d := d_is_ref) rfl).choose
theorem F_is_ref (T : Tx K mg w) : FunD K "is_ref" "is_ref" (defArgs s_is_ref) (defBody s_is_ref) (defScope s_is_ref) [] [] (He.fAd K d_is_ref.at_) (fd_is_ref T) := (T.c.def_ 8 (d := d_is_ref) rfl).choose_spec
theorem B_is_ref (T : Tx K mg w) : Binds K (fd_is_ref T) ["text"] [] := (F_is_ref T).bindsN fun _ _ _ _ _ _ us hl => match us, hl with | [_], _ => rfl
noncomputable def fd_is_number (T : Tx K mg w) : FuncData := (T.c.def_ 9 (d := d_is_number) rfl).choose
theorem F_is_number (T : Tx K mg w) : FunD K "is_number" "is_number" (defArgs s_is_number) (defBody s_is_number) (defScope s_is_number) [] [] (He.fAd K d_is_number.at_) (fd_is_number T) := (T.c.def_ 9 (d := d_is_number) rfl).choose_spec
theorem B_is_number (T : Tx K mg w) : Binds K (fd_is_number T) ["text"] [] := (F_is_number T).bindsN fun _ _ _ _ _ _ us hl => match us, hl with | [_], _ => rfl
noncomputable def fd_Cursoru_initu (T : Tx K mg w) : FuncData := (T.c.def_ 10 (d := d_Cursoru_initu) rfl).choose
theorem F_Cursoru_initu (T : Tx K mg w) : FunD K "__init__" "Cursor.__init__" (defArgs s_Cursoru_initu) (defBody s_Cursoru_initu) (defScope s_Cursoru_initu) [] [] (He.fAd K d_Cursoru_initu.at_) (fd_Cursoru_initu T) := (T.c.def_ 10 (d := d_Cursoru_initu) rfl).choose_spec
theorem B_Cursoru_initu (T : Tx K mg w) : Binds K (fd_Cursoru_initu T) ["self", "tokens", "line"] [] := (F_Cursoru_initu T).bindsN fun _ _ _ _ _ _ us hl => match us, hl with | [_, _, _], _ => rfl
noncomputable def fd_Cursor_peek (T : Tx K mg w) : FuncData := (T.c.def_ 11 (d := d_Cursor_peek) rfl).choose
theorem F_Cursor_peek (T : Tx K mg w) : FunD K "peek" "Cursor.peek" (defArgs s_Cursor_peek) (defBody s_Cursor_peek) (defScope s_Cursor_peek) [] [] (He.fAd K d_Cursor_peek.at_) (fd_Cursor_peek T) := (T.c.def_ 11 (d := d_Cursor_peek) rfl).choose_spec
theorem B_Cursor_peek (T : Tx K mg w) : Binds K (fd_Cursor_peek T) ["self"] [] := (F_Cursor_peek T).bindsN fun _ _ _ _ _ _ us hl => match us, hl with | [_], _ => rfl
noncomputable def fd_Cursor_take (T : Tx K mg w) : FuncData := (T.c.def_ 12 (d := d_Cursor_take) rfl).choose
theorem F_Cursor_take (T : Tx K mg w) : FunD K "take" "Cursor.take" (defArgs s_Cursor_take) (defBody s_Cursor_take) (defScope s_Cursor_take) [] [] (He.fAd K d_Cursor_take.at_) (fd_Cursor_take T) := (T.c.def_ 12 (d := d_Cursor_take) rfl).choose_spec
theorem B_Cursor_take (T : Tx K mg w) : Binds K (fd_Cursor_take T) ["self"] [] := (F_Cursor_take T).bindsN fun _ _ _ _ _ _ us hl => match us, hl with | [_], _ => rfl
noncomputable def fd_Cursor_accept (T : Tx K mg w) : FuncData := (T.c.def_ 13 (d := d_Cursor_accept) rfl).choose
theorem F_Cursor_accept (T : Tx K mg w) : FunD K "accept" "Cursor.accept" (defArgs s_Cursor_accept) (defBody s_Cursor_accept) (defScope s_Cursor_accept) [] [] (He.fAd K d_Cursor_accept.at_) (fd_Cursor_accept T) := (T.c.def_ 13 (d := d_Cursor_accept) rfl).choose_spec
theorem B_Cursor_accept (T : Tx K mg w) : Binds K (fd_Cursor_accept T) ["self", "token"] [] := (F_Cursor_accept T).bindsN fun _ _ _ _ _ _ us hl => match us, hl with | [_, _], _ => rfl
noncomputable def fd_Cursor_expect (T : Tx K mg w) : FuncData := (T.c.def_ 14 (d := d_Cursor_expect) rfl).choose
theorem F_Cursor_expect (T : Tx K mg w) : FunD K "expect" "Cursor.expect" (defArgs s_Cursor_expect) (defBody s_Cursor_expect) (defScope s_Cursor_expect) [] [] (He.fAd K d_Cursor_expect.at_) (fd_Cursor_expect T) := (T.c.def_ 14 (d := d_Cursor_expect) rfl).choose_spec
theorem B_Cursor_expect (T : Tx K mg w) : Binds K (fd_Cursor_expect T) ["self", "token"] [] := (F_Cursor_expect T).bindsN fun _ _ _ _ _ _ us hl => match us, hl with | [_, _], _ => rfl
noncomputable def fd_Cursor_finish (T : Tx K mg w) : FuncData := (T.c.def_ 15 (d := d_Cursor_finish) rfl).choose
theorem F_Cursor_finish (T : Tx K mg w) : FunD K "finish" "Cursor.finish" (defArgs s_Cursor_finish) (defBody s_Cursor_finish) (defScope s_Cursor_finish) [] [] (He.fAd K d_Cursor_finish.at_) (fd_Cursor_finish T) := (T.c.def_ 15 (d := d_Cursor_finish) rfl).choose_spec
theorem B_Cursor_finish (T : Tx K mg w) : Binds K (fd_Cursor_finish T) ["self"] [] := (F_Cursor_finish T).bindsN fun _ _ _ _ _ _ us hl => match us, hl with | [_], _ => rfl
noncomputable def fd_Cursor_open_bracket (T : Tx K mg w) : FuncData := (T.c.def_ 16 (d := d_Cursor_open_bracket) rfl).choose
theorem F_Cursor_open_bracket (T : Tx K mg w) : FunD K "open_bracket" "Cursor.open_bracket" (defArgs s_Cursor_open_bracket) (defBody s_Cursor_open_bracket) (defScope s_Cursor_open_bracket) [] [] (He.fAd K d_Cursor_open_bracket.at_) (fd_Cursor_open_bracket T) := (T.c.def_ 16 (d := d_Cursor_open_bracket) rfl).choose_spec
theorem B_Cursor_open_bracket (T : Tx K mg w) : Binds K (fd_Cursor_open_bracket T) ["self"] [] := (F_Cursor_open_bracket T).bindsN fun _ _ _ _ _ _ us hl => match us, hl with | [_], _ => rfl
noncomputable def fd_Cursor_close_bracket (T : Tx K mg w) : FuncData := (T.c.def_ 17 (d := d_Cursor_close_bracket) rfl).choose
theorem F_Cursor_close_bracket (T : Tx K mg w) : FunD K "close_bracket" "Cursor.close_bracket" (defArgs s_Cursor_close_bracket) (defBody s_Cursor_close_bracket) (defScope s_Cursor_close_bracket) [] [] (He.fAd K d_Cursor_close_bracket.at_) (fd_Cursor_close_bracket T) := (T.c.def_ 17 (d := d_Cursor_close_bracket) rfl).choose_spec
theorem B_Cursor_close_bracket (T : Tx K mg w) : Binds K (fd_Cursor_close_bracket T) ["self"] [] := (F_Cursor_close_bracket T).bindsN fun _ _ _ _ _ _ us hl => match us, hl with | [_], _ => rfl
noncomputable def fd_line_cursor (T : Tx K mg w) : FuncData := (T.c.def_ 18 (d := d_line_cursor) rfl).choose
theorem F_line_cursor (T : Tx K mg w) : FunD K "line_cursor" "line_cursor" (defArgs s_line_cursor) (defBody s_line_cursor) (defScope s_line_cursor) [] [] (He.fAd K d_line_cursor.at_) (fd_line_cursor T) := (T.c.def_ 18 (d := d_line_cursor) rfl).choose_spec
theorem B_line_cursor (T : Tx K mg w) : Binds K (fd_line_cursor T) ["line", "number"] [] := (F_line_cursor T).bindsN fun _ _ _ _ _ _ us hl => match us, hl with | [_, _], _ => rfl
noncomputable def fd_read_ref (T : Tx K mg w) : FuncData := (T.c.def_ 19 (d := d_read_ref) rfl).choose
theorem F_read_ref (T : Tx K mg w) : FunD K "read_ref" "read_ref" (defArgs s_read_ref) (defBody s_read_ref) (defScope s_read_ref) [] [] (He.fAd K d_read_ref.at_) (fd_read_ref T) := (T.c.def_ 19 (d := d_read_ref) rfl).choose_spec
theorem B_read_ref (T : Tx K mg w) : Binds K (fd_read_ref T) ["cursor"] [] := (F_read_ref T).bindsN fun _ _ _ _ _ _ us hl => match us, hl with | [_], _ => rfl
noncomputable def fd_read_number (T : Tx K mg w) : FuncData := (T.c.def_ 20 (d := d_read_number) rfl).choose
theorem F_read_number (T : Tx K mg w) : FunD K "read_number" "read_number" (defArgs s_read_number) (defBody s_read_number) (defScope s_read_number) [] [] (He.fAd K d_read_number.at_) (fd_read_number T) := (T.c.def_ 20 (d := d_read_number) rfl).choose_spec
theorem B_read_number (T : Tx K mg w) : Binds K (fd_read_number T) ["cursor"] [] := (F_read_number T).bindsN fun _ _ _ _ _ _ us hl => match us, hl with | [_], _ => rfl
noncomputable def fd_read_side (T : Tx K mg w) : FuncData := (T.c.def_ 21 (d := d_read_side) rfl).choose
theorem F_read_side (T : Tx K mg w) : FunD K "read_side" "read_side" (defArgs s_read_side) (defBody s_read_side) (defScope s_read_side) [] [] (He.fAd K d_read_side.at_) (fd_read_side T) := (T.c.def_ 21 (d := d_read_side) rfl).choose_spec
theorem B_read_side (T : Tx K mg w) : Binds K (fd_read_side T) ["cursor"] [] := (F_read_side T).bindsN fun _ _ _ _ _ _ us hl => match us, hl with | [_], _ => rfl
noncomputable def fd_read_expression (T : Tx K mg w) : FuncData := (T.c.def_ 22 (d := d_read_expression) rfl).choose
theorem F_read_expression (T : Tx K mg w) : FunD K "read_expression" "read_expression" (defArgs s_read_expression) (defBody s_read_expression) (defScope s_read_expression) [] [] (He.fAd K d_read_expression.at_) (fd_read_expression T) := (T.c.def_ 22 (d := d_read_expression) rfl).choose_spec
theorem B_read_expression (T : Tx K mg w) : Binds K (fd_read_expression T) ["cursor"] [] := (F_read_expression T).bindsN fun _ _ _ _ _ _ us hl => match us, hl with | [_], _ => rfl
noncomputable def fd_read_term (T : Tx K mg w) : FuncData := (T.c.def_ 23 (d := d_read_term) rfl).choose
theorem F_read_term (T : Tx K mg w) : FunD K "read_term" "read_term" (defArgs s_read_term) (defBody s_read_term) (defScope s_read_term) [] [] (He.fAd K d_read_term.at_) (fd_read_term T) := (T.c.def_ 23 (d := d_read_term) rfl).choose_spec
theorem B_read_term (T : Tx K mg w) : Binds K (fd_read_term T) ["cursor"] [] := (F_read_term T).bindsN fun _ _ _ _ _ _ us hl => match us, hl with | [_], _ => rfl
noncomputable def fd_read_atom (T : Tx K mg w) : FuncData := (T.c.def_ 24 (d := d_read_atom) rfl).choose
theorem F_read_atom (T : Tx K mg w) : FunD K "read_atom" "read_atom" (defArgs s_read_atom) (defBody s_read_atom) (defScope s_read_atom) [] [] (He.fAd K d_read_atom.at_) (fd_read_atom T) := (T.c.def_ 24 (d := d_read_atom) rfl).choose_spec
theorem B_read_atom (T : Tx K mg w) : Binds K (fd_read_atom T) ["cursor"] [] := (F_read_atom T).bindsN fun _ _ _ _ _ _ us hl => match us, hl with | [_], _ => rfl
noncomputable def fd_parse_expression (T : Tx K mg w) : FuncData := (T.c.def_ 25 (d := d_parse_expression) rfl).choose
theorem F_parse_expression (T : Tx K mg w) : FunD K "parse_expression" "parse_expression" (defArgs s_parse_expression) (defBody s_parse_expression) (defScope s_parse_expression) [] [] (He.fAd K d_parse_expression.at_) (fd_parse_expression T) := (T.c.def_ 25 (d := d_parse_expression) rfl).choose_spec
theorem B_parse_expression (T : Tx K mg w) : Binds K (fd_parse_expression T) ["text"] [] := (F_parse_expression T).bindsN fun _ _ _ _ _ _ us hl => match us, hl with | [_], _ => rfl
noncomputable def fd_lw_bag (T : Tx K mg w) : FuncData := (T.c.def_ 26 (d := d_lw_bag) rfl).choose
theorem F_lw_bag (T : Tx K mg w) : FunD K "_law_bag" "_law_bag" (defArgs s_lw_bag) (defBody s_lw_bag) (defScope s_lw_bag) [] [] (He.fAd K d_lw_bag.at_) (fd_lw_bag T) := (T.c.def_ 26 (d := d_lw_bag) rfl).choose_spec
theorem B_lw_bag (T : Tx K mg w) : Binds K (fd_lw_bag T) ["script", "at"] [] := (F_lw_bag T).bindsN fun _ _ _ _ _ _ us hl => match us, hl with | [_, _], _ => rfl
noncomputable def fd_lw_take (T : Tx K mg w) : FuncData := (T.c.def_ 27 (d := d_lw_take) rfl).choose
theorem F_lw_take (T : Tx K mg w) : FunD K "_law_take" "_law_take" (defArgs s_lw_take) (defBody s_lw_take) (defScope s_lw_take) [] [] (He.fAd K d_lw_take.at_) (fd_lw_take T) := (T.c.def_ 27 (d := d_lw_take) rfl).choose_spec
theorem B_lw_take (T : Tx K mg w) : Binds K (fd_lw_take T) ["bag", "many"] [] := (F_lw_take T).bindsN fun _ _ _ _ _ _ us hl => match us, hl with | [_, _], _ => rfl
noncomputable def fd_lw_pick (T : Tx K mg w) : FuncData := (T.c.def_ 28 (d := d_lw_pick) rfl).choose
theorem F_lw_pick (T : Tx K mg w) : FunD K "_law_pick" "_law_pick" (defArgs s_lw_pick) (defBody s_lw_pick) (defScope s_lw_pick) [] [] (He.fAd K d_lw_pick.at_) (fd_lw_pick T) := (T.c.def_ 28 (d := d_lw_pick) rfl).choose_spec
theorem B_lw_pick (T : Tx K mg w) : Binds K (fd_lw_pick T) ["bag", "menu"] [] := (F_lw_pick T).bindsN fun _ _ _ _ _ _ us hl => match us, hl with | [_, _], _ => rfl
noncomputable def fd_lw_reserved (T : Tx K mg w) : FuncData := (T.c.def_ 29 (d := d_lw_reserved) rfl).choose
theorem F_lw_reserved (T : Tx K mg w) : FunD K "_law_reserved" "_law_reserved" (defArgs s_lw_reserved) (defBody s_lw_reserved) (defScope s_lw_reserved) [] [] (He.fAd K d_lw_reserved.at_) (fd_lw_reserved T) := (T.c.def_ 29 (d := d_lw_reserved) rfl).choose_spec
theorem B_lw_reserved (T : Tx K mg w) : Binds K (fd_lw_reserved T) [] [] := (F_lw_reserved T).bindsN fun _ _ _ _ _ _ us hl => match us, hl with | [], _ => rfl
noncomputable def fd_lw_word (T : Tx K mg w) : FuncData := (T.c.def_ 30 (d := d_lw_word) rfl).choose
theorem F_lw_word (T : Tx K mg w) : FunD K "_law_word" "_law_word" (defArgs s_lw_word) (defBody s_lw_word) (defScope s_lw_word) [] [] (He.fAd K d_lw_word.at_) (fd_lw_word T) := (T.c.def_ 30 (d := d_lw_word) rfl).choose_spec
theorem B_lw_word (T : Tx K mg w) : Binds K (fd_lw_word T) ["bag"] [] := (F_lw_word T).bindsN fun _ _ _ _ _ _ us hl => match us, hl with | [_], _ => rfl
noncomputable def fd_lw_name (T : Tx K mg w) : FuncData := (T.c.def_ 31 (d := d_lw_name) rfl).choose
theorem F_lw_name (T : Tx K mg w) : FunD K "_law_name" "_law_name" (defArgs s_lw_name) (defBody s_lw_name) (defScope s_lw_name) [] [] (He.fAd K d_lw_name.at_) (fd_lw_name T) := (T.c.def_ 31 (d := d_lw_name) rfl).choose_spec
theorem B_lw_name (T : Tx K mg w) : Binds K (fd_lw_name T) ["bag"] [] := (F_lw_name T).bindsN fun _ _ _ _ _ _ us hl => match us, hl with | [_], _ => rfl
noncomputable def fd_lw_ref (T : Tx K mg w) : FuncData := (T.c.def_ 32 (d := d_lw_ref) rfl).choose
theorem F_lw_ref (T : Tx K mg w) : FunD K "_law_ref" "_law_ref" (defArgs s_lw_ref) (defBody s_lw_ref) (defScope s_lw_ref) [] [] (He.fAd K d_lw_ref.at_) (fd_lw_ref T) := (T.c.def_ 32 (d := d_lw_ref) rfl).choose_spec
theorem B_lw_ref (T : Tx K mg w) : Binds K (fd_lw_ref T) ["bag"] [] := (F_lw_ref T).bindsN fun _ _ _ _ _ _ us hl => match us, hl with | [_], _ => rfl
noncomputable def fd_lw_number (T : Tx K mg w) : FuncData := (T.c.def_ 33 (d := d_lw_number) rfl).choose
theorem F_lw_number (T : Tx K mg w) : FunD K "_law_number" "_law_number" (defArgs s_lw_number) (defBody s_lw_number) (defScope s_lw_number) [] [] (He.fAd K d_lw_number.at_) (fd_lw_number T) := (T.c.def_ 33 (d := d_lw_number) rfl).choose_spec
theorem B_lw_number (T : Tx K mg w) : Binds K (fd_lw_number T) ["bag"] [] := (F_lw_number T).bindsN fun _ _ _ _ _ _ us hl => match us, hl with | [_], _ => rfl
noncomputable def fd_lw_side (T : Tx K mg w) : FuncData := (T.c.def_ 34 (d := d_lw_side) rfl).choose
theorem F_lw_side (T : Tx K mg w) : FunD K "_law_side" "_law_side" (defArgs s_lw_side) (defBody s_lw_side) (defScope s_lw_side) [] [] (He.fAd K d_lw_side.at_) (fd_lw_side T) := (T.c.def_ 34 (d := d_lw_side) rfl).choose_spec
theorem B_lw_side (T : Tx K mg w) : Binds K (fd_lw_side T) ["bag"] [] := (F_lw_side T).bindsN fun _ _ _ _ _ _ us hl => match us, hl with | [_], _ => rfl
noncomputable def fd_lw_expr (T : Tx K mg w) : FuncData := (T.c.def_ 35 (d := d_lw_expr) rfl).choose
theorem F_lw_expr (T : Tx K mg w) : FunD K "_law_expr" "_law_expr" (defArgs s_lw_expr) (defBody s_lw_expr) (defScope s_lw_expr) [] [] (He.fAd K d_lw_expr.at_) (fd_lw_expr T) := (T.c.def_ 35 (d := d_lw_expr) rfl).choose_spec
theorem B_lw_expr (T : Tx K mg w) : Binds K (fd_lw_expr T) ["bag", "left"] [] := (F_lw_expr T).bindsN fun _ _ _ _ _ _ us hl => match us, hl with | [_, _], _ => rfl
noncomputable def fd_lw_expr_text (T : Tx K mg w) : FuncData := (T.c.def_ 36 (d := d_lw_expr_text) rfl).choose
theorem F_lw_expr_text (T : Tx K mg w) : FunD K "_law_expr_text" "_law_expr_text" (defArgs s_lw_expr_text) (defBody s_lw_expr_text) (defScope s_lw_expr_text) [] [] (He.fAd K d_lw_expr_text.at_) (fd_lw_expr_text T) := (T.c.def_ 36 (d := d_lw_expr_text) rfl).choose_spec
theorem B_lw_expr_text (T : Tx K mg w) : Binds K (fd_lw_expr_text T) ["expr"] [] := (F_lw_expr_text T).bindsN fun _ _ _ _ _ _ us hl => match us, hl with | [_], _ => rfl
noncomputable def fd_lw_tokens (T : Tx K mg w) : FuncData := (T.c.def_ 37 (d := d_lw_tokens) rfl).choose
theorem F_lw_tokens (T : Tx K mg w) : FunD K "_law_tokens" "_law_tokens" (defArgs s_lw_tokens) (defBody s_lw_tokens) (defScope s_lw_tokens) [] [] (He.fAd K d_lw_tokens.at_) (fd_lw_tokens T) := (T.c.def_ 37 (d := d_lw_tokens) rfl).choose_spec
theorem B_lw_tokens (T : Tx K mg w) : Binds K (fd_lw_tokens T) ["bag", "expr", "left"] [] := (F_lw_tokens T).bindsN fun _ _ _ _ _ _ us hl => match us, hl with | [_, _, _], _ => rfl
noncomputable def fd_lw_spread (T : Tx K mg w) : FuncData := (T.c.def_ 38 (d := d_lw_spread) rfl).choose
theorem F_lw_spread (T : Tx K mg w) : FunD K "_law_spread" "_law_spread" (defArgs s_lw_spread) (defBody s_lw_spread) (defScope s_lw_spread) [] [] (He.fAd K d_lw_spread.at_) (fd_lw_spread T) := (T.c.def_ 38 (d := d_lw_spread) rfl).choose_spec
theorem B_lw_spread (T : Tx K mg w) : Binds K (fd_lw_spread T) ["bag", "row"] [] := (F_lw_spread T).bindsN fun _ _ _ _ _ _ us hl => match us, hl with | [_, _], _ => rfl
noncomputable def fd_lw_same (T : Tx K mg w) : FuncData := (T.c.def_ 39 (d := d_lw_same) rfl).choose
theorem F_lw_same (T : Tx K mg w) : FunD K "_law_same" "_law_same" (defArgs s_lw_same) (defBody s_lw_same) (defScope s_lw_same) [] [] (He.fAd K d_lw_same.at_) (fd_lw_same T) := (T.c.def_ 39 (d := d_lw_same) rfl).choose_spec
theorem B_lw_same (T : Tx K mg w) : Binds K (fd_lw_same T) ["got", "due"] [] := (F_lw_same T).bindsN fun _ _ _ _ _ _ us hl => match us, hl with | [_, _], _ => rfl
noncomputable def fd_law (T : Tx K mg w) : FuncData := (T.c.def_ 40 (d := d_law) rfl).choose
theorem F_law (T : Tx K mg w) : FunD K "law" "law" (defArgs s_law) (defBody s_law) (defScope s_law) [] [] (He.fAd K d_law.at_) (fd_law T) := (T.c.def_ 40 (d := d_law) rfl).choose_spec
theorem B_law (T : Tx K mg w) : Binds K (fd_law T) ["script"] [] := (F_law T).bindsN fun _ _ _ _ _ _ us hl => match us, hl with | [_], _ => rfl
noncomputable def gD0 (T : Tx K mg w) : List EV.DefAt := [⟨He.fAd K d_side_text.at_, fd_side_text T, ["side"]⟩, ⟨He.fAd K d_atom_text.at_, fd_atom_text T, ["expr"]⟩, ⟨He.fAd K d_right_text.at_, fd_right_text T, ["kind", "side"]⟩, ⟨He.fAd K d_expression_text.at_, fd_expression_text T, ["expr"]⟩, ⟨He.fAd K d_word_end.at_, fd_word_end T, ["line", "start"]⟩, ⟨He.fAd K d_line_tokens.at_, fd_line_tokens T, ["line"]⟩, ⟨He.fAd K d_is_part.at_, fd_is_part T, ["text"]⟩, ⟨He.fAd K d_is_word.at_, fd_is_word T, ["text"]⟩, ⟨He.fAd K d_is_ref.at_, fd_is_ref T, ["text"]⟩, ⟨He.fAd K d_is_number.at_, fd_is_number T, ["text"]⟩, ⟨He.fAd K d_Cursoru_initu.at_, fd_Cursoru_initu T, ["self", "tokens", "line"]⟩, ⟨He.fAd K d_Cursor_peek.at_, fd_Cursor_peek T, ["self"]⟩, ⟨He.fAd K d_Cursor_take.at_, fd_Cursor_take T, ["self"]⟩, ⟨He.fAd K d_Cursor_accept.at_, fd_Cursor_accept T, ["self", "token"]⟩, ⟨He.fAd K d_Cursor_expect.at_, fd_Cursor_expect T, ["self", "token"]⟩, ⟨He.fAd K d_Cursor_finish.at_, fd_Cursor_finish T, ["self"]⟩, ⟨He.fAd K d_Cursor_open_bracket.at_, fd_Cursor_open_bracket T, ["self"]⟩, ⟨He.fAd K d_Cursor_close_bracket.at_, fd_Cursor_close_bracket T, ["self"]⟩, ⟨He.fAd K d_line_cursor.at_, fd_line_cursor T, ["line", "number"]⟩, ⟨He.fAd K d_read_ref.at_, fd_read_ref T, ["cursor"]⟩, ⟨He.fAd K d_read_number.at_, fd_read_number T, ["cursor"]⟩, ⟨He.fAd K d_read_side.at_, fd_read_side T, ["cursor"]⟩, ⟨He.fAd K d_read_expression.at_, fd_read_expression T, ["cursor"]⟩, ⟨He.fAd K d_read_term.at_, fd_read_term T, ["cursor"]⟩, ⟨He.fAd K d_read_atom.at_, fd_read_atom T, ["cursor"]⟩, ⟨He.fAd K d_parse_expression.at_, fd_parse_expression T, ["text"]⟩, ⟨He.fAd K d_lw_bag.at_, fd_lw_bag T, ["script", "at"]⟩, ⟨He.fAd K d_lw_take.at_, fd_lw_take T, ["bag", "many"]⟩, ⟨He.fAd K d_lw_pick.at_, fd_lw_pick T, ["bag", "menu"]⟩, ⟨He.fAd K d_lw_reserved.at_, fd_lw_reserved T, []⟩]
noncomputable def gD1 (T : Tx K mg w) : List EV.DefAt := [⟨He.fAd K d_lw_word.at_, fd_lw_word T, ["bag"]⟩, ⟨He.fAd K d_lw_name.at_, fd_lw_name T, ["bag"]⟩, ⟨He.fAd K d_lw_ref.at_, fd_lw_ref T, ["bag"]⟩, ⟨He.fAd K d_lw_number.at_, fd_lw_number T, ["bag"]⟩, ⟨He.fAd K d_lw_side.at_, fd_lw_side T, ["bag"]⟩, ⟨He.fAd K d_lw_expr.at_, fd_lw_expr T, ["bag", "left"]⟩, ⟨He.fAd K d_lw_expr_text.at_, fd_lw_expr_text T, ["expr"]⟩, ⟨He.fAd K d_lw_tokens.at_, fd_lw_tokens T, ["bag", "expr", "left"]⟩, ⟨He.fAd K d_lw_spread.at_, fd_lw_spread T, ["bag", "row"]⟩, ⟨He.fAd K d_lw_same.at_, fd_lw_same T, ["got", "due"]⟩, ⟨He.fAd K d_law.at_, fd_law T, ["script"]⟩]
noncomputable def gD (T : Tx K mg w) : List EV.DefAt := gD0 T ++ gD1 T
theorem o_df (T : Tx K mg w) : EV.Dfs K gP (gD T) := EV.dfs_cons (⟨⟨_, _, _, _, F_side_text T⟩, sc_side_text, rfl⟩)
  (EV.dfs_cons (⟨⟨_, _, _, _, F_atom_text T⟩, sc_atom_text, rfl⟩)
  (EV.dfs_cons (⟨⟨_, _, _, _, F_right_text T⟩, sc_right_text, rfl⟩)
  (EV.dfs_cons (⟨⟨_, _, _, _, F_expression_text T⟩, sc_expression_text, rfl⟩)
  (EV.dfs_cons (⟨⟨_, _, _, _, F_word_end T⟩, sc_word_end, rfl⟩)
  (EV.dfs_cons (⟨⟨_, _, _, _, F_line_tokens T⟩, sc_line_tokens, rfl⟩)
  (EV.dfs_cons (⟨⟨_, _, _, _, F_is_part T⟩, sc_is_part, rfl⟩)
  (EV.dfs_cons (⟨⟨_, _, _, _, F_is_word T⟩, sc_is_word, rfl⟩)
  (EV.dfs_cons (⟨⟨_, _, _, _, F_is_ref T⟩, sc_is_ref, rfl⟩)
  (EV.dfs_cons (⟨⟨_, _, _, _, F_is_number T⟩, sc_is_number, rfl⟩)
  (EV.dfs_cons (⟨⟨_, _, _, _, F_Cursoru_initu T⟩, sc_Cursoru_initu, rfl⟩)
  (EV.dfs_cons (⟨⟨_, _, _, _, F_Cursor_peek T⟩, sc_Cursor_peek, rfl⟩)
  (EV.dfs_cons (⟨⟨_, _, _, _, F_Cursor_take T⟩, sc_Cursor_take, rfl⟩)
  (EV.dfs_cons (⟨⟨_, _, _, _, F_Cursor_accept T⟩, sc_Cursor_accept, rfl⟩)
  (EV.dfs_cons (⟨⟨_, _, _, _, F_Cursor_expect T⟩, sc_Cursor_expect, rfl⟩)
  (EV.dfs_cons (⟨⟨_, _, _, _, F_Cursor_finish T⟩, sc_Cursor_finish, rfl⟩)
  (EV.dfs_cons (⟨⟨_, _, _, _, F_Cursor_open_bracket T⟩, sc_Cursor_open_bracket, rfl⟩)
  (EV.dfs_cons (⟨⟨_, _, _, _, F_Cursor_close_bracket T⟩, sc_Cursor_close_bracket, rfl⟩)
  (EV.dfs_cons (⟨⟨_, _, _, _, F_line_cursor T⟩, sc_line_cursor, rfl⟩)
  (EV.dfs_cons (⟨⟨_, _, _, _, F_read_ref T⟩, sc_read_ref, rfl⟩)
  (EV.dfs_cons (⟨⟨_, _, _, _, F_read_number T⟩, sc_read_number, rfl⟩)
  (EV.dfs_cons (⟨⟨_, _, _, _, F_read_side T⟩, sc_read_side, rfl⟩)
  (EV.dfs_cons (⟨⟨_, _, _, _, F_read_expression T⟩, sc_read_expression, rfl⟩)
  (EV.dfs_cons (⟨⟨_, _, _, _, F_read_term T⟩, sc_read_term, rfl⟩)
  (EV.dfs_cons (⟨⟨_, _, _, _, F_read_atom T⟩, sc_read_atom, rfl⟩)
  (EV.dfs_cons (⟨⟨_, _, _, _, F_parse_expression T⟩, sc_parse_expression, rfl⟩)
  (EV.dfs_cons (⟨⟨_, _, _, _, F_lw_bag T⟩, sc_lw_bag, rfl⟩)
  (EV.dfs_cons (⟨⟨_, _, _, _, F_lw_take T⟩, sc_lw_take, rfl⟩)
  (EV.dfs_cons (⟨⟨_, _, _, _, F_lw_pick T⟩, sc_lw_pick, rfl⟩)
  (EV.dfs_cons (⟨⟨_, _, _, _, F_lw_reserved T⟩, sc_lw_reserved, rfl⟩)
  (EV.dfs_cons (⟨⟨_, _, _, _, F_lw_word T⟩, sc_lw_word, rfl⟩)
  (EV.dfs_cons (⟨⟨_, _, _, _, F_lw_name T⟩, sc_lw_name, rfl⟩)
  (EV.dfs_cons (⟨⟨_, _, _, _, F_lw_ref T⟩, sc_lw_ref, rfl⟩)
  (EV.dfs_cons (⟨⟨_, _, _, _, F_lw_number T⟩, sc_lw_number, rfl⟩)
  (EV.dfs_cons (⟨⟨_, _, _, _, F_lw_side T⟩, sc_lw_side, rfl⟩)
  (EV.dfs_cons (⟨⟨_, _, _, _, F_lw_expr T⟩, sc_lw_expr, rfl⟩)
  (EV.dfs_cons (⟨⟨_, _, _, _, F_lw_expr_text T⟩, sc_lw_expr_text, rfl⟩)
  (EV.dfs_cons (⟨⟨_, _, _, _, F_lw_tokens T⟩, sc_lw_tokens, rfl⟩)
  (EV.dfs_cons (⟨⟨_, _, _, _, F_lw_spread T⟩, sc_lw_spread, rfl⟩)
  (EV.dfs_cons (⟨⟨_, _, _, _, F_lw_same T⟩, sc_lw_same, rfl⟩)
  (EV.dfs_cons (⟨⟨_, _, _, _, F_law T⟩, sc_law, rfl⟩)
  (EV.dfs_nil)))))))))))))))))))))))))))))))))))))))))
theorem o_nd : (gP.map (·.1)).Nodup := by decide +kernel
theorem o_fre (T : Tx K mg w) : EV.Alls (fun (x : Str) => mg x = none) gG.fre := EV.alls_cons (T.ex.elim fun _ e => He.free_ok e.1 e.2 (T.c.fact 0 rfl))
  (EV.alls_cons (T.ex.elim fun _ e => He.free_ok e.1 e.2 (T.c.fact 1 rfl))
  (EV.alls_cons (T.ex.elim fun _ e => He.free_ok e.1 e.2 (T.c.fact 2 rfl))
  (EV.alls_cons (T.ex.elim fun _ e => He.free_ok e.1 e.2 (T.c.fact 3 rfl))
  (EV.alls_cons (T.ex.elim fun _ e => He.free_ok e.1 e.2 (T.c.fact 4 rfl))
  (EV.alls_cons (T.ex.elim fun _ e => He.free_ok e.1 e.2 (T.c.fact 5 rfl))
  (EV.alls_cons (T.ex.elim fun _ e => He.free_ok e.1 e.2 (T.c.fact 6 rfl))
  (EV.alls_cons (T.ex.elim fun _ e => He.free_ok e.1 e.2 (T.c.fact 7 rfl))
  (EV.alls_cons (T.ex.elim fun _ e => He.free_ok e.1 e.2 (T.c.fact 8 rfl))
  (EV.alls_cons (T.ex.elim fun _ e => He.free_ok e.1 e.2 (T.c.fact 9 rfl))
  (EV.alls_cons (T.ex.elim fun _ e => He.free_ok e.1 e.2 (T.c.fact 10 rfl))
  (EV.alls_nil)))))))))))
theorem o_cst (T : Tx K mg w) : EV.Alls (fun (p : Str × EV.W) => ∃ (v : V) (u : Value), RelV v u ∧ (∀ φ Z H, EV.RF K φ Z H p.2 v) ∧ (mg p.1 = some u ∨ (mg p.1 = none ∧ bootBuiltins p.1 = some u ∧ p.1 ≠ "__name__")) ∧ (p.1 == ("__debug__" : Str)) = false) gG.cst := EV.alls_cons (⟨.ref (He.ga K "SUMS_labels"), .ref (He.ga K "SUMS_labels"), rfl, EV.tup_rf (fun H => He.tupB_ok (Bool.and_eq_true_iff.mp (xq0 T)).1 H) (Bool.and_eq_true_iff.mp (xq0 T)).2 (fun _ _ _ => .cons (.str _) (.cons (.str _) (.nil))), .inl (T.ex.elim fun _ e => He.glo_ok e.1 e.2 (T.c.fact 11 rfl)), by decide⟩)
  (EV.alls_cons ((T.ex.elim fun _ e => He.str_ok e.1 e.2 (T.c.fact 12 rfl)).elim fun t h => ⟨.str "abcdefghijklmnopqrstuvwxyz0123456789.", .str "abcdefghijklmnopqrstuvwxyz0123456789." t, ⟨t, rfl⟩, fun _ _ _ => .str _, .inl h, by decide⟩)
  (EV.alls_cons (⟨.ref (He.ga K "DOUBLE_SIGNS"), .ref (He.ga K "DOUBLE_SIGNS"), rfl, EV.tup_rf (fun H => He.tupB_ok (Bool.and_eq_true_iff.mp (xq1 T)).1 H) (Bool.and_eq_true_iff.mp (xq1 T)).2 (fun _ _ _ => .cons (.str _) (.cons (.str _) (.cons (.str _) (.cons (.str _) (.nil))))), .inl (T.ex.elim fun _ e => He.glo_ok e.1 e.2 (T.c.fact 13 rfl)), by decide⟩)
  (EV.alls_cons ((T.ex.elim fun _ e => He.str_ok e.1 e.2 (T.c.fact 14 rfl)).elim fun t h => ⟨.str "()&|/^_<>=+-*,:SRTC", .str "()&|/^_<>=+-*,:SRTC" t, ⟨t, rfl⟩, fun _ _ _ => .str _, .inl h, by decide⟩)
  (EV.alls_cons ((T.ex.elim fun _ e => He.int_ok e.1 e.2 (T.c.fact 15 rfl)).elim fun t h => ⟨.int 12, .int 12 t, ⟨t, rfl⟩, fun _ _ _ => .int _, .inl h, by decide⟩)
  (EV.alls_cons ((T.ex.elim fun _ e => He.int_ok e.1 e.2 (T.c.fact 16 rfl)).elim fun t h => ⟨.int 6, .int 6 t, ⟨t, rfl⟩, fun _ _ _ => .int _, .inl h, by decide⟩)
  (EV.alls_cons ((T.ex.elim fun _ e => He.str_ok e.1 e.2 (T.c.fact 17 rfl)).elim fun t h => ⟨.str "0123456789", .str "0123456789" t, ⟨t, rfl⟩, fun _ _ _ => .str _, .inl h, by decide⟩)
  (EV.alls_cons (⟨.ref (He.ga K "RESERVED"), .ref (He.ga K "RESERVED"), rfl, EV.tup_rf (fun H => He.tupB_ok (Bool.and_eq_true_iff.mp (xq2 T)).1 H) (Bool.and_eq_true_iff.mp (xq2 T)).2 (fun _ _ _ => .cons (.str _) (.cons (.str _) (.cons (.str _) (.cons (.str _) (.cons (.str _) (.cons (.str _) (.cons (.str _) (.cons (.str _) (.cons (.str _) (.cons (.str _) (.cons (.str _) (.cons (.str _) (.cons (.str _) (.cons (.str _) (.cons (.str _) (.cons (.str _) (.cons (.str _) (.cons (.str _) (.cons (.str _) (.cons (.str _) (.cons (.str _) (.cons (.str _) (.cons (.str _) (.cons (.str _) (.cons (.str _) (.cons (.str _) (.cons (.str _) (.cons (.str _) (.cons (.str _) (.cons (.str _) (.cons (.str _) (.cons (.str _) (.cons (.str _) (.cons (.str _) (.cons (.str _) (.cons (.str _) (.cons (.str _) (.cons (.str _) (.cons (.str _) (.cons (.str _) (.cons (.str _) (.cons (.str _) (.cons (.str _) (.cons (.str _) (.cons (.str _) (.cons (.str _) (.cons (.str _) (.cons (.str _) (.cons (.str _) (.cons (.str _) (.cons (.str _) (.cons (.str _) (.cons (.str _) (.cons (.str _) (.cons (.str _) (.cons (.str _) (.cons (.str _) (.cons (.str _) (.cons (.str _) (.nil)))))))))))))))))))))))))))))))))))))))))))))))))))))))))))), .inl (T.ex.elim fun _ e => He.glo_ok e.1 e.2 (T.c.fact 18 rfl)), by decide⟩)
  (EV.alls_cons ((T.ex.elim fun _ e => He.str_ok e.1 e.2 (T.c.fact 19 rfl)).elim fun t h => ⟨.str "abcdefghijklmnopqrstuvwxyz", .str "abcdefghijklmnopqrstuvwxyz" t, ⟨t, rfl⟩, fun _ _ _ => .str _, .inl h, by decide⟩)
  (EV.alls_cons ((T.ex.elim fun _ e => He.str_ok e.1 e.2 (T.c.fact 20 rfl)).elim fun t h => ⟨.str "abcdefghijklmnopqrstuvwxyz0123456789", .str "abcdefghijklmnopqrstuvwxyz0123456789" t, ⟨t, rfl⟩, fun _ _ _ => .str _, .inl h, by decide⟩)
  (EV.alls_cons (⟨.ty "int", .type "int", rfl, fun _ _ _ => .ty _, .inr ⟨T.ex.elim fun _ e => He.free_ok e.1 e.2 (T.c.fact 2 rfl), rfl, by decide⟩, by decide⟩)
  (EV.alls_cons (⟨.ty "str", .type "str", rfl, fun _ _ _ => .ty _, .inr ⟨T.ex.elim fun _ e => He.free_ok e.1 e.2 (T.c.fact 1 rfl), rfl, by decide⟩, by decide⟩)
  (EV.alls_cons (⟨.ty "bool", .type "bool", rfl, fun _ _ _ => .ty _, .inr ⟨T.ex.elim fun _ e => He.free_ok e.1 e.2 (T.c.fact 7 rfl), rfl, by decide⟩, by decide⟩)
  (EV.alls_cons (⟨.ty "list", .type "list", rfl, fun _ _ _ => .ty _, .inr ⟨T.ex.elim fun _ e => He.free_ok e.1 e.2 (T.c.fact 6 rfl), rfl, by decide⟩, by decide⟩)
  (EV.alls_cons (⟨.ty "tuple", .type "tuple", rfl, fun _ _ _ => .ty _, .inr ⟨T.ex.elim fun _ e => He.free_ok e.1 e.2 (T.c.fact 5 rfl), rfl, by decide⟩, by decide⟩)
  (EV.alls_nil)))))))))))))))
theorem o_fns (T : Tx K mg w) : EV.Alls (fun (p : Str × EV.FnI) => ∃ (j : Nat) (i : EV.DefI) (d : EV.DefAt), gP[j]? = some (p.1, i) ∧ (gD T)[j]? = some d ∧ mg p.1 = some (.ref d.ad) ∧ PySem.W.keepIn K (.ref d.ad) = true ∧ (p.1 == ("__debug__" : Str)) = false ∧ ∃ (us : List Value) (dvs : List V), Binds K d.fd d.ps us ∧ Vals dvs us ∧ ∀ φ Z H, EV.RFs K φ Z H (p.2.kw.map (·.2)) dvs) gG.fns := EV.alls_cons (⟨0, _, _, rfl, rfl, T.ex.elim fun _ e => He.glo_ok e.1 e.2 (T.c.fact 21 rfl), (F_side_text T).kp, by decide, ⟨[], [], B_side_text T, .nil, fun _ _ _ => .nil⟩⟩)
  (EV.alls_cons (⟨1, _, _, rfl, rfl, T.ex.elim fun _ e => He.glo_ok e.1 e.2 (T.c.fact 22 rfl), (F_atom_text T).kp, by decide, ⟨[], [], B_atom_text T, .nil, fun _ _ _ => .nil⟩⟩)
  (EV.alls_cons (⟨2, _, _, rfl, rfl, T.ex.elim fun _ e => He.glo_ok e.1 e.2 (T.c.fact 23 rfl), (F_right_text T).kp, by decide, ⟨[], [], B_right_text T, .nil, fun _ _ _ => .nil⟩⟩)
  (EV.alls_cons (⟨3, _, _, rfl, rfl, T.ex.elim fun _ e => He.glo_ok e.1 e.2 (T.c.fact 24 rfl), (F_expression_text T).kp, by decide, ⟨[], [], B_expression_text T, .nil, fun _ _ _ => .nil⟩⟩)
  (EV.alls_cons (⟨4, _, _, rfl, rfl, T.ex.elim fun _ e => He.glo_ok e.1 e.2 (T.c.fact 25 rfl), (F_word_end T).kp, by decide, ⟨[], [], B_word_end T, .nil, fun _ _ _ => .nil⟩⟩)
  (EV.alls_cons (⟨5, _, _, rfl, rfl, T.ex.elim fun _ e => He.glo_ok e.1 e.2 (T.c.fact 26 rfl), (F_line_tokens T).kp, by decide, ⟨[], [], B_line_tokens T, .nil, fun _ _ _ => .nil⟩⟩)
  (EV.alls_cons (⟨6, _, _, rfl, rfl, T.ex.elim fun _ e => He.glo_ok e.1 e.2 (T.c.fact 27 rfl), (F_is_part T).kp, by decide, ⟨[], [], B_is_part T, .nil, fun _ _ _ => .nil⟩⟩)
  (EV.alls_cons (⟨7, _, _, rfl, rfl, T.ex.elim fun _ e => He.glo_ok e.1 e.2 (T.c.fact 28 rfl), (F_is_word T).kp, by decide, ⟨[], [], B_is_word T, .nil, fun _ _ _ => .nil⟩⟩)
  (EV.alls_cons (⟨8, _, _, rfl, rfl, T.ex.elim fun _ e => He.glo_ok e.1 e.2 (T.c.fact 29 rfl), (F_is_ref T).kp, by decide, ⟨[], [], B_is_ref T, .nil, fun _ _ _ => .nil⟩⟩)
  (EV.alls_cons (⟨9, _, _, rfl, rfl, T.ex.elim fun _ e => He.glo_ok e.1 e.2 (T.c.fact 30 rfl), (F_is_number T).kp, by decide, ⟨[], [], B_is_number T, .nil, fun _ _ _ => .nil⟩⟩)
  (EV.alls_cons (⟨18, _, _, rfl, rfl, T.ex.elim fun _ e => He.glo_ok e.1 e.2 (T.c.fact 31 rfl), (F_line_cursor T).kp, by decide, ⟨[], [], B_line_cursor T, .nil, fun _ _ _ => .nil⟩⟩)
  (EV.alls_cons (⟨19, _, _, rfl, rfl, T.ex.elim fun _ e => He.glo_ok e.1 e.2 (T.c.fact 32 rfl), (F_read_ref T).kp, by decide, ⟨[], [], B_read_ref T, .nil, fun _ _ _ => .nil⟩⟩)
  (EV.alls_cons (⟨20, _, _, rfl, rfl, T.ex.elim fun _ e => He.glo_ok e.1 e.2 (T.c.fact 33 rfl), (F_read_number T).kp, by decide, ⟨[], [], B_read_number T, .nil, fun _ _ _ => .nil⟩⟩)
  (EV.alls_cons (⟨21, _, _, rfl, rfl, T.ex.elim fun _ e => He.glo_ok e.1 e.2 (T.c.fact 34 rfl), (F_read_side T).kp, by decide, ⟨[], [], B_read_side T, .nil, fun _ _ _ => .nil⟩⟩)
  (EV.alls_cons (⟨22, _, _, rfl, rfl, T.ex.elim fun _ e => He.glo_ok e.1 e.2 (T.c.fact 35 rfl), (F_read_expression T).kp, by decide, ⟨[], [], B_read_expression T, .nil, fun _ _ _ => .nil⟩⟩)
  (EV.alls_cons (⟨23, _, _, rfl, rfl, T.ex.elim fun _ e => He.glo_ok e.1 e.2 (T.c.fact 36 rfl), (F_read_term T).kp, by decide, ⟨[], [], B_read_term T, .nil, fun _ _ _ => .nil⟩⟩)
  (EV.alls_cons (⟨24, _, _, rfl, rfl, T.ex.elim fun _ e => He.glo_ok e.1 e.2 (T.c.fact 37 rfl), (F_read_atom T).kp, by decide, ⟨[], [], B_read_atom T, .nil, fun _ _ _ => .nil⟩⟩)
  (EV.alls_cons (⟨25, _, _, rfl, rfl, T.ex.elim fun _ e => He.glo_ok e.1 e.2 (T.c.fact 38 rfl), (F_parse_expression T).kp, by decide, ⟨[], [], B_parse_expression T, .nil, fun _ _ _ => .nil⟩⟩)
  (EV.alls_cons (⟨26, _, _, rfl, rfl, T.ex.elim fun _ e => He.glo_ok e.1 e.2 (T.c.fact 39 rfl), (F_lw_bag T).kp, by decide, ⟨[], [], B_lw_bag T, .nil, fun _ _ _ => .nil⟩⟩)
  (EV.alls_cons (⟨27, _, _, rfl, rfl, T.ex.elim fun _ e => He.glo_ok e.1 e.2 (T.c.fact 40 rfl), (F_lw_take T).kp, by decide, ⟨[], [], B_lw_take T, .nil, fun _ _ _ => .nil⟩⟩)
  (EV.alls_cons (⟨28, _, _, rfl, rfl, T.ex.elim fun _ e => He.glo_ok e.1 e.2 (T.c.fact 41 rfl), (F_lw_pick T).kp, by decide, ⟨[], [], B_lw_pick T, .nil, fun _ _ _ => .nil⟩⟩)
  (EV.alls_cons (⟨29, _, _, rfl, rfl, T.ex.elim fun _ e => He.glo_ok e.1 e.2 (T.c.fact 42 rfl), (F_lw_reserved T).kp, by decide, ⟨[], [], B_lw_reserved T, .nil, fun _ _ _ => .nil⟩⟩)
  (EV.alls_cons (⟨30, _, _, rfl, rfl, T.ex.elim fun _ e => He.glo_ok e.1 e.2 (T.c.fact 43 rfl), (F_lw_word T).kp, by decide, ⟨[], [], B_lw_word T, .nil, fun _ _ _ => .nil⟩⟩)
  (EV.alls_cons (⟨31, _, _, rfl, rfl, T.ex.elim fun _ e => He.glo_ok e.1 e.2 (T.c.fact 44 rfl), (F_lw_name T).kp, by decide, ⟨[], [], B_lw_name T, .nil, fun _ _ _ => .nil⟩⟩)
  (EV.alls_cons (⟨32, _, _, rfl, rfl, T.ex.elim fun _ e => He.glo_ok e.1 e.2 (T.c.fact 45 rfl), (F_lw_ref T).kp, by decide, ⟨[], [], B_lw_ref T, .nil, fun _ _ _ => .nil⟩⟩)
  (EV.alls_cons (⟨33, _, _, rfl, rfl, T.ex.elim fun _ e => He.glo_ok e.1 e.2 (T.c.fact 46 rfl), (F_lw_number T).kp, by decide, ⟨[], [], B_lw_number T, .nil, fun _ _ _ => .nil⟩⟩)
  (EV.alls_cons (⟨34, _, _, rfl, rfl, T.ex.elim fun _ e => He.glo_ok e.1 e.2 (T.c.fact 47 rfl), (F_lw_side T).kp, by decide, ⟨[], [], B_lw_side T, .nil, fun _ _ _ => .nil⟩⟩)
  (EV.alls_cons (⟨35, _, _, rfl, rfl, T.ex.elim fun _ e => He.glo_ok e.1 e.2 (T.c.fact 48 rfl), (F_lw_expr T).kp, by decide, ⟨[], [], B_lw_expr T, .nil, fun _ _ _ => .nil⟩⟩)
  (EV.alls_cons (⟨36, _, _, rfl, rfl, T.ex.elim fun _ e => He.glo_ok e.1 e.2 (T.c.fact 49 rfl), (F_lw_expr_text T).kp, by decide, ⟨[], [], B_lw_expr_text T, .nil, fun _ _ _ => .nil⟩⟩)
  (EV.alls_cons (⟨37, _, _, rfl, rfl, T.ex.elim fun _ e => He.glo_ok e.1 e.2 (T.c.fact 50 rfl), (F_lw_tokens T).kp, by decide, ⟨[], [], B_lw_tokens T, .nil, fun _ _ _ => .nil⟩⟩)
  (EV.alls_cons (⟨38, _, _, rfl, rfl, T.ex.elim fun _ e => He.glo_ok e.1 e.2 (T.c.fact 51 rfl), (F_lw_spread T).kp, by decide, ⟨[], [], B_lw_spread T, .nil, fun _ _ _ => .nil⟩⟩)
  (EV.alls_cons (⟨39, _, _, rfl, rfl, T.ex.elim fun _ e => He.glo_ok e.1 e.2 (T.c.fact 52 rfl), (F_lw_same T).kp, by decide, ⟨[], [], B_lw_same T, .nil, fun _ _ _ => .nil⟩⟩)
  (EV.alls_cons (⟨40, _, _, rfl, rfl, T.ex.elim fun _ e => He.glo_ok e.1 e.2 (T.c.fact 53 rfl), (F_law T).kp, by decide, ⟨[], [], B_law T, .nil, fun _ _ _ => .nil⟩⟩)
  (EV.alls_nil)))))))))))))))))))))))))))))))))
theorem o_cls (T : Tx K mg w) : EV.Alls (fun (p : Str × Nat) => ∃ (j : Nat) (i : EV.DefI) (d : EV.DefAt), gP[j]? = some (p.1 ++ ".__init__", i) ∧ (gD T)[j]? = some d ∧ Mk K (He.ga K p.1) d.ad ∧ mg p.1 = some (.ref (He.ga K p.1)) ∧ (p.1 == ("__debug__" : Str)) = false ∧ Binds K d.fd d.ps []) gG.cls := EV.alls_cons (⟨10, _, _, rfl, rfl, He.mkr_ok (T.c.fact 54 rfl), T.ex.elim fun _ e => He.glo_ok e.1 e.2 (T.c.fact 55 rfl), by decide, B_Cursoru_initu T⟩)
  (EV.alls_nil)
theorem o_mts (T : Tx K mg w) : EV.Alls (fun (p : (Str × Str) × Str) => ∃ (j : Nat) (i : EV.DefI) (d : EV.DefAt), gP[j]? = some (p.2, i) ∧ (gD T)[j]? = some d ∧ Cls K (He.ga K p.1.1) ∧ Meth K (He.ga K p.1.1) p.1.2 d.ad ∧ Binds K d.fd d.ps []) gG.mts := EV.alls_cons (⟨11, _, _, rfl, rfl, He.cls_ok (T.c.fact 56 rfl), He.meth_ok (T.c.fact 57 rfl), B_Cursor_peek T⟩)
  (EV.alls_cons (⟨12, _, _, rfl, rfl, He.cls_ok (T.c.fact 56 rfl), He.meth_ok (T.c.fact 58 rfl), B_Cursor_take T⟩)
  (EV.alls_cons (⟨13, _, _, rfl, rfl, He.cls_ok (T.c.fact 56 rfl), He.meth_ok (T.c.fact 59 rfl), B_Cursor_accept T⟩)
  (EV.alls_cons (⟨14, _, _, rfl, rfl, He.cls_ok (T.c.fact 56 rfl), He.meth_ok (T.c.fact 60 rfl), B_Cursor_expect T⟩)
  (EV.alls_cons (⟨15, _, _, rfl, rfl, He.cls_ok (T.c.fact 56 rfl), He.meth_ok (T.c.fact 61 rfl), B_Cursor_finish T⟩)
  (EV.alls_cons (⟨16, _, _, rfl, rfl, He.cls_ok (T.c.fact 56 rfl), He.meth_ok (T.c.fact 62 rfl), B_Cursor_open_bracket T⟩)
  (EV.alls_cons (⟨17, _, _, rfl, rfl, He.cls_ok (T.c.fact 56 rfl), He.meth_ok (T.c.fact 63 rfl), B_Cursor_close_bracket T⟩)
  (EV.alls_nil)))))))
theorem o_kwc (T : Tx K mg w) : EV.Alls (fun (p : (Str × List (Option Str)) × Nat × List (Nat ⊕ EV.W)) => ∃ (j : Nat) (i : EV.DefI) (d : EV.DefAt), gP[j]? = some (p.1.1, i) ∧ (gD T)[j]? = some d ∧ mg p.1.1 = some (.ref d.ad) ∧ PySem.W.keepIn K (.ref d.ad) = true ∧ (p.1.1 == ("__debug__" : Str)) = false ∧ ∃ (kn : List Str) (g : List Value → List Value → List Value) (gV : List V → List V → List V), p.1.2 = kn.map some ∧ KBn K d.fd d.ps p.2.1 kn g gV ∧ ∀ φ Z H ws vs us zs, EV.RFs K φ Z H ws vs → EV.RFs K φ Z H us zs → us.length = kn.length → EV.RFs K φ Z H (ws ++ p.2.2.map (EV.kwSel us)) (gV vs zs)) gG.kwc := EV.alls_nil
theorem o_fld (T : Tx K mg w) : EV.Alls (fun (p : Str × Str) => Cls K (He.ga K p.1) ∧ NoAttr K (He.ga K p.1) p.2) gG.fld := EV.alls_cons (⟨He.cls_ok (T.c.fact 56 rfl), He.noat_ok (T.c.fact 64 rfl)⟩)
  (EV.alls_cons (⟨He.cls_ok (T.c.fact 56 rfl), He.noat_ok (T.c.fact 65 rfl)⟩)
  (EV.alls_cons (⟨He.cls_ok (T.c.fact 56 rfl), He.noat_ok (T.c.fact 66 rfl)⟩)
  (EV.alls_cons (⟨He.cls_ok (T.c.fact 56 rfl), He.noat_ok (T.c.fact 67 rfl)⟩)
  (EV.alls_nil))))
theorem o_tbl (T : Tx K mg w) : EV.Alls (fun (p : Str × List (Str × EV.W) × List Str) => EV.TblK K w mg p.1 p.2) gG.tbl := EV.alls_cons (⟨T.k0.elim fun es h => h.elim fun n D => ⟨He.ga K "SIGNS", es, n, D, T.ex.elim fun _ e => He.glo_ok e.1 e.2 (T.c.fact 68 rfl), EV.tbl_vals (Bool.and_eq_true_iff.mp (xq3 T)).1 rfl, EV.tbl_nos (Bool.and_eq_true_iff.mp (xq3 T)).2⟩, by decide⟩)
  (EV.alls_cons (⟨T.k1.elim fun es h => h.elim fun n D => ⟨He.ga K "SUMS_phrases", es, n, D, T.ex.elim fun _ e => He.glo_ok e.1 e.2 (T.c.fact 69 rfl), EV.tbl_vals (Bool.and_eq_true_iff.mp (xq4 T)).1 rfl, EV.tbl_nos (Bool.and_eq_true_iff.mp (xq4 T)).2⟩, by decide⟩)
  (EV.alls_nil))
theorem o_dts (T : Tx K mg w) : EV.Alls (fun (p : Str × List (Str × EV.W)) => EV.DtsK K w mg p.1 p.2) gG.dts := EV.alls_cons (T.k0.elim fun es h => h.elim fun n D => EV.dts_ok D (T.ex.elim fun _ e => He.glo_ok e.1 e.2 (T.c.fact 68 rfl)) (Bool.and_eq_true_iff.mp (xq3 T)).1 rfl (xq5 T) (by decide))
  (EV.alls_cons (T.k1.elim fun es h => h.elim fun n D => EV.dts_ok D (T.ex.elim fun _ e => He.glo_ok e.1 e.2 (T.c.fact 69 rfl)) (Bool.and_eq_true_iff.mp (xq4 T)).1 rfl (xq6 T) (by decide))
  (EV.alls_nil))
theorem good (T : Tx K mg w) : EV.ProgOk K mg w gG gP (gD T) := ⟨o_df T, o_nd, o_fre T, o_cst T, o_fns T, o_cls T, o_mts T, o_kwc T, o_fld T, o_tbl T, o_dts T⟩
end
def nm0 : List Str := ["SIGNS", "SUMS_labels", "side_text", "atom_text", "right_text", "expression_text", "RungError", "ParseError", "WORD_SIGNS", "DOUBLE_SIGNS", "SINGLE_SIGNS", "word_end", "line_tokens", "LETTERS", "DIGITS", "NAME_SIGNS", "LONGEST_NUMBER", "RESERVED", "is_part", "is_word", "is_ref", "is_number", "MOST_BRACKETS", "SUMS_phrases", "Cursor", "line_cursor", "read_ref", "read_number", "read_side", "read_expression"]
def nm1 : List Str := ["read_term", "read_atom", "parse_expression", "_law_bag", "_law_take", "_law_pick", "_law_reserved", "_law_word", "_law_name", "_law_ref", "_law_number", "_law_side", "_law_expr", "_law_expr_text", "_law_tokens", "_law_spread", "_law_same"]
def nms : List Str := nm0 ++ nm1
def obR (s : PySem.W.SharedT) : He.AlT × Bool := obsRG 4 fa fn ts xb (HandSHeadRun.getT s)
abbrev hk : PySem.W.Hook := hookR 4 fa fn ts xb
theorem obR_eq (s : PySem.W.SharedT) : obR s = hk.obs s.abs := obsRG_eq (HandSHeadRun.getT_eq s)
abbrev RR : PySem.W.OpenRow := PySem.W.OpenLaw.row PySem.Challenge.rw_rungstead_k01_expression_text_and_back
theorem run (w : World) : HandSHeadRun.RunEq RR (PySem.W.view RR.prog [53]) hk obR 4000 nms w :=
  PySem.W.byRow2 "special-get-raises" (P := fun w => HandSHeadRun.RunEq RR (PySem.W.view RR.prog [53]) hk obR 4000 nms w) (fun w => by intro os; kernel_rfl) (fun w => by intro os; kernel_rfl) w
abbrev sp_law (K : PySem.W.Frag) : Sp := EV.spF K (EV.Fn gG gP 60) "law"
theorem facts {P : Program} {w : World} {K : PySem.W.Frag} {h : Heap} {mg : Str → Option Value} {f : Addr} (X : K.In h) (G : h.Ns mainGlobals mg) (hfa : mg ("law" : Str) = some (.ref f)) (c : He.SaysT fa fn ts w K) (hx : xb K = true) :
    ∃ fd : FuncData, (∀ (s : Shared) (v : Value), BindsTo s fd ⟨[v], []⟩ [("script", v)]) ∧ ∀ base : Heap, K.In base → base.Ns mainGlobals mg → FnOk P w K mg base CX0 121 f fd ["script"] (sp_law K) := by
  have T : Tx K mg w := ⟨⟨h, X, G⟩, c.d, hx, c.tab 0 rfl, c.tab 1 rfl⟩
  have e := hfa.symm.trans (T.ex.elim fun _ e => He.glo_ok e.1 e.2 (T.c.fact 53 rfl))
  cases e
  have b := FunD.bindsA (ps := ["script"]) (F_law T) fun _ _ _ _ _ _ us hl => match us, hl with | [_], _ => rfl
  exact ⟨fd_law T, fun s v => b s [v] rfl, fun base _ _ => EV.fn_all (good T) 60 40 ("law", ⟨x_law, defScope s_law, defBody s_law, 1⟩) ⟨He.fAd K d_law.at_, fd_law T, ["script"]⟩ rfl rfl⟩
end R
section
open PySem PySem.W PySem.Calls PyProof.Rows
set_option maxHeartbeats 0
theorem R.headT (law_pure : ∀ (ns : List Int), ns.length ≤ 63 → ∃ S', EV.Fn R.gG R.gP 60 "law" [.scr (ns.map EV.W.int)] [] = .ok (.bl true) S') : PySem.Challenge.rw_rungstead_k01_expression_text_and_back.Holds := by
  w_on; o_law
  refine HandSHeadRun.head_any (r := OpenLaw.row PySem.Challenge.rw_rungstead_k01_expression_text_and_back) (q := view (OpenLaw.row PySem.Challenge.rw_rungstead_k01_expression_text_and_back).prog [53]) (H := R.hk) (ob := R.obR) (M := 4000) (loose := R.nms) (d := HandSHeadRun.topDef (OpenLaw.row PySem.Challenge.rw_rungstead_k01_expression_text_and_back).prog 53) (kwd := []) R.obR_eq
    (by kernel_rfl) (fun s => by kernel_rfl) R.run (by kernel_rfl) (by kernel_rfl) (by kernel_rfl) (by rfl) (by first | assumption | decide +kernel) (by decide +kernel) ⟨rfl, rfl, rfl, rfl, rfl, by decide +kernel⟩ ?hw ?hc
  case hw => w_witness2
  case hc =>
    refine L2.walk_ofE (l := PySem.Challenge.rw_rungstead_k01_expression_text_and_back) (n := 63) (k := 121) (x := "script") (CX := L2.CX0) rfl (by decide) (by kernel_rfl) ⟨rfl, by decide, by decide⟩ ?F (fun _ _ _ _ z => z)
    intro w mg fa h Y G hmg0
    obtain ⟨K, KX, c, hx⟩ := Y
    have hmg : mg ("law" : PySem.Str) = some (.ref fa) := by
      have e : (HandSHeadRun.topDef (OpenLaw.row PySem.Challenge.rw_rungstead_k01_expression_text_and_back).prog 53).name = ("law" : PySem.Str) := by kernel_rfl
      rw [← e]
      exact hmg0
    obtain ⟨fd, hb, hF⟩ := R.facts (P := (PySem.Challenge.rw_rungstead_k01_expression_text_and_back).prog) (w := w) KX G hmg c hx
    exact ⟨K, fd, R.sp_law K, KX, hb, fun H a ns hl hO hS => (law_pure ns hl).elim fun S' e => EV.law_sp hO hS e, hF⟩
end
set_option Elab.async false
set_option linter.all false
set_option maxRecDepth 100000
set_option maxHeartbeats 4000000
namespace R
open PySem PySem.Spec PyProof.Rows L2
def m_side_text (F : EV.Fenv) : EV.M EV.Fl := (EV.sSeq (EV.sIf (EV.mCmpT .Eq (EV.mIx (EV.mVarB 0) (EV.mC (.int 0))) (EV.mC (.str "num"))) (EV.sRet (EV.mBlt .str (EV.mCons (EV.mIx (EV.mVarB 0) (EV.mC (.int 1))) EV.mNil))) EV.sNext)
  (EV.sRet (EV.mIx (EV.mVarB 0) (EV.mC (.int 1)))))
theorem me_side_text (F : EV.Fenv) : EV.cSs gG F x_side_text (defScope s_side_text) 300 (defBody s_side_text) = m_side_text F := by kernel_rfl
theorem fe_side_text (d : Nat) (ws : List EV.W) (S : EV.Sto) : EV.Fn gG gP (d + 1) "side_text" ws S = if ws.length = 1 then EV.runB (m_side_text (EV.Fn gG gP d)) [("side" : Str)] ws S else .bad := by
  have e : gP.lookup ("side_text" : Str) = some (⟨x_side_text, defScope s_side_text, defBody s_side_text, 1⟩ : EV.DefI) := by kernel_rfl
  rw [EV.fn_eq e]
  show (if ws.length = 1 then EV.runB (EV.cSs gG (EV.Fn gG gP d) x_side_text (defScope s_side_text) 300 (defBody s_side_text)) [("side" : Str)] ws S else .bad) = _
  rw [me_side_text]
def m_atom_text (F : EV.Fenv) : EV.M EV.Fl := (EV.sSeq (EV.sIf (EV.mCmpT .In (EV.mIx (EV.mVarB 0) (EV.mC (.int 0))) (EV.mTup (EV.mCons (EV.mC (.str "min")) (EV.mCons (EV.mC (.str "max")) EV.mNil)))) (EV.sRet (EV.mBin .Add (EV.mBin .Add (EV.mBin .Add (EV.mBin .Add (EV.mBin .Add (EV.mIx (EV.mVarB 0) (EV.mC (.int 0))) (EV.mC (.str "("))) (EV.mCall F "expression_text" (EV.mCons (EV.mIx (EV.mVarB 0) (EV.mC (.int 1))) EV.mNil) [])) (EV.mC (.str ", "))) (EV.mCall F "expression_text" (EV.mCons (EV.mIx (EV.mVarB 0) (EV.mC (.int 2))) EV.mNil) [])) (EV.mC (.str ")")))) EV.sNext)
  (EV.sFrz [0] (EV.sRet (EV.mCall F "side_text" (EV.mCons (EV.mVar 0) EV.mNil) []))))
theorem me_atom_text (F : EV.Fenv) : EV.cSs gG F x_atom_text (defScope s_atom_text) 300 (defBody s_atom_text) = m_atom_text F := by kernel_rfl
theorem fe_atom_text (d : Nat) (ws : List EV.W) (S : EV.Sto) : EV.Fn gG gP (d + 1) "atom_text" ws S = if ws.length = 1 then EV.runB (m_atom_text (EV.Fn gG gP d)) [("expr" : Str)] ws S else .bad := by
  have e : gP.lookup ("atom_text" : Str) = some (⟨x_atom_text, defScope s_atom_text, defBody s_atom_text, 1⟩ : EV.DefI) := by kernel_rfl
  rw [EV.fn_eq e]
  show (if ws.length = 1 then EV.runB (EV.cSs gG (EV.Fn gG gP d) x_atom_text (defScope s_atom_text) 300 (defBody s_atom_text)) [("expr" : Str)] ws S else .bad) = _
  rw [me_atom_text]
def m_right_text (F : EV.Fenv) : EV.M EV.Fl := (EV.sSeq (EV.sFrz [1] (EV.sSet 2 (EV.mCall F "expression_text" (EV.mCons (EV.mVar 1) EV.mNil) [])))
  (EV.sSeq (EV.sIf (EV.mOr (EV.mCmpT .In (EV.mIx (EV.mVarB 1) (EV.mC (.int 0))) (EV.mC (.tup [.str "add", .str "sub"]))) (EV.mAnd (EV.mCmpT .Eq (EV.mVarB 0) (EV.mC (.str "mul"))) (EV.mCmpT .Eq (EV.mIx (EV.mVarB 1) (EV.mC (.int 0))) (EV.mC (.str "mul"))))) (EV.sRet (EV.mBin .Add (EV.mBin .Add (EV.mC (.str "(")) (EV.mVarB 2)) (EV.mC (.str ")")))) EV.sNext)
  (EV.sFrz [2] (EV.sRet (EV.mVar 2)))))
theorem me_right_text (F : EV.Fenv) : EV.cSs gG F x_right_text (defScope s_right_text) 300 (defBody s_right_text) = m_right_text F := by kernel_rfl
theorem fe_right_text (d : Nat) (ws : List EV.W) (S : EV.Sto) : EV.Fn gG gP (d + 1) "right_text" ws S = if ws.length = 2 then EV.runB (m_right_text (EV.Fn gG gP d)) [("kind" : Str), ("side" : Str), ("text" : Str)] ws S else .bad := by
  have e : gP.lookup ("right_text" : Str) = some (⟨x_right_text, defScope s_right_text, defBody s_right_text, 2⟩ : EV.DefI) := by kernel_rfl
  rw [EV.fn_eq e]
  show (if ws.length = 2 then EV.runB (EV.cSs gG (EV.Fn gG gP d) x_right_text (defScope s_right_text) 300 (defBody s_right_text)) [("kind" : Str), ("side" : Str), ("text" : Str)] ws S else .bad) = _
  rw [me_right_text]
def m_expression_text (F : EV.Fenv) : EV.M EV.Fl := (EV.sSeq (EV.sSetF 1 (EV.mLst EV.mNil))
  (EV.sSeq (EV.sWh (EV.mTIn [("add", .str " + "), ("sub", .str " - "), ("mul", .str " * ")] false (EV.mIx (EV.mVarB 0) (EV.mC (.int 0)))) (EV.sSeq (EV.sFrz [0] (EV.sMut (EV.mutE F (fun c => gG.mts.lookup (c, ("append" : Str))) .append "append" 1 (EV.mCons (EV.mVar 0) EV.mNil))))
  (EV.sSet 0 (EV.mIx (EV.mVarB 0) (EV.mC (.int 1))))))
  (EV.sSeq (EV.sSet 2 (EV.mC (.int 0)))
  (EV.sSeq (EV.sFrz [0] (EV.sSetF 3 (EV.mLst (EV.mCons (EV.mCall F "atom_text" (EV.mCons (EV.mVar 0) EV.mNil) []) EV.mNil))))
  (EV.sSeq (EV.sSet 4 (EV.mIx (EV.mVarB 0) (EV.mC (.int 0))))
  (EV.sSeq (EV.sFrz [1] (EV.sFor (EV.mRev (EV.mVar 1)) (EV.bName 5) (EV.sSeq (EV.sSet 6 (EV.mIx (EV.mVarB 5) (EV.mC (.int 0))))
  (EV.sSeq (EV.sIf (EV.mAnd (EV.mCmpT .Eq (EV.mVarB 6) (EV.mC (.str "mul"))) (EV.mCmpT .In (EV.mVarB 4) (EV.mC (.tup [.str "add", .str "sub"])))) (EV.sSeq (EV.sSetF 2 (EV.mBin .Add (EV.mVarB 2) (EV.mC (.int 1))))
  (EV.sMut (EV.mutE F (fun c => gG.mts.lookup (c, ("append" : Str))) .append "append" 3 (EV.mCons (EV.mC (.str ")")) EV.mNil)))) EV.sNext)
  (EV.sSeq (EV.sMut (EV.mutE F (fun c => gG.mts.lookup (c, ("append" : Str))) .append "append" 3 (EV.mCons (EV.mTSub [("add", .str " + "), ("sub", .str " - "), ("mul", .str " * ")] (EV.mVarB 6)) EV.mNil)))
  (EV.sSeq (EV.sFrz [6] (EV.sMut (EV.mutE F (fun c => gG.mts.lookup (c, ("append" : Str))) .append "append" 3 (EV.mCons (EV.mCall F "right_text" (EV.mCons (EV.mVar 6) (EV.mCons (EV.mIx (EV.mVarB 5) (EV.mC (.int 2))) EV.mNil)) []) EV.mNil))))
  (EV.sFrz [6] (EV.sSet 4 (EV.mVar 6)))))))))
  (EV.sFrz [3] (EV.sRet (EV.mBin .Add (EV.mBin .Mult (EV.mC (.str "(")) (EV.mVarB 2)) (EV.mSm .join (EV.mC (.str "")) (EV.mVar 3)))))))))))
theorem me_expression_text (F : EV.Fenv) : EV.cSs gG F x_expression_text (defScope s_expression_text) 300 (defBody s_expression_text) = m_expression_text F := by kernel_rfl
theorem fe_expression_text (d : Nat) (ws : List EV.W) (S : EV.Sto) : EV.Fn gG gP (d + 1) "expression_text" ws S = if ws.length = 1 then EV.runB (m_expression_text (EV.Fn gG gP d)) [("expr" : Str), ("row" : Str), ("brackets" : Str), ("pieces" : Str), ("left" : Str), ("node" : Str), ("kind" : Str)] ws S else .bad := by
  have e : gP.lookup ("expression_text" : Str) = some (⟨x_expression_text, defScope s_expression_text, defBody s_expression_text, 1⟩ : EV.DefI) := by kernel_rfl
  rw [EV.fn_eq e]
  show (if ws.length = 1 then EV.runB (EV.cSs gG (EV.Fn gG gP d) x_expression_text (defScope s_expression_text) 300 (defBody s_expression_text)) [("expr" : Str), ("row" : Str), ("brackets" : Str), ("pieces" : Str), ("left" : Str), ("node" : Str), ("kind" : Str)] ws S else .bad) = _
  rw [me_expression_text]
def m_word_end (F : EV.Fenv) : EV.M EV.Fl := (EV.sSeq (EV.sFrz [1] (EV.sSet 2 (EV.mVar 1)))
  (EV.sSeq (EV.sWh (EV.mAnd (EV.mCmpT .Lt (EV.mVarB 2) (EV.mBlt .len (EV.mCons (EV.mVarB 0) EV.mNil))) (EV.mCmpT .In (EV.mIx (EV.mVarB 0) (EV.mVarB 2)) (EV.mC (.str "abcdefghijklmnopqrstuvwxyz0123456789.")))) (EV.sSetF 2 (EV.mBin .Add (EV.mVarB 2) (EV.mC (.int 1)))))
  (EV.sFrz [2] (EV.sRet (EV.mVar 2)))))
theorem me_word_end (F : EV.Fenv) : EV.cSs gG F x_word_end (defScope s_word_end) 300 (defBody s_word_end) = m_word_end F := by kernel_rfl
theorem fe_word_end (d : Nat) (ws : List EV.W) (S : EV.Sto) : EV.Fn gG gP (d + 1) "word_end" ws S = if ws.length = 2 then EV.runB (m_word_end (EV.Fn gG gP d)) [("line" : Str), ("start" : Str), ("end" : Str)] ws S else .bad := by
  have e : gP.lookup ("word_end" : Str) = some (⟨x_word_end, defScope s_word_end, defBody s_word_end, 2⟩ : EV.DefI) := by kernel_rfl
  rw [EV.fn_eq e]
  show (if ws.length = 2 then EV.runB (EV.cSs gG (EV.Fn gG gP d) x_word_end (defScope s_word_end) 300 (defBody s_word_end)) [("line" : Str), ("start" : Str), ("end" : Str)] ws S else .bad) = _
  rw [me_word_end]
def m_line_tokens (F : EV.Fenv) : EV.M EV.Fl := (EV.sSeq (EV.sSetF 1 (EV.mLst EV.mNil))
  (EV.sSeq (EV.sSet 2 (EV.mC (.int 0)))
  (EV.sSeq (EV.sWh (EV.mCmpT .Lt (EV.mVarB 2) (EV.mBlt .len (EV.mCons (EV.mVarB 0) EV.mNil))) (EV.sSeq (EV.sSet 3 (EV.mIx (EV.mVarB 0) (EV.mVarB 2)))
  (EV.sSeq (EV.sIf (EV.mCmpT .Eq (EV.mVarB 3) (EV.mC (.str " "))) (EV.sSeq (EV.sSetF 2 (EV.mBin .Add (EV.mVarB 2) (EV.mC (.int 1))))
  EV.sCnt) EV.sNext)
  (EV.sSeq (EV.sIf (EV.mCmpT .In (EV.mVarB 3) (EV.mC (.str "abcdefghijklmnopqrstuvwxyz0123456789."))) (EV.sFrz [0, 2] (EV.sSet 4 (EV.mCall F "word_end" (EV.mCons (EV.mVar 0) (EV.mCons (EV.mVar 2) EV.mNil)) []))) (EV.sIf (EV.mCmpT .In (EV.mSl (EV.mVarB 0) (some (EV.mVarB 2)) (some (EV.mBin .Add (EV.mVarB 2) (EV.mC (.int 2))))) (EV.mC (.tup [.str ":=", .str "<=", .str ">=", .str "!="]))) (EV.sSetF 4 (EV.mBin .Add (EV.mVarB 2) (EV.mC (.int 2)))) (EV.sIf (EV.mCmpT .In (EV.mVarB 3) (EV.mC (.str "()&|/^_<>=+-*,:SRTC"))) (EV.sSetF 4 (EV.mBin .Add (EV.mVarB 2) (EV.mC (.int 1)))) (EV.sRet (EV.mC (.non))))))
  (EV.sSeq (EV.sMut (EV.mutE F (fun c => gG.mts.lookup (c, ("append" : Str))) .append "append" 1 (EV.mCons (EV.mSl (EV.mVarB 0) (some (EV.mVarB 2)) (some (EV.mVarB 4))) EV.mNil)))
  (EV.sFrz [4] (EV.sSet 2 (EV.mVar 4))))))))
  (EV.sFrz [1] (EV.sRet (EV.mVar 1))))))
theorem me_line_tokens (F : EV.Fenv) : EV.cSs gG F x_line_tokens (defScope s_line_tokens) 300 (defBody s_line_tokens) = m_line_tokens F := by kernel_rfl
theorem fe_line_tokens (d : Nat) (ws : List EV.W) (S : EV.Sto) : EV.Fn gG gP (d + 1) "line_tokens" ws S = if ws.length = 1 then EV.runB (m_line_tokens (EV.Fn gG gP d)) [("line" : Str), ("tokens" : Str), ("at" : Str), ("sign" : Str), ("end" : Str)] ws S else .bad := by
  have e : gP.lookup ("line_tokens" : Str) = some (⟨x_line_tokens, defScope s_line_tokens, defBody s_line_tokens, 1⟩ : EV.DefI) := by kernel_rfl
  rw [EV.fn_eq e]
  show (if ws.length = 1 then EV.runB (EV.cSs gG (EV.Fn gG gP d) x_line_tokens (defScope s_line_tokens) 300 (defBody s_line_tokens)) [("line" : Str), ("tokens" : Str), ("at" : Str), ("sign" : Str), ("end" : Str)] ws S else .bad) = _
  rw [me_line_tokens]
def m_is_part (F : EV.Fenv) : EV.M EV.Fl := (EV.sSeq (EV.sIf (EV.mOr (EV.mCmpT .Eq (EV.mVarB 0) (EV.mC (.str ""))) (EV.mCmpT .NotIn (EV.mIx (EV.mVarB 0) (EV.mC (.int 0))) (EV.mC (.str "abcdefghijklmnopqrstuvwxyz")))) (EV.sRet (EV.mC (.bl false))) EV.sNext)
  (EV.sSeq (EV.sFrz [0] (EV.sFor (EV.mIt (EV.mVar 0)) (EV.bName 1) (EV.sIf (EV.mCmpT .NotIn (EV.mVarB 1) (EV.mC (.str "abcdefghijklmnopqrstuvwxyz0123456789"))) (EV.sRet (EV.mC (.bl false))) EV.sNext)))
  (EV.sRet (EV.mC (.bl true)))))
theorem me_is_part (F : EV.Fenv) : EV.cSs gG F x_is_part (defScope s_is_part) 300 (defBody s_is_part) = m_is_part F := by kernel_rfl
theorem fe_is_part (d : Nat) (ws : List EV.W) (S : EV.Sto) : EV.Fn gG gP (d + 1) "is_part" ws S = if ws.length = 1 then EV.runB (m_is_part (EV.Fn gG gP d)) [("text" : Str), ("sign" : Str)] ws S else .bad := by
  have e : gP.lookup ("is_part" : Str) = some (⟨x_is_part, defScope s_is_part, defBody s_is_part, 1⟩ : EV.DefI) := by kernel_rfl
  rw [EV.fn_eq e]
  show (if ws.length = 1 then EV.runB (EV.cSs gG (EV.Fn gG gP d) x_is_part (defScope s_is_part) 300 (defBody s_is_part)) [("text" : Str), ("sign" : Str)] ws S else .bad) = _
  rw [me_is_part]
def m_is_word (F : EV.Fenv) : EV.M EV.Fl := (EV.sFrz [0] (EV.sRet (EV.mAndV (EV.mCall F "is_part" (EV.mCons (EV.mVar 0) EV.mNil) []) (EV.mCmp .NotIn (EV.mVarB 0) (EV.mC (.tup [.str "project", .str "steady", .str "fails", .str "input", .str "output", .str "top", .str "rest", .str "flag", .str "word", .str "first", .str "retained", .str "timer", .str "on", .str "off", .str "pulse", .str "sum", .str "counter", .str "up", .str "down", .str "chart", .str "step", .str "limit", .str "move", .str "to", .str "when", .str "end", .str "instance", .str "of", .str "block", .str "in", .str "out", .str "begin", .str "task", .str "every", .str "at", .str "rung", .str "zone", .str "advance", .str "part", .str "call", .str "skip", .str "plant", .str "budget", .str "cell", .str "sensor", .str "case", .str "chance", .str "fault", .str "stuck", .str "freeze", .str "blink", .str "never", .str "within", .str "after", .str "comes", .str "min", .str "max", .str "powered", .str "phase"]))))))
theorem me_is_word (F : EV.Fenv) : EV.cSs gG F x_is_word (defScope s_is_word) 300 (defBody s_is_word) = m_is_word F := by kernel_rfl
theorem fe_is_word (d : Nat) (ws : List EV.W) (S : EV.Sto) : EV.Fn gG gP (d + 1) "is_word" ws S = if ws.length = 1 then EV.runB (m_is_word (EV.Fn gG gP d)) [("text" : Str)] ws S else .bad := by
  have e : gP.lookup ("is_word" : Str) = some (⟨x_is_word, defScope s_is_word, defBody s_is_word, 1⟩ : EV.DefI) := by kernel_rfl
  rw [EV.fn_eq e]
  show (if ws.length = 1 then EV.runB (EV.cSs gG (EV.Fn gG gP d) x_is_word (defScope s_is_word) 300 (defBody s_is_word)) [("text" : Str)] ws S else .bad) = _
  rw [me_is_word]
def m_is_ref (F : EV.Fenv) : EV.M EV.Fl := (EV.sSeq (EV.sIf (EV.mCmpT .In (EV.mVarB 0) (EV.mTup (EV.mCons (EV.mC (.str "first")) (EV.mCons (EV.mC (.str "powered")) EV.mNil)))) (EV.sRet (EV.mC (.bl true))) EV.sNext)
  (EV.sSeq (EV.sSet 1 (EV.mSm .split (EV.mVarB 0) (EV.mC (.str "."))))
  (EV.sSeq (EV.sIf (EV.mNotT (EV.mTru (EV.mCall F "is_word" (EV.mCons (EV.mIx (EV.mVarB 1) (EV.mC (.int 0))) EV.mNil) []))) (EV.sRet (EV.mC (.bl false))) EV.sNext)
  (EV.sSeq (EV.sFor (EV.mIt (EV.mSl (EV.mVarB 1) (some (EV.mC (.int 1))) none)) (EV.bName 2) (EV.sFrz [2] (EV.sIf (EV.mNotT (EV.mTru (EV.mCall F "is_part" (EV.mCons (EV.mVar 2) EV.mNil) []))) (EV.sRet (EV.mC (.bl false))) EV.sNext)))
  (EV.sRet (EV.mC (.bl true)))))))
theorem me_is_ref (F : EV.Fenv) : EV.cSs gG F x_is_ref (defScope s_is_ref) 300 (defBody s_is_ref) = m_is_ref F := by kernel_rfl
theorem fe_is_ref (d : Nat) (ws : List EV.W) (S : EV.Sto) : EV.Fn gG gP (d + 1) "is_ref" ws S = if ws.length = 1 then EV.runB (m_is_ref (EV.Fn gG gP d)) [("text" : Str), ("parts" : Str), ("part" : Str)] ws S else .bad := by
  have e : gP.lookup ("is_ref" : Str) = some (⟨x_is_ref, defScope s_is_ref, defBody s_is_ref, 1⟩ : EV.DefI) := by kernel_rfl
  rw [EV.fn_eq e]
  show (if ws.length = 1 then EV.runB (EV.cSs gG (EV.Fn gG gP d) x_is_ref (defScope s_is_ref) 300 (defBody s_is_ref)) [("text" : Str), ("parts" : Str), ("part" : Str)] ws S else .bad) = _
  rw [me_is_ref]
def m_is_number (F : EV.Fenv) : EV.M EV.Fl := (EV.sSeq (EV.sIf (EV.mOr (EV.mCmpT .Eq (EV.mVarB 0) (EV.mC (.str ""))) (EV.mCmpT .Gt (EV.mBlt .len (EV.mCons (EV.mVarB 0) EV.mNil)) (EV.mC (.int 6)))) (EV.sRet (EV.mC (.bl false))) EV.sNext)
  (EV.sSeq (EV.sFrz [0] (EV.sFor (EV.mIt (EV.mVar 0)) (EV.bName 1) (EV.sIf (EV.mCmpT .NotIn (EV.mVarB 1) (EV.mC (.str "0123456789"))) (EV.sRet (EV.mC (.bl false))) EV.sNext)))
  (EV.sRet (EV.mOrV (EV.mCmp .Eq (EV.mVarB 0) (EV.mC (.str "0"))) (EV.mCmp .NotEq (EV.mIx (EV.mVarB 0) (EV.mC (.int 0))) (EV.mC (.str "0")))))))
theorem me_is_number (F : EV.Fenv) : EV.cSs gG F x_is_number (defScope s_is_number) 300 (defBody s_is_number) = m_is_number F := by kernel_rfl
theorem fe_is_number (d : Nat) (ws : List EV.W) (S : EV.Sto) : EV.Fn gG gP (d + 1) "is_number" ws S = if ws.length = 1 then EV.runB (m_is_number (EV.Fn gG gP d)) [("text" : Str), ("sign" : Str)] ws S else .bad := by
  have e : gP.lookup ("is_number" : Str) = some (⟨x_is_number, defScope s_is_number, defBody s_is_number, 1⟩ : EV.DefI) := by kernel_rfl
  rw [EV.fn_eq e]
  show (if ws.length = 1 then EV.runB (EV.cSs gG (EV.Fn gG gP d) x_is_number (defScope s_is_number) 300 (defBody s_is_number)) [("text" : Str), ("sign" : Str)] ws S else .bad) = _
  rw [me_is_number]
def m_Cursoru_initu (F : EV.Fenv) : EV.M EV.Fl := (EV.sSeq (EV.sFrz [1] (EV.sFldM (EV.mVarB 0) (EV.mVar 1) "tokens" fun c => gG.fld.contains (c, ("tokens" : Str))))
  (EV.sSeq (EV.sFrz [2] (EV.sFldM (EV.mVarB 0) (EV.mVar 2) "line" fun c => gG.fld.contains (c, ("line" : Str))))
  (EV.sSeq (EV.sFldM (EV.mVarB 0) (EV.mC (.int 0)) "at" fun c => gG.fld.contains (c, ("at" : Str)))
  (EV.sFldM (EV.mVarB 0) (EV.mC (.int 0)) "brackets" fun c => gG.fld.contains (c, ("brackets" : Str))))))
theorem me_Cursoru_initu (F : EV.Fenv) : EV.cSs gG F x_Cursoru_initu (defScope s_Cursoru_initu) 300 (defBody s_Cursoru_initu) = m_Cursoru_initu F := by kernel_rfl
theorem fe_Cursoru_initu (d : Nat) (ws : List EV.W) (S : EV.Sto) : EV.Fn gG gP (d + 1) "Cursor.__init__" ws S = if ws.length = 3 then EV.runB (m_Cursoru_initu (EV.Fn gG gP d)) [("self" : Str), ("tokens" : Str), ("line" : Str)] ws S else .bad := by
  have e : gP.lookup ("Cursor.__init__" : Str) = some (⟨x_Cursoru_initu, defScope s_Cursoru_initu, defBody s_Cursoru_initu, 3⟩ : EV.DefI) := by kernel_rfl
  rw [EV.fn_eq e]
  show (if ws.length = 3 then EV.runB (EV.cSs gG (EV.Fn gG gP d) x_Cursoru_initu (defScope s_Cursoru_initu) 300 (defBody s_Cursoru_initu)) [("self" : Str), ("tokens" : Str), ("line" : Str)] ws S else .bad) = _
  rw [me_Cursoru_initu]
def m_Cursor_peek (F : EV.Fenv) : EV.M EV.Fl := (EV.sSeq (EV.sIf (EV.mCmpT .Lt (EV.mFld (EV.mVarB 0) "at" fun c => gG.fld.contains (c, ("at" : Str))) (EV.mBlt .len (EV.mCons (EV.mFld (EV.mVarB 0) "tokens" fun c => gG.fld.contains (c, ("tokens" : Str))) EV.mNil))) (EV.sRet (EV.mIx (EV.mFld (EV.mVarB 0) "tokens" fun c => gG.fld.contains (c, ("tokens" : Str))) (EV.mFld (EV.mVarB 0) "at" fun c => gG.fld.contains (c, ("at" : Str))))) EV.sNext)
  (EV.sRet (EV.mC (.str ""))))
theorem me_Cursor_peek (F : EV.Fenv) : EV.cSs gG F x_Cursor_peek (defScope s_Cursor_peek) 300 (defBody s_Cursor_peek) = m_Cursor_peek F := by kernel_rfl
theorem fe_Cursor_peek (d : Nat) (ws : List EV.W) (S : EV.Sto) : EV.Fn gG gP (d + 1) "Cursor.peek" ws S = if ws.length = 1 then EV.runB (m_Cursor_peek (EV.Fn gG gP d)) [("self" : Str)] ws S else .bad := by
  have e : gP.lookup ("Cursor.peek" : Str) = some (⟨x_Cursor_peek, defScope s_Cursor_peek, defBody s_Cursor_peek, 1⟩ : EV.DefI) := by kernel_rfl
  rw [EV.fn_eq e]
  show (if ws.length = 1 then EV.runB (EV.cSs gG (EV.Fn gG gP d) x_Cursor_peek (defScope s_Cursor_peek) 300 (defBody s_Cursor_peek)) [("self" : Str)] ws S else .bad) = _
  rw [me_Cursor_peek]
def m_Cursor_take (F : EV.Fenv) : EV.M EV.Fl := (EV.sSeq (EV.sSet 1 (EV.mMeth F (fun c => gG.mts.lookup (c, ("peek" : Str))) .other "peek" (EV.mVarB 0) EV.mNil))
  (EV.sSeq (EV.sFldM (EV.mVarB 0) (EV.mBin .Add (EV.mFld (EV.mVarB 0) "at" fun c => gG.fld.contains (c, ("at" : Str))) (EV.mC (.int 1))) "at" fun c => gG.fld.contains (c, ("at" : Str)))
  (EV.sFrz [1] (EV.sRet (EV.mVar 1)))))
theorem me_Cursor_take (F : EV.Fenv) : EV.cSs gG F x_Cursor_take (defScope s_Cursor_take) 300 (defBody s_Cursor_take) = m_Cursor_take F := by kernel_rfl
theorem fe_Cursor_take (d : Nat) (ws : List EV.W) (S : EV.Sto) : EV.Fn gG gP (d + 1) "Cursor.take" ws S = if ws.length = 1 then EV.runB (m_Cursor_take (EV.Fn gG gP d)) [("self" : Str), ("token" : Str)] ws S else .bad := by
  have e : gP.lookup ("Cursor.take" : Str) = some (⟨x_Cursor_take, defScope s_Cursor_take, defBody s_Cursor_take, 1⟩ : EV.DefI) := by kernel_rfl
  rw [EV.fn_eq e]
  show (if ws.length = 1 then EV.runB (EV.cSs gG (EV.Fn gG gP d) x_Cursor_take (defScope s_Cursor_take) 300 (defBody s_Cursor_take)) [("self" : Str), ("token" : Str)] ws S else .bad) = _
  rw [me_Cursor_take]
def m_Cursor_accept (F : EV.Fenv) : EV.M EV.Fl := (EV.sSeq (EV.sIf (EV.mCmpT .NotEq (EV.mMeth F (fun c => gG.mts.lookup (c, ("peek" : Str))) .other "peek" (EV.mVarB 0) EV.mNil) (EV.mVarB 1)) (EV.sRet (EV.mC (.bl false))) EV.sNext)
  (EV.sSeq (EV.sFldM (EV.mVarB 0) (EV.mBin .Add (EV.mFld (EV.mVarB 0) "at" fun c => gG.fld.contains (c, ("at" : Str))) (EV.mC (.int 1))) "at" fun c => gG.fld.contains (c, ("at" : Str)))
  (EV.sRet (EV.mC (.bl true)))))
theorem me_Cursor_accept (F : EV.Fenv) : EV.cSs gG F x_Cursor_accept (defScope s_Cursor_accept) 300 (defBody s_Cursor_accept) = m_Cursor_accept F := by kernel_rfl
theorem fe_Cursor_accept (d : Nat) (ws : List EV.W) (S : EV.Sto) : EV.Fn gG gP (d + 1) "Cursor.accept" ws S = if ws.length = 2 then EV.runB (m_Cursor_accept (EV.Fn gG gP d)) [("self" : Str), ("token" : Str)] ws S else .bad := by
  have e : gP.lookup ("Cursor.accept" : Str) = some (⟨x_Cursor_accept, defScope s_Cursor_accept, defBody s_Cursor_accept, 2⟩ : EV.DefI) := by kernel_rfl
  rw [EV.fn_eq e]
  show (if ws.length = 2 then EV.runB (EV.cSs gG (EV.Fn gG gP d) x_Cursor_accept (defScope s_Cursor_accept) 300 (defBody s_Cursor_accept)) [("self" : Str), ("token" : Str)] ws S else .bad) = _
  rw [me_Cursor_accept]
def m_Cursor_expect (F : EV.Fenv) : EV.M EV.Fl := (EV.sFrz [1] (EV.sIf (EV.mNotT (EV.mTru (EV.mMeth F (fun c => gG.mts.lookup (c, ("accept" : Str))) .other "accept" (EV.mVarB 0) (EV.mCons (EV.mVar 1) EV.mNil)))) EV.mBad EV.sNext))
theorem me_Cursor_expect (F : EV.Fenv) : EV.cSs gG F x_Cursor_expect (defScope s_Cursor_expect) 300 (defBody s_Cursor_expect) = m_Cursor_expect F := by kernel_rfl
theorem fe_Cursor_expect (d : Nat) (ws : List EV.W) (S : EV.Sto) : EV.Fn gG gP (d + 1) "Cursor.expect" ws S = if ws.length = 2 then EV.runB (m_Cursor_expect (EV.Fn gG gP d)) [("self" : Str), ("token" : Str)] ws S else .bad := by
  have e : gP.lookup ("Cursor.expect" : Str) = some (⟨x_Cursor_expect, defScope s_Cursor_expect, defBody s_Cursor_expect, 2⟩ : EV.DefI) := by kernel_rfl
  rw [EV.fn_eq e]
  show (if ws.length = 2 then EV.runB (EV.cSs gG (EV.Fn gG gP d) x_Cursor_expect (defScope s_Cursor_expect) 300 (defBody s_Cursor_expect)) [("self" : Str), ("token" : Str)] ws S else .bad) = _
  rw [me_Cursor_expect]
def m_Cursor_finish (F : EV.Fenv) : EV.M EV.Fl := (EV.sIf (EV.mCmpT .NotEq (EV.mMeth F (fun c => gG.mts.lookup (c, ("peek" : Str))) .other "peek" (EV.mVarB 0) EV.mNil) (EV.mC (.str ""))) EV.mBad EV.sNext)
theorem me_Cursor_finish (F : EV.Fenv) : EV.cSs gG F x_Cursor_finish (defScope s_Cursor_finish) 300 (defBody s_Cursor_finish) = m_Cursor_finish F := by kernel_rfl
theorem fe_Cursor_finish (d : Nat) (ws : List EV.W) (S : EV.Sto) : EV.Fn gG gP (d + 1) "Cursor.finish" ws S = if ws.length = 1 then EV.runB (m_Cursor_finish (EV.Fn gG gP d)) [("self" : Str)] ws S else .bad := by
  have e : gP.lookup ("Cursor.finish" : Str) = some (⟨x_Cursor_finish, defScope s_Cursor_finish, defBody s_Cursor_finish, 1⟩ : EV.DefI) := by kernel_rfl
  rw [EV.fn_eq e]
  show (if ws.length = 1 then EV.runB (EV.cSs gG (EV.Fn gG gP d) x_Cursor_finish (defScope s_Cursor_finish) 300 (defBody s_Cursor_finish)) [("self" : Str)] ws S else .bad) = _
  rw [me_Cursor_finish]
def m_Cursor_open_bracket (F : EV.Fenv) : EV.M EV.Fl := (EV.sSeq (EV.sMut (EV.mutE F (fun c => gG.mts.lookup (c, ("expect" : Str))) .other "expect" 0 (EV.mCons (EV.mC (.str "(")) EV.mNil)))
  (EV.sSeq (EV.sFldM (EV.mVarB 0) (EV.mBin .Add (EV.mFld (EV.mVarB 0) "brackets" fun c => gG.fld.contains (c, ("brackets" : Str))) (EV.mC (.int 1))) "brackets" fun c => gG.fld.contains (c, ("brackets" : Str)))
  (EV.sIf (EV.mCmpT .Gt (EV.mFld (EV.mVarB 0) "brackets" fun c => gG.fld.contains (c, ("brackets" : Str))) (EV.mC (.int 12))) EV.mBad EV.sNext)))
theorem me_Cursor_open_bracket (F : EV.Fenv) : EV.cSs gG F x_Cursor_open_bracket (defScope s_Cursor_open_bracket) 300 (defBody s_Cursor_open_bracket) = m_Cursor_open_bracket F := by kernel_rfl
theorem fe_Cursor_open_bracket (d : Nat) (ws : List EV.W) (S : EV.Sto) : EV.Fn gG gP (d + 1) "Cursor.open_bracket" ws S = if ws.length = 1 then EV.runB (m_Cursor_open_bracket (EV.Fn gG gP d)) [("self" : Str)] ws S else .bad := by
  have e : gP.lookup ("Cursor.open_bracket" : Str) = some (⟨x_Cursor_open_bracket, defScope s_Cursor_open_bracket, defBody s_Cursor_open_bracket, 1⟩ : EV.DefI) := by kernel_rfl
  rw [EV.fn_eq e]
  show (if ws.length = 1 then EV.runB (EV.cSs gG (EV.Fn gG gP d) x_Cursor_open_bracket (defScope s_Cursor_open_bracket) 300 (defBody s_Cursor_open_bracket)) [("self" : Str)] ws S else .bad) = _
  rw [me_Cursor_open_bracket]
def m_Cursor_close_bracket (F : EV.Fenv) : EV.M EV.Fl := (EV.sSeq (EV.sMut (EV.mutE F (fun c => gG.mts.lookup (c, ("expect" : Str))) .other "expect" 0 (EV.mCons (EV.mC (.str ")")) EV.mNil)))
  (EV.sFldM (EV.mVarB 0) (EV.mBin .Sub (EV.mFld (EV.mVarB 0) "brackets" fun c => gG.fld.contains (c, ("brackets" : Str))) (EV.mC (.int 1))) "brackets" fun c => gG.fld.contains (c, ("brackets" : Str))))
theorem me_Cursor_close_bracket (F : EV.Fenv) : EV.cSs gG F x_Cursor_close_bracket (defScope s_Cursor_close_bracket) 300 (defBody s_Cursor_close_bracket) = m_Cursor_close_bracket F := by kernel_rfl
theorem fe_Cursor_close_bracket (d : Nat) (ws : List EV.W) (S : EV.Sto) : EV.Fn gG gP (d + 1) "Cursor.close_bracket" ws S = if ws.length = 1 then EV.runB (m_Cursor_close_bracket (EV.Fn gG gP d)) [("self" : Str)] ws S else .bad := by
  have e : gP.lookup ("Cursor.close_bracket" : Str) = some (⟨x_Cursor_close_bracket, defScope s_Cursor_close_bracket, defBody s_Cursor_close_bracket, 1⟩ : EV.DefI) := by kernel_rfl
  rw [EV.fn_eq e]
  show (if ws.length = 1 then EV.runB (EV.cSs gG (EV.Fn gG gP d) x_Cursor_close_bracket (defScope s_Cursor_close_bracket) 300 (defBody s_Cursor_close_bracket)) [("self" : Str)] ws S else .bad) = _
  rw [me_Cursor_close_bracket]
def m_line_cursor (F : EV.Fenv) : EV.M EV.Fl := (EV.sSeq (EV.sFrz [0] (EV.sSet 2 (EV.mCall F "line_tokens" (EV.mCons (EV.mVar 0) EV.mNil) [])))
  (EV.sSeq (EV.sIf (EV.mCmpT .Is (EV.mVarB 2) (EV.mC (.non))) EV.mBad EV.sNext)
  (EV.sFrz [2, 1] (EV.sRet (EV.mMake F "Cursor" ("Cursor" ++ ".__init__") (EV.mCons (EV.mVar 2) (EV.mCons (EV.mVar 1) EV.mNil)))))))
theorem me_line_cursor (F : EV.Fenv) : EV.cSs gG F x_line_cursor (defScope s_line_cursor) 300 (defBody s_line_cursor) = m_line_cursor F := by kernel_rfl
theorem fe_line_cursor (d : Nat) (ws : List EV.W) (S : EV.Sto) : EV.Fn gG gP (d + 1) "line_cursor" ws S = if ws.length = 2 then EV.runB (m_line_cursor (EV.Fn gG gP d)) [("line" : Str), ("number" : Str), ("tokens" : Str)] ws S else .bad := by
  have e : gP.lookup ("line_cursor" : Str) = some (⟨x_line_cursor, defScope s_line_cursor, defBody s_line_cursor, 2⟩ : EV.DefI) := by kernel_rfl
  rw [EV.fn_eq e]
  show (if ws.length = 2 then EV.runB (EV.cSs gG (EV.Fn gG gP d) x_line_cursor (defScope s_line_cursor) 300 (defBody s_line_cursor)) [("line" : Str), ("number" : Str), ("tokens" : Str)] ws S else .bad) = _
  rw [me_line_cursor]
def m_read_ref (F : EV.Fenv) : EV.M EV.Fl := (EV.sSeq (EV.sSet 1 (EV.mMeth F (fun c => gG.mts.lookup (c, ("take" : Str))) .other "take" (EV.mVarB 0) EV.mNil))
  (EV.sSeq (EV.sFrz [1] (EV.sIf (EV.mNotT (EV.mTru (EV.mCall F "is_ref" (EV.mCons (EV.mVar 1) EV.mNil) []))) EV.mBad EV.sNext))
  (EV.sFrz [1] (EV.sRet (EV.mVar 1)))))
theorem me_read_ref (F : EV.Fenv) : EV.cSs gG F x_read_ref (defScope s_read_ref) 300 (defBody s_read_ref) = m_read_ref F := by kernel_rfl
theorem fe_read_ref (d : Nat) (ws : List EV.W) (S : EV.Sto) : EV.Fn gG gP (d + 1) "read_ref" ws S = if ws.length = 1 then EV.runB (m_read_ref (EV.Fn gG gP d)) [("cursor" : Str), ("token" : Str)] ws S else .bad := by
  have e : gP.lookup ("read_ref" : Str) = some (⟨x_read_ref, defScope s_read_ref, defBody s_read_ref, 1⟩ : EV.DefI) := by kernel_rfl
  rw [EV.fn_eq e]
  show (if ws.length = 1 then EV.runB (EV.cSs gG (EV.Fn gG gP d) x_read_ref (defScope s_read_ref) 300 (defBody s_read_ref)) [("cursor" : Str), ("token" : Str)] ws S else .bad) = _
  rw [me_read_ref]
def m_read_number (F : EV.Fenv) : EV.M EV.Fl := (EV.sSeq (EV.sSet 1 (EV.mMeth F (fun c => gG.mts.lookup (c, ("take" : Str))) .other "take" (EV.mVarB 0) EV.mNil))
  (EV.sSeq (EV.sFrz [1] (EV.sIf (EV.mNotT (EV.mTru (EV.mCall F "is_number" (EV.mCons (EV.mVar 1) EV.mNil) []))) EV.mBad EV.sNext))
  (EV.sRet (EV.mBlt .int (EV.mCons (EV.mVarB 1) EV.mNil)))))
theorem me_read_number (F : EV.Fenv) : EV.cSs gG F x_read_number (defScope s_read_number) 300 (defBody s_read_number) = m_read_number F := by kernel_rfl
theorem fe_read_number (d : Nat) (ws : List EV.W) (S : EV.Sto) : EV.Fn gG gP (d + 1) "read_number" ws S = if ws.length = 1 then EV.runB (m_read_number (EV.Fn gG gP d)) [("cursor" : Str), ("token" : Str)] ws S else .bad := by
  have e : gP.lookup ("read_number" : Str) = some (⟨x_read_number, defScope s_read_number, defBody s_read_number, 1⟩ : EV.DefI) := by kernel_rfl
  rw [EV.fn_eq e]
  show (if ws.length = 1 then EV.runB (EV.cSs gG (EV.Fn gG gP d) x_read_number (defScope s_read_number) 300 (defBody s_read_number)) [("cursor" : Str), ("token" : Str)] ws S else .bad) = _
  rw [me_read_number]
def m_read_side (F : EV.Fenv) : EV.M EV.Fl := (EV.sSeq (EV.sIf (EV.mTru (EV.mCall F "is_number" (EV.mCons (EV.mMeth F (fun c => gG.mts.lookup (c, ("peek" : Str))) .other "peek" (EV.mVarB 0) EV.mNil) EV.mNil) [])) (EV.sFrz [0] (EV.sRet (EV.mTup (EV.mCons (EV.mC (.str "num")) (EV.mCons (EV.mCall F "read_number" (EV.mCons (EV.mVar 0) EV.mNil) []) EV.mNil))))) EV.sNext)
  (EV.sFrz [0] (EV.sRet (EV.mTup (EV.mCons (EV.mC (.str "ref")) (EV.mCons (EV.mCall F "read_ref" (EV.mCons (EV.mVar 0) EV.mNil) []) EV.mNil))))))
theorem me_read_side (F : EV.Fenv) : EV.cSs gG F x_read_side (defScope s_read_side) 300 (defBody s_read_side) = m_read_side F := by kernel_rfl
theorem fe_read_side (d : Nat) (ws : List EV.W) (S : EV.Sto) : EV.Fn gG gP (d + 1) "read_side" ws S = if ws.length = 1 then EV.runB (m_read_side (EV.Fn gG gP d)) [("cursor" : Str)] ws S else .bad := by
  have e : gP.lookup ("read_side" : Str) = some (⟨x_read_side, defScope s_read_side, defBody s_read_side, 1⟩ : EV.DefI) := by kernel_rfl
  rw [EV.fn_eq e]
  show (if ws.length = 1 then EV.runB (EV.cSs gG (EV.Fn gG gP d) x_read_side (defScope s_read_side) 300 (defBody s_read_side)) [("cursor" : Str)] ws S else .bad) = _
  rw [me_read_side]
def m_read_expression (F : EV.Fenv) : EV.M EV.Fl := (EV.sSeq (EV.sFrz [0] (EV.sSet 1 (EV.mCall F "read_term" (EV.mCons (EV.mVar 0) EV.mNil) [])))
  (EV.sSeq (EV.sWh (EV.mTIn [("+", .str "add"), ("-", .str "sub")] false (EV.mMeth F (fun c => gG.mts.lookup (c, ("peek" : Str))) .other "peek" (EV.mVarB 0) EV.mNil)) (EV.sSeq (EV.sSet 2 (EV.mTSub [("+", .str "add"), ("-", .str "sub")] (EV.mMeth F (fun c => gG.mts.lookup (c, ("take" : Str))) .other "take" (EV.mVarB 0) EV.mNil)))
  (EV.sFrz [2, 1, 0] (EV.sSet 1 (EV.mTup (EV.mCons (EV.mVar 2) (EV.mCons (EV.mVar 1) (EV.mCons (EV.mCall F "read_term" (EV.mCons (EV.mVar 0) EV.mNil) []) EV.mNil))))))))
  (EV.sFrz [1] (EV.sRet (EV.mVar 1)))))
theorem me_read_expression (F : EV.Fenv) : EV.cSs gG F x_read_expression (defScope s_read_expression) 300 (defBody s_read_expression) = m_read_expression F := by kernel_rfl
theorem fe_read_expression (d : Nat) (ws : List EV.W) (S : EV.Sto) : EV.Fn gG gP (d + 1) "read_expression" ws S = if ws.length = 1 then EV.runB (m_read_expression (EV.Fn gG gP d)) [("cursor" : Str), ("expr" : Str), ("kind" : Str)] ws S else .bad := by
  have e : gP.lookup ("read_expression" : Str) = some (⟨x_read_expression, defScope s_read_expression, defBody s_read_expression, 1⟩ : EV.DefI) := by kernel_rfl
  rw [EV.fn_eq e]
  show (if ws.length = 1 then EV.runB (EV.cSs gG (EV.Fn gG gP d) x_read_expression (defScope s_read_expression) 300 (defBody s_read_expression)) [("cursor" : Str), ("expr" : Str), ("kind" : Str)] ws S else .bad) = _
  rw [me_read_expression]
def m_read_term (F : EV.Fenv) : EV.M EV.Fl := (EV.sSeq (EV.sFrz [0] (EV.sSet 1 (EV.mCall F "read_atom" (EV.mCons (EV.mVar 0) EV.mNil) [])))
  (EV.sSeq (EV.sWh (EV.mTru (EV.mMeth F (fun c => gG.mts.lookup (c, ("accept" : Str))) .other "accept" (EV.mVarB 0) (EV.mCons (EV.mC (.str "*")) EV.mNil))) (EV.sFrz [1, 0] (EV.sSet 1 (EV.mTup (EV.mCons (EV.mC (.str "mul")) (EV.mCons (EV.mVar 1) (EV.mCons (EV.mCall F "read_atom" (EV.mCons (EV.mVar 0) EV.mNil) []) EV.mNil)))))))
  (EV.sFrz [1] (EV.sRet (EV.mVar 1)))))
theorem me_read_term (F : EV.Fenv) : EV.cSs gG F x_read_term (defScope s_read_term) 300 (defBody s_read_term) = m_read_term F := by kernel_rfl
theorem fe_read_term (d : Nat) (ws : List EV.W) (S : EV.Sto) : EV.Fn gG gP (d + 1) "read_term" ws S = if ws.length = 1 then EV.runB (m_read_term (EV.Fn gG gP d)) [("cursor" : Str), ("expr" : Str)] ws S else .bad := by
  have e : gP.lookup ("read_term" : Str) = some (⟨x_read_term, defScope s_read_term, defBody s_read_term, 1⟩ : EV.DefI) := by kernel_rfl
  rw [EV.fn_eq e]
  show (if ws.length = 1 then EV.runB (EV.cSs gG (EV.Fn gG gP d) x_read_term (defScope s_read_term) 300 (defBody s_read_term)) [("cursor" : Str), ("expr" : Str)] ws S else .bad) = _
  rw [me_read_term]
def m_read_atom (F : EV.Fenv) : EV.M EV.Fl := (EV.sSeq (EV.sIf (EV.mCmpT .Eq (EV.mMeth F (fun c => gG.mts.lookup (c, ("peek" : Str))) .other "peek" (EV.mVarB 0) EV.mNil) (EV.mC (.str "("))) (EV.sSeq (EV.sMut (EV.mutE F (fun c => gG.mts.lookup (c, ("open_bracket" : Str))) .other "open_bracket" 0 EV.mNil))
  (EV.sSeq (EV.sFrz [0] (EV.sSet 1 (EV.mCall F "read_expression" (EV.mCons (EV.mVar 0) EV.mNil) [])))
  (EV.sSeq (EV.sMut (EV.mutE F (fun c => gG.mts.lookup (c, ("close_bracket" : Str))) .other "close_bracket" 0 EV.mNil))
  (EV.sFrz [1] (EV.sRet (EV.mVar 1)))))) EV.sNext)
  (EV.sSeq (EV.sIf (EV.mCmpT .In (EV.mMeth F (fun c => gG.mts.lookup (c, ("peek" : Str))) .other "peek" (EV.mVarB 0) EV.mNil) (EV.mTup (EV.mCons (EV.mC (.str "min")) (EV.mCons (EV.mC (.str "max")) EV.mNil)))) (EV.sSeq (EV.sSet 2 (EV.mMeth F (fun c => gG.mts.lookup (c, ("take" : Str))) .other "take" (EV.mVarB 0) EV.mNil))
  (EV.sSeq (EV.sMut (EV.mutE F (fun c => gG.mts.lookup (c, ("open_bracket" : Str))) .other "open_bracket" 0 EV.mNil))
  (EV.sSeq (EV.sFrz [0] (EV.sSet 3 (EV.mCall F "read_expression" (EV.mCons (EV.mVar 0) EV.mNil) [])))
  (EV.sSeq (EV.sMut (EV.mutE F (fun c => gG.mts.lookup (c, ("expect" : Str))) .other "expect" 0 (EV.mCons (EV.mC (.str ",")) EV.mNil)))
  (EV.sSeq (EV.sFrz [0] (EV.sSet 4 (EV.mCall F "read_expression" (EV.mCons (EV.mVar 0) EV.mNil) [])))
  (EV.sSeq (EV.sMut (EV.mutE F (fun c => gG.mts.lookup (c, ("close_bracket" : Str))) .other "close_bracket" 0 EV.mNil))
  (EV.sFrz [2, 3, 4] (EV.sRet (EV.mTup (EV.mCons (EV.mVar 2) (EV.mCons (EV.mVar 3) (EV.mCons (EV.mVar 4) EV.mNil)))))))))))) EV.sNext)
  (EV.sFrz [0] (EV.sRet (EV.mCall F "read_side" (EV.mCons (EV.mVar 0) EV.mNil) [])))))
theorem me_read_atom (F : EV.Fenv) : EV.cSs gG F x_read_atom (defScope s_read_atom) 300 (defBody s_read_atom) = m_read_atom F := by kernel_rfl
theorem fe_read_atom (d : Nat) (ws : List EV.W) (S : EV.Sto) : EV.Fn gG gP (d + 1) "read_atom" ws S = if ws.length = 1 then EV.runB (m_read_atom (EV.Fn gG gP d)) [("cursor" : Str), ("expr" : Str), ("kind" : Str), ("left" : Str), ("right" : Str)] ws S else .bad := by
  have e : gP.lookup ("read_atom" : Str) = some (⟨x_read_atom, defScope s_read_atom, defBody s_read_atom, 1⟩ : EV.DefI) := by kernel_rfl
  rw [EV.fn_eq e]
  show (if ws.length = 1 then EV.runB (EV.cSs gG (EV.Fn gG gP d) x_read_atom (defScope s_read_atom) 300 (defBody s_read_atom)) [("cursor" : Str), ("expr" : Str), ("kind" : Str), ("left" : Str), ("right" : Str)] ws S else .bad) = _
  rw [me_read_atom]
def m_parse_expression (F : EV.Fenv) : EV.M EV.Fl := (EV.sSeq (EV.sFrz [0] (EV.sSet 1 (EV.mCall F "line_cursor" (EV.mCons (EV.mVar 0) (EV.mCons (EV.mC (.int 1)) EV.mNil)) [])))
  (EV.sSeq (EV.sFrz [1] (EV.sSet 2 (EV.mCall F "read_expression" (EV.mCons (EV.mVar 1) EV.mNil) [])))
  (EV.sSeq (EV.sMut (EV.mutE F (fun c => gG.mts.lookup (c, ("finish" : Str))) .other "finish" 1 EV.mNil))
  (EV.sFrz [2] (EV.sRet (EV.mVar 2))))))
theorem me_parse_expression (F : EV.Fenv) : EV.cSs gG F x_parse_expression (defScope s_parse_expression) 300 (defBody s_parse_expression) = m_parse_expression F := by kernel_rfl
theorem fe_parse_expression (d : Nat) (ws : List EV.W) (S : EV.Sto) : EV.Fn gG gP (d + 1) "parse_expression" ws S = if ws.length = 1 then EV.runB (m_parse_expression (EV.Fn gG gP d)) [("text" : Str), ("cursor" : Str), ("expr" : Str)] ws S else .bad := by
  have e : gP.lookup ("parse_expression" : Str) = some (⟨x_parse_expression, defScope s_parse_expression, defBody s_parse_expression, 1⟩ : EV.DefI) := by kernel_rfl
  rw [EV.fn_eq e]
  show (if ws.length = 1 then EV.runB (EV.cSs gG (EV.Fn gG gP d) x_parse_expression (defScope s_parse_expression) 300 (defBody s_parse_expression)) [("text" : Str), ("cursor" : Str), ("expr" : Str)] ws S else .bad) = _
  rw [me_parse_expression]
def m_lw_bag (F : EV.Fenv) : EV.M EV.Fl := (EV.sSeq (EV.sSet 2 (EV.mC (.int 0)))
  (EV.sSeq (EV.sIf (EV.mCmpT .Lt (EV.mVarB 1) (EV.mBlt .len (EV.mCons (EV.mVarB 0) EV.mNil))) (EV.sSet 2 (EV.mIx (EV.mVarB 0) (EV.mVarB 1))) EV.sNext)
  (EV.sSeq (EV.sIf (EV.mCmpT .Lt (EV.mVarB 2) (EV.mC (.int 0))) (EV.sSetF 2 (EV.mBin .Sub (EV.mC (.int 1)) (EV.mBin .Mult (EV.mC (.int 2)) (EV.mVarB 2)))) EV.sNext)
  (EV.sSeq (EV.sIf (EV.mCmpT .GtE (EV.mVarB 2) (EV.mBin .Pow (EV.mC (.int 10)) (EV.mC (.int 18)))) (EV.sFrz [1] (EV.sRet (EV.mToLoc (EV.mLst (EV.mCons (EV.mBin .Sub (EV.mVarB 2) (EV.mBin .Pow (EV.mC (.int 10)) (EV.mC (.int 18)))) (EV.mCons (EV.mVar 1) (EV.mCons (EV.mC (.int 1)) EV.mNil))))))) EV.sNext)
  (EV.sFrz [2, 1] (EV.sRet (EV.mToLoc (EV.mLst (EV.mCons (EV.mVar 2) (EV.mCons (EV.mVar 1) (EV.mCons (EV.mC (.int 0)) EV.mNil)))))))))))
theorem me_lw_bag (F : EV.Fenv) : EV.cSs gG F x_lw_bag (defScope s_lw_bag) 300 (defBody s_lw_bag) = m_lw_bag F := by kernel_rfl
theorem fe_lw_bag (d : Nat) (ws : List EV.W) (S : EV.Sto) : EV.Fn gG gP (d + 1) "_law_bag" ws S = if ws.length = 2 then EV.runB (m_lw_bag (EV.Fn gG gP d)) [("script" : Str), ("at" : Str), ("cell" : Str)] ws S else .bad := by
  have e : gP.lookup ("_law_bag" : Str) = some (⟨x_lw_bag, defScope s_lw_bag, defBody s_lw_bag, 2⟩ : EV.DefI) := by kernel_rfl
  rw [EV.fn_eq e]
  show (if ws.length = 2 then EV.runB (EV.cSs gG (EV.Fn gG gP d) x_lw_bag (defScope s_lw_bag) 300 (defBody s_lw_bag)) [("script" : Str), ("at" : Str), ("cell" : Str)] ws S else .bad) = _
  rw [me_lw_bag]
def m_lw_take (F : EV.Fenv) : EV.M EV.Fl := (EV.sSeq (EV.sIf (EV.mAnd (EV.mCmpT .Eq (EV.mIx (EV.mVarB 0) (EV.mC (.int 2))) (EV.mC (.int 1))) (EV.mCmpT .Gt (EV.mIx (EV.mVarB 0) (EV.mC (.int 0))) (EV.mC (.int 1)))) (EV.sSeq (EV.sSetF 2 (EV.mBin .Mod (EV.mBlt .int (EV.mCons (EV.mIx (EV.mVarB 0) (EV.mC (.int 0))) EV.mNil)) (EV.mVarB 1)))
  (EV.sSeq (EV.sPut 0 (EV.mVarB 0) (EV.mC (.int 0)) (EV.mBin .FloorDiv (EV.mIx (EV.mVarB 0) (EV.mC (.int 0))) (EV.mVarB 1)))
  (EV.sFrz [2] (EV.sRet (EV.mVar 2))))) EV.sNext)
  (EV.sSeq (EV.sPut 0 (EV.mVarB 0) (EV.mC (.int 1)) (EV.mBin .Add (EV.mIx (EV.mVarB 0) (EV.mC (.int 1))) (EV.mC (.int 1))))
  (EV.sSeq (EV.sSetF 3 (EV.mBin .Mod (EV.mBlt .int (EV.mCons (EV.mBin .Add (EV.mBin .Add (EV.mBin .Mult (EV.mIx (EV.mVarB 0) (EV.mC (.int 0))) (EV.mC (.int 48271))) (EV.mBin .Mult (EV.mIx (EV.mVarB 0) (EV.mC (.int 1))) (EV.mC (.int 69621)))) (EV.mC (.int 12345))) EV.mNil)) (EV.mC (.int 2147483647))))
  (EV.sSeq (EV.sSetF 4 (EV.mBin .Mod (EV.mBlt .int (EV.mCons (EV.mBin .Add (EV.mBin .Mult (EV.mVarB 3) (EV.mVarB 3)) (EV.mBin .Mult (EV.mIx (EV.mVarB 0) (EV.mC (.int 1))) (EV.mC (.int 40692)))) EV.mNil)) (EV.mC (.int 2147483399))))
  (EV.sSeq (EV.sSetF 5 (EV.mBin .Mod (EV.mBlt .int (EV.mCons (EV.mBin .Add (EV.mBin .Mult (EV.mVarB 4) (EV.mVarB 4)) (EV.mVarB 3)) EV.mNil)) (EV.mC (.int 1000000007))))
  (EV.sRet (EV.mBin .Mod (EV.mBlt .int (EV.mCons (EV.mBin .FloorDiv (EV.mVarB 5) (EV.mC (.int 7))) EV.mNil)) (EV.mVarB 1))))))))
theorem me_lw_take (F : EV.Fenv) : EV.cSs gG F x_lw_take (defScope s_lw_take) 300 (defBody s_lw_take) = m_lw_take F := by kernel_rfl
theorem fe_lw_take (d : Nat) (ws : List EV.W) (S : EV.Sto) : EV.Fn gG gP (d + 1) "_law_take" ws S = if ws.length = 2 then EV.runB (m_lw_take (EV.Fn gG gP d)) [("bag" : Str), ("many" : Str), ("digit" : Str), ("one" : Str), ("two" : Str), ("three" : Str)] ws S else .bad := by
  have e : gP.lookup ("_law_take" : Str) = some (⟨x_lw_take, defScope s_lw_take, defBody s_lw_take, 2⟩ : EV.DefI) := by kernel_rfl
  rw [EV.fn_eq e]
  show (if ws.length = 2 then EV.runB (EV.cSs gG (EV.Fn gG gP d) x_lw_take (defScope s_lw_take) 300 (defBody s_lw_take)) [("bag" : Str), ("many" : Str), ("digit" : Str), ("one" : Str), ("two" : Str), ("three" : Str)] ws S else .bad) = _
  rw [me_lw_take]
def m_lw_pick (F : EV.Fenv) : EV.M EV.Fl := (EV.sFrz [0] (EV.sRet (EV.mIx (EV.mVarB 1) (EV.mCall F "_law_take" (EV.mCons (EV.mVar 0) (EV.mCons (EV.mBlt .len (EV.mCons (EV.mVarB 1) EV.mNil)) EV.mNil)) []))))
theorem me_lw_pick (F : EV.Fenv) : EV.cSs gG F x_lw_pick (defScope s_lw_pick) 300 (defBody s_lw_pick) = m_lw_pick F := by kernel_rfl
theorem fe_lw_pick (d : Nat) (ws : List EV.W) (S : EV.Sto) : EV.Fn gG gP (d + 1) "_law_pick" ws S = if ws.length = 2 then EV.runB (m_lw_pick (EV.Fn gG gP d)) [("bag" : Str), ("menu" : Str)] ws S else .bad := by
  have e : gP.lookup ("_law_pick" : Str) = some (⟨x_lw_pick, defScope s_lw_pick, defBody s_lw_pick, 2⟩ : EV.DefI) := by kernel_rfl
  rw [EV.fn_eq e]
  show (if ws.length = 2 then EV.runB (EV.cSs gG (EV.Fn gG gP d) x_lw_pick (defScope s_lw_pick) 300 (defBody s_lw_pick)) [("bag" : Str), ("menu" : Str)] ws S else .bad) = _
  rw [me_lw_pick]
def m_lw_reserved (F : EV.Fenv) : EV.M EV.Fl := (EV.sSeq (EV.sSet 0 (EV.mC (.str "project steady fails input output top rest flag word first retained timer on off pulse sum counter up down")))
  (EV.sSeq (EV.sSetF 0 (EV.mBin .Add (EV.mVarB 0) (EV.mC (.str " chart step limit move to when end instance of block in out begin task every at rung zone advance"))))
  (EV.sSeq (EV.sSetF 0 (EV.mBin .Add (EV.mVarB 0) (EV.mC (.str " part call skip plant budget cell sensor case chance fault stuck freeze blink never within after"))))
  (EV.sRet (EV.mSm .split (EV.mBin .Add (EV.mVarB 0) (EV.mC (.str " comes min max powered phase"))) (EV.mC (.str " ")))))))
theorem me_lw_reserved (F : EV.Fenv) : EV.cSs gG F x_lw_reserved (defScope s_lw_reserved) 300 (defBody s_lw_reserved) = m_lw_reserved F := by kernel_rfl
theorem fe_lw_reserved (d : Nat) (ws : List EV.W) (S : EV.Sto) : EV.Fn gG gP (d + 1) "_law_reserved" ws S = if ws.length = 0 then EV.runB (m_lw_reserved (EV.Fn gG gP d)) [("words" : Str)] ws S else .bad := by
  have e : gP.lookup ("_law_reserved" : Str) = some (⟨x_lw_reserved, defScope s_lw_reserved, defBody s_lw_reserved, 0⟩ : EV.DefI) := by kernel_rfl
  rw [EV.fn_eq e]
  show (if ws.length = 0 then EV.runB (EV.cSs gG (EV.Fn gG gP d) x_lw_reserved (defScope s_lw_reserved) 300 (defBody s_lw_reserved)) [("words" : Str)] ws S else .bad) = _
  rw [me_lw_reserved]
def m_lw_word (F : EV.Fenv) : EV.M EV.Fl := (EV.sSeq (EV.sSet 1 (EV.mC (.str "abcdefghijklmnopqrstuvwxyz")))
  (EV.sSeq (EV.sFrz [0, 1] (EV.sSet 2 (EV.mCall F "_law_pick" (EV.mCons (EV.mVar 0) (EV.mCons (EV.mVar 1) EV.mNil)) [])))
  (EV.sSeq (EV.sFrz [0, 0, 0] (EV.sFor (EV.mRng1 (EV.mCall F "_law_pick" (EV.mCons (EV.mVar 0) (EV.mCons (EV.mLst (EV.mCons (EV.mC (.int 0)) (EV.mCons (EV.mC (.int 0)) (EV.mCons (EV.mC (.int 1)) (EV.mCons (EV.mC (.int 1)) (EV.mCons (EV.mC (.int 2)) (EV.mCons (EV.mC (.int 3)) (EV.mCons (EV.mCall F "_law_take" (EV.mCons (EV.mVar 0) (EV.mCons (EV.mC (.int 12)) EV.mNil)) []) (EV.mCons (EV.mCall F "_law_take" (EV.mCons (EV.mVar 0) (EV.mCons (EV.mC (.int 40)) EV.mNil)) []) EV.mNil))))))))) EV.mNil)) [])) (EV.bName 3) (EV.sFrz [0] (EV.sSetF 2 (EV.mBin .Add (EV.mVarB 2) (EV.mCall F "_law_pick" (EV.mCons (EV.mVar 0) (EV.mCons (EV.mBin .Add (EV.mVarB 1) (EV.mC (.str "0123456789"))) EV.mNil)) []))))))
  (EV.sFrz [2] (EV.sRet (EV.mVar 2))))))
theorem me_lw_word (F : EV.Fenv) : EV.cSs gG F x_lw_word (defScope s_lw_word) 300 (defBody s_lw_word) = m_lw_word F := by kernel_rfl
theorem fe_lw_word (d : Nat) (ws : List EV.W) (S : EV.Sto) : EV.Fn gG gP (d + 1) "_law_word" ws S = if ws.length = 1 then EV.runB (m_lw_word (EV.Fn gG gP d)) [("bag" : Str), ("letters" : Str), ("word" : Str), ("k" : Str)] ws S else .bad := by
  have e : gP.lookup ("_law_word" : Str) = some (⟨x_lw_word, defScope s_lw_word, defBody s_lw_word, 1⟩ : EV.DefI) := by kernel_rfl
  rw [EV.fn_eq e]
  show (if ws.length = 1 then EV.runB (EV.cSs gG (EV.Fn gG gP d) x_lw_word (defScope s_lw_word) 300 (defBody s_lw_word)) [("bag" : Str), ("letters" : Str), ("word" : Str), ("k" : Str)] ws S else .bad) = _
  rw [me_lw_word]
def m_lw_name (F : EV.Fenv) : EV.M EV.Fl := (EV.sSeq (EV.sFrz [0] (EV.sSet 1 (EV.mCall F "_law_word" (EV.mCons (EV.mVar 0) EV.mNil) [])))
  (EV.sSeq (EV.sIf (EV.mCmpT .In (EV.mVarB 1) (EV.mCall F "_law_reserved" EV.mNil [])) (EV.sFrz [0] (EV.sSetF 1 (EV.mBin .Add (EV.mVarB 1) (EV.mCall F "_law_pick" (EV.mCons (EV.mVar 0) (EV.mCons (EV.mC (.str "0123456789")) EV.mNil)) [])))) EV.sNext)
  (EV.sFrz [1] (EV.sRet (EV.mVar 1)))))
theorem me_lw_name (F : EV.Fenv) : EV.cSs gG F x_lw_name (defScope s_lw_name) 300 (defBody s_lw_name) = m_lw_name F := by kernel_rfl
theorem fe_lw_name (d : Nat) (ws : List EV.W) (S : EV.Sto) : EV.Fn gG gP (d + 1) "_law_name" ws S = if ws.length = 1 then EV.runB (m_lw_name (EV.Fn gG gP d)) [("bag" : Str), ("name" : Str)] ws S else .bad := by
  have e : gP.lookup ("_law_name" : Str) = some (⟨x_lw_name, defScope s_lw_name, defBody s_lw_name, 1⟩ : EV.DefI) := by kernel_rfl
  rw [EV.fn_eq e]
  show (if ws.length = 1 then EV.runB (EV.cSs gG (EV.Fn gG gP d) x_lw_name (defScope s_lw_name) 300 (defBody s_lw_name)) [("bag" : Str), ("name" : Str)] ws S else .bad) = _
  rw [me_lw_name]
def m_lw_ref (F : EV.Fenv) : EV.M EV.Fl := (EV.sSeq (EV.sFrz [0] (EV.sSet 1 (EV.mCall F "_law_take" (EV.mCons (EV.mVar 0) (EV.mCons (EV.mC (.int 8)) EV.mNil)) [])))
  (EV.sSeq (EV.sIf (EV.mCmpT .Eq (EV.mVarB 1) (EV.mC (.int 0))) (EV.sFrz [0] (EV.sRet (EV.mCall F "_law_pick" (EV.mCons (EV.mVar 0) (EV.mCons (EV.mLst (EV.mCons (EV.mC (.str "first")) (EV.mCons (EV.mC (.str "powered")) EV.mNil))) EV.mNil)) []))) EV.sNext)
  (EV.sSeq (EV.sFrz [0] (EV.sSet 2 (EV.mCall F "_law_name" (EV.mCons (EV.mVar 0) EV.mNil) [])))
  (EV.sSeq (EV.sFor (EV.mRng1 (EV.mBlt .max (EV.mCons (EV.mC (.int 0)) (EV.mCons (EV.mBin .Sub (EV.mVarB 1) (EV.mC (.int 4))) EV.mNil)))) (EV.bName 3) (EV.sSeq (EV.sFrz [0] (EV.sSet 4 (EV.mCall F "_law_word" (EV.mCons (EV.mVar 0) EV.mNil) [])))
  (EV.sSeq (EV.sFrz [0] (EV.sIf (EV.mCmpT .Eq (EV.mCall F "_law_take" (EV.mCons (EV.mVar 0) (EV.mCons (EV.mC (.int 2)) EV.mNil)) []) (EV.mC (.int 0))) (EV.sFrz [0] (EV.sSet 4 (EV.mCall F "_law_pick" (EV.mCons (EV.mVar 0) (EV.mCons (EV.mBin .Add (EV.mLst (EV.mCons (EV.mC (.str "e")) (EV.mCons (EV.mC (.str "q")) (EV.mCons (EV.mC (.str "v")) (EV.mCons (EV.mC (.str "t")) EV.mNil))))) (EV.mCall F "_law_reserved" EV.mNil [])) EV.mNil)) []))) EV.sNext))
  (EV.sSetF 2 (EV.mBin .Add (EV.mBin .Add (EV.mVarB 2) (EV.mC (.str "."))) (EV.mVarB 4))))))
  (EV.sFrz [2] (EV.sRet (EV.mVar 2)))))))
theorem me_lw_ref (F : EV.Fenv) : EV.cSs gG F x_lw_ref (defScope s_lw_ref) 300 (defBody s_lw_ref) = m_lw_ref F := by kernel_rfl
theorem fe_lw_ref (d : Nat) (ws : List EV.W) (S : EV.Sto) : EV.Fn gG gP (d + 1) "_law_ref" ws S = if ws.length = 1 then EV.runB (m_lw_ref (EV.Fn gG gP d)) [("bag" : Str), ("way" : Str), ("ref" : Str), ("k" : Str), ("part" : Str)] ws S else .bad := by
  have e : gP.lookup ("_law_ref" : Str) = some (⟨x_lw_ref, defScope s_lw_ref, defBody s_lw_ref, 1⟩ : EV.DefI) := by kernel_rfl
  rw [EV.fn_eq e]
  show (if ws.length = 1 then EV.runB (EV.cSs gG (EV.Fn gG gP d) x_lw_ref (defScope s_lw_ref) 300 (defBody s_lw_ref)) [("bag" : Str), ("way" : Str), ("ref" : Str), ("k" : Str), ("part" : Str)] ws S else .bad) = _
  rw [me_lw_ref]
def m_lw_number (F : EV.Fenv) : EV.M EV.Fl := (EV.sFrz [0, 0] (EV.sRet (EV.mCall F "_law_pick" (EV.mCons (EV.mVar 0) (EV.mCons (EV.mLst (EV.mCons (EV.mC (.int 0)) (EV.mCons (EV.mC (.int 1)) (EV.mCons (EV.mC (.int 10)) (EV.mCons (EV.mC (.int 999)) (EV.mCons (EV.mC (.int 1000)) (EV.mCons (EV.mC (.int 100000)) (EV.mCons (EV.mC (.int 999999)) (EV.mCons (EV.mCall F "_law_take" (EV.mCons (EV.mVar 0) (EV.mCons (EV.mC (.int 1000000)) EV.mNil)) []) EV.mNil))))))))) EV.mNil)) [])))
theorem me_lw_number (F : EV.Fenv) : EV.cSs gG F x_lw_number (defScope s_lw_number) 300 (defBody s_lw_number) = m_lw_number F := by kernel_rfl
theorem fe_lw_number (d : Nat) (ws : List EV.W) (S : EV.Sto) : EV.Fn gG gP (d + 1) "_law_number" ws S = if ws.length = 1 then EV.runB (m_lw_number (EV.Fn gG gP d)) [("bag" : Str)] ws S else .bad := by
  have e : gP.lookup ("_law_number" : Str) = some (⟨x_lw_number, defScope s_lw_number, defBody s_lw_number, 1⟩ : EV.DefI) := by kernel_rfl
  rw [EV.fn_eq e]
  show (if ws.length = 1 then EV.runB (EV.cSs gG (EV.Fn gG gP d) x_lw_number (defScope s_lw_number) 300 (defBody s_lw_number)) [("bag" : Str)] ws S else .bad) = _
  rw [me_lw_number]
def m_lw_side (F : EV.Fenv) : EV.M EV.Fl := (EV.sSeq (EV.sFrz [0] (EV.sIf (EV.mCmpT .Eq (EV.mCall F "_law_take" (EV.mCons (EV.mVar 0) (EV.mCons (EV.mC (.int 3)) EV.mNil)) []) (EV.mC (.int 0))) (EV.sFrz [0] (EV.sRet (EV.mTup (EV.mCons (EV.mC (.str "num")) (EV.mCons (EV.mCall F "_law_number" (EV.mCons (EV.mVar 0) EV.mNil) []) EV.mNil))))) EV.sNext))
  (EV.sFrz [0] (EV.sRet (EV.mTup (EV.mCons (EV.mC (.str "ref")) (EV.mCons (EV.mCall F "_law_ref" (EV.mCons (EV.mVar 0) EV.mNil) []) EV.mNil))))))
theorem me_lw_side (F : EV.Fenv) : EV.cSs gG F x_lw_side (defScope s_lw_side) 300 (defBody s_lw_side) = m_lw_side F := by kernel_rfl
theorem fe_lw_side (d : Nat) (ws : List EV.W) (S : EV.Sto) : EV.Fn gG gP (d + 1) "_law_side" ws S = if ws.length = 1 then EV.runB (m_lw_side (EV.Fn gG gP d)) [("bag" : Str)] ws S else .bad := by
  have e : gP.lookup ("_law_side" : Str) = some (⟨x_lw_side, defScope s_lw_side, defBody s_lw_side, 1⟩ : EV.DefI) := by kernel_rfl
  rw [EV.fn_eq e]
  show (if ws.length = 1 then EV.runB (EV.cSs gG (EV.Fn gG gP d) x_lw_side (defScope s_lw_side) 300 (defBody s_lw_side)) [("bag" : Str)] ws S else .bad) = _
  rw [me_lw_side]
def m_lw_expr (F : EV.Fenv) : EV.M EV.Fl := (EV.sSeq (EV.sFrz [0] (EV.sIf (EV.mOr (EV.mCmpT .Eq (EV.mIx (EV.mVarB 1) (EV.mC (.int 0))) (EV.mC (.int 0))) (EV.mCmpT .Eq (EV.mCall F "_law_take" (EV.mCons (EV.mVar 0) (EV.mCons (EV.mC (.int 3)) EV.mNil)) []) (EV.mC (.int 0)))) (EV.sFrz [0] (EV.sRet (EV.mCall F "_law_side" (EV.mCons (EV.mVar 0) EV.mNil) []))) EV.sNext))
  (EV.sSeq (EV.sPut 1 (EV.mVarB 1) (EV.mC (.int 0)) (EV.mBin .Sub (EV.mIx (EV.mVarB 1) (EV.mC (.int 0))) (EV.mC (.int 1))))
  (EV.sSeq (EV.sFrz [0] (EV.sSet 2 (EV.mCall F "_law_pick" (EV.mCons (EV.mVar 0) (EV.mCons (EV.mLst (EV.mCons (EV.mC (.str "add")) (EV.mCons (EV.mC (.str "sub")) (EV.mCons (EV.mC (.str "mul")) (EV.mCons (EV.mC (.str "min")) (EV.mCons (EV.mC (.str "max")) (EV.mCons (EV.mC (.str "sub")) EV.mNil))))))) EV.mNil)) [])))
  (EV.sSeq (EV.sFrz [0, 1] (EV.sSet 3 (EV.mCall F "_law_expr" (EV.mCons (EV.mVar 0) (EV.mCons (EV.mVar 1) EV.mNil)) [])))
  (EV.sSeq (EV.sFrz [0, 1] (EV.sSet 4 (EV.mCall F "_law_expr" (EV.mCons (EV.mVar 0) (EV.mCons (EV.mVar 1) EV.mNil)) [])))
  (EV.sFrz [2, 3, 4] (EV.sRet (EV.mTup (EV.mCons (EV.mVar 2) (EV.mCons (EV.mVar 3) (EV.mCons (EV.mVar 4) EV.mNil)))))))))))
theorem me_lw_expr (F : EV.Fenv) : EV.cSs gG F x_lw_expr (defScope s_lw_expr) 300 (defBody s_lw_expr) = m_lw_expr F := by kernel_rfl
theorem fe_lw_expr (d : Nat) (ws : List EV.W) (S : EV.Sto) : EV.Fn gG gP (d + 1) "_law_expr" ws S = if ws.length = 2 then EV.runB (m_lw_expr (EV.Fn gG gP d)) [("bag" : Str), ("left" : Str), ("sign" : Str), ("one" : Str), ("two" : Str)] ws S else .bad := by
  have e : gP.lookup ("_law_expr" : Str) = some (⟨x_lw_expr, defScope s_lw_expr, defBody s_lw_expr, 2⟩ : EV.DefI) := by kernel_rfl
  rw [EV.fn_eq e]
  show (if ws.length = 2 then EV.runB (EV.cSs gG (EV.Fn gG gP d) x_lw_expr (defScope s_lw_expr) 300 (defBody s_lw_expr)) [("bag" : Str), ("left" : Str), ("sign" : Str), ("one" : Str), ("two" : Str)] ws S else .bad) = _
  rw [me_lw_expr]
def m_lw_expr_text (F : EV.Fenv) : EV.M EV.Fl := (EV.sSeq (EV.sIf (EV.mCmpT .In (EV.mIx (EV.mVarB 0) (EV.mC (.int 0))) (EV.mTup (EV.mCons (EV.mC (.str "num")) (EV.mCons (EV.mC (.str "ref")) EV.mNil)))) (EV.sRet (EV.mBlt .str (EV.mCons (EV.mIx (EV.mVarB 0) (EV.mC (.int 1))) EV.mNil))) EV.sNext)
  (EV.sSeq (EV.sSet 1 (EV.mCall F "_law_expr_text" (EV.mCons (EV.mIx (EV.mVarB 0) (EV.mC (.int 1))) EV.mNil) []))
  (EV.sSeq (EV.sSet 2 (EV.mCall F "_law_expr_text" (EV.mCons (EV.mIx (EV.mVarB 0) (EV.mC (.int 2))) EV.mNil) []))
  (EV.sSeq (EV.sIf (EV.mCmpT .In (EV.mIx (EV.mVarB 0) (EV.mC (.int 0))) (EV.mTup (EV.mCons (EV.mC (.str "min")) (EV.mCons (EV.mC (.str "max")) EV.mNil)))) (EV.sRet (EV.mBin .Add (EV.mBin .Add (EV.mBin .Add (EV.mBin .Add (EV.mBin .Add (EV.mIx (EV.mVarB 0) (EV.mC (.int 0))) (EV.mC (.str "("))) (EV.mVarB 1)) (EV.mC (.str ", "))) (EV.mVarB 2)) (EV.mC (.str ")")))) EV.sNext)
  (EV.sSeq (EV.sIf (EV.mAnd (EV.mCmpT .Eq (EV.mIx (EV.mVarB 0) (EV.mC (.int 0))) (EV.mC (.str "mul"))) (EV.mCmpT .In (EV.mIx (EV.mIx (EV.mVarB 0) (EV.mC (.int 1))) (EV.mC (.int 0))) (EV.mTup (EV.mCons (EV.mC (.str "add")) (EV.mCons (EV.mC (.str "sub")) EV.mNil))))) (EV.sSetF 1 (EV.mBin .Add (EV.mBin .Add (EV.mC (.str "(")) (EV.mVarB 1)) (EV.mC (.str ")")))) EV.sNext)
  (EV.sSeq (EV.sIf (EV.mOr (EV.mCmpT .In (EV.mIx (EV.mIx (EV.mVarB 0) (EV.mC (.int 2))) (EV.mC (.int 0))) (EV.mTup (EV.mCons (EV.mC (.str "add")) (EV.mCons (EV.mC (.str "sub")) EV.mNil)))) (EV.mAnd (EV.mCmpT .Eq (EV.mIx (EV.mVarB 0) (EV.mC (.int 0))) (EV.mC (.str "mul"))) (EV.mCmpT .Eq (EV.mIx (EV.mIx (EV.mVarB 0) (EV.mC (.int 2))) (EV.mC (.int 0))) (EV.mC (.str "mul"))))) (EV.sSetF 2 (EV.mBin .Add (EV.mBin .Add (EV.mC (.str "(")) (EV.mVarB 2)) (EV.mC (.str ")")))) EV.sNext)
  (EV.sRet (EV.mBin .Add (EV.mBin .Add (EV.mVarB 1) (EV.mIx (EV.mDict [((EV.mC (.str "add")), (EV.mC (.str " + "))), ((EV.mC (.str "sub")), (EV.mC (.str " - "))), ((EV.mC (.str "mul")), (EV.mC (.str " * ")))]) (EV.mIx (EV.mVarB 0) (EV.mC (.int 0))))) (EV.mVarB 2)))))))))
theorem me_lw_expr_text (F : EV.Fenv) : EV.cSs gG F x_lw_expr_text (defScope s_lw_expr_text) 300 (defBody s_lw_expr_text) = m_lw_expr_text F := by kernel_rfl
theorem fe_lw_expr_text (d : Nat) (ws : List EV.W) (S : EV.Sto) : EV.Fn gG gP (d + 1) "_law_expr_text" ws S = if ws.length = 1 then EV.runB (m_lw_expr_text (EV.Fn gG gP d)) [("expr" : Str), ("one" : Str), ("two" : Str)] ws S else .bad := by
  have e : gP.lookup ("_law_expr_text" : Str) = some (⟨x_lw_expr_text, defScope s_lw_expr_text, defBody s_lw_expr_text, 1⟩ : EV.DefI) := by kernel_rfl
  rw [EV.fn_eq e]
  show (if ws.length = 1 then EV.runB (EV.cSs gG (EV.Fn gG gP d) x_lw_expr_text (defScope s_lw_expr_text) 300 (defBody s_lw_expr_text)) [("expr" : Str), ("one" : Str), ("two" : Str)] ws S else .bad) = _
  rw [me_lw_expr_text]
def m_lw_tokens (F : EV.Fenv) : EV.M EV.Fl := (EV.sSeq (EV.sIf (EV.mCmpT .In (EV.mIx (EV.mVarB 1) (EV.mC (.int 0))) (EV.mTup (EV.mCons (EV.mC (.str "num")) (EV.mCons (EV.mC (.str "ref")) EV.mNil)))) (EV.sSetF 3 (EV.mLst (EV.mCons (EV.mBlt .str (EV.mCons (EV.mIx (EV.mVarB 1) (EV.mC (.int 1))) EV.mNil)) EV.mNil))) (EV.sSeq (EV.sFrz [0, 2] (EV.sSet 4 (EV.mCall F "_law_tokens" (EV.mCons (EV.mVar 0) (EV.mCons (EV.mIx (EV.mVarB 1) (EV.mC (.int 1))) (EV.mCons (EV.mVar 2) EV.mNil))) [])))
  (EV.sSeq (EV.sFrz [0, 2] (EV.sSet 5 (EV.mCall F "_law_tokens" (EV.mCons (EV.mVar 0) (EV.mCons (EV.mIx (EV.mVarB 1) (EV.mC (.int 2))) (EV.mCons (EV.mVar 2) EV.mNil))) [])))
  (EV.sSeq (EV.sIf (EV.mAnd (EV.mCmpT .Eq (EV.mIx (EV.mVarB 1) (EV.mC (.int 0))) (EV.mC (.str "mul"))) (EV.mCmpT .In (EV.mIx (EV.mIx (EV.mVarB 1) (EV.mC (.int 1))) (EV.mC (.int 0))) (EV.mTup (EV.mCons (EV.mC (.str "add")) (EV.mCons (EV.mC (.str "sub")) EV.mNil))))) (EV.sSetF 4 (EV.mBin .Add (EV.mBin .Add (EV.mLst (EV.mCons (EV.mC (.str "(")) EV.mNil)) (EV.mVarB 4)) (EV.mLst (EV.mCons (EV.mC (.str ")")) EV.mNil)))) EV.sNext)
  (EV.sIf (EV.mCmpT .In (EV.mIx (EV.mVarB 1) (EV.mC (.int 0))) (EV.mTup (EV.mCons (EV.mC (.str "min")) (EV.mCons (EV.mC (.str "max")) EV.mNil)))) (EV.sSetF 3 (EV.mBin .Add (EV.mBin .Add (EV.mBin .Add (EV.mBin .Add (EV.mLst (EV.mCons (EV.mIx (EV.mVarB 1) (EV.mC (.int 0))) (EV.mCons (EV.mC (.str "(")) EV.mNil))) (EV.mVarB 4)) (EV.mLst (EV.mCons (EV.mC (.str ",")) EV.mNil))) (EV.mVarB 5)) (EV.mLst (EV.mCons (EV.mC (.str ")")) EV.mNil)))) (EV.sIf (EV.mOr (EV.mCmpT .In (EV.mIx (EV.mIx (EV.mVarB 1) (EV.mC (.int 2))) (EV.mC (.int 0))) (EV.mTup (EV.mCons (EV.mC (.str "add")) (EV.mCons (EV.mC (.str "sub")) EV.mNil)))) (EV.mAnd (EV.mCmpT .Eq (EV.mIx (EV.mVarB 1) (EV.mC (.int 0))) (EV.mC (.str "mul"))) (EV.mCmpT .Eq (EV.mIx (EV.mIx (EV.mVarB 1) (EV.mC (.int 2))) (EV.mC (.int 0))) (EV.mC (.str "mul"))))) (EV.sSetF 3 (EV.mBin .Add (EV.mBin .Add (EV.mBin .Add (EV.mVarB 4) (EV.mLst (EV.mCons (EV.mIx (EV.mDict [((EV.mC (.str "add")), (EV.mC (.str "+"))), ((EV.mC (.str "sub")), (EV.mC (.str "-"))), ((EV.mC (.str "mul")), (EV.mC (.str "*")))]) (EV.mIx (EV.mVarB 1) (EV.mC (.int 0)))) (EV.mCons (EV.mC (.str "(")) EV.mNil)))) (EV.mVarB 5)) (EV.mLst (EV.mCons (EV.mC (.str ")")) EV.mNil)))) (EV.sSetF 3 (EV.mBin .Add (EV.mBin .Add (EV.mVarB 4) (EV.mLst (EV.mCons (EV.mIx (EV.mDict [((EV.mC (.str "add")), (EV.mC (.str "+"))), ((EV.mC (.str "sub")), (EV.mC (.str "-"))), ((EV.mC (.str "mul")), (EV.mC (.str "*")))]) (EV.mIx (EV.mVarB 1) (EV.mC (.int 0)))) EV.mNil))) (EV.mVarB 5)))))))))
  (EV.sSeq (EV.sFrz [0] (EV.sSet 6 (EV.mBlt .min (EV.mCons (EV.mIx (EV.mVarB 2) (EV.mC (.int 0))) (EV.mCons (EV.mCall F "_law_pick" (EV.mCons (EV.mVar 0) (EV.mCons (EV.mLst (EV.mCons (EV.mC (.int 0)) (EV.mCons (EV.mC (.int 0)) (EV.mCons (EV.mC (.int 1)) (EV.mCons (EV.mC (.int 2)) EV.mNil))))) EV.mNil)) []) EV.mNil)))))
  (EV.sSeq (EV.sPut 2 (EV.mVarB 2) (EV.mC (.int 0)) (EV.mBin .Sub (EV.mIx (EV.mVarB 2) (EV.mC (.int 0))) (EV.mVarB 6)))
  (EV.sRet (EV.mBin .Add (EV.mBin .Add (EV.mBin .Mult (EV.mLst (EV.mCons (EV.mC (.str "(")) EV.mNil)) (EV.mVarB 6)) (EV.mVarB 3)) (EV.mBin .Mult (EV.mLst (EV.mCons (EV.mC (.str ")")) EV.mNil)) (EV.mVarB 6)))))))
theorem me_lw_tokens (F : EV.Fenv) : EV.cSs gG F x_lw_tokens (defScope s_lw_tokens) 300 (defBody s_lw_tokens) = m_lw_tokens F := by kernel_rfl
theorem fe_lw_tokens (d : Nat) (ws : List EV.W) (S : EV.Sto) : EV.Fn gG gP (d + 1) "_law_tokens" ws S = if ws.length = 3 then EV.runB (m_lw_tokens (EV.Fn gG gP d)) [("bag" : Str), ("expr" : Str), ("left" : Str), ("row" : Str), ("one" : Str), ("two" : Str), ("more" : Str)] ws S else .bad := by
  have e : gP.lookup ("_law_tokens" : Str) = some (⟨x_lw_tokens, defScope s_lw_tokens, defBody s_lw_tokens, 3⟩ : EV.DefI) := by kernel_rfl
  rw [EV.fn_eq e]
  show (if ws.length = 3 then EV.runB (EV.cSs gG (EV.Fn gG gP d) x_lw_tokens (defScope s_lw_tokens) 300 (defBody s_lw_tokens)) [("bag" : Str), ("expr" : Str), ("left" : Str), ("row" : Str), ("one" : Str), ("two" : Str), ("more" : Str)] ws S else .bad) = _
  rw [me_lw_tokens]
def m_lw_spread (F : EV.Fenv) : EV.M EV.Fl := (EV.sSeq (EV.sSet 2 (EV.mC (.str "")))
  (EV.sSeq (EV.sFrz [1] (EV.sFor (EV.mIt (EV.mVar 1)) (EV.bName 3) (EV.sFrz [0] (EV.sSetF 2 (EV.mBin .Add (EV.mBin .Add (EV.mVarB 2) (EV.mBin .Mult (EV.mC (.str " ")) (EV.mCall F "_law_pick" (EV.mCons (EV.mVar 0) (EV.mCons (EV.mLst (EV.mCons (EV.mC (.int 0)) (EV.mCons (EV.mC (.int 0)) (EV.mCons (EV.mC (.int 1)) (EV.mCons (EV.mC (.int 2)) (EV.mCons (EV.mC (.int 3)) EV.mNil)))))) EV.mNil)) []))) (EV.mVarB 3))))))
  (EV.sFrz [0] (EV.sRet (EV.mBin .Add (EV.mVarB 2) (EV.mBin .Mult (EV.mC (.str " ")) (EV.mCall F "_law_take" (EV.mCons (EV.mVar 0) (EV.mCons (EV.mC (.int 3)) EV.mNil)) [])))))))
theorem me_lw_spread (F : EV.Fenv) : EV.cSs gG F x_lw_spread (defScope s_lw_spread) 300 (defBody s_lw_spread) = m_lw_spread F := by kernel_rfl
theorem fe_lw_spread (d : Nat) (ws : List EV.W) (S : EV.Sto) : EV.Fn gG gP (d + 1) "_law_spread" ws S = if ws.length = 2 then EV.runB (m_lw_spread (EV.Fn gG gP d)) [("bag" : Str), ("row" : Str), ("text" : Str), ("token" : Str)] ws S else .bad := by
  have e : gP.lookup ("_law_spread" : Str) = some (⟨x_lw_spread, defScope s_lw_spread, defBody s_lw_spread, 2⟩ : EV.DefI) := by kernel_rfl
  rw [EV.fn_eq e]
  show (if ws.length = 2 then EV.runB (EV.cSs gG (EV.Fn gG gP d) x_lw_spread (defScope s_lw_spread) 300 (defBody s_lw_spread)) [("bag" : Str), ("row" : Str), ("text" : Str), ("token" : Str)] ws S else .bad) = _
  rw [me_lw_spread]
def m_lw_same (F : EV.Fenv) : EV.M EV.Fl := (EV.sSeq (EV.sIf (EV.mOr (EV.mTru (EV.mBlt .isinstance (EV.mCons (EV.mVarB 1) (EV.mCons (EV.mC (.ty "tuple")) EV.mNil)))) (EV.mTru (EV.mBlt .isinstance (EV.mCons (EV.mVarB 1) (EV.mCons (EV.mC (.ty "list")) EV.mNil))))) (EV.sSeq (EV.sIf (EV.mOr (EV.mCmpT .NotEq (EV.mBlt .isinstance (EV.mCons (EV.mVarB 1) (EV.mCons (EV.mC (.ty "tuple")) EV.mNil))) (EV.mBlt .isinstance (EV.mCons (EV.mVarB 0) (EV.mCons (EV.mC (.ty "tuple")) EV.mNil)))) (EV.mCmpT .NotEq (EV.mBlt .isinstance (EV.mCons (EV.mVarB 1) (EV.mCons (EV.mC (.ty "list")) EV.mNil))) (EV.mBlt .isinstance (EV.mCons (EV.mVarB 0) (EV.mCons (EV.mC (.ty "list")) EV.mNil))))) (EV.sRet (EV.mC (.bl false))) EV.sNext)
  (EV.sSeq (EV.sIf (EV.mCmpT .NotEq (EV.mBlt .len (EV.mCons (EV.mVarB 0) EV.mNil)) (EV.mBlt .len (EV.mCons (EV.mVarB 1) EV.mNil))) (EV.sRet (EV.mC (.bl false))) EV.sNext)
  (EV.sSeq (EV.sFor (EV.mRng1 (EV.mBlt .len (EV.mCons (EV.mVarB 1) EV.mNil))) (EV.bName 2) (EV.sIf (EV.mNotT (EV.mTru (EV.mCall F "_law_same" (EV.mCons (EV.mIx (EV.mVarB 0) (EV.mVarB 2)) (EV.mCons (EV.mIx (EV.mVarB 1) (EV.mVarB 2)) EV.mNil)) []))) (EV.sRet (EV.mC (.bl false))) EV.sNext))
  (EV.sRet (EV.mC (.bl true)))))) EV.sNext)
  (EV.sSeq (EV.sIf (EV.mOr (EV.mTru (EV.mBlt .isinstance (EV.mCons (EV.mVarB 1) (EV.mCons (EV.mC (.ty "bool")) EV.mNil)))) (EV.mTru (EV.mBlt .isinstance (EV.mCons (EV.mVarB 0) (EV.mCons (EV.mC (.ty "bool")) EV.mNil))))) (EV.sRet (EV.mAndV (EV.mBlt .isinstance (EV.mCons (EV.mVarB 1) (EV.mCons (EV.mC (.ty "bool")) EV.mNil))) (EV.mAndV (EV.mBlt .isinstance (EV.mCons (EV.mVarB 0) (EV.mCons (EV.mC (.ty "bool")) EV.mNil))) (EV.mCmp .Eq (EV.mVarB 0) (EV.mVarB 1))))) EV.sNext)
  (EV.sSeq (EV.sIf (EV.mTru (EV.mBlt .isinstance (EV.mCons (EV.mVarB 1) (EV.mCons (EV.mC (.ty "int")) EV.mNil)))) (EV.sRet (EV.mAndV (EV.mBlt .isinstance (EV.mCons (EV.mVarB 0) (EV.mCons (EV.mC (.ty "int")) EV.mNil))) (EV.mCmp .Eq (EV.mVarB 0) (EV.mVarB 1)))) EV.sNext)
  (EV.sSeq (EV.sIf (EV.mTru (EV.mBlt .isinstance (EV.mCons (EV.mVarB 1) (EV.mCons (EV.mC (.ty "str")) EV.mNil)))) (EV.sRet (EV.mAndV (EV.mBlt .isinstance (EV.mCons (EV.mVarB 0) (EV.mCons (EV.mC (.ty "str")) EV.mNil))) (EV.mCmp .Eq (EV.mVarB 0) (EV.mVarB 1)))) EV.sNext)
  (EV.sRet (EV.mAndV (EV.mCmp .Is (EV.mVarB 0) (EV.mC (.non))) (EV.mCmp .Is (EV.mVarB 1) (EV.mC (.non)))))))))
theorem me_lw_same (F : EV.Fenv) : EV.cSs gG F x_lw_same (defScope s_lw_same) 300 (defBody s_lw_same) = m_lw_same F := by kernel_rfl
theorem fe_lw_same (d : Nat) (ws : List EV.W) (S : EV.Sto) : EV.Fn gG gP (d + 1) "_law_same" ws S = if ws.length = 2 then EV.runB (m_lw_same (EV.Fn gG gP d)) [("got" : Str), ("due" : Str), ("k" : Str)] ws S else .bad := by
  have e : gP.lookup ("_law_same" : Str) = some (⟨x_lw_same, defScope s_lw_same, defBody s_lw_same, 2⟩ : EV.DefI) := by kernel_rfl
  rw [EV.fn_eq e]
  show (if ws.length = 2 then EV.runB (EV.cSs gG (EV.Fn gG gP d) x_lw_same (defScope s_lw_same) 300 (defBody s_lw_same)) [("got" : Str), ("due" : Str), ("k" : Str)] ws S else .bad) = _
  rw [me_lw_same]
def m_law (F : EV.Fenv) : EV.M EV.Fl := (EV.sSeq (EV.sSet 1 (EV.mC (.non)))
  (EV.sSeq (EV.sFor (EV.mRng1 (EV.mC (.int 2))) (EV.bName 2) (EV.sSeq (EV.sFrz [0, 2] (EV.sSet 3 (EV.mCall F "_law_bag" (EV.mCons (EV.mVar 0) (EV.mCons (EV.mVar 2) EV.mNil)) [])))
  (EV.sSeq (EV.sFrz [3, 3] (EV.sSet 4 (EV.mCall F "_law_expr" (EV.mCons (EV.mVar 3) (EV.mCons (EV.mToLoc (EV.mLst (EV.mCons (EV.mCall F "_law_pick" (EV.mCons (EV.mVar 3) (EV.mCons (EV.mLst (EV.mCons (EV.mC (.int 7)) (EV.mCons (EV.mC (.int 1)) (EV.mCons (EV.mC (.int 7)) (EV.mCons (EV.mC (.int 2)) (EV.mCons (EV.mC (.int 3)) EV.mNil)))))) EV.mNil)) []) EV.mNil))) EV.mNil)) [])))
  (EV.sSeq (EV.sFrz [4] (EV.sSet 5 (EV.mCall F "_law_expr_text" (EV.mCons (EV.mVar 4) EV.mNil) [])))
  (EV.sSeq (EV.sIf (EV.mCmpT .Eq (EV.mVarB 2) (EV.mC (.int 0))) (EV.sFrz [4, 5] (EV.sSet 1 (EV.mTup (EV.mCons (EV.mVar 4) (EV.mCons (EV.mVar 5) EV.mNil))))) EV.sNext)
  (EV.sSeq (EV.sFrz [4, 5] (EV.sIf (EV.mNotT (EV.mTru (EV.mCall F "_law_same" (EV.mCons (EV.mCall F "expression_text" (EV.mCons (EV.mVar 4) EV.mNil) []) (EV.mCons (EV.mVar 5) EV.mNil)) []))) (EV.sRet (EV.mC (.bl false))) EV.sNext))
  (EV.sSeq (EV.sFrz [5, 4] (EV.sIf (EV.mNotT (EV.mTru (EV.mCall F "_law_same" (EV.mCons (EV.mCall F "parse_expression" (EV.mCons (EV.mVar 5) EV.mNil) []) (EV.mCons (EV.mVar 4) EV.mNil)) []))) (EV.sRet (EV.mC (.bl false))) EV.sNext))
  (EV.sSeq (EV.sFrz [3, 3, 4] (EV.sSet 6 (EV.mCall F "_law_spread" (EV.mCons (EV.mVar 3) (EV.mCons (EV.mCall F "_law_tokens" (EV.mCons (EV.mVar 3) (EV.mCons (EV.mVar 4) (EV.mCons (EV.mToLoc (EV.mLst (EV.mCons (EV.mC (.int 5)) EV.mNil))) EV.mNil))) []) EV.mNil)) [])))
  (EV.sFrz [6, 4] (EV.sIf (EV.mNotT (EV.mTru (EV.mCall F "_law_same" (EV.mCons (EV.mCall F "parse_expression" (EV.mCons (EV.mVar 6) EV.mNil) []) (EV.mCons (EV.mVar 4) EV.mNil)) []))) (EV.sRet (EV.mC (.bl false))) EV.sNext))))))))))
  (EV.sSeq (EV.sFrz [0] (EV.sSet 3 (EV.mCall F "_law_bag" (EV.mCons (EV.mVar 0) (EV.mCons (EV.mC (.int 2)) EV.mNil)) [])))
  (EV.sSeq (EV.sFrz [3] (EV.sSet 7 (EV.mCall F "_law_pick" (EV.mCons (EV.mVar 3) (EV.mCons (EV.mLst (EV.mCons (EV.mC (.str " + ")) (EV.mCons (EV.mC (.str " - ")) (EV.mCons (EV.mC (.str " * ")) EV.mNil)))) EV.mNil)) [])))
  (EV.sSeq (EV.sFrz [3] (EV.sSetF 8 (EV.mLc (EV.mRng1 (EV.mC (.int 12))) (EV.bName 2) EV.mYes (EV.mBlt .str (EV.mCons (EV.mIx (EV.mCall F "_law_side" (EV.mCons (EV.mVar 3) EV.mNil) []) (EV.mC (.int 1))) EV.mNil)) [2])))
  (EV.sSeq (EV.sFrz [3, 3, 3] (EV.sSet 9 (EV.mCall F "_law_pick" (EV.mCons (EV.mVar 3) (EV.mCons (EV.mLst (EV.mCons (EV.mC (.int 9)) (EV.mCons (EV.mC (.int 30)) (EV.mCons (EV.mBin .Add (EV.mC (.int 9)) (EV.mCall F "_law_take" (EV.mCons (EV.mVar 3) (EV.mCons (EV.mC (.int 60)) EV.mNil)) [])) (EV.mCons (EV.mBin .Add (EV.mC (.int 9)) (EV.mCall F "_law_take" (EV.mCons (EV.mVar 3) (EV.mCons (EV.mC (.int 60)) EV.mNil)) [])) (EV.mCons (EV.mC (.int 1200)) EV.mNil)))))) EV.mNil)) [])))
  (EV.sSeq (EV.sFrz [9] (EV.sSet 10 (EV.mSm .join (EV.mVarB 7) (EV.mLc (EV.mRng1 (EV.mVarB 9)) (EV.bName 2) EV.mYes (EV.mIx (EV.mVarB 8) (EV.mBin .Mod (EV.mBlt .int (EV.mCons (EV.mVarB 2) EV.mNil)) (EV.mC (.int 12)))) [2]))))
  (EV.sSeq (EV.sFrz [10, 10] (EV.sIf (EV.mNotT (EV.mTru (EV.mCall F "_law_same" (EV.mCons (EV.mCall F "expression_text" (EV.mCons (EV.mCall F "parse_expression" (EV.mCons (EV.mVar 10) EV.mNil) []) EV.mNil) []) (EV.mCons (EV.mVar 10) EV.mNil)) []))) (EV.sRet (EV.mC (.bl false))) EV.sNext))
  (EV.sRet (EV.mCall F "_law_same" (EV.mCons (EV.mCall F "expression_text" (EV.mCons (EV.mIx (EV.mVarB 1) (EV.mC (.int 0))) EV.mNil) []) (EV.mCons (EV.mIx (EV.mVarB 1) (EV.mC (.int 1))) EV.mNil)) []))))))))))
theorem me_law (F : EV.Fenv) : EV.cSs gG F x_law (defScope s_law) 300 (defBody s_law) = m_law F := by kernel_rfl
theorem fe_law (d : Nat) (ws : List EV.W) (S : EV.Sto) : EV.Fn gG gP (d + 1) "law" ws S = if ws.length = 1 then EV.runB (m_law (EV.Fn gG gP d)) [("script" : Str), ("first" : Str), ("k" : Str), ("bag" : Str), ("expr" : Str), ("due" : Str), ("spread" : Str), ("signs" : Str), ("some" : Str), ("many" : Str), ("row" : Str)] ws S else .bad := by
  have e : gP.lookup ("law" : Str) = some (⟨x_law, defScope s_law, defBody s_law, 1⟩ : EV.DefI) := by kernel_rfl
  rw [EV.fn_eq e]
  show (if ws.length = 1 then EV.runB (EV.cSs gG (EV.Fn gG gP d) x_law (defScope s_law) 300 (defBody s_law)) [("script" : Str), ("first" : Str), ("k" : Str), ("bag" : Str), ("expr" : Str), ("due" : Str), ("spread" : Str), ("signs" : Str), ("some" : Str), ("many" : Str), ("row" : Str)] ws S else .bad) = _
  rw [me_law]
theorem fo0 : (("Cursor" : Str), ("tokens" : Str)) ∈ gG.fld := List.contains_iff_mem.mp (by kernel_rfl)
theorem fo1 : (("Cursor" : Str), ("line" : Str)) ∈ gG.fld := List.contains_iff_mem.mp (by kernel_rfl)
theorem fo2 : (("Cursor" : Str), ("at" : Str)) ∈ gG.fld := List.contains_iff_mem.mp (by kernel_rfl)
theorem fo3 : (("Cursor" : Str), ("brackets" : Str)) ∈ gG.fld := List.contains_iff_mem.mp (by kernel_rfl)
theorem mo0 : gG.mts.lookup (("Cursor" : Str), ("peek" : Str)) = some ("Cursor.peek" : Str) := by kernel_rfl
theorem mo1 : gG.mts.lookup (("Cursor" : Str), ("take" : Str)) = some ("Cursor.take" : Str) := by kernel_rfl
theorem mo2 : gG.mts.lookup (("Cursor" : Str), ("accept" : Str)) = some ("Cursor.accept" : Str) := by kernel_rfl
theorem mo3 : gG.mts.lookup (("Cursor" : Str), ("expect" : Str)) = some ("Cursor.expect" : Str) := by kernel_rfl
theorem mo4 : gG.mts.lookup (("Cursor" : Str), ("finish" : Str)) = some ("Cursor.finish" : Str) := by kernel_rfl
theorem mo5 : gG.mts.lookup (("Cursor" : Str), ("open_bracket" : Str)) = some ("Cursor.open_bracket" : Str) := by kernel_rfl
theorem mo6 : gG.mts.lookup (("Cursor" : Str), ("close_bracket" : Str)) = some ("Cursor.close_bracket" : Str) := by kernel_rfl
--@CFG {}
/-- the rules of the walk, all in one -/
def evr := And.intro @EV.r_ok (And.intro @EV.r_some (And.intro @EV.r_var (And.intro @EV.r_varK (And.intro @EV.r_varB (And.intro @EV.r_varBf (And.intro @EV.r_varBo (And.intro @EV.r_c (And.intro @EV.r_bin (And.intro @EV.r_binF (And.intro @EV.r_binG (And.intro @EV.r_un (And.intro @EV.r_unF (And.intro @EV.r_cmp (And.intro @EV.r_cmpF (And.intro @EV.r_cmpG (And.intro @EV.r_cmt (And.intro @EV.r_cmtF (And.intro @EV.r_cmtG (And.intro @EV.r_tru (And.intro @EV.r_truF (And.intro @EV.r_not (And.intro @EV.r_notF (And.intro @EV.r_and (And.intro @EV.r_andT (And.intro @EV.r_andN (And.intro @EV.r_or (And.intro @EV.r_orT (And.intro @EV.r_orN (And.intro @EV.r_val (And.intro @EV.r_valF (And.intro @EV.r_av (And.intro @EV.r_avF (And.intro @EV.r_avT (And.intro @EV.r_avN (And.intro @EV.r_ov (And.intro @EV.r_ovF (And.intro @EV.r_ovT (And.intro @EV.r_ovN (And.intro @EV.r_ife (And.intro @EV.r_ifT (And.intro @EV.r_ifN (And.intro @EV.r_nil (And.intro @EV.r_cons (And.intro @EV.r_consF (And.intro @EV.r_consG (And.intro @EV.r_tup (And.intro @EV.r_tupF (And.intro @EV.r_lst (And.intro @EV.r_lstF (And.intro @EV.r_loc (And.intro @EV.r_locL (And.intro @EV.r_locD (And.intro @EV.r_newd (And.intro @EV.r_ix (And.intro @EV.r_ixF (And.intro @EV.r_ixG (And.intro @EV.r_fld (And.intro @EV.r_fldF (And.intro @EV.r_fldG (And.intro @EV.r_blt (And.intro @EV.r_bltF (And.intro @EV.r_call (And.intro @EV.r_callF (And.intro @EV.r_callK (And.intro @EV.r_ckF (And.intro @EV.r_ckG (And.intro @EV.r_make (And.intro @EV.r_makF (And.intro @EV.r_makG (And.intro @EV.r_meth (And.intro @EV.r_metF (And.intro @EV.r_seq (And.intro @EV.r_seqN (And.intro @EV.r_seqR (And.intro @EV.r_seqB (And.intro @EV.r_seqC (And.intro @EV.r_next (And.intro @EV.r_brk (And.intro @EV.r_cnt (And.intro @EV.r_drop (And.intro @EV.r_dropF (And.intro @EV.r_ret (And.intro @EV.r_retF (And.intro @EV.r_retN (And.intro @EV.r_setO (And.intro @EV.r_setOF (And.intro @EV.r_set (And.intro @EV.r_setK (And.intro @EV.r_asg (And.intro @EV.r_asgF (And.intro @EV.r_asgG (And.intro @EV.r_if (And.intro @EV.r_sifT (And.intro @EV.r_sifN (And.intro @EV.r_forF (And.intro @EV.r_forN (And.intro @EV.r_forC (And.intro @EV.r_forG (And.intro @EV.r_forHn (And.intro @EV.r_forHc (And.intro @EV.r_forHb (And.intro @EV.r_forHr (And.intro @EV.r_bname (And.intro @EV.r_rng1F (And.intro @EV.r_it (And.intro @EV.r_itL (And.intro @EV.r_itT (And.intro @EV.r_run (And.intro @EV.r_runN (And.intro @EV.r_runR (And.intro @EV.r_frz (And.intro @EV.r_par (And.intro @EV.r_parF (And.intro @EV.r_parG (And.intro @EV.r_po (And.intro @EV.r_poF (And.intro @EV.r_poGl (And.intro @EV.r_poGd (And.intro @EV.r_poH (And.intro @EV.r_poD (And.intro @EV.r_ps (And.intro @EV.r_psF (And.intro @EV.r_psG (And.intro @EV.r_psH (And.intro @EV.r_psIl (And.intro @EV.r_psId (And.intro @EV.r_psL (And.intro @EV.r_psD (And.intro @EV.r_put (And.intro @EV.r_putO (And.intro @EV.r_putF (And.intro @EV.r_sf (And.intro @EV.r_sfF (And.intro @EV.r_sfG (And.intro @EV.r_sfH (And.intro @EV.r_mut (And.intro @EV.r_mutF (And.intro @EV.r_mutY (And.intro @EV.r_mutYF (And.intro @EV.r_btup (And.intro @EV.r_bnil (And.intro @EV.r_bcons (And.intro @EV.r_bAllF (And.intro @EV.r_lkC (And.intro @EV.r_beq (And.intro @EV.r_sl (And.intro @EV.r_slF (And.intro @EV.r_slG (And.intro @EV.r_slH (And.intro @EV.r_partN (And.intro @EV.r_partS (And.intro @EV.r_partF (And.intro @EV.r_lc (And.intro @EV.r_lcF (And.intro @EV.r_lcH (And.intro @EV.r_notOwE (And.intro @EV.r_notOwF (And.intro @EV.r_lcN (And.intro @EV.r_weqII (And.intro @EV.r_weqSS (And.intro @EV.r_weqBB (And.intro @EV.r_weqIS (@EV.r_weqSI)))))))))))))))))))))))))))))))))))))))))))))))))))))))))))))))))))))))))))))))))))))))))))))))))))))))))))))))))))))))))))))))))))))))))))))))))))))))))))))))))))
/-! ### the pure machine -/
inductive Bop where
  | add | sub | mul | min | max | lt | le | eq | ne | ge | gt
  deriving DecidableEq
inductive Ins where
  | num (n : Int) | get (c : Nat) | put (c : Nat) | pace | pick (k : Nat) | dup | drop | bit | nott | bin (b : Bop) | hop (k : Nat) | hopno (k : Nat) | call (s b : Nat) | beat (n : Int) | back
  deriving DecidableEq
def clampZ (n : Int) : Int := if n < -999999 then -999999 else if 999999 < n then 999999 else n
def satZ (n top : Int) : Int := if n < 0 then 0 else if top < n then top else n
def Bop.val (b : Bop) (x y : Int) : Int := match b with
  | .add => clampZ (x + y)
  | .sub => clampZ (x - y)
  | .mul => clampZ (x * y)
  | .min => if x < y then x else y
  | .max => if y < x then x else y
  | .lt => if x < y then 1 else 0
  | .le => if x ≤ y then 1 else 0
  | .eq => if x = y then 1 else 0
  | .ne => if x = y then 0 else 1
  | .ge => if y ≤ x then 1 else 0
  | .gt => if y < x then 1 else 0
abbrev Tab := List (Int × Bool)
structure Fr where
  tb : Tab
  rest : List Ins
  base : Nat
  st : List Int
structure Mc where
  mem : List Int
  pend : List (Nat × Int)
  tally : Int
  done : Nat
  frs : List Fr
def pget (p : List (Nat × Int)) (k : Nat) : Option Int := (p.find? fun kv => decide (kv.1 = k)).map (·.2)
def pput (p : List (Nat × Int)) (k : Nat) (v : Int) : List (Nat × Int) := if p.any fun kv => decide (kv.1 = k) then p.map fun kv => if kv.1 = k then (kv.1, v) else kv else p ++ [(k, v)]
def vat (M : Mc) (p : Nat) : Option Int := match pget M.pend p with
  | some v => some v
  | none => M.mem[p]?
def setAll (mem : List Int) : List (Nat × Int) → List Int
  | [] => mem
  | kv :: r => setAll (mem.set kv.1 kv.2) r
def big (x : Int) : Bool := decide (-18446744073709551616 < x ∧ x < 18446744073709551616)
/-- the top frame's entries after an instruction that computes -/
def comp (tb : Tab) (pace : Int) (M : Mc) (base : Nat) : Ins → List Int → Option (List Int)
  | .num n, st => some (n :: st)
  | .get c, st => (vat M (base + c)).map (· :: st)
  | .pace, st => some (pace :: st)
  | .pick k, st => (st.reverse[k]?).map (· :: st)
  | .dup, x :: st => some (x :: x :: st)
  | .bit, x :: st => some ((if 1 ≤ x then 1 else 0) :: st)
  | .nott, x :: st => some ((if 1 ≤ x then 0 else 1) :: st)
  | .bin b, y :: x :: st => if big x then some (b.val x y :: st) else none
  | _, _ => none
def step (tabs : List Tab) (segs : List (Nat × List Ins)) (pace : Int) (M : Mc) : Option Mc := match M.frs with
  | [] => none
  | f :: r => match f.rest with
    | [] => none
    | i :: rest => match i with
      | .hop k => some { M with done := M.done + 1, frs := { f with rest := rest.drop k } :: r }
      | .hopno k => match f.st with
        | x :: st => some { M with done := M.done + 1, frs := { f with rest := if x < 1 then rest.drop k else rest, st := st } :: r }
        | [] => none
      | .drop => match f.st with
        | _ :: st => some { M with done := M.done + 1, frs := { f with rest := rest, st := st } :: r }
        | [] => none
      | .call s b => match segs[s]? with
        | some (n, code) => match tabs[n]? with
          | some tb => if r.length < 4000000 then some { M with done := M.done + 1, frs := ⟨tb, code, f.base + b, []⟩ :: { f with rest := rest } :: r } else none
          | none => none
        | none => none
      | .back => match r with
        | [] => some ⟨setAll M.mem M.pend, [], M.tally, M.done + 1, []⟩
        | _ => some { M with done := M.done + 1, frs := r }
      | .beat n => some ⟨setAll M.mem M.pend, [], M.tally + n, M.done + 1, { f with rest := rest } :: r⟩
      | .put c => match f.st, f.tb[c]? with
        | x :: st, some (top, kept) => if f.base + c < M.mem.length ∧ M.pend.length < 4000000 then
            some (if kept then ⟨M.mem, pput M.pend (f.base + c) (satZ x top), M.tally, M.done + 1, { f with rest := rest, st := st } :: r⟩ else ⟨M.mem.set (f.base + c) (satZ x top), M.pend, M.tally, M.done + 1, { f with rest := rest, st := st } :: r⟩) else none
        | _, _ => none
      | i => if f.st.length < 4000000 then (comp f.tb pace M f.base i f.st).map fun st => { M with done := M.done + 1, frs := { f with rest := rest, st := st } :: r } else none
def stepN (tabs : List Tab) (segs : List (Nat × List Ins)) (pace : Int) : Nat → Mc → Option Mc
  | 0, M => some M
  | n + 1, M => (step tabs segs pace M).bind (stepN tabs segs pace n)
theorem stepN_add (tabs : List Tab) (segs : List (Nat × List Ins)) (pace : Int) : ∀ (a b : Nat) (M : Mc), stepN tabs segs pace (a + b) M = (stepN tabs segs pace a M).bind (stepN tabs segs pace b)
  | 0, b, M => by rw [Nat.zero_add]; rfl
  | a + 1, b, M => by
    rw [Nat.add_right_comm]
    show (step tabs segs pace M).bind (stepN tabs segs pace (a + b)) = ((step tabs segs pace M).bind (stepN tabs segs pace a)).bind _
    cases h : step tabs segs pace M with
    | none => rfl
    | some N => exact stepN_add tabs segs pace a b N
inductive Wd where
  | done | cut | stopped
def drv (tabs : List Tab) (segs : List (Nat × List Ins)) (pace cut steps : Int) : Nat → Mc → Option (Mc × Wd)
  | 0, _ => none
  | n + 1, M => if M.frs = [] then some (M, Wd.done) else if 0 ≤ cut ∧ cut ≤ M.tally then some (M, Wd.cut) else if 0 ≤ steps ∧ steps ≤ M.done then some (M, Wd.stopped) else (step tabs segs pace M).bind (drv tabs segs pace cut steps n)
def takeA (c a f m : Int) : Int := if f = 1 ∧ 1 < c then c.fmod m else
  let one := (c * 48271 + (a + 1) * 69621 + 12345).fmod 2147483647
  let two := (one * one + (a + 1) * 40692).fmod 2147483399
  let three := (two * two + one).fmod 1000000007
  (three.fdiv 7).fmod m
def takeB (c a f m : Int) : List EV.W := if f = 1 ∧ 1 < c then [.int (c.fdiv m), .int a, .int f] else [.int c, .int (a + 1), .int f]
theorem take_ok (d : Nat) (n : Nat) (c a f m : Int) (S : EV.Sto) (hS : S[n]? = some (.lst [.int c, .int a, .int f])) (hm : 0 < m) (hm2 : m < 1073741824) :
    EV.Fn gG gP (d + 1) "_law_take" [.loc n, .int m] S = .ok (.int (takeA c a f m)) (S.set n (.lst (takeB c a f m))) := by
  rw [fe_lw_take]
  unfold m_lw_take takeA takeB
  have hn : n < S.length := (List.getElem?_eq_some_iff.mp hS).1
  have hm3 : m ≠ 0 := by omega
  have hm4 : m.natAbs < 1073741824 := by omega
  have b1 : ∀ x : Int, -18446744073709551616 < x.fmod 2147483647 ∧ x.fmod 2147483647 < 18446744073709551616 := fun x => by
    have h1 := Int.fmod_nonneg_of_pos x (show (0 : Int) < 2147483647 by decide)
    have h2 := Int.fmod_lt_of_pos x (show (0 : Int) < 2147483647 by decide)
    omega
  have b2 : ∀ x : Int, -18446744073709551616 < x.fmod 2147483399 ∧ x.fmod 2147483399 < 18446744073709551616 := fun x => by
    have h1 := Int.fmod_nonneg_of_pos x (show (0 : Int) < 2147483399 by decide)
    have h2 := Int.fmod_lt_of_pos x (show (0 : Int) < 2147483399 by decide)
    omega
  have hs : ∀ x, (S.set n x)[n]? = some x := fun x => List.getElem?_set_self hn
  by_cases h1 : f = 1 ∧ 1 < c
  · obtain ⟨h1, h2⟩ := h1
    subst h1
    simp -implicitDefEqProofs [EV.LIM, EV.str_lit, evr, EV.r_for, EV.r_rng1, EV.wbin, EV.wun, EV.wcmp, EV.vw, EV.vwz, EV.wix, EV.wblt, EV.wtru, EV.wisi, EV.frz, EV.mkOwn, L2.atI, L2.ixN, List.map, List.length_cons, List.length_nil, List.replicate, List.getElem?_cons_zero, List.getElem?_cons_succ, List.set_cons_zero, List.set_cons_succ, List.append_nil, List.cons_append, List.nil_append, hS, hs, h2, hm3, hm4]
  · by_cases h2 : f = 1
    · subst h2
      have h3 : ¬ (1 < c) := fun z => h1 ⟨rfl, z⟩
      simp -implicitDefEqProofs [EV.LIM, EV.str_lit, evr, EV.r_for, EV.r_rng1, EV.wbin, EV.wun, EV.wcmp, EV.vw, EV.vwz, EV.wix, EV.wblt, EV.wtru, EV.wisi, EV.frz, EV.mkOwn, L2.atI, L2.ixN, List.map, List.length_cons, List.length_nil, List.replicate, List.getElem?_cons_zero, List.getElem?_cons_succ, List.set_cons_zero, List.set_cons_succ, List.append_nil, List.cons_append, List.nil_append, hS, hs, h3, hm3, hm4, b1, b2]
    · simp [EV.LIM, EV.str_lit, evr, EV.r_for, EV.r_rng1, EV.wbin, EV.wun, EV.wcmp, EV.vw, EV.vwz, EV.wix, EV.wblt, EV.wtru, EV.wisi, EV.frz, EV.mkOwn, L2.atI, L2.ixN, List.map, List.length_cons, List.length_nil, List.replicate, List.getElem?_cons_zero, List.getElem?_cons_succ, List.set_cons_zero, List.set_cons_succ, List.append_nil, List.cons_append, List.nil_append, hS, hs, h2, hm3, hm4, b1, b2]
def IsBag (o : EV.Ob) : Prop := ∃ c a f : Int, o = .lst [.int c, .int a, .int f]
theorem take_ex (d : Nat) {n : Nat} {m : Int} {S : EV.Sto} {o : EV.Ob} (hS : S[n]? = some o) (hb : IsBag o) (hm : 0 < m) (hm2 : m < 1073741824) :
    ∃ r o', 0 ≤ r ∧ r < m ∧ IsBag o' ∧ EV.Fn gG gP (d + 1) "_law_take" [.loc n, .int m] S = .ok (.int r) (S.set n o') := by
  obtain ⟨c, a, f, rfl⟩ := hb
  refine ⟨takeA c a f m, .lst (takeB c a f m), ?_, ?_, ?_, take_ok d n c a f m S hS hm hm2⟩
  · unfold takeA; split <;> exact Int.fmod_nonneg_of_pos _ hm
  · unfold takeA; split <;> exact Int.fmod_lt_of_pos _ hm
  · unfold takeB; split
    · exact ⟨_, _, _, rfl⟩
    · exact ⟨_, _, _, rfl⟩
theorem pick_ex (d : Nat) {n : Nat} {ws : List EV.W} {S : EV.Sto} {o : EV.Ob} (hS : S[n]? = some o) (hb : IsBag o) (hw : ws ≠ []) (hl : ws.length < 1073741824) :
    ∃ w o', w ∈ ws ∧ IsBag o' ∧ EV.Fn gG gP (d + 2) "_law_pick" [.loc n, .lst ws] S = .ok w (S.set n o') := by
  have h0 : 0 < ws.length := List.length_pos_iff.mpr hw
  obtain ⟨r, o', h1, h2, h3, h4⟩ := take_ex d (m := ws.length) hS hb (by omega) (by omega)
  have hr : r.toNat < ws.length := by omega
  refine ⟨ws[r.toNat], o', List.getElem_mem hr, h3, ?_⟩
  rw [fe_lw_pick]
  unfold m_lw_pick
  have h5 : r < (ws.length : Int) := h2
  simp -implicitDefEqProofs [EV.LIM, EV.str_lit, evr, EV.r_for, EV.r_rng1, EV.wbin, EV.wun, EV.wcmp, EV.vw, EV.vwz, EV.wix, EV.wblt, EV.wtru, EV.wisi, EV.frz, EV.mkOwn, L2.atI, L2.ixN, List.map, List.length_cons, List.length_nil, List.replicate, List.getElem?_cons_zero, List.getElem?_cons_succ, List.set_cons_zero, List.set_cons_succ, List.append_nil, List.cons_append, List.nil_append, h4, h1, h5, hr]
theorem bag_ex (d : Nat) (ns : List Int) (at_ : Nat) (S : EV.Sto) : ∃ o, IsBag o ∧ EV.Fn gG gP (d + 1) "_law_bag" [.scr (ns.map .int), .int at_] S = .ok (.loc S.length) (S ++ [o]) := by
  rw [fe_lw_bag]
  unfold m_lw_bag
  have fin : ∀ c : Int, ∃ o, IsBag o ∧ EV.runB
      (EV.sSeq (EV.sIf (EV.mCmpT .Lt (EV.mVarB 2) (EV.mC (.int 0))) (EV.sSetF 2 (EV.mBin .Sub (EV.mC (.int 1)) (EV.mBin .Mult (EV.mC (.int 2)) (EV.mVarB 2)))) EV.sNext)
  (EV.sSeq (EV.sIf (EV.mCmpT .GtE (EV.mVarB 2) (EV.mBin .Pow (EV.mC (.int 10)) (EV.mC (.int 18)))) (EV.sFrz [1] (EV.sRet (EV.mToLoc (EV.mLst (EV.mCons (EV.mBin .Sub (EV.mVarB 2) (EV.mBin .Pow (EV.mC (.int 10)) (EV.mC (.int 18)))) (EV.mCons (EV.mVar 1) (EV.mCons (EV.mC (.int 1)) EV.mNil))))))) EV.sNext)
  (EV.sFrz [2, 1] (EV.sRet (EV.mToLoc (EV.mLst (EV.mCons (EV.mVar 2) (EV.mCons (EV.mVar 1) (EV.mCons (EV.mC (.int 0)) EV.mNil))))))))) ["a", "b", "c"] [.scr (ns.map .int), .int at_, .int c] S = .ok (.loc S.length) (S ++ [o]) := fun c => by
    by_cases h1 : c < 0
    · by_cases h2 : (10 : Int) ^ 18 ≤ 1 - 2 * c
      · refine ⟨.lst [.int (1 - 2 * c - 10 ^ 18), .int at_, .int 1], ⟨_, _, _, rfl⟩, ?_⟩
        simp at h2
        simp -implicitDefEqProofs [EV.LIM, EV.str_lit, evr, EV.r_for, EV.r_rng1, EV.wbin, EV.wun, EV.wcmp, EV.vw, EV.vwz, EV.wix, EV.wblt, EV.wtru, EV.wisi, EV.frz, EV.mkOwn, L2.atI, L2.ixN, List.map, List.length_cons, List.length_nil, List.replicate, List.getElem?_cons_zero, List.getElem?_cons_succ, List.set_cons_zero, List.set_cons_succ, List.append_nil, List.cons_append, List.nil_append, h1, h2]
      · refine ⟨.lst [.int (1 - 2 * c), .int at_, .int 0], ⟨_, _, _, rfl⟩, ?_⟩
        simp at h2
        have h2' : ¬ (1000000000000000000 ≤ 1 - 2 * c) := by omega
        simp -implicitDefEqProofs [EV.LIM, EV.str_lit, evr, EV.r_for, EV.r_rng1, EV.wbin, EV.wun, EV.wcmp, EV.vw, EV.vwz, EV.wix, EV.wblt, EV.wtru, EV.wisi, EV.frz, EV.mkOwn, L2.atI, L2.ixN, List.map, List.length_cons, List.length_nil, List.replicate, List.getElem?_cons_zero, List.getElem?_cons_succ, List.set_cons_zero, List.set_cons_succ, List.append_nil, List.cons_append, List.nil_append, h1, h2']
    · by_cases h2 : (10 : Int) ^ 18 ≤ c
      · refine ⟨.lst [.int (c - 10 ^ 18), .int at_, .int 1], ⟨_, _, _, rfl⟩, ?_⟩
        simp at h2
        simp -implicitDefEqProofs [EV.LIM, EV.str_lit, evr, EV.r_for, EV.r_rng1, EV.wbin, EV.wun, EV.wcmp, EV.vw, EV.vwz, EV.wix, EV.wblt, EV.wtru, EV.wisi, EV.frz, EV.mkOwn, L2.atI, L2.ixN, List.map, List.length_cons, List.length_nil, List.replicate, List.getElem?_cons_zero, List.getElem?_cons_succ, List.set_cons_zero, List.set_cons_succ, List.append_nil, List.cons_append, List.nil_append, h1, h2]
      · refine ⟨.lst [.int c, .int at_, .int 0], ⟨_, _, _, rfl⟩, ?_⟩
        simp at h2
        have h2' : ¬ (1000000000000000000 ≤ c) := by omega
        simp -implicitDefEqProofs [EV.LIM, EV.str_lit, evr, EV.r_for, EV.r_rng1, EV.wbin, EV.wun, EV.wcmp, EV.vw, EV.vwz, EV.wix, EV.wblt, EV.wtru, EV.wisi, EV.frz, EV.mkOwn, L2.atI, L2.ixN, List.map, List.length_cons, List.length_nil, List.replicate, List.getElem?_cons_zero, List.getElem?_cons_succ, List.set_cons_zero, List.set_cons_succ, List.append_nil, List.cons_append, List.nil_append, h1, h2']
  by_cases h : at_ < ns.length
  · obtain ⟨o, h1, h2⟩ := fin ns[at_]
    refine ⟨o, h1, ?_⟩
    rw [← h2]
    have h3 : (at_ : Int) < (ns.length : Int) := by omega
    simp -implicitDefEqProofs [EV.LIM, EV.str_lit, evr, EV.r_for, EV.r_rng1, EV.wbin, EV.wun, EV.wcmp, EV.vw, EV.vwz, EV.wix, EV.wblt, EV.wtru, EV.wisi, EV.frz, EV.mkOwn, L2.atI, L2.ixN, List.map, List.length_cons, List.length_nil, List.replicate, List.getElem?_cons_zero, List.getElem?_cons_succ, List.set_cons_zero, List.set_cons_succ, List.append_nil, List.cons_append, List.nil_append, h, h3]
  · obtain ⟨o, h1, h2⟩ := fin 0
    refine ⟨o, h1, ?_⟩
    rw [← h2]
    have h3 : ¬ (at_ : Int) < (ns.length : Int) := by omega
    simp -implicitDefEqProofs [EV.LIM, EV.str_lit, evr, EV.r_for, EV.r_rng1, EV.wbin, EV.wun, EV.wcmp, EV.vw, EV.vwz, EV.wix, EV.wblt, EV.wtru, EV.wisi, EV.frz, EV.mkOwn, L2.atI, L2.ixN, List.map, List.length_cons, List.length_nil, List.replicate, List.getElem?_cons_zero, List.getElem?_cons_succ, List.set_cons_zero, List.set_cons_succ, List.append_nil, List.cons_append, List.nil_append, h, h3]
theorem in62_le {i : Int} (h0 : 0 ≤ i) (h : i ≤ 10000000) : EV.in62 i := by
  have e : (2 : Int) ^ 62 = 4611686018427387904 := by rfl
  exact ⟨by rw [e]; omega, by rw [e]; omega⟩
/-- values that the laws compare, so deep at most -/
def Plain : Nat → EV.W → Prop
  | _, .non => True
  | _, .bl _ => True
  | _, .int _ => True
  | _, .str _ => True
  | d + 1, .tup xs => xs.length ≤ 10000000 ∧ ∀ x ∈ xs, Plain d x
  | d + 1, .lst xs => xs.length ≤ 10000000 ∧ ∀ x ∈ xs, Plain d x
  | _, _ => False
theorem same_loop (F : EV.Fenv) (w : EV.W) (xs : List EV.W) (S : EV.Sto) (hw : w = .tup xs ∨ w = .lst xs) (hF : ∀ x ∈ xs, F "_law_same" [x, x] S = .ok (.bl true) S) : ∀ (l : List Nat) (z : EV.Sl), (∀ i ∈ l, i < xs.length) →
    ∃ z', EV.forL (EV.bName 2) (EV.sIf (EV.mNotT (EV.mTru (EV.mCall F "_law_same" (EV.mCons (EV.mIx (EV.mVarB 0) (EV.mVarB 2)) (EV.mCons (EV.mIx (EV.mVarB 1) (EV.mVarB 2)) EV.mNil)) []))) (EV.sRet (EV.mC (.bl false))) EV.sNext) (l.map fun i => .int (0 + (i : Nat))) [.fr w, .fr w, z] S = .ok (.nx [.fr w, .fr w, z']) S
  | [], z, _ => ⟨z, rfl⟩
  | i :: l, z, h => by
    have hi : i < xs.length := h i (List.mem_cons_self ..)
    obtain ⟨z', e⟩ := same_loop F w xs S hw hF l (.fr (.int i)) fun j hj => h j (List.mem_cons_of_mem _ hj)
    refine ⟨z', ?_⟩
    have hx := hF xs[i] (List.getElem_mem hi)
    rw [List.map_cons, EV.forL]
    simp only [Int.zero_add] at e
    rcases hw with rfl | rfl <;> simp -implicitDefEqProofs [EV.LIM, EV.str_lit, evr, EV.r_for, EV.r_rng1, EV.wbin, EV.wun, EV.wcmp, EV.vw, EV.vwz, EV.wix, EV.wblt, EV.wtru, EV.wisi, EV.frz, EV.mkOwn, L2.atI, L2.ixN, List.map, List.length_cons, List.length_nil, List.replicate, List.getElem?_cons_zero, List.getElem?_cons_succ, List.set_cons_zero, List.set_cons_succ, List.append_nil, List.cons_append, List.nil_append, hi, hx, e]
theorem rng_len (w : EV.W) (xs : List EV.W) (S : EV.Sto) (z : EV.Sl) (hw : w = .tup xs ∨ w = .lst xs) (hl : EV.in62 (xs.length : Int)) :
    EV.mRng1 (EV.mBlt .len (EV.mCons (EV.mVarB 1) EV.mNil)) [.fr w, .fr w, z] S = .ok (EV.rngW 0 xs.length) S := by
  have e : EV.mBlt .len (EV.mCons (EV.mVarB 1) EV.mNil) [.fr w, .fr w, z] S = .ok (.int xs.length) S := by rcases hw with rfl | rfl <;> simp -implicitDefEqProofs [EV.LIM, EV.str_lit, evr, EV.r_for, EV.r_rng1, EV.wbin, EV.wun, EV.wcmp, EV.vw, EV.vwz, EV.wix, EV.wblt, EV.wtru, EV.wisi, EV.frz, EV.mkOwn, L2.atI, L2.ixN, List.map, List.length_cons, List.length_nil, List.replicate, List.getElem?_cons_zero, List.getElem?_cons_succ, List.set_cons_zero, List.set_cons_succ, List.append_nil, List.cons_append, List.nil_append]
  rw [EV.r_rng1, e, EV.r_ok, EV.r_rng1F hl, Int.toNat_natCast]
theorem same_for (F : EV.Fenv) (w : EV.W) (xs : List EV.W) (S : EV.Sto) (hw : w = .tup xs ∨ w = .lst xs) (hl : EV.in62 (xs.length : Int)) (hF : ∀ x ∈ xs, F "_law_same" [x, x] S = .ok (.bl true) S) :
    ∃ z', EV.sFor (EV.mRng1 (EV.mBlt .len (EV.mCons (EV.mVarB 1) EV.mNil))) (EV.bName 2) (EV.sIf (EV.mNotT (EV.mTru (EV.mCall F "_law_same" (EV.mCons (EV.mIx (EV.mVarB 0) (EV.mVarB 2)) (EV.mCons (EV.mIx (EV.mVarB 1) (EV.mVarB 2)) EV.mNil)) []))) (EV.sRet (EV.mC (.bl false))) EV.sNext) [.fr w, .fr w, .emp] S = .ok (.nx [.fr w, .fr w, z']) S := by
  obtain ⟨z', e⟩ := same_loop F w xs S hw hF (List.range xs.length) .emp (fun i hi => List.mem_range.mp hi)
  refine ⟨z', ?_⟩
  rw [EV.r_for, rng_len w xs S _ hw hl, EV.r_ok, EV.r_forF]
  exact e
theorem same_ok : ∀ (d : Nat) (w : EV.W) (S : EV.Sto), Plain d w → EV.Fn gG gP (d + 1) "_law_same" [w, w] S = .ok (.bl true) S := by
  intro d
  induction d with
  | zero =>
    intro w S h
    rw [fe_lw_same]
    unfold m_lw_same
    cases w <;> first | (exact h.elim) | simp -implicitDefEqProofs [EV.LIM, EV.str_lit, evr, EV.r_for, EV.r_rng1, EV.wbin, EV.wun, EV.wcmp, EV.vw, EV.vwz, EV.wix, EV.wblt, EV.wtru, EV.wisi, EV.frz, EV.mkOwn, L2.atI, L2.ixN, List.map, List.length_cons, List.length_nil, List.replicate, List.getElem?_cons_zero, List.getElem?_cons_succ, List.set_cons_zero, List.set_cons_succ, List.append_nil, List.cons_append, List.nil_append]
  | succ d ih =>
    intro w S h
    rw [fe_lw_same]
    unfold m_lw_same
    cases w with
    | tup xs =>
      have hl : EV.in62 (xs.length : Int) := in62_le (by omega) (by have := h.1; omega)
      obtain ⟨z', e⟩ := same_for (EV.Fn gG gP (d + 1)) (.tup xs) xs S (.inl rfl) hl fun x hx => ih x S (h.2 x hx)
      clear hl h ih
      simp -implicitDefEqProofs [EV.LIM, EV.str_lit, evr, EV.wbin, EV.wun, EV.wcmp, EV.vw, EV.vwz, EV.wix, EV.wblt, EV.wtru, EV.wisi, EV.frz, EV.mkOwn, L2.atI, L2.ixN, List.map, List.length_cons, List.length_nil, List.replicate, List.getElem?_cons_zero, List.getElem?_cons_succ, List.set_cons_zero, List.set_cons_succ, List.append_nil, List.cons_append, List.nil_append, e]
    | lst xs =>
      have hl : EV.in62 (xs.length : Int) := in62_le (by omega) (by have := h.1; omega)
      obtain ⟨z', e⟩ := same_for (EV.Fn gG gP (d + 1)) (.lst xs) xs S (.inr rfl) hl fun x hx => ih x S (h.2 x hx)
      clear hl h ih
      simp -implicitDefEqProofs [EV.LIM, EV.str_lit, evr, EV.wbin, EV.wun, EV.wcmp, EV.vw, EV.vwz, EV.wix, EV.wblt, EV.wtru, EV.wisi, EV.frz, EV.mkOwn, L2.atI, L2.ixN, List.map, List.length_cons, List.length_nil, List.replicate, List.getElem?_cons_zero, List.getElem?_cons_succ, List.set_cons_zero, List.set_cons_succ, List.append_nil, List.cons_append, List.nil_append, e]
    | non => simp [EV.LIM, EV.str_lit, evr, EV.r_for, EV.r_rng1, EV.wbin, EV.wun, EV.wcmp, EV.vw, EV.vwz, EV.wix, EV.wblt, EV.wtru, EV.wisi, EV.frz, EV.mkOwn, L2.atI, L2.ixN, List.map, List.length_cons, List.length_nil, List.replicate, List.getElem?_cons_zero, List.getElem?_cons_succ, List.set_cons_zero, List.set_cons_succ, List.append_nil, List.cons_append, List.nil_append]
    | bl b => simp [EV.LIM, EV.str_lit, evr, EV.r_for, EV.r_rng1, EV.wbin, EV.wun, EV.wcmp, EV.vw, EV.vwz, EV.wix, EV.wblt, EV.wtru, EV.wisi, EV.frz, EV.mkOwn, L2.atI, L2.ixN, List.map, List.length_cons, List.length_nil, List.replicate, List.getElem?_cons_zero, List.getElem?_cons_succ, List.set_cons_zero, List.set_cons_succ, List.append_nil, List.cons_append, List.nil_append]
    | int i => simp [EV.LIM, EV.str_lit, evr, EV.r_for, EV.r_rng1, EV.wbin, EV.wun, EV.wcmp, EV.vw, EV.vwz, EV.wix, EV.wblt, EV.wtru, EV.wisi, EV.frz, EV.mkOwn, L2.atI, L2.ixN, List.map, List.length_cons, List.length_nil, List.replicate, List.getElem?_cons_zero, List.getElem?_cons_succ, List.set_cons_zero, List.set_cons_succ, List.append_nil, List.cons_append, List.nil_append]
    | str s => simp [EV.LIM, EV.str_lit, evr, EV.r_for, EV.r_rng1, EV.wbin, EV.wun, EV.wcmp, EV.vw, EV.vwz, EV.wix, EV.wblt, EV.wtru, EV.wisi, EV.frz, EV.mkOwn, L2.atI, L2.ixN, List.map, List.length_cons, List.length_nil, List.replicate, List.getElem?_cons_zero, List.getElem?_cons_succ, List.set_cons_zero, List.set_cons_succ, List.append_nil, List.cons_append, List.nil_append]
    | dct _ => exact h.elim
    | loc _ => exact h.elim
    | ty _ => exact h.elim
    | gl _ => exact h.elim
    | scr _ => exact h.elim
theorem plain_up : ∀ (d : Nat) (w : EV.W), Plain d w → Plain (d + 1) w := by
  intro d
  induction d with
  | zero => intro w h; cases w <;> first | exact trivial | exact h.elim
  | succ d ih =>
    intro w h
    cases w with
    | tup xs => exact ⟨h.1, fun x hx => ih x (h.2 x hx)⟩
    | lst xs => exact ⟨h.1, fun x hx => ih x (h.2 x hx)⟩
    | non => trivial
    | bl b => trivial
    | int i => trivial
    | str s => trivial
    | dct _ => exact h.elim
    | loc _ => exact h.elim
    | ty _ => exact h.elim
    | gl _ => exact h.elim
    | scr _ => exact h.elim
theorem plain_ups (d k : Nat) (w : EV.W) (h : Plain d w) : Plain (d + k) w := by
  induction k with
  | zero => exact h
  | succ k ih => exact plain_up _ _ ih
theorem seq_step {a rest : EV.M EV.Fl} {σ σ1 : EV.Sls} {S S1 : EV.Sto} (h : a σ S = .ok (.nx σ1) S1) : EV.sSeq a rest σ S = rest σ1 S1 := by rw [EV.r_seq, h, EV.r_ok, EV.r_seqN]
theorem seq_assoc (a b c : EV.M EV.Fl) (σ : EV.Sls) (S : EV.Sto) : EV.sSeq a (EV.sSeq b c) σ S = EV.sSeq (EV.sSeq a b) c σ S := by
  unfold EV.sSeq EV.Res.bind
  cases a σ S with
  | ok f S1 => cases f <;> rfl
  | ex _ _ _ => rfl
  | bad => rfl
theorem seq_step2 {a b rest : EV.M EV.Fl} {σ σ1 : EV.Sls} {S S1 : EV.Sto} (h : EV.sSeq a b σ S = .ok (.nx σ1) S1) : EV.sSeq a (EV.sSeq b rest) σ S = rest σ1 S1 := by rw [seq_assoc, seq_step h]
theorem seq_step3 {a b c rest : EV.M EV.Fl} {σ σ1 : EV.Sls} {S S1 : EV.Sto} (h : EV.sSeq a (EV.sSeq b c) σ S = .ok (.nx σ1) S1) : EV.sSeq a (EV.sSeq b (EV.sSeq c rest)) σ S = rest σ1 S1 := by rw [seq_assoc] at h ⊢; rw [seq_step2 h]
theorem seq_step4 {a b c e rest : EV.M EV.Fl} {σ σ1 : EV.Sls} {S S1 : EV.Sto} (h : EV.sSeq a (EV.sSeq b (EV.sSeq c e)) σ S = .ok (.nx σ1) S1) : EV.sSeq a (EV.sSeq b (EV.sSeq c (EV.sSeq e rest))) σ S = rest σ1 S1 := by rw [seq_assoc] at h ⊢; rw [seq_step3 h]
/-! ### methods that change a list (by general words: the kernel shall not look into lstUp) -/
theorem mut_loc {F : EV.Fenv} {own : Str → Option Str} {m : EV.Mt} {nm : Str} {i n : Nat} {a : EV.M (List EV.W)} {σ : EV.Sls} {S S1 : EV.Sto} {xs ys ws : List EV.W} {r : EV.W} (h0 : σ[i]? = some (.fr (.loc n))) (h1 : S[n]? = some (.lst xs)) (ha : a σ S = .ok ws S1) (h2 : S1[n]? = some (.lst xs)) (up : EV.lstUp S1 m xs ws = some (r, ys)) :
    EV.mutE F own m nm i a σ S = .ok (r, σ) (S1.set n (.lst ys)) := by
  unfold EV.mutE EV.goMeth EV.kdOf
  simp only [h0, h1, ha, EV.r_ok]
  unfold EV.doB EV.vw
  simp only [h2, up, EV.r_ok]
theorem mut_loc2 {F : EV.Fenv} {own : Str → Option Str} {m : EV.Mt} {nm : Str} {i n : Nat} {a : EV.M (List EV.W)} {σ : EV.Sls} {S S1 : EV.Sto} {xs zs ys ws : List EV.W} {r : EV.W} (h0 : σ[i]? = some (.fr (.loc n))) (h1 : S[n]? = some (.lst zs)) (ha : a σ S = .ok ws S1) (h2 : S1[n]? = some (.lst xs)) (up : EV.lstUp S1 m xs ws = some (r, ys)) :
    EV.mutE F own m nm i a σ S = .ok (r, σ) (S1.set n (.lst ys)) := by
  unfold EV.mutE EV.goMeth EV.kdOf
  simp only [h0, h1, ha, EV.r_ok]
  unfold EV.doB EV.vw
  simp only [h2, up, EV.r_ok]
theorem mut_own {F : EV.Fenv} {own : Str → Option Str} {m : EV.Mt} {nm : Str} {i : Nat} {a : EV.M (List EV.W)} {σ : EV.Sls} {S S1 : EV.Sto} {xs ys ws : List EV.W} {r : EV.W} (h0 : σ[i]? = some (.ow (.lst xs))) (ha : a σ S = .ok ws S1) (up : EV.lstUp S1 m xs ws = some (r, ys)) :
    EV.mutE F own m nm i a σ S = .ok (r, σ.set i (.ow (.lst ys))) S1 := by
  unfold EV.mutE
  simp only [h0, ha, EV.r_ok, up]
theorem meth_loc {F : EV.Fenv} {own : Str → Option Str} {m : EV.Mt} {nm : Str} {n : Nat} {b : EV.M EV.W} {a : EV.M (List EV.W)} {σ : EV.Sls} {S S0 S1 : EV.Sto} {xs zs ys ws : List EV.W} {r : EV.W} (h0 : b σ S = .ok (.loc n) S0) (h1 : S0[n]? = some (.lst zs)) (ha : a σ S0 = .ok ws S1) (h2 : S1[n]? = some (.lst xs)) (up : EV.lstUp S1 m xs ws = some (r, ys)) :
    EV.mMeth F own m nm b a σ S = .ok r (S1.set n (.lst ys)) := by
  rw [EV.r_meth, h0, EV.r_ok, EV.r_metF]
  unfold EV.goMeth EV.kdOf
  simp only [h1, ha, EV.r_ok]
  unfold EV.doB EV.vw
  simp only [h2, up]
theorem up_app (S : EV.Sto) (xs : List EV.W) (y : EV.W) (h : xs.length < 10000000) : EV.lstUp S .append xs [y] = some (.non, xs ++ [y]) := by
  unfold EV.lstUp
  exact if_pos h
theorem up_ext (S : EV.Sto) (xs ys : List EV.W) (h : xs.length + ys.length ≤ 10000000) : EV.lstUp S .extend xs [.lst ys] = some (.non, xs ++ ys) := by
  unfold EV.lstUp EV.vw
  exact if_pos h
theorem up_pop (S : EV.Sto) (xs : List EV.W) (y : EV.W) : EV.lstUp S .pop (xs ++ [y]) [] = some (y, xs) := by
  unfold EV.lstUp
  simp
theorem up_popAt (S : EV.Sto) (xs : List EV.W) (k : Nat) (y : EV.W) (h : xs[k]? = some y) (hl : xs.length < 10000000) : EV.lstUp S .pop xs [.int k] = some (y, xs.eraseIdx k) := by
  have hk := (List.getElem?_eq_some_iff.mp h).1
  have hix : L2.ixN xs.length (k : Int) = some k := by
    unfold L2.ixN
    rw [if_pos (by omega), if_pos (by omega), Int.toNat_natCast]
  have hp : -(2 ^ 63) ≤ (k : Int) ∧ (k : Int) < 2 ^ 63 := by omega
  unfold EV.lstUp
  simp only
  rw [if_pos hp, hix]
  simp only [h]
/-! ### == of lists of data -/
section
variable {α : Type}
theorem toDs_map (f : α → EV.W) (g : α → PyData) (h : ∀ a, EV.toD (f a) = some (g a)) : ∀ l : List α, EV.toDs (l.map f) = some (l.map g)
  | [] => by simp [EV.toDs]
  | a :: l => by
    rw [List.map_cons, EV.toDs, h a, toDs_map f g h l]
    rfl
theorem lay_map (g : α → PyData) (h : ∀ a, (g a).canLay0 = true) : ∀ l : List α, PyData.canLayAll0 (l.map g) = true
  | [] => by simp [PyData.canLayAll0]
  | a :: l => by rw [List.map_cons, PyData.canLayAll0, h a, lay_map g h l]; rfl
theorem dep_map (g : α → PyData) (n : Nat) (h : ∀ a, (g a).depth ≤ n) : ∀ l : List α, PyData.depthAll (l.map g) ≤ n
  | [] => by simp [PyData.depthAll]
  | a :: l => by
    rw [List.map_cons, PyData.depthAll]
    have := h a
    have := dep_map g n h l
    omega
theorem eqv_map [DecidableEq α] (g : α → PyData) (h : ∀ a b, PyData.eqv (g a) (g b) = decide (a = b)) : ∀ l m : List α, PyData.eqvAll (l.map g) (m.map g) = decide (l = m)
  | [], [] => by simp [PyData.eqvAll]
  | [], _ :: _ => by simp [PyData.eqvAll]
  | _ :: _, [] => by simp [PyData.eqvAll]
  | a :: l, b :: m => by
    rw [List.map_cons, List.map_cons, PyData.eqvAll, h a b, eqv_map g h l m]
    by_cases q : a = b <;> by_cases q2 : l = m <;> simp [q, q2]
theorem weq_map [DecidableEq α] (f : α → EV.W) (g : α → PyData) (h1 : ∀ a, EV.toD (f a) = some (g a)) (h2 : ∀ a, (g a).canLay0 = true) (h3 : ∀ a, (g a).depth ≤ 60) (h4 : ∀ a b, PyData.eqv (g a) (g b) = decide (a = b)) (l m : List α) :
    EV.weq (.lst (l.map f)) (.lst (m.map f)) = some (decide (l = m)) := by
  have sh : ∀ l : List α, SeqAt.shaped (.list (l.map g)) = true := fun l => by
    unfold SeqAt.shaped PyData.canLay0 PyData.depth
    rw [lay_map g h2 l]
    have := dep_map g 60 h3 l
    simp only [Bool.true_and, decide_eq_true_eq]
    omega
  unfold EV.weq
  have e : ∀ l : List α, EV.toD (.lst (l.map f)) = some (.list (l.map g)) := fun l => by rw [EV.toD, toDs_map f g h1 l]; rfl
  simp only [e, sh, and_self, if_true]
  rw [PyData.eqv, eqv_map g h4]
end
theorem weq_cells (l m : List (Int × Bool)) : EV.weq (.lst (l.map fun c => .tup [.int c.1, .bl c.2])) (.lst (m.map fun c => .tup [.int c.1, .bl c.2])) = some (decide (l = m)) :=
  weq_map _ (fun c => .tuple [.int c.1, .bool c.2]) (fun c => by simp [EV.toD, EV.toDs]) (fun c => by simp [PyData.canLay0, PyData.canLayAll0]) (fun c => by simp [PyData.depth, PyData.depthAll]) (fun a b => by
    obtain ⟨a1, a2⟩ := a
    obtain ⟨b1, b2⟩ := b
    simp only [PyData.eqv, PyData.eqvAll, Bool.and_true]
    by_cases q : a1 = b1 <;> by_cases q2 : a2 = b2 <;> simp [q, q2]) l m
theorem weq_pairs (l m : List (Int × Int)) : EV.weq (.lst (l.map fun c => .tup [.int c.1, .int c.2])) (.lst (m.map fun c => .tup [.int c.1, .int c.2])) = some (decide (l = m)) :=
  weq_map _ (fun c => .tuple [.int c.1, .int c.2]) (fun c => by simp [EV.toD, EV.toDs]) (fun c => by simp [PyData.canLay0, PyData.canLayAll0]) (fun c => by simp [PyData.depth, PyData.depthAll]) (fun a b => by
    obtain ⟨a1, a2⟩ := a
    obtain ⟨b1, b2⟩ := b
    simp only [PyData.eqv, PyData.eqvAll, Bool.and_true]
    by_cases q : a1 = b1 <;> by_cases q2 : a2 = b2 <;> simp [q, q2]) l m
theorem weq_cells0 (l : List (Int × Bool)) : EV.weq (.lst (l.map fun c => .tup [.int c.1, .bl c.2])) (.lst []) = some (decide (l = [])) := weq_cells l []
theorem weq_pairs0 (l : List (Int × Int)) : EV.weq (.lst (l.map fun c => .tup [.int c.1, .int c.2])) (.lst []) = some (decide (l = [])) := weq_pairs l []
theorem weq_npairs0 (l : List (Nat × Nat)) : EV.weq (.lst (l.map fun c => .tup [.int c.1, .int c.2])) (.lst []) = some (decide (l = [])) :=
  weq_map (fun c : Nat × Nat => .tup [.int c.1, .int c.2]) (fun c => .tuple [.int c.1, .int c.2]) (fun c => by simp [EV.toD, EV.toDs]) (fun c => by simp [PyData.canLay0, PyData.canLayAll0]) (fun c => by simp [PyData.depth, PyData.depthAll]) (fun a b => by
    obtain ⟨a1, a2⟩ := a
    obtain ⟨b1, b2⟩ := b
    simp only [PyData.eqv, PyData.eqvAll, Bool.and_true]
    have e : ∀ x y : Nat, ((x : Int) == (y : Int)) = decide (x = y) := fun x y => by
      by_cases q : x = y
      · subst q; simp
      · rw [beq_false_of_ne (by omega)]; simp [q]
    rw [e, e]
    by_cases q : a1 = b1 <;> by_cases q2 : a2 = b2 <;> simp [q, q2]) l []
theorem weq_wait0 (l : List (Nat × Int)) : EV.weq (.lst (l.map fun c => .tup [.int c.1, .int c.2])) (.lst []) = some (decide (l = [])) :=
  weq_map (fun c : Nat × Int => .tup [.int c.1, .int c.2]) (fun c => .tuple [.int c.1, .int c.2]) (fun c => by simp [EV.toD, EV.toDs]) (fun c => by simp [PyData.canLay0, PyData.canLayAll0]) (fun c => by simp [PyData.depth, PyData.depthAll]) (fun a b => by
    obtain ⟨a1, a2⟩ := a
    obtain ⟨b1, b2⟩ := b
    simp only [PyData.eqv, PyData.eqvAll, Bool.and_true]
    have e : ∀ x y : Nat, ((x : Int) == (y : Int)) = decide (x = y) := fun x y => by
      by_cases q : x = y
      · subst q; simp
      · rw [beq_false_of_ne (by omega)]; simp [q]
    rw [e]
    by_cases q : a1 = b1 <;> by_cases q2 : a2 = b2 <;> simp [q, q2]) l []
open TL
/-! ### texts, plain and in the walk -/
theorem whl_succ {c : EV.M Bool} {body : EV.M EV.Fl} {n : Nat} {σ : EV.Sls} {S : EV.Sto} : EV.whL c body (n + 1) σ S = (c σ S).bind fun b S1 => if b then (body σ S1).bind fun f S2 => match f with
    | .nx σ2 => EV.whL c body n σ2 S2
    | .ct σ2 => EV.whL c body n σ2 S2
    | .bk σ2 => .ok (.nx σ2) S2
    | .rt w => .ok (.rt w) S2 else .ok (.nx σ) S1 := rfl
theorem whl_go {c : EV.M Bool} {body : EV.M EV.Fl} {n : Nat} {σ σ2 : EV.Sls} {S S1 S2 : EV.Sto} (h : c σ S = .ok true S1) (hb : body σ S1 = .ok (.nx σ2) S2 ∨ body σ S1 = .ok (.ct σ2) S2) : EV.whL c body (n + 1) σ S = EV.whL c body n σ2 S2 := by
  rw [whl_succ, h, EV.r_ok, if_pos rfl]
  rcases hb with hb | hb <;> rw [hb, EV.r_ok]
theorem whl_end {c : EV.M Bool} {body : EV.M EV.Fl} {n : Nat} {σ : EV.Sls} {S S1 : EV.Sto} (h : c σ S = .ok false S1) : EV.whL c body (n + 1) σ S = .ok (.nx σ) S1 := by
  rw [whl_succ, h, EV.r_ok, if_neg (by simp)]
def sgn (c : Nat) : Str := ⟨#[c]⟩
theorem tl_sgn (c : Nat) : tl (sgn c) = [c] := rfl
theorem sgn_len (c : Nat) : (sgn c).length = 1 := rfl
theorem line_ge : 16777216 ≤ sizeLine := by rw [sizeLine_eq]; decide
theorem app_tl (x y : Str) : tl (x ++ y) = tl x ++ tl y := tl_append x y
theorem app_len (x y : Str) : (x ++ y).length = x.length + y.length := by rw [len_tl, len_tl, len_tl, app_tl, List.length_append]
theorem str_ne {x y : Str} (h : tl x ≠ tl y) : ¬ x = y := fun z => h (by rw [z])
theorem wmem_sgn (c : Nat) (z : Str) : EV.wmem (.str (sgn c)) (.str z) = some (decide (c ∈ tl z)) := by
  unfold EV.wmem sgn
  simp
theorem wix_s {t : Str} {k c : Nat} (hl : t.length ≤ sizeLine) (h : (tl t)[k]? = some c) : EV.wix (.str t) (.int k) = some (.str (sgn c)) := by
  have hk : k < t.cps.toList.length := (List.getElem?_eq_some_iff.mp h).1
  show (if t.length ≤ sizeLine then (L2.atI t.cps.toList (k : Int)).map fun c => EV.W.str ⟨#[c]⟩ else none) = _
  rw [if_pos hl]
  unfold L2.atI L2.ixN
  rw [if_pos (by omega), if_pos (by omega), Int.toNat_natCast]
  show ((tl t)[k]?).map _ = _
  rw [h]
  rfl
theorem ix_s {a b : EV.M EV.W} {σ : EV.Sls} {S : EV.Sto} {t : Str} {k c : Nat} (ha : a σ S = .ok (.str t) S) (hb : b σ S = .ok (.int k) S) (hl : t.length ≤ sizeLine) (h : (tl t)[k]? = some c) : EV.mIx a b σ S = .ok (.str (sgn c)) S := by
  rw [EV.r_ix, ha, EV.r_ok, EV.r_ixF, hb, EV.r_ok, EV.r_ixG]
  show EV.olift (EV.wix (.str t) (.int k)) S = _
  rw [wix_s hl h]
  rfl
theorem cut_tl (z : Str) (a b : Nat) : tl (cutS z (some (a : Int)) (some (b : Int))) = ((tl z).drop a).take (b - a) := by
  unfold cutS
  rw [HT.sIx_nat, HT.sIx_nat]
  show ((tl z).drop (min a z.length)).take (min b z.length - min a z.length) = _
  have hl := len_tl z
  by_cases h : a ≤ z.length
  · rw [Nat.min_eq_left h]
    by_cases h2 : b ≤ z.length
    · rw [Nat.min_eq_left h2]
    · rw [Nat.min_eq_right (by omega), List.take_of_length_le (by rw [List.length_drop]; omega), List.take_of_length_le (by rw [List.length_drop]; omega)]
  · rw [show min a z.length = z.length from by omega, List.drop_of_length_le (by omega), List.drop_of_length_le (by omega)]
    simp
theorem sl_s {a lo hi : EV.M EV.W} {σ : EV.Sls} {S : EV.Sto} {t u : Str} {i j : Nat} (ha : a σ S = .ok (.str t) S) (h1 : lo σ S = .ok (.int i) S) (h2 : hi σ S = .ok (.int j) S) (hl : t.length ≤ sizeLine) (h : ((tl t).drop i).take (j - i) = tl u) : EV.mSl a (some lo) (some hi) σ S = .ok (.str u) S := by
  have e : cutS t (some (i : Int)) (some (j : Int)) = u := ext_tl (by rw [cut_tl, h])
  rw [EV.r_sl, ha, EV.r_ok, EV.r_slF, EV.r_partS, h1, EV.r_ok, EV.r_partF, EV.r_ok, EV.r_slG, EV.r_partS, h2, EV.r_ok, EV.r_partF, EV.r_ok, EV.r_slH]
  show EV.olift (if t.length ≤ sizeLine then some (EV.W.str (cutS t (some (i : Int)) (some (j : Int)))) else none) S = _
  rw [if_pos hl, e]
  rfl
/-! ### signs -/
def wordC (c : Nat) : Bool := (decide (97 ≤ c) && decide (c ≤ 122)) || (decide (48 ≤ c) && decide (c ≤ 57)) || decide (c = 46)
def letC (c : Nat) : Bool := decide (97 ≤ c) && decide (c ≤ 122)
def digC (c : Nat) : Bool := decide (48 ≤ c) && decide (c ≤ 57)
theorem tl_word : tl ("abcdefghijklmnopqrstuvwxyz0123456789." : Str) = List.range' 97 26 ++ List.range' 48 10 ++ [46] := by decide +kernel
theorem tl_name : tl ("abcdefghijklmnopqrstuvwxyz0123456789" : Str) = List.range' 97 26 ++ List.range' 48 10 := by decide +kernel
theorem tl_let : tl ("abcdefghijklmnopqrstuvwxyz" : Str) = List.range' 97 26 := by decide +kernel
theorem tl_dig : tl ("0123456789" : Str) = List.range' 48 10 := by decide +kernel
theorem mem_word (c : Nat) : decide (c ∈ tl ("abcdefghijklmnopqrstuvwxyz0123456789." : Str)) = wordC c := by
  rw [tl_word, Bool.eq_iff_iff]
  unfold wordC
  simp only [List.mem_append, List.mem_range'_1, List.mem_singleton, decide_eq_true_eq, Bool.or_eq_true, Bool.and_eq_true]
  omega
theorem mem_name (c : Nat) : decide (c ∈ tl ("abcdefghijklmnopqrstuvwxyz0123456789" : Str)) = (letC c || digC c) := by
  rw [tl_name, Bool.eq_iff_iff]
  unfold letC digC
  simp only [List.mem_append, List.mem_range'_1, decide_eq_true_eq, Bool.or_eq_true, Bool.and_eq_true]
  omega
theorem mem_let (c : Nat) : decide (c ∈ tl ("abcdefghijklmnopqrstuvwxyz" : Str)) = letC c := by
  rw [tl_let, Bool.eq_iff_iff]
  unfold letC
  simp only [List.mem_range'_1, decide_eq_true_eq, Bool.and_eq_true]
  omega
theorem mem_dig (c : Nat) : decide (c ∈ tl ("0123456789" : Str)) = digC c := by
  rw [tl_dig, Bool.eq_iff_iff]
  unfold digC
  simp only [List.mem_range'_1, decide_eq_true_eq, Bool.and_eq_true]
  omega
/-! ### tokens and how they stand in a line -/
def Word (t : Str) : Prop := tl t ≠ [] ∧ ∀ c ∈ tl t, wordC c = true
/-- ( ) + - * , -/
def Sign (t : Str) : Prop := ∃ c, t = sgn c ∧ c ∈ ([40, 41, 43, 45, 42, 44] : List Nat)
def TokOk (t : Str) : Prop := Word t ∨ Sign t
theorem Sign.nw {t : Str} (h : Sign t) : ¬ Word t := fun ⟨_, w⟩ => by
  obtain ⟨c, rfl, hc⟩ := h
  have := w c (by rw [tl_sgn]; exact List.mem_singleton.mpr rfl)
  simp only [List.mem_cons, List.not_mem_nil, or_false] at hc
  rcases hc with rfl | rfl | rfl | rfl | rfl | rfl <;> exact absurd this (by decide)
theorem TokOk.ne {t : Str} (h : TokOk t) : tl t ≠ [] := by
  rcases h with h | ⟨c, rfl, _⟩
  · exact h.1
  · simp [tl_sgn]
/-- no two words side by side -/
def Apart : List Str → Prop
  | [] => True
  | [_] => True
  | a :: b :: r => (¬ (Word a ∧ Word b)) ∧ Apart (b :: r)
theorem Apart.mid {s : Str} (hs : Sign s) : ∀ {l m : List Str}, Apart l → Apart m → Apart (l ++ s :: m)
  | [], [], _, _ => trivial
  | [], b :: m, _, h => ⟨fun z => hs.nw z.1, h⟩
  | [a], m, _, h => ⟨fun z => hs.nw z.2, Apart.mid (l := []) hs trivial h⟩
  | a :: b :: l, m, h, h2 => ⟨h.1, Apart.mid (l := b :: l) hs h.2 h2⟩
theorem Apart.last {s : Str} (hs : Sign s) {l : List Str} (h : Apart l) : Apart (l ++ [s]) := h.mid hs trivial
theorem Apart.tail {a : Str} : ∀ {l : List Str}, Apart (a :: l) → Apart l
  | [], _ => trivial
  | _ :: _, h => h.2
/-- blanks ahead of each token -/
def lay (l : List (Nat × Str)) : List Nat := l.flatMap fun p => List.replicate p.1 32 ++ tl p.2
theorem lay_app (l m : List (Nat × Str)) : lay (l ++ m) = lay l ++ lay m := by unfold lay; rw [List.flatMap_append]
theorem lay_cons (p : Nat × Str) (l : List (Nat × Str)) : lay (p :: l) = List.replicate p.1 32 ++ tl p.2 ++ lay l := by unfold lay; rw [List.flatMap_cons]
open TL
def n_word_end_0 (F : EV.Fenv) : EV.M EV.Fl := (EV.sFrz [1] (EV.sSet 2 (EV.mVar 1)))
def n_word_end_1b_0 (F : EV.Fenv) : EV.M EV.Fl := (EV.sSetF 2 (EV.mBin .Add (EV.mVarB 2) (EV.mC (.int 1))))
def n_word_end_1b (F : EV.Fenv) : EV.M EV.Fl := (n_word_end_1b_0 F)
def n_word_end_1 (F : EV.Fenv) : EV.M EV.Fl := (EV.sWh (EV.mAnd (EV.mCmpT .Lt (EV.mVarB 2) (EV.mBlt .len (EV.mCons (EV.mVarB 0) EV.mNil))) (EV.mCmpT .In (EV.mIx (EV.mVarB 0) (EV.mVarB 2)) (EV.mC (.str "abcdefghijklmnopqrstuvwxyz0123456789.")))) (n_word_end_1b F))
def n_word_end_2 (F : EV.Fenv) : EV.M EV.Fl := (EV.sFrz [2] (EV.sRet (EV.mVar 2)))
theorem ms_word_end (F : EV.Fenv) : m_word_end F = (EV.sSeq (n_word_end_0 F) (EV.sSeq (n_word_end_1 F) (n_word_end_2 F))) := by kernel_rfl
def n_line_tokens_0 (F : EV.Fenv) : EV.M EV.Fl := (EV.sSetF 1 (EV.mLst EV.mNil))
def n_line_tokens_1 (F : EV.Fenv) : EV.M EV.Fl := (EV.sSet 2 (EV.mC (.int 0)))
def n_line_tokens_2b_0 (F : EV.Fenv) : EV.M EV.Fl := (EV.sSet 3 (EV.mIx (EV.mVarB 0) (EV.mVarB 2)))
def n_line_tokens_2b_1t_0 (F : EV.Fenv) : EV.M EV.Fl := (EV.sSetF 2 (EV.mBin .Add (EV.mVarB 2) (EV.mC (.int 1))))
def n_line_tokens_2b_1t_1 (F : EV.Fenv) : EV.M EV.Fl := EV.sCnt
def n_line_tokens_2b_1t (F : EV.Fenv) : EV.M EV.Fl := (EV.sSeq (n_line_tokens_2b_1t_0 F) (n_line_tokens_2b_1t_1 F))
def n_line_tokens_2b_1 (F : EV.Fenv) : EV.M EV.Fl := (EV.sIf (EV.mCmpT .Eq (EV.mVarB 3) (EV.mC (.str " "))) (n_line_tokens_2b_1t F) EV.sNext)
def n_line_tokens_2b_2t_0 (F : EV.Fenv) : EV.M EV.Fl := (EV.sFrz [0, 2] (EV.sSet 4 (EV.mCall F "word_end" (EV.mCons (EV.mVar 0) (EV.mCons (EV.mVar 2) EV.mNil)) [])))
def n_line_tokens_2b_2t (F : EV.Fenv) : EV.M EV.Fl := (n_line_tokens_2b_2t_0 F)
def n_line_tokens_2b_2e_0t_0 (F : EV.Fenv) : EV.M EV.Fl := (EV.sSetF 4 (EV.mBin .Add (EV.mVarB 2) (EV.mC (.int 2))))
def n_line_tokens_2b_2e_0t (F : EV.Fenv) : EV.M EV.Fl := (n_line_tokens_2b_2e_0t_0 F)
def n_line_tokens_2b_2e_0e_0t_0 (F : EV.Fenv) : EV.M EV.Fl := (EV.sSetF 4 (EV.mBin .Add (EV.mVarB 2) (EV.mC (.int 1))))
def n_line_tokens_2b_2e_0e_0t (F : EV.Fenv) : EV.M EV.Fl := (n_line_tokens_2b_2e_0e_0t_0 F)
def n_line_tokens_2b_2e_0e_0e_0 (F : EV.Fenv) : EV.M EV.Fl := (EV.sRet (EV.mC (.non)))
def n_line_tokens_2b_2e_0e_0e (F : EV.Fenv) : EV.M EV.Fl := (n_line_tokens_2b_2e_0e_0e_0 F)
def n_line_tokens_2b_2e_0e_0 (F : EV.Fenv) : EV.M EV.Fl := (EV.sIf (EV.mCmpT .In (EV.mVarB 3) (EV.mC (.str "()&|/^_<>=+-*,:SRTC"))) (n_line_tokens_2b_2e_0e_0t F) (n_line_tokens_2b_2e_0e_0e F))
def n_line_tokens_2b_2e_0e (F : EV.Fenv) : EV.M EV.Fl := (n_line_tokens_2b_2e_0e_0 F)
def n_line_tokens_2b_2e_0 (F : EV.Fenv) : EV.M EV.Fl := (EV.sIf (EV.mCmpT .In (EV.mSl (EV.mVarB 0) (some (EV.mVarB 2)) (some (EV.mBin .Add (EV.mVarB 2) (EV.mC (.int 2))))) (EV.mC (.tup [.str ":=", .str "<=", .str ">=", .str "!="]))) (n_line_tokens_2b_2e_0t F) (n_line_tokens_2b_2e_0e F))
def n_line_tokens_2b_2e (F : EV.Fenv) : EV.M EV.Fl := (n_line_tokens_2b_2e_0 F)
def n_line_tokens_2b_2 (F : EV.Fenv) : EV.M EV.Fl := (EV.sIf (EV.mCmpT .In (EV.mVarB 3) (EV.mC (.str "abcdefghijklmnopqrstuvwxyz0123456789."))) (n_line_tokens_2b_2t F) (n_line_tokens_2b_2e F))
def n_line_tokens_2b_3 (F : EV.Fenv) : EV.M EV.Fl := (EV.sMut (EV.mutE F (fun c => gG.mts.lookup (c, ("append" : Str))) .append "append" 1 (EV.mCons (EV.mSl (EV.mVarB 0) (some (EV.mVarB 2)) (some (EV.mVarB 4))) EV.mNil)))
def n_line_tokens_2b_4 (F : EV.Fenv) : EV.M EV.Fl := (EV.sFrz [4] (EV.sSet 2 (EV.mVar 4)))
def n_line_tokens_2b (F : EV.Fenv) : EV.M EV.Fl := (EV.sSeq (n_line_tokens_2b_0 F) (EV.sSeq (n_line_tokens_2b_1 F) (EV.sSeq (n_line_tokens_2b_2 F) (EV.sSeq (n_line_tokens_2b_3 F) (n_line_tokens_2b_4 F)))))
def n_line_tokens_2 (F : EV.Fenv) : EV.M EV.Fl := (EV.sWh (EV.mCmpT .Lt (EV.mVarB 2) (EV.mBlt .len (EV.mCons (EV.mVarB 0) EV.mNil))) (n_line_tokens_2b F))
def n_line_tokens_3 (F : EV.Fenv) : EV.M EV.Fl := (EV.sFrz [1] (EV.sRet (EV.mVar 1)))
theorem ms_line_tokens (F : EV.Fenv) : m_line_tokens F = (EV.sSeq (n_line_tokens_0 F) (EV.sSeq (n_line_tokens_1 F) (EV.sSeq (n_line_tokens_2 F) (n_line_tokens_3 F)))) := by kernel_rfl
/-! ### from a line to its tokens -/
section
variable {S : EV.Sto} {t : Str}
theorem lenB (hl : t.length ≤ 10000000) : t.length ≤ sizeLine := by have := line_ge; omega
theorem len_s {a : EV.M EV.W} {σ : EV.Sls} (ha : a σ S = .ok (.str t) S) (hl : t.length ≤ 10000000) : EV.mBlt .len (EV.mCons a EV.mNil) σ S = .ok (.int t.length) S := by
  have h := lenB hl
  simp -implicitDefEqProofs [EV.LIM, EV.str_lit, evr, EV.r_for, EV.r_rng1, EV.wbin, EV.wun, EV.wcmp, EV.vw, EV.vwz, EV.wix, EV.wblt, EV.wtru, EV.wisi, EV.frz, EV.mkOwn, L2.atI, L2.ixN, List.map, List.length_cons, List.length_nil, List.replicate, List.getElem?_cons_zero, List.getElem?_cons_succ, List.set_cons_zero, List.set_cons_succ, List.append_nil, List.cons_append, List.nil_append, ha, h]
theorem in_sgn {a : EV.M EV.W} {σ : EV.Sls} {c : Nat} {z : Str} (ha : a σ S = .ok (.str (sgn c)) S) : EV.mCmpT .In a (EV.mC (.str z)) σ S = .ok (decide (c ∈ tl z)) S := by
  have h := wmem_sgn c z
  simp -implicitDefEqProofs [EV.LIM, EV.str_lit, evr, EV.r_for, EV.r_rng1, EV.wbin, EV.wun, EV.wcmp, EV.vw, EV.vwz, EV.wix, EV.wblt, EV.wtru, EV.wisi, EV.frz, EV.mkOwn, L2.atI, L2.ixN, List.map, List.length_cons, List.length_nil, List.replicate, List.getElem?_cons_zero, List.getElem?_cons_succ, List.set_cons_zero, List.set_cons_succ, List.append_nil, List.cons_append, List.nil_append, ha, h]
theorem nin_sgn {a : EV.M EV.W} {σ : EV.Sls} {c : Nat} {z : Str} (ha : a σ S = .ok (.str (sgn c)) S) : EV.mCmpT .NotIn a (EV.mC (.str z)) σ S = .ok (!decide (c ∈ tl z)) S := by
  have h := wmem_sgn c z
  simp -implicitDefEqProofs [EV.LIM, EV.str_lit, evr, EV.r_for, EV.r_rng1, EV.wbin, EV.wun, EV.wcmp, EV.vw, EV.vwz, EV.wix, EV.wblt, EV.wtru, EV.wisi, EV.frz, EV.mkOwn, L2.atI, L2.ixN, List.map, List.length_cons, List.length_nil, List.replicate, List.getElem?_cons_zero, List.getElem?_cons_succ, List.set_cons_zero, List.set_cons_succ, List.append_nil, List.cons_append, List.nil_append, ha, h]
/-- r does not go on a word -/
def Stops : List Nat → Prop
  | [] => True
  | c :: _ => wordC c = false
theorem drop_get {l r : List Nat} {p c : Nat} (h : l.drop p = c :: r) : l[p]? = some c ∧ l.drop (p + 1) = r ∧ p < l.length := by
  have hp : p < l.length := by
    rcases Nat.lt_or_ge p l.length with q | q
    · exact q
    · rw [List.drop_of_length_le q] at h; cases h
  rw [List.drop_eq_getElem_cons hp] at h
  injection h with h1 h2
  exact ⟨by rw [List.getElem?_eq_getElem hp, h1], h2, hp⟩
theorem drop_nil {l : List Nat} {p : Nat} (h : l.drop p = []) : l.length ≤ p := by simpa using h
def weC : EV.M Bool := EV.mAnd (EV.mCmpT .Lt (EV.mVarB 2) (EV.mBlt .len (EV.mCons (EV.mVarB 0) EV.mNil))) (EV.mCmpT .In (EV.mIx (EV.mVarB 0) (EV.mVarB 2)) (EV.mC (.str "abcdefghijklmnopqrstuvwxyz0123456789.")))
theorem weC_in (hl : t.length ≤ 10000000) {p c : Nat} {r : List Nat} (h : (tl t).drop p = c :: r) (x1 : EV.Sl) : weC [.fr (.str t), x1, .fr (.int p)] S = .ok (wordC c) S := by
  obtain ⟨h1, _, h3⟩ := drop_get h
  rw [← len_tl] at h3
  have e1 : EV.mBlt .len (EV.mCons (EV.mVarB 0) EV.mNil) [.fr (.str t), x1, .fr (.int p)] S = .ok (.int t.length) S := len_s rfl hl
  have e2 : EV.mIx (EV.mVarB 0) (EV.mVarB 2) [.fr (.str t), x1, .fr (.int p)] S = .ok (.str (sgn c)) S := ix_s rfl rfl (lenB hl) h1
  have e3 := in_sgn (z := "abcdefghijklmnopqrstuvwxyz0123456789.") e2
  rw [mem_word] at e3
  have e4 : EV.mCmpT .Lt (EV.mVarB 2) (EV.mBlt .len (EV.mCons (EV.mVarB 0) EV.mNil)) [.fr (.str t), x1, .fr (.int p)] S = .ok true S := by
    generalize EV.mBlt .len (EV.mCons (EV.mVarB 0) EV.mNil) = A at *
    have : (p : Int) < (t.length : Int) := by omega
    simp -implicitDefEqProofs [EV.LIM, EV.str_lit, evr, EV.r_for, EV.r_rng1, EV.wbin, EV.wun, EV.wcmp, EV.vw, EV.vwz, EV.wix, EV.wblt, EV.wtru, EV.wisi, EV.frz, EV.mkOwn, L2.atI, L2.ixN, List.map, List.length_cons, List.length_nil, List.replicate, List.getElem?_cons_zero, List.getElem?_cons_succ, List.set_cons_zero, List.set_cons_succ, List.append_nil, List.cons_append, List.nil_append, e1, this, h3]
  unfold weC
  rw [EV.r_and, e4, EV.r_ok, EV.r_andT, e3]
theorem weC_out (hl : t.length ≤ 10000000) {p : Nat} (h : (tl t).drop p = []) (x1 : EV.Sl) : weC [.fr (.str t), x1, .fr (.int p)] S = .ok false S := by
  have h3 := drop_nil h
  rw [← len_tl] at h3
  have e1 : EV.mBlt .len (EV.mCons (EV.mVarB 0) EV.mNil) [.fr (.str t), x1, .fr (.int p)] S = .ok (.int t.length) S := len_s rfl hl
  have e4 : EV.mCmpT .Lt (EV.mVarB 2) (EV.mBlt .len (EV.mCons (EV.mVarB 0) EV.mNil)) [.fr (.str t), x1, .fr (.int p)] S = .ok false S := by
    generalize EV.mBlt .len (EV.mCons (EV.mVarB 0) EV.mNil) = A at *
    have : ¬ (p : Int) < (t.length : Int) := by omega
    have h4 : ¬ p < t.length := by omega
    simp -implicitDefEqProofs [EV.LIM, EV.str_lit, evr, EV.r_for, EV.r_rng1, EV.wbin, EV.wun, EV.wcmp, EV.vw, EV.vwz, EV.wix, EV.wblt, EV.wtru, EV.wisi, EV.frz, EV.mkOwn, L2.atI, L2.ixN, List.map, List.length_cons, List.length_nil, List.replicate, List.getElem?_cons_zero, List.getElem?_cons_succ, List.set_cons_zero, List.set_cons_succ, List.append_nil, List.cons_append, List.nil_append, e1, this, h4]
  unfold weC
  rw [EV.r_and, e4, EV.r_ok]
  rfl
theorem we_loop (F : EV.Fenv) (hl : t.length ≤ 10000000) (x1 : EV.Sl) : ∀ (w r : List Nat) (p n : Nat), (tl t).drop p = w ++ r → (∀ c ∈ w, wordC c = true) → Stops r → w.length < n → EV.whL weC (n_word_end_1b F) n [.fr (.str t), x1, .fr (.int p)] S = .ok (.nx [.fr (.str t), x1, .fr (.int (p + w.length : Nat))]) S
  | [], r, p, n + 1, h, _, hr, _ => by
    rw [List.nil_append] at h
    have : weC [.fr (.str t), x1, .fr (.int p)] S = .ok false S := by
      cases r with
      | nil => exact weC_out hl h x1
      | cons c r => rw [weC_in hl h x1, show wordC c = false from hr]
    rw [whl_end this]
    rfl
  | c :: w, r, p, n + 1, h, hw, hr, hn => by
    rw [List.cons_append] at h
    have h1 := weC_in (S := S) hl h x1
    rw [hw c (List.mem_cons_self ..)] at h1
    have hb : n_word_end_1b F [.fr (.str t), x1, .fr (.int p)] S = .ok (.nx [.fr (.str t), x1, .fr (.int (p + 1 : Nat))]) S := by
      have : ((p + 1 : Nat) : Int) = (p : Int) + 1 := by omega
      rw [this]
      simp -implicitDefEqProofs [EV.LIM, EV.str_lit, evr, EV.r_for, EV.r_rng1, EV.wbin, EV.wun, EV.wcmp, EV.vw, EV.vwz, EV.wix, EV.wblt, EV.wtru, EV.wisi, EV.frz, EV.mkOwn, L2.atI, L2.ixN, List.map, List.length_cons, List.length_nil, List.replicate, List.getElem?_cons_zero, List.getElem?_cons_succ, List.set_cons_zero, List.set_cons_succ, List.append_nil, List.cons_append, List.nil_append, n_word_end_1b, n_word_end_1b_0]
    rw [whl_go h1 (.inl hb), we_loop F hl x1 w r (p + 1) n (drop_get h).2.1 (fun d hd => hw d (List.mem_cons_of_mem _ hd)) hr (by simp at hn; omega)]
    rw [List.length_cons, show p + 1 + w.length = p + (w.length + 1) by omega]
  | [], _, _, 0, _, _, _, h => by simp at h
  | _ :: _, _, _, 0, _, _, _, h => by simp at h
theorem word_end_ex (d : Nat) (hl : t.length ≤ 10000000) {w r : List Nat} {p : Nat} (h : (tl t).drop p = w ++ r) (hw : ∀ c ∈ w, wordC c = true) (hr : Stops r) : EV.Fn gG gP (d + 1) "word_end" [.str t, .int p] S = .ok (.int (p + w.length : Nat)) S := by
  have hwl : w.length ≤ 10000000 := by
    have := congrArg List.length h
    rw [List.length_drop, List.length_append, ← len_tl] at this
    omega
  rw [fe_word_end, if_pos (by rfl), ms_word_end, EV.r_run]
  show (EV.sSeq _ _ [.fr (.str t), .fr (.int p), .emp] S).bind EV.runF = _
  have a0 : n_word_end_0 (EV.Fn gG gP d) [.fr (.str t), .fr (.int p), .emp] S = .ok (.nx [.fr (.str t), .fr (.int p), .fr (.int p)]) S := rfl
  have a1 : n_word_end_1 (EV.Fn gG gP d) [.fr (.str t), .fr (.int p), .fr (.int p)] S = .ok (.nx [.fr (.str t), .fr (.int p), .fr (.int (p + w.length : Nat))]) S := by
    unfold n_word_end_1 EV.sWh
    exact we_loop (EV.Fn gG gP d) hl _ w r p EV.whMax h hw hr (by rw [EV.whMax_eq]; omega)
  rw [seq_step a0, seq_step a1]
  rfl
/-! the loop over the line -/
def tkW (l : List Str) : List EV.W := l.map .str
theorem lt_blank (F : EV.Fenv) (hl : t.length ≤ 10000000) {p : Nat} {r : List Nat} (h : (tl t).drop p = 32 :: r) (x1 x3 x4 : EV.Sl) : n_line_tokens_2b F [.fr (.str t), x1, .fr (.int p), x3, x4] S = .ok (.ct [.fr (.str t), x1, .fr (.int (p + 1 : Nat)), .fr (.str (sgn 32)), x4]) S := by
  have e2 : EV.mIx (EV.mVarB 0) (EV.mVarB 2) [.fr (.str t), x1, .fr (.int p), x3, x4] S = .ok (.str (sgn 32)) S := ix_s rfl rfl (lenB hl) (drop_get h).1
  have a0 : n_line_tokens_2b_0 F [.fr (.str t), x1, .fr (.int p), x3, x4] S = .ok (.nx [.fr (.str t), x1, .fr (.int p), .fr (.str (sgn 32)), x4]) S := by
    unfold n_line_tokens_2b_0
    rw [EV.r_set, e2]
    rfl
  have hs : sgn 32 = (" " : Str) := by decide +kernel
  have : ((p + 1 : Nat) : Int) = (p : Int) + 1 := by omega
  unfold n_line_tokens_2b
  rw [seq_step a0, this]
  simp -implicitDefEqProofs [EV.LIM, EV.str_lit, evr, EV.r_for, EV.r_rng1, EV.wbin, EV.wun, EV.wcmp, EV.vw, EV.vwz, EV.wix, EV.wblt, EV.wtru, EV.wisi, EV.frz, EV.mkOwn, L2.atI, L2.ixN, List.map, List.length_cons, List.length_nil, List.replicate, List.getElem?_cons_zero, List.getElem?_cons_succ, List.set_cons_zero, List.set_cons_succ, List.append_nil, List.cons_append, List.nil_append, n_line_tokens_2b_1, n_line_tokens_2b_1t, n_line_tokens_2b_1t_0, n_line_tokens_2b_1t_1, hs]
/-- behind the two first statements, at a token -/
theorem lt_head (F : EV.Fenv) (hl : t.length ≤ 10000000) {p c : Nat} {r : List Nat} (h : (tl t).drop p = c :: r) (hc : c ≠ 32) (x1 x3 x4 : EV.Sl) (rest : EV.M EV.Fl) : EV.sSeq (n_line_tokens_2b_0 F) (EV.sSeq (n_line_tokens_2b_1 F) rest) [.fr (.str t), x1, .fr (.int p), x3, x4] S = rest [.fr (.str t), x1, .fr (.int p), .fr (.str (sgn c)), x4] S := by
  have e2 : EV.mIx (EV.mVarB 0) (EV.mVarB 2) [.fr (.str t), x1, .fr (.int p), x3, x4] S = .ok (.str (sgn c)) S := ix_s rfl rfl (lenB hl) (drop_get h).1
  have a0 : n_line_tokens_2b_0 F [.fr (.str t), x1, .fr (.int p), x3, x4] S = .ok (.nx [.fr (.str t), x1, .fr (.int p), .fr (.str (sgn c)), x4]) S := by
    unfold n_line_tokens_2b_0
    rw [EV.r_set, e2]
    rfl
  have hs : ¬ sgn c = (" " : Str) := str_ne (by
    rw [show tl (" " : Str) = [32] by decide +kernel, tl_sgn]
    simpa using hc)
  have a1 : n_line_tokens_2b_1 F [.fr (.str t), x1, .fr (.int p), .fr (.str (sgn c)), x4] S = .ok (.nx [.fr (.str t), x1, .fr (.int p), .fr (.str (sgn c)), x4]) S := by
    simp -implicitDefEqProofs [EV.LIM, EV.str_lit, evr, EV.r_for, EV.r_rng1, EV.wbin, EV.wun, EV.wcmp, EV.vw, EV.vwz, EV.wix, EV.wblt, EV.wtru, EV.wisi, EV.frz, EV.mkOwn, L2.atI, L2.ixN, List.map, List.length_cons, List.length_nil, List.replicate, List.getElem?_cons_zero, List.getElem?_cons_succ, List.set_cons_zero, List.set_cons_succ, List.append_nil, List.cons_append, List.nil_append, n_line_tokens_2b_1, hs]
  rw [seq_step a0, seq_step a1]
theorem lt_end (F : EV.Fenv) (hl : t.length ≤ 10000000) {p e : Nat} {w : Str} {acc : List Str} (hw : ((tl t).drop p).take (e - p) = tl w) (ha : acc.length < 10000000) (x3 : EV.Sl) : EV.sSeq (n_line_tokens_2b_3 F) (n_line_tokens_2b_4 F) [.fr (.str t), .ow (.lst (tkW acc)), .fr (.int p), x3, .fr (.int e)] S = .ok (.nx [.fr (.str t), .ow (.lst (tkW (acc ++ [w]))), .fr (.int e), x3, .fr (.int e)]) S := by
  have es : EV.mSl (EV.mVarB 0) (some (EV.mVarB 2)) (some (EV.mVarB 4)) [.fr (.str t), .ow (.lst (tkW acc)), .fr (.int p), x3, .fr (.int e)] S = .ok (.str w) S := sl_s rfl rfl rfl (lenB hl) hw
  have ea : EV.mCons (EV.mSl (EV.mVarB 0) (some (EV.mVarB 2)) (some (EV.mVarB 4))) EV.mNil [.fr (.str t), .ow (.lst (tkW acc)), .fr (.int p), x3, .fr (.int e)] S = .ok [.str w] S := by
    rw [EV.r_cons, es, EV.r_ok, EV.r_consF]
    rfl
  have a3 : n_line_tokens_2b_3 F [.fr (.str t), .ow (.lst (tkW acc)), .fr (.int p), x3, .fr (.int e)] S = .ok (.nx [.fr (.str t), .ow (.lst (tkW (acc ++ [w]))), .fr (.int p), x3, .fr (.int e)]) S := by
    unfold n_line_tokens_2b_3
    rw [EV.r_mut, mut_own (i := 1) rfl ea (up_app _ _ _ (by unfold tkW; rw [List.length_map]; exact ha)), EV.r_ok, EV.r_mutF]
    unfold tkW
    rw [List.map_append]
    rfl
  rw [seq_step a3]
  rfl
theorem lt_word (d : Nat) (hl : t.length ≤ 10000000) {p : Nat} {w : Str} {r : List Nat} {acc : List Str} (h : (tl t).drop p = tl w ++ r) (hw : Word w) (hr : Stops r) (ha : acc.length < 10000000) (x3 x4 : EV.Sl) :
    ∃ y3 y4 : EV.Sl, n_line_tokens_2b (EV.Fn gG gP (d + 1)) [.fr (.str t), .ow (.lst (tkW acc)), .fr (.int p), x3, x4] S = .ok (.nx [.fr (.str t), .ow (.lst (tkW (acc ++ [w]))), .fr (.int (p + w.length : Nat)), y3, y4]) S := by
  obtain ⟨c, w', hcw⟩ := List.exists_cons_of_ne_nil hw.1
  have hcc := hw.2 c (by rw [hcw]; exact List.mem_cons_self ..)
  have h' := h
  rw [hcw, List.cons_append] at h'
  have we := word_end_ex (S := S) d hl h hw.2 hr
  rw [← len_tl] at we
  refine ⟨.fr (.str (sgn c)), .fr (.int (p + w.length : Nat)), ?_⟩
  unfold n_line_tokens_2b
  rw [lt_head (EV.Fn gG gP (d + 1)) hl h' (fun z => by subst z; exact absurd hcc (by decide))]
  have et : EV.mCmpT .In (EV.mVarB 3) (EV.mC (.str "abcdefghijklmnopqrstuvwxyz0123456789.")) [.fr (.str t), .ow (.lst (tkW acc)), .fr (.int p), .fr (.str (sgn c)), x4] S = .ok true S := by
    rw [in_sgn (c := c) rfl, mem_word, hcc]
  have a2 : n_line_tokens_2b_2 (EV.Fn gG gP (d + 1)) [.fr (.str t), .ow (.lst (tkW acc)), .fr (.int p), .fr (.str (sgn c)), x4] S = .ok (.nx [.fr (.str t), .ow (.lst (tkW acc)), .fr (.int p), .fr (.str (sgn c)), .fr (.int (p + w.length : Nat))]) S := by
    unfold n_line_tokens_2b_2
    rw [EV.r_if, et, EV.r_ok, EV.r_sifT]
    unfold n_line_tokens_2b_2t n_line_tokens_2b_2t_0
    rw [EV.r_frz, show EV.frz [.fr (.str t), .ow (.lst (tkW acc)), .fr (.int p), .fr (.str (sgn c)), x4] [0, 2] = [.fr (.str t), .ow (.lst (tkW acc)), .fr (.int p), .fr (.str (sgn c)), x4] from rfl, EV.r_set, show EV.mCall (EV.Fn gG gP (d + 1)) "word_end" (EV.mCons (EV.mVar 0) (EV.mCons (EV.mVar 2) EV.mNil)) [] [.fr (.str t), .ow (.lst (tkW acc)), .fr (.int p), .fr (.str (sgn c)), x4] S = .ok (.int (p + w.length : Nat)) S from we]
    rfl
  rw [seq_step a2]
  refine lt_end (EV.Fn gG gP (d + 1)) hl ?_ ha _
  rw [h, show p + w.length - p = (tl w).length by rw [← len_tl]; omega, List.take_left']
  rfl
theorem lt_sign (F : EV.Fenv) (hl : t.length ≤ 10000000) {p c : Nat} {r : List Nat} {acc : List Str} (h : (tl t).drop p = c :: r) (hc : c ∈ ([40, 41, 43, 45, 42, 44] : List Nat)) (ha : acc.length < 10000000) (x3 x4 : EV.Sl) :
    ∃ y3 y4 : EV.Sl, n_line_tokens_2b F [.fr (.str t), .ow (.lst (tkW acc)), .fr (.int p), x3, x4] S = .ok (.nx [.fr (.str t), .ow (.lst (tkW (acc ++ [sgn c]))), .fr (.int (p + 1 : Nat)), y3, y4]) S := by
  have hb : c ≠ 32 ∧ wordC c = false ∧ c ≠ 58 ∧ c ≠ 60 ∧ c ≠ 62 ∧ c ≠ 33 ∧ c ∈ tl ("()&|/^_<>=+-*,:SRTC" : Str) := by
    have q : tl ("()&|/^_<>=+-*,:SRTC" : Str) = [40, 41, 38, 124, 47, 94, 95, 60, 62, 61, 43, 45, 42, 44, 58, 83, 82, 84, 67] := by decide +kernel
    rw [q]
    simp only [List.mem_cons, List.not_mem_nil, or_false] at hc
    rcases hc with rfl | rfl | rfl | rfl | rfl | rfl <;> decide
  obtain ⟨b1, b2, b3, b4, b5, b6, b7⟩ := hb
  refine ⟨.fr (.str (sgn c)), .fr (.int (p + 1 : Nat)), ?_⟩
  unfold n_line_tokens_2b
  rw [lt_head F hl h b1]
  have et : EV.mCmpT .In (EV.mVarB 3) (EV.mC (.str "abcdefghijklmnopqrstuvwxyz0123456789.")) [.fr (.str t), .ow (.lst (tkW acc)), .fr (.int p), .fr (.str (sgn c)), x4] S = .ok false S := by
    rw [in_sgn (c := c) rfl, mem_word, b2]
  have et2 : EV.mCmpT .In (EV.mSl (EV.mVarB 0) (some (EV.mVarB 2)) (some (EV.mBin .Add (EV.mVarB 2) (EV.mC (.int 2))))) (EV.mC (.tup [.str ":=", .str "<=", .str ">=", .str "!="])) [.fr (.str t), .ow (.lst (tkW acc)), .fr (.int p), .fr (.str (sgn c)), x4] S = .ok false S := by
    obtain ⟨u, hu⟩ : ∃ u : Str, tl u = c :: r.take 1 := ⟨⟨(c :: r.take 1).toArray⟩, rfl⟩
    have es : EV.mSl (EV.mVarB 0) (some (EV.mVarB 2)) (some (EV.mBin .Add (EV.mVarB 2) (EV.mC (.int 2)))) [.fr (.str t), .ow (.lst (tkW acc)), .fr (.int p), .fr (.str (sgn c)), x4] S = .ok (.str u) S := by
      refine sl_s (i := p) (j := p + 2) rfl rfl ?_ (lenB hl) ?_
      · have : ((p + 2 : Nat) : Int) = (p : Int) + 2 := by omega
        rw [this]
        simp -implicitDefEqProofs [EV.LIM, EV.str_lit, evr, EV.r_for, EV.r_rng1, EV.wbin, EV.wun, EV.wcmp, EV.vw, EV.vwz, EV.wix, EV.wblt, EV.wtru, EV.wisi, EV.frz, EV.mkOwn, L2.atI, L2.ixN, List.map, List.length_cons, List.length_nil, List.replicate, List.getElem?_cons_zero, List.getElem?_cons_succ, List.set_cons_zero, List.set_cons_succ, List.append_nil, List.cons_append, List.nil_append]
      · rw [h, show p + 2 - p = 1 + 1 by omega, List.take_succ_cons, hu]
    have hm : EV.wmem (.str u) (.tup [.str ":=", .str "<=", .str ">=", .str "!="]) = some false := by
      have n : ∀ (z : Str) (k : Nat), (tl z).head? = some k → c ≠ k → (z == u) = false := fun z k hz hk => by
        rw [beq_eq_false_iff_ne]
        intro e
        rw [e, hu] at hz
        simp at hz
        exact hk hz
      unfold EV.wmem
      simp only [EV.wflat, List.all_cons, List.all_nil, Bool.and_self, and_self, if_true, List.any_cons, List.any_nil, EV.wfeq]
      rw [n ":=" 58 (by decide +kernel) b3, n "<=" 60 (by decide +kernel) b4, n ">=" 62 (by decide +kernel) b5, n "!=" 33 (by decide +kernel) b6]
      rfl
    generalize EV.mSl (EV.mVarB 0) (some (EV.mVarB 2)) (some (EV.mBin .Add (EV.mVarB 2) (EV.mC (.int 2)))) = A at *
    simp -implicitDefEqProofs [EV.LIM, EV.str_lit, evr, EV.r_for, EV.r_rng1, EV.wbin, EV.wun, EV.wcmp, EV.vw, EV.vwz, EV.wix, EV.wblt, EV.wtru, EV.wisi, EV.frz, EV.mkOwn, L2.atI, L2.ixN, List.map, List.length_cons, List.length_nil, List.replicate, List.getElem?_cons_zero, List.getElem?_cons_succ, List.set_cons_zero, List.set_cons_succ, List.append_nil, List.cons_append, List.nil_append, es, hm]
  have et3 : EV.mCmpT .In (EV.mVarB 3) (EV.mC (.str "()&|/^_<>=+-*,:SRTC")) [.fr (.str t), .ow (.lst (tkW acc)), .fr (.int p), .fr (.str (sgn c)), x4] S = .ok true S := by
    rw [in_sgn (c := c) rfl, decide_eq_true b7]
  have a2 : n_line_tokens_2b_2 F [.fr (.str t), .ow (.lst (tkW acc)), .fr (.int p), .fr (.str (sgn c)), x4] S = .ok (.nx [.fr (.str t), .ow (.lst (tkW acc)), .fr (.int p), .fr (.str (sgn c)), .fr (.int (p + 1 : Nat))]) S := by
    have : ((p + 1 : Nat) : Int) = (p : Int) + 1 := by omega
    unfold n_line_tokens_2b_2
    rw [EV.r_if, et, EV.r_ok, EV.r_sifN]
    unfold n_line_tokens_2b_2e n_line_tokens_2b_2e_0
    rw [EV.r_if, et2, EV.r_ok, EV.r_sifN]
    unfold n_line_tokens_2b_2e_0e n_line_tokens_2b_2e_0e_0
    rw [EV.r_if, et3, EV.r_ok, EV.r_sifT, this]
    rfl
  rw [seq_step a2]
  refine lt_end F hl ?_ ha _
  rw [h, show p + 1 - p = 0 + 1 by omega, List.take_succ_cons]
  rfl
def ltC : EV.M Bool := EV.mCmpT .Lt (EV.mVarB 2) (EV.mBlt .len (EV.mCons (EV.mVarB 0) EV.mNil))
theorem ltC_ok (hl : t.length ≤ 10000000) (p : Nat) (x1 x3 x4 : EV.Sl) : ltC [.fr (.str t), x1, .fr (.int p), x3, x4] S = .ok (decide (p < t.length)) S := by
  have e1 : EV.mBlt .len (EV.mCons (EV.mVarB 0) EV.mNil) [.fr (.str t), x1, .fr (.int p), x3, x4] S = .ok (.int t.length) S := len_s rfl hl
  unfold ltC
  generalize EV.mBlt .len (EV.mCons (EV.mVarB 0) EV.mNil) = A at *
  by_cases q : p < t.length
  · have : (p : Int) < (t.length : Int) := by omega
    simp -implicitDefEqProofs [EV.LIM, EV.str_lit, evr, EV.r_for, EV.r_rng1, EV.wbin, EV.wun, EV.wcmp, EV.vw, EV.vwz, EV.wix, EV.wblt, EV.wtru, EV.wisi, EV.frz, EV.mkOwn, L2.atI, L2.ixN, List.map, List.length_cons, List.length_nil, List.replicate, List.getElem?_cons_zero, List.getElem?_cons_succ, List.set_cons_zero, List.set_cons_succ, List.append_nil, List.cons_append, List.nil_append, e1, this, q]
  · have : ¬ (p : Int) < (t.length : Int) := by omega
    simp -implicitDefEqProofs [EV.LIM, EV.str_lit, evr, EV.r_for, EV.r_rng1, EV.wbin, EV.wun, EV.wcmp, EV.vw, EV.vwz, EV.wix, EV.wblt, EV.wtru, EV.wisi, EV.frz, EV.mkOwn, L2.atI, L2.ixN, List.map, List.length_cons, List.length_nil, List.replicate, List.getElem?_cons_zero, List.getElem?_cons_succ, List.set_cons_zero, List.set_cons_succ, List.append_nil, List.cons_append, List.nil_append, e1, this, q]
theorem ltC_in (hl : t.length ≤ 10000000) {p c : Nat} {r : List Nat} (h : (tl t).drop p = c :: r) (x1 x3 x4 : EV.Sl) : ltC [.fr (.str t), x1, .fr (.int p), x3, x4] S = .ok true S := by
  rw [ltC_ok hl, decide_eq_true]
  rw [len_tl]
  exact (drop_get h).2.2
theorem blank_loop (F : EV.Fenv) (hl : t.length ≤ 10000000) (x1 x4 : EV.Sl) (n : Nat) (r : List Nat) : ∀ (m p : Nat) (x3 : EV.Sl), (tl t).drop p = List.replicate m 32 ++ r → ∃ y3 : EV.Sl, (tl t).drop (p + m) = r ∧ EV.whL ltC (n_line_tokens_2b F) (n + m) [.fr (.str t), x1, .fr (.int p), x3, x4] S = EV.whL ltC (n_line_tokens_2b F) n [.fr (.str t), x1, .fr (.int (p + m : Nat)), y3, x4] S
  | 0, p, x3, h => ⟨x3, by simpa using h, rfl⟩
  | m + 1, p, x3, h => by
    rw [List.replicate_succ, List.cons_append] at h
    obtain ⟨y3, h2, e⟩ := blank_loop F hl x1 x4 n r m (p + 1) (.fr (.str (sgn 32))) (drop_get h).2.1
    refine ⟨y3, by rw [← h2]; congr 1; omega, ?_⟩
    rw [← Nat.add_assoc, whl_go (ltC_in hl h x1 x3 x4) (.inr (lt_blank F hl h x1 x3 x4)), e, show p + 1 + m = p + (m + 1) by omega]
def cost (l : List (Nat × Str)) : Nat := (l.map fun q => q.1 + 1).sum
theorem lay_stops : ∀ {l : List (Nat × Str)} {w : Str} (k : Nat), Word w → (∀ q ∈ l, TokOk q.2) → Apart (w :: l.map (·.2)) → Stops (lay l ++ List.replicate k 32)
  | [], _, 0, _, _, _ => trivial
  | [], _, k + 1, _, _, _ => (by decide : wordC 32 = false)
  | (m + 1, t) :: l, _, k, _, _, _ => (by decide : wordC 32 = false)
  | (0, t) :: l, w, k, hw, ht, ha => by
    rcases ht _ (List.mem_cons_self ..) with h | ⟨c, h, hc⟩
    · exact absurd ⟨hw, h⟩ ha.1
    · simp only at h
      subst h
      rw [lay_cons]
      show wordC c = false
      simp only [List.mem_cons, List.not_mem_nil, or_false] at hc
      rcases hc with rfl | rfl | rfl | rfl | rfl | rfl <;> decide
theorem tok_loop (d : Nat) (hl : t.length ≤ 10000000) (n k : Nat) : ∀ (l : List (Nat × Str)) (p : Nat) (acc : List Str) (x3 x4 : EV.Sl), (tl t).drop p = lay l ++ List.replicate k 32 → (∀ q ∈ l, TokOk q.2) → Apart (l.map (·.2)) → acc.length + l.length < 10000000 →
    ∃ y2 y3 y4 : EV.Sl, EV.whL ltC (n_line_tokens_2b (EV.Fn gG gP (d + 1))) (n + 1 + k + cost l) [.fr (.str t), .ow (.lst (tkW acc)), .fr (.int p), x3, x4] S = .ok (.nx [.fr (.str t), .ow (.lst (tkW (acc ++ l.map (·.2)))), y2, y3, y4]) S
  | [], p, acc, x3, x4, h, _, _, _ => by
    obtain ⟨y3, h2, e⟩ := blank_loop (S := S) (EV.Fn gG gP (d + 1)) hl (.ow (.lst (tkW acc))) x4 (n + 1) [] k p x3 (by rw [h]; simp [lay])
    have := drop_nil h2
    rw [← len_tl] at this
    refine ⟨.fr (.int (p + k : Nat)), y3, x4, ?_⟩
    rw [show n + 1 + k + cost [] = n + 1 + k from rfl, e, whl_end (by rw [ltC_ok hl, decide_eq_false (by omega)])]
    simp
  | (m, w) :: l, p, acc, x3, x4, h, ht, ha, hn => by
    rw [lay_cons, List.append_assoc, List.append_assoc] at h
    simp only [List.length_cons] at hn
    have htok : TokOk w := ht _ (List.mem_cons_self ..)
    have hap : Apart (w :: l.map (·.2)) := ha
    obtain ⟨y3, h2, e⟩ := blank_loop (S := S) (EV.Fn gG gP (d + 1)) hl (.ow (.lst (tkW acc))) x4 (n + 1 + k + cost l + 1) _ m p x3 h
    obtain ⟨z3, z4, hb⟩ : ∃ z3 z4 : EV.Sl, n_line_tokens_2b (EV.Fn gG gP (d + 1)) [.fr (.str t), .ow (.lst (tkW acc)), .fr (.int (p + m : Nat)), y3, x4] S = .ok (.nx [.fr (.str t), .ow (.lst (tkW (acc ++ [w]))), .fr (.int (p + m + w.length : Nat)), z3, z4]) S := by
      rcases htok with hw | ⟨c, hw, hc⟩
      · exact lt_word d hl h2 hw (lay_stops k hw (fun q hq => ht q (List.mem_cons_of_mem _ hq)) hap) (by omega) y3 x4
      · subst hw
        exact lt_sign (EV.Fn gG gP (d + 1)) hl h2 hc (by omega) y3 x4
    have h3 : (tl t).drop (p + m + w.length) = lay l ++ List.replicate k 32 := by
      rw [← List.drop_drop, h2, len_tl, List.drop_left']
      rfl
    obtain ⟨y2', y3', y4', e2⟩ := tok_loop d hl n k l (p + m + w.length) (acc ++ [w]) z3 z4 h3 (fun q hq => ht q (List.mem_cons_of_mem _ hq)) hap.tail (by simp; omega)
    refine ⟨y2', y3', y4', ?_⟩
    have hc : ∃ c r, (tl t).drop (p + m) = c :: r := by
      obtain ⟨c, r, hcr⟩ := List.exists_cons_of_ne_nil htok.ne
      exact ⟨c, _, by rw [h2, hcr, List.cons_append]⟩
    obtain ⟨c, r, hcr⟩ := hc
    rw [show n + 1 + k + cost ((m, w) :: l) = n + 1 + k + cost l + 1 + m by unfold cost; rw [List.map_cons, List.sum_cons]; omega, e, whl_go (ltC_in hl hcr _ _ _) (.inl hb), e2, List.append_assoc]
    rfl
theorem cost_le : ∀ {l : List (Nat × Str)}, (∀ q ∈ l, TokOk q.2) → cost l ≤ (lay l).length ∧ l.length ≤ (lay l).length
  | [], _ => ⟨Nat.le_refl _, Nat.le_refl _⟩
  | (m, w) :: l, h => by
    have ih := cost_le (l := l) fun q hq => h q (List.mem_cons_of_mem _ hq)
    have h1 : 1 ≤ (tl w).length := List.length_pos_iff.mpr (h _ (List.mem_cons_self ..)).ne
    rw [lay_cons]
    unfold cost at ih ⊢
    simp only [List.map_cons, List.sum_cons, List.length_append, List.length_replicate, List.length_cons]
    omega
theorem line_tokens_ex (d : Nat) (hl : t.length ≤ 1000000) {l : List (Nat × Str)} {k : Nat} (h : tl t = lay l ++ List.replicate k 32) (ht : ∀ q ∈ l, TokOk q.2) (ha : Apart (l.map (·.2))) : EV.Fn gG gP (d + 2) "line_tokens" [.str t] S = .ok (.lst (tkW (l.map (·.2)))) S := by
  have hlen : (lay l).length + k = t.length := by rw [len_tl, h]; simp
  obtain ⟨hc1, hc2⟩ := cost_le ht
  obtain ⟨n, hn⟩ : ∃ n, EV.whMax = n + 1 + k + cost l := ⟨EV.whMax - (1 + k + cost l), by rw [EV.whMax_eq]; omega⟩
  obtain ⟨y2, y3, y4, e⟩ := tok_loop (S := S) d (by omega) n k l 0 [] .emp .emp h ht ha (by simp; omega)
  rw [fe_line_tokens, if_pos (by rfl), ms_line_tokens, EV.r_run]
  show (EV.sSeq _ _ [.fr (.str t), .emp, .emp, .emp, .emp] S).bind EV.runF = _
  have a0 : n_line_tokens_0 (EV.Fn gG gP (d + 1)) [.fr (.str t), .emp, .emp, .emp, .emp] S = .ok (.nx [.fr (.str t), .ow (.lst (tkW [])), .emp, .emp, .emp]) S := rfl
  have a1 : n_line_tokens_1 (EV.Fn gG gP (d + 1)) [.fr (.str t), .ow (.lst (tkW [])), .emp, .emp, .emp] S = .ok (.nx [.fr (.str t), .ow (.lst (tkW [])), .fr (.int (0 : Nat)), .emp, .emp]) S := rfl
  have a2 : n_line_tokens_2 (EV.Fn gG gP (d + 1)) [.fr (.str t), .ow (.lst (tkW [])), .fr (.int (0 : Nat)), .emp, .emp] S = .ok (.nx [.fr (.str t), .ow (.lst (tkW (l.map (·.2)))), y2, y3, y4]) S := by
    unfold n_line_tokens_2 EV.sWh
    rw [hn]
    rw [List.nil_append] at e
    exact e
  rw [seq_step a0, seq_step a1, seq_step a2]
  rfl
end
open TL
def n_is_part_0t_0 (F : EV.Fenv) : EV.M EV.Fl := (EV.sRet (EV.mC (.bl false)))
def n_is_part_0t (F : EV.Fenv) : EV.M EV.Fl := (n_is_part_0t_0 F)
def n_is_part_0 (F : EV.Fenv) : EV.M EV.Fl := (EV.sIf (EV.mOr (EV.mCmpT .Eq (EV.mVarB 0) (EV.mC (.str ""))) (EV.mCmpT .NotIn (EV.mIx (EV.mVarB 0) (EV.mC (.int 0))) (EV.mC (.str "abcdefghijklmnopqrstuvwxyz")))) (n_is_part_0t F) EV.sNext)
def n_is_part_1b_0t_0 (F : EV.Fenv) : EV.M EV.Fl := (EV.sRet (EV.mC (.bl false)))
def n_is_part_1b_0t (F : EV.Fenv) : EV.M EV.Fl := (n_is_part_1b_0t_0 F)
def n_is_part_1b_0 (F : EV.Fenv) : EV.M EV.Fl := (EV.sIf (EV.mCmpT .NotIn (EV.mVarB 1) (EV.mC (.str "abcdefghijklmnopqrstuvwxyz0123456789"))) (n_is_part_1b_0t F) EV.sNext)
def n_is_part_1b (F : EV.Fenv) : EV.M EV.Fl := (n_is_part_1b_0 F)
def n_is_part_1 (F : EV.Fenv) : EV.M EV.Fl := (EV.sFrz [0] (EV.sFor (EV.mIt (EV.mVar 0)) (EV.bName 1) (n_is_part_1b F)))
def n_is_part_2 (F : EV.Fenv) : EV.M EV.Fl := (EV.sRet (EV.mC (.bl true)))
theorem ms_is_part (F : EV.Fenv) : m_is_part F = (EV.sSeq (n_is_part_0 F) (EV.sSeq (n_is_part_1 F) (n_is_part_2 F))) := by kernel_rfl
def n_is_word_0 (F : EV.Fenv) : EV.M EV.Fl := (EV.sFrz [0] (EV.sRet (EV.mAndV (EV.mCall F "is_part" (EV.mCons (EV.mVar 0) EV.mNil) []) (EV.mCmp .NotIn (EV.mVarB 0) (EV.mC (.tup [.str "project", .str "steady", .str "fails", .str "input", .str "output", .str "top", .str "rest", .str "flag", .str "word", .str "first", .str "retained", .str "timer", .str "on", .str "off", .str "pulse", .str "sum", .str "counter", .str "up", .str "down", .str "chart", .str "step", .str "limit", .str "move", .str "to", .str "when", .str "end", .str "instance", .str "of", .str "block", .str "in", .str "out", .str "begin", .str "task", .str "every", .str "at", .str "rung", .str "zone", .str "advance", .str "part", .str "call", .str "skip", .str "plant", .str "budget", .str "cell", .str "sensor", .str "case", .str "chance", .str "fault", .str "stuck", .str "freeze", .str "blink", .str "never", .str "within", .str "after", .str "comes", .str "min", .str "max", .str "powered", .str "phase"]))))))
theorem ms_is_word (F : EV.Fenv) : m_is_word F = (n_is_word_0 F) := by kernel_rfl
def n_is_ref_0t_0 (F : EV.Fenv) : EV.M EV.Fl := (EV.sRet (EV.mC (.bl true)))
def n_is_ref_0t (F : EV.Fenv) : EV.M EV.Fl := (n_is_ref_0t_0 F)
def n_is_ref_0 (F : EV.Fenv) : EV.M EV.Fl := (EV.sIf (EV.mCmpT .In (EV.mVarB 0) (EV.mTup (EV.mCons (EV.mC (.str "first")) (EV.mCons (EV.mC (.str "powered")) EV.mNil)))) (n_is_ref_0t F) EV.sNext)
def n_is_ref_1 (F : EV.Fenv) : EV.M EV.Fl := (EV.sSet 1 (EV.mSm .split (EV.mVarB 0) (EV.mC (.str "."))))
def n_is_ref_2t_0 (F : EV.Fenv) : EV.M EV.Fl := (EV.sRet (EV.mC (.bl false)))
def n_is_ref_2t (F : EV.Fenv) : EV.M EV.Fl := (n_is_ref_2t_0 F)
def n_is_ref_2 (F : EV.Fenv) : EV.M EV.Fl := (EV.sIf (EV.mNotT (EV.mTru (EV.mCall F "is_word" (EV.mCons (EV.mIx (EV.mVarB 1) (EV.mC (.int 0))) EV.mNil) []))) (n_is_ref_2t F) EV.sNext)
def n_is_ref_3b_0t_0 (F : EV.Fenv) : EV.M EV.Fl := (EV.sRet (EV.mC (.bl false)))
def n_is_ref_3b_0t (F : EV.Fenv) : EV.M EV.Fl := (n_is_ref_3b_0t_0 F)
def n_is_ref_3b_0 (F : EV.Fenv) : EV.M EV.Fl := (EV.sFrz [2] (EV.sIf (EV.mNotT (EV.mTru (EV.mCall F "is_part" (EV.mCons (EV.mVar 2) EV.mNil) []))) (n_is_ref_3b_0t F) EV.sNext))
def n_is_ref_3b (F : EV.Fenv) : EV.M EV.Fl := (n_is_ref_3b_0 F)
def n_is_ref_3 (F : EV.Fenv) : EV.M EV.Fl := (EV.sFor (EV.mIt (EV.mSl (EV.mVarB 1) (some (EV.mC (.int 1))) none)) (EV.bName 2) (n_is_ref_3b F))
def n_is_ref_4 (F : EV.Fenv) : EV.M EV.Fl := (EV.sRet (EV.mC (.bl true)))
theorem ms_is_ref (F : EV.Fenv) : m_is_ref F = (EV.sSeq (n_is_ref_0 F) (EV.sSeq (n_is_ref_1 F) (EV.sSeq (n_is_ref_2 F) (EV.sSeq (n_is_ref_3 F) (n_is_ref_4 F))))) := by kernel_rfl
def n_is_number_0t_0 (F : EV.Fenv) : EV.M EV.Fl := (EV.sRet (EV.mC (.bl false)))
def n_is_number_0t (F : EV.Fenv) : EV.M EV.Fl := (n_is_number_0t_0 F)
def n_is_number_0 (F : EV.Fenv) : EV.M EV.Fl := (EV.sIf (EV.mOr (EV.mCmpT .Eq (EV.mVarB 0) (EV.mC (.str ""))) (EV.mCmpT .Gt (EV.mBlt .len (EV.mCons (EV.mVarB 0) EV.mNil)) (EV.mC (.int 6)))) (n_is_number_0t F) EV.sNext)
def n_is_number_1b_0t_0 (F : EV.Fenv) : EV.M EV.Fl := (EV.sRet (EV.mC (.bl false)))
def n_is_number_1b_0t (F : EV.Fenv) : EV.M EV.Fl := (n_is_number_1b_0t_0 F)
def n_is_number_1b_0 (F : EV.Fenv) : EV.M EV.Fl := (EV.sIf (EV.mCmpT .NotIn (EV.mVarB 1) (EV.mC (.str "0123456789"))) (n_is_number_1b_0t F) EV.sNext)
def n_is_number_1b (F : EV.Fenv) : EV.M EV.Fl := (n_is_number_1b_0 F)
def n_is_number_1 (F : EV.Fenv) : EV.M EV.Fl := (EV.sFrz [0] (EV.sFor (EV.mIt (EV.mVar 0)) (EV.bName 1) (n_is_number_1b F)))
def n_is_number_2 (F : EV.Fenv) : EV.M EV.Fl := (EV.sRet (EV.mOrV (EV.mCmp .Eq (EV.mVarB 0) (EV.mC (.str "0"))) (EV.mCmp .NotEq (EV.mIx (EV.mVarB 0) (EV.mC (.int 0))) (EV.mC (.str "0")))))
theorem ms_is_number (F : EV.Fenv) : m_is_number F = (EV.sSeq (n_is_number_0 F) (EV.sSeq (n_is_number_1 F) (n_is_number_2 F))) := by kernel_rfl
/-! ### words, refs, numbers -/
def resL : List Str := [("project" : Str), ("steady" : Str), ("fails" : Str), ("input" : Str), ("output" : Str), ("top" : Str), ("rest" : Str), ("flag" : Str), ("word" : Str), ("first" : Str), ("retained" : Str), ("timer" : Str), ("on" : Str), ("off" : Str), ("pulse" : Str), ("sum" : Str), ("counter" : Str), ("up" : Str), ("down" : Str), ("chart" : Str), ("step" : Str), ("limit" : Str), ("move" : Str), ("to" : Str), ("when" : Str), ("end" : Str), ("instance" : Str), ("of" : Str), ("block" : Str), ("in" : Str), ("out" : Str), ("begin" : Str), ("task" : Str), ("every" : Str), ("at" : Str), ("rung" : Str), ("zone" : Str), ("advance" : Str), ("part" : Str), ("call" : Str), ("skip" : Str), ("plant" : Str), ("budget" : Str), ("cell" : Str), ("sensor" : Str), ("case" : Str), ("chance" : Str), ("fault" : Str), ("stuck" : Str), ("freeze" : Str), ("blink" : Str), ("never" : Str), ("within" : Str), ("after" : Str), ("comes" : Str), ("min" : Str), ("max" : Str), ("powered" : Str), ("phase" : Str)]
def Part (t : Str) : Prop := (∃ c r, tl t = c :: r ∧ letC c = true) ∧ ∀ x ∈ tl t, (letC x || digC x) = true
structure Name (t : Str) : Prop where
  part : Part t
  free : t ∉ resL
/-- a ref's text -/
def Ref (t : Str) : Prop := t = "first" ∨ t = "powered" ∨ ∃ (n : Str) (ps : List Str), t = Str.join "." (n :: ps) ∧ Name n ∧ ∀ p ∈ ps, Part p
section
variable {S : EV.Sto} {t : Str}
theorem Part.ne {t : Str} (h : Part t) : ¬ t = ("" : Str) := fun e => by
  obtain ⟨⟨c, r, h1, _⟩, _⟩ := h
  rw [e] at h1
  exact absurd h1 (by rw [show tl ("" : Str) = [] by decide +kernel]; simp)
theorem chars_it {σ : EV.Sls} {a : EV.M EV.W} (h : a σ S = .ok (.str t) S) : EV.mIt a σ S = .ok ((tl t).map fun c => .str (sgn c)) S := by
  rw [EV.r_it, h, EV.r_ok]
  show EV.itF (.str t) S = _
  unfold EV.itF sgn
  rfl
theorem part_loop (F : EV.Fenv) (x0 : EV.Sl) : ∀ (l : List Nat) (x1 : EV.Sl), (∀ x ∈ l, (letC x || digC x) = true) → ∃ y1 : EV.Sl, EV.forL (EV.bName 1) (n_is_part_1b F) (l.map fun c => .str (sgn c)) [x0, x1] S = .ok (.nx [x0, y1]) S
  | [], x1, _ => ⟨x1, rfl⟩
  | c :: l, x1, h => by
    obtain ⟨y1, e⟩ := part_loop F x0 l (.fr (.str (sgn c))) fun x hx => h x (List.mem_cons_of_mem _ hx)
    refine ⟨y1, ?_⟩
    rw [List.map_cons, EV.r_forC, EV.r_bname, EV.r_ok, EV.r_forG]
    have et : EV.mCmpT .NotIn (EV.mVarB 1) (EV.mC (.str "abcdefghijklmnopqrstuvwxyz0123456789")) [x0, .fr (.str (sgn c))] S = .ok false S := by
      rw [nin_sgn (c := c) rfl, mem_name, h c (List.mem_cons_self ..)]
      rfl
    have hb : n_is_part_1b F [x0, .fr (.str (sgn c))] S = .ok (.nx [x0, .fr (.str (sgn c))]) S := by
      unfold n_is_part_1b n_is_part_1b_0
      rw [EV.r_if, et, EV.r_ok, EV.r_sifN]
      rfl
    refine (congrArg (fun r => EV.Res.bind r _) hb).trans ?_
    rw [EV.r_ok, EV.r_forHn]
    exact e
theorem is_part_ex (d : Nat) (hl : t.length ≤ 10000000) (h : Part t) : EV.Fn gG gP (d + 1) "is_part" [.str t] S = .ok (.bl true) S := by
  have hne := h.ne
  obtain ⟨⟨c, r, h1, h2⟩, h3⟩ := h
  obtain ⟨y1, e1⟩ := part_loop (S := S) (EV.Fn gG gP d) (.fr (.str t)) (tl t) .emp h3
  rw [fe_is_part, if_pos (by rfl), ms_is_part, EV.r_run]
  show (EV.sSeq _ _ [.fr (.str t), .emp] S).bind EV.runF = _
  have ei : EV.mIx (EV.mVarB 0) (EV.mC (.int 0)) [.fr (.str t), .emp] S = .ok (.str (sgn c)) S := ix_s (k := 0) rfl rfl (lenB hl) (by rw [h1]; rfl)
  have et := nin_sgn (z := "abcdefghijklmnopqrstuvwxyz") ei
  rw [mem_let, h2] at et
  have ee : EV.mCmpT .Eq (EV.mVarB 0) (EV.mC (.str "")) [.fr (.str t), .emp] S = .ok false S := by
    simp -implicitDefEqProofs [EV.LIM, EV.str_lit, evr, EV.r_for, EV.r_rng1, EV.wbin, EV.wun, EV.wcmp, EV.vw, EV.vwz, EV.wix, EV.wblt, EV.wtru, EV.wisi, EV.frz, EV.mkOwn, L2.atI, L2.ixN, List.map, List.length_cons, List.length_nil, List.replicate, List.getElem?_cons_zero, List.getElem?_cons_succ, List.set_cons_zero, List.set_cons_succ, List.append_nil, List.cons_append, List.nil_append, hne]
  have a0 : n_is_part_0 (EV.Fn gG gP d) [.fr (.str t), .emp] S = .ok (.nx [.fr (.str t), .emp]) S := by
    unfold n_is_part_0
    rw [EV.r_if, EV.r_or, ee, EV.r_ok, EV.r_orN, et]
    rfl
  have a1 : n_is_part_1 (EV.Fn gG gP d) [.fr (.str t), .emp] S = .ok (.nx [.fr (.str t), y1]) S := by
    unfold n_is_part_1
    rw [EV.r_frz, show EV.frz [.fr (.str t), .emp] [0] = [.fr (.str t), .emp] from rfl, EV.r_for, chars_it (t := t) rfl, EV.r_ok, EV.r_forF]
    exact e1
  rw [seq_step a0, seq_step a1]
  rfl
theorem is_word_ex (d : Nat) (hl : t.length ≤ 10000000) (h : Name t) : EV.Fn gG gP (d + 2) "is_word" [.str t] S = .ok (.bl true) S := by
  have e1 := is_part_ex (S := S) d hl h.part
  have hm : EV.wmem (.str t) (.tup [.str "project", .str "steady", .str "fails", .str "input", .str "output", .str "top", .str "rest", .str "flag", .str "word", .str "first", .str "retained", .str "timer", .str "on", .str "off", .str "pulse", .str "sum", .str "counter", .str "up", .str "down", .str "chart", .str "step", .str "limit", .str "move", .str "to", .str "when", .str "end", .str "instance", .str "of", .str "block", .str "in", .str "out", .str "begin", .str "task", .str "every", .str "at", .str "rung", .str "zone", .str "advance", .str "part", .str "call", .str "skip", .str "plant", .str "budget", .str "cell", .str "sensor", .str "case", .str "chance", .str "fault", .str "stuck", .str "freeze", .str "blink", .str "never", .str "within", .str "after", .str "comes", .str "min", .str "max", .str "powered", .str "phase"]) = some false := by
    have : ([.str "project", .str "steady", .str "fails", .str "input", .str "output", .str "top", .str "rest", .str "flag", .str "word", .str "first", .str "retained", .str "timer", .str "on", .str "off", .str "pulse", .str "sum", .str "counter", .str "up", .str "down", .str "chart", .str "step", .str "limit", .str "move", .str "to", .str "when", .str "end", .str "instance", .str "of", .str "block", .str "in", .str "out", .str "begin", .str "task", .str "every", .str "at", .str "rung", .str "zone", .str "advance", .str "part", .str "call", .str "skip", .str "plant", .str "budget", .str "cell", .str "sensor", .str "case", .str "chance", .str "fault", .str "stuck", .str "freeze", .str "blink", .str "never", .str "within", .str "after", .str "comes", .str "min", .str "max", .str "powered", .str "phase"] : List EV.W) = resL.map .str := rfl
    rw [this]
    unfold EV.wmem
    simp only
    rw [if_pos ⟨rfl, by rw [List.all_map, List.all_eq_true]; exact fun _ _ => rfl⟩, List.any_map]
    congr 1
    rw [List.any_eq_false]
    intro x hx z
    have z : (x == t) = true := z
    rw [beq_iff_eq] at z
    subst z
    exact h.free hx
  rw [fe_is_word, if_pos (by rfl), ms_is_word, EV.r_run]
  show (n_is_word_0 _ [.fr (.str t)] S).bind EV.runF = _
  unfold n_is_word_0
  generalize ([.str "project", .str "steady", .str "fails", .str "input", .str "output", .str "top", .str "rest", .str "flag", .str "word", .str "first", .str "retained", .str "timer", .str "on", .str "off", .str "pulse", .str "sum", .str "counter", .str "up", .str "down", .str "chart", .str "step", .str "limit", .str "move", .str "to", .str "when", .str "end", .str "instance", .str "of", .str "block", .str "in", .str "out", .str "begin", .str "task", .str "every", .str "at", .str "rung", .str "zone", .str "advance", .str "part", .str "call", .str "skip", .str "plant", .str "budget", .str "cell", .str "sensor", .str "case", .str "chance", .str "fault", .str "stuck", .str "freeze", .str "blink", .str "never", .str "within", .str "after", .str "comes", .str "min", .str "max", .str "powered", .str "phase"] : List EV.W) = RS at *
  simp -implicitDefEqProofs [EV.LIM, EV.str_lit, evr, EV.r_for, EV.r_rng1, EV.wbin, EV.wun, EV.wcmp, EV.vw, EV.vwz, EV.wix, EV.wblt, EV.wtru, EV.wisi, EV.frz, EV.mkOwn, L2.atI, L2.ixN, List.map, List.length_cons, List.length_nil, List.replicate, List.getElem?_cons_zero, List.getElem?_cons_succ, List.set_cons_zero, List.set_cons_succ, List.append_nil, List.cons_append, List.nil_append, e1, hm]
theorem ix_l' {a b : EV.M EV.W} {σ : EV.Sls} {xs : List EV.W} {i : Nat} {w : EV.W} (ha : a σ S = .ok (.lst xs) S) (hb : b σ S = .ok (.int i) S) (h : xs[i]? = some w) : EV.mIx a b σ S = .ok w S := by
  have hi := (List.getElem?_eq_some_iff.mp h).1
  rw [EV.r_ix, ha, EV.r_ok, EV.r_ixF, hb, EV.r_ok, EV.r_ixG]
  show EV.olift (L2.atI xs (i : Int)) S = _
  unfold L2.atI L2.ixN
  rw [if_pos (by omega), if_pos (by omega), Int.toNat_natCast]
  show EV.olift (xs[i]?) S = _
  rw [h]
  rfl
theorem parts_loop (d : Nat) (x0 x1 : EV.Sl) : ∀ (l : List Str) (x2 : EV.Sl), (∀ p ∈ l, Part p ∧ p.length ≤ 10000000) → ∃ y2 : EV.Sl, EV.forL (EV.bName 2) (n_is_ref_3b (EV.Fn gG gP (d + 1))) (l.map .str) [x0, x1, x2] S = .ok (.nx [x0, x1, y2]) S
  | [], x2, _ => ⟨x2, rfl⟩
  | p :: l, x2, h => by
    obtain ⟨y2, e⟩ := parts_loop d x0 x1 l (.fr (.str p)) fun x hx => h x (List.mem_cons_of_mem _ hx)
    refine ⟨y2, ?_⟩
    obtain ⟨hp, hpl⟩ := h p (List.mem_cons_self ..)
    have e1 := is_part_ex (S := S) d hpl hp
    rw [List.map_cons, EV.r_forC, EV.r_bname, EV.r_ok, EV.r_forG]
    have hb : n_is_ref_3b (EV.Fn gG gP (d + 1)) [x0, x1, .fr (.str p)] S = .ok (.nx [x0, x1, .fr (.str p)]) S := by
      simp -implicitDefEqProofs [EV.LIM, EV.str_lit, evr, EV.r_for, EV.r_rng1, EV.wbin, EV.wun, EV.wcmp, EV.vw, EV.vwz, EV.wix, EV.wblt, EV.wtru, EV.wisi, EV.frz, EV.mkOwn, L2.atI, L2.ixN, List.map, List.length_cons, List.length_nil, List.replicate, List.getElem?_cons_zero, List.getElem?_cons_succ, List.set_cons_zero, List.set_cons_succ, List.append_nil, List.cons_append, List.nil_append, n_is_ref_3b, n_is_ref_3b_0, e1]
    refine (congrArg (fun r => EV.Res.bind r _) hb).trans ?_
    rw [EV.r_ok, EV.r_forHn]
    exact e
theorem joinL_len : ∀ (s : List Nat) (ps : List (List Nat)), ∀ p ∈ ps, p.length ≤ (joinL s ps).length
  | s, [], p, h => by cases h
  | s, [q], p, h => by
    rw [List.mem_singleton] at h
    subst h
    exact Nat.le_refl _
  | s, q :: q2 :: ps, p, h => by
    show p.length ≤ (q ++ (s ++ joinL s (q2 :: ps))).length
    simp only [List.length_append]
    rcases List.mem_cons.mp h with rfl | h
    · omega
    · have := joinL_len s (q2 :: ps) p h
      omega
theorem is_ref_ex (d : Nat) (hl : t.length ≤ 1000000) (h : Ref t) : EV.Fn gG gP (d + 3) "is_ref" [.str t] S = .ok (.bl true) S := by
  rw [fe_is_ref, if_pos (by rfl), ms_is_ref, EV.r_run]
  show (EV.sSeq _ _ [.fr (.str t), .emp, .emp] S).bind EV.runF = _
  by_cases q : t = "first" ∨ t = "powered"
  · have hm : EV.wmem (.str t) (.tup [.str "first", .str "powered"]) = some true := by
      unfold EV.wmem
      rcases q with rfl | rfl <;> rfl
    simp -implicitDefEqProofs [EV.LIM, EV.str_lit, evr, EV.r_for, EV.r_rng1, EV.wbin, EV.wun, EV.wcmp, EV.vw, EV.vwz, EV.wix, EV.wblt, EV.wtru, EV.wisi, EV.frz, EV.mkOwn, L2.atI, L2.ixN, List.map, List.length_cons, List.length_nil, List.replicate, List.getElem?_cons_zero, List.getElem?_cons_succ, List.set_cons_zero, List.set_cons_succ, List.append_nil, List.cons_append, List.nil_append, n_is_ref_0, n_is_ref_0t, n_is_ref_0t_0, hm]
  · obtain ⟨n, ps, ht, hn, hps⟩ : ∃ (n : Str) (ps : List Str), t = Str.join "." (n :: ps) ∧ Name n ∧ ∀ p ∈ ps, Part p := by
      rcases h with h | h | h
      · exact absurd (.inl h) q
      · exact absurd (.inr h) q
      · exact h
    have hm : EV.wmem (.str t) (.tup [.str "first", .str "powered"]) = some false := by
      unfold EV.wmem
      simp only [EV.wflat, List.all_cons, List.all_nil, Bool.and_self, and_self, if_true, List.any_cons, List.any_nil, EV.wfeq]
      have h1 : (("first" : Str) == t) = false := by rw [beq_eq_false_iff_ne]; exact fun z => q (.inl z.symm)
      have h2 : (("powered" : Str) == t) = false := by rw [beq_eq_false_iff_ne]; exact fun z => q (.inr z.symm)
      rw [h1, h2]
      rfl
    have hall : ∀ p ∈ n :: ps, Part p := fun p hp => by
      rcases List.mem_cons.mp hp with rfl | hp
      · exact hn.part
      · exact hps p hp
    have hlen : ∀ p ∈ n :: ps, p.length ≤ 10000000 := fun p hp => by
      have := joinL_len (tl ".") ((n :: ps).map tl) (tl p) (List.mem_map.mpr ⟨p, hp, rfl⟩)
      rw [← tl_join, ← ht, ← len_tl, ← len_tl] at this
      omega
    have hsp : Txt.split t "." = n :: ps := by
      rw [ht]
      have := split_join (y := ".") (s := 46) (S := []) (by decide +kernel) (by decide +kernel) (parts := n :: ps) (by simp) fun p hp hm => by
        have := (hall p hp).2 46 hm
        exact absurd this (by decide)
      rwa [join_eq] at this
    have hdl : (("." : Str).length == 0) = false := by decide +kernel
    have a0 : n_is_ref_0 (EV.Fn gG gP (d + 2)) [.fr (.str t), .emp, .emp] S = .ok (.nx [.fr (.str t), .emp, .emp]) S := by
      simp -implicitDefEqProofs [EV.LIM, EV.str_lit, evr, EV.r_for, EV.r_rng1, EV.wbin, EV.wun, EV.wcmp, EV.vw, EV.vwz, EV.wix, EV.wblt, EV.wtru, EV.wisi, EV.frz, EV.mkOwn, L2.atI, L2.ixN, List.map, List.length_cons, List.length_nil, List.replicate, List.getElem?_cons_zero, List.getElem?_cons_succ, List.set_cons_zero, List.set_cons_succ, List.append_nil, List.cons_append, List.nil_append, n_is_ref_0, hm]
    have a1 : n_is_ref_1 (EV.Fn gG gP (d + 2)) [.fr (.str t), .emp, .emp] S = .ok (.nx [.fr (.str t), .fr (.lst ((n :: ps).map .str)), .emp]) S := by
      have es : EV.mSm .split (EV.mVarB 0) (EV.mC (.str ".")) [.fr (.str t), .emp, .emp] S = .ok (.lst ((n :: ps).map .str)) S := by
        show EV.olift (EV.wSm .split (.str t) (.str ".")) S = _
        simp only [EV.wSm]
        rw [if_pos ⟨hdl, by have := line_ge; omega⟩, hsp]
        rfl
      unfold n_is_ref_1
      rw [EV.r_set, es]
      rfl
    have e1 := is_word_ex (S := S) d (hlen n (List.mem_cons_self ..)) hn
    have a2 : n_is_ref_2 (EV.Fn gG gP (d + 2)) [.fr (.str t), .fr (.lst ((n :: ps).map .str)), .emp] S = .ok (.nx [.fr (.str t), .fr (.lst ((n :: ps).map .str)), .emp]) S := by
      have ei : EV.mIx (EV.mVarB 1) (EV.mC (.int 0)) [.fr (.str t), .fr (.lst ((n :: ps).map .str)), .emp] S = .ok (.str n) S := ix_l' rfl rfl rfl
      unfold n_is_ref_2
      generalize EV.mIx (EV.mVarB 1) (EV.mC (.int 0)) = A at *
      generalize (n :: ps).map EV.W.str = PW at *
      simp -implicitDefEqProofs [EV.LIM, EV.str_lit, evr, EV.r_for, EV.r_rng1, EV.wbin, EV.wun, EV.wcmp, EV.vw, EV.vwz, EV.wix, EV.wblt, EV.wtru, EV.wisi, EV.frz, EV.mkOwn, L2.atI, L2.ixN, List.map, List.length_cons, List.length_nil, List.replicate, List.getElem?_cons_zero, List.getElem?_cons_succ, List.set_cons_zero, List.set_cons_succ, List.append_nil, List.cons_append, List.nil_append, ei, e1]
    obtain ⟨y2, e2⟩ := parts_loop (S := S) (d + 1) (.fr (.str t)) (.fr (.lst ((n :: ps).map .str))) ps .emp fun p hp => ⟨hps p hp, hlen p (List.mem_cons_of_mem _ hp)⟩
    have a3 : n_is_ref_3 (EV.Fn gG gP (d + 2)) [.fr (.str t), .fr (.lst ((n :: ps).map .str)), .emp] S = .ok (.nx [.fr (.str t), .fr (.lst ((n :: ps).map .str)), y2]) S := by
      have es : EV.mSl (EV.mVarB 1) (some (EV.mC (.int 1))) none [.fr (.str t), .fr (.lst ((n :: ps).map .str)), .emp] S = .ok (.lst (ps.map .str)) S := by
        show EV.Res.ok (EV.W.lst (EV.wcut ((n :: ps).map .str) (some 1) none)) S = _
        congr 2
        unfold EV.wcut
        rw [show (some (1 : Int)) = some ((1 : Nat) : Int) from rfl, HT.sIx_nat, HT.sIx_none]
        have h1 : min 1 ((n :: ps).map EV.W.str).length = 1 := by simp
        rw [h1]
        simp [List.take_of_length_le]
      unfold n_is_ref_3
      rw [EV.r_for, EV.r_it, es, EV.r_ok, EV.r_itL, EV.r_ok, EV.r_forF]
      exact e2
    rw [seq_step a0, seq_step a1, seq_step a2, seq_step a3]
    rfl
end

open TL
def n_Cursoru_initu_0 (F : EV.Fenv) : EV.M EV.Fl := (EV.sFrz [1] (EV.sFldM (EV.mVarB 0) (EV.mVar 1) "tokens" fun c => gG.fld.contains (c, ("tokens" : Str))))
def n_Cursoru_initu_1 (F : EV.Fenv) : EV.M EV.Fl := (EV.sFrz [2] (EV.sFldM (EV.mVarB 0) (EV.mVar 2) "line" fun c => gG.fld.contains (c, ("line" : Str))))
def n_Cursoru_initu_2 (F : EV.Fenv) : EV.M EV.Fl := (EV.sFldM (EV.mVarB 0) (EV.mC (.int 0)) "at" fun c => gG.fld.contains (c, ("at" : Str)))
def n_Cursoru_initu_3 (F : EV.Fenv) : EV.M EV.Fl := (EV.sFldM (EV.mVarB 0) (EV.mC (.int 0)) "brackets" fun c => gG.fld.contains (c, ("brackets" : Str)))
theorem ms_Cursoru_initu (F : EV.Fenv) : m_Cursoru_initu F = (EV.sSeq (n_Cursoru_initu_0 F) (EV.sSeq (n_Cursoru_initu_1 F) (EV.sSeq (n_Cursoru_initu_2 F) (n_Cursoru_initu_3 F)))) := by kernel_rfl
def n_Cursor_peek_0t_0 (F : EV.Fenv) : EV.M EV.Fl := (EV.sRet (EV.mIx (EV.mFld (EV.mVarB 0) "tokens" fun c => gG.fld.contains (c, ("tokens" : Str))) (EV.mFld (EV.mVarB 0) "at" fun c => gG.fld.contains (c, ("at" : Str)))))
def n_Cursor_peek_0t (F : EV.Fenv) : EV.M EV.Fl := (n_Cursor_peek_0t_0 F)
def n_Cursor_peek_0 (F : EV.Fenv) : EV.M EV.Fl := (EV.sIf (EV.mCmpT .Lt (EV.mFld (EV.mVarB 0) "at" fun c => gG.fld.contains (c, ("at" : Str))) (EV.mBlt .len (EV.mCons (EV.mFld (EV.mVarB 0) "tokens" fun c => gG.fld.contains (c, ("tokens" : Str))) EV.mNil))) (n_Cursor_peek_0t F) EV.sNext)
def n_Cursor_peek_1 (F : EV.Fenv) : EV.M EV.Fl := (EV.sRet (EV.mC (.str "")))
theorem ms_Cursor_peek (F : EV.Fenv) : m_Cursor_peek F = (EV.sSeq (n_Cursor_peek_0 F) (n_Cursor_peek_1 F)) := by kernel_rfl
def n_Cursor_take_0 (F : EV.Fenv) : EV.M EV.Fl := (EV.sSet 1 (EV.mMeth F (fun c => gG.mts.lookup (c, ("peek" : Str))) .other "peek" (EV.mVarB 0) EV.mNil))
def n_Cursor_take_1 (F : EV.Fenv) : EV.M EV.Fl := (EV.sFldM (EV.mVarB 0) (EV.mBin .Add (EV.mFld (EV.mVarB 0) "at" fun c => gG.fld.contains (c, ("at" : Str))) (EV.mC (.int 1))) "at" fun c => gG.fld.contains (c, ("at" : Str)))
def n_Cursor_take_2 (F : EV.Fenv) : EV.M EV.Fl := (EV.sFrz [1] (EV.sRet (EV.mVar 1)))
theorem ms_Cursor_take (F : EV.Fenv) : m_Cursor_take F = (EV.sSeq (n_Cursor_take_0 F) (EV.sSeq (n_Cursor_take_1 F) (n_Cursor_take_2 F))) := by kernel_rfl
def n_Cursor_accept_0t_0 (F : EV.Fenv) : EV.M EV.Fl := (EV.sRet (EV.mC (.bl false)))
def n_Cursor_accept_0t (F : EV.Fenv) : EV.M EV.Fl := (n_Cursor_accept_0t_0 F)
def n_Cursor_accept_0 (F : EV.Fenv) : EV.M EV.Fl := (EV.sIf (EV.mCmpT .NotEq (EV.mMeth F (fun c => gG.mts.lookup (c, ("peek" : Str))) .other "peek" (EV.mVarB 0) EV.mNil) (EV.mVarB 1)) (n_Cursor_accept_0t F) EV.sNext)
def n_Cursor_accept_1 (F : EV.Fenv) : EV.M EV.Fl := (EV.sFldM (EV.mVarB 0) (EV.mBin .Add (EV.mFld (EV.mVarB 0) "at" fun c => gG.fld.contains (c, ("at" : Str))) (EV.mC (.int 1))) "at" fun c => gG.fld.contains (c, ("at" : Str)))
def n_Cursor_accept_2 (F : EV.Fenv) : EV.M EV.Fl := (EV.sRet (EV.mC (.bl true)))
theorem ms_Cursor_accept (F : EV.Fenv) : m_Cursor_accept F = (EV.sSeq (n_Cursor_accept_0 F) (EV.sSeq (n_Cursor_accept_1 F) (n_Cursor_accept_2 F))) := by kernel_rfl
def n_Cursor_expect_0t_0 (F : EV.Fenv) : EV.M EV.Fl := EV.mBad
def n_Cursor_expect_0t (F : EV.Fenv) : EV.M EV.Fl := (n_Cursor_expect_0t_0 F)
def n_Cursor_expect_0 (F : EV.Fenv) : EV.M EV.Fl := (EV.sFrz [1] (EV.sIf (EV.mNotT (EV.mTru (EV.mMeth F (fun c => gG.mts.lookup (c, ("accept" : Str))) .other "accept" (EV.mVarB 0) (EV.mCons (EV.mVar 1) EV.mNil)))) (n_Cursor_expect_0t F) EV.sNext))
theorem ms_Cursor_expect (F : EV.Fenv) : m_Cursor_expect F = (n_Cursor_expect_0 F) := by kernel_rfl
def n_Cursor_finish_0t_0 (F : EV.Fenv) : EV.M EV.Fl := EV.mBad
def n_Cursor_finish_0t (F : EV.Fenv) : EV.M EV.Fl := (n_Cursor_finish_0t_0 F)
def n_Cursor_finish_0 (F : EV.Fenv) : EV.M EV.Fl := (EV.sIf (EV.mCmpT .NotEq (EV.mMeth F (fun c => gG.mts.lookup (c, ("peek" : Str))) .other "peek" (EV.mVarB 0) EV.mNil) (EV.mC (.str ""))) (n_Cursor_finish_0t F) EV.sNext)
theorem ms_Cursor_finish (F : EV.Fenv) : m_Cursor_finish F = (n_Cursor_finish_0 F) := by kernel_rfl
def n_Cursor_open_bracket_0 (F : EV.Fenv) : EV.M EV.Fl := (EV.sMut (EV.mutE F (fun c => gG.mts.lookup (c, ("expect" : Str))) .other "expect" 0 (EV.mCons (EV.mC (.str "(")) EV.mNil)))
def n_Cursor_open_bracket_1 (F : EV.Fenv) : EV.M EV.Fl := (EV.sFldM (EV.mVarB 0) (EV.mBin .Add (EV.mFld (EV.mVarB 0) "brackets" fun c => gG.fld.contains (c, ("brackets" : Str))) (EV.mC (.int 1))) "brackets" fun c => gG.fld.contains (c, ("brackets" : Str)))
def n_Cursor_open_bracket_2t_0 (F : EV.Fenv) : EV.M EV.Fl := EV.mBad
def n_Cursor_open_bracket_2t (F : EV.Fenv) : EV.M EV.Fl := (n_Cursor_open_bracket_2t_0 F)
def n_Cursor_open_bracket_2 (F : EV.Fenv) : EV.M EV.Fl := (EV.sIf (EV.mCmpT .Gt (EV.mFld (EV.mVarB 0) "brackets" fun c => gG.fld.contains (c, ("brackets" : Str))) (EV.mC (.int 12))) (n_Cursor_open_bracket_2t F) EV.sNext)
theorem ms_Cursor_open_bracket (F : EV.Fenv) : m_Cursor_open_bracket F = (EV.sSeq (n_Cursor_open_bracket_0 F) (EV.sSeq (n_Cursor_open_bracket_1 F) (n_Cursor_open_bracket_2 F))) := by kernel_rfl
def n_Cursor_close_bracket_0 (F : EV.Fenv) : EV.M EV.Fl := (EV.sMut (EV.mutE F (fun c => gG.mts.lookup (c, ("expect" : Str))) .other "expect" 0 (EV.mCons (EV.mC (.str ")")) EV.mNil)))
def n_Cursor_close_bracket_1 (F : EV.Fenv) : EV.M EV.Fl := (EV.sFldM (EV.mVarB 0) (EV.mBin .Sub (EV.mFld (EV.mVarB 0) "brackets" fun c => gG.fld.contains (c, ("brackets" : Str))) (EV.mC (.int 1))) "brackets" fun c => gG.fld.contains (c, ("brackets" : Str)))
theorem ms_Cursor_close_bracket (F : EV.Fenv) : m_Cursor_close_bracket F = (EV.sSeq (n_Cursor_close_bracket_0 F) (n_Cursor_close_bracket_1 F)) := by kernel_rfl
/-! ### numbers -/
section
variable {S : EV.Sto} {t : Str}
theorem num_loop (F : EV.Fenv) (x0 : EV.Sl) : ∀ (l : List Nat) (x1 : EV.Sl), (∀ x ∈ l, digC x = true) → ∃ y1 : EV.Sl, EV.forL (EV.bName 1) (n_is_number_1b F) (l.map fun c => .str (sgn c)) [x0, x1] S = .ok (.nx [x0, y1]) S
  | [], x1, _ => ⟨x1, rfl⟩
  | c :: l, x1, h => by
    obtain ⟨y1, e⟩ := num_loop F x0 l (.fr (.str (sgn c))) fun x hx => h x (List.mem_cons_of_mem _ hx)
    refine ⟨y1, ?_⟩
    rw [List.map_cons, EV.r_forC, EV.r_bname, EV.r_ok, EV.r_forG]
    have et : EV.mCmpT .NotIn (EV.mVarB 1) (EV.mC (.str "0123456789")) [x0, .fr (.str (sgn c))] S = .ok false S := by
      rw [nin_sgn (c := c) rfl, mem_dig, h c (List.mem_cons_self ..)]
      rfl
    have hb : n_is_number_1b F [x0, .fr (.str (sgn c))] S = .ok (.nx [x0, .fr (.str (sgn c))]) S := by
      unfold n_is_number_1b n_is_number_1b_0
      rw [EV.r_if, et, EV.r_ok, EV.r_sifN]
      rfl
    refine (congrArg (fun r => EV.Res.bind r _) hb).trans ?_
    rw [EV.r_ok, EV.r_forHn]
    exact e
theorem num_head (hl : t.length ≤ 10000000) (hne : ¬ t = ("" : Str)) (x1 : EV.Sl) : EV.mOr (EV.mCmpT .Eq (EV.mVarB 0) (EV.mC (.str ""))) (EV.mCmpT .Gt (EV.mBlt .len (EV.mCons (EV.mVarB 0) EV.mNil)) (EV.mC (.int 6))) [.fr (.str t), x1] S = .ok (decide (6 < t.length)) S := by
  have e1 : EV.mBlt .len (EV.mCons (EV.mVarB 0) EV.mNil) [.fr (.str t), x1] S = .ok (.int t.length) S := len_s rfl hl
  generalize EV.mBlt .len (EV.mCons (EV.mVarB 0) EV.mNil) = A at *
  by_cases q : 6 < t.length
  · have : (6 : Int) < (t.length : Int) := by omega
    simp -implicitDefEqProofs [EV.LIM, EV.str_lit, evr, EV.r_for, EV.r_rng1, EV.wbin, EV.wun, EV.wcmp, EV.vw, EV.vwz, EV.wix, EV.wblt, EV.wtru, EV.wisi, EV.frz, EV.mkOwn, L2.atI, L2.ixN, List.map, List.length_cons, List.length_nil, List.replicate, List.getElem?_cons_zero, List.getElem?_cons_succ, List.set_cons_zero, List.set_cons_succ, List.append_nil, List.cons_append, List.nil_append, e1, this, q, hne]
  · have : ¬ (6 : Int) < (t.length : Int) := by omega
    simp -implicitDefEqProofs [EV.LIM, EV.str_lit, evr, EV.r_for, EV.r_rng1, EV.wbin, EV.wun, EV.wcmp, EV.vw, EV.vwz, EV.wix, EV.wblt, EV.wtru, EV.wisi, EV.frz, EV.mkOwn, L2.atI, L2.ixN, List.map, List.length_cons, List.length_nil, List.replicate, List.getElem?_cons_zero, List.getElem?_cons_succ, List.set_cons_zero, List.set_cons_succ, List.append_nil, List.cons_append, List.nil_append, e1, this, q, hne]
/-- no number begins with a letter -/
theorem isnum_no (d : Nat) (hl : t.length ≤ 10000000) {c : Nat} {r : List Nat} (h : tl t = c :: r) (hc : digC c = false) : EV.Fn gG gP (d + 1) "is_number" [.str t] S = .ok (.bl false) S := by
  have hne : ¬ t = ("" : Str) := fun e => by
    rw [e, show tl ("" : Str) = [] by decide +kernel] at h
    cases h
  rw [fe_is_number, if_pos (by rfl), ms_is_number, EV.r_run]
  show (EV.sSeq _ _ [.fr (.str t), .emp] S).bind EV.runF = _
  have eh := num_head (S := S) hl hne .emp
  by_cases q : 6 < t.length
  · rw [EV.r_seq]
    unfold n_is_number_0
    rw [EV.r_if, eh, decide_eq_true q, EV.r_ok, EV.r_sifT]
    rfl
  · have a0 : n_is_number_0 (EV.Fn gG gP d) [.fr (.str t), .emp] S = .ok (.nx [.fr (.str t), .emp]) S := by
      unfold n_is_number_0
      rw [EV.r_if, eh, decide_eq_false q, EV.r_ok, EV.r_sifN]
      rfl
    have a1 : n_is_number_1 (EV.Fn gG gP d) [.fr (.str t), .emp] S = .ok (.rt (.bl false)) S := by
      unfold n_is_number_1
      rw [EV.r_frz, show EV.frz [.fr (.str t), .emp] [0] = [.fr (.str t), .emp] from rfl, EV.r_for, chars_it (t := t) rfl, EV.r_ok, EV.r_forF, h, List.map_cons, EV.r_forC, EV.r_bname, EV.r_ok, EV.r_forG]
      have et : EV.mCmpT .NotIn (EV.mVarB 1) (EV.mC (.str "0123456789")) [.fr (.str t), .fr (.str (sgn c))] S = .ok true S := by
        rw [nin_sgn (c := c) rfl, mem_dig, hc]
        rfl
      have hb : n_is_number_1b (EV.Fn gG gP d) [.fr (.str t), .fr (.str (sgn c))] S = .ok (.rt (.bl false)) S := by
        unfold n_is_number_1b n_is_number_1b_0
        rw [EV.r_if, et, EV.r_ok, EV.r_sifT]
        rfl
      refine (congrArg (fun r => EV.Res.bind r _) hb).trans ?_
      rfl
    rw [seq_step a0, EV.r_seq, a1]
    rfl
/-- a number's text -/
def numS (n : Nat) : Str := Str.ofString (toString ((n : Nat) : Int))
theorem numS_tl (n : Nat) : tl (numS n) = numL n := tl_num n
theorem numL_head : ∀ (k n : Nat), n < 10 ^ k → n ≠ 0 → ∃ c r, numL n = c :: r ∧ c ≠ 48
  | 0, n, h, h0 => by omega
  | k + 1, n, h, h0 => by
    by_cases q : n < 10
    · exact ⟨48 + n, [], numL_lt q, by omega⟩
    · obtain ⟨c, r, e, hc⟩ := numL_head k (n / 10) (by rw [Nat.pow_succ] at h; omega) (by omega)
      exact ⟨c, r ++ [48 + n % 10], by rw [numL_step (by omega), e]; rfl, hc⟩
theorem numL_dig (n : Nat) : ∀ x ∈ numL n, digC x = true := fun x hx => by
  have := numL_digits n x hx
  unfold digC
  simpa using this
theorem isnum_yes (d : Nat) {n : Nat} (hn : n ≤ 999999) : EV.Fn gG gP (d + 1) "is_number" [.str (numS n)] S = .ok (.bl true) S := by
  have hl6 : (numS n).length ≤ 6 := by
    rw [len_tl, numS_tl]
    exact numL_len (by decide) (by omega)
  have hne : ¬ numS n = ("" : Str) := fun e => numL_ne n (by rw [← numS_tl, e]; decide +kernel)
  rw [fe_is_number, if_pos (by rfl), ms_is_number, EV.r_run]
  show (EV.sSeq _ _ [.fr (.str (numS n)), .emp] S).bind EV.runF = _
  have a0 : n_is_number_0 (EV.Fn gG gP d) [.fr (.str (numS n)), .emp] S = .ok (.nx [.fr (.str (numS n)), .emp]) S := by
    unfold n_is_number_0
    rw [EV.r_if, num_head (by omega) hne, decide_eq_false (by omega), EV.r_ok, EV.r_sifN]
    rfl
  obtain ⟨y1, e1⟩ := num_loop (S := S) (EV.Fn gG gP d) (.fr (.str (numS n))) (tl (numS n)) .emp (by rw [numS_tl]; exact numL_dig n)
  have a1 : n_is_number_1 (EV.Fn gG gP d) [.fr (.str (numS n)), .emp] S = .ok (.nx [.fr (.str (numS n)), y1]) S := by
    unfold n_is_number_1
    rw [EV.r_frz, show EV.frz [.fr (.str (numS n)), .emp] [0] = [.fr (.str (numS n)), .emp] from rfl, EV.r_for, chars_it (t := numS n) rfl, EV.r_ok, EV.r_forF]
    exact e1
  rw [seq_step a0, seq_step a1]
  by_cases q : n = 0
  · subst q
    have h0 : numS 0 = ("0" : Str) := by decide +kernel
    rw [h0]
    simp -implicitDefEqProofs [EV.LIM, EV.str_lit, evr, EV.r_for, EV.r_rng1, EV.wbin, EV.wun, EV.wcmp, EV.vw, EV.vwz, EV.wix, EV.wblt, EV.wtru, EV.wisi, EV.frz, EV.mkOwn, L2.atI, L2.ixN, List.map, List.length_cons, List.length_nil, List.replicate, List.getElem?_cons_zero, List.getElem?_cons_succ, List.set_cons_zero, List.set_cons_succ, List.append_nil, List.cons_append, List.nil_append, n_is_number_2]
  · obtain ⟨c, r, hcr, hc⟩ := numL_head 6 n (by omega) q
    have ei : EV.mIx (EV.mVarB 0) (EV.mC (.int 0)) [.fr (.str (numS n)), y1] S = .ok (.str (sgn c)) S := ix_s (k := 0) rfl rfl (lenB (by omega)) (by rw [numS_tl, hcr]; rfl)
    have h1 : ¬ numS n = ("0" : Str) := str_ne (by
      rw [numS_tl, hcr, show tl ("0" : Str) = [48] by decide +kernel]
      intro z
      exact hc (List.cons.inj z).1)
    have h2 : ¬ sgn c = ("0" : Str) := str_ne (by
      rw [tl_sgn, show tl ("0" : Str) = [48] by decide +kernel]
      intro z
      exact hc (List.cons.inj z).1)
    unfold n_is_number_2
    generalize EV.mIx (EV.mVarB 0) (EV.mC (.int 0)) = A at *
    simp -implicitDefEqProofs [EV.LIM, EV.str_lit, evr, EV.r_for, EV.r_rng1, EV.wbin, EV.wun, EV.wcmp, EV.vw, EV.vwz, EV.wix, EV.wblt, EV.wtru, EV.wisi, EV.frz, EV.mkOwn, L2.atI, L2.ixN, List.map, List.length_cons, List.length_nil, List.replicate, List.getElem?_cons_zero, List.getElem?_cons_succ, List.set_cons_zero, List.set_cons_succ, List.append_nil, List.cons_append, List.nil_append, ei, h1, h2]
end
/-! ### the cursor -/
def cuW (ts : List Str) (p b : Nat) : EV.Ob := .ins "Cursor" [("tokens", .lst (tkW ts)), ("line", .int 1), ("at", .int p), ("brackets", .int b)]
def tok (ts : List Str) (p : Nat) : Str := ts.getD p ""
section
variable {S : EV.Sto} {c : Nat} {ts : List Str} {p b : Nat}
theorem cu_get (hc : c < S.length) : (S.set c (cuW ts p b))[c]? = some (cuW ts p b) := List.getElem?_set_self hc
theorem cu_set (q e : Nat) : (S.set c (cuW ts p b)).set c (cuW ts q e) = S.set c (cuW ts q e) := List.set_set ..
theorem peek_ex (d : Nat) (hc : c < S.length) : EV.Fn gG gP (d + 1) "Cursor.peek" [.loc c] (S.set c (cuW ts p b)) = .ok (.str (tok ts p)) (S.set c (cuW ts p b)) := by
  have hg := cu_get (ts := ts) (p := p) (b := b) hc
  unfold cuW at hg
  rw [fe_Cursor_peek, if_pos (by rfl), ms_Cursor_peek, EV.r_run]
  show (EV.sSeq _ _ [.fr (.loc c)] (S.set c (cuW ts p b))).bind EV.runF = _
  unfold cuW
  have hl : (tkW ts).length = ts.length := by unfold tkW; simp
  by_cases q : p < ts.length
  · have hx : (tkW ts)[p]? = some (.str (tok ts p)) := by
      unfold tkW tok
      rw [List.getElem?_map, List.getElem?_eq_getElem q, List.getD_eq_getElem?_getD, List.getElem?_eq_getElem q]
      rfl
    obtain ⟨hx1, hx2⟩ : ∃ h : p < (tkW ts).length, (tkW ts)[p] = .str (tok ts p) := List.getElem?_eq_some_iff.mp hx
    have q' : (p : Int) < (ts.length : Int) := by omega
    generalize tok ts p = T at *
    generalize tkW ts = TW at *
    simp -implicitDefEqProofs [EV.LIM, EV.str_lit, evr, EV.r_for, EV.r_rng1, EV.wbin, EV.wun, EV.wcmp, EV.vw, EV.vwz, EV.wix, EV.wblt, EV.wtru, EV.wisi, EV.frz, EV.mkOwn, L2.atI, L2.ixN, List.map, List.length_cons, List.length_nil, List.replicate, List.getElem?_cons_zero, List.getElem?_cons_succ, List.set_cons_zero, List.set_cons_succ, List.append_nil, List.cons_append, List.nil_append, fo0, fo1, fo2, fo3, mo0, mo1, mo2, mo3, mo4, mo5, mo6, n_Cursor_peek_0, n_Cursor_peek_0t, n_Cursor_peek_0t_0, hg, hl, q, q', hx, hx2]
  · have q' : ¬ (p : Int) < (ts.length : Int) := by omega
    have ht : tok ts p = "" := by
      unfold tok
      rw [List.getD_eq_getElem?_getD, List.getElem?_eq_none (by omega)]
      rfl
    rw [ht]
    generalize tkW ts = TW at *
    simp -implicitDefEqProofs [EV.LIM, EV.str_lit, evr, EV.r_for, EV.r_rng1, EV.wbin, EV.wun, EV.wcmp, EV.vw, EV.vwz, EV.wix, EV.wblt, EV.wtru, EV.wisi, EV.frz, EV.mkOwn, L2.atI, L2.ixN, List.map, List.length_cons, List.length_nil, List.replicate, List.getElem?_cons_zero, List.getElem?_cons_succ, List.set_cons_zero, List.set_cons_succ, List.append_nil, List.cons_append, List.nil_append, fo0, fo1, fo2, fo3, mo0, mo1, mo2, mo3, mo4, mo5, mo6, n_Cursor_peek_0, n_Cursor_peek_1, hg, hl, q, q']
theorem take_cu (d : Nat) (hc : c < S.length) : EV.Fn gG gP (d + 2) "Cursor.take" [.loc c] (S.set c (cuW ts p b)) = .ok (.str (tok ts p)) (S.set c (cuW ts (p + 1) b)) := by
  have hg := cu_get (ts := ts) (p := p) (b := b) hc
  have e1 := peek_ex (S := S) (ts := ts) (p := p) (b := b) d hc
  have hs := cu_set (S := S) (c := c) (ts := ts) (p := p) (b := b) (p + 1) b
  unfold cuW at hg hs e1 ⊢
  rw [fe_Cursor_take, if_pos (by rfl), ms_Cursor_take, EV.r_run]
  show (EV.sSeq _ _ [.fr (.loc c), .emp] _).bind EV.runF = _
  have h1 : ((p + 1 : Nat) : Int) = (p : Int) + 1 := by omega
  rw [h1] at hs ⊢
  generalize tok ts p = T at *
  generalize tkW ts = TW at *
  simp -implicitDefEqProofs [EV.LIM, EV.str_lit, evr, EV.r_for, EV.r_rng1, EV.wbin, EV.wun, EV.wcmp, EV.vw, EV.vwz, EV.wix, EV.wblt, EV.wtru, EV.wisi, EV.frz, EV.mkOwn, L2.atI, L2.ixN, List.map, List.length_cons, List.length_nil, List.replicate, List.getElem?_cons_zero, List.getElem?_cons_succ, List.set_cons_zero, List.set_cons_succ, List.append_nil, List.cons_append, List.nil_append, fo0, fo1, fo2, fo3, mo0, mo1, mo2, mo3, mo4, mo5, mo6, EV.goMeth, EV.kdOf, EV.mutE, n_Cursor_take_0, n_Cursor_take_1, n_Cursor_take_2, hg, e1, EV.fput, hs]
theorem accept_yes (d : Nat) (hc : c < S.length) {x : Str} (h : tok ts p = x) : EV.Fn gG gP (d + 2) "Cursor.accept" [.loc c, .str x] (S.set c (cuW ts p b)) = .ok (.bl true) (S.set c (cuW ts (p + 1) b)) := by
  have hg := cu_get (ts := ts) (p := p) (b := b) hc
  have e1 := peek_ex (S := S) (ts := ts) (p := p) (b := b) d hc
  have hs := cu_set (S := S) (c := c) (ts := ts) (p := p) (b := b) (p + 1) b
  rw [h] at e1
  unfold cuW at hg hs e1 ⊢
  rw [fe_Cursor_accept, if_pos (by rfl), ms_Cursor_accept, EV.r_run]
  show (EV.sSeq _ _ [.fr (.loc c), .fr (.str x)] _).bind EV.runF = _
  have h1 : ((p + 1 : Nat) : Int) = (p : Int) + 1 := by omega
  rw [h1] at hs ⊢
  generalize tkW ts = TW at *
  simp -implicitDefEqProofs [EV.LIM, EV.str_lit, evr, EV.r_for, EV.r_rng1, EV.wbin, EV.wun, EV.wcmp, EV.vw, EV.vwz, EV.wix, EV.wblt, EV.wtru, EV.wisi, EV.frz, EV.mkOwn, L2.atI, L2.ixN, List.map, List.length_cons, List.length_nil, List.replicate, List.getElem?_cons_zero, List.getElem?_cons_succ, List.set_cons_zero, List.set_cons_succ, List.append_nil, List.cons_append, List.nil_append, fo0, fo1, fo2, fo3, mo0, mo1, mo2, mo3, mo4, mo5, mo6, EV.goMeth, EV.kdOf, EV.mutE, n_Cursor_accept_0, n_Cursor_accept_1, n_Cursor_accept_2, hg, e1, EV.fput, hs]
theorem accept_no (d : Nat) (hc : c < S.length) {x : Str} (h : tok ts p ≠ x) : EV.Fn gG gP (d + 2) "Cursor.accept" [.loc c, .str x] (S.set c (cuW ts p b)) = .ok (.bl false) (S.set c (cuW ts p b)) := by
  have hg := cu_get (ts := ts) (p := p) (b := b) hc
  have e1 := peek_ex (S := S) (ts := ts) (p := p) (b := b) d hc
  unfold cuW at hg e1 ⊢
  rw [fe_Cursor_accept, if_pos (by rfl), ms_Cursor_accept, EV.r_run]
  show (EV.sSeq _ _ [.fr (.loc c), .fr (.str x)] _).bind EV.runF = _
  generalize tok ts p = T at *
  generalize tkW ts = TW at *
  simp -implicitDefEqProofs [EV.LIM, EV.str_lit, evr, EV.r_for, EV.r_rng1, EV.wbin, EV.wun, EV.wcmp, EV.vw, EV.vwz, EV.wix, EV.wblt, EV.wtru, EV.wisi, EV.frz, EV.mkOwn, L2.atI, L2.ixN, List.map, List.length_cons, List.length_nil, List.replicate, List.getElem?_cons_zero, List.getElem?_cons_succ, List.set_cons_zero, List.set_cons_succ, List.append_nil, List.cons_append, List.nil_append, fo0, fo1, fo2, fo3, mo0, mo1, mo2, mo3, mo4, mo5, mo6, EV.goMeth, EV.kdOf, EV.mutE, n_Cursor_accept_0, n_Cursor_accept_0t, n_Cursor_accept_0t_0, hg, e1, h]
theorem expect_ex (d : Nat) (hc : c < S.length) {x : Str} (h : tok ts p = x) : EV.Fn gG gP (d + 3) "Cursor.expect" [.loc c, .str x] (S.set c (cuW ts p b)) = .ok .non (S.set c (cuW ts (p + 1) b)) := by
  have hg := cu_get (ts := ts) (p := p) (b := b) hc
  have e1 := accept_yes (S := S) (b := b) d hc h
  unfold cuW at hg e1 ⊢
  rw [fe_Cursor_expect, if_pos (by rfl), ms_Cursor_expect, EV.r_run]
  show (n_Cursor_expect_0 _ [.fr (.loc c), .fr (.str x)] _).bind EV.runF = _
  generalize tkW ts = TW at *
  simp -implicitDefEqProofs [EV.LIM, EV.str_lit, evr, EV.r_for, EV.r_rng1, EV.wbin, EV.wun, EV.wcmp, EV.vw, EV.vwz, EV.wix, EV.wblt, EV.wtru, EV.wisi, EV.frz, EV.mkOwn, L2.atI, L2.ixN, List.map, List.length_cons, List.length_nil, List.replicate, List.getElem?_cons_zero, List.getElem?_cons_succ, List.set_cons_zero, List.set_cons_succ, List.append_nil, List.cons_append, List.nil_append, fo0, fo1, fo2, fo3, mo0, mo1, mo2, mo3, mo4, mo5, mo6, EV.goMeth, EV.kdOf, EV.mutE, n_Cursor_expect_0, hg, e1]
theorem finish_ex (d : Nat) (hc : c < S.length) (h : tok ts p = "") : EV.Fn gG gP (d + 2) "Cursor.finish" [.loc c] (S.set c (cuW ts p b)) = .ok .non (S.set c (cuW ts p b)) := by
  have hg := cu_get (ts := ts) (p := p) (b := b) hc
  have e1 := peek_ex (S := S) (ts := ts) (p := p) (b := b) d hc
  rw [h] at e1
  unfold cuW at hg e1 ⊢
  rw [fe_Cursor_finish, if_pos (by rfl), ms_Cursor_finish, EV.r_run]
  show (n_Cursor_finish_0 _ [.fr (.loc c)] _).bind EV.runF = _
  generalize tkW ts = TW at *
  simp -implicitDefEqProofs [EV.LIM, EV.str_lit, evr, EV.r_for, EV.r_rng1, EV.wbin, EV.wun, EV.wcmp, EV.vw, EV.vwz, EV.wix, EV.wblt, EV.wtru, EV.wisi, EV.frz, EV.mkOwn, L2.atI, L2.ixN, List.map, List.length_cons, List.length_nil, List.replicate, List.getElem?_cons_zero, List.getElem?_cons_succ, List.set_cons_zero, List.set_cons_succ, List.append_nil, List.cons_append, List.nil_append, fo0, fo1, fo2, fo3, mo0, mo1, mo2, mo3, mo4, mo5, mo6, EV.goMeth, EV.kdOf, EV.mutE, n_Cursor_finish_0, hg, e1]
theorem open_ex (d : Nat) (hc : c < S.length) (h : tok ts p = "(") (hb : b < 12) : EV.Fn gG gP (d + 4) "Cursor.open_bracket" [.loc c] (S.set c (cuW ts p b)) = .ok .non (S.set c (cuW ts (p + 1) (b + 1))) := by
  have hg := cu_get (ts := ts) (p := p) (b := b) hc
  have hg1 := cu_get (ts := ts) (p := p + 1) (b := b) hc
  have hg2 := cu_get (ts := ts) (p := p + 1) (b := b + 1) hc
  have e1 := expect_ex (S := S) (b := b) d hc h
  have hs := cu_set (S := S) (c := c) (ts := ts) (p := p + 1) (b := b) (p + 1) (b + 1)
  unfold cuW at hg hg1 hg2 hs e1 ⊢
  rw [fe_Cursor_open_bracket, if_pos (by rfl), ms_Cursor_open_bracket, EV.r_run]
  show (EV.sSeq _ _ [.fr (.loc c)] _).bind EV.runF = _
  have h1 : ((b + 1 : Nat) : Int) = (b : Int) + 1 := by omega
  have h2 : ¬ (12 : Int) < (b : Int) + 1 := by omega
  rw [h1] at hs hg2 ⊢
  generalize ((p + 1 : Nat) : Int) = PP at *
  generalize tkW ts = TW at *
  simp -implicitDefEqProofs [EV.LIM, EV.str_lit, evr, EV.r_for, EV.r_rng1, EV.wbin, EV.wun, EV.wcmp, EV.vw, EV.vwz, EV.wix, EV.wblt, EV.wtru, EV.wisi, EV.frz, EV.mkOwn, L2.atI, L2.ixN, List.map, List.length_cons, List.length_nil, List.replicate, List.getElem?_cons_zero, List.getElem?_cons_succ, List.set_cons_zero, List.set_cons_succ, List.append_nil, List.cons_append, List.nil_append, fo0, fo1, fo2, fo3, mo0, mo1, mo2, mo3, mo4, mo5, mo6, EV.goMeth, EV.kdOf, EV.mutE, n_Cursor_open_bracket_0, n_Cursor_open_bracket_1, n_Cursor_open_bracket_2, hg, hg1, hg2, e1, EV.fput, hs, h2]
theorem close_ex (d : Nat) (hc : c < S.length) (h : tok ts p = ")") : EV.Fn gG gP (d + 4) "Cursor.close_bracket" [.loc c] (S.set c (cuW ts p (b + 1))) = .ok .non (S.set c (cuW ts (p + 1) b)) := by
  have hg := cu_get (ts := ts) (p := p) (b := b + 1) hc
  have hg1 := cu_get (ts := ts) (p := p + 1) (b := b + 1) hc
  have e1 := expect_ex (S := S) (b := b + 1) d hc h
  have hs := cu_set (S := S) (c := c) (ts := ts) (p := p + 1) (b := b + 1) (p + 1) b
  unfold cuW at hg hg1 hs e1 ⊢
  rw [fe_Cursor_close_bracket, if_pos (by rfl), ms_Cursor_close_bracket, EV.r_run]
  show (EV.sSeq _ _ [.fr (.loc c)] _).bind EV.runF = _
  have h1 : (b : Int) = ((b + 1 : Nat) : Int) - 1 := by omega
  generalize ((b + 1 : Nat) : Int) = BB at *
  rw [h1] at hs ⊢
  generalize ((p + 1 : Nat) : Int) = PP at *
  generalize tkW ts = TW at *
  simp -implicitDefEqProofs [EV.LIM, EV.str_lit, evr, EV.r_for, EV.r_rng1, EV.wbin, EV.wun, EV.wcmp, EV.vw, EV.vwz, EV.wix, EV.wblt, EV.wtru, EV.wisi, EV.frz, EV.mkOwn, L2.atI, L2.ixN, List.map, List.length_cons, List.length_nil, List.replicate, List.getElem?_cons_zero, List.getElem?_cons_succ, List.set_cons_zero, List.set_cons_succ, List.append_nil, List.cons_append, List.nil_append, fo0, fo1, fo2, fo3, mo0, mo1, mo2, mo3, mo4, mo5, mo6, EV.goMeth, EV.kdOf, EV.mutE, n_Cursor_close_bracket_0, n_Cursor_close_bracket_1, hg, hg1, e1, EV.fput, hs]
end
open TL
def n_read_ref_0 (F : EV.Fenv) : EV.M EV.Fl := (EV.sSet 1 (EV.mMeth F (fun c => gG.mts.lookup (c, ("take" : Str))) .other "take" (EV.mVarB 0) EV.mNil))
def n_read_ref_1t_0 (F : EV.Fenv) : EV.M EV.Fl := EV.mBad
def n_read_ref_1t (F : EV.Fenv) : EV.M EV.Fl := (n_read_ref_1t_0 F)
def n_read_ref_1 (F : EV.Fenv) : EV.M EV.Fl := (EV.sFrz [1] (EV.sIf (EV.mNotT (EV.mTru (EV.mCall F "is_ref" (EV.mCons (EV.mVar 1) EV.mNil) []))) (n_read_ref_1t F) EV.sNext))
def n_read_ref_2 (F : EV.Fenv) : EV.M EV.Fl := (EV.sFrz [1] (EV.sRet (EV.mVar 1)))
theorem ms_read_ref (F : EV.Fenv) : m_read_ref F = (EV.sSeq (n_read_ref_0 F) (EV.sSeq (n_read_ref_1 F) (n_read_ref_2 F))) := by kernel_rfl
def n_read_number_0 (F : EV.Fenv) : EV.M EV.Fl := (EV.sSet 1 (EV.mMeth F (fun c => gG.mts.lookup (c, ("take" : Str))) .other "take" (EV.mVarB 0) EV.mNil))
def n_read_number_1t_0 (F : EV.Fenv) : EV.M EV.Fl := EV.mBad
def n_read_number_1t (F : EV.Fenv) : EV.M EV.Fl := (n_read_number_1t_0 F)
def n_read_number_1 (F : EV.Fenv) : EV.M EV.Fl := (EV.sFrz [1] (EV.sIf (EV.mNotT (EV.mTru (EV.mCall F "is_number" (EV.mCons (EV.mVar 1) EV.mNil) []))) (n_read_number_1t F) EV.sNext))
def n_read_number_2 (F : EV.Fenv) : EV.M EV.Fl := (EV.sRet (EV.mBlt .int (EV.mCons (EV.mVarB 1) EV.mNil)))
theorem ms_read_number (F : EV.Fenv) : m_read_number F = (EV.sSeq (n_read_number_0 F) (EV.sSeq (n_read_number_1 F) (n_read_number_2 F))) := by kernel_rfl
def n_read_side_0t_0 (F : EV.Fenv) : EV.M EV.Fl := (EV.sFrz [0] (EV.sRet (EV.mTup (EV.mCons (EV.mC (.str "num")) (EV.mCons (EV.mCall F "read_number" (EV.mCons (EV.mVar 0) EV.mNil) []) EV.mNil)))))
def n_read_side_0t (F : EV.Fenv) : EV.M EV.Fl := (n_read_side_0t_0 F)
def n_read_side_0 (F : EV.Fenv) : EV.M EV.Fl := (EV.sIf (EV.mTru (EV.mCall F "is_number" (EV.mCons (EV.mMeth F (fun c => gG.mts.lookup (c, ("peek" : Str))) .other "peek" (EV.mVarB 0) EV.mNil) EV.mNil) [])) (n_read_side_0t F) EV.sNext)
def n_read_side_1 (F : EV.Fenv) : EV.M EV.Fl := (EV.sFrz [0] (EV.sRet (EV.mTup (EV.mCons (EV.mC (.str "ref")) (EV.mCons (EV.mCall F "read_ref" (EV.mCons (EV.mVar 0) EV.mNil) []) EV.mNil)))))
theorem ms_read_side (F : EV.Fenv) : m_read_side F = (EV.sSeq (n_read_side_0 F) (n_read_side_1 F)) := by kernel_rfl
/-! ### calls of an instance's methods -/
theorem meth_ins {F : EV.Fenv} {own : Str → Option Str} {m : EV.Mt} {nm q cl : Str} {b : EV.M EV.W} {a : EV.M (List EV.W)} {σ : EV.Sls} {S S1 : EV.Sto} {n : Nat} {fs : List (Str × EV.W)} {ws : List EV.W} (h0 : b σ S = .ok (.loc n) S) (h1 : S[n]? = some (.ins cl fs)) (ho : own cl = some q) (hf : fs.lookup nm = none) (hm : decide (m = .extend) = false) (ha : a σ S = .ok ws S1) :
    EV.mMeth F own m nm b a σ S = F q (.loc n :: ws) S1 := by
  rw [EV.r_meth, h0, EV.r_ok, EV.r_metF]
  unfold EV.goMeth EV.kdOf
  simp only [h1, ho, hf, hm, ha, EV.r_ok]
theorem mut_ins {F : EV.Fenv} {own : Str → Option Str} {m : EV.Mt} {nm q cl : Str} {i : Nat} {a : EV.M (List EV.W)} {σ : EV.Sls} {S S1 S2 : EV.Sto} {n : Nat} {fs : List (Str × EV.W)} {ws : List EV.W} {r : EV.W} (h0 : σ[i]? = some (.fr (.loc n))) (h1 : S[n]? = some (.ins cl fs)) (ho : own cl = some q) (hf : fs.lookup nm = none) (hm : decide (m = .extend) = false) (ha : a σ S = .ok ws S1) (hF : F q (.loc n :: ws) S1 = .ok r S2) :
    EV.sMut (EV.mutE F own m nm i a) σ S = .ok (.nx σ) S2 := by
  rw [EV.r_mut]
  unfold EV.mutE
  simp only [h0]
  unfold EV.goMeth EV.kdOf
  simp only [h1, ho, hf, hm, ha, EV.r_ok, hF]
  rfl
section
variable {S : EV.Sto} {c : Nat} {ts : List Str} {p b : Nat} {σ : EV.Sls}
theorem mo_peek : gG.mts.lookup (("Cursor" : Str), ("peek" : Str)) = some "Cursor.peek" := by kernel_rfl
theorem mo_take : gG.mts.lookup (("Cursor" : Str), ("take" : Str)) = some "Cursor.take" := by kernel_rfl
theorem mo_accept : gG.mts.lookup (("Cursor" : Str), ("accept" : Str)) = some "Cursor.accept" := by kernel_rfl
theorem mo_expect : gG.mts.lookup (("Cursor" : Str), ("expect" : Str)) = some "Cursor.expect" := by kernel_rfl
theorem mo_finish : gG.mts.lookup (("Cursor" : Str), ("finish" : Str)) = some "Cursor.finish" := by kernel_rfl
theorem mo_open : gG.mts.lookup (("Cursor" : Str), ("open_bracket" : Str)) = some "Cursor.open_bracket" := by kernel_rfl
theorem mo_close : gG.mts.lookup (("Cursor" : Str), ("close_bracket" : Str)) = some "Cursor.close_bracket" := by kernel_rfl
theorem varB_fr {i : Nat} {w : EV.W} {S : EV.Sto} (h : σ[i]? = some (.fr w)) : EV.mVarB i σ S = .ok w S := by unfold EV.mVarB; rw [h]
theorem m_peek (d : Nat) (hc : c < S.length) (h0 : σ[0]? = some (.fr (.loc c))) : EV.mMeth (EV.Fn gG gP (d + 1)) (fun c => gG.mts.lookup (c, ("peek" : Str))) .other "peek" (EV.mVarB 0) EV.mNil σ (S.set c (cuW ts p b)) = .ok (.str (tok ts p)) (S.set c (cuW ts p b)) := by
  rw [meth_ins (varB_fr h0) (cu_get hc) mo_peek (by kernel_rfl) (by decide) rfl]
  exact peek_ex d hc
theorem m_take (d : Nat) (hc : c < S.length) (h0 : σ[0]? = some (.fr (.loc c))) : EV.mMeth (EV.Fn gG gP (d + 2)) (fun c => gG.mts.lookup (c, ("take" : Str))) .other "take" (EV.mVarB 0) EV.mNil σ (S.set c (cuW ts p b)) = .ok (.str (tok ts p)) (S.set c (cuW ts (p + 1) b)) := by
  rw [meth_ins (varB_fr h0) (cu_get hc) mo_take (by kernel_rfl) (by decide) rfl]
  exact take_cu d hc
theorem m_acc_yes (d : Nat) (hc : c < S.length) (h0 : σ[0]? = some (.fr (.loc c))) {x : Str} (h : tok ts p = x) : EV.mMeth (EV.Fn gG gP (d + 2)) (fun c => gG.mts.lookup (c, ("accept" : Str))) .other "accept" (EV.mVarB 0) (EV.mCons (EV.mC (.str x)) EV.mNil) σ (S.set c (cuW ts p b)) = .ok (.bl true) (S.set c (cuW ts (p + 1) b)) := by
  rw [meth_ins (varB_fr h0) (cu_get hc) mo_accept (by kernel_rfl) (by decide) rfl]
  exact accept_yes d hc h
theorem m_acc_no (d : Nat) (hc : c < S.length) (h0 : σ[0]? = some (.fr (.loc c))) {x : Str} (h : tok ts p ≠ x) : EV.mMeth (EV.Fn gG gP (d + 2)) (fun c => gG.mts.lookup (c, ("accept" : Str))) .other "accept" (EV.mVarB 0) (EV.mCons (EV.mC (.str x)) EV.mNil) σ (S.set c (cuW ts p b)) = .ok (.bl false) (S.set c (cuW ts p b)) := by
  rw [meth_ins (varB_fr h0) (cu_get hc) mo_accept (by kernel_rfl) (by decide) rfl]
  exact accept_no d hc h
theorem s_expect (d : Nat) (hc : c < S.length) (h0 : σ[0]? = some (.fr (.loc c))) {x : Str} (h : tok ts p = x) : EV.sMut (EV.mutE (EV.Fn gG gP (d + 3)) (fun c => gG.mts.lookup (c, ("expect" : Str))) .other "expect" 0 (EV.mCons (EV.mC (.str x)) EV.mNil)) σ (S.set c (cuW ts p b)) = .ok (.nx σ) (S.set c (cuW ts (p + 1) b)) :=
  mut_ins h0 (cu_get hc) mo_expect (by kernel_rfl) (by decide) rfl (expect_ex d hc h)
theorem s_open (d : Nat) (hc : c < S.length) (h0 : σ[0]? = some (.fr (.loc c))) (h : tok ts p = "(") (hb : b < 12) : EV.sMut (EV.mutE (EV.Fn gG gP (d + 4)) (fun c => gG.mts.lookup (c, ("open_bracket" : Str))) .other "open_bracket" 0 EV.mNil) σ (S.set c (cuW ts p b)) = .ok (.nx σ) (S.set c (cuW ts (p + 1) (b + 1))) :=
  mut_ins h0 (cu_get hc) mo_open (by kernel_rfl) (by decide) rfl (open_ex d hc h hb)
theorem s_close (d : Nat) (hc : c < S.length) (h0 : σ[0]? = some (.fr (.loc c))) (h : tok ts p = ")") : EV.sMut (EV.mutE (EV.Fn gG gP (d + 4)) (fun c => gG.mts.lookup (c, ("close_bracket" : Str))) .other "close_bracket" 0 EV.mNil) σ (S.set c (cuW ts p (b + 1))) = .ok (.nx σ) (S.set c (cuW ts (p + 1) b)) :=
  mut_ins h0 (cu_get hc) mo_close (by kernel_rfl) (by decide) rfl (close_ex d hc h)
/-! ### sides -/
structure RefOk (s : Str) : Prop where
  ref : Ref s
  len : s.length ≤ 200
  hd : ∃ c r, tl s = c :: r ∧ digC c = false
  nb : s ≠ "("
  nmin : s ≠ "min"
  nmax : s ≠ "max"
  word : Word s
theorem read_ref_ex (d : Nat) (hc : c < S.length) (h : RefOk (tok ts p)) : EV.Fn gG gP (d + 4) "read_ref" [.loc c] (S.set c (cuW ts p b)) = .ok (.str (tok ts p)) (S.set c (cuW ts (p + 1) b)) := by
  have e1 := m_take (ts := ts) (p := p) (b := b) (σ := [.fr (.loc c), .emp]) (d + 1) hc rfl
  have e2 := is_ref_ex (S := S.set c (cuW ts (p + 1) b)) d (by have := h.len; omega) h.ref
  rw [fe_read_ref, if_pos (by rfl), ms_read_ref, EV.r_run]
  show (EV.sSeq _ _ [.fr (.loc c), .emp] _).bind EV.runF = _
  unfold n_read_ref_0 n_read_ref_1 n_read_ref_2
  generalize S.set c (cuW ts (p + 1) b) = S2 at *
  generalize S.set c (cuW ts p b) = S1 at *
  generalize tok ts p = T at *
  generalize EV.mMeth (EV.Fn gG gP (d + 3)) (fun c => gG.mts.lookup (c, ("take" : Str))) .other "take" (EV.mVarB 0) EV.mNil = A at *
  simp -implicitDefEqProofs [EV.LIM, EV.str_lit, evr, EV.r_for, EV.r_rng1, EV.wbin, EV.wun, EV.wcmp, EV.vw, EV.vwz, EV.wix, EV.wblt, EV.wtru, EV.wisi, EV.frz, EV.mkOwn, L2.atI, L2.ixN, List.map, List.length_cons, List.length_nil, List.replicate, List.getElem?_cons_zero, List.getElem?_cons_succ, List.set_cons_zero, List.set_cons_succ, List.append_nil, List.cons_append, List.nil_append, e1, e2]
theorem read_number_ex (d : Nat) (hc : c < S.length) {n : Nat} (hn : n ≤ 999999) (h : tok ts p = numS n) : EV.Fn gG gP (d + 3) "read_number" [.loc c] (S.set c (cuW ts p b)) = .ok (.int n) (S.set c (cuW ts (p + 1) b)) := by
  have e1 := m_take (ts := ts) (p := p) (b := b) (σ := [.fr (.loc c), .emp]) d hc rfl
  rw [h] at e1
  have e2 := isnum_yes (S := S.set c (cuW ts (p + 1) b)) (d + 1) hn
  have hl6 : (numL n).length ≤ 6 := numL_len (by decide) (by omega)
  have e3 : intText? (numS n) = some (n : Int) := int_num (by omega)
  have hl : (numS n).length ≤ 640 := by rw [len_tl, numS_tl]; omega
  rw [fe_read_number, if_pos (by rfl), ms_read_number, EV.r_run]
  show (EV.sSeq _ _ [.fr (.loc c), .emp] _).bind EV.runF = _
  unfold n_read_number_0 n_read_number_1 n_read_number_2
  generalize S.set c (cuW ts (p + 1) b) = S2 at *
  generalize S.set c (cuW ts p b) = S1 at *
  generalize numS n = T at *
  generalize EV.mMeth (EV.Fn gG gP (d + 2)) (fun c => gG.mts.lookup (c, ("take" : Str))) .other "take" (EV.mVarB 0) EV.mNil = A at *
  simp -implicitDefEqProofs [EV.LIM, EV.str_lit, evr, EV.r_for, EV.r_rng1, EV.wbin, EV.wun, EV.wcmp, EV.vw, EV.vwz, EV.wix, EV.wblt, EV.wtru, EV.wisi, EV.frz, EV.mkOwn, L2.atI, L2.ixN, List.map, List.length_cons, List.length_nil, List.replicate, List.getElem?_cons_zero, List.getElem?_cons_succ, List.set_cons_zero, List.set_cons_succ, List.append_nil, List.cons_append, List.nil_append, e1, e2, e3, hl]
theorem read_side_num (d : Nat) (hc : c < S.length) {n : Nat} (hn : n ≤ 999999) (h : tok ts p = numS n) : EV.Fn gG gP (d + 4) "read_side" [.loc c] (S.set c (cuW ts p b)) = .ok (.tup [.str "num", .int n]) (S.set c (cuW ts (p + 1) b)) := by
  have e1 := m_peek (ts := ts) (p := p) (b := b) (σ := [.fr (.loc c)]) (d + 2) hc rfl
  rw [h] at e1
  have e2 := isnum_yes (S := S.set c (cuW ts p b)) (d + 2) hn
  have e3 := read_number_ex (S := S) (b := b) d hc hn h
  rw [fe_read_side, if_pos (by rfl), ms_read_side, EV.r_run]
  show (EV.sSeq _ _ [.fr (.loc c)] _).bind EV.runF = _
  unfold n_read_side_0 n_read_side_0t n_read_side_0t_0
  generalize S.set c (cuW ts (p + 1) b) = S2 at *
  generalize S.set c (cuW ts p b) = S1 at *
  generalize numS n = T at *
  generalize EV.mMeth (EV.Fn gG gP (d + 3)) (fun c => gG.mts.lookup (c, ("peek" : Str))) .other "peek" (EV.mVarB 0) EV.mNil = A at *
  simp -implicitDefEqProofs [EV.LIM, EV.str_lit, evr, EV.r_for, EV.r_rng1, EV.wbin, EV.wun, EV.wcmp, EV.vw, EV.vwz, EV.wix, EV.wblt, EV.wtru, EV.wisi, EV.frz, EV.mkOwn, L2.atI, L2.ixN, List.map, List.length_cons, List.length_nil, List.replicate, List.getElem?_cons_zero, List.getElem?_cons_succ, List.set_cons_zero, List.set_cons_succ, List.append_nil, List.cons_append, List.nil_append, e1, e2, e3]
theorem read_side_ref (d : Nat) (hc : c < S.length) (h : RefOk (tok ts p)) : EV.Fn gG gP (d + 5) "read_side" [.loc c] (S.set c (cuW ts p b)) = .ok (.tup [.str "ref", .str (tok ts p)]) (S.set c (cuW ts (p + 1) b)) := by
  have e1 := m_peek (ts := ts) (p := p) (b := b) (σ := [.fr (.loc c)]) (d + 3) hc rfl
  obtain ⟨k, r, hk, hd⟩ := h.hd
  have e2 := isnum_no (S := S.set c (cuW ts p b)) (d + 3) (by have := h.len; omega) hk hd
  have e3 := read_ref_ex (S := S) (b := b) d hc h
  rw [fe_read_side, if_pos (by rfl), ms_read_side, EV.r_run]
  show (EV.sSeq _ _ [.fr (.loc c)] _).bind EV.runF = _
  unfold n_read_side_0 n_read_side_1
  generalize S.set c (cuW ts (p + 1) b) = S2 at *
  generalize S.set c (cuW ts p b) = S1 at *
  generalize tok ts p = T at *
  generalize EV.mMeth (EV.Fn gG gP (d + 4)) (fun c => gG.mts.lookup (c, ("peek" : Str))) .other "peek" (EV.mVarB 0) EV.mNil = A at *
  simp -implicitDefEqProofs [EV.LIM, EV.str_lit, evr, EV.r_for, EV.r_rng1, EV.wbin, EV.wun, EV.wcmp, EV.vw, EV.vwz, EV.wix, EV.wblt, EV.wtru, EV.wisi, EV.frz, EV.mkOwn, L2.atI, L2.ixN, List.map, List.length_cons, List.length_nil, List.replicate, List.getElem?_cons_zero, List.getElem?_cons_succ, List.set_cons_zero, List.set_cons_succ, List.append_nil, List.cons_append, List.nil_append, e1, e2, e3]
end
open TL
def n_read_expression_0 (F : EV.Fenv) : EV.M EV.Fl := (EV.sFrz [0] (EV.sSet 1 (EV.mCall F "read_term" (EV.mCons (EV.mVar 0) EV.mNil) [])))
def n_read_expression_1b_0 (F : EV.Fenv) : EV.M EV.Fl := (EV.sSet 2 (EV.mTSub [("+", .str "add"), ("-", .str "sub")] (EV.mMeth F (fun c => gG.mts.lookup (c, ("take" : Str))) .other "take" (EV.mVarB 0) EV.mNil)))
def n_read_expression_1b_1 (F : EV.Fenv) : EV.M EV.Fl := (EV.sFrz [2, 1, 0] (EV.sSet 1 (EV.mTup (EV.mCons (EV.mVar 2) (EV.mCons (EV.mVar 1) (EV.mCons (EV.mCall F "read_term" (EV.mCons (EV.mVar 0) EV.mNil) []) EV.mNil))))))
def n_read_expression_1b (F : EV.Fenv) : EV.M EV.Fl := (EV.sSeq (n_read_expression_1b_0 F) (n_read_expression_1b_1 F))
def n_read_expression_1 (F : EV.Fenv) : EV.M EV.Fl := (EV.sWh (EV.mTIn [("+", .str "add"), ("-", .str "sub")] false (EV.mMeth F (fun c => gG.mts.lookup (c, ("peek" : Str))) .other "peek" (EV.mVarB 0) EV.mNil)) (n_read_expression_1b F))
def n_read_expression_2 (F : EV.Fenv) : EV.M EV.Fl := (EV.sFrz [1] (EV.sRet (EV.mVar 1)))
theorem ms_read_expression (F : EV.Fenv) : m_read_expression F = (EV.sSeq (n_read_expression_0 F) (EV.sSeq (n_read_expression_1 F) (n_read_expression_2 F))) := by kernel_rfl
def n_read_term_0 (F : EV.Fenv) : EV.M EV.Fl := (EV.sFrz [0] (EV.sSet 1 (EV.mCall F "read_atom" (EV.mCons (EV.mVar 0) EV.mNil) [])))
def n_read_term_1b_0 (F : EV.Fenv) : EV.M EV.Fl := (EV.sFrz [1, 0] (EV.sSet 1 (EV.mTup (EV.mCons (EV.mC (.str "mul")) (EV.mCons (EV.mVar 1) (EV.mCons (EV.mCall F "read_atom" (EV.mCons (EV.mVar 0) EV.mNil) []) EV.mNil))))))
def n_read_term_1b (F : EV.Fenv) : EV.M EV.Fl := (n_read_term_1b_0 F)
def n_read_term_1 (F : EV.Fenv) : EV.M EV.Fl := (EV.sWh (EV.mTru (EV.mMeth F (fun c => gG.mts.lookup (c, ("accept" : Str))) .other "accept" (EV.mVarB 0) (EV.mCons (EV.mC (.str "*")) EV.mNil))) (n_read_term_1b F))
def n_read_term_2 (F : EV.Fenv) : EV.M EV.Fl := (EV.sFrz [1] (EV.sRet (EV.mVar 1)))
theorem ms_read_term (F : EV.Fenv) : m_read_term F = (EV.sSeq (n_read_term_0 F) (EV.sSeq (n_read_term_1 F) (n_read_term_2 F))) := by kernel_rfl
def n_read_atom_0t_0 (F : EV.Fenv) : EV.M EV.Fl := (EV.sMut (EV.mutE F (fun c => gG.mts.lookup (c, ("open_bracket" : Str))) .other "open_bracket" 0 EV.mNil))
def n_read_atom_0t_1 (F : EV.Fenv) : EV.M EV.Fl := (EV.sFrz [0] (EV.sSet 1 (EV.mCall F "read_expression" (EV.mCons (EV.mVar 0) EV.mNil) [])))
def n_read_atom_0t_2 (F : EV.Fenv) : EV.M EV.Fl := (EV.sMut (EV.mutE F (fun c => gG.mts.lookup (c, ("close_bracket" : Str))) .other "close_bracket" 0 EV.mNil))
def n_read_atom_0t_3 (F : EV.Fenv) : EV.M EV.Fl := (EV.sFrz [1] (EV.sRet (EV.mVar 1)))
def n_read_atom_0t (F : EV.Fenv) : EV.M EV.Fl := (EV.sSeq (n_read_atom_0t_0 F) (EV.sSeq (n_read_atom_0t_1 F) (EV.sSeq (n_read_atom_0t_2 F) (n_read_atom_0t_3 F))))
def n_read_atom_0 (F : EV.Fenv) : EV.M EV.Fl := (EV.sIf (EV.mCmpT .Eq (EV.mMeth F (fun c => gG.mts.lookup (c, ("peek" : Str))) .other "peek" (EV.mVarB 0) EV.mNil) (EV.mC (.str "("))) (n_read_atom_0t F) EV.sNext)
def n_read_atom_1t_0 (F : EV.Fenv) : EV.M EV.Fl := (EV.sSet 2 (EV.mMeth F (fun c => gG.mts.lookup (c, ("take" : Str))) .other "take" (EV.mVarB 0) EV.mNil))
def n_read_atom_1t_1 (F : EV.Fenv) : EV.M EV.Fl := (EV.sMut (EV.mutE F (fun c => gG.mts.lookup (c, ("open_bracket" : Str))) .other "open_bracket" 0 EV.mNil))
def n_read_atom_1t_2 (F : EV.Fenv) : EV.M EV.Fl := (EV.sFrz [0] (EV.sSet 3 (EV.mCall F "read_expression" (EV.mCons (EV.mVar 0) EV.mNil) [])))
def n_read_atom_1t_3 (F : EV.Fenv) : EV.M EV.Fl := (EV.sMut (EV.mutE F (fun c => gG.mts.lookup (c, ("expect" : Str))) .other "expect" 0 (EV.mCons (EV.mC (.str ",")) EV.mNil)))
def n_read_atom_1t_4 (F : EV.Fenv) : EV.M EV.Fl := (EV.sFrz [0] (EV.sSet 4 (EV.mCall F "read_expression" (EV.mCons (EV.mVar 0) EV.mNil) [])))
def n_read_atom_1t_5 (F : EV.Fenv) : EV.M EV.Fl := (EV.sMut (EV.mutE F (fun c => gG.mts.lookup (c, ("close_bracket" : Str))) .other "close_bracket" 0 EV.mNil))
def n_read_atom_1t_6 (F : EV.Fenv) : EV.M EV.Fl := (EV.sFrz [2, 3, 4] (EV.sRet (EV.mTup (EV.mCons (EV.mVar 2) (EV.mCons (EV.mVar 3) (EV.mCons (EV.mVar 4) EV.mNil))))))
def n_read_atom_1t (F : EV.Fenv) : EV.M EV.Fl := (EV.sSeq (n_read_atom_1t_0 F) (EV.sSeq (n_read_atom_1t_1 F) (EV.sSeq (n_read_atom_1t_2 F) (EV.sSeq (n_read_atom_1t_3 F) (EV.sSeq (n_read_atom_1t_4 F) (EV.sSeq (n_read_atom_1t_5 F) (n_read_atom_1t_6 F)))))))
def n_read_atom_1 (F : EV.Fenv) : EV.M EV.Fl := (EV.sIf (EV.mCmpT .In (EV.mMeth F (fun c => gG.mts.lookup (c, ("peek" : Str))) .other "peek" (EV.mVarB 0) EV.mNil) (EV.mTup (EV.mCons (EV.mC (.str "min")) (EV.mCons (EV.mC (.str "max")) EV.mNil)))) (n_read_atom_1t F) EV.sNext)
def n_read_atom_2 (F : EV.Fenv) : EV.M EV.Fl := (EV.sFrz [0] (EV.sRet (EV.mCall F "read_side" (EV.mCons (EV.mVar 0) EV.mNil) [])))
theorem ms_read_atom (F : EV.Fenv) : m_read_atom F = (EV.sSeq (n_read_atom_0 F) (EV.sSeq (n_read_atom_1 F) (n_read_atom_2 F))) := by kernel_rfl
/-! ### expressions and their tokens -/
inductive K5 where
  | add | sub | mul | mn | mx
  deriving DecidableEq
def K5.nm : K5 → Str
  | .add => "add" | .sub => "sub" | .mul => "mul" | .mn => "min" | .mx => "max"
def K5.sg : K5 → Str
  | .add => "+" | .sub => "-" | .mul => "*" | .mn => "min" | .mx => "max"
inductive Ex where
  | num (n : Nat) | ref (s : Str) | op (k : K5) (a b : Ex)
def exW : Ex → EV.W
  | .num n => .tup [.str "num", .int n]
  | .ref s => .tup [.str "ref", .str s]
  | .op k a b => .tup [.str k.nm, exW a, exW b]
/-- level 0: atoms, 1: terms, 2: expressions; the last number: how many brackets are open at once -/
inductive P : Nat → Ex → List Str → Nat → Prop
  | num {n} : n ≤ 999999 → P 0 (.num n) [numS n] 0
  | ref {s} : RefOk s → P 0 (.ref s) [s] 0
  | brk {e ts b} : P 2 e ts b → P 0 e (("(" : Str) :: (ts ++ [(")" : Str)])) (b + 1)
  | fn {k a c ts1 ts2 b1 b2 b} : (k = .mn ∨ k = .mx) → P 2 a ts1 b1 → P 2 c ts2 b2 → b1 ≤ b → b2 ≤ b → P 0 (.op k a c) (k.nm :: ("(" : Str) :: (ts1 ++ ("," : Str) :: (ts2 ++ [(")" : Str)]))) (b + 1)
  | up1 {e ts b} : P 0 e ts b → P 1 e ts b
  | mul {a c ts1 ts2 b1 b2 b} : P 1 a ts1 b1 → P 0 c ts2 b2 → b1 ≤ b → b2 ≤ b → P 1 (.op .mul a c) (ts1 ++ ("*" : Str) :: ts2) b
  | up2 {e ts b} : P 1 e ts b → P 2 e ts b
  | sum {k a c ts1 ts2 b1 b2 b} : (k = .add ∨ k = .sub) → P 2 a ts1 b1 → P 1 c ts2 b2 → b1 ≤ b → b2 ≤ b → P 2 (.op k a c) (ts1 ++ k.sg :: ts2) b
section
variable {S : EV.Sto} {c : Nat} {T : List Str}
theorem tdrop {p : Nat} {t : Str} {r : List Str} (h : T.drop p = t :: r) : tok T p = t ∧ T.drop (p + 1) = r ∧ p < T.length := by
  have hp : p < T.length := by
    rcases Nat.lt_or_ge p T.length with q | q
    · exact q
    · rw [List.drop_of_length_le q] at h; cases h
  rw [List.drop_eq_getElem_cons hp] at h
  injection h with h1 h2
  exact ⟨by unfold tok; rw [List.getD_eq_getElem?_getD, List.getElem?_eq_getElem hp, h1]; rfl, h2, hp⟩
theorem tdropn {p : Nat} {l r : List Str} (h : T.drop p = l ++ r) : T.drop (p + l.length) = r := by
  rw [← List.drop_drop, h, List.drop_left']
  rfl
abbrev tC (F : EV.Fenv) : EV.M Bool := EV.mTru (EV.mMeth F (fun c => gG.mts.lookup (c, ("accept" : Str))) .other "accept" (EV.mVarB 0) (EV.mCons (EV.mC (.str "*")) EV.mNil))
abbrev eC (F : EV.Fenv) : EV.M Bool := EV.mTIn [("+", .str "add"), ("-", .str "sub")] false (EV.mMeth F (fun c => gG.mts.lookup (c, ("peek" : Str))) .other "peek" (EV.mVarB 0) EV.mNil)
def G0 (S : EV.Sto) (c : Nat) (T : List Str) (e : Ex) (ts : List Str) (b : Nat) : Prop := ∀ (d p k : Nat) (post : List Str), T.drop p = ts ++ post → k + b ≤ 12 → EV.Fn gG gP (d + 3 * b + 7) "read_atom" [.loc c] (S.set c (cuW T p k)) = .ok (exW e) (S.set c (cuW T (p + ts.length) k))
def G1 (S : EV.Sto) (c : Nat) (T : List Str) (e : Ex) (ts : List Str) (b : Nat) : Prop := ∃ m, m ≤ ts.length ∧ ∀ (d p k n : Nat) (post : List Str) (x1 : EV.Sl), T.drop p = ts ++ post → k + b ≤ 12 →
  EV.sSeq (n_read_term_0 (EV.Fn gG gP (d + 3 * b + 7))) (EV.whL (tC (EV.Fn gG gP (d + 3 * b + 7))) (n_read_term_1b (EV.Fn gG gP (d + 3 * b + 7))) (n + m)) [.fr (.loc c), x1] (S.set c (cuW T p k)) =
    EV.whL (tC (EV.Fn gG gP (d + 3 * b + 7))) (n_read_term_1b (EV.Fn gG gP (d + 3 * b + 7))) n [.fr (.loc c), .fr (exW e)] (S.set c (cuW T (p + ts.length) k))
def G2 (S : EV.Sto) (c : Nat) (T : List Str) (e : Ex) (ts : List Str) (b : Nat) : Prop := ∃ m, m ≤ ts.length ∧ ∀ (d p k n : Nat) (post : List Str) (x1 x2 : EV.Sl), T.drop p = ts ++ post → tok T (p + ts.length) ≠ "*" → k + b ≤ 12 → ∃ y2 : EV.Sl,
  EV.sSeq (n_read_expression_0 (EV.Fn gG gP (d + 3 * b + 8))) (EV.whL (eC (EV.Fn gG gP (d + 3 * b + 8))) (n_read_expression_1b (EV.Fn gG gP (d + 3 * b + 8))) (n + m)) [.fr (.loc c), x1, x2] (S.set c (cuW T p k)) =
    EV.whL (eC (EV.Fn gG gP (d + 3 * b + 8))) (n_read_expression_1b (EV.Fn gG gP (d + 3 * b + 8))) n [.fr (.loc c), .fr (exW e), y2] (S.set c (cuW T (p + ts.length) k))
theorem seq_eq {a r1 r2 : EV.M EV.Fl} {σ σ1 : EV.Sls} {S S1 : EV.Sto} (h : EV.sSeq a r1 σ S = r1 σ1 S1 → True) : True := trivial
/-- a whole term -/
theorem term_of (hc : c < S.length) (hT : T.length ≤ 1000000) {e : Ex} {ts : List Str} {b : Nat} (h : G1 S c T e ts b) (d p k : Nat) (post : List Str) (hd : T.drop p = ts ++ post) (hk : k + b ≤ 12) (hs : tok T (p + ts.length) ≠ "*") :
    EV.Fn gG gP (d + 3 * b + 8) "read_term" [.loc c] (S.set c (cuW T p k)) = .ok (exW e) (S.set c (cuW T (p + ts.length) k)) := by
  obtain ⟨m, hm, h⟩ := h
  have hl : ts.length ≤ 1000000 := by
    have := congrArg List.length hd
    rw [List.length_drop, List.length_append] at this
    omega
  obtain ⟨n, hn⟩ : ∃ n, EV.whMax = n + 1 + m := ⟨EV.whMax - (1 + m), by rw [EV.whMax_eq]; omega⟩
  have e1 := h d p k (n + 1) post .emp hd hk
  rw [show d + 3 * b + 8 = (d + 3 * b + 7) + 1 from rfl, fe_read_term, if_pos (by rfl), ms_read_term, EV.r_run]
  show (EV.sSeq _ _ [.fr (.loc c), .emp] _).bind EV.runF = _
  have ec : tC (EV.Fn gG gP (d + 3 * b + 7)) [.fr (.loc c), .fr (exW e)] (S.set c (cuW T (p + ts.length) k)) = .ok false (S.set c (cuW T (p + ts.length) k)) := by
    unfold tC
    rw [EV.r_tru, m_acc_no (d + 3 * b + 5) hc rfl hs]
    rfl
  rw [whl_end ec] at e1
  have hw : n_read_term_1 (EV.Fn gG gP (d + 3 * b + 7)) = EV.whL (tC (EV.Fn gG gP (d + 3 * b + 7))) (n_read_term_1b (EV.Fn gG gP (d + 3 * b + 7))) (n + 1 + m) := by
    unfold n_read_term_1 EV.sWh
    rw [hn]
  rw [hw, seq_assoc, EV.r_seq, e1, EV.r_ok, EV.r_seqN]
  rfl
theorem expr_of (hc : c < S.length) (hT : T.length ≤ 1000000) {e : Ex} {ts : List Str} {b : Nat} (h : G2 S c T e ts b) (d p k : Nat) (post : List Str) (hd : T.drop p = ts ++ post) (hk : k + b ≤ 12) (hs : tok T (p + ts.length) ≠ "*") (hs1 : tok T (p + ts.length) ≠ "+") (hs2 : tok T (p + ts.length) ≠ "-") :
    EV.Fn gG gP (d + 3 * b + 9) "read_expression" [.loc c] (S.set c (cuW T p k)) = .ok (exW e) (S.set c (cuW T (p + ts.length) k)) := by
  obtain ⟨m, hm, h⟩ := h
  have hl : ts.length ≤ 1000000 := by
    have := congrArg List.length hd
    rw [List.length_drop, List.length_append] at this
    omega
  obtain ⟨n, hn⟩ : ∃ n, EV.whMax = n + 1 + m := ⟨EV.whMax - (1 + m), by rw [EV.whMax_eq]; omega⟩
  obtain ⟨y2, e1⟩ := h d p k (n + 1) post .emp .emp hd hs hk
  rw [show d + 3 * b + 9 = (d + 3 * b + 8) + 1 from rfl, fe_read_expression, if_pos (by rfl), ms_read_expression, EV.r_run]
  show (EV.sSeq _ _ [.fr (.loc c), .emp, .emp] _).bind EV.runF = _
  have ec : eC (EV.Fn gG gP (d + 3 * b + 8)) [.fr (.loc c), .fr (exW e), y2] (S.set c (cuW T (p + ts.length) k)) = .ok false (S.set c (cuW T (p + ts.length) k)) := by
    unfold eC EV.mTIn
    rw [m_peek (d + 3 * b + 7) hc rfl, EV.r_ok]
    unfold EV.wTIn
    simp only [List.lookup_cons, List.lookup_nil]
    rw [beq_false_of_ne hs1, beq_false_of_ne hs2]
    rfl
  rw [whl_end ec] at e1
  have hw : n_read_expression_1 (EV.Fn gG gP (d + 3 * b + 8)) = EV.whL (eC (EV.Fn gG gP (d + 3 * b + 8))) (n_read_expression_1b (EV.Fn gG gP (d + 3 * b + 8))) (n + 1 + m) := by
    unfold n_read_expression_1 EV.sWh
    rw [hn]
  rw [hw, seq_assoc, EV.r_seq, e1, EV.r_ok, EV.r_seqN]
  rfl
/-! the cases -/
theorem atom_head (d : Nat) (hc : c < S.length) {p k : Nat} (h1 : tok T p ≠ "(") (h2 : tok T p ≠ "min") (h3 : tok T p ≠ "max") {w : EV.W} {S' : EV.Sto} (h : EV.Fn gG gP (d + 6) "read_side" [.loc c] (S.set c (cuW T p k)) = .ok w S') :
    EV.Fn gG gP (d + 7) "read_atom" [.loc c] (S.set c (cuW T p k)) = .ok w S' := by
  rw [show d + 7 = (d + 6) + 1 from rfl, fe_read_atom, if_pos (by rfl), ms_read_atom, EV.r_run]
  show (EV.sSeq _ _ [.fr (.loc c), .emp, .emp, .emp, .emp] _).bind EV.runF = _
  have e1 := m_peek (ts := T) (p := p) (b := k) (σ := [.fr (.loc c), .emp, .emp, .emp, .emp]) (d + 5) hc rfl
  have hm : EV.wmem (.str (tok T p)) (.tup [.str "min", .str "max"]) = some false := by
    unfold EV.wmem
    simp only [EV.wflat, List.all_cons, List.all_nil, Bool.and_self, and_self, if_true, List.any_cons, List.any_nil, EV.wfeq]
    rw [beq_false_of_ne h2.symm, beq_false_of_ne h3.symm]
    rfl
  unfold n_read_atom_0 n_read_atom_1 n_read_atom_2
  generalize S.set c (cuW T p k) = S1 at *
  generalize tok T p = t at *
  generalize EV.mMeth (EV.Fn gG gP (d + 6)) (fun c => gG.mts.lookup (c, ("peek" : Str))) .other "peek" (EV.mVarB 0) EV.mNil = A at *
  simp -implicitDefEqProofs [EV.LIM, EV.str_lit, evr, EV.r_for, EV.r_rng1, EV.wbin, EV.wun, EV.wcmp, EV.vw, EV.vwz, EV.wix, EV.wblt, EV.wtru, EV.wisi, EV.frz, EV.mkOwn, L2.atI, L2.ixN, List.map, List.length_cons, List.length_nil, List.replicate, List.getElem?_cons_zero, List.getElem?_cons_succ, List.set_cons_zero, List.set_cons_succ, List.append_nil, List.cons_append, List.nil_append, e1, h1, hm, h]
theorem numS_ne {n : Nat} {s : Str} {x : Nat} (hx : x ∈ tl s) (hd : digC x = false) : numS n ≠ s := fun e => by
  have := numL_dig n x (by rw [← numS_tl, e]; exact hx)
  rw [hd] at this; cases this
theorem g_num (hc : c < S.length) {n : Nat} (hn : n ≤ 999999) : G0 S c T (.num n) [numS n] 0 := fun d p k post hd hk => by
  have ht := (tdrop (r := post) hd).1
  refine atom_head d hc ?_ ?_ ?_ (read_side_num (d + 2) hc hn ht)
  · rw [ht]; exact numS_ne (x := 40) (by decide +kernel) (by decide)
  · rw [ht]; exact numS_ne (x := 109) (by decide +kernel) (by decide)
  · rw [ht]; exact numS_ne (x := 109) (by decide +kernel) (by decide)
theorem g_ref (hc : c < S.length) {s : Str} (h : RefOk s) : G0 S c T (.ref s) [s] 0 := fun d p k post hd hk => by
  have ht := (tdrop (r := post) hd).1
  have := read_side_ref (S := S) (ts := T) (p := p) (b := k) (d + 1) hc (by rw [ht]; exact h)
  rw [ht] at this
  exact atom_head d hc (by rw [ht]; exact h.nb) (by rw [ht]; exact h.nmin) (by rw [ht]; exact h.nmax) this
theorem g_brk (hc : c < S.length) (hT : T.length ≤ 1000000) {e : Ex} {ts : List Str} {b : Nat} (h : G2 S c T e ts b) : G0 S c T e (("(" : Str) :: (ts ++ [(")" : Str)])) (b + 1) := fun d p k post hd hk => by
  rw [List.cons_append, List.append_assoc] at hd
  obtain ⟨t1, hd1, _⟩ := tdrop hd
  have hd2 := tdropn hd1
  obtain ⟨t2, _, _⟩ := tdrop hd2
  have e2 := expr_of hc hT h d (p + 1) (k + 1) _ hd1 (by omega) (by rw [t2]; decide +kernel) (by rw [t2]; decide +kernel) (by rw [t2]; decide +kernel)
  rw [show d + 3 * (b + 1) + 7 = (d + 3 * b + 9) + 1 by omega, fe_read_atom, if_pos (by rfl), ms_read_atom, EV.r_run]
  show (EV.sSeq _ _ [.fr (.loc c), .emp, .emp, .emp, .emp] _).bind EV.runF = _
  have e0 := m_peek (ts := T) (p := p) (b := k) (σ := [.fr (.loc c), .emp, .emp, .emp, .emp]) (d + 3 * b + 8) hc rfl
  rw [t1] at e0
  have a0 : n_read_atom_0 (EV.Fn gG gP (d + 3 * b + 9)) [.fr (.loc c), .emp, .emp, .emp, .emp] (S.set c (cuW T p k)) = .ok (.rt (exW e)) (S.set c (cuW T (p + 1 + ts.length + 1) k)) := by
    have et : EV.mCmpT .Eq (EV.mMeth (EV.Fn gG gP (d + 3 * b + 9)) (fun c => gG.mts.lookup (c, ("peek" : Str))) .other "peek" (EV.mVarB 0) EV.mNil) (EV.mC (.str "(")) [.fr (.loc c), .emp, .emp, .emp, .emp] (S.set c (cuW T p k)) = .ok true (S.set c (cuW T p k)) := by
      generalize EV.mMeth (EV.Fn gG gP (d + 3 * b + 9)) (fun c => gG.mts.lookup (c, ("peek" : Str))) .other "peek" (EV.mVarB 0) EV.mNil = A at *
      simp -implicitDefEqProofs [EV.LIM, EV.str_lit, evr, EV.r_for, EV.r_rng1, EV.wbin, EV.wun, EV.wcmp, EV.vw, EV.vwz, EV.wix, EV.wblt, EV.wtru, EV.wisi, EV.frz, EV.mkOwn, L2.atI, L2.ixN, List.map, List.length_cons, List.length_nil, List.replicate, List.getElem?_cons_zero, List.getElem?_cons_succ, List.set_cons_zero, List.set_cons_succ, List.append_nil, List.cons_append, List.nil_append, e0]
    unfold n_read_atom_0
    rw [EV.r_if, et, EV.r_ok, EV.r_sifT]
    unfold n_read_atom_0t
    have b0 : n_read_atom_0t_0 (EV.Fn gG gP (d + 3 * b + 9)) [.fr (.loc c), .emp, .emp, .emp, .emp] (S.set c (cuW T p k)) = .ok (.nx [.fr (.loc c), .emp, .emp, .emp, .emp]) (S.set c (cuW T (p + 1) (k + 1))) := s_open (d + 3 * b + 5) hc rfl t1 (by omega)
    have b1 : n_read_atom_0t_1 (EV.Fn gG gP (d + 3 * b + 9)) [.fr (.loc c), .emp, .emp, .emp, .emp] (S.set c (cuW T (p + 1) (k + 1))) = .ok (.nx [.fr (.loc c), .fr (exW e), .emp, .emp, .emp]) (S.set c (cuW T (p + 1 + ts.length) (k + 1))) := by
      unfold n_read_atom_0t_1
      rw [EV.r_frz, show EV.frz [.fr (.loc c), .emp, .emp, .emp, .emp] [0] = [.fr (.loc c), .emp, .emp, .emp, .emp] from rfl, EV.r_set, show EV.mCall (EV.Fn gG gP (d + 3 * b + 9)) "read_expression" (EV.mCons (EV.mVar 0) EV.mNil) [] [.fr (.loc c), .emp, .emp, .emp, .emp] (S.set c (cuW T (p + 1) (k + 1))) = .ok (exW e) (S.set c (cuW T (p + 1 + ts.length) (k + 1))) from e2]
      rfl
    have b2 : n_read_atom_0t_2 (EV.Fn gG gP (d + 3 * b + 9)) [.fr (.loc c), .fr (exW e), .emp, .emp, .emp] (S.set c (cuW T (p + 1 + ts.length) (k + 1))) = .ok (.nx [.fr (.loc c), .fr (exW e), .emp, .emp, .emp]) (S.set c (cuW T (p + 1 + ts.length + 1) k)) := s_close (d + 3 * b + 5) hc rfl t2
    rw [seq_step b0, seq_step b1, seq_step b2]
    rfl
  rw [EV.r_seq, a0, EV.r_ok, EV.r_seqR, EV.r_ok, EV.r_runR]
  rw [show p + 1 + ts.length + 1 = p + (("(" : Str) :: (ts ++ [(")" : Str)])).length by simp; omega]
end
open TL
section
variable {S : EV.Sto} {c : Nat} {T : List Str}
theorem sep_ne (x : Str) (h : x = "," ∨ x = ")") : x ≠ "*" ∧ x ≠ "+" ∧ x ≠ "-" := by
  rcases h with rfl | rfl <;> exact ⟨by decide +kernel, by decide +kernel, by decide +kernel⟩
theorem g_fn (hc : c < S.length) (hT : T.length ≤ 1000000) {kk : K5} {a e : Ex} {ts1 ts2 : List Str} {b1 b2 b : Nat} (hk5 : kk = .mn ∨ kk = .mx) (h1 : G2 S c T a ts1 b1) (h2 : G2 S c T e ts2 b2) (hb1 : b1 ≤ b) (hb2 : b2 ≤ b) :
    G0 S c T (.op kk a e) (kk.nm :: ("(" : Str) :: (ts1 ++ ("," : Str) :: (ts2 ++ [(")" : Str)]))) (b + 1) := fun d p k post hd hk => by
  rw [List.cons_append, List.cons_append, List.append_assoc, List.cons_append, List.append_assoc] at hd
  obtain ⟨t1, hd1, _⟩ := tdrop hd
  obtain ⟨t2, hd2, _⟩ := tdrop hd1
  have hd3 := tdropn hd2
  obtain ⟨t3, hd4, _⟩ := tdrop hd3
  have hd5 := tdropn hd4
  obtain ⟨t4, _, _⟩ := tdrop hd5
  obtain ⟨n1, n2, n3⟩ := sep_ne _ (.inl rfl)
  obtain ⟨m1, m2, m3⟩ := sep_ne _ (.inr rfl)
  have e1 := expr_of hc hT h1 (d + 3 * (b - b1)) (p + 1 + 1) (k + 1) _ hd2 (by omega) (by rw [t3]; exact n1) (by rw [t3]; exact n2) (by rw [t3]; exact n3)
  rw [show d + 3 * (b - b1) + 3 * b1 + 9 = d + 3 * b + 9 by omega] at e1
  have e2 := expr_of hc hT h2 (d + 3 * (b - b2)) (p + 1 + 1 + ts1.length + 1) (k + 1) _ hd4 (by omega) (by rw [t4]; exact m1) (by rw [t4]; exact m2) (by rw [t4]; exact m3)
  rw [show d + 3 * (b - b2) + 3 * b2 + 9 = d + 3 * b + 9 by omega] at e2
  rw [show d + 3 * (b + 1) + 7 = (d + 3 * b + 9) + 1 by omega, fe_read_atom, if_pos (by rfl), ms_read_atom, EV.r_run]
  show (EV.sSeq _ _ [.fr (.loc c), .emp, .emp, .emp, .emp] _).bind EV.runF = _
  have e0 := m_peek (ts := T) (p := p) (b := k) (σ := [.fr (.loc c), .emp, .emp, .emp, .emp]) (d + 3 * b + 8) hc rfl
  rw [t1] at e0
  have q1 : kk.nm ≠ "(" := by rcases hk5 with rfl | rfl <;> decide +kernel
  have q2 : EV.wmem (.str kk.nm) (.tup [.str "min", .str "max"]) = some true := by
    unfold EV.wmem
    rcases hk5 with rfl | rfl <;> rfl
  have a0 : n_read_atom_0 (EV.Fn gG gP (d + 3 * b + 9)) [.fr (.loc c), .emp, .emp, .emp, .emp] (S.set c (cuW T (p) (k))) = .ok (.nx [.fr (.loc c), .emp, .emp, .emp, .emp]) (S.set c (cuW T (p) (k))) := by
    unfold n_read_atom_0
    generalize EV.mMeth (EV.Fn gG gP (d + 3 * b + 9)) (fun c => gG.mts.lookup (c, ("peek" : Str))) .other "peek" (EV.mVarB 0) EV.mNil = A at *
    generalize kk.nm = NM at *
    generalize (S.set c (cuW T (p) (k))) = S1 at *
    simp -implicitDefEqProofs [EV.LIM, EV.str_lit, evr, EV.r_for, EV.r_rng1, EV.wbin, EV.wun, EV.wcmp, EV.vw, EV.vwz, EV.wix, EV.wblt, EV.wtru, EV.wisi, EV.frz, EV.mkOwn, L2.atI, L2.ixN, List.map, List.length_cons, List.length_nil, List.replicate, List.getElem?_cons_zero, List.getElem?_cons_succ, List.set_cons_zero, List.set_cons_succ, List.append_nil, List.cons_append, List.nil_append, e0, q1]
  have a1 : n_read_atom_1 (EV.Fn gG gP (d + 3 * b + 9)) [.fr (.loc c), .emp, .emp, .emp, .emp] (S.set c (cuW T (p) (k))) = .ok (.rt (exW (.op kk a e))) (S.set c (cuW T (p + 1 + 1 + ts1.length + 1 + ts2.length + 1) (k))) := by
    have et : EV.mCmpT .In (EV.mMeth (EV.Fn gG gP (d + 3 * b + 9)) (fun c => gG.mts.lookup (c, ("peek" : Str))) .other "peek" (EV.mVarB 0) EV.mNil) (EV.mTup (EV.mCons (EV.mC (.str "min")) (EV.mCons (EV.mC (.str "max")) EV.mNil))) [.fr (.loc c), .emp, .emp, .emp, .emp] (S.set c (cuW T (p) (k))) = .ok true (S.set c (cuW T (p) (k))) := by
      generalize EV.mMeth (EV.Fn gG gP (d + 3 * b + 9)) (fun c => gG.mts.lookup (c, ("peek" : Str))) .other "peek" (EV.mVarB 0) EV.mNil = A at *
      generalize kk.nm = NM at *
      generalize (S.set c (cuW T (p) (k))) = S1 at *
      simp -implicitDefEqProofs [EV.LIM, EV.str_lit, evr, EV.r_for, EV.r_rng1, EV.wbin, EV.wun, EV.wcmp, EV.vw, EV.vwz, EV.wix, EV.wblt, EV.wtru, EV.wisi, EV.frz, EV.mkOwn, L2.atI, L2.ixN, List.map, List.length_cons, List.length_nil, List.replicate, List.getElem?_cons_zero, List.getElem?_cons_succ, List.set_cons_zero, List.set_cons_succ, List.append_nil, List.cons_append, List.nil_append, e0, q2]
    unfold n_read_atom_1
    rw [EV.r_if, et, EV.r_ok, EV.r_sifT]
    unfold n_read_atom_1t
    have b0 : n_read_atom_1t_0 (EV.Fn gG gP (d + 3 * b + 9)) [.fr (.loc c), .emp, .emp, .emp, .emp] (S.set c (cuW T (p) (k))) = .ok (.nx [.fr (.loc c), .emp, .fr (.str kk.nm), .emp, .emp]) (S.set c (cuW T (p + 1) (k))) := by
      have e9 := m_take (ts := T) (p := p) (b := k) (σ := [.fr (.loc c), .emp, .emp, .emp, .emp]) (d + 3 * b + 7) hc rfl
      rw [t1] at e9
      unfold n_read_atom_1t_0
      rw [EV.r_set, e9]
      rfl
    have b1' : n_read_atom_1t_1 (EV.Fn gG gP (d + 3 * b + 9)) [.fr (.loc c), .emp, .fr (.str kk.nm), .emp, .emp] (S.set c (cuW T (p + 1) (k))) = .ok (.nx [.fr (.loc c), .emp, .fr (.str kk.nm), .emp, .emp]) (S.set c (cuW T (p + 1 + 1) (k + 1))) := s_open (d + 3 * b + 5) hc rfl t2 (by omega)
    have b2 : n_read_atom_1t_2 (EV.Fn gG gP (d + 3 * b + 9)) [.fr (.loc c), .emp, .fr (.str kk.nm), .emp, .emp] (S.set c (cuW T (p + 1 + 1) (k + 1))) = .ok (.nx [.fr (.loc c), .emp, .fr (.str kk.nm), .fr (exW a), .emp]) (S.set c (cuW T (p + 1 + 1 + ts1.length) (k + 1))) := by
      unfold n_read_atom_1t_2
      rw [EV.r_frz, show EV.frz [.fr (.loc c), .emp, .fr (.str kk.nm), .emp, .emp] [0] = [.fr (.loc c), .emp, .fr (.str kk.nm), .emp, .emp] from rfl, EV.r_set, show EV.mCall (EV.Fn gG gP (d + 3 * b + 9)) "read_expression" (EV.mCons (EV.mVar 0) EV.mNil) [] [.fr (.loc c), .emp, .fr (.str kk.nm), .emp, .emp] (S.set c (cuW T (p + 1 + 1) (k + 1))) = .ok (exW a) (S.set c (cuW T (p + 1 + 1 + ts1.length) (k + 1))) from e1]
      rfl
    have b3 : n_read_atom_1t_3 (EV.Fn gG gP (d + 3 * b + 9)) [.fr (.loc c), .emp, .fr (.str kk.nm), .fr (exW a), .emp] (S.set c (cuW T (p + 1 + 1 + ts1.length) (k + 1))) = .ok (.nx [.fr (.loc c), .emp, .fr (.str kk.nm), .fr (exW a), .emp]) (S.set c (cuW T (p + 1 + 1 + ts1.length + 1) (k + 1))) := s_expect (d + 3 * b + 6) hc rfl t3
    have b4 : n_read_atom_1t_4 (EV.Fn gG gP (d + 3 * b + 9)) [.fr (.loc c), .emp, .fr (.str kk.nm), .fr (exW a), .emp] (S.set c (cuW T (p + 1 + 1 + ts1.length + 1) (k + 1))) = .ok (.nx [.fr (.loc c), .emp, .fr (.str kk.nm), .fr (exW a), .fr (exW e)]) (S.set c (cuW T (p + 1 + 1 + ts1.length + 1 + ts2.length) (k + 1))) := by
      unfold n_read_atom_1t_4
      rw [EV.r_frz, show EV.frz [.fr (.loc c), .emp, .fr (.str kk.nm), .fr (exW a), .emp] [0] = [.fr (.loc c), .emp, .fr (.str kk.nm), .fr (exW a), .emp] from rfl, EV.r_set, show EV.mCall (EV.Fn gG gP (d + 3 * b + 9)) "read_expression" (EV.mCons (EV.mVar 0) EV.mNil) [] [.fr (.loc c), .emp, .fr (.str kk.nm), .fr (exW a), .emp] (S.set c (cuW T (p + 1 + 1 + ts1.length + 1) (k + 1))) = .ok (exW e) (S.set c (cuW T (p + 1 + 1 + ts1.length + 1 + ts2.length) (k + 1))) from e2]
      rfl
    have b5 : n_read_atom_1t_5 (EV.Fn gG gP (d + 3 * b + 9)) [.fr (.loc c), .emp, .fr (.str kk.nm), .fr (exW a), .fr (exW e)] (S.set c (cuW T (p + 1 + 1 + ts1.length + 1 + ts2.length) (k + 1))) = .ok (.nx [.fr (.loc c), .emp, .fr (.str kk.nm), .fr (exW a), .fr (exW e)]) (S.set c (cuW T (p + 1 + 1 + ts1.length + 1 + ts2.length + 1) (k))) := s_close (d + 3 * b + 5) hc rfl t4
    rw [seq_step b0, seq_step b1', seq_step b2, seq_step b3, seq_step b4, seq_step b5]
    rfl
  rw [seq_step a0, EV.r_seq, a1, EV.r_ok, EV.r_seqR, EV.r_ok, EV.r_runR]
  rw [show p + 1 + 1 + ts1.length + 1 + ts2.length + 1 = p + (kk.nm :: ("(" : Str) :: (ts1 ++ ("," : Str) :: (ts2 ++ [(")" : Str)]))).length by simp; omega]
theorem g_up1 (hc : c < S.length) {e : Ex} {ts : List Str} {b : Nat} (h : G0 S c T e ts b) : G1 S c T e ts b := ⟨0, Nat.zero_le _, fun d p k n post x1 hd hk => by
  have e0 := h d p k post hd hk
  have a0 : n_read_term_0 (EV.Fn gG gP (d + 3 * b + 7)) [.fr (.loc c), x1] (S.set c (cuW T p k)) = .ok (.nx [.fr (.loc c), .fr (exW e)]) (S.set c (cuW T (p + ts.length) k)) := by
    unfold n_read_term_0
    rw [EV.r_frz, show EV.frz [.fr (.loc c), x1] [0] = [.fr (.loc c), x1] from rfl, EV.r_set, show EV.mCall (EV.Fn gG gP (d + 3 * b + 7)) "read_atom" (EV.mCons (EV.mVar 0) EV.mNil) [] [.fr (.loc c), x1] (S.set c (cuW T p k)) = .ok (exW e) (S.set c (cuW T (p + ts.length) k)) from e0]
    rfl
  rw [seq_step a0]
  rfl⟩
theorem g_mul (hc : c < S.length) {a e : Ex} {ts1 ts2 : List Str} {b1 b2 b : Nat} (h1 : G1 S c T a ts1 b1) (h2 : G0 S c T e ts2 b2) (hb1 : b1 ≤ b) (hb2 : b2 ≤ b) : G1 S c T (.op .mul a e) (ts1 ++ ("*" : Str) :: ts2) b := by
  obtain ⟨m, hm, h1⟩ := h1
  refine ⟨m + 1, by simp; omega, fun d p k n post x1 hd hk => ?_⟩
  rw [List.append_assoc, List.cons_append] at hd
  have hd1 := tdropn hd
  obtain ⟨t1, hd2, _⟩ := tdrop hd1
  have e1 := h1 (d + 3 * (b - b1)) p k (n + 1) _ x1 hd (by omega)
  rw [show d + 3 * (b - b1) + 3 * b1 + 7 = d + 3 * b + 7 by omega] at e1
  have e2 := h2 (d + 3 * (b - b2)) (p + ts1.length + 1) k _ hd2 (by omega)
  rw [show d + 3 * (b - b2) + 3 * b2 + 7 = d + 3 * b + 7 by omega] at e2
  rw [show n + (m + 1) = n + 1 + m by omega, e1]
  have ec : tC (EV.Fn gG gP (d + 3 * b + 7)) [.fr (.loc c), .fr (exW a)] (S.set c (cuW T (p + ts1.length) k)) = .ok true (S.set c (cuW T (p + ts1.length + 1) k)) := by
    unfold tC
    rw [EV.r_tru, m_acc_yes (d + 3 * b + 5) hc rfl t1]
    rfl
  have eb : n_read_term_1b (EV.Fn gG gP (d + 3 * b + 7)) [.fr (.loc c), .fr (exW a)] (S.set c (cuW T (p + ts1.length + 1) k)) = .ok (.nx [.fr (.loc c), .fr (exW (.op .mul a e))]) (S.set c (cuW T (p + ts1.length + 1 + ts2.length) k)) := by
    unfold n_read_term_1b n_read_term_1b_0
    generalize S.set c (cuW T (p + ts1.length + 1) k) = S1 at *
    generalize S.set c (cuW T (p + ts1.length + 1 + ts2.length) k) = S2 at *
    show _ = EV.Res.ok (EV.Fl.nx [EV.Sl.fr (EV.W.loc c), EV.Sl.fr (EV.W.tup [.str "mul", exW a, exW e])]) S2
    generalize exW a = WA at *
    generalize exW e = WE at *
    simp -implicitDefEqProofs [EV.LIM, EV.str_lit, evr, EV.r_for, EV.r_rng1, EV.wbin, EV.wun, EV.wcmp, EV.vw, EV.vwz, EV.wix, EV.wblt, EV.wtru, EV.wisi, EV.frz, EV.mkOwn, L2.atI, L2.ixN, List.map, List.length_cons, List.length_nil, List.replicate, List.getElem?_cons_zero, List.getElem?_cons_succ, List.set_cons_zero, List.set_cons_succ, List.append_nil, List.cons_append, List.nil_append, e2]
  rw [whl_go ec (.inl eb), show p + ts1.length + 1 + ts2.length = p + (ts1 ++ ("*" : Str) :: ts2).length by simp; omega]
theorem g_up2 (hc : c < S.length) (hT : T.length ≤ 1000000) {e : Ex} {ts : List Str} {b : Nat} (h : G1 S c T e ts b) : G2 S c T e ts b := ⟨0, Nat.zero_le _, fun d p k n post x1 x2 hd hs hk => ⟨x2, by
  have e0 := term_of hc hT h d p k post hd hk hs
  have a0 : n_read_expression_0 (EV.Fn gG gP (d + 3 * b + 8)) [.fr (.loc c), x1, x2] (S.set c (cuW T p k)) = .ok (.nx [.fr (.loc c), .fr (exW e), x2]) (S.set c (cuW T (p + ts.length) k)) := by
    unfold n_read_expression_0
    rw [EV.r_frz, show EV.frz [.fr (.loc c), x1, x2] [0] = [.fr (.loc c), x1, x2] from rfl, EV.r_set, show EV.mCall (EV.Fn gG gP (d + 3 * b + 8)) "read_term" (EV.mCons (EV.mVar 0) EV.mNil) [] [.fr (.loc c), x1, x2] (S.set c (cuW T p k)) = .ok (exW e) (S.set c (cuW T (p + ts.length) k)) from e0]
    rfl
  rw [seq_step a0]
  rfl⟩⟩
theorem g_sum (hc : c < S.length) (hT : T.length ≤ 1000000) {kk : K5} {a e : Ex} {ts1 ts2 : List Str} {b1 b2 b : Nat} (hk5 : kk = .add ∨ kk = .sub) (h1 : G2 S c T a ts1 b1) (h2 : G1 S c T e ts2 b2) (hb1 : b1 ≤ b) (hb2 : b2 ≤ b) : G2 S c T (.op kk a e) (ts1 ++ kk.sg :: ts2) b := by
  obtain ⟨m, hm, h1⟩ := h1
  refine ⟨m + 1, by simp; omega, fun d p k n post x1 x2 hd hs hk => ?_⟩
  rw [List.append_assoc, List.cons_append] at hd
  have hd1 := tdropn hd
  obtain ⟨t1, hd2, _⟩ := tdrop hd1
  have hpl : p + (ts1 ++ kk.sg :: ts2).length = p + ts1.length + 1 + ts2.length := by simp; omega
  rw [hpl] at hs ⊢
  obtain ⟨y2, e1⟩ := h1 (d + 3 * (b - b1)) p k (n + 1) _ x1 x2 hd (by rw [t1]; rcases hk5 with rfl | rfl <;> decide +kernel) (by omega)
  rw [show d + 3 * (b - b1) + 3 * b1 + 8 = d + 3 * b + 8 by omega] at e1
  have e2 := term_of hc hT h2 (d + 3 * (b - b2)) (p + ts1.length + 1) k _ hd2 (by omega) hs
  rw [show d + 3 * (b - b2) + 3 * b2 + 8 = d + 3 * b + 8 by omega] at e2
  refine ⟨.fr (.str kk.nm), ?_⟩
  rw [show n + (m + 1) = n + 1 + m by omega, e1]
  have hl : ([("+", .str "add"), ("-", .str "sub")] : List (Str × EV.W)).lookup kk.sg = some (.str kk.nm) := by rcases hk5 with rfl | rfl <;> rfl
  have ec : eC (EV.Fn gG gP (d + 3 * b + 8)) [.fr (.loc c), .fr (exW a), y2] (S.set c (cuW T (p + ts1.length) k)) = .ok true (S.set c (cuW T (p + ts1.length) k)) := by
    unfold eC EV.mTIn
    rw [m_peek (d + 3 * b + 7) hc rfl, EV.r_ok, t1]
    unfold EV.wTIn
    simp only [hl]
    rfl
  have eb : n_read_expression_1b (EV.Fn gG gP (d + 3 * b + 8)) [.fr (.loc c), .fr (exW a), y2] (S.set c (cuW T (p + ts1.length) k)) = .ok (.nx [.fr (.loc c), .fr (exW (.op kk a e)), .fr (.str kk.nm)]) (S.set c (cuW T (p + ts1.length + 1 + ts2.length) k)) := by
    have a0 : n_read_expression_1b_0 (EV.Fn gG gP (d + 3 * b + 8)) [.fr (.loc c), .fr (exW a), y2] (S.set c (cuW T (p + ts1.length) k)) = .ok (.nx [.fr (.loc c), .fr (exW a), .fr (.str kk.nm)]) (S.set c (cuW T (p + ts1.length + 1) k)) := by
      unfold n_read_expression_1b_0
      rw [EV.r_set]
      unfold EV.mTSub
      rw [m_take (d + 3 * b + 6) hc rfl, EV.r_ok, t1]
      unfold EV.wTSub
      simp only [hl]
      rfl
    unfold n_read_expression_1b
    rw [seq_step a0]
    unfold n_read_expression_1b_1
    generalize S.set c (cuW T (p + ts1.length + 1) k) = S1 at *
    generalize S.set c (cuW T (p + ts1.length + 1 + ts2.length) k) = S2 at *
    show _ = EV.Res.ok (EV.Fl.nx [EV.Sl.fr (EV.W.loc c), EV.Sl.fr (EV.W.tup [.str kk.nm, exW a, exW e]), .fr (.str kk.nm)]) S2
    generalize exW a = WA at *
    generalize exW e = WE at *
    generalize kk.nm = NM at *
    simp -implicitDefEqProofs [EV.LIM, EV.str_lit, evr, EV.r_for, EV.r_rng1, EV.wbin, EV.wun, EV.wcmp, EV.vw, EV.vwz, EV.wix, EV.wblt, EV.wtru, EV.wisi, EV.frz, EV.mkOwn, L2.atI, L2.ixN, List.map, List.length_cons, List.length_nil, List.replicate, List.getElem?_cons_zero, List.getElem?_cons_succ, List.set_cons_zero, List.set_cons_succ, List.append_nil, List.cons_append, List.nil_append, e2]
  rw [whl_go ec (.inl eb)]
def GL (S : EV.Sto) (c : Nat) (T : List Str) : Nat → Ex → List Str → Nat → Prop
  | 0, e, ts, b => G0 S c T e ts b
  | 1, e, ts, b => G1 S c T e ts b
  | _, e, ts, b => G2 S c T e ts b
theorem goodG (hc : c < S.length) (hT : T.length ≤ 1000000) {l : Nat} {e : Ex} {ts : List Str} {b : Nat} (h : P l e ts b) : GL S c T l e ts b := by
  induction h with
  | num hn => exact g_num hc hn
  | ref h => exact g_ref hc h
  | brk _ ih => exact g_brk hc hT ih
  | fn hk _ _ b1 b2 i1 i2 => exact g_fn hc hT hk i1 i2 b1 b2
  | up1 _ ih => exact g_up1 hc ih
  | mul _ _ b1 b2 i1 i2 => exact g_mul hc i1 i2 b1 b2
  | up2 _ ih => exact g_up2 hc hT ih
  | sum hk _ _ b1 b2 i1 i2 => exact g_sum hc hT hk i1 i2 b1 b2
end
open TL
def n_line_cursor_0 (F : EV.Fenv) : EV.M EV.Fl := (EV.sFrz [0] (EV.sSet 2 (EV.mCall F "line_tokens" (EV.mCons (EV.mVar 0) EV.mNil) [])))
def n_line_cursor_1t_0 (F : EV.Fenv) : EV.M EV.Fl := EV.mBad
def n_line_cursor_1t (F : EV.Fenv) : EV.M EV.Fl := (n_line_cursor_1t_0 F)
def n_line_cursor_1 (F : EV.Fenv) : EV.M EV.Fl := (EV.sIf (EV.mCmpT .Is (EV.mVarB 2) (EV.mC (.non))) (n_line_cursor_1t F) EV.sNext)
def n_line_cursor_2 (F : EV.Fenv) : EV.M EV.Fl := (EV.sFrz [2, 1] (EV.sRet (EV.mMake F "Cursor" ("Cursor" ++ ".__init__") (EV.mCons (EV.mVar 2) (EV.mCons (EV.mVar 1) EV.mNil)))))
theorem ms_line_cursor (F : EV.Fenv) : m_line_cursor F = (EV.sSeq (n_line_cursor_0 F) (EV.sSeq (n_line_cursor_1 F) (n_line_cursor_2 F))) := by kernel_rfl
def n_parse_expression_0 (F : EV.Fenv) : EV.M EV.Fl := (EV.sFrz [0] (EV.sSet 1 (EV.mCall F "line_cursor" (EV.mCons (EV.mVar 0) (EV.mCons (EV.mC (.int 1)) EV.mNil)) [])))
def n_parse_expression_1 (F : EV.Fenv) : EV.M EV.Fl := (EV.sFrz [1] (EV.sSet 2 (EV.mCall F "read_expression" (EV.mCons (EV.mVar 1) EV.mNil) [])))
def n_parse_expression_2 (F : EV.Fenv) : EV.M EV.Fl := (EV.sMut (EV.mutE F (fun c => gG.mts.lookup (c, ("finish" : Str))) .other "finish" 1 EV.mNil))
def n_parse_expression_3 (F : EV.Fenv) : EV.M EV.Fl := (EV.sFrz [2] (EV.sRet (EV.mVar 2)))
theorem ms_parse_expression (F : EV.Fenv) : m_parse_expression F = (EV.sSeq (n_parse_expression_0 F) (EV.sSeq (n_parse_expression_1 F) (EV.sSeq (n_parse_expression_2 F) (n_parse_expression_3 F)))) := by kernel_rfl
section
variable {S : EV.Sto} {t : Str}
theorem cur_init (d : Nat) (T : List Str) : EV.Fn gG gP (d + 1) "Cursor.__init__" [.loc S.length, .lst (tkW T), .int 1] (S ++ [.ins "Cursor" []]) = .ok .non (S ++ [cuW T 0 0]) := by
  have g : ∀ x : EV.Ob, (S ++ [x])[S.length]? = some x := fun x => by simp
  have s : ∀ x y : EV.Ob, (S ++ [x]).set S.length y = S ++ [y] := fun x y => by rw [List.set_append_right _ _ (Nat.le_refl _), Nat.sub_self]; rfl
  rw [fe_Cursoru_initu, if_pos (by rfl), ms_Cursoru_initu, EV.r_run]
  show (EV.sSeq _ _ [.fr (.loc S.length), .fr (.lst (tkW T)), .fr (.int 1)] _).bind EV.runF = _
  unfold cuW
  generalize tkW T = TW at *
  simp -implicitDefEqProofs [EV.LIM, EV.str_lit, evr, EV.r_for, EV.r_rng1, EV.wbin, EV.wun, EV.wcmp, EV.vw, EV.vwz, EV.wix, EV.wblt, EV.wtru, EV.wisi, EV.frz, EV.mkOwn, L2.atI, L2.ixN, List.map, List.length_cons, List.length_nil, List.replicate, List.getElem?_cons_zero, List.getElem?_cons_succ, List.set_cons_zero, List.set_cons_succ, List.append_nil, List.cons_append, List.nil_append, fo0, fo1, fo2, fo3, mo0, mo1, mo2, mo3, mo4, mo5, mo6, n_Cursoru_initu_0, n_Cursoru_initu_1, n_Cursoru_initu_2, n_Cursoru_initu_3, EV.fput, g, s]
theorem line_cursor_ex (d : Nat) (hl : t.length ≤ 1000000) {l : List (Nat × Str)} {k : Nat} (h : tl t = lay l ++ List.replicate k 32) (ht : ∀ q ∈ l, TokOk q.2) (ha : Apart (l.map (·.2))) :
    EV.Fn gG gP (d + 3) "line_cursor" [.str t, .int 1] S = .ok (.loc S.length) (S ++ [cuW (l.map (·.2)) 0 0]) := by
  have e1 := line_tokens_ex (S := S) d hl h ht ha
  have e2 := cur_init (S := S) (d + 1) (l.map (·.2))
  rw [show ("Cursor.__init__" : Str) = ("Cursor" : Str) ++ (".__init__" : Str) by decide +kernel] at e2
  rw [fe_line_cursor, if_pos (by rfl), ms_line_cursor, EV.r_run]
  show (EV.sSeq _ _ [.fr (.str t), .fr (.int 1), .emp] _).bind EV.runF = _
  generalize cuW (l.map (·.2)) 0 0 = CU at *
  generalize tkW (l.map (·.2)) = TW at *
  simp -implicitDefEqProofs [EV.LIM, EV.str_lit, evr, EV.r_for, EV.r_rng1, EV.wbin, EV.wun, EV.wcmp, EV.vw, EV.vwz, EV.wix, EV.wblt, EV.wtru, EV.wisi, EV.frz, EV.mkOwn, L2.atI, L2.ixN, List.map, List.length_cons, List.length_nil, List.replicate, List.getElem?_cons_zero, List.getElem?_cons_succ, List.set_cons_zero, List.set_cons_succ, List.append_nil, List.cons_append, List.nil_append, fo0, fo1, fo2, fo3, mo0, mo1, mo2, mo3, mo4, mo5, mo6, n_line_cursor_0, n_line_cursor_1, n_line_cursor_2, e1, e2]
theorem mo_fin' : True := trivial
theorem parse_ex (d : Nat) (hl : t.length ≤ 1000000) {l : List (Nat × Str)} {k : Nat} (h : tl t = lay l ++ List.replicate k 32) (ht : ∀ q ∈ l, TokOk q.2) (ha : Apart (l.map (·.2))) {e : Ex} {b : Nat} (hp : P 2 e (l.map (·.2)) b) (hb : b ≤ 12) :
    EV.Fn gG gP (d + 47) "parse_expression" [.str t] S = .ok (exW e) (S ++ [cuW (l.map (·.2)) l.length 0]) := by
  have hll : l.length ≤ 1000000 := by
    have h1 := (cost_le ht).2
    have h2 : (lay l).length + k = t.length := by rw [len_tl, h]; simp
    omega
  have hc : S.length < (S ++ [cuW (l.map (·.2)) 0 0]).length := by simp
  have s : ∀ p k, (S ++ [cuW (l.map (·.2)) 0 0]).set S.length (cuW (l.map (·.2)) p k) = S ++ [cuW (l.map (·.2)) p k] := fun p k => by rw [List.set_append_right _ _ (Nat.le_refl _), Nat.sub_self]; rfl
  have e1 := line_cursor_ex (S := S) (d + 43) hl h ht ha
  have hend : tok (l.map (·.2)) (0 + (l.map (·.2)).length) = ("" : Str) := by
    unfold tok
    rw [List.getD_eq_getElem?_getD, List.getElem?_eq_none (by omega)]
    decide +kernel
  have hTl : (l.map (·.2)).length ≤ 1000000 := by rw [List.length_map]; exact hll
  have hgo : G2 (S ++ [cuW (l.map (·.2)) 0 0]) S.length (l.map (·.2)) e (l.map (·.2)) b := goodG hc hTl hp
  have e2 := expr_of hc hTl hgo (d + 37 - 3 * b) 0 0 [] (by rw [List.append_nil]; rfl) (by omega) (by rw [hend]; decide +kernel) (by rw [hend]; decide +kernel) (by rw [hend]; decide +kernel)
  rw [show d + 37 - 3 * b + 3 * b + 9 = d + 46 by omega, s, s, Nat.zero_add, List.length_map] at e2
  have e3 := finish_ex (S := S ++ [cuW (l.map (·.2)) 0 0]) (ts := l.map (·.2)) (p := l.length) (b := 0) (d + 44) hc (by rw [Nat.zero_add, List.length_map] at hend; exact hend)
  rw [s] at e3
  rw [fe_parse_expression, if_pos (by rfl), ms_parse_expression, EV.r_run]
  show (EV.sSeq _ _ [.fr (.str t), .emp, .emp] _).bind EV.runF = _
  have a0 : n_parse_expression_0 (EV.Fn gG gP (d + 46)) [.fr (.str t), .emp, .emp] S = .ok (.nx [.fr (.str t), .fr (.loc S.length), .emp]) (S ++ [cuW (l.map (·.2)) 0 0]) := by
    generalize cuW (l.map (·.2)) 0 0 = CU at *
    simp -implicitDefEqProofs [EV.LIM, EV.str_lit, evr, EV.r_for, EV.r_rng1, EV.wbin, EV.wun, EV.wcmp, EV.vw, EV.vwz, EV.wix, EV.wblt, EV.wtru, EV.wisi, EV.frz, EV.mkOwn, L2.atI, L2.ixN, List.map, List.length_cons, List.length_nil, List.replicate, List.getElem?_cons_zero, List.getElem?_cons_succ, List.set_cons_zero, List.set_cons_succ, List.append_nil, List.cons_append, List.nil_append, n_parse_expression_0, e1]
  have a1 : n_parse_expression_1 (EV.Fn gG gP (d + 46)) [.fr (.str t), .fr (.loc S.length), .emp] (S ++ [cuW (l.map (·.2)) 0 0]) = .ok (.nx [.fr (.str t), .fr (.loc S.length), .fr (exW e)]) (S ++ [cuW (l.map (·.2)) l.length 0]) := by
    generalize exW e = WE at *
    generalize S ++ [cuW (l.map (·.2)) 0 0] = S1 at *
    generalize S ++ [cuW (l.map (·.2)) l.length 0] = S2 at *
    simp -implicitDefEqProofs [EV.LIM, EV.str_lit, evr, EV.r_for, EV.r_rng1, EV.wbin, EV.wun, EV.wcmp, EV.vw, EV.vwz, EV.wix, EV.wblt, EV.wtru, EV.wisi, EV.frz, EV.mkOwn, L2.atI, L2.ixN, List.map, List.length_cons, List.length_nil, List.replicate, List.getElem?_cons_zero, List.getElem?_cons_succ, List.set_cons_zero, List.set_cons_succ, List.append_nil, List.cons_append, List.nil_append, n_parse_expression_1, e2]
  have a2 : n_parse_expression_2 (EV.Fn gG gP (d + 46)) [.fr (.str t), .fr (.loc S.length), .fr (exW e)] (S ++ [cuW (l.map (·.2)) l.length 0]) = .ok (.nx [.fr (.str t), .fr (.loc S.length), .fr (exW e)]) (S ++ [cuW (l.map (·.2)) l.length 0]) := by
    unfold n_parse_expression_2
    exact mut_ins (n := S.length) (cl := "Cursor") rfl (by rw [List.getElem?_append_right (Nat.le_refl _), Nat.sub_self]; rfl) mo_finish (by kernel_rfl) (by decide) rfl e3
  rw [seq_step a0, seq_step a1, seq_step a2]
  generalize exW e = WE at *
  simp -implicitDefEqProofs [EV.LIM, EV.str_lit, evr, EV.r_for, EV.r_rng1, EV.wbin, EV.wun, EV.wcmp, EV.vw, EV.vwz, EV.wix, EV.wblt, EV.wtru, EV.wisi, EV.frz, EV.mkOwn, L2.atI, L2.ixN, List.map, List.length_cons, List.length_nil, List.replicate, List.getElem?_cons_zero, List.getElem?_cons_succ, List.set_cons_zero, List.set_cons_succ, List.append_nil, List.cons_append, List.nil_append, n_parse_expression_3]
end
open TL
def n_lw_expr_text_0t_0 (F : EV.Fenv) : EV.M EV.Fl := (EV.sRet (EV.mBlt .str (EV.mCons (EV.mIx (EV.mVarB 0) (EV.mC (.int 1))) EV.mNil)))
def n_lw_expr_text_0t (F : EV.Fenv) : EV.M EV.Fl := (n_lw_expr_text_0t_0 F)
def n_lw_expr_text_0 (F : EV.Fenv) : EV.M EV.Fl := (EV.sIf (EV.mCmpT .In (EV.mIx (EV.mVarB 0) (EV.mC (.int 0))) (EV.mTup (EV.mCons (EV.mC (.str "num")) (EV.mCons (EV.mC (.str "ref")) EV.mNil)))) (n_lw_expr_text_0t F) EV.sNext)
def n_lw_expr_text_1 (F : EV.Fenv) : EV.M EV.Fl := (EV.sSet 1 (EV.mCall F "_law_expr_text" (EV.mCons (EV.mIx (EV.mVarB 0) (EV.mC (.int 1))) EV.mNil) []))
def n_lw_expr_text_2 (F : EV.Fenv) : EV.M EV.Fl := (EV.sSet 2 (EV.mCall F "_law_expr_text" (EV.mCons (EV.mIx (EV.mVarB 0) (EV.mC (.int 2))) EV.mNil) []))
def n_lw_expr_text_3t_0 (F : EV.Fenv) : EV.M EV.Fl := (EV.sRet (EV.mBin .Add (EV.mBin .Add (EV.mBin .Add (EV.mBin .Add (EV.mBin .Add (EV.mIx (EV.mVarB 0) (EV.mC (.int 0))) (EV.mC (.str "("))) (EV.mVarB 1)) (EV.mC (.str ", "))) (EV.mVarB 2)) (EV.mC (.str ")"))))
def n_lw_expr_text_3t (F : EV.Fenv) : EV.M EV.Fl := (n_lw_expr_text_3t_0 F)
def n_lw_expr_text_3 (F : EV.Fenv) : EV.M EV.Fl := (EV.sIf (EV.mCmpT .In (EV.mIx (EV.mVarB 0) (EV.mC (.int 0))) (EV.mTup (EV.mCons (EV.mC (.str "min")) (EV.mCons (EV.mC (.str "max")) EV.mNil)))) (n_lw_expr_text_3t F) EV.sNext)
def n_lw_expr_text_4t_0 (F : EV.Fenv) : EV.M EV.Fl := (EV.sSetF 1 (EV.mBin .Add (EV.mBin .Add (EV.mC (.str "(")) (EV.mVarB 1)) (EV.mC (.str ")"))))
def n_lw_expr_text_4t (F : EV.Fenv) : EV.M EV.Fl := (n_lw_expr_text_4t_0 F)
def n_lw_expr_text_4 (F : EV.Fenv) : EV.M EV.Fl := (EV.sIf (EV.mAnd (EV.mCmpT .Eq (EV.mIx (EV.mVarB 0) (EV.mC (.int 0))) (EV.mC (.str "mul"))) (EV.mCmpT .In (EV.mIx (EV.mIx (EV.mVarB 0) (EV.mC (.int 1))) (EV.mC (.int 0))) (EV.mTup (EV.mCons (EV.mC (.str "add")) (EV.mCons (EV.mC (.str "sub")) EV.mNil))))) (n_lw_expr_text_4t F) EV.sNext)
def n_lw_expr_text_5t_0 (F : EV.Fenv) : EV.M EV.Fl := (EV.sSetF 2 (EV.mBin .Add (EV.mBin .Add (EV.mC (.str "(")) (EV.mVarB 2)) (EV.mC (.str ")"))))
def n_lw_expr_text_5t (F : EV.Fenv) : EV.M EV.Fl := (n_lw_expr_text_5t_0 F)
def n_lw_expr_text_5 (F : EV.Fenv) : EV.M EV.Fl := (EV.sIf (EV.mOr (EV.mCmpT .In (EV.mIx (EV.mIx (EV.mVarB 0) (EV.mC (.int 2))) (EV.mC (.int 0))) (EV.mTup (EV.mCons (EV.mC (.str "add")) (EV.mCons (EV.mC (.str "sub")) EV.mNil)))) (EV.mAnd (EV.mCmpT .Eq (EV.mIx (EV.mVarB 0) (EV.mC (.int 0))) (EV.mC (.str "mul"))) (EV.mCmpT .Eq (EV.mIx (EV.mIx (EV.mVarB 0) (EV.mC (.int 2))) (EV.mC (.int 0))) (EV.mC (.str "mul"))))) (n_lw_expr_text_5t F) EV.sNext)
def n_lw_expr_text_6 (F : EV.Fenv) : EV.M EV.Fl := (EV.sRet (EV.mBin .Add (EV.mBin .Add (EV.mVarB 1) (EV.mIx (EV.mDict [((EV.mC (.str "add")), (EV.mC (.str " + "))), ((EV.mC (.str "sub")), (EV.mC (.str " - "))), ((EV.mC (.str "mul")), (EV.mC (.str " * ")))]) (EV.mIx (EV.mVarB 0) (EV.mC (.int 0))))) (EV.mVarB 2)))
theorem ms_lw_expr_text (F : EV.Fenv) : m_lw_expr_text F = (EV.sSeq (n_lw_expr_text_0 F) (EV.sSeq (n_lw_expr_text_1 F) (EV.sSeq (n_lw_expr_text_2 F) (EV.sSeq (n_lw_expr_text_3 F) (EV.sSeq (n_lw_expr_text_4 F) (EV.sSeq (n_lw_expr_text_5 F) (n_lw_expr_text_6 F))))))) := by kernel_rfl
/-! ### an expression's text -/
def Ex.hd : Ex → Str
  | .num _ => "num" | .ref _ => "ref" | .op k _ _ => k.nm
def Ex.lv : Ex → Nat
  | .op .add _ _ => 2 | .op .sub _ _ => 2 | .op .mul _ _ => 1 | _ => 0
def Ex.sz : Ex → Nat
  | .op _ a b => a.sz + b.sz | _ => 1
def Ex.ht : Ex → Nat
  | .op _ a b => max a.ht b.ht + 1 | _ => 0
def ExOk : Ex → Prop
  | .num n => n ≤ 999999 | .ref s => RefOk s | .op _ a b => ExOk a ∧ ExOk b
def wrp (c : Bool) (t : Str) : Str := if c then (("(" : Str) ++ t) ++ (")" : Str) else t
def K5.opT : K5 → Str
  | .add => " + " | .sub => " - " | .mul => " * " | _ => ""
def K5.fn : K5 → Bool
  | .mn => true | .mx => true | _ => false
/-- the operands that stand in brackets -/
def bL (k : K5) (a : Ex) : Bool := decide (k = .mul) && decide (a.lv = 2)
def bR (k : K5) (b : Ex) : Bool := decide (b.lv = 2) || (decide (k = .mul) && decide (b.lv = 1))
def txt : Ex → Str
  | .num n => numS n
  | .ref s => s
  | .op k a b => if k.fn then ((((k.nm ++ ("(" : Str)) ++ txt a) ++ (", " : Str)) ++ txt b) ++ (")" : Str) else (wrp (bL k a) (txt a) ++ k.opT) ++ wrp (bR k b) (txt b)
theorem len_o : ("(" : Str).length = 1 := by decide +kernel
theorem len_c : (")" : Str).length = 1 := by decide +kernel
theorem len_m : (", " : Str).length = 2 := by decide +kernel
theorem len_nm (k : K5) : k.nm.length = 3 := by cases k <;> decide +kernel
theorem len_opT (k : K5) : k.opT.length ≤ 3 := by cases k <;> decide +kernel
theorem wrp_len (c : Bool) (t : Str) : (wrp c t).length ≤ t.length + 2 := by
  unfold wrp
  split
  · rw [app_len, app_len, len_o, len_c]; omega
  · omega
theorem txt_len : ∀ (e : Ex), ExOk e → (txt e).length + 10 ≤ 220 * e.sz
  | .num n, h => by
    have : (numL n).length ≤ 6 := numL_len (by decide) (by have : n ≤ 999999 := h; omega)
    show (numS n).length + 10 ≤ 220 * 1
    rw [len_tl, numS_tl]
    omega
  | .ref s, h => by
    have := (show RefOk s from h).len
    show s.length + 10 ≤ 220 * 1
    omega
  | .op k a b, h => by
    have h1 := txt_len a h.1
    have h2 := txt_len b h.2
    show (txt (.op k a b)).length + 10 ≤ 220 * (a.sz + b.sz)
    unfold txt
    split
    · rw [app_len, app_len, app_len, app_len, app_len, len_o, len_c, len_m, len_nm]; omega
    · have := wrp_len (bL k a) (txt a)
      have := wrp_len (bR k b) (txt b)
      have := len_opT k
      rw [app_len, app_len]
      omega
theorem exW_hd (e : Ex) : ∃ r, exW e = .tup (.str e.hd :: r) := by
  cases e with
  | num n => exact ⟨_, rfl⟩
  | ref s => exact ⟨_, rfl⟩
  | op k a b => exact ⟨_, rfl⟩
theorem hd_sum (e : Ex) : EV.wmem (.str e.hd) (.tup [.str "add", .str "sub"]) = some (decide (e.lv = 2)) := by
  cases e with
  | num n => rfl
  | ref s => rfl
  | op k a b => cases k <;> rfl
theorem hd_mul (e : Ex) : decide (e.hd = ("mul" : Str)) = decide (e.lv = 1) := by
  cases e with
  | num n => exact (by decide +kernel : decide (("num" : Str) = "mul") = decide ((0 : Nat) = 1))
  | ref s => exact (by decide +kernel : decide (("ref" : Str) = "mul") = decide ((0 : Nat) = 1))
  | op k a b =>
    cases k with
    | add => exact (by decide +kernel : decide (("add" : Str) = "mul") = decide ((2 : Nat) = 1))
    | sub => exact (by decide +kernel : decide (("sub" : Str) = "mul") = decide ((2 : Nat) = 1))
    | mul => exact (by decide +kernel : decide (("mul" : Str) = "mul") = decide ((1 : Nat) = 1))
    | mn => exact (by decide +kernel : decide (("min" : Str) = "mul") = decide ((0 : Nat) = 1))
    | mx => exact (by decide +kernel : decide (("max" : Str) = "mul") = decide ((0 : Nat) = 1))
theorem txt_fn {k : K5} {a b : Ex} (h : k.fn = true) : txt (.op k a b) = ((((k.nm ++ ("(" : Str)) ++ txt a) ++ (", " : Str)) ++ txt b) ++ (")" : Str) := by rw [txt, if_pos h]
theorem txt_ar {k : K5} {a b : Ex} (h : k.fn = false) : txt (.op k a b) = (wrp (bL k a) (txt a) ++ k.opT) ++ wrp (bR k b) (txt b) := by rw [txt, if_neg (by rw [h]; simp)]
theorem nm_leaf (k : K5) : EV.wmem (.str k.nm) (.tup [.str "num", .str "ref"]) = some false := by cases k <;> rfl
theorem nm_fn (k : K5) : EV.wmem (.str k.nm) (.tup [.str "min", .str "max"]) = some k.fn := by cases k <;> rfl
theorem nm_mul (k : K5) : decide (k.nm = ("mul" : Str)) = decide (k = .mul) := by cases k <;> decide +kernel
section
variable {σ : EV.Sls} {S S1 S2 : EV.Sto}
theorem add_s {a b : EV.M EV.W} {x y : Str} (ha : a σ S = .ok (.str x) S1) (hb : b σ S1 = .ok (.str y) S2) (h : x.length + y.length ≤ sizeLine) : EV.mBin .Add a b σ S = .ok (.str (x ++ y)) S2 := by
  simp -implicitDefEqProofs [EV.LIM, EV.str_lit, evr, EV.r_for, EV.r_rng1, EV.wbin, EV.wun, EV.wcmp, EV.vw, EV.vwz, EV.wix, EV.wblt, EV.wtru, EV.wisi, EV.frz, EV.mkOwn, L2.atI, L2.ixN, List.map, List.length_cons, List.length_nil, List.replicate, List.getElem?_cons_zero, List.getElem?_cons_succ, List.set_cons_zero, List.set_cons_succ, List.append_nil, List.cons_append, List.nil_append, ha, hb, h]
theorem str_num {n : Nat} (h : n ≤ 999999) {a : EV.M EV.W} (ha : a σ S = .ok (.int n) S) : EV.mBlt .str (EV.mCons a EV.mNil) σ S = .ok (.str (numS n)) S := by
  have hl : n.log2 < 1920 := by
    have : n.log2 < 20 := by
      by_cases q : n = 0
      · subst q; decide
      · exact (Nat.log2_lt q).mpr (by omega)
    omega
  have e : Str.ofString (Int.repr (n : Int)) = numS n := rfl
  simp -implicitDefEqProofs [EV.LIM, EV.str_lit, evr, EV.r_for, EV.r_rng1, EV.wbin, EV.wun, EV.wcmp, EV.vw, EV.vwz, EV.wix, EV.wblt, EV.wtru, EV.wisi, EV.frz, EV.mkOwn, L2.atI, L2.ixN, List.map, List.length_cons, List.length_nil, List.replicate, List.getElem?_cons_zero, List.getElem?_cons_succ, List.set_cons_zero, List.set_cons_succ, List.append_nil, List.cons_append, List.nil_append, ha, hl, e]
theorem str_str {s : Str} {a : EV.M EV.W} (ha : a σ S = .ok (.str s) S) : EV.mBlt .str (EV.mCons a EV.mNil) σ S = .ok (.str s) S := by
  simp -implicitDefEqProofs [EV.LIM, EV.str_lit, evr, EV.r_for, EV.r_rng1, EV.wbin, EV.wun, EV.wcmp, EV.vw, EV.vwz, EV.wix, EV.wblt, EV.wtru, EV.wisi, EV.frz, EV.mkOwn, L2.atI, L2.ixN, List.map, List.length_cons, List.length_nil, List.replicate, List.getElem?_cons_zero, List.getElem?_cons_succ, List.set_cons_zero, List.set_cons_succ, List.append_nil, List.cons_append, List.nil_append, ha]
end
section
variable {S : EV.Sto}
theorem signs_ix (k : K5) (hk : k.fn = false) {a : EV.M EV.W} {σ : EV.Sls} (ha : a σ S = .ok (.str k.nm) S) : EV.mIx (EV.mDict [((EV.mC (.str "add")), (EV.mC (.str " + "))), ((EV.mC (.str "sub")), (EV.mC (.str " - "))), ((EV.mC (.str "mul")), (EV.mC (.str " * ")))]) a σ S = .ok (.str k.opT) S := by
  rw [EV.r_ix, show EV.mDict [((EV.mC (.str "add")), (EV.mC (.str " + "))), ((EV.mC (.str "sub")), (EV.mC (.str " - "))), ((EV.mC (.str "mul")), (EV.mC (.str " * ")))] σ S = .ok (.dct [(.inr "add", .str " + "), (.inr "sub", .str " - "), (.inr "mul", .str " * ")]) S from rfl, EV.r_ok, EV.r_ixF, ha, EV.r_ok, EV.r_ixG]
  cases k <;> first | rfl | cases hk
theorem bl_wrap (c : Bool) {σ : EV.Sls} {i : Nat} {a : EV.M EV.W} {t : Str} (ha : a σ S = .ok (.str t) S) (hl : t.length ≤ 10000000) : EV.sSetF i (EV.mBin .Add (EV.mBin .Add (EV.mC (.str "(")) a) (EV.mC (.str ")"))) σ S = .ok (.nx (σ.set i (.fr (.str (wrp true t))))) S := by
  have hl2 := line_ge
  have e := add_s (add_s (a := EV.mC (.str "(")) (σ := σ) (S := S) rfl ha (by rw [len_o]; omega)) (b := EV.mC (.str ")")) rfl (by rw [app_len, len_o, len_c]; omega)
  rw [EV.r_setO, e]
  rfl
theorem ltext_ex : ∀ (e : Ex) (d : Nat), ExOk e → e.sz ≤ 40000 → EV.Fn gG gP (d + e.ht + 1) "_law_expr_text" [exW e] S = .ok (.str (txt e)) S
  | .num n, d, h, _ => by
    rw [fe_lw_expr_text, if_pos (by rfl), ms_lw_expr_text, EV.r_run]
    show (EV.sSeq _ _ [.fr (.tup [.str "num", .int n]), .emp, .emp] _).bind EV.runF = _
    have hm : EV.wmem (.str "num") (.tup [.str "num", .str "ref"]) = some true := rfl
    have es := str_num (S := S) (n := n) h (a := EV.mIx (EV.mVarB 0) (EV.mC (.int 1))) (σ := [.fr (.tup [.str "num", .int n]), .emp, .emp]) rfl
    rw [EV.r_seq]
    unfold n_lw_expr_text_0
    rw [EV.r_if, show EV.mCmpT .In (EV.mIx (EV.mVarB 0) (EV.mC (.int 0))) (EV.mTup (EV.mCons (EV.mC (.str "num")) (EV.mCons (EV.mC (.str "ref")) EV.mNil))) [.fr (.tup [.str "num", .int n]), .emp, .emp] S = .ok true S by simp -implicitDefEqProofs [EV.LIM, EV.str_lit, evr, EV.r_for, EV.r_rng1, EV.wbin, EV.wun, EV.wcmp, EV.vw, EV.vwz, EV.wix, EV.wblt, EV.wtru, EV.wisi, EV.frz, EV.mkOwn, L2.atI, L2.ixN, List.map, List.length_cons, List.length_nil, List.replicate, List.getElem?_cons_zero, List.getElem?_cons_succ, List.set_cons_zero, List.set_cons_succ, List.append_nil, List.cons_append, List.nil_append, hm], EV.r_ok, EV.r_sifT]
    unfold n_lw_expr_text_0t n_lw_expr_text_0t_0
    rw [EV.r_ret, es]
    rfl
  | .ref s, d, h, _ => by
    rw [fe_lw_expr_text, if_pos (by rfl), ms_lw_expr_text, EV.r_run]
    show (EV.sSeq _ _ [.fr (.tup [.str "ref", .str s]), .emp, .emp] _).bind EV.runF = _
    have hm : EV.wmem (.str "ref") (.tup [.str "num", .str "ref"]) = some true := rfl
    have es := str_str (S := S) (s := s) (a := EV.mIx (EV.mVarB 0) (EV.mC (.int 1))) (σ := [.fr (.tup [.str "ref", .str s]), .emp, .emp]) rfl
    rw [EV.r_seq]
    unfold n_lw_expr_text_0
    rw [EV.r_if, show EV.mCmpT .In (EV.mIx (EV.mVarB 0) (EV.mC (.int 0))) (EV.mTup (EV.mCons (EV.mC (.str "num")) (EV.mCons (EV.mC (.str "ref")) EV.mNil))) [.fr (.tup [.str "ref", .str s]), .emp, .emp] S = .ok true S by simp -implicitDefEqProofs [EV.LIM, EV.str_lit, evr, EV.r_for, EV.r_rng1, EV.wbin, EV.wun, EV.wcmp, EV.vw, EV.vwz, EV.wix, EV.wblt, EV.wtru, EV.wisi, EV.frz, EV.mkOwn, L2.atI, L2.ixN, List.map, List.length_cons, List.length_nil, List.replicate, List.getElem?_cons_zero, List.getElem?_cons_succ, List.set_cons_zero, List.set_cons_succ, List.append_nil, List.cons_append, List.nil_append, hm], EV.r_ok, EV.r_sifT]
    unfold n_lw_expr_text_0t n_lw_expr_text_0t_0
    rw [EV.r_ret, es]
    rfl
  | .op k a b, d, h, hs => by
    have hsz : a.sz + b.sz ≤ 40000 := hs
    have la := txt_len a h.1
    have lb := txt_len b h.2
    have hl2 := line_ge
    have i1 := ltext_ex a (d + (max a.ht b.ht - a.ht)) h.1 (by omega)
    rw [show d + (max a.ht b.ht - a.ht) + a.ht + 1 = d + max a.ht b.ht + 1 by omega] at i1
    have i2 := ltext_ex b (d + (max a.ht b.ht - b.ht)) h.2 (by omega)
    rw [show d + (max a.ht b.ht - b.ht) + b.ht + 1 = d + max a.ht b.ht + 1 by omega] at i2
    rw [show d + (Ex.op k a b).ht + 1 = (d + max a.ht b.ht + 1) + 1 from rfl, fe_lw_expr_text, if_pos (by rfl), ms_lw_expr_text, EV.r_run]
    show (EV.sSeq _ _ [.fr (.tup [.str k.nm, exW a, exW b]), .emp, .emp] _).bind EV.runF = _
    generalize d + max a.ht b.ht + 1 = D at *
    obtain ⟨ra, hra⟩ := exW_hd a
    obtain ⟨rb, hrb⟩ := exW_hd b
    have sa := hd_sum a
    have sb := hd_sum b
    have ma := hd_mul a
    have mb := hd_mul b
    have hlf := nm_leaf k
    have hfn := nm_fn k
    have hml := nm_mul k
    have a0 : n_lw_expr_text_0 (EV.Fn gG gP D) [.fr (.tup [.str k.nm, exW a, exW b]), .emp, .emp] S = .ok (.nx [.fr (.tup [.str k.nm, exW a, exW b]), .emp, .emp]) S := by
      clear sa sb ma mb hfn hml i1 i2
      generalize exW a = WA
      generalize exW b = WB
      generalize k.nm = NM at *
      simp -implicitDefEqProofs [EV.LIM, EV.str_lit, evr, EV.r_for, EV.r_rng1, EV.wbin, EV.wun, EV.wcmp, EV.vw, EV.vwz, EV.wix, EV.wblt, EV.wtru, EV.wisi, EV.frz, EV.mkOwn, L2.atI, L2.ixN, List.map, List.length_cons, List.length_nil, List.replicate, List.getElem?_cons_zero, List.getElem?_cons_succ, List.set_cons_zero, List.set_cons_succ, List.append_nil, List.cons_append, List.nil_append, n_lw_expr_text_0, hlf]
    have a1 : n_lw_expr_text_1 (EV.Fn gG gP D) [.fr (.tup [.str k.nm, exW a, exW b]), .emp, .emp] S = .ok (.nx [.fr (.tup [.str k.nm, exW a, exW b]), .fr (.str (txt a)), .emp]) S := by
      unfold n_lw_expr_text_1
      rw [EV.r_set, show EV.mCall (EV.Fn gG gP D) "_law_expr_text" (EV.mCons (EV.mIx (EV.mVarB 0) (EV.mC (.int 1))) EV.mNil) [] [.fr (.tup [.str k.nm, exW a, exW b]), .emp, .emp] S = .ok (.str (txt a)) S from i1]
      rfl
    have a2 : n_lw_expr_text_2 (EV.Fn gG gP D) [.fr (.tup [.str k.nm, exW a, exW b]), .fr (.str (txt a)), .emp] S = .ok (.nx [.fr (.tup [.str k.nm, exW a, exW b]), .fr (.str (txt a)), .fr (.str (txt b))]) S := by
      unfold n_lw_expr_text_2
      rw [EV.r_set, show EV.mCall (EV.Fn gG gP D) "_law_expr_text" (EV.mCons (EV.mIx (EV.mVarB 0) (EV.mC (.int 2))) EV.mNil) [] [.fr (.tup [.str k.nm, exW a, exW b]), .fr (.str (txt a)), .emp] S = .ok (.str (txt b)) S from i2]
      rfl
    rw [seq_step a0, seq_step a1, seq_step a2]
    have et : EV.mCmpT .In (EV.mIx (EV.mVarB 0) (EV.mC (.int 0))) (EV.mTup (EV.mCons (EV.mC (.str "min")) (EV.mCons (EV.mC (.str "max")) EV.mNil))) [.fr (.tup [.str k.nm, exW a, exW b]), .fr (.str (txt a)), .fr (.str (txt b))] S = .ok k.fn S := by
      clear sa sb ma mb hlf hml i1 i2 a0 a1 a2
      generalize exW a = WA
      generalize exW b = WB
      generalize k.nm = NM at *
      simp -implicitDefEqProofs [EV.LIM, EV.str_lit, evr, EV.r_for, EV.r_rng1, EV.wbin, EV.wun, EV.wcmp, EV.vw, EV.vwz, EV.wix, EV.wblt, EV.wtru, EV.wisi, EV.frz, EV.mkOwn, L2.atI, L2.ixN, List.map, List.length_cons, List.length_nil, List.replicate, List.getElem?_cons_zero, List.getElem?_cons_succ, List.set_cons_zero, List.set_cons_succ, List.append_nil, List.cons_append, List.nil_append, hfn]
    cases hf : k.fn with
    | true =>
      have e := add_s (add_s (add_s (add_s (add_s (a := EV.mIx (EV.mVarB 0) (EV.mC (.int 0))) (b := EV.mC (.str "(")) (x := k.nm) (σ := [.fr (.tup [.str k.nm, exW a, exW b]), .fr (.str (txt a)), .fr (.str (txt b))]) (S := S) rfl rfl (by rw [len_nm, len_o]; omega)) (b := EV.mVarB 1) rfl (by rw [app_len, len_nm, len_o]; omega)) (b := EV.mC (.str ", ")) rfl (by rw [app_len, app_len, len_nm, len_o, len_m]; omega)) (b := EV.mVarB 2) rfl (by rw [app_len, app_len, app_len, len_nm, len_o, len_m]; omega)) (b := EV.mC (.str ")")) rfl (by rw [app_len, app_len, app_len, app_len, len_nm, len_o, len_m, len_c]; omega)
      rw [EV.r_seq]
      unfold n_lw_expr_text_3
      rw [EV.r_if, et, hf, EV.r_ok, EV.r_sifT]
      unfold n_lw_expr_text_3t n_lw_expr_text_3t_0
      rw [EV.r_ret, e]
      rw [txt_fn hf]
      rfl
    | false =>
      have a3 : n_lw_expr_text_3 (EV.Fn gG gP D) [.fr (.tup [.str k.nm, exW a, exW b]), .fr (.str (txt a)), .fr (.str (txt b))] S = .ok (.nx [.fr (.tup [.str k.nm, exW a, exW b]), .fr (.str (txt a)), .fr (.str (txt b))]) S := by
        unfold n_lw_expr_text_3
        rw [EV.r_if, et, hf, EV.r_ok, EV.r_sifN]
        rfl
      have a4 : n_lw_expr_text_4 (EV.Fn gG gP D) [.fr (.tup [.str k.nm, exW a, exW b]), .fr (.str (txt a)), .fr (.str (txt b))] S = .ok (.nx [.fr (.tup [.str k.nm, exW a, exW b]), .fr (.str (wrp (bL k a) (txt a))), .fr (.str (txt b))]) S := by
        have e4 : EV.mAnd (EV.mCmpT .Eq (EV.mIx (EV.mVarB 0) (EV.mC (.int 0))) (EV.mC (.str "mul"))) (EV.mCmpT .In (EV.mIx (EV.mIx (EV.mVarB 0) (EV.mC (.int 1))) (EV.mC (.int 0))) (EV.mTup (EV.mCons (EV.mC (.str "add")) (EV.mCons (EV.mC (.str "sub")) EV.mNil)))) [.fr (.tup [.str k.nm, exW a, exW b]), .fr (.str (txt a)), .fr (.str (txt b))] S = .ok (bL k a) S := by
          clear sb ma mb hlf hfn i1 i2 a0 a1 a2 a3 et hrb
          unfold bL
          rw [← hml, hra]
          generalize exW b = WB
          generalize k.nm = NM at *
          by_cases q : NM = ("mul" : Str)
          · simp -implicitDefEqProofs [EV.LIM, EV.str_lit, evr, EV.r_for, EV.r_rng1, EV.wbin, EV.wun, EV.wcmp, EV.vw, EV.vwz, EV.wix, EV.wblt, EV.wtru, EV.wisi, EV.frz, EV.mkOwn, L2.atI, L2.ixN, List.map, List.length_cons, List.length_nil, List.replicate, List.getElem?_cons_zero, List.getElem?_cons_succ, List.set_cons_zero, List.set_cons_succ, List.append_nil, List.cons_append, List.nil_append, q, sa]
          · simp -implicitDefEqProofs [EV.LIM, EV.str_lit, evr, EV.r_for, EV.r_rng1, EV.wbin, EV.wun, EV.wcmp, EV.vw, EV.vwz, EV.wix, EV.wblt, EV.wtru, EV.wisi, EV.frz, EV.mkOwn, L2.atI, L2.ixN, List.map, List.length_cons, List.length_nil, List.replicate, List.getElem?_cons_zero, List.getElem?_cons_succ, List.set_cons_zero, List.set_cons_succ, List.append_nil, List.cons_append, List.nil_append, q]
        unfold n_lw_expr_text_4
        rw [EV.r_if, e4, EV.r_ok]
        cases bL k a with
        | true =>
          rw [EV.r_sifT]
          unfold n_lw_expr_text_4t n_lw_expr_text_4t_0
          exact bl_wrap true rfl (by omega)
        | false => rw [EV.r_sifN]; rfl
      have a5 : n_lw_expr_text_5 (EV.Fn gG gP D) [.fr (.tup [.str k.nm, exW a, exW b]), .fr (.str (wrp (bL k a) (txt a))), .fr (.str (txt b))] S = .ok (.nx [.fr (.tup [.str k.nm, exW a, exW b]), .fr (.str (wrp (bL k a) (txt a))), .fr (.str (wrp (bR k b) (txt b)))]) S := by
        have e5 : EV.mOr (EV.mCmpT .In (EV.mIx (EV.mIx (EV.mVarB 0) (EV.mC (.int 2))) (EV.mC (.int 0))) (EV.mTup (EV.mCons (EV.mC (.str "add")) (EV.mCons (EV.mC (.str "sub")) EV.mNil)))) (EV.mAnd (EV.mCmpT .Eq (EV.mIx (EV.mVarB 0) (EV.mC (.int 0))) (EV.mC (.str "mul"))) (EV.mCmpT .Eq (EV.mIx (EV.mIx (EV.mVarB 0) (EV.mC (.int 2))) (EV.mC (.int 0))) (EV.mC (.str "mul")))) [.fr (.tup [.str k.nm, exW a, exW b]), .fr (.str (wrp (bL k a) (txt a))), .fr (.str (txt b))] S = .ok (bR k b) S := by
          clear sa ma hlf hfn i1 i2 a0 a1 a2 a3 a4 et hra
          unfold bR
          rw [← hml, ← mb, hrb]
          generalize exW a = WA
          generalize k.nm = NM at *
          generalize wrp (bL k a) (txt a) = TA
          cases hb : decide (b.lv = 2) with
          | true =>
            rw [hb] at sb
            simp -implicitDefEqProofs [EV.LIM, EV.str_lit, evr, EV.r_for, EV.r_rng1, EV.wbin, EV.wun, EV.wcmp, EV.vw, EV.vwz, EV.wix, EV.wblt, EV.wtru, EV.wisi, EV.frz, EV.mkOwn, L2.atI, L2.ixN, List.map, List.length_cons, List.length_nil, List.replicate, List.getElem?_cons_zero, List.getElem?_cons_succ, List.set_cons_zero, List.set_cons_succ, List.append_nil, List.cons_append, List.nil_append, sb]
          | false =>
            rw [hb] at sb
            by_cases q : NM = ("mul" : Str)
            · simp -implicitDefEqProofs [EV.LIM, EV.str_lit, evr, EV.r_for, EV.r_rng1, EV.wbin, EV.wun, EV.wcmp, EV.vw, EV.vwz, EV.wix, EV.wblt, EV.wtru, EV.wisi, EV.frz, EV.mkOwn, L2.atI, L2.ixN, List.map, List.length_cons, List.length_nil, List.replicate, List.getElem?_cons_zero, List.getElem?_cons_succ, List.set_cons_zero, List.set_cons_succ, List.append_nil, List.cons_append, List.nil_append, q, sb]
            · simp -implicitDefEqProofs [EV.LIM, EV.str_lit, evr, EV.r_for, EV.r_rng1, EV.wbin, EV.wun, EV.wcmp, EV.vw, EV.vwz, EV.wix, EV.wblt, EV.wtru, EV.wisi, EV.frz, EV.mkOwn, L2.atI, L2.ixN, List.map, List.length_cons, List.length_nil, List.replicate, List.getElem?_cons_zero, List.getElem?_cons_succ, List.set_cons_zero, List.set_cons_succ, List.append_nil, List.cons_append, List.nil_append, q, sb]
        unfold n_lw_expr_text_5
        rw [EV.r_if, e5, EV.r_ok]
        cases bR k b with
        | true =>
          rw [EV.r_sifT]
          unfold n_lw_expr_text_5t n_lw_expr_text_5t_0
          exact bl_wrap true rfl (by omega)
        | false => rw [EV.r_sifN]; rfl
      rw [seq_step a3, seq_step a4, seq_step a5]
      have w1 := wrp_len (bL k a) (txt a)
      have w2 := wrp_len (bR k b) (txt b)
      have w3 := len_opT k
      have e := add_s (add_s (a := EV.mVarB 1) (σ := [.fr (.tup [.str k.nm, exW a, exW b]), .fr (.str (wrp (bL k a) (txt a))), .fr (.str (wrp (bR k b) (txt b)))]) (S := S) rfl (signs_ix k hf (a := EV.mIx (EV.mVarB 0) (EV.mC (.int 0))) rfl) (by omega)) (b := EV.mVarB 2) rfl (by rw [app_len]; omega)
      unfold n_lw_expr_text_6
      rw [EV.r_ret, e]
      rw [txt_ar hf]
      rfl
end
open TL
def n_side_text_0t_0 (F : EV.Fenv) : EV.M EV.Fl := (EV.sRet (EV.mBlt .str (EV.mCons (EV.mIx (EV.mVarB 0) (EV.mC (.int 1))) EV.mNil)))
def n_side_text_0t (F : EV.Fenv) : EV.M EV.Fl := (n_side_text_0t_0 F)
def n_side_text_0 (F : EV.Fenv) : EV.M EV.Fl := (EV.sIf (EV.mCmpT .Eq (EV.mIx (EV.mVarB 0) (EV.mC (.int 0))) (EV.mC (.str "num"))) (n_side_text_0t F) EV.sNext)
def n_side_text_1 (F : EV.Fenv) : EV.M EV.Fl := (EV.sRet (EV.mIx (EV.mVarB 0) (EV.mC (.int 1))))
theorem ms_side_text (F : EV.Fenv) : m_side_text F = (EV.sSeq (n_side_text_0 F) (n_side_text_1 F)) := by kernel_rfl
def n_atom_text_0t_0 (F : EV.Fenv) : EV.M EV.Fl := (EV.sRet (EV.mBin .Add (EV.mBin .Add (EV.mBin .Add (EV.mBin .Add (EV.mBin .Add (EV.mIx (EV.mVarB 0) (EV.mC (.int 0))) (EV.mC (.str "("))) (EV.mCall F "expression_text" (EV.mCons (EV.mIx (EV.mVarB 0) (EV.mC (.int 1))) EV.mNil) [])) (EV.mC (.str ", "))) (EV.mCall F "expression_text" (EV.mCons (EV.mIx (EV.mVarB 0) (EV.mC (.int 2))) EV.mNil) [])) (EV.mC (.str ")"))))
def n_atom_text_0t (F : EV.Fenv) : EV.M EV.Fl := (n_atom_text_0t_0 F)
def n_atom_text_0 (F : EV.Fenv) : EV.M EV.Fl := (EV.sIf (EV.mCmpT .In (EV.mIx (EV.mVarB 0) (EV.mC (.int 0))) (EV.mTup (EV.mCons (EV.mC (.str "min")) (EV.mCons (EV.mC (.str "max")) EV.mNil)))) (n_atom_text_0t F) EV.sNext)
def n_atom_text_1 (F : EV.Fenv) : EV.M EV.Fl := (EV.sFrz [0] (EV.sRet (EV.mCall F "side_text" (EV.mCons (EV.mVar 0) EV.mNil) [])))
theorem ms_atom_text (F : EV.Fenv) : m_atom_text F = (EV.sSeq (n_atom_text_0 F) (n_atom_text_1 F)) := by kernel_rfl
def n_right_text_0 (F : EV.Fenv) : EV.M EV.Fl := (EV.sFrz [1] (EV.sSet 2 (EV.mCall F "expression_text" (EV.mCons (EV.mVar 1) EV.mNil) [])))
def n_right_text_1t_0 (F : EV.Fenv) : EV.M EV.Fl := (EV.sRet (EV.mBin .Add (EV.mBin .Add (EV.mC (.str "(")) (EV.mVarB 2)) (EV.mC (.str ")"))))
def n_right_text_1t (F : EV.Fenv) : EV.M EV.Fl := (n_right_text_1t_0 F)
def n_right_text_1 (F : EV.Fenv) : EV.M EV.Fl := (EV.sIf (EV.mOr (EV.mCmpT .In (EV.mIx (EV.mVarB 1) (EV.mC (.int 0))) (EV.mC (.tup [.str "add", .str "sub"]))) (EV.mAnd (EV.mCmpT .Eq (EV.mVarB 0) (EV.mC (.str "mul"))) (EV.mCmpT .Eq (EV.mIx (EV.mVarB 1) (EV.mC (.int 0))) (EV.mC (.str "mul"))))) (n_right_text_1t F) EV.sNext)
def n_right_text_2 (F : EV.Fenv) : EV.M EV.Fl := (EV.sFrz [2] (EV.sRet (EV.mVar 2)))
theorem ms_right_text (F : EV.Fenv) : m_right_text F = (EV.sSeq (n_right_text_0 F) (EV.sSeq (n_right_text_1 F) (n_right_text_2 F))) := by kernel_rfl
def n_expression_text_0 (F : EV.Fenv) : EV.M EV.Fl := (EV.sSetF 1 (EV.mLst EV.mNil))
def n_expression_text_1b_0 (F : EV.Fenv) : EV.M EV.Fl := (EV.sFrz [0] (EV.sMut (EV.mutE F (fun c => gG.mts.lookup (c, ("append" : Str))) .append "append" 1 (EV.mCons (EV.mVar 0) EV.mNil))))
def n_expression_text_1b_1 (F : EV.Fenv) : EV.M EV.Fl := (EV.sSet 0 (EV.mIx (EV.mVarB 0) (EV.mC (.int 1))))
def n_expression_text_1b (F : EV.Fenv) : EV.M EV.Fl := (EV.sSeq (n_expression_text_1b_0 F) (n_expression_text_1b_1 F))
def n_expression_text_1 (F : EV.Fenv) : EV.M EV.Fl := (EV.sWh (EV.mTIn [("add", .str " + "), ("sub", .str " - "), ("mul", .str " * ")] false (EV.mIx (EV.mVarB 0) (EV.mC (.int 0)))) (n_expression_text_1b F))
def n_expression_text_2 (F : EV.Fenv) : EV.M EV.Fl := (EV.sSet 2 (EV.mC (.int 0)))
def n_expression_text_3 (F : EV.Fenv) : EV.M EV.Fl := (EV.sFrz [0] (EV.sSetF 3 (EV.mLst (EV.mCons (EV.mCall F "atom_text" (EV.mCons (EV.mVar 0) EV.mNil) []) EV.mNil))))
def n_expression_text_4 (F : EV.Fenv) : EV.M EV.Fl := (EV.sSet 4 (EV.mIx (EV.mVarB 0) (EV.mC (.int 0))))
def n_expression_text_5b_0 (F : EV.Fenv) : EV.M EV.Fl := (EV.sSet 6 (EV.mIx (EV.mVarB 5) (EV.mC (.int 0))))
def n_expression_text_5b_1t_0 (F : EV.Fenv) : EV.M EV.Fl := (EV.sSetF 2 (EV.mBin .Add (EV.mVarB 2) (EV.mC (.int 1))))
def n_expression_text_5b_1t_1 (F : EV.Fenv) : EV.M EV.Fl := (EV.sMut (EV.mutE F (fun c => gG.mts.lookup (c, ("append" : Str))) .append "append" 3 (EV.mCons (EV.mC (.str ")")) EV.mNil)))
def n_expression_text_5b_1t (F : EV.Fenv) : EV.M EV.Fl := (EV.sSeq (n_expression_text_5b_1t_0 F) (n_expression_text_5b_1t_1 F))
def n_expression_text_5b_1 (F : EV.Fenv) : EV.M EV.Fl := (EV.sIf (EV.mAnd (EV.mCmpT .Eq (EV.mVarB 6) (EV.mC (.str "mul"))) (EV.mCmpT .In (EV.mVarB 4) (EV.mC (.tup [.str "add", .str "sub"])))) (n_expression_text_5b_1t F) EV.sNext)
def n_expression_text_5b_2 (F : EV.Fenv) : EV.M EV.Fl := (EV.sMut (EV.mutE F (fun c => gG.mts.lookup (c, ("append" : Str))) .append "append" 3 (EV.mCons (EV.mTSub [("add", .str " + "), ("sub", .str " - "), ("mul", .str " * ")] (EV.mVarB 6)) EV.mNil)))
def n_expression_text_5b_3 (F : EV.Fenv) : EV.M EV.Fl := (EV.sFrz [6] (EV.sMut (EV.mutE F (fun c => gG.mts.lookup (c, ("append" : Str))) .append "append" 3 (EV.mCons (EV.mCall F "right_text" (EV.mCons (EV.mVar 6) (EV.mCons (EV.mIx (EV.mVarB 5) (EV.mC (.int 2))) EV.mNil)) []) EV.mNil))))
def n_expression_text_5b_4 (F : EV.Fenv) : EV.M EV.Fl := (EV.sFrz [6] (EV.sSet 4 (EV.mVar 6)))
def n_expression_text_5b (F : EV.Fenv) : EV.M EV.Fl := (EV.sSeq (n_expression_text_5b_0 F) (EV.sSeq (n_expression_text_5b_1 F) (EV.sSeq (n_expression_text_5b_2 F) (EV.sSeq (n_expression_text_5b_3 F) (n_expression_text_5b_4 F)))))
def n_expression_text_5 (F : EV.Fenv) : EV.M EV.Fl := (EV.sFrz [1] (EV.sFor (EV.mRev (EV.mVar 1)) (EV.bName 5) (n_expression_text_5b F)))
def n_expression_text_6 (F : EV.Fenv) : EV.M EV.Fl := (EV.sFrz [3] (EV.sRet (EV.mBin .Add (EV.mBin .Mult (EV.mC (.str "(")) (EV.mVarB 2)) (EV.mSm .join (EV.mC (.str "")) (EV.mVar 3)))))
theorem ms_expression_text (F : EV.Fenv) : m_expression_text F = (EV.sSeq (n_expression_text_0 F) (EV.sSeq (n_expression_text_1 F) (EV.sSeq (n_expression_text_2 F) (EV.sSeq (n_expression_text_3 F) (EV.sSeq (n_expression_text_4 F) (EV.sSeq (n_expression_text_5 F) (n_expression_text_6 F))))))) := by kernel_rfl
def Ex.ar : Ex → Bool
  | .op k _ _ => !k.fn | _ => false
def Ex.hR : Ex → Nat
  | .op k a b => if k.fn then max a.hR b.hR + 1 else max a.hR (b.hR + 1)
  | _ => 0
/-- down the left side -/
def Ex.base : Ex → Ex
  | .op k a b => if k.fn then .op k a b else a.base
  | e => e
def Ex.nodes : Ex → List Ex
  | .op k a b => if k.fn then [] else .op k a b :: a.nodes
  | _ => []
def nb : Ex → Nat
  | .op k a _ => if k.fn then 0 else nb a + (if bL k a then 1 else 0)
  | _ => 0
def pcs : Ex → List Str
  | .op k a b => if k.fn then [txt (.op k a b)] else pcs a ++ (if bL k a then [(")" : Str)] else []) ++ [k.opT, wrp (bR k b) (txt b)]
  | e => [txt e]
def NbOk : Ex → Prop
  | .op k a b => nb (.op k a b) ≤ 1000 ∧ NbOk a ∧ NbOk b
  | _ => True
theorem rep_tl (s : Str) (n : Nat) : tl (EV.repS s n) = (List.replicate n (tl s)).flatten := rfl
theorem tl_o : tl ("(" : Str) = [40] := by decide +kernel
theorem tl_c : tl (")" : Str) = [41] := by decide +kernel
theorem flat40 (n : Nat) : (List.replicate n [40]).flatten = List.replicate n 40 := by
  induction n with
  | zero => rfl
  | succ n ih => rw [List.replicate_succ, List.flatten_cons, ih, List.replicate_succ]; rfl
theorem nb_ar {k : K5} {a b : Ex} (h : k.fn = false) : nb (.op k a b) = nb a + (if bL k a then 1 else 0) := by rw [nb, if_neg (by rw [h]; simp)]
theorem pcs_ar {k : K5} {a b : Ex} (h : k.fn = false) : pcs (.op k a b) = pcs a ++ (if bL k a then [(")" : Str)] else []) ++ [k.opT, wrp (bR k b) (txt b)] := by rw [pcs, if_neg (by rw [h]; simp)]
theorem txt_pcs : ∀ e : Ex, tl (txt e) = List.replicate (nb e) 40 ++ ((pcs e).map tl).flatten
  | .num n => by simp [nb, pcs, txt]
  | .ref s => by simp [nb, pcs, txt]
  | .op k a b => by
    cases hf : k.fn with
    | true => simp [nb, pcs, hf]
    | false =>
      have ih := txt_pcs a
      rw [txt_ar hf, app_tl, app_tl, nb_ar hf, pcs_ar hf]
      generalize wrp (bR k b) (txt b) = WB
      cases hb : bL k a with
      | true =>
        simp only [wrp, if_true, app_tl, tl_o, tl_c, ih, List.map_append, List.flatten_append, List.map_cons, List.map_nil, List.flatten_cons, List.flatten_nil, List.append_nil]
        rw [List.replicate_succ]
        simp [List.append_assoc]
      | false =>
        simp only [wrp, Bool.false_eq_true, if_false, ih, List.map_append, List.flatten_append, List.map_cons, List.map_nil, List.flatten_cons, List.flatten_nil, List.append_nil, Nat.add_zero]
        simp [List.append_assoc]
theorem nodes_le : ∀ e : Ex, e.nodes.length ≤ e.sz
  | .num n => by simp [Ex.nodes, Ex.sz]
  | .ref s => by simp [Ex.nodes, Ex.sz]
  | .op k a b => by
    have := nodes_le a
    have : 1 ≤ b.sz := by
      clear this
      induction b with
      | num n => exact Nat.le_refl _
      | ref s => exact Nat.le_refl _
      | op k a b i1 i2 => show 1 ≤ a.sz + b.sz; omega
    unfold Ex.nodes
    split
    · simp
    · show (_ :: a.nodes).length ≤ a.sz + b.sz
      rw [List.length_cons]; omega
theorem sz_pos : ∀ e : Ex, 1 ≤ e.sz
  | .num _ => Nat.le_refl _
  | .ref _ => Nat.le_refl _
  | .op _ a b => by have := sz_pos a; show 1 ≤ a.sz + b.sz; omega
theorem wstrs_map : ∀ l : List Str, EV.wrd.wstrs (l.map .str) = some l
  | [] => rfl
  | s :: l => by rw [List.map_cons, EV.wrd.wstrs, wstrs_map l]; rfl
theorem flat_len (l : List (List Nat)) : l.flatten.length = (l.map List.length).sum := by rw [List.length_flatten]
theorem joinL_nil : ∀ l : List (List Nat), joinL [] l = l.flatten
  | [] => rfl
  | [a] => by simp [joinL]
  | a :: b :: l => by
    show a ++ ([] ++ joinL [] (b :: l)) = _
    rw [joinL_nil (b :: l), List.nil_append]
    rfl
def TX (S : EV.Sto) (e : Ex) : Prop := ∀ d, EV.Fn gG gP (d + 2 * e.hR + 3) "expression_text" [exW e] S = .ok (.str (txt e)) S
section
variable {S : EV.Sto}
theorem side_num (d : Nat) {n : Nat} (h : n ≤ 999999) : EV.Fn gG gP (d + 1) "side_text" [exW (.num n)] S = .ok (.str (numS n)) S := by
  rw [fe_side_text, if_pos (by rfl), ms_side_text, EV.r_run]
  show (EV.sSeq _ _ [.fr (.tup [.str "num", .int n])] _).bind EV.runF = _
  have es := str_num (S := S) (n := n) h (a := EV.mIx (EV.mVarB 0) (EV.mC (.int 1))) (σ := [.fr (.tup [.str "num", .int n])]) rfl
  rw [EV.r_seq]
  unfold n_side_text_0
  rw [EV.r_if, show EV.mCmpT .Eq (EV.mIx (EV.mVarB 0) (EV.mC (.int 0))) (EV.mC (.str "num")) [.fr (.tup [.str "num", .int n])] S = .ok true S by simp -implicitDefEqProofs [EV.LIM, EV.str_lit, evr, EV.r_for, EV.r_rng1, EV.wbin, EV.wun, EV.wcmp, EV.vw, EV.vwz, EV.wix, EV.wblt, EV.wtru, EV.wisi, EV.frz, EV.mkOwn, L2.atI, L2.ixN, List.map, List.length_cons, List.length_nil, List.replicate, List.getElem?_cons_zero, List.getElem?_cons_succ, List.set_cons_zero, List.set_cons_succ, List.append_nil, List.cons_append, List.nil_append], EV.r_ok, EV.r_sifT]
  unfold n_side_text_0t n_side_text_0t_0
  rw [EV.r_ret, es]
  rfl
theorem side_ref (d : Nat) (s : Str) : EV.Fn gG gP (d + 1) "side_text" [exW (.ref s)] S = .ok (.str s) S := by
  rw [fe_side_text, if_pos (by rfl), ms_side_text, EV.r_run]
  show (EV.sSeq _ _ [.fr (.tup [.str "ref", .str s])] _).bind EV.runF = _
  have : ¬ (("ref" : Str) = "num") := by decide +kernel
  simp -implicitDefEqProofs [EV.LIM, EV.str_lit, evr, EV.r_for, EV.r_rng1, EV.wbin, EV.wun, EV.wcmp, EV.vw, EV.vwz, EV.wix, EV.wblt, EV.wtru, EV.wisi, EV.frz, EV.mkOwn, L2.atI, L2.ixN, List.map, List.length_cons, List.length_nil, List.replicate, List.getElem?_cons_zero, List.getElem?_cons_succ, List.set_cons_zero, List.set_cons_succ, List.append_nil, List.cons_append, List.nil_append, n_side_text_0, n_side_text_1, this]
theorem leaf_no (s : Str) (h : s = "num" ∨ s = "ref") : EV.wmem (.str s) (.tup [.str "min", .str "max"]) = some false := by rcases h with rfl | rfl <;> rfl
theorem atom_num (d : Nat) {n : Nat} (h : n ≤ 999999) : EV.Fn gG gP (d + 2) "atom_text" [exW (.num n)] S = .ok (.str (numS n)) S := by
  have e1 := side_num (S := S) d h
  have hm := leaf_no "num" (.inl rfl)
  rw [fe_atom_text, if_pos (by rfl), ms_atom_text, EV.r_run]
  show (EV.sSeq _ _ [.fr (.tup [.str "num", .int n])] _).bind EV.runF = _
  simp only [exW] at e1
  simp -implicitDefEqProofs [EV.LIM, EV.str_lit, evr, EV.r_for, EV.r_rng1, EV.wbin, EV.wun, EV.wcmp, EV.vw, EV.vwz, EV.wix, EV.wblt, EV.wtru, EV.wisi, EV.frz, EV.mkOwn, L2.atI, L2.ixN, List.map, List.length_cons, List.length_nil, List.replicate, List.getElem?_cons_zero, List.getElem?_cons_succ, List.set_cons_zero, List.set_cons_succ, List.append_nil, List.cons_append, List.nil_append, n_atom_text_0, n_atom_text_1, hm, e1]
theorem atom_ref (d : Nat) (s : Str) : EV.Fn gG gP (d + 2) "atom_text" [exW (.ref s)] S = .ok (.str s) S := by
  have e1 := side_ref (S := S) d s
  have hm := leaf_no "ref" (.inr rfl)
  rw [fe_atom_text, if_pos (by rfl), ms_atom_text, EV.r_run]
  show (EV.sSeq _ _ [.fr (.tup [.str "ref", .str s])] _).bind EV.runF = _
  simp only [exW] at e1
  simp -implicitDefEqProofs [EV.LIM, EV.str_lit, evr, EV.r_for, EV.r_rng1, EV.wbin, EV.wun, EV.wcmp, EV.vw, EV.vwz, EV.wix, EV.wblt, EV.wtru, EV.wisi, EV.frz, EV.mkOwn, L2.atI, L2.ixN, List.map, List.length_cons, List.length_nil, List.replicate, List.getElem?_cons_zero, List.getElem?_cons_succ, List.set_cons_zero, List.set_cons_succ, List.append_nil, List.cons_append, List.nil_append, n_atom_text_0, n_atom_text_1, hm, e1]
theorem atom_fn (D : Nat) {k : K5} {a b : Ex} (hk : k.fn = true) (h1 : EV.Fn gG gP D "expression_text" [exW a] S = .ok (.str (txt a)) S) (h2 : EV.Fn gG gP D "expression_text" [exW b] S = .ok (.str (txt b)) S) (la : (txt a).length ≤ 8000000) (lb : (txt b).length ≤ 8000000) :
    EV.Fn gG gP (D + 1) "atom_text" [exW (.op k a b)] S = .ok (.str (txt (.op k a b))) S := by
  have hl2 := line_ge
  rw [fe_atom_text, if_pos (by rfl), ms_atom_text, EV.r_run]
  show (EV.sSeq _ _ [.fr (.tup [.str k.nm, exW a, exW b])] _).bind EV.runF = _
  have hfn := nm_fn k
  rw [hk] at hfn
  have et : EV.mCmpT .In (EV.mIx (EV.mVarB 0) (EV.mC (.int 0))) (EV.mTup (EV.mCons (EV.mC (.str "min")) (EV.mCons (EV.mC (.str "max")) EV.mNil))) [.fr (.tup [.str k.nm, exW a, exW b])] S = .ok true S := by
    generalize exW a = WA
    generalize exW b = WB
    generalize k.nm = NM at *
    simp -implicitDefEqProofs [EV.LIM, EV.str_lit, evr, EV.r_for, EV.r_rng1, EV.wbin, EV.wun, EV.wcmp, EV.vw, EV.vwz, EV.wix, EV.wblt, EV.wtru, EV.wisi, EV.frz, EV.mkOwn, L2.atI, L2.ixN, List.map, List.length_cons, List.length_nil, List.replicate, List.getElem?_cons_zero, List.getElem?_cons_succ, List.set_cons_zero, List.set_cons_succ, List.append_nil, List.cons_append, List.nil_append, hfn]
  have c1 : EV.mCall (EV.Fn gG gP D) "expression_text" (EV.mCons (EV.mIx (EV.mVarB 0) (EV.mC (.int 1))) EV.mNil) [] [.fr (.tup [.str k.nm, exW a, exW b])] S = .ok (.str (txt a)) S := h1
  have c2 : EV.mCall (EV.Fn gG gP D) "expression_text" (EV.mCons (EV.mIx (EV.mVarB 0) (EV.mC (.int 2))) EV.mNil) [] [.fr (.tup [.str k.nm, exW a, exW b])] S = .ok (.str (txt b)) S := h2
  have e := add_s (add_s (add_s (add_s (add_s (a := EV.mIx (EV.mVarB 0) (EV.mC (.int 0))) (b := EV.mC (.str "(")) (x := k.nm) (σ := [.fr (.tup [.str k.nm, exW a, exW b])]) (S := S) rfl rfl (by rw [len_nm, len_o]; omega)) c1 (by rw [app_len, len_nm, len_o]; omega)) (b := EV.mC (.str ", ")) rfl (by rw [app_len, app_len, len_nm, len_o, len_m]; omega)) c2 (by rw [app_len, app_len, app_len, len_nm, len_o, len_m]; omega)) (b := EV.mC (.str ")")) rfl (by rw [app_len, app_len, app_len, app_len, len_nm, len_o, len_m, len_c]; omega)
  rw [EV.r_seq]
  unfold n_atom_text_0
  rw [EV.r_if, et, EV.r_ok, EV.r_sifT]
  unfold n_atom_text_0t n_atom_text_0t_0
  rw [EV.r_ret, e, txt_fn hk]
  rfl
theorem right_ex (D : Nat) (k : K5) {b : Ex} (h : EV.Fn gG gP D "expression_text" [exW b] S = .ok (.str (txt b)) S) (lb : (txt b).length ≤ 8000000) : EV.Fn gG gP (D + 1) "right_text" [.str k.nm, exW b] S = .ok (.str (wrp (bR k b) (txt b))) S := by
  have hl2 := line_ge
  obtain ⟨rb, hrb⟩ := exW_hd b
  have sb := hd_sum b
  have mb := hd_mul b
  have hml := nm_mul k
  rw [fe_right_text, if_pos (by rfl), ms_right_text, EV.r_run]
  show (EV.sSeq _ _ [.fr (.str k.nm), .fr (exW b), .emp] _).bind EV.runF = _
  have a0 : n_right_text_0 (EV.Fn gG gP D) [.fr (.str k.nm), .fr (exW b), .emp] S = .ok (.nx [.fr (.str k.nm), .fr (exW b), .fr (.str (txt b))]) S := by
    clear hrb
    generalize exW b = WB at *
    generalize k.nm = NM at *
    simp -implicitDefEqProofs [EV.LIM, EV.str_lit, evr, EV.r_for, EV.r_rng1, EV.wbin, EV.wun, EV.wcmp, EV.vw, EV.vwz, EV.wix, EV.wblt, EV.wtru, EV.wisi, EV.frz, EV.mkOwn, L2.atI, L2.ixN, List.map, List.length_cons, List.length_nil, List.replicate, List.getElem?_cons_zero, List.getElem?_cons_succ, List.set_cons_zero, List.set_cons_succ, List.append_nil, List.cons_append, List.nil_append, n_right_text_0, h]
  have e5 : EV.mOr (EV.mCmpT .In (EV.mIx (EV.mVarB 1) (EV.mC (.int 0))) (EV.mC (.tup [.str "add", .str "sub"]))) (EV.mAnd (EV.mCmpT .Eq (EV.mVarB 0) (EV.mC (.str "mul"))) (EV.mCmpT .Eq (EV.mIx (EV.mVarB 1) (EV.mC (.int 0))) (EV.mC (.str "mul")))) [.fr (.str k.nm), .fr (exW b), .fr (.str (txt b))] S = .ok (bR k b) S := by
    clear a0 h
    unfold bR
    rw [← hml, ← mb, hrb]
    generalize k.nm = NM at *
    generalize txt b = TB at *
    cases hb : decide (b.lv = 2) with
    | true =>
      rw [hb] at sb
      simp -implicitDefEqProofs [EV.LIM, EV.str_lit, evr, EV.r_for, EV.r_rng1, EV.wbin, EV.wun, EV.wcmp, EV.vw, EV.vwz, EV.wix, EV.wblt, EV.wtru, EV.wisi, EV.frz, EV.mkOwn, L2.atI, L2.ixN, List.map, List.length_cons, List.length_nil, List.replicate, List.getElem?_cons_zero, List.getElem?_cons_succ, List.set_cons_zero, List.set_cons_succ, List.append_nil, List.cons_append, List.nil_append, sb]
    | false =>
      rw [hb] at sb
      by_cases q : NM = ("mul" : Str)
      · simp -implicitDefEqProofs [EV.LIM, EV.str_lit, evr, EV.r_for, EV.r_rng1, EV.wbin, EV.wun, EV.wcmp, EV.vw, EV.vwz, EV.wix, EV.wblt, EV.wtru, EV.wisi, EV.frz, EV.mkOwn, L2.atI, L2.ixN, List.map, List.length_cons, List.length_nil, List.replicate, List.getElem?_cons_zero, List.getElem?_cons_succ, List.set_cons_zero, List.set_cons_succ, List.append_nil, List.cons_append, List.nil_append, q, sb]
      · simp -implicitDefEqProofs [EV.LIM, EV.str_lit, evr, EV.r_for, EV.r_rng1, EV.wbin, EV.wun, EV.wcmp, EV.vw, EV.vwz, EV.wix, EV.wblt, EV.wtru, EV.wisi, EV.frz, EV.mkOwn, L2.atI, L2.ixN, List.map, List.length_cons, List.length_nil, List.replicate, List.getElem?_cons_zero, List.getElem?_cons_succ, List.set_cons_zero, List.set_cons_succ, List.append_nil, List.cons_append, List.nil_append, q, sb]
  rw [seq_step a0, EV.r_seq]
  unfold n_right_text_1
  rw [EV.r_if, e5, EV.r_ok]
  cases bR k b with
  | true =>
    rw [EV.r_sifT]
    have e := add_s (add_s (a := EV.mC (.str "(")) (b := EV.mVarB 2) (σ := [.fr (.str k.nm), .fr (exW b), .fr (.str (txt b))]) (S := S) rfl rfl (by rw [len_o]; omega)) (b := EV.mC (.str ")")) rfl (by rw [app_len, len_o, len_c]; omega)
    unfold n_right_text_1t n_right_text_1t_0
    rw [EV.r_ret, e]
    rfl
  | false => rw [EV.r_sifN]; rfl
/-! the way down the left side -/
abbrev xC : EV.M Bool := EV.mTIn [("add", .str " + "), ("sub", .str " - "), ("mul", .str " * ")] false (EV.mIx (EV.mVarB 0) (EV.mC (.int 0)))
theorem lk_hd (e : Ex) : (([("add", .str " + "), ("sub", .str " - "), ("mul", .str " * ")] : List (Str × EV.W)).lookup e.hd).isSome = e.ar := by
  cases e with
  | num n => rfl
  | ref s => rfl
  | op k a b => cases k <;> rfl
theorem lk_op (k : K5) (h : k.fn = false) : ([("add", .str " + "), ("sub", .str " - "), ("mul", .str " * ")] : List (Str × EV.W)).lookup k.nm = some (.str k.opT) := by
  cases k <;> first | rfl | cases h
theorem xC_ok (e : Ex) (x1 x2 x3 x4 x5 x6 : EV.Sl) : xC [.fr (exW e), x1, x2, x3, x4, x5, x6] S = .ok e.ar S := by
  obtain ⟨r, hr⟩ := exW_hd e
  have hl := lk_hd e
  unfold xC EV.mTIn
  rw [hr, show EV.mIx (EV.mVarB 0) (EV.mC (.int 0)) [.fr (.tup (.str e.hd :: r)), x1, x2, x3, x4, x5, x6] S = .ok (.str e.hd) S by simp -implicitDefEqProofs [EV.LIM, EV.str_lit, evr, EV.r_for, EV.r_rng1, EV.wbin, EV.wun, EV.wcmp, EV.vw, EV.vwz, EV.wix, EV.wblt, EV.wtru, EV.wisi, EV.frz, EV.mkOwn, L2.atI, L2.ixN, List.map, List.length_cons, List.length_nil, List.replicate, List.getElem?_cons_zero, List.getElem?_cons_succ, List.set_cons_zero, List.set_cons_succ, List.append_nil, List.cons_append, List.nil_append], EV.r_ok]
  show EV.olift (some (([("add", .str " + "), ("sub", .str " - "), ("mul", .str " * ")] : List (Str × EV.W)).lookup e.hd).isSome |>.map fun z => z != false) S = _
  rw [hl]
  cases e.ar <;> rfl
theorem down_loop (F : EV.Fenv) (x2 x3 x4 x5 x6 : EV.Sl) (n : Nat) : ∀ (e : Ex) (acc : List EV.W), acc.length + e.nodes.length < 10000000 → EV.whL xC (n_expression_text_1b F) (n + 1 + e.nodes.length) [.fr (exW e), .ow (.lst acc), x2, x3, x4, x5, x6] S = .ok (.nx [.fr (exW e.base), .ow (.lst (acc ++ e.nodes.map exW)), x2, x3, x4, x5, x6]) S
  | .num k, acc, _ => by
    rw [show n + 1 + (Ex.num k).nodes.length = n + 1 from rfl, whl_end (xC_ok _ ..)]
    simp [Ex.base, Ex.nodes]
  | .ref s, acc, _ => by
    rw [show n + 1 + (Ex.ref s).nodes.length = n + 1 from rfl, whl_end (xC_ok _ ..)]
    simp [Ex.base, Ex.nodes]
  | .op k a b, acc, h => by
    cases hf : k.fn with
    | true =>
      have e1 : (Ex.op k a b).nodes = [] := by unfold Ex.nodes; rw [if_pos hf]
      have e2 : (Ex.op k a b).base = .op k a b := by unfold Ex.base; rw [if_pos hf]
      have e3 := xC_ok (S := S) (.op k a b) (.ow (.lst acc)) x2 x3 x4 x5 x6
      rw [show (Ex.op k a b).ar = false by show (!k.fn) = _; rw [hf]; rfl] at e3
      rw [e1, e2, List.length_nil, Nat.add_zero, whl_end e3, List.map_nil, List.append_nil]
    | false =>
      have e1 : (Ex.op k a b).nodes = .op k a b :: a.nodes := by rw [Ex.nodes, if_neg (by rw [hf]; simp)]
      have e2 : (Ex.op k a b).base = a.base := by rw [Ex.base, if_neg (by rw [hf]; simp)]
      have e3 := xC_ok (S := S) (.op k a b) (.ow (.lst acc)) x2 x3 x4 x5 x6
      rw [show (Ex.op k a b).ar = true by show (!k.fn) = _; rw [hf]; rfl] at e3
      rw [e1, List.length_cons] at h
      have hb : n_expression_text_1b F [.fr (exW (.op k a b)), .ow (.lst acc), x2, x3, x4, x5, x6] S = .ok (.nx [.fr (exW a), .ow (.lst (acc ++ [exW (.op k a b)])), x2, x3, x4, x5, x6]) S := by
        have a0 : n_expression_text_1b_0 F [.fr (exW (.op k a b)), .ow (.lst acc), x2, x3, x4, x5, x6] S = .ok (.nx [.fr (exW (.op k a b)), .ow (.lst (acc ++ [exW (.op k a b)])), x2, x3, x4, x5, x6]) S := by
          unfold n_expression_text_1b_0
          rw [EV.r_frz, show EV.frz [.fr (exW (.op k a b)), .ow (.lst acc), x2, x3, x4, x5, x6] [0] = [.fr (exW (.op k a b)), .ow (.lst acc), x2, x3, x4, x5, x6] from rfl, EV.r_mut, mut_own (i := 1) (S1 := S) (ws := [exW (.op k a b)]) rfl rfl (up_app _ _ _ (by omega)), EV.r_ok, EV.r_mutF]
          rfl
        unfold n_expression_text_1b
        rw [seq_step a0]
        rfl
      rw [e1, List.length_cons, ← Nat.add_assoc, whl_go e3 (.inl hb), down_loop F x2 x3 x4 x5 x6 n a (acc ++ [exW (.op k a b)]) (by simp; omega), e2, List.map_cons, List.append_assoc]
      rfl
end
open TL
section
variable {S : EV.Sto}
theorem pcs_len : ∀ e : Ex, (pcs e).length ≤ 3 * e.sz
  | .num n => by simp [pcs, Ex.sz]
  | .ref s => by simp [pcs, Ex.sz]
  | .op k a b => by
    have h1 := pcs_len a
    have h2 := sz_pos b
    show _ ≤ 3 * (a.sz + b.sz)
    cases hf : k.fn with
    | true => rw [pcs, if_pos hf, List.length_singleton]; omega
    | false =>
      rw [pcs_ar hf]
      split <;> simp <;> omega
theorem node_body (F : EV.Fenv) (x0 x1 x6 : EV.Sl) {k : K5} {a b : Ex} (hf : k.fn = false) (hr : F "right_text" [.str k.nm, exW b] S = .ok (.str (wrp (bR k b) (txt b))) S) (hl : (pcs a).length ≤ 1000000) :
    n_expression_text_5b F [x0, x1, .fr (.int (nb a)), .ow (.lst (tkW (pcs a))), .fr (.str a.hd), .fr (exW (.op k a b)), x6] S =
      .ok (.nx [x0, x1, .fr (.int (nb (.op k a b))), .ow (.lst (tkW (pcs (.op k a b)))), .fr (.str k.nm), .fr (exW (.op k a b)), .fr (.str k.nm)]) S := by
  have a0 : n_expression_text_5b_0 F [x0, x1, .fr (.int (nb a)), .ow (.lst (tkW (pcs a))), .fr (.str a.hd), .fr (exW (.op k a b)), x6] S = .ok (.nx [x0, x1, .fr (.int (nb a)), .ow (.lst (tkW (pcs a))), .fr (.str a.hd), .fr (exW (.op k a b)), .fr (.str k.nm)]) S := rfl
  have et : EV.mAnd (EV.mCmpT .Eq (EV.mVarB 6) (EV.mC (.str "mul"))) (EV.mCmpT .In (EV.mVarB 4) (EV.mC (.tup [.str "add", .str "sub"]))) [x0, x1, .fr (.int (nb a)), .ow (.lst (tkW (pcs a))), .fr (.str a.hd), .fr (exW (.op k a b)), .fr (.str k.nm)] S = .ok (bL k a) S := by
    have sa := hd_sum a
    have hml := nm_mul k
    unfold bL
    rw [← hml]
    clear hr a0
    generalize exW (.op k a b) = WO
    generalize tkW (pcs a) = PW
    generalize k.nm = NM at *
    generalize a.hd = HA at *
    by_cases q : NM = ("mul" : Str)
    · simp -implicitDefEqProofs [EV.LIM, EV.str_lit, evr, EV.r_for, EV.r_rng1, EV.wbin, EV.wun, EV.wcmp, EV.vw, EV.vwz, EV.wix, EV.wblt, EV.wtru, EV.wisi, EV.frz, EV.mkOwn, L2.atI, L2.ixN, List.map, List.length_cons, List.length_nil, List.replicate, List.getElem?_cons_zero, List.getElem?_cons_succ, List.set_cons_zero, List.set_cons_succ, List.append_nil, List.cons_append, List.nil_append, q, sa]
    · simp -implicitDefEqProofs [EV.LIM, EV.str_lit, evr, EV.r_for, EV.r_rng1, EV.wbin, EV.wun, EV.wcmp, EV.vw, EV.vwz, EV.wix, EV.wblt, EV.wtru, EV.wisi, EV.frz, EV.mkOwn, L2.atI, L2.ixN, List.map, List.length_cons, List.length_nil, List.replicate, List.getElem?_cons_zero, List.getElem?_cons_succ, List.set_cons_zero, List.set_cons_succ, List.append_nil, List.cons_append, List.nil_append, q]
  have a1 : n_expression_text_5b_1 F [x0, x1, .fr (.int (nb a)), .ow (.lst (tkW (pcs a))), .fr (.str a.hd), .fr (exW (.op k a b)), .fr (.str k.nm)] S =
      .ok (.nx [x0, x1, .fr (.int (nb (.op k a b))), .ow (.lst (tkW (pcs a ++ if bL k a then [(")" : Str)] else []))), .fr (.str a.hd), .fr (exW (.op k a b)), .fr (.str k.nm)]) S := by
    unfold n_expression_text_5b_1
    rw [EV.r_if, et, EV.r_ok, nb_ar hf]
    cases bL k a with
    | true =>
      rw [EV.r_sifT]
      unfold n_expression_text_5b_1t
      have b0 : n_expression_text_5b_1t_0 F [x0, x1, .fr (.int (nb a)), .ow (.lst (tkW (pcs a))), .fr (.str a.hd), .fr (exW (.op k a b)), .fr (.str k.nm)] S = .ok (.nx [x0, x1, .fr (.int (nb a + 1 : Nat)), .ow (.lst (tkW (pcs a))), .fr (.str a.hd), .fr (exW (.op k a b)), .fr (.str k.nm)]) S := by
        have : ((nb a + 1 : Nat) : Int) = (nb a : Int) + 1 := by omega
        rw [this]
        rfl
      rw [seq_step b0]
      unfold n_expression_text_5b_1t_1
      rw [EV.r_mut, mut_own (i := 3) (S1 := S) (ws := [.str ")"]) rfl rfl (up_app _ _ _ (by unfold tkW; rw [List.length_map]; omega)), EV.r_ok, EV.r_mutF]
      unfold tkW
      rw [List.map_append]
      rfl
    | false =>
      rw [EV.r_sifN, if_neg (by simp), if_neg (by simp), List.append_nil, Nat.add_zero]
      rfl
  have hl2 : (pcs a ++ if bL k a then [(")" : Str)] else []).length ≤ 1000001 := by split <;> simp <;> omega
  generalize hP : (pcs a ++ if bL k a then [(")" : Str)] else []) = PP at *
  have a2 : n_expression_text_5b_2 F [x0, x1, .fr (.int (nb (.op k a b))), .ow (.lst (tkW PP)), .fr (.str a.hd), .fr (exW (.op k a b)), .fr (.str k.nm)] S = .ok (.nx [x0, x1, .fr (.int (nb (.op k a b))), .ow (.lst (tkW (PP ++ [k.opT]))), .fr (.str a.hd), .fr (exW (.op k a b)), .fr (.str k.nm)]) S := by
    have ea : EV.mCons (EV.mTSub [("add", .str " + "), ("sub", .str " - "), ("mul", .str " * ")] (EV.mVarB 6)) EV.mNil [x0, x1, .fr (.int (nb (.op k a b))), .ow (.lst (tkW PP)), .fr (.str a.hd), .fr (exW (.op k a b)), .fr (.str k.nm)] S = .ok [.str k.opT] S := by
      rw [EV.r_cons]
      unfold EV.mTSub
      rw [varB_fr (i := 6) (w := .str k.nm) rfl, EV.r_ok]
      unfold EV.wTSub
      simp only [lk_op k hf]
      rfl
    unfold n_expression_text_5b_2
    rw [EV.r_mut, mut_own (i := 3) rfl ea (up_app _ _ _ (by unfold tkW; rw [List.length_map]; omega)), EV.r_ok, EV.r_mutF]
    unfold tkW
    rw [List.map_append]
    rfl
  have a3 : n_expression_text_5b_3 F [x0, x1, .fr (.int (nb (.op k a b))), .ow (.lst (tkW (PP ++ [k.opT]))), .fr (.str a.hd), .fr (exW (.op k a b)), .fr (.str k.nm)] S = .ok (.nx [x0, x1, .fr (.int (nb (.op k a b))), .ow (.lst (tkW ((PP ++ [k.opT]) ++ [wrp (bR k b) (txt b)]))), .fr (.str a.hd), .fr (exW (.op k a b)), .fr (.str k.nm)]) S := by
    have ec : EV.mCall F "right_text" (EV.mCons (EV.mVar 6) (EV.mCons (EV.mIx (EV.mVarB 5) (EV.mC (.int 2))) EV.mNil)) [] [x0, x1, .fr (.int (nb (.op k a b))), .ow (.lst (tkW (PP ++ [k.opT]))), .fr (.str a.hd), .fr (exW (.op k a b)), .fr (.str k.nm)] S = .ok (.str (wrp (bR k b) (txt b))) S := hr
    have ea : EV.mCons (EV.mCall F "right_text" (EV.mCons (EV.mVar 6) (EV.mCons (EV.mIx (EV.mVarB 5) (EV.mC (.int 2))) EV.mNil)) []) EV.mNil [x0, x1, .fr (.int (nb (.op k a b))), .ow (.lst (tkW (PP ++ [k.opT]))), .fr (.str a.hd), .fr (exW (.op k a b)), .fr (.str k.nm)] S = .ok [.str (wrp (bR k b) (txt b))] S := by
      rw [EV.r_cons, ec, EV.r_ok, EV.r_consF]
      rfl
    unfold n_expression_text_5b_3
    rw [EV.r_frz, show EV.frz [x0, x1, .fr (.int (nb (.op k a b))), .ow (.lst (tkW (PP ++ [k.opT]))), .fr (.str a.hd), .fr (exW (.op k a b)), .fr (.str k.nm)] [6] = [x0, x1, .fr (.int (nb (.op k a b))), .ow (.lst (tkW (PP ++ [k.opT]))), .fr (.str a.hd), .fr (exW (.op k a b)), .fr (.str k.nm)] from rfl, EV.r_mut, mut_own (i := 3) rfl ea (up_app _ _ _ (by unfold tkW; rw [List.length_map]; simp; omega)), EV.r_ok, EV.r_mutF]
    unfold tkW
    rw [List.map_append (l₁ := PP ++ [k.opT])]
    rfl
  unfold n_expression_text_5b
  rw [seq_step a0, seq_step a1, seq_step a2, seq_step a3, pcs_ar hf, hP]
  have : PP ++ [k.opT, wrp (bR k b) (txt b)] = (PP ++ [k.opT]) ++ [wrp (bR k b) (txt b)] := by rw [List.append_assoc]; rfl
  rw [this]
  rfl
theorem up_loop (F : EV.Fenv) (x0 x1 x5 x6 : EV.Sl) : ∀ (e : Ex) (m : List EV.W), (∀ k a b, Ex.op k a b ∈ e.nodes → F "right_text" [.str k.nm, exW b] S = .ok (.str (wrp (bR k b) (txt b))) S) → 3 * e.sz ≤ 1000000 → ∃ y5 y6 : EV.Sl,
    EV.forL (EV.bName 5) (n_expression_text_5b F) ((e.nodes.reverse.map exW) ++ m) [x0, x1, .fr (.int (0 : Nat)), .ow (.lst (tkW [txt e.base])), .fr (.str e.base.hd), x5, x6] S =
      EV.forL (EV.bName 5) (n_expression_text_5b F) m [x0, x1, .fr (.int (nb e)), .ow (.lst (tkW (pcs e))), .fr (.str e.hd), y5, y6] S
  | .num n, m, _, _ => ⟨x5, x6, rfl⟩
  | .ref s, m, _, _ => ⟨x5, x6, rfl⟩
  | .op k a b, m, h, hz => by
    have hz : 3 * (a.sz + b.sz) ≤ 1000000 := hz
    cases hf : k.fn with
    | true =>
      have e1 : (Ex.op k a b).nodes = [] := by rw [Ex.nodes, if_pos hf]
      have e2 : (Ex.op k a b).base = .op k a b := by rw [Ex.base, if_pos hf]
      have e3 : nb (.op k a b) = 0 := by rw [nb, if_pos hf]
      have e4 : pcs (.op k a b) = [txt (.op k a b)] := by rw [pcs, if_pos hf]
      rw [e1, e2, e3, e4]
      exact ⟨x5, x6, rfl⟩
    | false =>
      have e1 : (Ex.op k a b).nodes = .op k a b :: a.nodes := by rw [Ex.nodes, if_neg (by rw [hf]; simp)]
      have e2 : (Ex.op k a b).base = a.base := by rw [Ex.base, if_neg (by rw [hf]; simp)]
      obtain ⟨y5, y6, ih⟩ := up_loop F x0 x1 x5 x6 a (exW (.op k a b) :: m) (fun k' a' b' hm => h k' a' b' (by rw [e1]; exact List.mem_cons_of_mem _ hm)) (by omega)
      have hb := node_body (S := S) F x0 x1 y6 (a := a) (b := b) hf (h k a b (by rw [e1]; exact List.mem_cons_self ..)) (by have := pcs_len a; omega)
      refine ⟨.fr (exW (.op k a b)), .fr (.str k.nm), ?_⟩
      rw [e1, e2, List.reverse_cons, List.map_append, List.map_singleton, List.append_assoc, List.singleton_append, ih, EV.r_forC, EV.r_bname, EV.r_ok, EV.r_forG]
      refine (congrArg (fun r => EV.Res.bind r _) hb).trans ?_
      rw [EV.r_ok, EV.r_forHn]
      rfl
theorem nodes_sub : ∀ (e : Ex) (k : K5) (a b : Ex), Ex.op k a b ∈ e.nodes → b.sz < e.sz ∧ (ExOk e → ExOk b) ∧ (NbOk e → NbOk b) ∧ b.hR + 1 ≤ e.hR
  | .num n, k, a, b, h => by simp [Ex.nodes] at h
  | .ref s, k, a, b, h => by simp [Ex.nodes] at h
  | .op k0 a0 b0, k, a, b, h => by
    cases hf : k0.fn with
    | true => rw [Ex.nodes, if_pos hf] at h; simp at h
    | false =>
      have hh : (Ex.op k0 a0 b0).hR = max a0.hR (b0.hR + 1) := by rw [Ex.hR, if_neg (by rw [hf]; simp)]
      rw [Ex.nodes, if_neg (by rw [hf]; simp)] at h
      rw [hh]
      rcases List.mem_cons.mp h with e | h
      · injection e with e1 e2 e3
        subst e1 e2 e3
        have := sz_pos a
        exact ⟨by show b.sz < a.sz + b.sz; omega, fun h => h.2, fun h => h.2.2, by omega⟩
      · obtain ⟨h1, h2, h3, h4⟩ := nodes_sub a0 k a b h
        exact ⟨by show b.sz < a0.sz + b0.sz; omega, fun h => h2 h.1, fun h => h3 h.2.1, by omega⟩
theorem base_sub : ∀ e : Ex, e.base.sz ≤ e.sz ∧ (ExOk e → ExOk e.base) ∧ (NbOk e → NbOk e.base) ∧ e.base.hR ≤ e.hR ∧ (∀ k a b, e.base = .op k a b → k.fn = true)
  | .num n => ⟨Nat.le_refl _, id, id, Nat.le_refl _, fun _ _ _ h => by cases h⟩
  | .ref s => ⟨Nat.le_refl _, id, id, Nat.le_refl _, fun _ _ _ h => by cases h⟩
  | .op k0 a0 b0 => by
    cases hf : k0.fn with
    | true =>
      have e2 : (Ex.op k0 a0 b0).base = .op k0 a0 b0 := by rw [Ex.base, if_pos hf]
      rw [e2]
      exact ⟨Nat.le_refl _, id, id, Nat.le_refl _, fun k a b h => by injection h with h1; rw [← h1]; exact hf⟩
    | false =>
      have e2 : (Ex.op k0 a0 b0).base = a0.base := by rw [Ex.base, if_neg (by rw [hf]; simp)]
      have hh : (Ex.op k0 a0 b0).hR = max a0.hR (b0.hR + 1) := by rw [Ex.hR, if_neg (by rw [hf]; simp)]
      obtain ⟨h1, h2, h3, h4, h5⟩ := base_sub a0
      rw [e2, hh]
      exact ⟨by show _ ≤ a0.sz + b0.sz; omega, fun h => h2 h.1, fun h => h3 h.2.1, by omega, h5⟩
theorem nb_ok : ∀ e : Ex, NbOk e → nb e ≤ 1000
  | .num n, _ => by simp [nb]
  | .ref s, _ => by simp [nb]
  | .op _ _ _, h => h.1
theorem sum_flat (l : List Str) : (l.map (·.length)).sum = ((l.map tl).flatten).length := by
  induction l with
  | nil => rfl
  | cons a l ih => rw [List.map_cons, List.sum_cons, List.map_cons, List.flatten_cons, List.length_append, ih, len_tl]
theorem etext_ex : ∀ (N : Nat) (e : Ex), e.sz ≤ N → N ≤ 20000 → ExOk e → NbOk e → TX S e
  | 0, e, h, _, _, _ => by have := sz_pos e; omega
  | N + 1, e, h, hN, ho, hn => fun d => by
    have hl2 := line_ge
    obtain ⟨q1, q2, q3, q4, q5⟩ := base_sub e
    have hle := txt_len e ho
    have hnl := nodes_le e
    generalize hD : d + 2 * e.hR + 2 = D
    rw [show d + 2 * e.hR + 3 = D + 1 by omega, fe_expression_text, if_pos (by rfl), ms_expression_text, EV.r_run]
    show (EV.sSeq _ _ [.fr (exW e), .emp, .emp, .emp, .emp, .emp, .emp] _).bind EV.runF = _
    have a0 : n_expression_text_0 (EV.Fn gG gP D) [.fr (exW e), .emp, .emp, .emp, .emp, .emp, .emp] S = .ok (.nx [.fr (exW e), .ow (.lst []), .emp, .emp, .emp, .emp, .emp]) S := rfl
    obtain ⟨n, hwn⟩ : ∃ n, EV.whMax = n + 1 + e.nodes.length := ⟨EV.whMax - (1 + e.nodes.length), by rw [EV.whMax_eq]; omega⟩
    have a1 : n_expression_text_1 (EV.Fn gG gP D) [.fr (exW e), .ow (.lst []), .emp, .emp, .emp, .emp, .emp] S = .ok (.nx [.fr (exW e.base), .ow (.lst (e.nodes.map exW)), .emp, .emp, .emp, .emp, .emp]) S := by
      unfold n_expression_text_1 EV.sWh
      rw [hwn]
      have := down_loop (S := S) (EV.Fn gG gP D) .emp .emp .emp .emp .emp n e [] (by simp; omega)
      rw [List.nil_append] at this
      exact this
    have a2 : n_expression_text_2 (EV.Fn gG gP D) [.fr (exW e.base), .ow (.lst (e.nodes.map exW)), .emp, .emp, .emp, .emp, .emp] S = .ok (.nx [.fr (exW e.base), .ow (.lst (e.nodes.map exW)), .fr (.int (0 : Nat)), .emp, .emp, .emp, .emp]) S := rfl
    have eat : EV.Fn gG gP D "atom_text" [exW e.base] S = .ok (.str (txt e.base)) S := by
      cases hb : e.base with
      | num k =>
        have := q2 ho
        rw [hb] at this
        rw [show D = (D - 2) + 2 by omega]
        exact atom_num (D - 2) this
      | ref s =>
        rw [show D = (D - 2) + 2 by omega]
        exact atom_ref (D - 2) s
      | op k a b =>
        have hf := q5 k a b hb
        have o1 := q2 ho
        have o2 := q3 hn
        rw [hb] at o1 o2 q1 q4
        have hh : (Ex.op k a b).hR = max a.hR b.hR + 1 := by rw [Ex.hR, if_pos hf]
        rw [hh] at q4
        have q1 : a.sz + b.sz ≤ e.sz := q1
        have := sz_pos a
        have := sz_pos b
        have la := txt_len a o1.1
        have lb := txt_len b o1.2
        have t1 := etext_ex N a (by omega) (by omega) o1.1 o2.2.1 (D - 1 - (2 * a.hR + 3))
        have t2 := etext_ex N b (by omega) (by omega) o1.2 o2.2.2 (D - 1 - (2 * b.hR + 3))
        rw [show D - 1 - (2 * a.hR + 3) + 2 * a.hR + 3 = D - 1 by omega] at t1
        rw [show D - 1 - (2 * b.hR + 3) + 2 * b.hR + 3 = D - 1 by omega] at t2
        rw [show D = (D - 1) + 1 by omega]
        exact atom_fn (D - 1) hf t1 t2 (by omega) (by omega)
    have a3 : n_expression_text_3 (EV.Fn gG gP D) [.fr (exW e.base), .ow (.lst (e.nodes.map exW)), .fr (.int (0 : Nat)), .emp, .emp, .emp, .emp] S = .ok (.nx [.fr (exW e.base), .ow (.lst (e.nodes.map exW)), .fr (.int (0 : Nat)), .ow (.lst (tkW [txt e.base])), .emp, .emp, .emp]) S := by
      have ec : EV.mCall (EV.Fn gG gP D) "atom_text" (EV.mCons (EV.mVar 0) EV.mNil) [] [.fr (exW e.base), .ow (.lst (e.nodes.map exW)), .fr (.int (0 : Nat)), .emp, .emp, .emp, .emp] S = .ok (.str (txt e.base)) S := eat
      unfold n_expression_text_3
      rw [EV.r_frz, show EV.frz [.fr (exW e.base), .ow (.lst (e.nodes.map exW)), .fr (.int (0 : Nat)), .emp, .emp, .emp, .emp] [0] = [.fr (exW e.base), .ow (.lst (e.nodes.map exW)), .fr (.int (0 : Nat)), .emp, .emp, .emp, .emp] from rfl, EV.r_setO, EV.r_lst, EV.r_cons, ec, EV.r_ok, EV.r_consF]
      rfl
    have a4 : n_expression_text_4 (EV.Fn gG gP D) [.fr (exW e.base), .ow (.lst (e.nodes.map exW)), .fr (.int (0 : Nat)), .ow (.lst (tkW [txt e.base])), .emp, .emp, .emp] S = .ok (.nx [.fr (exW e.base), .ow (.lst (e.nodes.map exW)), .fr (.int (0 : Nat)), .ow (.lst (tkW [txt e.base])), .fr (.str e.base.hd), .emp, .emp]) S := by
      obtain ⟨r, hr⟩ := exW_hd e.base
      rw [hr]
      generalize e.nodes.map exW = NW
      generalize tkW [txt e.base] = TW
      simp -implicitDefEqProofs [EV.LIM, EV.str_lit, evr, EV.r_for, EV.r_rng1, EV.wbin, EV.wun, EV.wcmp, EV.vw, EV.vwz, EV.wix, EV.wblt, EV.wtru, EV.wisi, EV.frz, EV.mkOwn, L2.atI, L2.ixN, List.map, List.length_cons, List.length_nil, List.replicate, List.getElem?_cons_zero, List.getElem?_cons_succ, List.set_cons_zero, List.set_cons_succ, List.append_nil, List.cons_append, List.nil_append, n_expression_text_4]
    obtain ⟨y5, y6, e5⟩ := up_loop (S := S) (EV.Fn gG gP D) (.fr (exW e.base)) (.fr (.lst (e.nodes.map exW))) .emp .emp e [] (fun k a b hm => by
      obtain ⟨z1, z2, z3, z4⟩ := nodes_sub e k a b hm
      have lb := txt_len b (z2 ho)
      have t1 := etext_ex N b (by omega) (by omega) (z2 ho) (z3 hn) (D - 1 - (2 * b.hR + 3))
      rw [show D - 1 - (2 * b.hR + 3) + 2 * b.hR + 3 = D - 1 by omega] at t1
      rw [show D = (D - 1) + 1 by omega]
      exact right_ex (D - 1) k t1 (by omega)) (by omega)
    have a5 : n_expression_text_5 (EV.Fn gG gP D) [.fr (exW e.base), .ow (.lst (e.nodes.map exW)), .fr (.int (0 : Nat)), .ow (.lst (tkW [txt e.base])), .fr (.str e.base.hd), .emp, .emp] S = .ok (.nx [.fr (exW e.base), .fr (.lst (e.nodes.map exW)), .fr (.int (nb e)), .ow (.lst (tkW (pcs e))), .fr (.str e.hd), y5, y6]) S := by
      unfold n_expression_text_5
      rw [EV.r_frz, show EV.frz [.fr (exW e.base), .ow (.lst (e.nodes.map exW)), .fr (.int (0 : Nat)), .ow (.lst (tkW [txt e.base])), .fr (.str e.base.hd), .emp, .emp] [1] = [.fr (exW e.base), .fr (.lst (e.nodes.map exW)), .fr (.int (0 : Nat)), .ow (.lst (tkW [txt e.base])), .fr (.str e.base.hd), .emp, .emp] from rfl, EV.r_for, show EV.mRev (EV.mVar 1) [.fr (exW e.base), .fr (.lst (e.nodes.map exW)), .fr (.int (0 : Nat)), .ow (.lst (tkW [txt e.base])), .fr (.str e.base.hd), .emp, .emp] S = .ok (e.nodes.reverse.map exW) S by
        show EV.Res.ok (e.nodes.map exW).reverse S = _
        rw [List.map_reverse], EV.r_ok, EV.r_forF]
      rw [List.append_nil] at e5
      exact e5
    rw [seq_step a0, seq_step a1, seq_step a2, seq_step a3, seq_step a4, seq_step a5]
    have hnb := nb_ok e hn
    have htp := txt_pcs e
    have hsum : ((pcs e).map (·.length)).sum + nb e = (txt e).length := by
      rw [sum_flat, len_tl, htp]
      simp
      omega
    have ej : EV.mSm .join (EV.mC (.str "")) (EV.mVar 3) [.fr (exW e.base), .fr (.lst (e.nodes.map exW)), .fr (.int (nb e)), .fr (.lst (tkW (pcs e))), .fr (.str e.hd), y5, y6] S = .ok (.str (Str.join "" (pcs e))) S := by
      show EV.olift (EV.wSm .join (.str "") (.lst (tkW (pcs e)))) S = _
      unfold tkW
      simp only [EV.wSm, wstrs_map]
      rw [if_pos (by rw [show ("" : Str).length = 0 by decide +kernel]; omega), join_eq]
      rfl
    have em : EV.mBin .Mult (EV.mC (.str "(")) (EV.mVarB 2) [.fr (exW e.base), .fr (.lst (e.nodes.map exW)), .fr (.int (nb e)), .fr (.lst (tkW (pcs e))), .fr (.str e.hd), y5, y6] S = .ok (.str (EV.repS "(" (nb e))) S := by
      have z1 : 0 ≤ (nb e : Int) ∧ (nb e : Int) ≤ 1000 := by omega
      show EV.olift (if 0 ≤ (nb e : Int) ∧ (nb e : Int) ≤ 1000 ∧ ("(" : Str).length ≤ 1000 then some (EV.W.str (EV.repS "(" (nb e : Int).toNat)) else none) S = _
      rw [if_pos ⟨z1.1, z1.2, by rw [len_o]; decide⟩, Int.toNat_natCast]
      rfl
    have hfin : EV.repS "(" (nb e) ++ Str.join "" (pcs e) = txt e := by
      apply ext_tl
      rw [app_tl, rep_tl, tl_o, flat40, tl_join, show tl ("" : Str) = [] by decide +kernel, joinL_nil, htp]
    have hlens : (EV.repS "(" (nb e)).length + (Str.join "" (pcs e)).length ≤ sizeLine := by
      have := congrArg Str.length hfin
      rw [app_len] at this
      omega
    have ea := add_s em ej hlens
    unfold n_expression_text_6
    rw [EV.r_frz, show EV.frz [.fr (exW e.base), .fr (.lst (e.nodes.map exW)), .fr (.int (nb e)), .ow (.lst (tkW (pcs e))), .fr (.str e.hd), y5, y6] [3] = [.fr (exW e.base), .fr (.lst (e.nodes.map exW)), .fr (.int (nb e)), .fr (.lst (tkW (pcs e))), .fr (.str e.hd), y5, y6] from rfl, EV.r_ret, ea, hfin]
    rfl
end
open TL
/-! ### the rows of tokens, plain -/
theorem sg_o : Sign "(" := ⟨40, by decide +kernel, by decide⟩
theorem sg_c : Sign ")" := ⟨41, by decide +kernel, by decide⟩
theorem sg_m : Sign "," := ⟨44, by decide +kernel, by decide⟩
theorem sg_s : Sign "*" := ⟨42, by decide +kernel, by decide⟩
theorem sg_k {k : K5} (h : k.fn = false) : Sign k.sg := by
  cases k
  · exact ⟨43, by decide +kernel, by decide⟩
  · exact ⟨45, by decide +kernel, by decide⟩
  · exact sg_s
  · cases h
  · cases h
theorem fn_iff (k : K5) : k.fn = true ↔ k = .mn ∨ k = .mx := by cases k <;> simp [K5.fn]
theorem wd_fn {k : K5} (h : k.fn = true) : Word k.nm := by
  have q : ∀ s : Str, (s = "min" ∨ s = "max") → tl s ≠ [] ∧ ∀ c ∈ tl s, wordC c = true := by
    rintro s (rfl | rfl) <;> decide +kernel
  cases k with
  | mn => exact q _ (.inl rfl)
  | mx => exact q _ (.inr rfl)
  | add => cases h
  | sub => cases h
  | mul => cases h
theorem numS_word (n : Nat) : Word (numS n) := by
  refine ⟨by rw [numS_tl]; exact numL_ne n, fun c hc => ?_⟩
  rw [numS_tl] at hc
  have := numL_dig n c hc
  unfold digC at this
  unfold wordC
  rw [Bool.or_eq_true, Bool.or_eq_true]
  exact .inl (.inr this)
theorem Apart.cons {s : Str} (hs : Sign s) {l : List Str} (h : Apart l) : Apart (s :: l) := Apart.mid (l := []) hs trivial h
theorem p_ok {l : Nat} {e : Ex} {ts : List Str} {b : Nat} (h : P l e ts b) : (∀ t ∈ ts, TokOk t) ∧ Apart ts ∧ ts ≠ [] := by
  induction h with
  | num hn => exact ⟨fun t ht => by rw [List.mem_singleton] at ht; subst ht; exact .inl (numS_word _), trivial, by simp⟩
  | ref h => exact ⟨fun t ht => by rw [List.mem_singleton] at ht; subst ht; exact .inl h.word, trivial, by simp⟩
  | brk _ ih =>
    refine ⟨fun t ht => ?_, (ih.2.1.last sg_c).cons sg_o, by simp⟩
    simp only [List.mem_cons, List.mem_append, List.not_mem_nil, or_false] at ht
    rcases ht with rfl | ht | rfl
    · exact .inr sg_o
    · exact ih.1 t ht
    · exact .inr sg_c
  | @fn k a c ts1 ts2 b1 b2 b hk _ _ _ _ i1 i2 =>
    have hf := (fn_iff k).mpr hk
    refine ⟨fun t ht => ?_, ?_, by simp⟩
    · simp only [List.mem_cons, List.mem_append, List.not_mem_nil, or_false] at ht
      rcases ht with rfl | rfl | ht | rfl | ht | rfl
      · exact .inl (wd_fn hf)
      · exact .inr sg_o
      · exact i1.1 t ht
      · exact .inr sg_m
      · exact i2.1 t ht
      · exact .inr sg_c
    · exact ⟨fun z => sg_o.nw z.2, (i1.2.1.mid sg_m (i2.2.1.last sg_c)).cons sg_o⟩
  | up1 _ ih => exact ih
  | mul _ _ _ _ i1 i2 =>
    refine ⟨fun t ht => ?_, i1.2.1.mid sg_s i2.2.1, by simp⟩
    simp only [List.mem_cons, List.mem_append] at ht
    rcases ht with ht | rfl | ht
    · exact i1.1 t ht
    · exact .inr sg_s
    · exact i2.1 t ht
  | up2 _ ih => exact ih
  | @sum k a c ts1 ts2 b1 b2 b hk _ _ _ _ i1 i2 =>
    have hs : Sign k.sg := sg_k (by rcases hk with rfl | rfl <;> rfl)
    refine ⟨fun t ht => ?_, i1.2.1.mid hs i2.2.1, by simp⟩
    simp only [List.mem_cons, List.mem_append] at ht
    rcases ht with ht | rfl | ht
    · exact i1.1 t ht
    · exact .inr hs
    · exact i2.1 t ht
theorem p_lift {e : Ex} {ts : List Str} {b : Nat} (h : P 0 e ts b) : P 1 e ts b ∧ P 2 e ts b := ⟨.up1 h, .up2 (.up1 h)⟩
theorem p_top {l : Nat} {e : Ex} {ts : List Str} {b : Nat} (h : P l e ts b) : l ≤ 2 ∧ P 2 e ts b := by
  cases h with
  | num h => exact ⟨by omega, (p_lift (.num h)).2⟩
  | ref h => exact ⟨by omega, (p_lift (.ref h)).2⟩
  | brk h => exact ⟨by omega, (p_lift (.brk h)).2⟩
  | fn hk h1 h2 b1 b2 => exact ⟨by omega, (p_lift (.fn hk h1 h2 b1 b2)).2⟩
  | up1 h => exact ⟨by omega, .up2 (.up1 h)⟩
  | mul h1 h2 b1 b2 => exact ⟨by omega, .up2 (.mul h1 h2 b1 b2)⟩
  | up2 h => exact ⟨by omega, .up2 h⟩
  | sum hk h1 h2 b1 b2 => exact ⟨by omega, .sum hk h1 h2 b1 b2⟩
theorem lv_le (e : Ex) : e.lv ≤ 2 := by
  cases e with
  | num n => exact Nat.zero_le _
  | ref s => exact Nat.zero_le _
  | op k a b => cases k <;> (show _ ≤ 2) <;> simp [Ex.lv]
theorem p_any {e : Ex} {ts : List Str} {b : Nat} (h : P 0 e ts b) : P e.lv e ts b := by
  have := lv_le e
  rcases (by omega : e.lv = 0 ∨ e.lv = 1 ∨ e.lv = 2) with q | q | q <;> rw [q]
  · exact h
  · exact (p_lift h).1
  · exact (p_lift h).2
def wT (c : Bool) (ts : List Str) : List Str := if c then ("(" : Str) :: (ts ++ [(")" : Str)]) else ts
def opTs (k : K5) (a b : Ex) (ts1 ts2 : List Str) : List Str := if k.fn then k.nm :: ("(" : Str) :: (ts1 ++ ("," : Str) :: (ts2 ++ [(")" : Str)])) else wT (bL k a) ts1 ++ k.sg :: wT (bR k b) ts2
/-- in brackets, or low enough -/
theorem wT_p {c : Bool} {e : Ex} {ts : List Str} {b l : Nat} (h : P e.lv e ts b) (hl : l ≤ 2) (hc : c = false → e.lv ≤ l) : ∃ b', b' ≤ b + 1 ∧ P l e (wT c ts) b' := by
  cases c with
  | true =>
    have h0 : P 0 e (wT true ts) (b + 1) := .brk (p_top h).2
    refine ⟨b + 1, Nat.le_refl _, ?_⟩
    rcases (by omega : l = 0 ∨ l = 1 ∨ l = 2) with q | q | q <;> subst q
    · exact h0
    · exact (p_lift h0).1
    · exact (p_lift h0).2
  | false =>
    have := hc rfl
    refine ⟨b, by omega, ?_⟩
    show P l e ts b
    generalize e.lv = v at h this
    rcases (by omega : (v = 0 ∧ l = 0) ∨ (v = 0 ∧ l = 1) ∨ (v = 0 ∧ l = 2) ∨ (v = 1 ∧ l = 1) ∨ (v = 1 ∧ l = 2) ∨ (v = 2 ∧ l = 2)) with ⟨q, r⟩ | ⟨q, r⟩ | ⟨q, r⟩ | ⟨q, r⟩ | ⟨q, r⟩ | ⟨q, r⟩ <;> subst q r
    · exact h
    · exact (p_lift h).1
    · exact (p_lift h).2
    · exact h
    · exact .up2 h
    · exact h
theorem op_row {k : K5} {a b : Ex} {ts1 ts2 : List Str} {b1 b2 : Nat} (h1 : P a.lv a ts1 b1) (h2 : P b.lv b ts2 b2) : P (Ex.op k a b).lv (.op k a b) (opTs k a b ts1 ts2) (max b1 b2 + 1) := by
  unfold opTs
  cases hf : k.fn with
  | true =>
    rw [if_pos rfl]
    exact p_any (.fn ((fn_iff k).mp hf) (p_top h1).2 (p_top h2).2 (Nat.le_max_left ..) (Nat.le_max_right ..))
  | false =>
    rw [if_neg (by simp)]
    have la := lv_le a
    have lb := lv_le b
    cases k with
    | add =>
      obtain ⟨c1, d1, g1⟩ := wT_p (c := bL .add a) (l := 2) h1 (by omega) (fun _ => la)
      obtain ⟨c2, d2, g2⟩ := wT_p (c := bR .add b) (l := 1) h2 (by omega) (fun q => by unfold bR at q; simp at q; omega)
      exact .sum (.inl rfl) g1 g2 (by omega) (by omega)
    | sub =>
      obtain ⟨c1, d1, g1⟩ := wT_p (c := bL .sub a) (l := 2) h1 (by omega) (fun _ => la)
      obtain ⟨c2, d2, g2⟩ := wT_p (c := bR .sub b) (l := 1) h2 (by omega) (fun q => by unfold bR at q; simp at q; omega)
      exact .sum (.inr rfl) g1 g2 (by omega) (by omega)
    | mul =>
      obtain ⟨c1, d1, g1⟩ := wT_p (c := bL .mul a) (l := 1) h1 (by omega) (fun q => by unfold bL at q; simp at q; omega)
      obtain ⟨c2, d2, g2⟩ := wT_p (c := bR .mul b) (l := 0) h2 (by omega) (fun q => by unfold bR at q; simp at q; omega)
      exact .mul g1 g2 (by omega) (by omega)
    | mn => cases hf
    | mx => cases hf
/-- m more brackets -/
theorem more_row {e : Ex} {ts : List Str} {b : Nat} (h : P e.lv e ts b) : ∀ m : Nat, P e.lv e (List.replicate m ("(" : Str) ++ ts ++ List.replicate m (")" : Str)) (b + m)
  | 0 => by simpa using h
  | m + 1 => by
    have ih := more_row h m
    have e1 : List.replicate (m + 1) ("(" : Str) ++ ts ++ List.replicate (m + 1) (")" : Str) = ("(" : Str) :: ((List.replicate m ("(" : Str) ++ ts ++ List.replicate m (")" : Str)) ++ [(")" : Str)]) := by
      rw [List.replicate_succ, List.replicate_succ']
      simp [List.append_assoc]
    rw [e1]
    exact p_any (.brk (p_top ih).2)
/-! the text has these tokens -/
def bump : List (Nat × Str) → List (Nat × Str)
  | [] => []
  | (n, t) :: r => (n + 1, t) :: r
theorem bump_lay {l : List (Nat × Str)} (h : l.map (·.2) ≠ []) : lay (bump l) = 32 :: lay l ∧ (bump l).map (·.2) = l.map (·.2) := by
  cases l with
  | nil => exact absurd rfl h
  | cons p r =>
    obtain ⟨n, t⟩ := p
    refine ⟨?_, rfl⟩
    unfold bump
    rw [lay_cons, lay_cons, List.replicate_succ]
    rfl
theorem lay_one (n : Nat) (t : Str) : lay [(n, t)] = List.replicate n 32 ++ tl t := by rw [lay_cons]; simp [lay]
theorem wT_lay {c : Bool} {t : Str} {l : List (Nat × Str)} (h : tl t = lay l) : ∃ l', tl (wrp c t) = lay l' ∧ l'.map (·.2) = wT c (l.map (·.2)) := by
  cases c with
  | true =>
    refine ⟨(0, ("(" : Str)) :: (l ++ [(0, (")" : Str))]), ?_, by simp [wT]⟩
    unfold wrp
    rw [if_pos rfl, app_tl, app_tl, lay_cons, lay_app, lay_one, h]
    simp
  | false => exact ⟨l, h, rfl⟩
theorem txt_row : ∀ (e : Ex), ExOk e → ∃ (l : List (Nat × Str)) (b : Nat), tl (txt e) = lay l ∧ P e.lv e (l.map (·.2)) b ∧ b + 1 ≤ e.sz
  | .num n, h => ⟨[(0, numS n)], 0, by rw [lay_one]; rfl, .num h, Nat.le_refl _⟩
  | .ref s, h => ⟨[(0, s)], 0, by rw [lay_one]; rfl, .ref h, Nat.le_refl _⟩
  | .op k a b, h => by
    obtain ⟨l1, b1, e1, p1, s1⟩ := txt_row a h.1
    obtain ⟨l2, b2, e2, p2, s2⟩ := txt_row b h.2
    have hsz : max b1 b2 + 1 + 1 ≤ (Ex.op k a b).sz := by
      have := sz_pos a
      have := sz_pos b
      show _ ≤ a.sz + b.sz
      omega
    have hrow := op_row (k := k) p1 p2
    cases hf : k.fn with
    | true =>
      obtain ⟨q1, q2⟩ := bump_lay (p_ok p2).2.2
      refine ⟨(0, k.nm) :: (0, ("(" : Str)) :: (l1 ++ (0, ("," : Str)) :: (bump l2 ++ [(0, (")" : Str))])), max b1 b2 + 1, ?_, ?_, hsz⟩
      · rw [txt_fn hf, lay_cons, lay_cons, lay_app, lay_cons, lay_app, lay_one, q1]
        simp only [app_tl, e1, e2, List.replicate_zero, List.nil_append, List.append_assoc, show tl (", " : Str) = tl ("," : Str) ++ [32] by decide +kernel]
        rfl
      · unfold opTs at hrow
        rw [if_pos hf] at hrow
        simpa [q2] using hrow
    | false =>
      obtain ⟨m1, f1, g1⟩ := wT_lay (c := bL k a) e1
      obtain ⟨m2, f2, g2⟩ := wT_lay (c := bR k b) e2
      have hne : m2.map (·.2) ≠ [] := by
        rw [g2]
        unfold wT
        split
        · simp
        · exact (p_ok p2).2.2
      obtain ⟨q1, q2⟩ := bump_lay hne
      refine ⟨m1 ++ (1, k.sg) :: bump m2, max b1 b2 + 1, ?_, ?_, hsz⟩
      · have ho : tl k.opT = [32] ++ tl k.sg ++ [32] := by
          cases k <;> first | (cases hf; done) | decide +kernel
        rw [txt_ar hf, lay_app, lay_cons, q1, app_tl, app_tl, f1, f2, ho]
        simp [List.append_assoc]
      · unfold opTs at hrow
        rw [if_neg (by rw [hf]; simp), ← g1, ← g2] at hrow
        simpa [q2] using hrow
open TL
def n_lw_tokens_0t_0 (F : EV.Fenv) : EV.M EV.Fl := (EV.sSetF 3 (EV.mLst (EV.mCons (EV.mBlt .str (EV.mCons (EV.mIx (EV.mVarB 1) (EV.mC (.int 1))) EV.mNil)) EV.mNil)))
def n_lw_tokens_0t (F : EV.Fenv) : EV.M EV.Fl := (n_lw_tokens_0t_0 F)
def n_lw_tokens_0e_0 (F : EV.Fenv) : EV.M EV.Fl := (EV.sFrz [0, 2] (EV.sSet 4 (EV.mCall F "_law_tokens" (EV.mCons (EV.mVar 0) (EV.mCons (EV.mIx (EV.mVarB 1) (EV.mC (.int 1))) (EV.mCons (EV.mVar 2) EV.mNil))) [])))
def n_lw_tokens_0e_1 (F : EV.Fenv) : EV.M EV.Fl := (EV.sFrz [0, 2] (EV.sSet 5 (EV.mCall F "_law_tokens" (EV.mCons (EV.mVar 0) (EV.mCons (EV.mIx (EV.mVarB 1) (EV.mC (.int 2))) (EV.mCons (EV.mVar 2) EV.mNil))) [])))
def n_lw_tokens_0e_2t_0 (F : EV.Fenv) : EV.M EV.Fl := (EV.sSetF 4 (EV.mBin .Add (EV.mBin .Add (EV.mLst (EV.mCons (EV.mC (.str "(")) EV.mNil)) (EV.mVarB 4)) (EV.mLst (EV.mCons (EV.mC (.str ")")) EV.mNil))))
def n_lw_tokens_0e_2t (F : EV.Fenv) : EV.M EV.Fl := (n_lw_tokens_0e_2t_0 F)
def n_lw_tokens_0e_2 (F : EV.Fenv) : EV.M EV.Fl := (EV.sIf (EV.mAnd (EV.mCmpT .Eq (EV.mIx (EV.mVarB 1) (EV.mC (.int 0))) (EV.mC (.str "mul"))) (EV.mCmpT .In (EV.mIx (EV.mIx (EV.mVarB 1) (EV.mC (.int 1))) (EV.mC (.int 0))) (EV.mTup (EV.mCons (EV.mC (.str "add")) (EV.mCons (EV.mC (.str "sub")) EV.mNil))))) (n_lw_tokens_0e_2t F) EV.sNext)
def n_lw_tokens_0e_3t_0 (F : EV.Fenv) : EV.M EV.Fl := (EV.sSetF 3 (EV.mBin .Add (EV.mBin .Add (EV.mBin .Add (EV.mBin .Add (EV.mLst (EV.mCons (EV.mIx (EV.mVarB 1) (EV.mC (.int 0))) (EV.mCons (EV.mC (.str "(")) EV.mNil))) (EV.mVarB 4)) (EV.mLst (EV.mCons (EV.mC (.str ",")) EV.mNil))) (EV.mVarB 5)) (EV.mLst (EV.mCons (EV.mC (.str ")")) EV.mNil))))
def n_lw_tokens_0e_3t (F : EV.Fenv) : EV.M EV.Fl := (n_lw_tokens_0e_3t_0 F)
def n_lw_tokens_0e_3e_0t_0 (F : EV.Fenv) : EV.M EV.Fl := (EV.sSetF 3 (EV.mBin .Add (EV.mBin .Add (EV.mBin .Add (EV.mVarB 4) (EV.mLst (EV.mCons (EV.mIx (EV.mDict [((EV.mC (.str "add")), (EV.mC (.str "+"))), ((EV.mC (.str "sub")), (EV.mC (.str "-"))), ((EV.mC (.str "mul")), (EV.mC (.str "*")))]) (EV.mIx (EV.mVarB 1) (EV.mC (.int 0)))) (EV.mCons (EV.mC (.str "(")) EV.mNil)))) (EV.mVarB 5)) (EV.mLst (EV.mCons (EV.mC (.str ")")) EV.mNil))))
def n_lw_tokens_0e_3e_0t (F : EV.Fenv) : EV.M EV.Fl := (n_lw_tokens_0e_3e_0t_0 F)
def n_lw_tokens_0e_3e_0e_0 (F : EV.Fenv) : EV.M EV.Fl := (EV.sSetF 3 (EV.mBin .Add (EV.mBin .Add (EV.mVarB 4) (EV.mLst (EV.mCons (EV.mIx (EV.mDict [((EV.mC (.str "add")), (EV.mC (.str "+"))), ((EV.mC (.str "sub")), (EV.mC (.str "-"))), ((EV.mC (.str "mul")), (EV.mC (.str "*")))]) (EV.mIx (EV.mVarB 1) (EV.mC (.int 0)))) EV.mNil))) (EV.mVarB 5)))
def n_lw_tokens_0e_3e_0e (F : EV.Fenv) : EV.M EV.Fl := (n_lw_tokens_0e_3e_0e_0 F)
def n_lw_tokens_0e_3e_0 (F : EV.Fenv) : EV.M EV.Fl := (EV.sIf (EV.mOr (EV.mCmpT .In (EV.mIx (EV.mIx (EV.mVarB 1) (EV.mC (.int 2))) (EV.mC (.int 0))) (EV.mTup (EV.mCons (EV.mC (.str "add")) (EV.mCons (EV.mC (.str "sub")) EV.mNil)))) (EV.mAnd (EV.mCmpT .Eq (EV.mIx (EV.mVarB 1) (EV.mC (.int 0))) (EV.mC (.str "mul"))) (EV.mCmpT .Eq (EV.mIx (EV.mIx (EV.mVarB 1) (EV.mC (.int 2))) (EV.mC (.int 0))) (EV.mC (.str "mul"))))) (n_lw_tokens_0e_3e_0t F) (n_lw_tokens_0e_3e_0e F))
def n_lw_tokens_0e_3e (F : EV.Fenv) : EV.M EV.Fl := (n_lw_tokens_0e_3e_0 F)
def n_lw_tokens_0e_3 (F : EV.Fenv) : EV.M EV.Fl := (EV.sIf (EV.mCmpT .In (EV.mIx (EV.mVarB 1) (EV.mC (.int 0))) (EV.mTup (EV.mCons (EV.mC (.str "min")) (EV.mCons (EV.mC (.str "max")) EV.mNil)))) (n_lw_tokens_0e_3t F) (n_lw_tokens_0e_3e F))
def n_lw_tokens_0e (F : EV.Fenv) : EV.M EV.Fl := (EV.sSeq (n_lw_tokens_0e_0 F) (EV.sSeq (n_lw_tokens_0e_1 F) (EV.sSeq (n_lw_tokens_0e_2 F) (n_lw_tokens_0e_3 F))))
def n_lw_tokens_0 (F : EV.Fenv) : EV.M EV.Fl := (EV.sIf (EV.mCmpT .In (EV.mIx (EV.mVarB 1) (EV.mC (.int 0))) (EV.mTup (EV.mCons (EV.mC (.str "num")) (EV.mCons (EV.mC (.str "ref")) EV.mNil)))) (n_lw_tokens_0t F) (n_lw_tokens_0e F))
def n_lw_tokens_1 (F : EV.Fenv) : EV.M EV.Fl := (EV.sFrz [0] (EV.sSet 6 (EV.mBlt .min (EV.mCons (EV.mIx (EV.mVarB 2) (EV.mC (.int 0))) (EV.mCons (EV.mCall F "_law_pick" (EV.mCons (EV.mVar 0) (EV.mCons (EV.mLst (EV.mCons (EV.mC (.int 0)) (EV.mCons (EV.mC (.int 0)) (EV.mCons (EV.mC (.int 1)) (EV.mCons (EV.mC (.int 2)) EV.mNil))))) EV.mNil)) []) EV.mNil)))))
def n_lw_tokens_2 (F : EV.Fenv) : EV.M EV.Fl := (EV.sPut 2 (EV.mVarB 2) (EV.mC (.int 0)) (EV.mBin .Sub (EV.mIx (EV.mVarB 2) (EV.mC (.int 0))) (EV.mVarB 6)))
def n_lw_tokens_3 (F : EV.Fenv) : EV.M EV.Fl := (EV.sRet (EV.mBin .Add (EV.mBin .Add (EV.mBin .Mult (EV.mLst (EV.mCons (EV.mC (.str "(")) EV.mNil)) (EV.mVarB 6)) (EV.mVarB 3)) (EV.mBin .Mult (EV.mLst (EV.mCons (EV.mC (.str ")")) EV.mNil)) (EV.mVarB 6))))
theorem ms_lw_tokens (F : EV.Fenv) : m_lw_tokens F = (EV.sSeq (n_lw_tokens_0 F) (EV.sSeq (n_lw_tokens_1 F) (EV.sSeq (n_lw_tokens_2 F) (n_lw_tokens_3 F)))) := by kernel_rfl
def n_lw_spread_0 (F : EV.Fenv) : EV.M EV.Fl := (EV.sSet 2 (EV.mC (.str "")))
def n_lw_spread_1b_0 (F : EV.Fenv) : EV.M EV.Fl := (EV.sFrz [0] (EV.sSetF 2 (EV.mBin .Add (EV.mBin .Add (EV.mVarB 2) (EV.mBin .Mult (EV.mC (.str " ")) (EV.mCall F "_law_pick" (EV.mCons (EV.mVar 0) (EV.mCons (EV.mLst (EV.mCons (EV.mC (.int 0)) (EV.mCons (EV.mC (.int 0)) (EV.mCons (EV.mC (.int 1)) (EV.mCons (EV.mC (.int 2)) (EV.mCons (EV.mC (.int 3)) EV.mNil)))))) EV.mNil)) []))) (EV.mVarB 3))))
def n_lw_spread_1b (F : EV.Fenv) : EV.M EV.Fl := (n_lw_spread_1b_0 F)
def n_lw_spread_1 (F : EV.Fenv) : EV.M EV.Fl := (EV.sFrz [1] (EV.sFor (EV.mIt (EV.mVar 1)) (EV.bName 3) (n_lw_spread_1b F)))
def n_lw_spread_2 (F : EV.Fenv) : EV.M EV.Fl := (EV.sFrz [0] (EV.sRet (EV.mBin .Add (EV.mVarB 2) (EV.mBin .Mult (EV.mC (.str " ")) (EV.mCall F "_law_take" (EV.mCons (EV.mVar 0) (EV.mCons (EV.mC (.int 3)) EV.mNil)) [])))))
theorem ms_lw_spread (F : EV.Fenv) : m_lw_spread F = (EV.sSeq (n_lw_spread_0 F) (EV.sSeq (n_lw_spread_1 F) (n_lw_spread_2 F))) := by kernel_rfl
theorem p_tl {l : Nat} {e : Ex} {ts : List Str} {b : Nat} (h : P l e ts b) : ∀ t ∈ ts, t.length ≤ 200 := by
  have q : ("(" : Str).length ≤ 200 ∧ (")" : Str).length ≤ 200 ∧ ("," : Str).length ≤ 200 ∧ ("*" : Str).length ≤ 200 := by decide +kernel
  have qs : ∀ k : K5, k.sg.length ≤ 200 := fun k => by cases k <;> decide +kernel
  induction h with
  | @num n hn =>
    intro t ht
    rw [List.mem_singleton] at ht
    subst ht
    rw [len_tl, numS_tl]
    have : (numL n).length ≤ 6 := numL_len (by decide) (by omega)
    omega
  | ref h => intro t ht; rw [List.mem_singleton] at ht; subst ht; exact h.len
  | brk _ ih =>
    intro t ht
    simp only [List.mem_cons, List.mem_append, List.not_mem_nil, or_false] at ht
    rcases ht with rfl | ht | rfl
    · exact q.1
    · exact ih t ht
    · exact q.2.1
  | @fn k a c ts1 ts2 b1 b2 b hk _ _ _ _ i1 i2 =>
    intro t ht
    simp only [List.mem_cons, List.mem_append, List.not_mem_nil, or_false] at ht
    rcases ht with rfl | rfl | ht | rfl | ht | rfl
    · rw [len_nm]; omega
    · exact q.1
    · exact i1 t ht
    · exact q.2.2.1
    · exact i2 t ht
    · exact q.2.1
  | up1 _ ih => exact ih
  | mul _ _ _ _ i1 i2 =>
    intro t ht
    simp only [List.mem_cons, List.mem_append] at ht
    rcases ht with ht | rfl | ht
    · exact i1 t ht
    · exact q.2.2.2
    · exact i2 t ht
  | up2 _ ih => exact ih
  | @sum k a c ts1 ts2 b1 b2 b hk _ _ _ _ i1 i2 =>
    intro t ht
    simp only [List.mem_cons, List.mem_append] at ht
    rcases ht with ht | rfl | ht
    · exact i1 t ht
    · exact qs k
    · exact i2 t ht
/-! ### the bag and the number left -/
def TS (S : EV.Sto) (gB cL : Nat) (o : EV.Ob) (x : Nat) : EV.Sto := (S.set gB o).set cL (.lst [.int x])
section
variable {S : EV.Sto} {gB cL : Nat} {o : EV.Ob} {x : Nat}
theorem ts_b (hb : gB < S.length) (hn : gB ≠ cL) : (TS S gB cL o x)[gB]? = some o := by
  unfold TS
  rw [List.getElem?_set_ne (Ne.symm hn), List.getElem?_set_self hb]
theorem ts_c (hc : cL < S.length) : (TS S gB cL o x)[cL]? = some (.lst [.int x]) := by
  unfold TS
  rw [List.getElem?_set_self (by rw [List.length_set]; exact hc)]
theorem ts_sb (hn : gB ≠ cL) (o' : EV.Ob) : (TS S gB cL o x).set gB o' = TS S gB cL o' x := by
  unfold TS
  rw [List.set_comm _ _ (Ne.symm hn), List.set_set]
theorem ts_sc (y : Nat) : (TS S gB cL o x).set cL (.lst [.int y]) = TS S gB cL o y := by
  unfold TS
  rw [List.set_set]
def LSl (y : EV.Sl) (l : List Str) : Prop := y = .fr (.lst (tkW l)) ∨ y = .ow (.lst (tkW l))
theorem lsl_get {σ : EV.Sls} {i : Nat} {y : EV.Sl} {l : List Str} {S : EV.Sto} (h : LSl y l) (hi : σ[i]? = some y) : EV.mVarB i σ S = .ok (.lst (tkW l)) S := by
  unfold EV.mVarB
  rcases h with rfl | rfl <;> rw [hi]
theorem tkW_app (a b : List Str) : tkW (a ++ b) = tkW a ++ tkW b := by unfold tkW; rw [List.map_append]
theorem tkW_len (a : List Str) : (tkW a).length = a.length := by unfold tkW; simp
theorem add_l {a b : EV.M EV.W} {σ : EV.Sls} {S S1 S2 : EV.Sto} {x y : List Str} (ha : a σ S = .ok (.lst (tkW x)) S1) (hb : b σ S1 = .ok (.lst (tkW y)) S2) (h : x.length + y.length ≤ 10000000) : EV.mBin .Add a b σ S = .ok (.lst (tkW (x ++ y))) S2 := by
  have hl : (tkW x).length + (tkW y).length ≤ 10000000 := by rw [tkW_len, tkW_len]; exact h
  rw [tkW_app]
  generalize tkW x = X at *
  generalize tkW y = Y at *
  simp -implicitDefEqProofs [EV.LIM, EV.str_lit, evr, EV.r_for, EV.r_rng1, EV.wbin, EV.wun, EV.wcmp, EV.vw, EV.vwz, EV.wix, EV.wblt, EV.wtru, EV.wisi, EV.frz, EV.mkOwn, L2.atI, L2.ixN, List.map, List.length_cons, List.length_nil, List.replicate, List.getElem?_cons_zero, List.getElem?_cons_succ, List.set_cons_zero, List.set_cons_succ, List.append_nil, List.cons_append, List.nil_append, ha, hb, hl]
theorem signs_ix2 (k : K5) (hk : k.fn = false) {a : EV.M EV.W} {σ : EV.Sls} {S : EV.Sto} (ha : a σ S = .ok (.str k.nm) S) : EV.mIx (EV.mDict [((EV.mC (.str "add")), (EV.mC (.str "+"))), ((EV.mC (.str "sub")), (EV.mC (.str "-"))), ((EV.mC (.str "mul")), (EV.mC (.str "*")))]) a σ S = .ok (.str k.sg) S := by
  rw [EV.r_ix, show EV.mDict [((EV.mC (.str "add")), (EV.mC (.str "+"))), ((EV.mC (.str "sub")), (EV.mC (.str "-"))), ((EV.mC (.str "mul")), (EV.mC (.str "*")))] σ S = .ok (.dct [(.inr "add", .str "+"), (.inr "sub", .str "-"), (.inr "mul", .str "*")]) S from rfl, EV.r_ok, EV.r_ixF, ha, EV.r_ok, EV.r_ixG]
  cases k <;> first | rfl | cases hk
theorem setF_l {a : EV.M EV.W} {σ : EV.Sls} {S : EV.Sto} {i : Nat} {l : List Str} (h : a σ S = .ok (.lst (tkW l)) S) : EV.sSetF i a σ S = .ok (.nx (σ.set i (.ow (.lst (tkW l))))) S := by
  rw [EV.r_setO, h]
  rfl
/-- the last three statements -/
theorem tok_tail (d : Nat) (hb : gB < S.length) (hc : cL < S.length) (hn : gB ≠ cL) (hbo : IsBag o) (x1 x4 x5 x6 y3 : EV.Sl) {ts : List Str} (h3 : LSl y3 ts) (hl : ts.length + 2 * x ≤ 1000000) :
    ∃ (m : Nat) (o' : EV.Ob), m ≤ x ∧ IsBag o' ∧ (EV.sSeq (n_lw_tokens_1 (EV.Fn gG gP (d + 2))) (EV.sSeq (n_lw_tokens_2 (EV.Fn gG gP (d + 2))) (n_lw_tokens_3 (EV.Fn gG gP (d + 2))))) [.fr (.loc gB), x1, .fr (.loc cL), y3, x4, x5, x6] (TS S gB cL o x) =
      .ok (.rt (.lst (tkW (List.replicate m ("(" : Str) ++ ts ++ List.replicate m (")" : Str))))) (TS S gB cL o' (x - m)) := by
  obtain ⟨v, o1, v1, b1, e1⟩ := pick_ex d (S := TS S gB cL o x) (n := gB) (ws := [.int 0, .int 0, .int 1, .int 2]) (ts_b hb hn) hbo (by simp) (by simp)
  rw [ts_sb hn] at e1
  obtain ⟨v, rfl, hv⟩ : ∃ k : Nat, v = .int k ∧ k ≤ 2 := by
    simp only [List.mem_cons, List.not_mem_nil, or_false] at v1
    rcases v1 with rfl | rfl | rfl | rfl
    · exact ⟨0, rfl, by omega⟩
    · exact ⟨0, rfl, by omega⟩
    · exact ⟨1, rfl, by omega⟩
    · exact ⟨2, rfl, by omega⟩
  have hm : min (x : Int) (v : Int) = ((min x v : Nat) : Int) := by omega
  generalize hmd : min x v = m at hm
  have hmx : m ≤ x := by omega
  refine ⟨m, o1, hmx, b1, ?_⟩
  have gc := ts_c (S := S) (gB := gB) (o := o) (x := x) hc
  have gc1 := ts_c (S := S) (gB := gB) (o := o1) (x := x) hc
  have gc2 := ts_c (S := S) (gB := gB) (o := o1) (x := x - m) hc
  have sc := ts_sc (S := S) (gB := gB) (cL := cL) (o := o1) (x := x) (x - m)
  have hxm : ((x - m : Nat) : Int) = (x : Int) - (m : Int) := by omega
  have a1 : n_lw_tokens_1 (EV.Fn gG gP (d + 2)) [.fr (.loc gB), x1, .fr (.loc cL), y3, x4, x5, x6] (TS S gB cL o x) = .ok (.nx [.fr (.loc gB), x1, .fr (.loc cL), y3, x4, x5, .fr (.int m)]) (TS S gB cL o1 x) := by
    rcases h3 with rfl | rfl
    all_goals
      generalize tkW ts = TW at *
      generalize TS S gB cL o x = T0 at *
      generalize TS S gB cL o1 x = T1 at *
      simp -implicitDefEqProofs [EV.LIM, EV.str_lit, evr, EV.r_for, EV.r_rng1, EV.wbin, EV.wun, EV.wcmp, EV.vw, EV.vwz, EV.wix, EV.wblt, EV.wtru, EV.wisi, EV.frz, EV.mkOwn, L2.atI, L2.ixN, List.map, List.length_cons, List.length_nil, List.replicate, List.getElem?_cons_zero, List.getElem?_cons_succ, List.set_cons_zero, List.set_cons_succ, List.append_nil, List.cons_append, List.nil_append, n_lw_tokens_1, gc, e1, hm]
  have a2 : n_lw_tokens_2 (EV.Fn gG gP (d + 2)) [.fr (.loc gB), x1, .fr (.loc cL), y3, x4, x5, .fr (.int m)] (TS S gB cL o1 x) = .ok (.nx [.fr (.loc gB), x1, .fr (.loc cL), y3, x4, x5, .fr (.int m)]) (TS S gB cL o1 (x - m)) := by
    rw [hxm] at sc
    rcases h3 with rfl | rfl
    all_goals
      generalize tkW ts = TW at *
      generalize TS S gB cL o1 x = T1 at *
      generalize TS S gB cL o1 (x - m) = T2 at *
      simp -implicitDefEqProofs [EV.LIM, EV.str_lit, evr, EV.r_for, EV.r_rng1, EV.wbin, EV.wun, EV.wcmp, EV.vw, EV.vwz, EV.wix, EV.wblt, EV.wtru, EV.wisi, EV.frz, EV.mkOwn, L2.atI, L2.ixN, List.map, List.length_cons, List.length_nil, List.replicate, List.getElem?_cons_zero, List.getElem?_cons_succ, List.set_cons_zero, List.set_cons_succ, List.append_nil, List.cons_append, List.nil_append, n_lw_tokens_2, gc1, sc]
  rw [seq_step a1, seq_step a2]
  have er : ∀ s : Str, EV.mBin .Mult (EV.mLst (EV.mCons (EV.mC (.str s)) EV.mNil)) (EV.mVarB 6) [.fr (.loc gB), x1, .fr (.loc cL), y3, x4, x5, .fr (.int m)] (TS S gB cL o1 (x - m)) = .ok (.lst (tkW (List.replicate m s))) (TS S gB cL o1 (x - m)) := fun s => by
    have hi : -(2 ^ 63) ≤ (m : Int) ∧ (m : Int) < 2 ^ 63 ∧ ([EV.W.str s] : List EV.W).length * (m : Int).toNat ≤ EV.LIM := by
      refine ⟨by omega, by omega, ?_⟩
      show 1 * (m : Int).toNat ≤ 10000000
      rw [Int.toNat_natCast]; omega
    have this : (List.replicate m [EV.W.str s]).flatten = tkW (List.replicate m s) := by
      unfold tkW
      rw [List.map_replicate]
      clear hi hmd hmx sc gc2 hm hxm a1 a2
      induction m with
      | zero => rfl
      | succ n ih => rw [List.replicate_succ, List.flatten_cons, ih, List.replicate_succ]; rfl
    have hw : EV.wbin .Mult (.lst [.str s]) (.int (m : Int)) = some (.lst (tkW (List.replicate m s))) := by
      unfold EV.wbin
      simp only
      rw [if_pos hi, Int.toNat_natCast, this]
    rw [EV.r_bin, show EV.mLst (EV.mCons (EV.mC (.str s)) EV.mNil) [.fr (.loc gB), x1, .fr (.loc cL), y3, x4, x5, .fr (.int m)] (TS S gB cL o1 (x - m)) = .ok (.lst [.str s]) (TS S gB cL o1 (x - m)) from rfl, EV.r_ok, EV.r_binF, varB_fr (i := 6) (w := .int m) rfl, EV.r_ok, EV.r_binG]
    show EV.olift (EV.wbin .Mult (.lst [.str s]) (.int (m : Int))) _ = _
    rw [hw]
    rfl
  have e3 := add_l (add_l (er "(") (b := EV.mVarB 3) (lsl_get h3 rfl) (by rw [List.length_replicate]; omega)) (er ")") (by rw [List.length_append, List.length_replicate, List.length_replicate]; omega)
  unfold n_lw_tokens_3
  rw [EV.r_ret, e3]
  rfl
theorem wT_len (c : Bool) (ts : List Str) : (wT c ts).length ≤ ts.length + 2 := by unfold wT; split <;> simp
theorem opTs_len (k : K5) (a b : Ex) (ts1 ts2 : List Str) : (opTs k a b ts1 ts2).length ≤ ts1.length + ts2.length + 5 := by
  unfold opTs
  have := wT_len (bL k a) ts1
  have := wT_len (bR k b) ts2
  split <;> simp <;> omega
theorem ltok_ex : ∀ (e : Ex) (d : Nat) (o : EV.Ob) (x : Nat), ExOk e → 10 * e.sz + 2 * x ≤ 100000 → gB < S.length → cL < S.length → gB ≠ cL → IsBag o → ∃ (ts : List Str) (b : Nat) (o' : EV.Ob) (x' : Nat), P e.lv e ts b ∧ b + 1 + x' ≤ e.sz + x ∧ x' ≤ x ∧ ts.length + 5 + 2 * x' ≤ 10 * e.sz + 2 * x ∧ IsBag o' ∧
    EV.Fn gG gP (d + e.ht + 3) "_law_tokens" [.loc gB, exW e, .loc cL] (TS S gB cL o x) = .ok (.lst (tkW ts)) (TS S gB cL o' x')

  | .num n, d, o, x, h, hz, hb, hc, hn, hbo => by
    have hz : 10 * 1 + 2 * x ≤ 100000 := hz
    have hm : EV.wmem (.str "num") (.tup [.str "num", .str "ref"]) = some true := rfl
    have es := str_num (S := TS S gB cL o x) (n := n) h (a := EV.mIx (EV.mVarB 1) (EV.mC (.int 1))) (σ := [.fr (.loc gB), .fr (.tup [.str "num", .int n]), .fr (.loc cL), .emp, .emp, .emp, .emp]) rfl
    obtain ⟨m, o1, m1, b1, et⟩ := tok_tail (S := S) (cL := cL) (x := x) d hb hc hn hbo (.fr (.tup [.str "num", .int n])) .emp .emp .emp (.ow (.lst (tkW [numS n]))) (.inr rfl) (by simp; omega)
    have hrow := more_row (e := .num n) (ts := [numS n]) (b := 0) (.num h) m
    refine ⟨_, _, o1, x - m, hrow, by show 0 + m + 1 + (x - m) ≤ 1 + x; omega, by omega, by show _ ≤ 10 * 1 + 2 * x; simp; omega, b1, ?_⟩
    rw [show d + (Ex.num n).ht + 3 = (d + 2) + 1 from rfl, fe_lw_tokens, if_pos (by rfl), ms_lw_tokens, EV.r_run]
    show (EV.sSeq _ _ [.fr (.loc gB), .fr (.tup [.str "num", .int n]), .fr (.loc cL), .emp, .emp, .emp, .emp] _).bind EV.runF = _
    have a0 : n_lw_tokens_0 (EV.Fn gG gP (d + 2)) [.fr (.loc gB), .fr (.tup [.str "num", .int n]), .fr (.loc cL), .emp, .emp, .emp, .emp] (TS S gB cL o x) = .ok (.nx [.fr (.loc gB), .fr (.tup [.str "num", .int n]), .fr (.loc cL), .ow (.lst (tkW [numS n])), .emp, .emp, .emp]) (TS S gB cL o x) := by
      unfold n_lw_tokens_0
      rw [EV.r_if, show EV.mCmpT .In (EV.mIx (EV.mVarB 1) (EV.mC (.int 0))) (EV.mTup (EV.mCons (EV.mC (.str "num")) (EV.mCons (EV.mC (.str "ref")) EV.mNil))) [.fr (.loc gB), .fr (.tup [.str "num", .int n]), .fr (.loc cL), .emp, .emp, .emp, .emp] (TS S gB cL o x) = .ok true (TS S gB cL o x) by simp -implicitDefEqProofs [EV.LIM, EV.str_lit, evr, EV.r_for, EV.r_rng1, EV.wbin, EV.wun, EV.wcmp, EV.vw, EV.vwz, EV.wix, EV.wblt, EV.wtru, EV.wisi, EV.frz, EV.mkOwn, L2.atI, L2.ixN, List.map, List.length_cons, List.length_nil, List.replicate, List.getElem?_cons_zero, List.getElem?_cons_succ, List.set_cons_zero, List.set_cons_succ, List.append_nil, List.cons_append, List.nil_append, hm], EV.r_ok, EV.r_sifT]
      unfold n_lw_tokens_0t n_lw_tokens_0t_0
      rw [EV.r_setO, EV.r_lst, EV.r_cons, es, EV.r_ok, EV.r_consF]
      rfl
    rw [seq_step a0, et]
    rfl
  | .ref s, d, o, x, h, hz, hb, hc, hn, hbo => by
    have hz : 10 * 1 + 2 * x ≤ 100000 := hz
    have hm : EV.wmem (.str "ref") (.tup [.str "num", .str "ref"]) = some true := rfl
    have es := str_str (S := TS S gB cL o x) (s := s) (a := EV.mIx (EV.mVarB 1) (EV.mC (.int 1))) (σ := [.fr (.loc gB), .fr (.tup [.str "ref", .str s]), .fr (.loc cL), .emp, .emp, .emp, .emp]) rfl
    obtain ⟨m, o1, m1, b1, et⟩ := tok_tail (S := S) (cL := cL) (x := x) d hb hc hn hbo (.fr (.tup [.str "ref", .str s])) .emp .emp .emp (.ow (.lst (tkW [s]))) (.inr rfl) (by simp; omega)
    have hrow := more_row (e := .ref s) (ts := [s]) (b := 0) (.ref h) m
    refine ⟨_, _, o1, x - m, hrow, by show 0 + m + 1 + (x - m) ≤ 1 + x; omega, by omega, by show _ ≤ 10 * 1 + 2 * x; simp; omega, b1, ?_⟩
    rw [show d + (Ex.ref s).ht + 3 = (d + 2) + 1 from rfl, fe_lw_tokens, if_pos (by rfl), ms_lw_tokens, EV.r_run]
    show (EV.sSeq _ _ [.fr (.loc gB), .fr (.tup [.str "ref", .str s]), .fr (.loc cL), .emp, .emp, .emp, .emp] _).bind EV.runF = _
    have a0 : n_lw_tokens_0 (EV.Fn gG gP (d + 2)) [.fr (.loc gB), .fr (.tup [.str "ref", .str s]), .fr (.loc cL), .emp, .emp, .emp, .emp] (TS S gB cL o x) = .ok (.nx [.fr (.loc gB), .fr (.tup [.str "ref", .str s]), .fr (.loc cL), .ow (.lst (tkW [s])), .emp, .emp, .emp]) (TS S gB cL o x) := by
      unfold n_lw_tokens_0
      rw [EV.r_if, show EV.mCmpT .In (EV.mIx (EV.mVarB 1) (EV.mC (.int 0))) (EV.mTup (EV.mCons (EV.mC (.str "num")) (EV.mCons (EV.mC (.str "ref")) EV.mNil))) [.fr (.loc gB), .fr (.tup [.str "ref", .str s]), .fr (.loc cL), .emp, .emp, .emp, .emp] (TS S gB cL o x) = .ok true (TS S gB cL o x) by simp -implicitDefEqProofs [EV.LIM, EV.str_lit, evr, EV.r_for, EV.r_rng1, EV.wbin, EV.wun, EV.wcmp, EV.vw, EV.vwz, EV.wix, EV.wblt, EV.wtru, EV.wisi, EV.frz, EV.mkOwn, L2.atI, L2.ixN, List.map, List.length_cons, List.length_nil, List.replicate, List.getElem?_cons_zero, List.getElem?_cons_succ, List.set_cons_zero, List.set_cons_succ, List.append_nil, List.cons_append, List.nil_append, hm], EV.r_ok, EV.r_sifT]
      unfold n_lw_tokens_0t n_lw_tokens_0t_0
      rw [EV.r_setO, EV.r_lst, EV.r_cons, es, EV.r_ok, EV.r_consF]
      rfl
    rw [seq_step a0, et]
    rfl

  | .op k a b, d, o, x, h, hz, hb, hc, hn, hbo => by
    have hz : 10 * (a.sz + b.sz) + 2 * x ≤ 100000 := hz
    have := sz_pos a
    have := sz_pos b
    obtain ⟨ts1, b1, o1, xa, p1, q1, r1, l1, g1, e1⟩ := ltok_ex a (d + (max a.ht b.ht - a.ht)) o x h.1 (by omega) hb hc hn hbo
    rw [show d + (max a.ht b.ht - a.ht) + a.ht + 3 = d + max a.ht b.ht + 3 by omega] at e1
    obtain ⟨ts2, b2, o2, xb, p2, q2, r2, l2, g2, e2⟩ := ltok_ex b (d + (max a.ht b.ht - b.ht)) o1 xa h.2 (by omega) hb hc hn g1
    rw [show d + (max a.ht b.ht - b.ht) + b.ht + 3 = d + max a.ht b.ht + 3 by omega] at e2
    have hrow := op_row (k := k) p1 p2
    have hol := opTs_len k a b ts1 ts2
    have w1 := wT_len (bL k a) ts1
    have w2 := wT_len (bR k b) ts2
    rw [show d + (Ex.op k a b).ht + 3 = (d + max a.ht b.ht + 3) + 1 from rfl]
    generalize hD : d + max a.ht b.ht + 3 = D at *
    obtain ⟨ra, hra⟩ := exW_hd a
    obtain ⟨rb, hrb⟩ := exW_hd b
    have sa := hd_sum a
    have sb := hd_sum b
    have mb := hd_mul b
    have hlf := nm_leaf k
    have hfn := nm_fn k
    have hml := nm_mul k
    have b0 : n_lw_tokens_0e_0 (EV.Fn gG gP D) [.fr (.loc gB), .fr (.tup [.str k.nm, exW a, exW b]), .fr (.loc cL), .emp, .emp, .emp, .emp] (TS S gB cL o x) = .ok (.nx [.fr (.loc gB), .fr (.tup [.str k.nm, exW a, exW b]), .fr (.loc cL), .emp, .fr (.lst (tkW ts1)), .emp, .emp]) (TS S gB cL o1 xa) := by
      unfold n_lw_tokens_0e_0
      rw [EV.r_frz, show EV.frz [.fr (.loc gB), .fr (.tup [.str k.nm, exW a, exW b]), .fr (.loc cL), .emp, .emp, .emp, .emp] [0, 2] = [.fr (.loc gB), .fr (.tup [.str k.nm, exW a, exW b]), .fr (.loc cL), .emp, .emp, .emp, .emp] from rfl, EV.r_set, show EV.mCall (EV.Fn gG gP D) "_law_tokens" (EV.mCons (EV.mVar 0) (EV.mCons (EV.mIx (EV.mVarB 1) (EV.mC (.int 1))) (EV.mCons (EV.mVar 2) EV.mNil))) [] [.fr (.loc gB), .fr (.tup [.str k.nm, exW a, exW b]), .fr (.loc cL), .emp, .emp, .emp, .emp] (TS S gB cL o x) = .ok (.lst (tkW ts1)) (TS S gB cL o1 xa) from e1]
      rfl
    have b1' : n_lw_tokens_0e_1 (EV.Fn gG gP D) [.fr (.loc gB), .fr (.tup [.str k.nm, exW a, exW b]), .fr (.loc cL), .emp, .fr (.lst (tkW ts1)), .emp, .emp] (TS S gB cL o1 xa) = .ok (.nx [.fr (.loc gB), .fr (.tup [.str k.nm, exW a, exW b]), .fr (.loc cL), .emp, .fr (.lst (tkW ts1)), .fr (.lst (tkW ts2)), .emp]) (TS S gB cL o2 xb) := by
      unfold n_lw_tokens_0e_1
      rw [EV.r_frz, show EV.frz [.fr (.loc gB), .fr (.tup [.str k.nm, exW a, exW b]), .fr (.loc cL), .emp, .fr (.lst (tkW ts1)), .emp, .emp] [0, 2] = [.fr (.loc gB), .fr (.tup [.str k.nm, exW a, exW b]), .fr (.loc cL), .emp, .fr (.lst (tkW ts1)), .emp, .emp] from rfl, EV.r_set, show EV.mCall (EV.Fn gG gP D) "_law_tokens" (EV.mCons (EV.mVar 0) (EV.mCons (EV.mIx (EV.mVarB 1) (EV.mC (.int 2))) (EV.mCons (EV.mVar 2) EV.mNil))) [] [.fr (.loc gB), .fr (.tup [.str k.nm, exW a, exW b]), .fr (.loc cL), .emp, .fr (.lst (tkW ts1)), .emp, .emp] (TS S gB cL o1 xa) = .ok (.lst (tkW ts2)) (TS S gB cL o2 xb) from e2]
      rfl
    obtain ⟨y4, h4, b2'⟩ : ∃ y4 : EV.Sl, LSl y4 (wT (bL k a) ts1) ∧ n_lw_tokens_0e_2 (EV.Fn gG gP D) [.fr (.loc gB), .fr (.tup [.str k.nm, exW a, exW b]), .fr (.loc cL), .emp, .fr (.lst (tkW ts1)), .fr (.lst (tkW ts2)), .emp] (TS S gB cL o2 xb) = .ok (.nx [.fr (.loc gB), .fr (.tup [.str k.nm, exW a, exW b]), .fr (.loc cL), .emp, y4, .fr (.lst (tkW ts2)), .emp]) (TS S gB cL o2 xb) := by
      have ec : EV.mAnd (EV.mCmpT .Eq (EV.mIx (EV.mVarB 1) (EV.mC (.int 0))) (EV.mC (.str "mul"))) (EV.mCmpT .In (EV.mIx (EV.mIx (EV.mVarB 1) (EV.mC (.int 1))) (EV.mC (.int 0))) (EV.mTup (EV.mCons (EV.mC (.str "add")) (EV.mCons (EV.mC (.str "sub")) EV.mNil)))) [.fr (.loc gB), .fr (.tup [.str k.nm, exW a, exW b]), .fr (.loc cL), .emp, .fr (.lst (tkW ts1)), .fr (.lst (tkW ts2)), .emp] (TS S gB cL o2 xb) = .ok (bL k a) (TS S gB cL o2 xb) := by
        clear e1 e2 b0 b1' hlf hfn
        unfold bL
        rw [← hml, hra]
        generalize exW b = WB
        generalize k.nm = NM at *
        generalize (TS S gB cL o2 xb) = TT
        generalize tkW ts1 = TW1
        generalize tkW ts2 = TW2
        by_cases q : NM = ("mul" : Str)
        · simp -implicitDefEqProofs [EV.LIM, EV.str_lit, evr, EV.r_for, EV.r_rng1, EV.wbin, EV.wun, EV.wcmp, EV.vw, EV.vwz, EV.wix, EV.wblt, EV.wtru, EV.wisi, EV.frz, EV.mkOwn, L2.atI, L2.ixN, List.map, List.length_cons, List.length_nil, List.replicate, List.getElem?_cons_zero, List.getElem?_cons_succ, List.set_cons_zero, List.set_cons_succ, List.append_nil, List.cons_append, List.nil_append, q, sa]
        · simp -implicitDefEqProofs [EV.LIM, EV.str_lit, evr, EV.r_for, EV.r_rng1, EV.wbin, EV.wun, EV.wcmp, EV.vw, EV.vwz, EV.wix, EV.wblt, EV.wtru, EV.wisi, EV.frz, EV.mkOwn, L2.atI, L2.ixN, List.map, List.length_cons, List.length_nil, List.replicate, List.getElem?_cons_zero, List.getElem?_cons_succ, List.set_cons_zero, List.set_cons_succ, List.append_nil, List.cons_append, List.nil_append, q]
      unfold n_lw_tokens_0e_2
      rw [EV.r_if, ec, EV.r_ok]
      cases bL k a with
      | false => exact ⟨.fr (.lst (tkW ts1)), .inl rfl, by rw [EV.r_sifN]; rfl⟩
      | true =>
        refine ⟨.ow (.lst (tkW (wT true ts1))), .inr rfl, ?_⟩
        rw [EV.r_sifT]
        unfold n_lw_tokens_0e_2t n_lw_tokens_0e_2t_0
        have e := add_l (add_l (a := EV.mLst (EV.mCons (EV.mC (.str "(")) EV.mNil)) (b := EV.mVarB 4) (x := [("(" : Str)]) (y := ts1) (σ := [.fr (.loc gB), .fr (.tup [.str k.nm, exW a, exW b]), .fr (.loc cL), .emp, .fr (.lst (tkW ts1)), .fr (.lst (tkW ts2)), .emp]) (S := (TS S gB cL o2 xb)) rfl rfl (by simp; omega)) (b := EV.mLst (EV.mCons (EV.mC (.str ")")) EV.mNil)) (y := [(")" : Str)]) rfl (by simp; omega)
        rw [show [("(" : Str)] ++ ts1 ++ [(")" : Str)] = wT true ts1 from rfl] at e
        rw [setF_l e]
        rfl
    obtain ⟨y3, h3, b3'⟩ : ∃ y3 : EV.Sl, LSl y3 (opTs k a b ts1 ts2) ∧ n_lw_tokens_0e_3 (EV.Fn gG gP D) [.fr (.loc gB), .fr (.tup [.str k.nm, exW a, exW b]), .fr (.loc cL), .emp, y4, .fr (.lst (tkW ts2)), .emp] (TS S gB cL o2 xb) = .ok (.nx [.fr (.loc gB), .fr (.tup [.str k.nm, exW a, exW b]), .fr (.loc cL), y3, y4, .fr (.lst (tkW ts2)), .emp]) (TS S gB cL o2 xb) := by
      have ec : EV.mCmpT .In (EV.mIx (EV.mVarB 1) (EV.mC (.int 0))) (EV.mTup (EV.mCons (EV.mC (.str "min")) (EV.mCons (EV.mC (.str "max")) EV.mNil))) [.fr (.loc gB), .fr (.tup [.str k.nm, exW a, exW b]), .fr (.loc cL), .emp, y4, .fr (.lst (tkW ts2)), .emp] (TS S gB cL o2 xb) = .ok k.fn (TS S gB cL o2 xb) := by
        clear e1 e2 b0 b1' hlf hml b2'
        generalize exW a = WA
        generalize exW b = WB
        generalize k.nm = NM at *
        generalize (TS S gB cL o2 xb) = TT
        generalize tkW ts2 = TW2
        simp -implicitDefEqProofs [EV.LIM, EV.str_lit, evr, EV.r_for, EV.r_rng1, EV.wbin, EV.wun, EV.wcmp, EV.vw, EV.vwz, EV.wix, EV.wblt, EV.wtru, EV.wisi, EV.frz, EV.mkOwn, L2.atI, L2.ixN, List.map, List.length_cons, List.length_nil, List.replicate, List.getElem?_cons_zero, List.getElem?_cons_succ, List.set_cons_zero, List.set_cons_succ, List.append_nil, List.cons_append, List.nil_append, hfn]
      refine ⟨.ow (.lst (tkW (opTs k a b ts1 ts2))), .inr rfl, ?_⟩
      unfold n_lw_tokens_0e_3
      rw [EV.r_if, ec, EV.r_ok]
      cases hf : k.fn with
      | true =>
        have hbl : bL k a = false := by unfold bL; cases k <;> first | rfl | cases hf
        rw [hbl] at h4
        have h4 : LSl y4 ts1 := h4
        rw [EV.r_sifT]
        unfold n_lw_tokens_0e_3t n_lw_tokens_0e_3t_0
        have e := add_l (add_l (add_l (add_l (a := EV.mLst (EV.mCons (EV.mIx (EV.mVarB 1) (EV.mC (.int 0))) (EV.mCons (EV.mC (.str "(")) EV.mNil))) (b := EV.mVarB 4) (x := [k.nm, ("(" : Str)]) (σ := [.fr (.loc gB), .fr (.tup [.str k.nm, exW a, exW b]), .fr (.loc cL), .emp, y4, .fr (.lst (tkW ts2)), .emp]) (S := (TS S gB cL o2 xb)) rfl (lsl_get h4 rfl) (by simp; omega)) (b := EV.mLst (EV.mCons (EV.mC (.str ",")) EV.mNil)) (y := [("," : Str)]) rfl (by simp; omega)) (b := EV.mVarB 5) (y := ts2) rfl (by simp; omega)) (b := EV.mLst (EV.mCons (EV.mC (.str ")")) EV.mNil)) (y := [(")" : Str)]) rfl (by simp; omega)
        rw [show [k.nm, ("(" : Str)] ++ ts1 ++ [("," : Str)] ++ ts2 ++ [(")" : Str)] = opTs k a b ts1 ts2 by unfold opTs; rw [if_pos hf]; simp] at e
        rw [setF_l e]
        rfl
      | false =>
        rw [EV.r_sifN]
        unfold n_lw_tokens_0e_3e n_lw_tokens_0e_3e_0
        have ec2 : EV.mOr (EV.mCmpT .In (EV.mIx (EV.mIx (EV.mVarB 1) (EV.mC (.int 2))) (EV.mC (.int 0))) (EV.mTup (EV.mCons (EV.mC (.str "add")) (EV.mCons (EV.mC (.str "sub")) EV.mNil)))) (EV.mAnd (EV.mCmpT .Eq (EV.mIx (EV.mVarB 1) (EV.mC (.int 0))) (EV.mC (.str "mul"))) (EV.mCmpT .Eq (EV.mIx (EV.mIx (EV.mVarB 1) (EV.mC (.int 2))) (EV.mC (.int 0))) (EV.mC (.str "mul")))) [.fr (.loc gB), .fr (.tup [.str k.nm, exW a, exW b]), .fr (.loc cL), .emp, y4, .fr (.lst (tkW ts2)), .emp] (TS S gB cL o2 xb) = .ok (bR k b) (TS S gB cL o2 xb) := by
          clear e1 e2 b0 b1' hlf hfn b2' ec
          unfold bR
          rw [← hml, ← mb, hrb]
          generalize exW a = WA
          generalize k.nm = NM at *
          generalize (TS S gB cL o2 xb) = TT
          generalize tkW ts2 = TW2
          cases hbb : decide (b.lv = 2) with
          | true =>
            rw [hbb] at sb
            simp -implicitDefEqProofs [EV.LIM, EV.str_lit, evr, EV.r_for, EV.r_rng1, EV.wbin, EV.wun, EV.wcmp, EV.vw, EV.vwz, EV.wix, EV.wblt, EV.wtru, EV.wisi, EV.frz, EV.mkOwn, L2.atI, L2.ixN, List.map, List.length_cons, List.length_nil, List.replicate, List.getElem?_cons_zero, List.getElem?_cons_succ, List.set_cons_zero, List.set_cons_succ, List.append_nil, List.cons_append, List.nil_append, sb]
          | false =>
            rw [hbb] at sb
            by_cases q : NM = ("mul" : Str)
            · simp -implicitDefEqProofs [EV.LIM, EV.str_lit, evr, EV.r_for, EV.r_rng1, EV.wbin, EV.wun, EV.wcmp, EV.vw, EV.vwz, EV.wix, EV.wblt, EV.wtru, EV.wisi, EV.frz, EV.mkOwn, L2.atI, L2.ixN, List.map, List.length_cons, List.length_nil, List.replicate, List.getElem?_cons_zero, List.getElem?_cons_succ, List.set_cons_zero, List.set_cons_succ, List.append_nil, List.cons_append, List.nil_append, q, sb]
            · simp -implicitDefEqProofs [EV.LIM, EV.str_lit, evr, EV.r_for, EV.r_rng1, EV.wbin, EV.wun, EV.wcmp, EV.vw, EV.vwz, EV.wix, EV.wblt, EV.wtru, EV.wisi, EV.frz, EV.mkOwn, L2.atI, L2.ixN, List.map, List.length_cons, List.length_nil, List.replicate, List.getElem?_cons_zero, List.getElem?_cons_succ, List.set_cons_zero, List.set_cons_succ, List.append_nil, List.cons_append, List.nil_append, q, sb]
        have esx := signs_ix2 (S := (TS S gB cL o2 xb)) k hf (a := EV.mIx (EV.mVarB 1) (EV.mC (.int 0))) (σ := [.fr (.loc gB), .fr (.tup [.str k.nm, exW a, exW b]), .fr (.loc cL), .emp, y4, .fr (.lst (tkW ts2)), .emp]) rfl
        rw [EV.r_if, ec2, EV.r_ok]
        cases hbr : bR k b with
        | true =>
          rw [EV.r_sifT]
          unfold n_lw_tokens_0e_3e_0t n_lw_tokens_0e_3e_0t_0
          have em : EV.mLst (EV.mCons (EV.mIx (EV.mDict [((EV.mC (.str "add")), (EV.mC (.str "+"))), ((EV.mC (.str "sub")), (EV.mC (.str "-"))), ((EV.mC (.str "mul")), (EV.mC (.str "*")))]) (EV.mIx (EV.mVarB 1) (EV.mC (.int 0)))) (EV.mCons (EV.mC (.str "(")) EV.mNil)) [.fr (.loc gB), .fr (.tup [.str k.nm, exW a, exW b]), .fr (.loc cL), .emp, y4, .fr (.lst (tkW ts2)), .emp] (TS S gB cL o2 xb) = .ok (.lst (tkW [k.sg, ("(" : Str)])) (TS S gB cL o2 xb) := by
            rw [EV.r_lst, EV.r_cons, esx, EV.r_ok, EV.r_consF]
            rfl
          have e := add_l (add_l (add_l (a := EV.mVarB 4) (σ := [.fr (.loc gB), .fr (.tup [.str k.nm, exW a, exW b]), .fr (.loc cL), .emp, y4, .fr (.lst (tkW ts2)), .emp]) (S := (TS S gB cL o2 xb)) (lsl_get h4 rfl) em (by simp; omega)) (b := EV.mVarB 5) (y := ts2) rfl (by simp; omega)) (b := EV.mLst (EV.mCons (EV.mC (.str ")")) EV.mNil)) (y := [(")" : Str)]) rfl (by simp; omega)
          rw [show wT (bL k a) ts1 ++ [k.sg, ("(" : Str)] ++ ts2 ++ [(")" : Str)] = opTs k a b ts1 ts2 by unfold opTs; rw [if_neg (by rw [hf]; simp), hbr]; simp [wT]] at e
          rw [setF_l e]
          rfl
        | false =>
          rw [EV.r_sifN]
          unfold n_lw_tokens_0e_3e_0e n_lw_tokens_0e_3e_0e_0
          have em : EV.mLst (EV.mCons (EV.mIx (EV.mDict [((EV.mC (.str "add")), (EV.mC (.str "+"))), ((EV.mC (.str "sub")), (EV.mC (.str "-"))), ((EV.mC (.str "mul")), (EV.mC (.str "*")))]) (EV.mIx (EV.mVarB 1) (EV.mC (.int 0)))) EV.mNil) [.fr (.loc gB), .fr (.tup [.str k.nm, exW a, exW b]), .fr (.loc cL), .emp, y4, .fr (.lst (tkW ts2)), .emp] (TS S gB cL o2 xb) = .ok (.lst (tkW [k.sg])) (TS S gB cL o2 xb) := by
            rw [EV.r_lst, EV.r_cons, esx, EV.r_ok, EV.r_consF]
            rfl
          have e := add_l (add_l (a := EV.mVarB 4) (σ := [.fr (.loc gB), .fr (.tup [.str k.nm, exW a, exW b]), .fr (.loc cL), .emp, y4, .fr (.lst (tkW ts2)), .emp]) (S := (TS S gB cL o2 xb)) (lsl_get h4 rfl) em (by simp; omega)) (b := EV.mVarB 5) (y := ts2) rfl (by simp; omega)
          rw [show wT (bL k a) ts1 ++ [k.sg] ++ ts2 = opTs k a b ts1 ts2 by unfold opTs; rw [if_neg (by rw [hf]; simp), hbr]; simp [wT]] at e
          rw [setF_l e]
          rfl
    have a0 : n_lw_tokens_0 (EV.Fn gG gP D) [.fr (.loc gB), .fr (.tup [.str k.nm, exW a, exW b]), .fr (.loc cL), .emp, .emp, .emp, .emp] (TS S gB cL o x) = .ok (.nx [.fr (.loc gB), .fr (.tup [.str k.nm, exW a, exW b]), .fr (.loc cL), y3, y4, .fr (.lst (tkW ts2)), .emp]) (TS S gB cL o2 xb) := by
      have ec : EV.mCmpT .In (EV.mIx (EV.mVarB 1) (EV.mC (.int 0))) (EV.mTup (EV.mCons (EV.mC (.str "num")) (EV.mCons (EV.mC (.str "ref")) EV.mNil))) [.fr (.loc gB), .fr (.tup [.str k.nm, exW a, exW b]), .fr (.loc cL), .emp, .emp, .emp, .emp] (TS S gB cL o x) = .ok false (TS S gB cL o x) := by
        clear e1 e2 b0 b1' hfn hml b2' b3'
        generalize exW a = WA
        generalize exW b = WB
        generalize k.nm = NM at *
        generalize (TS S gB cL o x) = TT
        simp -implicitDefEqProofs [EV.LIM, EV.str_lit, evr, EV.r_for, EV.r_rng1, EV.wbin, EV.wun, EV.wcmp, EV.vw, EV.vwz, EV.wix, EV.wblt, EV.wtru, EV.wisi, EV.frz, EV.mkOwn, L2.atI, L2.ixN, List.map, List.length_cons, List.length_nil, List.replicate, List.getElem?_cons_zero, List.getElem?_cons_succ, List.set_cons_zero, List.set_cons_succ, List.append_nil, List.cons_append, List.nil_append, hlf]
      unfold n_lw_tokens_0
      rw [EV.r_if, ec, EV.r_ok, EV.r_sifN]
      unfold n_lw_tokens_0e
      rw [seq_step b0, seq_step b1', seq_step b2', b3']
    obtain ⟨m, o3, m1, g3, et⟩ := tok_tail (S := S) (cL := cL) (x := xb) (D - 2) hb hc hn g2 (.fr (.tup [.str k.nm, exW a, exW b])) y4 (.fr (.lst (tkW ts2))) .emp y3 h3 (by omega)
    rw [show D - 2 + 2 = D by omega] at et
    have hfin := more_row hrow m
    refine ⟨_, _, o3, xb - m, hfin, by show _ ≤ a.sz + b.sz + x; omega, by omega, by show _ ≤ 10 * (a.sz + b.sz) + 2 * x; simp; omega, g3, ?_⟩
    rw [fe_lw_tokens, if_pos (by rfl), ms_lw_tokens, EV.r_run]
    show (EV.sSeq _ _ [.fr (.loc gB), .fr (.tup [.str k.nm, exW a, exW b]), .fr (.loc cL), .emp, .emp, .emp, .emp] _).bind EV.runF = _
    rw [seq_step a0, et]
    rfl
end
open TL
def n_lw_reserved_0 (F : EV.Fenv) : EV.M EV.Fl := (EV.sSet 0 (EV.mC (.str "project steady fails input output top rest flag word first retained timer on off pulse sum counter up down")))
def n_lw_reserved_1 (F : EV.Fenv) : EV.M EV.Fl := (EV.sSetF 0 (EV.mBin .Add (EV.mVarB 0) (EV.mC (.str " chart step limit move to when end instance of block in out begin task every at rung zone advance"))))
def n_lw_reserved_2 (F : EV.Fenv) : EV.M EV.Fl := (EV.sSetF 0 (EV.mBin .Add (EV.mVarB 0) (EV.mC (.str " part call skip plant budget cell sensor case chance fault stuck freeze blink never within after"))))
def n_lw_reserved_3 (F : EV.Fenv) : EV.M EV.Fl := (EV.sRet (EV.mSm .split (EV.mBin .Add (EV.mVarB 0) (EV.mC (.str " comes min max powered phase"))) (EV.mC (.str " "))))
theorem ms_lw_reserved (F : EV.Fenv) : m_lw_reserved F = (EV.sSeq (n_lw_reserved_0 F) (EV.sSeq (n_lw_reserved_1 F) (EV.sSeq (n_lw_reserved_2 F) (n_lw_reserved_3 F)))) := by kernel_rfl
def n_lw_word_0 (F : EV.Fenv) : EV.M EV.Fl := (EV.sSet 1 (EV.mC (.str "abcdefghijklmnopqrstuvwxyz")))
def n_lw_word_1 (F : EV.Fenv) : EV.M EV.Fl := (EV.sFrz [0, 1] (EV.sSet 2 (EV.mCall F "_law_pick" (EV.mCons (EV.mVar 0) (EV.mCons (EV.mVar 1) EV.mNil)) [])))
def n_lw_word_2b_0 (F : EV.Fenv) : EV.M EV.Fl := (EV.sFrz [0] (EV.sSetF 2 (EV.mBin .Add (EV.mVarB 2) (EV.mCall F "_law_pick" (EV.mCons (EV.mVar 0) (EV.mCons (EV.mBin .Add (EV.mVarB 1) (EV.mC (.str "0123456789"))) EV.mNil)) []))))
def n_lw_word_2b (F : EV.Fenv) : EV.M EV.Fl := (n_lw_word_2b_0 F)
def n_lw_word_2 (F : EV.Fenv) : EV.M EV.Fl := (EV.sFrz [0, 0, 0] (EV.sFor (EV.mRng1 (EV.mCall F "_law_pick" (EV.mCons (EV.mVar 0) (EV.mCons (EV.mLst (EV.mCons (EV.mC (.int 0)) (EV.mCons (EV.mC (.int 0)) (EV.mCons (EV.mC (.int 1)) (EV.mCons (EV.mC (.int 1)) (EV.mCons (EV.mC (.int 2)) (EV.mCons (EV.mC (.int 3)) (EV.mCons (EV.mCall F "_law_take" (EV.mCons (EV.mVar 0) (EV.mCons (EV.mC (.int 12)) EV.mNil)) []) (EV.mCons (EV.mCall F "_law_take" (EV.mCons (EV.mVar 0) (EV.mCons (EV.mC (.int 40)) EV.mNil)) []) EV.mNil))))))))) EV.mNil)) [])) (EV.bName 3) (n_lw_word_2b F)))
def n_lw_word_3 (F : EV.Fenv) : EV.M EV.Fl := (EV.sFrz [2] (EV.sRet (EV.mVar 2)))
theorem ms_lw_word (F : EV.Fenv) : m_lw_word F = (EV.sSeq (n_lw_word_0 F) (EV.sSeq (n_lw_word_1 F) (EV.sSeq (n_lw_word_2 F) (n_lw_word_3 F)))) := by kernel_rfl
def n_lw_name_0 (F : EV.Fenv) : EV.M EV.Fl := (EV.sFrz [0] (EV.sSet 1 (EV.mCall F "_law_word" (EV.mCons (EV.mVar 0) EV.mNil) [])))
def n_lw_name_1t_0 (F : EV.Fenv) : EV.M EV.Fl := (EV.sFrz [0] (EV.sSetF 1 (EV.mBin .Add (EV.mVarB 1) (EV.mCall F "_law_pick" (EV.mCons (EV.mVar 0) (EV.mCons (EV.mC (.str "0123456789")) EV.mNil)) []))))
def n_lw_name_1t (F : EV.Fenv) : EV.M EV.Fl := (n_lw_name_1t_0 F)
def n_lw_name_1 (F : EV.Fenv) : EV.M EV.Fl := (EV.sIf (EV.mCmpT .In (EV.mVarB 1) (EV.mCall F "_law_reserved" EV.mNil [])) (n_lw_name_1t F) EV.sNext)
def n_lw_name_2 (F : EV.Fenv) : EV.M EV.Fl := (EV.sFrz [1] (EV.sRet (EV.mVar 1)))
theorem ms_lw_name (F : EV.Fenv) : m_lw_name F = (EV.sSeq (n_lw_name_0 F) (EV.sSeq (n_lw_name_1 F) (n_lw_name_2 F))) := by kernel_rfl
def n_lw_ref_0 (F : EV.Fenv) : EV.M EV.Fl := (EV.sFrz [0] (EV.sSet 1 (EV.mCall F "_law_take" (EV.mCons (EV.mVar 0) (EV.mCons (EV.mC (.int 8)) EV.mNil)) [])))
def n_lw_ref_1t_0 (F : EV.Fenv) : EV.M EV.Fl := (EV.sFrz [0] (EV.sRet (EV.mCall F "_law_pick" (EV.mCons (EV.mVar 0) (EV.mCons (EV.mLst (EV.mCons (EV.mC (.str "first")) (EV.mCons (EV.mC (.str "powered")) EV.mNil))) EV.mNil)) [])))
def n_lw_ref_1t (F : EV.Fenv) : EV.M EV.Fl := (n_lw_ref_1t_0 F)
def n_lw_ref_1 (F : EV.Fenv) : EV.M EV.Fl := (EV.sIf (EV.mCmpT .Eq (EV.mVarB 1) (EV.mC (.int 0))) (n_lw_ref_1t F) EV.sNext)
def n_lw_ref_2 (F : EV.Fenv) : EV.M EV.Fl := (EV.sFrz [0] (EV.sSet 2 (EV.mCall F "_law_name" (EV.mCons (EV.mVar 0) EV.mNil) [])))
def n_lw_ref_3b_0 (F : EV.Fenv) : EV.M EV.Fl := (EV.sFrz [0] (EV.sSet 4 (EV.mCall F "_law_word" (EV.mCons (EV.mVar 0) EV.mNil) [])))
def n_lw_ref_3b_1t_0 (F : EV.Fenv) : EV.M EV.Fl := (EV.sFrz [0] (EV.sSet 4 (EV.mCall F "_law_pick" (EV.mCons (EV.mVar 0) (EV.mCons (EV.mBin .Add (EV.mLst (EV.mCons (EV.mC (.str "e")) (EV.mCons (EV.mC (.str "q")) (EV.mCons (EV.mC (.str "v")) (EV.mCons (EV.mC (.str "t")) EV.mNil))))) (EV.mCall F "_law_reserved" EV.mNil [])) EV.mNil)) [])))
def n_lw_ref_3b_1t (F : EV.Fenv) : EV.M EV.Fl := (n_lw_ref_3b_1t_0 F)
def n_lw_ref_3b_1 (F : EV.Fenv) : EV.M EV.Fl := (EV.sFrz [0] (EV.sIf (EV.mCmpT .Eq (EV.mCall F "_law_take" (EV.mCons (EV.mVar 0) (EV.mCons (EV.mC (.int 2)) EV.mNil)) []) (EV.mC (.int 0))) (n_lw_ref_3b_1t F) EV.sNext))
def n_lw_ref_3b_2 (F : EV.Fenv) : EV.M EV.Fl := (EV.sSetF 2 (EV.mBin .Add (EV.mBin .Add (EV.mVarB 2) (EV.mC (.str "."))) (EV.mVarB 4)))
def n_lw_ref_3b (F : EV.Fenv) : EV.M EV.Fl := (EV.sSeq (n_lw_ref_3b_0 F) (EV.sSeq (n_lw_ref_3b_1 F) (n_lw_ref_3b_2 F)))
def n_lw_ref_3 (F : EV.Fenv) : EV.M EV.Fl := (EV.sFor (EV.mRng1 (EV.mBlt .max (EV.mCons (EV.mC (.int 0)) (EV.mCons (EV.mBin .Sub (EV.mVarB 1) (EV.mC (.int 4))) EV.mNil)))) (EV.bName 3) (n_lw_ref_3b F))
def n_lw_ref_4 (F : EV.Fenv) : EV.M EV.Fl := (EV.sFrz [2] (EV.sRet (EV.mVar 2)))
theorem ms_lw_ref (F : EV.Fenv) : m_lw_ref F = (EV.sSeq (n_lw_ref_0 F) (EV.sSeq (n_lw_ref_1 F) (EV.sSeq (n_lw_ref_2 F) (EV.sSeq (n_lw_ref_3 F) (n_lw_ref_4 F))))) := by kernel_rfl
def n_lw_number_0 (F : EV.Fenv) : EV.M EV.Fl := (EV.sFrz [0, 0] (EV.sRet (EV.mCall F "_law_pick" (EV.mCons (EV.mVar 0) (EV.mCons (EV.mLst (EV.mCons (EV.mC (.int 0)) (EV.mCons (EV.mC (.int 1)) (EV.mCons (EV.mC (.int 10)) (EV.mCons (EV.mC (.int 999)) (EV.mCons (EV.mC (.int 1000)) (EV.mCons (EV.mC (.int 100000)) (EV.mCons (EV.mC (.int 999999)) (EV.mCons (EV.mCall F "_law_take" (EV.mCons (EV.mVar 0) (EV.mCons (EV.mC (.int 1000000)) EV.mNil)) []) EV.mNil))))))))) EV.mNil)) [])))
theorem ms_lw_number (F : EV.Fenv) : m_lw_number F = (n_lw_number_0 F) := by kernel_rfl
def n_lw_side_0t_0 (F : EV.Fenv) : EV.M EV.Fl := (EV.sFrz [0] (EV.sRet (EV.mTup (EV.mCons (EV.mC (.str "num")) (EV.mCons (EV.mCall F "_law_number" (EV.mCons (EV.mVar 0) EV.mNil) []) EV.mNil)))))
def n_lw_side_0t (F : EV.Fenv) : EV.M EV.Fl := (n_lw_side_0t_0 F)
def n_lw_side_0 (F : EV.Fenv) : EV.M EV.Fl := (EV.sFrz [0] (EV.sIf (EV.mCmpT .Eq (EV.mCall F "_law_take" (EV.mCons (EV.mVar 0) (EV.mCons (EV.mC (.int 3)) EV.mNil)) []) (EV.mC (.int 0))) (n_lw_side_0t F) EV.sNext))
def n_lw_side_1 (F : EV.Fenv) : EV.M EV.Fl := (EV.sFrz [0] (EV.sRet (EV.mTup (EV.mCons (EV.mC (.str "ref")) (EV.mCons (EV.mCall F "_law_ref" (EV.mCons (EV.mVar 0) EV.mNil) []) EV.mNil)))))
theorem ms_lw_side (F : EV.Fenv) : m_lw_side F = (EV.sSeq (n_lw_side_0 F) (n_lw_side_1 F)) := by kernel_rfl
def n_lw_pick_0 (F : EV.Fenv) : EV.M EV.Fl := (EV.sFrz [0] (EV.sRet (EV.mIx (EV.mVarB 1) (EV.mCall F "_law_take" (EV.mCons (EV.mVar 0) (EV.mCons (EV.mBlt .len (EV.mCons (EV.mVarB 1) EV.mNil)) EV.mNil)) []))))
theorem ms_lw_pick (F : EV.Fenv) : m_lw_pick F = (n_lw_pick_0 F) := by kernel_rfl
/-! ### drawn names -/
section
variable {S : EV.Sto} {n : Nat} {o : EV.Ob}
theorem gS (hn : n < S.length) : (S.set n o)[n]? = some o := List.getElem?_set_self hn
theorem tkS (d : Nat) (m : Int) (hm : 0 < m) (hm2 : m < 1073741824) (hn : n < S.length) (hb : IsBag o) : ∃ r o', 0 ≤ r ∧ r < m ∧ IsBag o' ∧ EV.Fn gG gP (d + 1) "_law_take" [.loc n, .int m] (S.set n o) = .ok (.int r) (S.set n o') := by
  obtain ⟨r, o', h1, h2, h3, h4⟩ := take_ex d (S := S.set n o) (n := n) (gS hn) hb hm hm2
  rw [List.set_set] at h4
  exact ⟨r, o', h1, h2, h3, h4⟩
theorem pkS (d : Nat) (ws : List EV.W) (hw : ws ≠ []) (hl : ws.length < 1073741824) (hn : n < S.length) (hb : IsBag o) : ∃ w o', w ∈ ws ∧ IsBag o' ∧ EV.Fn gG gP (d + 2) "_law_pick" [.loc n, .lst ws] (S.set n o) = .ok w (S.set n o') := by
  obtain ⟨r, o', h1, h2, h3⟩ := pick_ex d (S := S.set n o) (n := n) (gS hn) hb hw hl
  rw [List.set_set] at h3
  exact ⟨r, o', h1, h2, h3⟩
/-- a sign of a text -/
theorem pkC (d : Nat) (t : Str) (h0 : 0 < t.length) (hl : t.length ≤ 10000) (hn : n < S.length) (hb : IsBag o) : ∃ c o', c ∈ tl t ∧ IsBag o' ∧ EV.Fn gG gP (d + 2) "_law_pick" [.loc n, .str t] (S.set n o) = .ok (.str (sgn c)) (S.set n o') := by
  obtain ⟨r, o', r1, r2, b1, e1⟩ := tkS (S := S) d (t.length : Int) (by omega) (by omega) hn hb
  obtain ⟨k, rfl⟩ : ∃ k : Nat, r = k := ⟨r.toNat, by omega⟩
  have hk : k < (tl t).length := by rw [← len_tl]; omega
  refine ⟨(tl t)[k], o', List.getElem_mem hk, b1, ?_⟩
  rw [fe_lw_pick, if_pos (by rfl), ms_lw_pick, EV.r_run]
  show (n_lw_pick_0 _ [.fr (.loc n), .fr (.str t)] _).bind EV.runF = _
  have el : EV.mBlt .len (EV.mCons (EV.mVarB 1) EV.mNil) [.fr (.loc n), .fr (.str t)] (S.set n o) = .ok (.int t.length) (S.set n o) := len_s rfl (by omega)
  have hx := wix_s (t := t) (k := k) (lenB (by omega)) (List.getElem?_eq_getElem hk)
  unfold n_lw_pick_0
  generalize EV.mBlt .len (EV.mCons (EV.mVarB 1) EV.mNil) = A at *
  generalize S.set n o = S1 at *
  generalize S.set n o' = S2 at *
  rw [EV.r_frz, show EV.frz [.fr (.loc n), .fr (.str t)] [0] = [.fr (.loc n), .fr (.str t)] from rfl, EV.r_ret, EV.r_ix, show EV.mVarB 1 [.fr (.loc n), .fr (.str t)] S1 = .ok (.str t) S1 from rfl, EV.r_ok, EV.r_ixF, show EV.mCall (EV.Fn gG gP (d + 1)) "_law_take" (EV.mCons (EV.mVar 0) (EV.mCons A EV.mNil)) [] [.fr (.loc n), .fr (.str t)] S1 = .ok (.int k) S2 by simp -implicitDefEqProofs [EV.LIM, EV.str_lit, evr, EV.r_for, EV.r_rng1, EV.wbin, EV.wun, EV.wcmp, EV.vw, EV.vwz, EV.wix, EV.wblt, EV.wtru, EV.wisi, EV.frz, EV.mkOwn, L2.atI, L2.ixN, List.map, List.length_cons, List.length_nil, List.replicate, List.getElem?_cons_zero, List.getElem?_cons_succ, List.set_cons_zero, List.set_cons_succ, List.append_nil, List.cons_append, List.nil_append, el, e1], EV.r_ok, EV.r_ixG]
  show ((EV.olift (EV.wix (.str t) (.int k)) S2).bind EV.retF).bind EV.runF = _
  rw [hx]
  rfl
/-! words -/
structure Wrd (w : Str) : Prop where
  part : Part w
  len : w.length ≤ 41
def abc : Str := "abcdefghijklmnopqrstuvwxyz"
theorem abc_app : abc ++ "0123456789" = ("abcdefghijklmnopqrstuvwxyz0123456789" : Str) := by decide +kernel
theorem sgn_part {w : Str} {c : Nat} (h : Part w) (hc : (letC c || digC c) = true) : Part (w ++ sgn c) := by
  obtain ⟨⟨k, r, h1, h2⟩, h3⟩ := h
  refine ⟨⟨k, r ++ [c], by rw [app_tl, h1, tl_sgn]; rfl, h2⟩, fun x hx => ?_⟩
  rw [app_tl, tl_sgn] at hx
  rcases List.mem_append.mp hx with q | q
  · exact h3 x q
  · rw [List.mem_singleton] at q; subst q; exact hc
theorem rngN (n : Nat) : EV.rngW 0 n = (List.range n).map fun i => .int (i : Nat) := by
  unfold EV.rngW
  apply List.map_congr_left
  intro i _
  congr 1
  omega
theorem word_loop (d : Nat) (hn : n < S.length) : ∀ (ws : List EV.W) (w : Str) (o : EV.Ob) (x3 : EV.Sl), Part w → w.length + ws.length ≤ 41 → IsBag o → ∃ (w' : Str) (o' : EV.Ob) (y3 : EV.Sl), Wrd w' ∧ IsBag o' ∧
    EV.forL (EV.bName 3) (n_lw_word_2b (EV.Fn gG gP (d + 2))) ws [.fr (.loc n), .fr (.str abc), .fr (.str w), x3] (S.set n o) = .ok (.nx [.fr (.loc n), .fr (.str abc), .fr (.str w'), y3]) (S.set n o')
  | [], w, o, x3, h, hl, hb => ⟨w, o, x3, ⟨h, by simpa using hl⟩, hb, rfl⟩
  | z :: ws, w, o, x3, h, hl, hb => by
    simp only [List.length_cons] at hl
    have hline := line_ge
    obtain ⟨c, o1, hc, b1, e1⟩ := pkC (S := S) d ("abcdefghijklmnopqrstuvwxyz0123456789" : Str) (by decide +kernel) (by decide +kernel) hn hb
    have hc2 := mem_name c
    rw [decide_eq_true hc] at hc2
    obtain ⟨w', o2, y3, hw, b2, e2⟩ := word_loop d hn ws (w ++ sgn c) o1 (.fr z) (sgn_part h hc2.symm) (by rw [app_len, sgn_len]; omega) b1
    refine ⟨w', o2, y3, hw, b2, ?_⟩
    rw [EV.r_forC, EV.r_bname, EV.r_ok, EV.r_forG]
    have hb1 : n_lw_word_2b (EV.Fn gG gP (d + 2)) [.fr (.loc n), .fr (.str abc), .fr (.str w), .fr z] (S.set n o) = .ok (.nx [.fr (.loc n), .fr (.str abc), .fr (.str (w ++ sgn c)), .fr z]) (S.set n o1) := by
      have zz : abc.length + ("0123456789" : Str).length = 36 := by decide +kernel
      have eb : EV.mBin .Add (EV.mVarB 1) (EV.mC (.str "0123456789")) [.fr (.loc n), .fr (.str abc), .fr (.str w), .fr z] (S.set n o) = .ok (.str "abcdefghijklmnopqrstuvwxyz0123456789") (S.set n o) := by
        rw [← abc_app]
        exact add_s rfl rfl (by omega)
      have ec : EV.mCall (EV.Fn gG gP (d + 2)) "_law_pick" (EV.mCons (EV.mVar 0) (EV.mCons (EV.mBin .Add (EV.mVarB 1) (EV.mC (.str "0123456789"))) EV.mNil)) [] [.fr (.loc n), .fr (.str abc), .fr (.str w), .fr z] (S.set n o) = .ok (.str (sgn c)) (S.set n o1) := by
        generalize EV.mBin .Add (EV.mVarB 1) (EV.mC (.str "0123456789")) = A at *
        generalize S.set n o = S1 at *
        generalize S.set n o1 = S2 at *
        simp -implicitDefEqProofs [EV.LIM, EV.str_lit, evr, EV.r_for, EV.r_rng1, EV.wbin, EV.wun, EV.wcmp, EV.vw, EV.vwz, EV.wix, EV.wblt, EV.wtru, EV.wisi, EV.frz, EV.mkOwn, L2.atI, L2.ixN, List.map, List.length_cons, List.length_nil, List.replicate, List.getElem?_cons_zero, List.getElem?_cons_succ, List.set_cons_zero, List.set_cons_succ, List.append_nil, List.cons_append, List.nil_append, eb, e1]
      unfold n_lw_word_2b n_lw_word_2b_0
      rw [EV.r_frz, show EV.frz [.fr (.loc n), .fr (.str abc), .fr (.str w), .fr z] [0] = [.fr (.loc n), .fr (.str abc), .fr (.str w), .fr z] from rfl, EV.r_setO, add_s (a := EV.mVarB 2) (x := w) rfl ec (by rw [sgn_len]; omega)]
      rfl
    refine (congrArg (fun r => EV.Res.bind r _) hb1).trans ?_
    rw [EV.r_ok, EV.r_forHn]
    exact e2
theorem tl_abc : tl abc = List.range' 97 26 := tl_let
theorem word_ex (d : Nat) (hn : n < S.length) (hb : IsBag o) : ∃ (w : Str) (o' : EV.Ob), Wrd w ∧ IsBag o' ∧ EV.Fn gG gP (d + 3) "_law_word" [.loc n] (S.set n o) = .ok (.str w) (S.set n o') := by
  obtain ⟨c, o1, hc, b1, e1⟩ := pkC (S := S) d abc (by decide +kernel) (by decide +kernel) hn hb
  have hc2 : decide (c ∈ tl abc) = letC c := mem_let c
  rw [decide_eq_true hc] at hc2
  have hp : Part (sgn c) := ⟨⟨c, [], rfl, hc2.symm⟩, fun x hx => by
    rw [tl_sgn, List.mem_singleton] at hx
    subst hx
    rw [← hc2]
    rfl⟩
  obtain ⟨r1, o2, _, r1b, b2, e2⟩ := tkS (S := S) (d + 1) 12 (by decide) (by decide) hn b1
  obtain ⟨r2, o3, _, r2b, b3, e3⟩ := tkS (S := S) (d + 1) 40 (by decide) (by decide) hn b2
  obtain ⟨v, o4, v1, b4, e4⟩ := pkS (S := S) d [.int 0, .int 0, .int 1, .int 1, .int 2, .int 3, .int r1, .int r2] (by simp) (by simp) hn b3
  obtain ⟨k, rfl, hk⟩ : ∃ k : Nat, v = .int k ∧ k ≤ 39 := by
    simp only [List.mem_cons, List.not_mem_nil, or_false] at v1
    rcases v1 with rfl | rfl | rfl | rfl | rfl | rfl | rfl | rfl
    · exact ⟨0, rfl, by omega⟩
    · exact ⟨0, rfl, by omega⟩
    · exact ⟨1, rfl, by omega⟩
    · exact ⟨1, rfl, by omega⟩
    · exact ⟨2, rfl, by omega⟩
    · exact ⟨3, rfl, by omega⟩
    · exact ⟨r1.toNat, by rw [show ((r1.toNat : Nat) : Int) = r1 by omega], by omega⟩
    · exact ⟨r2.toNat, by rw [show ((r2.toNat : Nat) : Int) = r2 by omega], by omega⟩
  obtain ⟨w, o5, y3, hw, b5, e5⟩ := word_loop (S := S) d hn ((List.range k).map fun i => .int (i : Nat)) (sgn c) o4 .emp hp (by rw [sgn_len]; simp; omega) b4
  refine ⟨w, o5, hw, b5, ?_⟩
  rw [fe_lw_word, if_pos (by rfl), ms_lw_word, EV.r_run]
  show (EV.sSeq _ _ [.fr (.loc n), .emp, .emp, .emp] _).bind EV.runF = _
  have a0 : n_lw_word_0 (EV.Fn gG gP (d + 2)) [.fr (.loc n), .emp, .emp, .emp] (S.set n o) = .ok (.nx [.fr (.loc n), .fr (.str abc), .emp, .emp]) (S.set n o) := rfl
  have a1 : n_lw_word_1 (EV.Fn gG gP (d + 2)) [.fr (.loc n), .fr (.str abc), .emp, .emp] (S.set n o) = .ok (.nx [.fr (.loc n), .fr (.str abc), .fr (.str (sgn c)), .emp]) (S.set n o1) := by
    generalize abc = AB at *
    generalize sgn c = SC at *
    generalize S.set n o = S1 at *
    generalize S.set n o1 = S2 at *
    simp -implicitDefEqProofs [EV.LIM, EV.str_lit, evr, EV.r_for, EV.r_rng1, EV.wbin, EV.wun, EV.wcmp, EV.vw, EV.vwz, EV.wix, EV.wblt, EV.wtru, EV.wisi, EV.frz, EV.mkOwn, L2.atI, L2.ixN, List.map, List.length_cons, List.length_nil, List.replicate, List.getElem?_cons_zero, List.getElem?_cons_succ, List.set_cons_zero, List.set_cons_succ, List.append_nil, List.cons_append, List.nil_append, n_lw_word_1, e1]
  have a2 : n_lw_word_2 (EV.Fn gG gP (d + 2)) [.fr (.loc n), .fr (.str abc), .fr (.str (sgn c)), .emp] (S.set n o1) = .ok (.nx [.fr (.loc n), .fr (.str abc), .fr (.str w), y3]) (S.set n o5) := by
    have ec : EV.mCall (EV.Fn gG gP (d + 2)) "_law_pick" (EV.mCons (EV.mVar 0) (EV.mCons (EV.mLst (EV.mCons (EV.mC (.int 0)) (EV.mCons (EV.mC (.int 0)) (EV.mCons (EV.mC (.int 1)) (EV.mCons (EV.mC (.int 1)) (EV.mCons (EV.mC (.int 2)) (EV.mCons (EV.mC (.int 3)) (EV.mCons (EV.mCall (EV.Fn gG gP (d + 2)) "_law_take" (EV.mCons (EV.mVar 0) (EV.mCons (EV.mC (.int 12)) EV.mNil)) []) (EV.mCons (EV.mCall (EV.Fn gG gP (d + 2)) "_law_take" (EV.mCons (EV.mVar 0) (EV.mCons (EV.mC (.int 40)) EV.mNil)) []) EV.mNil))))))))) EV.mNil)) [] [.fr (.loc n), .fr (.str abc), .fr (.str (sgn c)), .emp] (S.set n o1) = .ok (.int k) (S.set n o4) := by
      clear e5 e1 a1
      generalize abc = AB at *
      generalize sgn c = SC at *
      generalize S.set n o1 = S1 at *
      generalize S.set n o2 = S2 at *
      generalize S.set n o3 = S3 at *
      generalize S.set n o4 = S4 at *
      simp -implicitDefEqProofs [EV.LIM, EV.str_lit, evr, EV.r_for, EV.r_rng1, EV.wbin, EV.wun, EV.wcmp, EV.vw, EV.vwz, EV.wix, EV.wblt, EV.wtru, EV.wisi, EV.frz, EV.mkOwn, L2.atI, L2.ixN, List.map, List.length_cons, List.length_nil, List.replicate, List.getElem?_cons_zero, List.getElem?_cons_succ, List.set_cons_zero, List.set_cons_succ, List.append_nil, List.cons_append, List.nil_append, e2, e3, e4]
    unfold n_lw_word_2
    have hi : EV.in62 (k : Int) := in62_le (by omega) (by omega)
    rw [EV.r_frz, show EV.frz [.fr (.loc n), .fr (.str abc), .fr (.str (sgn c)), .emp] [0, 0, 0] = [.fr (.loc n), .fr (.str abc), .fr (.str (sgn c)), .emp] from rfl, EV.r_for, EV.r_rng1, ec, EV.r_ok, EV.r_rng1F hi, Int.toNat_natCast, rngN, EV.r_ok, EV.r_forF]
    exact e5
  rw [seq_step a0, seq_step a1, seq_step a2]
  rfl
/-! the reserved words -/
theorem res_let : ∀ s ∈ resL, tl s ≠ [] ∧ (∀ c ∈ tl s, letC c = true) ∧ s.length ≤ 41 := by decide +kernel
def rA : Str := "project steady fails input output top rest flag word first retained timer on off pulse sum counter up down"
def rB : Str := " chart step limit move to when end instance of block in out begin task every at rung zone advance"
def rC : Str := " part call skip plant budget cell sensor case chance fault stuck freeze blink never within after"
def rD : Str := " comes min max powered phase"
def rJ : Str := Str.join " " resL
theorem r_len : (tl rA).length ≤ 200 ∧ (tl rB).length ≤ 200 ∧ (tl rC).length ≤ 200 ∧ (tl rD).length ≤ 200 := by decide +kernel
theorem r_text0 : ((tl rA ++ tl rB) ++ tl rC) ++ tl rD = joinL (tl " ") (resL.map tl) := by decide +kernel
theorem r_text : ((rA ++ rB) ++ rC) ++ rD = rJ := ext_tl (by rw [app_tl, app_tl, app_tl, r_text0]; unfold rJ; rw [tl_join])
theorem r_split : Txt.split rJ " " = resL := by
  have := split_join (y := " ") (s := 32) (S := []) (by decide +kernel) (by decide +kernel) (parts := resL) (by unfold resL; simp) fun p hp hm => by
    have := (res_let p hp).2.1 32 hm
    exact absurd this (by decide)
  rwa [join_eq] at this
theorem rn0 (F : EV.Fenv) : n_lw_reserved_0 F = EV.sSet 0 (EV.mC (.str rA)) := rfl
theorem rn1 (F : EV.Fenv) : n_lw_reserved_1 F = EV.sSetF 0 (EV.mBin .Add (EV.mVarB 0) (EV.mC (.str rB))) := rfl
theorem rn2 (F : EV.Fenv) : n_lw_reserved_2 F = EV.sSetF 0 (EV.mBin .Add (EV.mVarB 0) (EV.mC (.str rC))) := rfl
theorem rn3 (F : EV.Fenv) : n_lw_reserved_3 F = EV.sRet (EV.mSm .split (EV.mBin .Add (EV.mVarB 0) (EV.mC (.str rD))) (EV.mC (.str " "))) := rfl
theorem split_s {a : EV.M EV.W} {σ : EV.Sls} {J y : Str} {l : List Str} (ha : a σ S = .ok (.str J) S) (hy : (y.length == 0) = false) (hl : J.length + 2 ≤ sizeLine) (h : Txt.split J y = l) : EV.mSm .split a (EV.mC (.str y)) σ S = .ok (.lst (tkW l)) S := by
  unfold EV.mSm
  rw [ha, EV.r_ok]
  show EV.olift (EV.wSm .split (.str J) (.str y)) S = _
  simp only [EV.wSm]
  rw [if_pos ⟨hy, hl⟩, h]
  rfl
theorem reserved_ex (d : Nat) : EV.Fn gG gP (d + 1) "_law_reserved" [] S = .ok (.lst (tkW resL)) S := by
  have hline := line_ge
  obtain ⟨lA, lB, lC, lD⟩ := r_len
  rw [← len_tl] at lA lB lC lD
  have hsp := r_split
  have ht := r_text
  rw [fe_lw_reserved, if_pos (by rfl), ms_lw_reserved, EV.r_run, rn0, rn1, rn2, rn3]
  show (EV.sSeq _ _ [.emp] _).bind EV.runF = _
  generalize rA = A at *
  generalize rB = B at *
  generalize rC = C at *
  generalize rD = D at *
  generalize rJ = J at *
  generalize hR : resL = R at *
  have hJ : J.length ≤ 1000 := by
    rw [← ht, app_len, app_len, app_len]
    omega
  have a0 : EV.sSet 0 (EV.mC (.str A)) [.emp] S = .ok (.nx [.fr (.str A)]) S := rfl
  have a1 : EV.sSetF 0 (EV.mBin .Add (EV.mVarB 0) (EV.mC (.str B))) [.fr (.str A)] S = .ok (.nx [.fr (.str (A ++ B))]) S := by
    rw [EV.r_setO, add_s (x := A) (y := B) rfl rfl (by omega)]
    rfl
  have a2 : EV.sSetF 0 (EV.mBin .Add (EV.mVarB 0) (EV.mC (.str C))) [.fr (.str (A ++ B))] S = .ok (.nx [.fr (.str ((A ++ B) ++ C))]) S := by
    rw [EV.r_setO, add_s (x := A ++ B) (y := C) rfl rfl (by rw [app_len]; omega)]
    rfl
  have e3 := add_s (a := EV.mVarB 0) (b := EV.mC (.str D)) (x := (A ++ B) ++ C) (y := D) (σ := [.fr (.str ((A ++ B) ++ C))]) (S := S) rfl rfl (by rw [app_len, app_len]; omega)
  rw [ht] at e3
  have es := split_s (y := (" " : Str)) e3 (by decide +kernel) (by omega) hsp
  rw [seq_step a0, seq_step a1, seq_step a2, EV.r_ret, es]
  rfl
end
open TL
/-! ### drawn sides -/
section
variable {S : EV.Sto} {n : Nat} {o : EV.Ob}
theorem wflat_strs (l : List Str) : (tkW l).all EV.wflat = true := by
  rw [List.all_eq_true]
  intro x hx
  obtain ⟨s, _, rfl⟩ := List.mem_map.mp hx
  rfl
theorem wany_strs (w : Str) : ∀ l : List Str, ((tkW l).any fun z => EV.wfeq z (.str w)) = decide (w ∈ l)
  | [] => by simp [tkW]
  | a :: l => by
    show (EV.wfeq (.str a) (.str w) || (tkW l).any fun z => EV.wfeq z (.str w)) = _
    rw [wany_strs w l]
    show ((a == w) || _) = _
    by_cases q : a = w
    · subst q; simp
    · have q2 : ¬ w = a := fun z => q z.symm
      simp [q, q2]
theorem wmem_strs (w : Str) (l : List Str) : EV.wmem (.str w) (.lst (tkW l)) = some (decide (w ∈ l)) := by
  show (if EV.wflat (.str w) = true ∧ (tkW l).all EV.wflat = true then some ((tkW l).any fun z => EV.wfeq z (.str w)) else EV.wdeep (.str w) (.lst (tkW l))) = _
  rw [if_pos ⟨rfl, wflat_strs l⟩, wany_strs]
theorem res_free {w : Str} {c : Nat} (hc : digC c = true) : (w ++ sgn c) ∉ resL := fun h => by
  have := (res_let _ h).2.1 c (by rw [app_tl, tl_sgn]; simp)
  unfold letC at this
  unfold digC at hc
  simp at this hc
  omega
theorem name_ex (d : Nat) (hn : n < S.length) (hb : IsBag o) : ∃ (w : Str) (o' : EV.Ob), Name w ∧ w.length ≤ 42 ∧ IsBag o' ∧ EV.Fn gG gP (d + 4) "_law_name" [.loc n] (S.set n o) = .ok (.str w) (S.set n o') := by
  obtain ⟨w, o1, hw, b1, e1⟩ := word_ex (S := S) d hn hb
  have er := reserved_ex (S := S.set n o1) (d + 2)
  have hm := wmem_strs w resL
  have a0 : n_lw_name_0 (EV.Fn gG gP (d + 3)) [.fr (.loc n), .emp] (S.set n o) = .ok (.nx [.fr (.loc n), .fr (.str w)]) (S.set n o1) := by
    generalize S.set n o = S1 at *
    generalize S.set n o1 = S2 at *
    simp -implicitDefEqProofs [EV.LIM, EV.str_lit, evr, EV.r_for, EV.r_rng1, EV.wbin, EV.wun, EV.wcmp, EV.vw, EV.vwz, EV.wix, EV.wblt, EV.wtru, EV.wisi, EV.frz, EV.mkOwn, L2.atI, L2.ixN, List.map, List.length_cons, List.length_nil, List.replicate, List.getElem?_cons_zero, List.getElem?_cons_succ, List.set_cons_zero, List.set_cons_succ, List.append_nil, List.cons_append, List.nil_append, n_lw_name_0, e1]
  have et : EV.mCmpT .In (EV.mVarB 1) (EV.mCall (EV.Fn gG gP (d + 3)) "_law_reserved" EV.mNil []) [.fr (.loc n), .fr (.str w)] (S.set n o1) = .ok (decide (w ∈ resL)) (S.set n o1) := by
    generalize S.set n o1 = S2 at *
    generalize tkW resL = RW at *
    generalize decide (w ∈ resL) = dd at *
    simp -implicitDefEqProofs [EV.LIM, EV.str_lit, evr, EV.r_for, EV.r_rng1, EV.wbin, EV.wun, EV.wcmp, EV.vw, EV.vwz, EV.wix, EV.wblt, EV.wtru, EV.wisi, EV.frz, EV.mkOwn, L2.atI, L2.ixN, List.map, List.length_cons, List.length_nil, List.replicate, List.getElem?_cons_zero, List.getElem?_cons_succ, List.set_cons_zero, List.set_cons_succ, List.append_nil, List.cons_append, List.nil_append, er, hm]
  by_cases q : w ∈ resL
  · obtain ⟨c, o2, hc, b2, e2⟩ := pkC (S := S) (d + 1) ("0123456789" : Str) (by decide +kernel) (by decide +kernel) hn b1
    have hc2 := mem_dig c
    rw [decide_eq_true hc] at hc2
    refine ⟨w ++ sgn c, o2, ⟨sgn_part hw.part (by rw [← hc2]; simp), res_free hc2.symm⟩, by rw [app_len, sgn_len]; have := hw.len; omega, b2, ?_⟩
    rw [fe_lw_name, if_pos (by rfl), ms_lw_name, EV.r_run]
    show (EV.sSeq _ _ [.fr (.loc n), .emp] _).bind EV.runF = _
    have ea := add_s (a := EV.mVarB 1) (b := EV.mCall (EV.Fn gG gP (d + 3)) "_law_pick" (EV.mCons (EV.mVar 0) (EV.mCons (EV.mC (.str "0123456789")) EV.mNil)) []) (σ := [.fr (.loc n), .fr (.str w)]) (S := S.set n o1) (S1 := S.set n o1) (S2 := S.set n o2) (x := w) (y := sgn c) rfl e2 (by rw [sgn_len]; have := line_ge; have := hw.len; omega)
    have a1 : n_lw_name_1 (EV.Fn gG gP (d + 3)) [.fr (.loc n), .fr (.str w)] (S.set n o1) = .ok (.nx [.fr (.loc n), .fr (.str (w ++ sgn c))]) (S.set n o2) := by
      unfold n_lw_name_1
      rw [EV.r_if, et, EV.r_ok, decide_eq_true q, EV.r_sifT]
      unfold n_lw_name_1t n_lw_name_1t_0
      rw [EV.r_frz, show EV.frz [.fr (.loc n), .fr (.str w)] [0] = [.fr (.loc n), .fr (.str w)] from rfl, EV.r_setO, ea]
      rfl
    rw [seq_step a0, seq_step a1]
    rfl
  · refine ⟨w, o1, ⟨hw.part, q⟩, by have := hw.len; omega, b1, ?_⟩
    rw [fe_lw_name, if_pos (by rfl), ms_lw_name, EV.r_run]
    show (EV.sSeq _ _ [.fr (.loc n), .emp] _).bind EV.runF = _
    have a1 : n_lw_name_1 (EV.Fn gG gP (d + 3)) [.fr (.loc n), .fr (.str w)] (S.set n o1) = .ok (.nx [.fr (.loc n), .fr (.str w)]) (S.set n o1) := by
      unfold n_lw_name_1
      rw [EV.r_if, et, EV.r_ok, decide_eq_false q, EV.r_sifN]
      rfl
    rw [seq_step a0, seq_step a1]
    rfl
/-! a name and parts -/
theorem joinL_snoc (s p : List Nat) : ∀ (a : List Nat) (l : List (List Nat)), joinL s (a :: (l ++ [p])) = joinL s (a :: l) ++ (s ++ p)
  | a, [] => rfl
  | a, b :: l => by
    show a ++ (s ++ joinL s (b :: (l ++ [p]))) = (a ++ (s ++ joinL s (b :: l))) ++ (s ++ p)
    rw [joinL_snoc s p b l]
    simp only [List.append_assoc]
theorem joinL_mem (s : List Nat) : ∀ (l : List (List Nat)) (c : Nat), c ∈ joinL s l → c ∈ s ∨ ∃ p ∈ l, c ∈ p
  | [], c, h => by simp [joinL] at h
  | [a], c, h => .inr ⟨a, by simp, h⟩
  | a :: b :: l, c, h => by
    have h : c ∈ a ++ (s ++ joinL s (b :: l)) := h
    rcases List.mem_append.mp h with h | h
    · exact .inr ⟨a, by simp, h⟩
    · rcases List.mem_append.mp h with h | h
      · exact .inl h
      · rcases joinL_mem s (b :: l) c h with h | ⟨p, hp, h⟩
        · exact .inl h
        · exact .inr ⟨p, List.mem_cons_of_mem _ hp, h⟩
def dots (w : Str) (ps : List Str) : Str := Str.join "." (w :: ps)
theorem tl_dot : tl ("." : Str) = [46] := by decide +kernel
theorem dots_tl (w : Str) (ps : List Str) : tl (dots w ps) = joinL [46] (tl w :: ps.map tl) := by
  unfold dots
  rw [tl_join, tl_dot]
  rfl
theorem dots_one (w : Str) : dots w [] = w := ext_tl (by rw [dots_tl]; rfl)
theorem dots_snoc (w p : Str) (ps : List Str) : dots w (ps ++ [p]) = (dots w ps ++ ("." : Str)) ++ p := ext_tl (by
  rw [app_tl, app_tl, dots_tl, dots_tl, tl_dot, List.map_append, List.map_singleton, joinL_snoc]
  simp only [List.append_assoc])
theorem part_word {w : Str} (h : Part w) : ∀ c ∈ tl w, wordC c = true := fun c hc => by
  have := h.2 c hc
  unfold letC digC at this
  unfold wordC
  simp only [Bool.or_eq_true, Bool.and_eq_true, decide_eq_true_eq] at this ⊢
  rcases this with h | h
  · exact .inl (.inl h)
  · exact .inl (.inr h)
theorem joinL_hd (s : List Nat) (c : Nat) (r : List Nat) (l : List (List Nat)) : ∃ r', joinL s ((c :: r) :: l) = c :: r' := by
  cases l with
  | nil => exact ⟨r, rfl⟩
  | cons b l => exact ⟨r ++ (s ++ joinL s (b :: l)), rfl⟩
theorem dots_ok {w : Str} {ps : List Str} (hw : Name w) (hp : ∀ p ∈ ps, Part p) (hl : (dots w ps).length ≤ 200) : RefOk (dots w ps) := by
  obtain ⟨c, r, h1, h2⟩ := hw.part.1
  obtain ⟨r', h3⟩ := joinL_hd [46] c r (ps.map tl)
  have hd : tl (dots w ps) = c :: r' := by rw [dots_tl, h1, h3]
  have hc : digC c = false ∧ c ≠ 40 := by
    unfold letC at h2
    unfold digC
    simp only [Bool.and_eq_true, decide_eq_true_eq] at h2
    refine ⟨?_, by omega⟩
    have : ¬ c ≤ 57 := by omega
    simp [this]
  have hmm : ∀ s ∈ resL, dots w ps ≠ s := fun s hs e => by
    cases ps with
    | nil => rw [dots_one] at e; exact hw.free (e ▸ hs)
    | cons p ps =>
      have hm : (46 : Nat) ∈ tl (dots w (p :: ps)) := by
        rw [dots_tl]
        show (46 : Nat) ∈ tl w ++ ([46] ++ joinL [46] (tl p :: ps.map tl))
        simp
      rw [e] at hm
      exact absurd ((res_let s hs).2.1 46 hm) (by decide)
  refine ⟨.inr (.inr ⟨w, ps, rfl, hw, hp⟩), hl, ⟨c, r', hd, hc.1⟩, fun e => ?_, hmm _ (by decide +kernel), hmm _ (by decide +kernel), by rw [hd]; simp, fun x hx => ?_⟩
  · rw [e, tl_o] at hd
    injection hd with h4 h5
    exact hc.2 h4.symm
  · rw [dots_tl] at hx
    rcases joinL_mem _ _ _ hx with h | ⟨p, hp', h⟩
    · rw [List.mem_singleton] at h; subst h; rfl
    · rw [← List.map_cons (f := tl) (a := w) (l := ps)] at hp'
      obtain ⟨q, hq, rfl⟩ := List.mem_map.mp hp'
      rcases List.mem_cons.mp hq with rfl | hq
      · exact part_word hw.part x h
      · exact part_word (hp q hq) x h
theorem fst_ok : ∀ s : Str, s = "first" ∨ s = "powered" → RefOk s := fun s h => by
  have hr : Ref s := h.elim .inl fun h => .inr (.inl h)
  rcases h with rfl | rfl
  · exact ⟨hr, by decide +kernel, ⟨102, [105, 114, 115, 116], by decide +kernel, by decide⟩, by decide +kernel, by decide +kernel, by decide +kernel, by decide +kernel, by decide +kernel⟩
  · exact ⟨hr, by decide +kernel, ⟨112, [111, 119, 101, 114, 101, 100], by decide +kernel, by decide⟩, by decide +kernel, by decide +kernel, by decide +kernel, by decide +kernel, by decide +kernel⟩
theorem res_part {s : Str} (h : s ∈ [("e" : Str), ("q" : Str), ("v" : Str), ("t" : Str)] ++ resL) : Part s ∧ s.length ≤ 41 := by
  have q : ∀ s ∈ [("e" : Str), ("q" : Str), ("v" : Str), ("t" : Str)] ++ resL, tl s ≠ [] ∧ (∀ c ∈ tl s, letC c = true) ∧ s.length ≤ 41 := by decide +kernel
  obtain ⟨h1, h2, h3⟩ := q s h
  obtain ⟨c, r, hr⟩ := List.exists_cons_of_ne_nil h1
  exact ⟨⟨⟨c, r, hr, h2 c (by rw [hr]; simp)⟩, fun x hx => by rw [h2 x hx]; rfl⟩, h3⟩
theorem tkW_split : EV.mBin .Add (EV.mLst (EV.mCons (EV.mC (.str "e")) (EV.mCons (EV.mC (.str "q")) (EV.mCons (EV.mC (.str "v")) (EV.mCons (EV.mC (.str "t")) EV.mNil))))) (EV.mC (.lst (tkW resL))) [] [] = .ok (.lst (tkW ([("e" : Str), ("q" : Str), ("v" : Str), ("t" : Str)] ++ resL))) [] :=
  add_l (x := [("e" : Str), ("q" : Str), ("v" : Str), ("t" : Str)]) rfl rfl (by decide +kernel)
theorem ref_loop (d : Nat) (hn : n < S.length) (x1 : EV.Sl) (w : Str) : ∀ (ws : List EV.W) (ps : List Str) (o : EV.Ob) (x3 x4 : EV.Sl), (∀ p ∈ ps, Part p) → (dots w ps).length + 42 * ws.length ≤ 200 → IsBag o → ∃ (ps' : List Str) (o' : EV.Ob) (y3 y4 : EV.Sl), (∀ p ∈ ps', Part p) ∧ (dots w ps').length ≤ 200 ∧ IsBag o' ∧
    EV.forL (EV.bName 3) (n_lw_ref_3b (EV.Fn gG gP (d + 4))) ws [.fr (.loc n), x1, .fr (.str (dots w ps)), x3, x4] (S.set n o) = .ok (.nx [.fr (.loc n), x1, .fr (.str (dots w ps')), y3, y4]) (S.set n o')
  | [], ps, o, x3, x4, hp, hl, hb => ⟨ps, o, x3, x4, hp, by simpa using hl, hb, rfl⟩
  | z :: ws, ps, o, x3, x4, hp, hl, hb => by
    simp only [List.length_cons] at hl
    obtain ⟨p1, o1, hw1, b1, e1⟩ := word_ex (S := S) (d + 1) hn hb
    obtain ⟨r, o2, r1, r2, b2, e2⟩ := tkS (S := S) (d + 3) 2 (by decide) (by decide) hn b1
    have hd1 : ("." : Str).length = 1 := by decide +kernel
    have hline := line_ge
    have a0 : n_lw_ref_3b_0 (EV.Fn gG gP (d + 4)) [.fr (.loc n), x1, .fr (.str (dots w ps)), .fr z, x4] (S.set n o) = .ok (.nx [.fr (.loc n), x1, .fr (.str (dots w ps)), .fr z, .fr (.str p1)]) (S.set n o1) := by
      generalize S.set n o = S1 at *
      generalize S.set n o1 = S2 at *
      generalize dots w ps = DD at *
      simp -implicitDefEqProofs [EV.LIM, EV.str_lit, evr, EV.r_for, EV.r_rng1, EV.wbin, EV.wun, EV.wcmp, EV.vw, EV.vwz, EV.wix, EV.wblt, EV.wtru, EV.wisi, EV.frz, EV.mkOwn, L2.atI, L2.ixN, List.map, List.length_cons, List.length_nil, List.replicate, List.getElem?_cons_zero, List.getElem?_cons_succ, List.set_cons_zero, List.set_cons_succ, List.append_nil, List.cons_append, List.nil_append, n_lw_ref_3b_0, e1]
    obtain ⟨p, o3, hpp, hpl, b3, a1⟩ : ∃ (p : Str) (o3 : EV.Ob), Part p ∧ p.length ≤ 41 ∧ IsBag o3 ∧ n_lw_ref_3b_1 (EV.Fn gG gP (d + 4)) [.fr (.loc n), x1, .fr (.str (dots w ps)), .fr z, .fr (.str p1)] (S.set n o1) = .ok (.nx [.fr (.loc n), x1, .fr (.str (dots w ps)), .fr z, .fr (.str p)]) (S.set n o3) := by
      by_cases q : r = 0
      · subst q
        have er := reserved_ex (S := S.set n o2) (d + 3)
        have ea := add_l (a := EV.mLst (EV.mCons (EV.mC (.str "e")) (EV.mCons (EV.mC (.str "q")) (EV.mCons (EV.mC (.str "v")) (EV.mCons (EV.mC (.str "t")) EV.mNil))))) (b := EV.mCall (EV.Fn gG gP (d + 4)) "_law_reserved" EV.mNil []) (σ := [.fr (.loc n), x1, .fr (.str (dots w ps)), .fr z, .fr (.str p1)]) (S := S.set n o2) (S1 := S.set n o2) (S2 := S.set n o2) (x := [("e" : Str), ("q" : Str), ("v" : Str), ("t" : Str)]) (y := resL) rfl er (by decide +kernel)
        obtain ⟨v, o3, hv, b3, e3⟩ := pkS (S := S) (d + 2) (tkW ([("e" : Str), ("q" : Str), ("v" : Str), ("t" : Str)] ++ resL)) (by simp [tkW]) (by rw [tkW_len]; decide +kernel) hn b2
        obtain ⟨p, hp2, rfl⟩ := List.mem_map.mp hv
        obtain ⟨g1, g2⟩ := res_part hp2
        refine ⟨p, o3, g1, g2, b3, ?_⟩
        unfold n_lw_ref_3b_1 n_lw_ref_3b_1t n_lw_ref_3b_1t_0
        generalize S.set n o1 = S1 at *
        generalize S.set n o2 = S2 at *
        generalize S.set n o3 = S3 at *
        generalize dots w ps = DD at *
        generalize tkW ([("e" : Str), ("q" : Str), ("v" : Str), ("t" : Str)] ++ resL) = TW at *
        generalize EV.mBin .Add (EV.mLst (EV.mCons (EV.mC (.str "e")) (EV.mCons (EV.mC (.str "q")) (EV.mCons (EV.mC (.str "v")) (EV.mCons (EV.mC (.str "t")) EV.mNil))))) (EV.mCall (EV.Fn gG gP (d + 4)) "_law_reserved" EV.mNil []) = A at *
        simp -implicitDefEqProofs [EV.LIM, EV.str_lit, evr, EV.r_for, EV.r_rng1, EV.wbin, EV.wun, EV.wcmp, EV.vw, EV.vwz, EV.wix, EV.wblt, EV.wtru, EV.wisi, EV.frz, EV.mkOwn, L2.atI, L2.ixN, List.map, List.length_cons, List.length_nil, List.replicate, List.getElem?_cons_zero, List.getElem?_cons_succ, List.set_cons_zero, List.set_cons_succ, List.append_nil, List.cons_append, List.nil_append, e2, e3, ea]
      · refine ⟨p1, o2, hw1.part, hw1.len, b2, ?_⟩
        generalize S.set n o1 = S1 at *
        generalize S.set n o2 = S2 at *
        generalize dots w ps = DD at *
        simp -implicitDefEqProofs [EV.LIM, EV.str_lit, evr, EV.r_for, EV.r_rng1, EV.wbin, EV.wun, EV.wcmp, EV.vw, EV.vwz, EV.wix, EV.wblt, EV.wtru, EV.wisi, EV.frz, EV.mkOwn, L2.atI, L2.ixN, List.map, List.length_cons, List.length_nil, List.replicate, List.getElem?_cons_zero, List.getElem?_cons_succ, List.set_cons_zero, List.set_cons_succ, List.append_nil, List.cons_append, List.nil_append, n_lw_ref_3b_1, n_lw_ref_3b_1t, n_lw_ref_3b_1t_0, e2, q]
    have hlen : (dots w (ps ++ [p])).length ≤ (dots w ps).length + 42 := by
      rw [dots_snoc, app_len, app_len, hd1]
      omega
    have a2 : n_lw_ref_3b_2 (EV.Fn gG gP (d + 4)) [.fr (.loc n), x1, .fr (.str (dots w ps)), .fr z, .fr (.str p)] (S.set n o3) = .ok (.nx [.fr (.loc n), x1, .fr (.str (dots w (ps ++ [p]))), .fr z, .fr (.str p)]) (S.set n o3) := by
      have ea := add_s (add_s (a := EV.mVarB 2) (b := EV.mC (.str ".")) (σ := [.fr (.loc n), x1, .fr (.str (dots w ps)), .fr z, .fr (.str p)]) (S := S.set n o3) (x := dots w ps) (y := ".") rfl rfl (by omega)) (b := EV.mVarB 4) (y := p) rfl (by rw [app_len]; omega)
      rw [← dots_snoc] at ea
      unfold n_lw_ref_3b_2
      rw [EV.r_setO, ea]
      rfl
    obtain ⟨ps', o4, y3, y4, g1, g2, g3, e4⟩ := ref_loop d hn x1 w ws (ps ++ [p]) o3 (.fr z) (.fr (.str p)) (fun x hx => by
      rcases List.mem_append.mp hx with h | h
      · exact hp x h
      · rw [List.mem_singleton] at h; subst h; exact hpp) (by omega) b3
    refine ⟨ps', o4, y3, y4, g1, g2, g3, ?_⟩
    rw [EV.r_forC, EV.r_bname, EV.r_ok, EV.r_forG]
    have hbd : n_lw_ref_3b (EV.Fn gG gP (d + 4)) [.fr (.loc n), x1, .fr (.str (dots w ps)), .fr z, x4] (S.set n o) = .ok (.nx [.fr (.loc n), x1, .fr (.str (dots w (ps ++ [p]))), .fr z, .fr (.str p)]) (S.set n o3) := by
      unfold n_lw_ref_3b
      rw [seq_step a0, seq_step a1, a2]
    refine (congrArg (fun r => EV.Res.bind r _) hbd).trans ?_
    rw [EV.r_ok, EV.r_forHn]
    exact e4
theorem ref_ex (d : Nat) (hn : n < S.length) (hb : IsBag o) : ∃ (t : Str) (o' : EV.Ob), RefOk t ∧ IsBag o' ∧ EV.Fn gG gP (d + 5) "_law_ref" [.loc n] (S.set n o) = .ok (.str t) (S.set n o') := by
  obtain ⟨r, o1, r1, r2, b1, e1⟩ := tkS (S := S) (d + 3) 8 (by decide) (by decide) hn hb
  have a0 : n_lw_ref_0 (EV.Fn gG gP (d + 4)) [.fr (.loc n), .emp, .emp, .emp, .emp] (S.set n o) = .ok (.nx [.fr (.loc n), .fr (.int r), .emp, .emp, .emp]) (S.set n o1) := by
    generalize S.set n o = S1 at *
    generalize S.set n o1 = S2 at *
    simp -implicitDefEqProofs [EV.LIM, EV.str_lit, evr, EV.r_for, EV.r_rng1, EV.wbin, EV.wun, EV.wcmp, EV.vw, EV.vwz, EV.wix, EV.wblt, EV.wtru, EV.wisi, EV.frz, EV.mkOwn, L2.atI, L2.ixN, List.map, List.length_cons, List.length_nil, List.replicate, List.getElem?_cons_zero, List.getElem?_cons_succ, List.set_cons_zero, List.set_cons_succ, List.append_nil, List.cons_append, List.nil_append, n_lw_ref_0, e1]
  by_cases q : r = 0
  · subst q
    obtain ⟨v, o2, hv, b2, e2⟩ := pkS (S := S) (d + 2) [.str "first", .str "powered"] (by simp) (by simp) hn b1
    obtain ⟨t, rfl, ht⟩ : ∃ t : Str, v = .str t ∧ (t = "first" ∨ t = "powered") := by
      simp only [List.mem_cons, List.not_mem_nil, or_false] at hv
      rcases hv with rfl | rfl
      · exact ⟨_, rfl, .inl rfl⟩
      · exact ⟨_, rfl, .inr rfl⟩
    refine ⟨t, o2, fst_ok t ht, b2, ?_⟩
    rw [fe_lw_ref, if_pos (by rfl), ms_lw_ref, EV.r_run]
    show (EV.sSeq _ _ [.fr (.loc n), .emp, .emp, .emp, .emp] _).bind EV.runF = _
    rw [seq_step a0]
    generalize S.set n o1 = S1 at *
    generalize S.set n o2 = S2 at *
    simp -implicitDefEqProofs [EV.LIM, EV.str_lit, evr, EV.r_for, EV.r_rng1, EV.wbin, EV.wun, EV.wcmp, EV.vw, EV.vwz, EV.wix, EV.wblt, EV.wtru, EV.wisi, EV.frz, EV.mkOwn, L2.atI, L2.ixN, List.map, List.length_cons, List.length_nil, List.replicate, List.getElem?_cons_zero, List.getElem?_cons_succ, List.set_cons_zero, List.set_cons_succ, List.append_nil, List.cons_append, List.nil_append, n_lw_ref_1, n_lw_ref_1t, n_lw_ref_1t_0, e2]
  · obtain ⟨w, o2, hw, hwl, b2, e2⟩ := name_ex (S := S) d hn b1
    obtain ⟨k, hk, hk3⟩ : ∃ k : Nat, (max 0 (r - 4) : Int) = k ∧ k ≤ 3 := ⟨(max 0 (r - 4)).toNat, by omega, by omega⟩
    obtain ⟨ps, o3, y3, y4, g1, g2, b3, e3⟩ := ref_loop (S := S) d hn (.fr (.int r)) w ((List.range k).map fun i => .int (i : Nat)) [] o2 .emp .emp (fun p hp => (by cases hp)) (by rw [dots_one, List.length_map, List.length_range]; omega) b2
    rw [dots_one] at e3
    refine ⟨dots w ps, o3, dots_ok hw g1 g2, b3, ?_⟩
    rw [fe_lw_ref, if_pos (by rfl), ms_lw_ref, EV.r_run]
    show (EV.sSeq _ _ [.fr (.loc n), .emp, .emp, .emp, .emp] _).bind EV.runF = _
    have a1 : n_lw_ref_1 (EV.Fn gG gP (d + 4)) [.fr (.loc n), .fr (.int r), .emp, .emp, .emp] (S.set n o1) = .ok (.nx [.fr (.loc n), .fr (.int r), .emp, .emp, .emp]) (S.set n o1) := by
      generalize S.set n o1 = S1 at *
      simp -implicitDefEqProofs [EV.LIM, EV.str_lit, evr, EV.r_for, EV.r_rng1, EV.wbin, EV.wun, EV.wcmp, EV.vw, EV.vwz, EV.wix, EV.wblt, EV.wtru, EV.wisi, EV.frz, EV.mkOwn, L2.atI, L2.ixN, List.map, List.length_cons, List.length_nil, List.replicate, List.getElem?_cons_zero, List.getElem?_cons_succ, List.set_cons_zero, List.set_cons_succ, List.append_nil, List.cons_append, List.nil_append, n_lw_ref_1, q]
    have a2 : n_lw_ref_2 (EV.Fn gG gP (d + 4)) [.fr (.loc n), .fr (.int r), .emp, .emp, .emp] (S.set n o1) = .ok (.nx [.fr (.loc n), .fr (.int r), .fr (.str w), .emp, .emp]) (S.set n o2) := by
      generalize S.set n o1 = S1 at *
      generalize S.set n o2 = S2 at *
      simp -implicitDefEqProofs [EV.LIM, EV.str_lit, evr, EV.r_for, EV.r_rng1, EV.wbin, EV.wun, EV.wcmp, EV.vw, EV.vwz, EV.wix, EV.wblt, EV.wtru, EV.wisi, EV.frz, EV.mkOwn, L2.atI, L2.ixN, List.map, List.length_cons, List.length_nil, List.replicate, List.getElem?_cons_zero, List.getElem?_cons_succ, List.set_cons_zero, List.set_cons_succ, List.append_nil, List.cons_append, List.nil_append, n_lw_ref_2, e2]
    have a3 : n_lw_ref_3 (EV.Fn gG gP (d + 4)) [.fr (.loc n), .fr (.int r), .fr (.str w), .emp, .emp] (S.set n o2) = .ok (.nx [.fr (.loc n), .fr (.int r), .fr (.str (dots w ps)), y3, y4]) (S.set n o3) := by
      have ec : EV.mBlt .max (EV.mCons (EV.mC (.int 0)) (EV.mCons (EV.mBin .Sub (EV.mVarB 1) (EV.mC (.int 4))) EV.mNil)) [.fr (.loc n), .fr (.int r), .fr (.str w), .emp, .emp] (S.set n o2) = .ok (.int k) (S.set n o2) := by
        rw [← hk]
        generalize S.set n o2 = S2 at *
        simp -implicitDefEqProofs [EV.LIM, EV.str_lit, evr, EV.r_for, EV.r_rng1, EV.wbin, EV.wun, EV.wcmp, EV.vw, EV.vwz, EV.wix, EV.wblt, EV.wtru, EV.wisi, EV.frz, EV.mkOwn, L2.atI, L2.ixN, List.map, List.length_cons, List.length_nil, List.replicate, List.getElem?_cons_zero, List.getElem?_cons_succ, List.set_cons_zero, List.set_cons_succ, List.append_nil, List.cons_append, List.nil_append]
      unfold n_lw_ref_3
      rw [EV.r_for, EV.r_rng1, ec, EV.r_ok, EV.r_rng1F (in62_le (by omega) (by omega)), Int.toNat_natCast, rngN, EV.r_ok, EV.r_forF]
      exact e3
    rw [seq_step a0, seq_step a1, seq_step a2, seq_step a3]
    rfl
theorem number_ex (d : Nat) (hn : n < S.length) (hb : IsBag o) : ∃ (k : Nat) (o' : EV.Ob), k ≤ 999999 ∧ IsBag o' ∧ EV.Fn gG gP (d + 3) "_law_number" [.loc n] (S.set n o) = .ok (.int k) (S.set n o') := by
  obtain ⟨r, o1, r1, r2, b1, e1⟩ := tkS (S := S) (d + 1) 1000000 (by decide) (by decide) hn hb
  obtain ⟨v, o2, hv, b2, e2⟩ := pkS (S := S) d [.int 0, .int 1, .int 10, .int 999, .int 1000, .int 100000, .int 999999, .int r] (by simp) (by simp) hn b1
  obtain ⟨k, rfl, hk⟩ : ∃ k : Nat, v = .int k ∧ k ≤ 999999 := by
    simp only [List.mem_cons, List.not_mem_nil, or_false] at hv
    rcases hv with rfl | rfl | rfl | rfl | rfl | rfl | rfl | rfl
    · exact ⟨0, rfl, by omega⟩
    · exact ⟨1, rfl, by omega⟩
    · exact ⟨10, rfl, by omega⟩
    · exact ⟨999, rfl, by omega⟩
    · exact ⟨1000, rfl, by omega⟩
    · exact ⟨100000, rfl, by omega⟩
    · exact ⟨999999, rfl, by omega⟩
    · exact ⟨r.toNat, by rw [show ((r.toNat : Nat) : Int) = r by omega], by omega⟩
  refine ⟨k, o2, hk, b2, ?_⟩
  rw [fe_lw_number, if_pos (by rfl), ms_lw_number, EV.r_run]
  show (n_lw_number_0 _ [.fr (.loc n)] _).bind EV.runF = _
  generalize S.set n o = S0 at *
  generalize S.set n o1 = S1 at *
  generalize S.set n o2 = S2 at *
  simp -implicitDefEqProofs [EV.LIM, EV.str_lit, evr, EV.r_for, EV.r_rng1, EV.wbin, EV.wun, EV.wcmp, EV.vw, EV.vwz, EV.wix, EV.wblt, EV.wtru, EV.wisi, EV.frz, EV.mkOwn, L2.atI, L2.ixN, List.map, List.length_cons, List.length_nil, List.replicate, List.getElem?_cons_zero, List.getElem?_cons_succ, List.set_cons_zero, List.set_cons_succ, List.append_nil, List.cons_append, List.nil_append, n_lw_number_0, e1, e2]
def IsLeaf (e : Ex) : Prop := (∃ k, e = .num k ∧ k ≤ 999999) ∨ ∃ t, e = .ref t ∧ RefOk t
theorem side_ex (d : Nat) (hn : n < S.length) (hb : IsBag o) : ∃ (e : Ex) (o' : EV.Ob), IsLeaf e ∧ IsBag o' ∧ EV.Fn gG gP (d + 6) "_law_side" [.loc n] (S.set n o) = .ok (exW e) (S.set n o') := by
  obtain ⟨r, o1, r1, r2, b1, e1⟩ := tkS (S := S) (d + 4) 3 (by decide) (by decide) hn hb
  by_cases q : r = 0
  · subst q
    obtain ⟨k, o2, hk, b2, e2⟩ := number_ex (S := S) (d + 2) hn b1
    refine ⟨.num k, o2, .inl ⟨k, rfl, hk⟩, b2, ?_⟩
    rw [fe_lw_side, if_pos (by rfl), ms_lw_side, EV.r_run]
    show (EV.sSeq _ _ [.fr (.loc n)] _).bind EV.runF = .ok (.tup [.str "num", .int k]) _
    generalize S.set n o = S0 at *
    generalize S.set n o1 = S1 at *
    generalize S.set n o2 = S2 at *
    simp -implicitDefEqProofs [EV.LIM, EV.str_lit, evr, EV.r_for, EV.r_rng1, EV.wbin, EV.wun, EV.wcmp, EV.vw, EV.vwz, EV.wix, EV.wblt, EV.wtru, EV.wisi, EV.frz, EV.mkOwn, L2.atI, L2.ixN, List.map, List.length_cons, List.length_nil, List.replicate, List.getElem?_cons_zero, List.getElem?_cons_succ, List.set_cons_zero, List.set_cons_succ, List.append_nil, List.cons_append, List.nil_append, n_lw_side_0, n_lw_side_0t, n_lw_side_0t_0, e1, e2]
  · obtain ⟨t, o2, ht, b2, e2⟩ := ref_ex (S := S) d hn b1
    refine ⟨.ref t, o2, .inr ⟨t, rfl, ht⟩, b2, ?_⟩
    rw [fe_lw_side, if_pos (by rfl), ms_lw_side, EV.r_run]
    show (EV.sSeq _ _ [.fr (.loc n)] _).bind EV.runF = .ok (.tup [.str "ref", .str t]) _
    generalize S.set n o = S0 at *
    generalize S.set n o1 = S1 at *
    generalize S.set n o2 = S2 at *
    simp -implicitDefEqProofs [EV.LIM, EV.str_lit, evr, EV.r_for, EV.r_rng1, EV.wbin, EV.wun, EV.wcmp, EV.vw, EV.vwz, EV.wix, EV.wblt, EV.wtru, EV.wisi, EV.frz, EV.mkOwn, L2.atI, L2.ixN, List.map, List.length_cons, List.length_nil, List.replicate, List.getElem?_cons_zero, List.getElem?_cons_succ, List.set_cons_zero, List.set_cons_succ, List.append_nil, List.cons_append, List.nil_append, n_lw_side_0, n_lw_side_0t, n_lw_side_0t_0, n_lw_side_1, e1, e2, q]
end
open TL
def n_lw_expr_0t_0 (F : EV.Fenv) : EV.M EV.Fl := (EV.sFrz [0] (EV.sRet (EV.mCall F "_law_side" (EV.mCons (EV.mVar 0) EV.mNil) [])))
def n_lw_expr_0t (F : EV.Fenv) : EV.M EV.Fl := (n_lw_expr_0t_0 F)
def n_lw_expr_0 (F : EV.Fenv) : EV.M EV.Fl := (EV.sFrz [0] (EV.sIf (EV.mOr (EV.mCmpT .Eq (EV.mIx (EV.mVarB 1) (EV.mC (.int 0))) (EV.mC (.int 0))) (EV.mCmpT .Eq (EV.mCall F "_law_take" (EV.mCons (EV.mVar 0) (EV.mCons (EV.mC (.int 3)) EV.mNil)) []) (EV.mC (.int 0)))) (n_lw_expr_0t F) EV.sNext))
def n_lw_expr_1 (F : EV.Fenv) : EV.M EV.Fl := (EV.sPut 1 (EV.mVarB 1) (EV.mC (.int 0)) (EV.mBin .Sub (EV.mIx (EV.mVarB 1) (EV.mC (.int 0))) (EV.mC (.int 1))))
def n_lw_expr_2 (F : EV.Fenv) : EV.M EV.Fl := (EV.sFrz [0] (EV.sSet 2 (EV.mCall F "_law_pick" (EV.mCons (EV.mVar 0) (EV.mCons (EV.mLst (EV.mCons (EV.mC (.str "add")) (EV.mCons (EV.mC (.str "sub")) (EV.mCons (EV.mC (.str "mul")) (EV.mCons (EV.mC (.str "min")) (EV.mCons (EV.mC (.str "max")) (EV.mCons (EV.mC (.str "sub")) EV.mNil))))))) EV.mNil)) [])))
def n_lw_expr_3 (F : EV.Fenv) : EV.M EV.Fl := (EV.sFrz [0, 1] (EV.sSet 3 (EV.mCall F "_law_expr" (EV.mCons (EV.mVar 0) (EV.mCons (EV.mVar 1) EV.mNil)) [])))
def n_lw_expr_4 (F : EV.Fenv) : EV.M EV.Fl := (EV.sFrz [0, 1] (EV.sSet 4 (EV.mCall F "_law_expr" (EV.mCons (EV.mVar 0) (EV.mCons (EV.mVar 1) EV.mNil)) [])))
def n_lw_expr_5 (F : EV.Fenv) : EV.M EV.Fl := (EV.sFrz [2, 3, 4] (EV.sRet (EV.mTup (EV.mCons (EV.mVar 2) (EV.mCons (EV.mVar 3) (EV.mCons (EV.mVar 4) EV.mNil))))))
theorem ms_lw_expr (F : EV.Fenv) : m_lw_expr F = (EV.sSeq (n_lw_expr_0 F) (EV.sSeq (n_lw_expr_1 F) (EV.sSeq (n_lw_expr_2 F) (EV.sSeq (n_lw_expr_3 F) (EV.sSeq (n_lw_expr_4 F) (n_lw_expr_5 F)))))) := by kernel_rfl
/-! ### drawn expressions -/
section
variable {S : EV.Sto} {gB cL : Nat}
theorem leaf_ok {e : Ex} (h : IsLeaf e) : ExOk e ∧ NbOk e ∧ e.sz = 1 ∧ e.ht = 0 ∧ e.lv = 0 ∧ nb e = 0 := by
  rcases h with ⟨k, rfl, hk⟩ | ⟨t, rfl, ht⟩
  · exact ⟨hk, trivial, rfl, rfl, rfl, by simp [nb]⟩
  · exact ⟨ht, trivial, rfl, rfl, rfl, by simp [nb]⟩
theorem nb_sz : ∀ e : Ex, nb e + 1 ≤ e.sz
  | .num _ => by simp [nb, Ex.sz]
  | .ref _ => by simp [nb, Ex.sz]
  | .op k a b => by
    have := nb_sz a
    have := sz_pos b
    have := sz_pos a
    show nb (.op k a b) + 1 ≤ a.sz + b.sz
    cases hf : k.fn with
    | true => rw [nb, if_pos hf]; omega
    | false => rw [nb_ar hf]; split <;> omega
theorem nbok_sz : ∀ e : Ex, e.sz ≤ 1000 → NbOk e
  | .num _, _ => trivial
  | .ref _, _ => trivial
  | .op k a b, h => by
    have h' : a.sz + b.sz ≤ 1000 := h
    have := nb_sz (.op k a b)
    exact ⟨by omega, nbok_sz a (by omega), nbok_sz b (by omega)⟩
theorem tsS (hb : gB < S.length) (hn : gB ≠ cL) (o : EV.Ob) (x : Nat) (m : Int) (d : Nat) (hm : 0 < m) (hm2 : m < 1073741824) (hbo : IsBag o) : ∃ r o', 0 ≤ r ∧ r < m ∧ IsBag o' ∧ EV.Fn gG gP (d + 1) "_law_take" [.loc gB, .int m] (TS S gB cL o x) = .ok (.int r) (TS S gB cL o' x) := by
  obtain ⟨r, o', h1, h2, h3, h4⟩ := take_ex d (S := TS S gB cL o x) (n := gB) (ts_b hb hn) hbo hm hm2
  rw [ts_sb hn] at h4
  exact ⟨r, o', h1, h2, h3, h4⟩
theorem tsP (hb : gB < S.length) (hn : gB ≠ cL) (o : EV.Ob) (x : Nat) (ws : List EV.W) (d : Nat) (hw : ws ≠ []) (hl : ws.length < 1073741824) (hbo : IsBag o) : ∃ w o', w ∈ ws ∧ IsBag o' ∧ EV.Fn gG gP (d + 2) "_law_pick" [.loc gB, .lst ws] (TS S gB cL o x) = .ok w (TS S gB cL o' x) := by
  obtain ⟨r, o', h1, h2, h3⟩ := pick_ex d (S := TS S gB cL o x) (n := gB) (ts_b hb hn) hbo hw hl
  rw [ts_sb hn] at h3
  exact ⟨r, o', h1, h2, h3⟩
theorem ts_len (o : EV.Ob) (x : Nat) : (TS S gB cL o x).length = S.length := by unfold TS; simp
theorem tsSide (hb : gB < S.length) (hn : gB ≠ cL) (o : EV.Ob) (x : Nat) (d : Nat) (hbo : IsBag o) : ∃ (e : Ex) (o' : EV.Ob), IsLeaf e ∧ IsBag o' ∧ EV.Fn gG gP (d + 6) "_law_side" [.loc gB] (TS S gB cL o x) = .ok (exW e) (TS S gB cL o' x) := by
  obtain ⟨e, o', h1, h2, h3⟩ := side_ex (S := TS S gB cL o x) (n := gB) (o := o) d (by rw [ts_len]; exact hb) hbo
  rw [ts_sb hn, ts_sb hn] at h3
  exact ⟨e, o', h1, h2, h3⟩
theorem expr_ex (hb : gB < S.length) (hc : cL < S.length) (hn : gB ≠ cL) : ∀ (N d x : Nat) (o : EV.Ob), x ≤ N → IsBag o → ∃ (e : Ex) (o' : EV.Ob) (x' : Nat), ExOk e ∧ x' ≤ x ∧ e.sz + x' ≤ x + 1 ∧ e.ht + x' ≤ x ∧ IsBag o' ∧
    EV.Fn gG gP (d + N + 7) "_law_expr" [.loc gB, .loc cL] (TS S gB cL o x) = .ok (exW e) (TS S gB cL o' x') := by
  intro N
  induction N with
  | zero =>
    intro d x o hx hbo
    obtain rfl : x = 0 := by omega
    obtain ⟨e, o1, he, b1, e1⟩ := tsSide (S := S) (cL := cL) hb hn o 0 d hbo
    obtain ⟨g1, _, g3, g4, _, _⟩ := leaf_ok he
    refine ⟨e, o1, 0, g1, by omega, by omega, by omega, b1, ?_⟩
    have gc := ts_c (S := S) (gB := gB) (o := o) (x := 0) hc
    rw [fe_lw_expr, if_pos (by rfl), ms_lw_expr, EV.r_run]
    show (EV.sSeq _ _ [.fr (.loc gB), .fr (.loc cL), .emp, .emp, .emp] _).bind EV.runF = _
    have z0 : ((0 : Nat) : Int) = 0 := rfl
    rw [z0] at gc
    rw [Nat.add_zero]
    generalize TS S gB cL o 0 = T0 at *
    generalize TS S gB cL o1 0 = T1 at *
    generalize exW e = WE at *
    simp -implicitDefEqProofs [EV.LIM, EV.str_lit, evr, EV.r_for, EV.r_rng1, EV.wbin, EV.wun, EV.wcmp, EV.vw, EV.vwz, EV.wix, EV.wblt, EV.wtru, EV.wisi, EV.frz, EV.mkOwn, L2.atI, L2.ixN, List.map, List.length_cons, List.length_nil, List.replicate, List.getElem?_cons_zero, List.getElem?_cons_succ, List.set_cons_zero, List.set_cons_succ, List.append_nil, List.cons_append, List.nil_append, n_lw_expr_0, n_lw_expr_0t, n_lw_expr_0t_0, gc, e1]
  | succ N ih =>
    intro d x o hx hbo
    have gc := ts_c (S := S) (gB := gB) (o := o) (x := x) hc
    by_cases hx0 : x = 0
    · have := ih (d + 1) x o (by omega) hbo
      rw [show d + 1 + N + 7 = d + (N + 1) + 7 by omega] at this
      exact this
    · obtain ⟨r, o1, r1, r2, b1, e1⟩ := tsS (S := S) (cL := cL) hb hn o x 3 (d + N + 6) (by decide) (by decide) hbo
      have hxi : ¬ ((x : Int) = 0) := by omega
      by_cases q : r = 0
      · subst q
        obtain ⟨e, o2, he, b2, e2⟩ := tsSide (S := S) (cL := cL) hb hn o1 x (d + N + 1) b1
        obtain ⟨g1, _, g3, g4, _, _⟩ := leaf_ok he
        refine ⟨e, o2, x, g1, by omega, by omega, by omega, b2, ?_⟩
        rw [show d + (N + 1) + 7 = (d + N + 7) + 1 by omega, fe_lw_expr, if_pos (by rfl), ms_lw_expr, EV.r_run]
        show (EV.sSeq _ _ [.fr (.loc gB), .fr (.loc cL), .emp, .emp, .emp] _).bind EV.runF = _
        generalize TS S gB cL o x = T0 at *
        generalize TS S gB cL o1 x = T1 at *
        generalize TS S gB cL o2 x = T2 at *
        generalize exW e = WE at *
        simp -implicitDefEqProofs [EV.LIM, EV.str_lit, evr, EV.r_for, EV.r_rng1, EV.wbin, EV.wun, EV.wcmp, EV.vw, EV.vwz, EV.wix, EV.wblt, EV.wtru, EV.wisi, EV.frz, EV.mkOwn, L2.atI, L2.ixN, List.map, List.length_cons, List.length_nil, List.replicate, List.getElem?_cons_zero, List.getElem?_cons_succ, List.set_cons_zero, List.set_cons_succ, List.append_nil, List.cons_append, List.nil_append, n_lw_expr_0, n_lw_expr_0t, n_lw_expr_0t_0, gc, hxi, e1, e2, hx0]
      · have gc1 := ts_c (S := S) (gB := gB) (o := o1) (x := x) hc
        have sc := ts_sc (S := S) (gB := gB) (cL := cL) (o := o1) (x := x) (x - 1)
        obtain ⟨v, o2, hv, b2, e2⟩ := tsP (S := S) (cL := cL) hb hn o1 (x - 1) [.str "add", .str "sub", .str "mul", .str "min", .str "max", .str "sub"] (d + N + 5) (by simp) (by simp) b1
        obtain ⟨k, rfl⟩ : ∃ k : K5, v = .str k.nm := by
          simp only [List.mem_cons, List.not_mem_nil, or_false] at hv
          rcases hv with rfl | rfl | rfl | rfl | rfl | rfl
          · exact ⟨.add, rfl⟩
          · exact ⟨.sub, rfl⟩
          · exact ⟨.mul, rfl⟩
          · exact ⟨.mn, rfl⟩
          · exact ⟨.mx, rfl⟩
          · exact ⟨.sub, rfl⟩
        obtain ⟨a, o3, x3, ea, la, sa, ta, b3, e3⟩ := ih d (x - 1) o2 (by omega) b2
        obtain ⟨b, o4, x4, eb, lb, sb, tb, b4, e4⟩ := ih d x3 o3 (by omega) b3
        refine ⟨.op k a b, o4, x4, ⟨ea, eb⟩, by omega, by show a.sz + b.sz + x4 ≤ x + 1; omega, by show max a.ht b.ht + 1 + x4 ≤ x; omega, b4, ?_⟩
        have hxm : ((x - 1 : Nat) : Int) = (x : Int) - 1 := by omega
        rw [show d + (N + 1) + 7 = (d + N + 7) + 1 by omega, fe_lw_expr, if_pos (by rfl), ms_lw_expr, EV.r_run]
        show (EV.sSeq _ _ [.fr (.loc gB), .fr (.loc cL), .emp, .emp, .emp] _).bind EV.runF = .ok (.tup [.str k.nm, exW a, exW b]) _
        rw [hxm] at sc
        generalize TS S gB cL o x = T0 at *
        generalize TS S gB cL o1 x = T1 at *
        generalize TS S gB cL o1 (x - 1) = T2 at *
        generalize TS S gB cL o2 (x - 1) = T3 at *
        generalize TS S gB cL o3 x3 = T4 at *
        generalize TS S gB cL o4 x4 = T5 at *
        generalize exW a = WA at *
        generalize exW b = WB at *
        generalize k.nm = NM at *
        have a0 : n_lw_expr_0 (EV.Fn gG gP (d + N + 7)) [.fr (.loc gB), .fr (.loc cL), .emp, .emp, .emp] T0 = .ok (.nx [.fr (.loc gB), .fr (.loc cL), .emp, .emp, .emp]) T1 := by
          simp -implicitDefEqProofs [EV.LIM, EV.str_lit, evr, EV.r_for, EV.r_rng1, EV.wbin, EV.wun, EV.wcmp, EV.vw, EV.vwz, EV.wix, EV.wblt, EV.wtru, EV.wisi, EV.frz, EV.mkOwn, L2.atI, L2.ixN, List.map, List.length_cons, List.length_nil, List.replicate, List.getElem?_cons_zero, List.getElem?_cons_succ, List.set_cons_zero, List.set_cons_succ, List.append_nil, List.cons_append, List.nil_append, n_lw_expr_0, gc, hxi, e1, q, hx0]
        have a1 : n_lw_expr_1 (EV.Fn gG gP (d + N + 7)) [.fr (.loc gB), .fr (.loc cL), .emp, .emp, .emp] T1 = .ok (.nx [.fr (.loc gB), .fr (.loc cL), .emp, .emp, .emp]) T2 := by
          simp -implicitDefEqProofs [EV.LIM, EV.str_lit, evr, EV.r_for, EV.r_rng1, EV.wbin, EV.wun, EV.wcmp, EV.vw, EV.vwz, EV.wix, EV.wblt, EV.wtru, EV.wisi, EV.frz, EV.mkOwn, L2.atI, L2.ixN, List.map, List.length_cons, List.length_nil, List.replicate, List.getElem?_cons_zero, List.getElem?_cons_succ, List.set_cons_zero, List.set_cons_succ, List.append_nil, List.cons_append, List.nil_append, n_lw_expr_1, gc1, sc]
        have a2 : n_lw_expr_2 (EV.Fn gG gP (d + N + 7)) [.fr (.loc gB), .fr (.loc cL), .emp, .emp, .emp] T2 = .ok (.nx [.fr (.loc gB), .fr (.loc cL), .fr (.str NM), .emp, .emp]) T3 := by
          simp -implicitDefEqProofs [EV.LIM, EV.str_lit, evr, EV.r_for, EV.r_rng1, EV.wbin, EV.wun, EV.wcmp, EV.vw, EV.vwz, EV.wix, EV.wblt, EV.wtru, EV.wisi, EV.frz, EV.mkOwn, L2.atI, L2.ixN, List.map, List.length_cons, List.length_nil, List.replicate, List.getElem?_cons_zero, List.getElem?_cons_succ, List.set_cons_zero, List.set_cons_succ, List.append_nil, List.cons_append, List.nil_append, n_lw_expr_2, e2]
        have a3 : n_lw_expr_3 (EV.Fn gG gP (d + N + 7)) [.fr (.loc gB), .fr (.loc cL), .fr (.str NM), .emp, .emp] T3 = .ok (.nx [.fr (.loc gB), .fr (.loc cL), .fr (.str NM), .fr WA, .emp]) T4 := by
          simp -implicitDefEqProofs [EV.LIM, EV.str_lit, evr, EV.r_for, EV.r_rng1, EV.wbin, EV.wun, EV.wcmp, EV.vw, EV.vwz, EV.wix, EV.wblt, EV.wtru, EV.wisi, EV.frz, EV.mkOwn, L2.atI, L2.ixN, List.map, List.length_cons, List.length_nil, List.replicate, List.getElem?_cons_zero, List.getElem?_cons_succ, List.set_cons_zero, List.set_cons_succ, List.append_nil, List.cons_append, List.nil_append, n_lw_expr_3, e3]
        have a4 : n_lw_expr_4 (EV.Fn gG gP (d + N + 7)) [.fr (.loc gB), .fr (.loc cL), .fr (.str NM), .fr WA, .emp] T4 = .ok (.nx [.fr (.loc gB), .fr (.loc cL), .fr (.str NM), .fr WA, .fr WB]) T5 := by
          simp -implicitDefEqProofs [EV.LIM, EV.str_lit, evr, EV.r_for, EV.r_rng1, EV.wbin, EV.wun, EV.wcmp, EV.vw, EV.vwz, EV.wix, EV.wblt, EV.wtru, EV.wisi, EV.frz, EV.mkOwn, L2.atI, L2.ixN, List.map, List.length_cons, List.length_nil, List.replicate, List.getElem?_cons_zero, List.getElem?_cons_succ, List.set_cons_zero, List.set_cons_succ, List.append_nil, List.cons_append, List.nil_append, n_lw_expr_4, e4]
        rw [seq_step a0, seq_step a1, seq_step a2, seq_step a3, seq_step a4]
        simp -implicitDefEqProofs [EV.LIM, EV.str_lit, evr, EV.r_for, EV.r_rng1, EV.wbin, EV.wun, EV.wcmp, EV.vw, EV.vwz, EV.wix, EV.wblt, EV.wtru, EV.wisi, EV.frz, EV.mkOwn, L2.atI, L2.ixN, List.map, List.length_cons, List.length_nil, List.replicate, List.getElem?_cons_zero, List.getElem?_cons_succ, List.set_cons_zero, List.set_cons_succ, List.append_nil, List.cons_append, List.nil_append, n_lw_expr_5]
end
/-! ### blanks between the tokens -/
section
variable {S : EV.Sto} {n : Nat} {o : EV.Ob}
theorem tl_bl (k : Nat) : tl (EV.repS (" " : Str) k) = List.replicate k 32 := by
  rw [rep_tl, show tl (" " : Str) = [32] by decide +kernel]
  induction k with
  | zero => rfl
  | succ n ih => rw [List.replicate_succ, List.flatten_cons, ih, List.replicate_succ]; rfl
theorem mul_bl {a : EV.M EV.W} {σ : EV.Sls} {S S1 : EV.Sto} {k : Nat} (h : a σ S = .ok (.int k) S1) (hk : k ≤ 1000) : EV.mBin .Mult (EV.mC (.str " ")) a σ S = .ok (.str (EV.repS " " k)) S1 := by
  have hw : EV.wbin .Mult (.str " ") (.int (k : Int)) = some (.str (EV.repS " " k)) := by
    unfold EV.wbin
    simp only
    rw [if_pos ⟨by omega, by omega, by decide +kernel⟩, Int.toNat_natCast]
  rw [EV.r_bin, show EV.mC (.str " ") σ S = .ok (.str " ") S from rfl, EV.r_ok, EV.r_binF, h, EV.r_ok, EV.r_binG]
  show EV.olift (EV.wbin .Mult (.str " ") (.int (k : Int))) _ = _
  rw [hw]
  rfl
theorem spread_loop (d : Nat) (hn : n < S.length) (x1 : EV.Sl) : ∀ (ts : List Str) (l : List (Nat × Str)) (t : Str) (o : EV.Ob) (x3 : EV.Sl), (∀ s ∈ ts, s.length ≤ 200) → tl t = lay l → t.length + 203 * ts.length ≤ 900000 → IsBag o → ∃ (l' : List (Nat × Str)) (t' : Str) (o' : EV.Ob) (y3 : EV.Sl), tl t' = lay l' ∧ l'.map (·.2) = l.map (·.2) ++ ts ∧ t'.length ≤ 900000 ∧ IsBag o' ∧
    EV.forL (EV.bName 3) (n_lw_spread_1b (EV.Fn gG gP (d + 2))) (tkW ts) [.fr (.loc n), x1, .fr (.str t), x3] (S.set n o) = .ok (.nx [.fr (.loc n), x1, .fr (.str t'), y3]) (S.set n o')
  | [], l, t, o, x3, hs, ht, hl, hb => ⟨l, t, o, x3, ht, by simp, by simpa using hl, hb, rfl⟩
  | s :: ts, l, t, o, x3, hs, ht, hl, hb => by
    simp only [List.length_cons] at hl
    have hline := line_ge
    have hsl := hs s (List.mem_cons_self ..)
    obtain ⟨v, o1, hv, b1, e1⟩ := pkS (S := S) d [.int 0, .int 0, .int 1, .int 2, .int 3] (by simp) (by simp) hn hb
    obtain ⟨k, rfl, hk⟩ : ∃ k : Nat, v = .int k ∧ k ≤ 3 := by
      simp only [List.mem_cons, List.not_mem_nil, or_false] at hv
      rcases hv with rfl | rfl | rfl | rfl | rfl
      · exact ⟨0, rfl, by omega⟩
      · exact ⟨0, rfl, by omega⟩
      · exact ⟨1, rfl, by omega⟩
      · exact ⟨2, rfl, by omega⟩
      · exact ⟨3, rfl, by omega⟩
    have hr : (EV.repS (" " : Str) k).length = k := by rw [len_tl, tl_bl, List.length_replicate]
    have ec : EV.mCall (EV.Fn gG gP (d + 2)) "_law_pick" (EV.mCons (EV.mVar 0) (EV.mCons (EV.mLst (EV.mCons (EV.mC (.int 0)) (EV.mCons (EV.mC (.int 0)) (EV.mCons (EV.mC (.int 1)) (EV.mCons (EV.mC (.int 2)) (EV.mCons (EV.mC (.int 3)) EV.mNil)))))) EV.mNil)) [] [.fr (.loc n), x1, .fr (.str t), .fr (.str s)] (S.set n o) = .ok (.int k) (S.set n o1) := by
      generalize S.set n o = S0 at *
      generalize S.set n o1 = S1 at *
      simp -implicitDefEqProofs [EV.LIM, EV.str_lit, evr, EV.r_for, EV.r_rng1, EV.wbin, EV.wun, EV.wcmp, EV.vw, EV.vwz, EV.wix, EV.wblt, EV.wtru, EV.wisi, EV.frz, EV.mkOwn, L2.atI, L2.ixN, List.map, List.length_cons, List.length_nil, List.replicate, List.getElem?_cons_zero, List.getElem?_cons_succ, List.set_cons_zero, List.set_cons_succ, List.append_nil, List.cons_append, List.nil_append, e1]
    have ea := add_s (add_s (a := EV.mVarB 2) (σ := [.fr (.loc n), x1, .fr (.str t), .fr (.str s)]) (x := t) rfl (mul_bl ec (by omega)) (by rw [hr]; omega)) (b := EV.mVarB 3) (y := s) rfl (by rw [app_len, hr]; omega)
    have hb1 : n_lw_spread_1b (EV.Fn gG gP (d + 2)) [.fr (.loc n), x1, .fr (.str t), .fr (.str s)] (S.set n o) = .ok (.nx [.fr (.loc n), x1, .fr (.str ((t ++ EV.repS " " k) ++ s)), .fr (.str s)]) (S.set n o1) := by
      unfold n_lw_spread_1b n_lw_spread_1b_0
      rw [EV.r_frz, show EV.frz [.fr (.loc n), x1, .fr (.str t), .fr (.str s)] [0] = [.fr (.loc n), x1, .fr (.str t), .fr (.str s)] from rfl, EV.r_setO, ea]
      rfl
    obtain ⟨l', t', o2, y3, g1, g2, g3, g4, e2⟩ := spread_loop d hn x1 ts (l ++ [(k, s)]) ((t ++ EV.repS " " k) ++ s) o1 (.fr (.str s)) (fun x hx => hs x (List.mem_cons_of_mem _ hx)) (by rw [app_tl, app_tl, lay_app, lay_one, tl_bl, ht, List.append_assoc]) (by rw [app_len, app_len, hr]; omega) b1
    refine ⟨l', t', o2, y3, g1, by rw [g2]; simp, g3, g4, ?_⟩
    show EV.forL _ _ (.str s :: tkW ts) _ _ = _
    rw [EV.r_forC, EV.r_bname, EV.r_ok, EV.r_forG]
    refine (congrArg (fun r => EV.Res.bind r _) hb1).trans ?_
    rw [EV.r_ok, EV.r_forHn]
    exact e2
theorem spread_ex (d : Nat) (hn : n < S.length) {ts : List Str} (hs : ∀ s ∈ ts, s.length ≤ 200) (hl : 203 * ts.length ≤ 900000) (hb : IsBag o) : ∃ (t : Str) (l : List (Nat × Str)) (j : Nat) (o' : EV.Ob), tl t = lay l ++ List.replicate j 32 ∧ l.map (·.2) = ts ∧ t.length ≤ 1000000 ∧ IsBag o' ∧ EV.Fn gG gP (d + 3) "_law_spread" [.loc n, .lst (tkW ts)] (S.set n o) = .ok (.str t) (S.set n o') := by
  have hline := line_ge
  have h0 : ("" : Str).length = 0 := by decide +kernel
  obtain ⟨l, t, o1, y3, g1, g2, g3, b1, e1⟩ := spread_loop (S := S) d hn (.fr (.lst (tkW ts))) ts [] "" o .emp hs (by decide +kernel) (by rw [h0]; omega) hb
  obtain ⟨r, o2, r1, r2, b2, e2⟩ := tkS (S := S) (d + 1) 3 (by decide) (by decide) hn b1
  obtain ⟨j, rfl⟩ : ∃ j : Nat, r = j := ⟨r.toNat, by omega⟩
  have hr : (EV.repS (" " : Str) j).length = j := by rw [len_tl, tl_bl, List.length_replicate]
  refine ⟨t ++ EV.repS " " j, l, j, o2, by rw [app_tl, g1, tl_bl], by rw [g2]; rfl, by rw [app_len, hr]; omega, b2, ?_⟩
  rw [fe_lw_spread, if_pos (by rfl), ms_lw_spread, EV.r_run]
  show (EV.sSeq _ _ [.fr (.loc n), .fr (.lst (tkW ts)), .emp, .emp] _).bind EV.runF = _
  have a0 : n_lw_spread_0 (EV.Fn gG gP (d + 2)) [.fr (.loc n), .fr (.lst (tkW ts)), .emp, .emp] (S.set n o) = .ok (.nx [.fr (.loc n), .fr (.lst (tkW ts)), .fr (.str ""), .emp]) (S.set n o) := rfl
  have a1 : n_lw_spread_1 (EV.Fn gG gP (d + 2)) [.fr (.loc n), .fr (.lst (tkW ts)), .fr (.str ""), .emp] (S.set n o) = .ok (.nx [.fr (.loc n), .fr (.lst (tkW ts)), .fr (.str t), y3]) (S.set n o1) := by
    unfold n_lw_spread_1
    rw [EV.r_frz, show EV.frz [.fr (.loc n), .fr (.lst (tkW ts)), .fr (.str ""), .emp] [1] = [.fr (.loc n), .fr (.lst (tkW ts)), .fr (.str ""), .emp] from rfl, EV.r_for, EV.r_it, show EV.mVar 1 [.fr (.loc n), .fr (.lst (tkW ts)), .fr (.str ""), .emp] (S.set n o) = .ok (.lst (tkW ts)) (S.set n o) from rfl, EV.r_ok, EV.r_itL, EV.r_ok, EV.r_forF]
    exact e1
  have ec : EV.mCall (EV.Fn gG gP (d + 2)) "_law_take" (EV.mCons (EV.mVar 0) (EV.mCons (EV.mC (.int 3)) EV.mNil)) [] [.fr (.loc n), .fr (.lst (tkW ts)), .fr (.str t), y3] (S.set n o1) = .ok (.int j) (S.set n o2) := e2
  have ea := add_s (a := EV.mVarB 2) (σ := [.fr (.loc n), .fr (.lst (tkW ts)), .fr (.str t), y3]) (x := t) rfl (mul_bl ec (by omega)) (by rw [hr]; omega)
  have a2 : n_lw_spread_2 (EV.Fn gG gP (d + 2)) [.fr (.loc n), .fr (.lst (tkW ts)), .fr (.str t), y3] (S.set n o1) = .ok (.rt (.str (t ++ EV.repS " " j))) (S.set n o2) := by
    unfold n_lw_spread_2
    rw [EV.r_frz, show EV.frz [.fr (.loc n), .fr (.lst (tkW ts)), .fr (.str t), y3] [0] = [.fr (.loc n), .fr (.lst (tkW ts)), .fr (.str t), y3] from rfl, EV.r_ret, ea]
    rfl
  rw [seq_step a0, seq_step a1, a2]
  rfl
end
/-! ### general words for comprehensions and loops -/
theorem lc_gen {i : Nat} {t : EV.M Bool} {me : EV.M EV.W} {σ : EV.Sls} {S : EV.Sto} {p : EV.W → Bool} {f : EV.W → EV.W} : ∀ (ws : List EV.W), (∀ w ∈ ws, t (σ.set i (.fr w)) S = .ok (p w) S ∧ (p w = true → me (σ.set i (.fr w)) S = .ok (f w) S)) → EV.lcL (EV.bName i) t me σ ws S = .ok ((ws.filter p).map f) S
  | [], _ => rfl
  | w :: ws, h => by
    have ih := lc_gen ws fun x hx => h x (List.mem_cons_of_mem _ hx)
    obtain ⟨h1, h2⟩ := h w (List.mem_cons_self ..)
    rw [EV.q_lcC, EV.r_bname, EV.r_ok, h1, EV.r_ok]
    by_cases q : p w = true
    · rw [q, if_pos rfl, h2 q, EV.r_ok, ih, List.filter_cons, if_pos q]
      rfl
    · have q' : p w = false := by simpa using q
      rw [q', if_neg (by simp), ih, List.filter_cons, if_neg (by rw [q']; simp)]
theorem lc_all {i : Nat} {me : EV.M EV.W} {σ : EV.Sls} {S : EV.Sto} {f : EV.W → EV.W} (ws : List EV.W) (h : ∀ w ∈ ws, me (σ.set i (.fr w)) S = .ok (f w) S) : EV.lcL (EV.bName i) EV.mYes me σ ws S = .ok (ws.map f) S := by
  have := lc_gen (i := i) (t := EV.mYes) (me := me) (σ := σ) (S := S) (p := fun _ => true) (f := f) ws fun w hw => ⟨rfl, fun _ => h w hw⟩
  rw [this, List.filter_eq_self.mpr (fun _ _ => rfl)]
/-- over a family: the items are named by their numbers -/
theorem lc_idx {α : Type} {i : Nat} {t : EV.M Bool} {me : EV.M EV.W} {σ : EV.Sls} {S : EV.Sto} {wi : α → EV.W} {p : α → Bool} {f : α → EV.W} : ∀ (l : List α), (∀ a ∈ l, t (σ.set i (.fr (wi a))) S = .ok (p a) S ∧ (p a = true → me (σ.set i (.fr (wi a))) S = .ok (f a) S)) → EV.lcL (EV.bName i) t me σ (l.map wi) S = .ok ((l.filter p).map f) S
  | [], _ => rfl
  | a :: l, h => by
    have ih := lc_idx l fun x hx => h x (List.mem_cons_of_mem _ hx)
    obtain ⟨h1, h2⟩ := h a (List.mem_cons_self ..)
    rw [List.map_cons, EV.q_lcC, EV.r_bname, EV.r_ok, h1, EV.r_ok]
    by_cases q : p a = true
    · rw [q, if_pos rfl, h2 q, EV.r_ok, ih, List.filter_cons, if_pos q]
      rfl
    · have q' : p a = false := by simpa using q
      rw [q', if_neg (by simp), ih, List.filter_cons, if_neg (by rw [q']; simp)]
theorem lc_idxA {α : Type} {i : Nat} {me : EV.M EV.W} {σ : EV.Sls} {S : EV.Sto} {wi : α → EV.W} {f : α → EV.W} (l : List α) (h : ∀ a ∈ l, me (σ.set i (.fr (wi a))) S = .ok (f a) S) : EV.lcL (EV.bName i) EV.mYes me σ (l.map wi) S = .ok (l.map f) S := by
  have := lc_idx (i := i) (t := EV.mYes) (me := me) (σ := σ) (S := S) (wi := wi) (p := fun _ => true) (f := f) l fun a ha => ⟨rfl, fun _ => h a ha⟩
  rw [this, List.filter_eq_self.mpr (fun _ _ => rfl)]
theorem rng_nat (n : Nat) : EV.rngW 0 n = (List.range n).map fun i => .int (i : Nat) := by
  unfold EV.rngW
  apply List.map_congr_left
  intro i _
  congr 1
  omega
theorem lc_run {it : EV.M (List EV.W)} {i : Nat} {t : EV.M Bool} {me : EV.M EV.W} {own : List Nat} {σ σ1 : EV.Sls} {S : EV.Sto} {ws vs : List EV.W} (h0 : it σ S = .ok ws S) (hl : ws.length ≤ 10000000) (ho : (own.all fun i => EV.notOw (σ[i]?)) = true) (h1 : EV.wwipe σ own = σ1) (h : EV.lcL (EV.bName i) t me σ1 ws S = .ok vs S) : EV.mLc it (EV.bName i) t me own σ S = .ok (.lst vs) S := by
  rw [EV.r_lc, h0, EV.r_ok, EV.r_lcF, if_pos ⟨hl, ho⟩, h1, h]
  rfl
theorem rng_l {a : EV.M EV.W} {σ : EV.Sls} {S : EV.Sto} {ws : List EV.W} (h : a σ S = .ok (.lst ws) S) (hl : ws.length ≤ 10000000) : EV.mRng1 (EV.mBlt .len (EV.mCons a EV.mNil)) σ S = .ok ((List.range ws.length).map fun i => .int (i : Nat)) S := by
  have e : EV.mBlt .len (EV.mCons a EV.mNil) σ S = .ok (.int ws.length) S := by simp -implicitDefEqProofs [EV.LIM, EV.str_lit, evr, EV.r_for, EV.r_rng1, EV.wbin, EV.wun, EV.wcmp, EV.vw, EV.vwz, EV.wix, EV.wblt, EV.wtru, EV.wisi, EV.frz, EV.mkOwn, L2.atI, L2.ixN, List.map, List.length_cons, List.length_nil, List.replicate, List.getElem?_cons_zero, List.getElem?_cons_succ, List.set_cons_zero, List.set_cons_succ, List.append_nil, List.cons_append, List.nil_append, h]
  have hi : EV.in62 (ws.length : Int) := in62_le (by omega) (by omega)
  rw [EV.r_rng1, e, EV.r_ok, EV.r_rng1F hi, Int.toNat_natCast, rng_nat]
theorem rng_t {a : EV.M EV.W} {σ : EV.Sls} {S : EV.Sto} {ws : List EV.W} (h : a σ S = .ok (.tup ws) S) (hl : ws.length ≤ 10000000) : EV.mRng1 (EV.mBlt .len (EV.mCons a EV.mNil)) σ S = .ok ((List.range ws.length).map fun i => .int (i : Nat)) S := by
  have e : EV.mBlt .len (EV.mCons a EV.mNil) σ S = .ok (.int ws.length) S := by simp -implicitDefEqProofs [EV.LIM, EV.str_lit, evr, EV.r_for, EV.r_rng1, EV.wbin, EV.wun, EV.wcmp, EV.vw, EV.vwz, EV.wix, EV.wblt, EV.wtru, EV.wisi, EV.frz, EV.mkOwn, L2.atI, L2.ixN, List.map, List.length_cons, List.length_nil, List.replicate, List.getElem?_cons_zero, List.getElem?_cons_succ, List.set_cons_zero, List.set_cons_succ, List.append_nil, List.cons_append, List.nil_append, h]
  have hi : EV.in62 (ws.length : Int) := in62_le (by omega) (by omega)
  rw [EV.r_rng1, e, EV.r_ok, EV.r_rng1F hi, Int.toNat_natCast, rng_nat]
theorem rng_i {a : EV.M EV.W} {σ : EV.Sls} {S : EV.Sto} {k : Nat} (h : a σ S = .ok (.int k) S) (hl : k ≤ 10000000) : EV.mRng1 a σ S = .ok ((List.range k).map fun i => .int (i : Nat)) S := by
  have hi : EV.in62 (k : Int) := in62_le (by omega) (by omega)
  rw [EV.r_rng1, h, EV.r_ok, EV.r_rng1F hi, Int.toNat_natCast, rng_nat]
/-- draws: a comprehension whose store changes -/
theorem lc_st {α : Type} {i : Nat} {me : EV.M EV.W} {σ : EV.Sls} {st : EV.Ob → EV.Sto} {P : α → Prop} {f : α → EV.W} (h : ∀ w o, IsBag o → ∃ r o', P r ∧ IsBag o' ∧ me (σ.set i (.fr w)) (st o) = .ok (f r) (st o')) : ∀ (ws : List EV.W) (o : EV.Ob), IsBag o → ∃ (l : List α) (o' : EV.Ob), l.length = ws.length ∧ (∀ x ∈ l, P x) ∧ IsBag o' ∧ EV.lcL (EV.bName i) EV.mYes me σ ws (st o) = .ok (l.map f) (st o')
  | [], o, hb => ⟨[], o, rfl, fun x hx => (by cases hx), hb, rfl⟩
  | w :: ws, o, hb => by
    obtain ⟨r, o1, h1, b1, e1⟩ := h w o hb
    obtain ⟨l, o2, l2, h2, b2, e2⟩ := lc_st h ws o1 b1
    refine ⟨r :: l, o2, by simp [l2], fun x hx => ?_, b2, ?_⟩
    · rcases List.mem_cons.mp hx with rfl | q
      · exact h1
      · exact h2 x q
    · rw [EV.q_lcC, EV.r_bname, EV.r_ok, show EV.mYes (σ.set i (.fr w)) (st o) = .ok true (st o) from rfl, EV.r_ok, if_pos rfl, e1, EV.r_ok, e2]
      rfl
theorem set_same {S : EV.Sto} {n : Nat} {o : EV.Ob} (h : S[n]? = some o) : S.set n o = S := by
  obtain ⟨h1, h2⟩ := List.getElem?_eq_some_iff.mp h
  subst h2
  exact List.set_getElem_self h1
theorem get_last (T : EV.Sto) (x : EV.Ob) : (T ++ [x])[T.length]? = some x := by
  rw [List.getElem?_append_right (Nat.le_refl _), Nat.sub_self]
  rfl
theorem set_lst (T : EV.Sto) (x y : EV.Ob) : (T ++ [x]).set T.length y = T ++ [y] := by
  rw [List.set_append_right _ _ (Nat.le_refl _), Nat.sub_self]
  rfl
open TL
def n_law_0 (F : EV.Fenv) : EV.M EV.Fl := (EV.sSet 1 (EV.mC (.non)))
def n_law_1b_0 (F : EV.Fenv) : EV.M EV.Fl := (EV.sFrz [0, 2] (EV.sSet 3 (EV.mCall F "_law_bag" (EV.mCons (EV.mVar 0) (EV.mCons (EV.mVar 2) EV.mNil)) [])))
def n_law_1b_1 (F : EV.Fenv) : EV.M EV.Fl := (EV.sFrz [3, 3] (EV.sSet 4 (EV.mCall F "_law_expr" (EV.mCons (EV.mVar 3) (EV.mCons (EV.mToLoc (EV.mLst (EV.mCons (EV.mCall F "_law_pick" (EV.mCons (EV.mVar 3) (EV.mCons (EV.mLst (EV.mCons (EV.mC (.int 7)) (EV.mCons (EV.mC (.int 1)) (EV.mCons (EV.mC (.int 7)) (EV.mCons (EV.mC (.int 2)) (EV.mCons (EV.mC (.int 3)) EV.mNil)))))) EV.mNil)) []) EV.mNil))) EV.mNil)) [])))
def n_law_1b_2 (F : EV.Fenv) : EV.M EV.Fl := (EV.sFrz [4] (EV.sSet 5 (EV.mCall F "_law_expr_text" (EV.mCons (EV.mVar 4) EV.mNil) [])))
def n_law_1b_3t_0 (F : EV.Fenv) : EV.M EV.Fl := (EV.sFrz [4, 5] (EV.sSet 1 (EV.mTup (EV.mCons (EV.mVar 4) (EV.mCons (EV.mVar 5) EV.mNil)))))
def n_law_1b_3t (F : EV.Fenv) : EV.M EV.Fl := (n_law_1b_3t_0 F)
def n_law_1b_3 (F : EV.Fenv) : EV.M EV.Fl := (EV.sIf (EV.mCmpT .Eq (EV.mVarB 2) (EV.mC (.int 0))) (n_law_1b_3t F) EV.sNext)
def n_law_1b_4t_0 (F : EV.Fenv) : EV.M EV.Fl := (EV.sRet (EV.mC (.bl false)))
def n_law_1b_4t (F : EV.Fenv) : EV.M EV.Fl := (n_law_1b_4t_0 F)
def n_law_1b_4 (F : EV.Fenv) : EV.M EV.Fl := (EV.sFrz [4, 5] (EV.sIf (EV.mNotT (EV.mTru (EV.mCall F "_law_same" (EV.mCons (EV.mCall F "expression_text" (EV.mCons (EV.mVar 4) EV.mNil) []) (EV.mCons (EV.mVar 5) EV.mNil)) []))) (n_law_1b_4t F) EV.sNext))
def n_law_1b_5t_0 (F : EV.Fenv) : EV.M EV.Fl := (EV.sRet (EV.mC (.bl false)))
def n_law_1b_5t (F : EV.Fenv) : EV.M EV.Fl := (n_law_1b_5t_0 F)
def n_law_1b_5 (F : EV.Fenv) : EV.M EV.Fl := (EV.sFrz [5, 4] (EV.sIf (EV.mNotT (EV.mTru (EV.mCall F "_law_same" (EV.mCons (EV.mCall F "parse_expression" (EV.mCons (EV.mVar 5) EV.mNil) []) (EV.mCons (EV.mVar 4) EV.mNil)) []))) (n_law_1b_5t F) EV.sNext))
def n_law_1b_6 (F : EV.Fenv) : EV.M EV.Fl := (EV.sFrz [3, 3, 4] (EV.sSet 6 (EV.mCall F "_law_spread" (EV.mCons (EV.mVar 3) (EV.mCons (EV.mCall F "_law_tokens" (EV.mCons (EV.mVar 3) (EV.mCons (EV.mVar 4) (EV.mCons (EV.mToLoc (EV.mLst (EV.mCons (EV.mC (.int 5)) EV.mNil))) EV.mNil))) []) EV.mNil)) [])))
def n_law_1b_7t_0 (F : EV.Fenv) : EV.M EV.Fl := (EV.sRet (EV.mC (.bl false)))
def n_law_1b_7t (F : EV.Fenv) : EV.M EV.Fl := (n_law_1b_7t_0 F)
def n_law_1b_7 (F : EV.Fenv) : EV.M EV.Fl := (EV.sFrz [6, 4] (EV.sIf (EV.mNotT (EV.mTru (EV.mCall F "_law_same" (EV.mCons (EV.mCall F "parse_expression" (EV.mCons (EV.mVar 6) EV.mNil) []) (EV.mCons (EV.mVar 4) EV.mNil)) []))) (n_law_1b_7t F) EV.sNext))
def n_law_1b (F : EV.Fenv) : EV.M EV.Fl := (EV.sSeq (n_law_1b_0 F) (EV.sSeq (n_law_1b_1 F) (EV.sSeq (n_law_1b_2 F) (EV.sSeq (n_law_1b_3 F) (EV.sSeq (n_law_1b_4 F) (EV.sSeq (n_law_1b_5 F) (EV.sSeq (n_law_1b_6 F) (n_law_1b_7 F))))))))
def n_law_1 (F : EV.Fenv) : EV.M EV.Fl := (EV.sFor (EV.mRng1 (EV.mC (.int 2))) (EV.bName 2) (n_law_1b F))
def n_law_2 (F : EV.Fenv) : EV.M EV.Fl := (EV.sFrz [0] (EV.sSet 3 (EV.mCall F "_law_bag" (EV.mCons (EV.mVar 0) (EV.mCons (EV.mC (.int 2)) EV.mNil)) [])))
def n_law_3 (F : EV.Fenv) : EV.M EV.Fl := (EV.sFrz [3] (EV.sSet 7 (EV.mCall F "_law_pick" (EV.mCons (EV.mVar 3) (EV.mCons (EV.mLst (EV.mCons (EV.mC (.str " + ")) (EV.mCons (EV.mC (.str " - ")) (EV.mCons (EV.mC (.str " * ")) EV.mNil)))) EV.mNil)) [])))
def n_law_4_c0 (F : EV.Fenv) : EV.M EV.W := (EV.mBlt .str (EV.mCons (EV.mIx (EV.mCall F "_law_side" (EV.mCons (EV.mVar 3) EV.mNil) []) (EV.mC (.int 1))) EV.mNil))
def n_law_4 (F : EV.Fenv) : EV.M EV.Fl := (EV.sFrz [3] (EV.sSetF 8 (EV.mLc (EV.mRng1 (EV.mC (.int 12))) (EV.bName 2) EV.mYes (n_law_4_c0 F) [2])))
def n_law_5 (F : EV.Fenv) : EV.M EV.Fl := (EV.sFrz [3, 3, 3] (EV.sSet 9 (EV.mCall F "_law_pick" (EV.mCons (EV.mVar 3) (EV.mCons (EV.mLst (EV.mCons (EV.mC (.int 9)) (EV.mCons (EV.mC (.int 30)) (EV.mCons (EV.mBin .Add (EV.mC (.int 9)) (EV.mCall F "_law_take" (EV.mCons (EV.mVar 3) (EV.mCons (EV.mC (.int 60)) EV.mNil)) [])) (EV.mCons (EV.mBin .Add (EV.mC (.int 9)) (EV.mCall F "_law_take" (EV.mCons (EV.mVar 3) (EV.mCons (EV.mC (.int 60)) EV.mNil)) [])) (EV.mCons (EV.mC (.int 1200)) EV.mNil)))))) EV.mNil)) [])))
def n_law_6_c0 (F : EV.Fenv) : EV.M EV.W := (EV.mIx (EV.mVarB 8) (EV.mBin .Mod (EV.mBlt .int (EV.mCons (EV.mVarB 2) EV.mNil)) (EV.mC (.int 12))))
def n_law_6 (F : EV.Fenv) : EV.M EV.Fl := (EV.sFrz [9] (EV.sSet 10 (EV.mSm .join (EV.mVarB 7) (EV.mLc (EV.mRng1 (EV.mVarB 9)) (EV.bName 2) EV.mYes (n_law_6_c0 F) [2]))))
def n_law_7t_0 (F : EV.Fenv) : EV.M EV.Fl := (EV.sRet (EV.mC (.bl false)))
def n_law_7t (F : EV.Fenv) : EV.M EV.Fl := (n_law_7t_0 F)
def n_law_7 (F : EV.Fenv) : EV.M EV.Fl := (EV.sFrz [10, 10] (EV.sIf (EV.mNotT (EV.mTru (EV.mCall F "_law_same" (EV.mCons (EV.mCall F "expression_text" (EV.mCons (EV.mCall F "parse_expression" (EV.mCons (EV.mVar 10) EV.mNil) []) EV.mNil) []) (EV.mCons (EV.mVar 10) EV.mNil)) []))) (n_law_7t F) EV.sNext))
def n_law_8 (F : EV.Fenv) : EV.M EV.Fl := (EV.sRet (EV.mCall F "_law_same" (EV.mCons (EV.mCall F "expression_text" (EV.mCons (EV.mIx (EV.mVarB 1) (EV.mC (.int 0))) EV.mNil) []) (EV.mCons (EV.mIx (EV.mVarB 1) (EV.mC (.int 1))) EV.mNil)) []))
theorem ms_law (F : EV.Fenv) : m_law F = (EV.sSeq (n_law_0 F) (EV.sSeq (n_law_1 F) (EV.sSeq (n_law_2 F) (EV.sSeq (n_law_3 F) (EV.sSeq (n_law_4 F) (EV.sSeq (n_law_5 F) (EV.sSeq (n_law_6 F) (EV.sSeq (n_law_7 F) (n_law_8 F))))))))) := by kernel_rfl
/-! ### long rows -/
def LK (k : K5) : Nat := if k = .mul then 1 else 2
structure Ch (k : K5) (e : Ex) : Prop where
  row : ∃ l : List (Nat × Str), tl (txt e) = lay l ∧ P (LK k) e (l.map (·.2)) 0
  ok : ExOk e
  hr : e.hR ≤ 1
  nbo : NbOk e
  nb0 : nb e = 0
  bl : bL k e = false
theorem leaf_p {b : Ex} (h : IsLeaf b) : P 0 b [txt b] 0 := by
  rcases h with ⟨n, rfl, hn⟩ | ⟨t, rfl, ht⟩
  · exact .num hn
  · exact .ref ht
theorem ch_leaf {k : K5} {b : Ex} (h : IsLeaf b) : Ch k b := by
  obtain ⟨h1, h2, h3, h4, h5, h6⟩ := leaf_ok h
  refine ⟨⟨[(0, txt b)], by rw [lay_one]; rfl, ?_⟩, h1, ?_, h2, h6, ?_⟩
  · unfold LK
    split
    · exact .up1 (leaf_p h)
    · exact .up2 (.up1 (leaf_p h))
  · rcases h with ⟨n, rfl, _⟩ | ⟨t, rfl, _⟩ <;> simp [Ex.hR]
  · unfold bL; rw [h5]; simp
theorem bR_leaf (k : K5) {b : Ex} (h : IsLeaf b) : bR k b = false := by
  obtain ⟨_, _, _, _, h5, _⟩ := leaf_ok h
  unfold bR
  rw [h5]
  simp
theorem ch_txt {k : K5} {e b : Ex} (hk : k.fn = false) (h : Ch k e) (hb : IsLeaf b) : txt (.op k e b) = (txt e ++ k.opT) ++ txt b := by
  rw [txt_ar hk, h.bl, bR_leaf k hb]
  rfl
theorem ch_step {k : K5} {e b : Ex} (hk : k.fn = false) (h : Ch k e) (hb : IsLeaf b) : Ch k (.op k e b) := by
  obtain ⟨h1, h2, h3, h4, h5, h6⟩ := leaf_ok hb
  obtain ⟨l, q1, q2⟩ := h.row
  have hn : nb (.op k e b) = 0 := by rw [nb_ar hk, h.nb0, h.bl]; rfl
  have ho : tl k.opT = [32] ++ tl k.sg ++ [32] := by
    cases k <;> first | (cases hk; done) | decide +kernel
  refine ⟨⟨l ++ [(1, k.sg), (1, txt b)], ?_, ?_⟩, ⟨h.ok, h1⟩, ?_, ⟨by omega, h.nbo, h2⟩, hn, ?_⟩
  · rw [ch_txt hk h hb, app_tl, app_tl, lay_app, lay_cons, lay_one, q1, ho]
    simp [List.append_assoc]
  · rw [List.map_append]
    have hp : P (LK k) (.op k e b) (l.map (·.2) ++ k.sg :: [txt b]) 0 := by
      unfold LK at q2 ⊢
      cases k with
      | add => exact .sum (.inl rfl) q2 (.up1 (leaf_p hb)) (Nat.le_refl _) (Nat.le_refl _)
      | sub => exact .sum (.inr rfl) q2 (.up1 (leaf_p hb)) (Nat.le_refl _) (Nat.le_refl _)
      | mul => exact .mul q2 (leaf_p hb) (Nat.le_refl _) (Nat.le_refl _)
      | mn => cases hk
      | mx => cases hk
    exact hp
  · have hbr : b.hR = 0 := by rcases hb with ⟨n, rfl, _⟩ | ⟨t, rfl, _⟩ <;> simp [Ex.hR]
    have := h.hr
    rw [Ex.hR, if_neg (by rw [hk]; simp), hbr]
    omega
  · cases k with
    | add => rfl
    | sub => rfl
    | mul => rfl
    | mn => cases hk
    | mx => cases hk
theorem join_snoc (y : Str) (a : Str) (l : List Str) (p : Str) : Str.join y (a :: (l ++ [p])) = (Str.join y (a :: l) ++ y) ++ p := ext_tl (by
  rw [app_tl, app_tl, tl_join, tl_join, List.map_cons, List.map_append, List.map_singleton, joinL_snoc, List.map_cons]
  simp only [List.append_assoc])
theorem chain_ok {k : K5} (hk : k.fn = false) : ∀ (es : List Ex) (e : Ex) (a : Str) (l : List Str), Ch k e → txt e = Str.join k.opT (a :: l) → (∀ b ∈ es, IsLeaf b) → ∃ e', Ch k e' ∧ txt e' = Str.join k.opT (a :: (l ++ es.map txt)) ∧ e'.sz = e.sz + es.length
  | [], e, a, l, h, ht, _ => ⟨e, h, by simpa using ht, by simp⟩
  | b :: es, e, a, l, h, ht, hb => by
    have hbl := hb b (List.mem_cons_self ..)
    obtain ⟨e', h1, h2, h3⟩ := chain_ok hk es (.op k e b) a (l ++ [txt b]) (ch_step hk h hbl) (by rw [ch_txt hk h hbl, ht, join_snoc]) fun x hx => hb x (List.mem_cons_of_mem _ hx)
    obtain ⟨_, _, s1, _⟩ := leaf_ok hbl
    refine ⟨e', h1, by rw [h2, List.append_assoc]; rfl, ?_⟩
    rw [h3]
    show e.sz + b.sz + es.length = _
    rw [s1, List.length_cons]
    omega
theorem row_ok {k : K5} (hk : k.fn = false) {es : List Ex} (h0 : es ≠ []) (h : ∀ b ∈ es, IsLeaf b) : ∃ e, Ch k e ∧ txt e = Str.join k.opT (es.map txt) ∧ e.sz = es.length := by
  cases es with
  | nil => exact absurd rfl h0
  | cons a es =>
    have ha := h a (List.mem_cons_self ..)
    obtain ⟨e, h1, h2, h3⟩ := chain_ok hk es a (txt a) [] (ch_leaf ha) (ext_tl (by rw [tl_join]; rfl)) fun x hx => h x (List.mem_cons_of_mem _ hx)
    obtain ⟨_, _, s1, _⟩ := leaf_ok ha
    exact ⟨e, h1, h2, by rw [h3, s1, List.length_cons]; omega⟩
/-! ### what the two functions say of an expression -/
theorem hR_ht : ∀ e : Ex, e.hR ≤ e.ht
  | .num _ => by simp [Ex.hR]
  | .ref _ => by simp [Ex.hR]
  | .op k a b => by
    have := hR_ht a
    have := hR_ht b
    rw [Ex.hR, Ex.ht]
    split <;> omega
theorem plain_ex : ∀ (e : Ex) (d : Nat), Plain (d + e.ht + 1) (exW e)
  | .num n, d => ⟨by simp, fun x hx => by
    simp only [List.mem_cons, List.not_mem_nil, or_false] at hx
    rcases hx with rfl | rfl
    · exact plain_ups 0 _ (.str "num") trivial |> fun h => by simpa using h
    · exact plain_ups 0 _ (.int n) trivial |> fun h => by simpa using h⟩
  | .ref s, d => ⟨by simp, fun x hx => by
    simp only [List.mem_cons, List.not_mem_nil, or_false] at hx
    rcases hx with rfl | rfl
    · exact plain_ups 0 _ (.str "ref") trivial |> fun h => by simpa using h
    · exact plain_ups 0 _ (.str s) trivial |> fun h => by simpa using h⟩
  | .op k a b, d => ⟨by simp, fun x hx => by
    simp only [List.mem_cons, List.not_mem_nil, or_false] at hx
    rw [Ex.ht]
    rcases hx with rfl | rfl | rfl
    · exact plain_ups 0 _ (.str k.nm) trivial |> fun h => by simpa using h
    · have := plain_ex a (d + (max a.ht b.ht - a.ht))
      rwa [show d + (max a.ht b.ht - a.ht) + a.ht + 1 = d + (max a.ht b.ht + 1) by omega] at this
    · have := plain_ex b (d + (max a.ht b.ht - b.ht))
      rwa [show d + (max a.ht b.ht - b.ht) + b.ht + 1 = d + (max a.ht b.ht + 1) by omega] at this⟩
section
variable {S : EV.Sto}
theorem same_str (d : Nat) (s : Str) : EV.Fn gG gP (d + 1) "_law_same" [.str s, .str s] S = .ok (.bl true) S := by
  have := same_ok d (.str s) S (by have := plain_ups 0 d (.str s) trivial; simpa using this)
  exact this
theorem same_ex (d : Nat) (e : Ex) : EV.Fn gG gP (d + e.ht + 2) "_law_same" [exW e, exW e] S = .ok (.bl true) S := same_ok (d + e.ht + 1) (exW e) S (plain_ex e d)
/-- a text that reads back -/
theorem back_ex (d : Nat) {e : Ex} {t : Str} {l : List (Nat × Str)} {j b : Nat} (ht : tl t = lay l ++ List.replicate j 32) (hl : t.length ≤ 1000000) (hp : P 2 e (l.map (·.2)) b) (hb : b ≤ 12) : ∃ cu, EV.Fn gG gP (d + 47) "parse_expression" [.str t] S = .ok (exW e) (S ++ [cu]) := by
  obtain ⟨h1, h2, _⟩ := p_ok hp
  exact ⟨_, parse_ex d hl ht (fun q hq => h1 _ (List.mem_map.mpr ⟨q, hq, rfl⟩)) h2 hp hb⟩
theorem due_ex (d : Nat) {e : Ex} (he : ExOk e) (hs : e.sz ≤ 8) : ∃ cu, EV.Fn gG gP (d + 47) "parse_expression" [.str (txt e)] S = .ok (exW e) (S ++ [cu]) := by
  obtain ⟨l, b, h1, h2, h3⟩ := txt_row e he
  have := txt_len e he
  exact back_ex d (j := 0) (by simpa using h1) (by omega) (p_top h2).2 (by omega)
theorem etx (d : Nat) {e : Ex} (he : ExOk e) (hn : NbOk e) (hs : e.sz ≤ 20000) (hh : e.hR ≤ 10) : EV.Fn gG gP (d + 23) "expression_text" [exW e] S = .ok (.str (txt e)) S := by
  have := etext_ex (S := S) e.sz e (Nat.le_refl _) hs he hn (d + (20 - 2 * e.hR))
  rwa [show d + (20 - 2 * e.hR) + 2 * e.hR + 3 = d + 23 by omega] at this
end
open TL
/-! ### one turn of the law -/
section
variable {AS : List EV.W} {x1 x2 x3 x4 x5 x6 : EV.Sl} {S S1 S2 : EV.Sto}
theorem no_same {a : EV.M EV.W} {σ : EV.Sls} {f : EV.M EV.Fl} (h : a σ S = .ok (.bl true) S1) : EV.sIf (EV.mNotT (EV.mTru a)) f EV.sNext σ S = .ok (.nx σ) S1 := by
  simp -implicitDefEqProofs [EV.LIM, EV.str_lit, evr, EV.r_for, EV.r_rng1, EV.wbin, EV.wun, EV.wcmp, EV.vw, EV.vwz, EV.wix, EV.wblt, EV.wtru, EV.wisi, EV.frz, EV.mkOwn, L2.atI, L2.ixN, List.map, List.length_cons, List.length_nil, List.replicate, List.getElem?_cons_zero, List.getElem?_cons_succ, List.set_cons_zero, List.set_cons_succ, List.append_nil, List.cons_append, List.nil_append, h]
theorem t_bag (as : List Int) (k : Nat) : ∃ o, IsBag o ∧ n_law_1b_0 (EV.Fn gG gP 59) [.fr (.scr (as.map .int)), x1, .fr (.int k), x3, x4, x5, x6, .emp, .emp, .emp, .emp] S = .ok (.nx [.fr (.scr (as.map .int)), x1, .fr (.int k), .fr (.loc S.length), x4, x5, x6, .emp, .emp, .emp, .emp]) (S ++ [o]) := by
  obtain ⟨o, b, e⟩ := bag_ex 58 as k S
  refine ⟨o, b, ?_⟩
  have fz : EV.frz [.fr (.scr (as.map .int)), x1, .fr (.int k), x3, x4, x5, x6, .emp, .emp, .emp, .emp] [0, 2] = [.fr (.scr (as.map .int)), x1, .fr (.int k), x3, x4, x5, x6, .emp, .emp, .emp, .emp] := rfl
  unfold n_law_1b_0
  rw [EV.r_frz, fz, EV.r_set, show EV.mCall (EV.Fn gG gP 59) "_law_bag" (EV.mCons (EV.mVar 0) (EV.mCons (EV.mVar 2) EV.mNil)) [] [.fr (.scr (as.map .int)), x1, .fr (.int k), x3, x4, x5, x6, .emp, .emp, .emp, .emp] S = .ok (.loc S.length) (S ++ [o]) from e]
  rfl
theorem t_expr (k : Nat) {o : EV.Ob} (hb : IsBag o) : ∃ (e : Ex) (S2 : EV.Sto) (o2 : EV.Ob), ExOk e ∧ e.sz ≤ 8 ∧ e.ht ≤ 7 ∧ S2[S.length]? = some o2 ∧ IsBag o2 ∧ n_law_1b_1 (EV.Fn gG gP 59) [.fr (.scr AS), x1, .fr (.int k), .fr (.loc S.length), x4, x5, x6, .emp, .emp, .emp, .emp] (S ++ [o]) = .ok (.nx [.fr (.scr AS), x1, .fr (.int k), .fr (.loc S.length), .fr (exW e), x5, x6, .emp, .emp, .emp, .emp]) S2 := by
  obtain ⟨v, o1, hv, b1, e1⟩ := pick_ex 57 (S := S ++ [o]) (n := S.length) (ws := [.int 7, .int 1, .int 7, .int 2, .int 3]) (get_last S o) hb (by simp) (by simp)
  rw [set_lst] at e1
  obtain ⟨x, rfl, hx⟩ : ∃ k : Nat, v = .int k ∧ k ≤ 7 := by
    simp only [List.mem_cons, List.not_mem_nil, or_false] at hv
    rcases hv with rfl | rfl | rfl | rfl | rfl
    · exact ⟨7, rfl, by omega⟩
    · exact ⟨1, rfl, by omega⟩
    · exact ⟨7, rfl, by omega⟩
    · exact ⟨2, rfl, by omega⟩
    · exact ⟨3, rfl, by omega⟩
  have hts : TS ((S ++ [o1]) ++ [.lst [.int x]]) S.length (S ++ [o1]).length o1 x = (S ++ [o1]) ++ [.lst [.int x]] := by
    unfold TS
    rw [set_same (n := S.length) (by rw [List.getElem?_append_left (by simp)]; exact get_last S o1), set_same (get_last _ _)]
  obtain ⟨e, o2, x', h1, h2, h3, h4, b2, e2⟩ := expr_ex (S := (S ++ [o1]) ++ [.lst [.int x]]) (gB := S.length) (cL := (S ++ [o1]).length) (by simp) (by simp) (by simp) 7 45 x o1 hx b1
  rw [hts] at e2
  refine ⟨e, TS ((S ++ [o1]) ++ [.lst [.int x]]) S.length (S ++ [o1]).length o2 x', o2, h1, by omega, by omega, ts_b (by simp) (by simp), b2, ?_⟩
  have fz : EV.frz [.fr (.scr AS), x1, .fr (.int k), .fr (.loc S.length), x4, x5, x6, .emp, .emp, .emp, .emp] [3, 3] = [.fr (.scr AS), x1, .fr (.int k), .fr (.loc S.length), x4, x5, x6, .emp, .emp, .emp, .emp] := rfl
  have ep : (EV.mCall (EV.Fn gG gP 59) "_law_pick" (EV.mCons (EV.mVar 3) (EV.mCons (EV.mLst (EV.mCons (EV.mC (.int 7)) (EV.mCons (EV.mC (.int 1)) (EV.mCons (EV.mC (.int 7)) (EV.mCons (EV.mC (.int 2)) (EV.mCons (EV.mC (.int 3)) EV.mNil)))))) EV.mNil)) []) [.fr (.scr AS), x1, .fr (.int k), .fr (.loc S.length), x4, x5, x6, .emp, .emp, .emp, .emp] (S ++ [o]) = .ok (.int x) (S ++ [o1]) := e1
  have el : EV.mToLoc (EV.mLst (EV.mCons (EV.mCall (EV.Fn gG gP 59) "_law_pick" (EV.mCons (EV.mVar 3) (EV.mCons (EV.mLst (EV.mCons (EV.mC (.int 7)) (EV.mCons (EV.mC (.int 1)) (EV.mCons (EV.mC (.int 7)) (EV.mCons (EV.mC (.int 2)) (EV.mCons (EV.mC (.int 3)) EV.mNil)))))) EV.mNil)) []) EV.mNil)) [.fr (.scr AS), x1, .fr (.int k), .fr (.loc S.length), x4, x5, x6, .emp, .emp, .emp, .emp] (S ++ [o]) = .ok (.loc (S ++ [o1]).length) ((S ++ [o1]) ++ [.lst [.int x]]) := by
    unfold EV.mToLoc
    rw [EV.r_lst, EV.r_cons, ep, EV.r_ok, EV.r_consF]
    rfl
  unfold n_law_1b_1
  rw [EV.r_frz, fz, EV.r_set, EV.r_call, EV.r_cons, show EV.mVar 3 [.fr (.scr AS), x1, .fr (.int k), .fr (.loc S.length), x4, x5, x6, .emp, .emp, .emp, .emp] (S ++ [o]) = .ok (.loc S.length) (S ++ [o]) from rfl, EV.r_ok, EV.r_consF, EV.r_cons, el, EV.r_ok, EV.r_consF, show EV.mNil [.fr (.scr AS), x1, .fr (.int k), .fr (.loc S.length), x4, x5, x6, .emp, .emp, .emp, .emp] ((S ++ [o1]) ++ [.lst [.int x]]) = .ok [] ((S ++ [o1]) ++ [.lst [.int x]]) from rfl, EV.r_ok, EV.r_consG, EV.r_ok, EV.r_consG, EV.r_ok, EV.r_callF]
  rw [show [EV.W.loc S.length, EV.W.loc (S ++ [o1]).length] ++ [] = [EV.W.loc S.length, EV.W.loc (S ++ [o1]).length] from rfl, e2]
  rfl
theorem t_due (k gB : Nat) {e : Ex} (he : ExOk e) (hs : e.sz ≤ 8) (ht : e.ht ≤ 7) : n_law_1b_2 (EV.Fn gG gP 59) [.fr (.scr AS), x1, .fr (.int k), .fr (.loc gB), .fr (exW e), x5, x6, .emp, .emp, .emp, .emp] S = .ok (.nx [.fr (.scr AS), x1, .fr (.int k), .fr (.loc gB), .fr (exW e), .fr (.str (txt e)), x6, .emp, .emp, .emp, .emp]) S := by
  have e1 := ltext_ex (S := S) e (58 - e.ht) he (by omega)
  rw [show 58 - e.ht + e.ht + 1 = 59 by omega] at e1
  have fz : EV.frz [.fr (.scr AS), x1, .fr (.int k), .fr (.loc gB), .fr (exW e), x5, x6, .emp, .emp, .emp, .emp] [4] = [.fr (.scr AS), x1, .fr (.int k), .fr (.loc gB), .fr (exW e), x5, x6, .emp, .emp, .emp, .emp] := rfl
  unfold n_law_1b_2
  rw [EV.r_frz, fz, EV.r_set, show EV.mCall (EV.Fn gG gP 59) "_law_expr_text" (EV.mCons (EV.mVar 4) EV.mNil) [] [.fr (.scr AS), x1, .fr (.int k), .fr (.loc gB), .fr (exW e), x5, x6, .emp, .emp, .emp, .emp] S = .ok (.str (txt e)) S from e1]
  rfl
def fstS (k : Nat) (e : Ex) (x : EV.Sl) : EV.Sl := if k = 0 then .fr (.tup [exW e, .str (txt e)]) else x
theorem t_first (k gB : Nat) (e : Ex) : n_law_1b_3 (EV.Fn gG gP 59) [.fr (.scr AS), x1, .fr (.int k), .fr (.loc gB), .fr (exW e), .fr (.str (txt e)), x6, .emp, .emp, .emp, .emp] S = .ok (.nx [.fr (.scr AS), fstS k e x1, .fr (.int k), .fr (.loc gB), .fr (exW e), .fr (.str (txt e)), x6, .emp, .emp, .emp, .emp]) S := by
  unfold fstS
  by_cases q : k = 0
  · subst q
    generalize exW e = WE
    generalize txt e = TE
    simp -implicitDefEqProofs [EV.LIM, EV.str_lit, evr, EV.r_for, EV.r_rng1, EV.wbin, EV.wun, EV.wcmp, EV.vw, EV.vwz, EV.wix, EV.wblt, EV.wtru, EV.wisi, EV.frz, EV.mkOwn, L2.atI, L2.ixN, List.map, List.length_cons, List.length_nil, List.replicate, List.getElem?_cons_zero, List.getElem?_cons_succ, List.set_cons_zero, List.set_cons_succ, List.append_nil, List.cons_append, List.nil_append, n_law_1b_3, n_law_1b_3t, n_law_1b_3t_0]
  · have q2 : ¬ ((k : Int) = 0) := by omega
    generalize exW e = WE
    generalize txt e = TE
    simp -implicitDefEqProofs [EV.LIM, EV.str_lit, evr, EV.r_for, EV.r_rng1, EV.wbin, EV.wun, EV.wcmp, EV.vw, EV.vwz, EV.wix, EV.wblt, EV.wtru, EV.wisi, EV.frz, EV.mkOwn, L2.atI, L2.ixN, List.map, List.length_cons, List.length_nil, List.replicate, List.getElem?_cons_zero, List.getElem?_cons_succ, List.set_cons_zero, List.set_cons_succ, List.append_nil, List.cons_append, List.nil_append, n_law_1b_3, q, q2]
theorem t_text (k gB : Nat) {e : Ex} (he : ExOk e) (hs : e.sz ≤ 8) (ht : e.ht ≤ 7) : n_law_1b_4 (EV.Fn gG gP 59) [.fr (.scr AS), x1, .fr (.int k), .fr (.loc gB), .fr (exW e), .fr (.str (txt e)), x6, .emp, .emp, .emp, .emp] S = .ok (.nx [.fr (.scr AS), x1, .fr (.int k), .fr (.loc gB), .fr (exW e), .fr (.str (txt e)), x6, .emp, .emp, .emp, .emp]) S := by
  have h1 := hR_ht e
  have e1 := etx (S := S) 36 he (nbok_sz e (by omega)) (by omega) (by omega)
  have e2 := same_str (S := S) 58 (txt e)
  have fz : EV.frz [.fr (.scr AS), x1, .fr (.int k), .fr (.loc gB), .fr (exW e), .fr (.str (txt e)), x6, .emp, .emp, .emp, .emp] [4, 5] = [.fr (.scr AS), x1, .fr (.int k), .fr (.loc gB), .fr (exW e), .fr (.str (txt e)), x6, .emp, .emp, .emp, .emp] := rfl
  unfold n_law_1b_4
  rw [EV.r_frz, fz]
  refine no_same ?_
  generalize txt e = TE at *
  generalize exW e = WE at *
  simp -implicitDefEqProofs [EV.LIM, EV.str_lit, evr, EV.r_for, EV.r_rng1, EV.wbin, EV.wun, EV.wcmp, EV.vw, EV.vwz, EV.wix, EV.wblt, EV.wtru, EV.wisi, EV.frz, EV.mkOwn, L2.atI, L2.ixN, List.map, List.length_cons, List.length_nil, List.replicate, List.getElem?_cons_zero, List.getElem?_cons_succ, List.set_cons_zero, List.set_cons_succ, List.append_nil, List.cons_append, List.nil_append, e1, e2]
theorem t_back (k gB : Nat) {e : Ex} (he : ExOk e) (hs : e.sz ≤ 8) (ht : e.ht ≤ 7) : ∃ cu, n_law_1b_5 (EV.Fn gG gP 59) [.fr (.scr AS), x1, .fr (.int k), .fr (.loc gB), .fr (exW e), .fr (.str (txt e)), x6, .emp, .emp, .emp, .emp] S = .ok (.nx [.fr (.scr AS), x1, .fr (.int k), .fr (.loc gB), .fr (exW e), .fr (.str (txt e)), x6, .emp, .emp, .emp, .emp]) (S ++ [cu]) := by
  obtain ⟨cu, e1⟩ := due_ex (S := S) 12 he hs
  have e2 := same_ex (S := S ++ [cu]) (57 - e.ht) e
  rw [show 57 - e.ht + e.ht + 2 = 59 by omega] at e2
  refine ⟨cu, ?_⟩
  have fz : EV.frz [.fr (.scr AS), x1, .fr (.int k), .fr (.loc gB), .fr (exW e), .fr (.str (txt e)), x6, .emp, .emp, .emp, .emp] [5, 4] = [.fr (.scr AS), x1, .fr (.int k), .fr (.loc gB), .fr (exW e), .fr (.str (txt e)), x6, .emp, .emp, .emp, .emp] := rfl
  unfold n_law_1b_5
  rw [EV.r_frz, fz]
  refine no_same ?_
  generalize txt e = TE at *
  generalize exW e = WE at *
  generalize S ++ [cu] = S1 at *
  simp -implicitDefEqProofs [EV.LIM, EV.str_lit, evr, EV.r_for, EV.r_rng1, EV.wbin, EV.wun, EV.wcmp, EV.vw, EV.vwz, EV.wix, EV.wblt, EV.wtru, EV.wisi, EV.frz, EV.mkOwn, L2.atI, L2.ixN, List.map, List.length_cons, List.length_nil, List.replicate, List.getElem?_cons_zero, List.getElem?_cons_succ, List.set_cons_zero, List.set_cons_succ, List.append_nil, List.cons_append, List.nil_append, e1, e2]
theorem t_spread (k gB : Nat) {e : Ex} {o : EV.Ob} (he : ExOk e) (hs : e.sz ≤ 8) (ht : e.ht ≤ 7) (hg : S[gB]? = some o) (hb : IsBag o) : ∃ (t : Str) (l : List (Nat × Str)) (j b : Nat) (S2 : EV.Sto), tl t = lay l ++ List.replicate j 32 ∧ t.length ≤ 1000000 ∧ P 2 e (l.map (·.2)) b ∧ b ≤ 12 ∧ n_law_1b_6 (EV.Fn gG gP 59) [.fr (.scr AS), x1, .fr (.int k), .fr (.loc gB), .fr (exW e), .fr (.str (txt e)), x6, .emp, .emp, .emp, .emp] S = .ok (.nx [.fr (.scr AS), x1, .fr (.int k), .fr (.loc gB), .fr (exW e), .fr (.str (txt e)), .fr (.str t), .emp, .emp, .emp, .emp]) S2 := by
  have hlt : gB < S.length := (List.getElem?_eq_some_iff.mp hg).1
  have hts : TS (S ++ [.lst [.int (5 : Nat)]]) gB S.length o 5 = S ++ [.lst [.int (5 : Nat)]] := by
    unfold TS
    rw [set_same (n := gB) (by rw [List.getElem?_append_left hlt]; exact hg), set_same (get_last _ _)]
  obtain ⟨ts, b, o1, x1', p1, q1, q2, q3, b1, e1⟩ := ltok_ex (S := S ++ [.lst [.int (5 : Nat)]]) (gB := gB) (cL := S.length) e (56 - e.ht) o 5 he (by omega) (by simp; omega) (by simp) (by omega) hb
  rw [hts, show 56 - e.ht + e.ht + 3 = 59 by omega] at e1
  have hg2 := ts_b (S := S ++ [.lst [.int (5 : Nat)]]) (gB := gB) (cL := S.length) (o := o1) (x := x1') (by simp; omega) (by omega)
  obtain ⟨t, l, j, o2, g1, g2, g3, b2, e2⟩ := spread_ex (S := TS (S ++ [.lst [.int (5 : Nat)]]) gB S.length o1 x1') (n := gB) (o := o1) 56 (by rw [ts_len]; simp; omega) (p_tl p1) (by omega) b1
  rw [set_same hg2] at e2
  refine ⟨t, l, j, b, (TS (S ++ [.lst [.int (5 : Nat)]]) gB S.length o1 x1').set gB o2, g1, g3, by rw [g2]; exact (p_top p1).2, by omega, ?_⟩
  have fz : EV.frz [.fr (.scr AS), x1, .fr (.int k), .fr (.loc gB), .fr (exW e), .fr (.str (txt e)), x6, .emp, .emp, .emp, .emp] [3, 3, 4] = [.fr (.scr AS), x1, .fr (.int k), .fr (.loc gB), .fr (exW e), .fr (.str (txt e)), x6, .emp, .emp, .emp, .emp] := rfl
  have et : (EV.mCall (EV.Fn gG gP 59) "_law_tokens" (EV.mCons (EV.mVar 3) (EV.mCons (EV.mVar 4) (EV.mCons (EV.mToLoc (EV.mLst (EV.mCons (EV.mC (.int 5)) EV.mNil))) EV.mNil))) []) [.fr (.scr AS), x1, .fr (.int k), .fr (.loc gB), .fr (exW e), .fr (.str (txt e)), x6, .emp, .emp, .emp, .emp] S = .ok (.lst (tkW ts)) (TS (S ++ [.lst [.int (5 : Nat)]]) gB S.length o1 x1') := e1
  unfold n_law_1b_6
  rw [EV.r_frz, fz, EV.r_set, EV.r_call, EV.r_cons, show EV.mVar 3 [.fr (.scr AS), x1, .fr (.int k), .fr (.loc gB), .fr (exW e), .fr (.str (txt e)), x6, .emp, .emp, .emp, .emp] S = .ok (.loc gB) S from rfl, EV.r_ok, EV.r_consF, EV.r_cons, et, EV.r_ok, EV.r_consF, show EV.mNil [.fr (.scr AS), x1, .fr (.int k), .fr (.loc gB), .fr (exW e), .fr (.str (txt e)), x6, .emp, .emp, .emp, .emp] (TS (S ++ [.lst [.int (5 : Nat)]]) gB S.length o1 x1') = .ok [] (TS (S ++ [.lst [.int (5 : Nat)]]) gB S.length o1 x1') from rfl, EV.r_ok, EV.r_consG, EV.r_ok, EV.r_consG, EV.r_ok, EV.r_callF]
  rw [show [EV.W.loc gB, EV.W.lst (tkW ts)] ++ [] = [EV.W.loc gB, EV.W.lst (tkW ts)] from rfl, e2]
  rfl
theorem t_back2 (k gB : Nat) {e : Ex} {t : Str} {l : List (Nat × Str)} {j b : Nat} (ht : e.ht ≤ 7) (h1 : tl t = lay l ++ List.replicate j 32) (hl : t.length ≤ 1000000) (hp : P 2 e (l.map (·.2)) b) (hb : b ≤ 12) : ∃ cu, n_law_1b_7 (EV.Fn gG gP 59) [.fr (.scr AS), x1, .fr (.int k), .fr (.loc gB), .fr (exW e), .fr (.str (txt e)), .fr (.str t), .emp, .emp, .emp, .emp] S = .ok (.nx [.fr (.scr AS), x1, .fr (.int k), .fr (.loc gB), .fr (exW e), .fr (.str (txt e)), .fr (.str t), .emp, .emp, .emp, .emp]) (S ++ [cu]) := by
  obtain ⟨cu, e1⟩ := back_ex (S := S) 12 h1 hl hp hb
  have e2 := same_ex (S := S ++ [cu]) (57 - e.ht) e
  rw [show 57 - e.ht + e.ht + 2 = 59 by omega] at e2
  refine ⟨cu, ?_⟩
  have fz : EV.frz [.fr (.scr AS), x1, .fr (.int k), .fr (.loc gB), .fr (exW e), .fr (.str (txt e)), .fr (.str t), .emp, .emp, .emp, .emp] [6, 4] = [.fr (.scr AS), x1, .fr (.int k), .fr (.loc gB), .fr (exW e), .fr (.str (txt e)), .fr (.str t), .emp, .emp, .emp, .emp] := rfl
  unfold n_law_1b_7
  rw [EV.r_frz, fz]
  refine no_same ?_
  generalize txt e = TE at *
  generalize exW e = WE at *
  generalize S ++ [cu] = S1 at *
  simp -implicitDefEqProofs [EV.LIM, EV.str_lit, evr, EV.r_for, EV.r_rng1, EV.wbin, EV.wun, EV.wcmp, EV.vw, EV.vwz, EV.wix, EV.wblt, EV.wtru, EV.wisi, EV.frz, EV.mkOwn, L2.atI, L2.ixN, List.map, List.length_cons, List.length_nil, List.replicate, List.getElem?_cons_zero, List.getElem?_cons_succ, List.set_cons_zero, List.set_cons_succ, List.append_nil, List.cons_append, List.nil_append, e1, e2]
theorem turn (as : List Int) (k : Nat) : ∃ (e : Ex) (S2 : EV.Sto) (y3 y4 y5 y6 : EV.Sl), ExOk e ∧ e.sz ≤ 8 ∧ e.ht ≤ 7 ∧ n_law_1b (EV.Fn gG gP 59) [.fr (.scr (as.map .int)), x1, .fr (.int k), x3, x4, x5, x6, .emp, .emp, .emp, .emp] S = .ok (.nx [.fr (.scr (as.map .int)), fstS k e x1, .fr (.int k), y3, y4, y5, y6, .emp, .emp, .emp, .emp]) S2 := by
  obtain ⟨o, b0, a0⟩ := t_bag (S := S) (x1 := x1) (x3 := x3) (x4 := x4) (x5 := x5) (x6 := x6) as k
  obtain ⟨e, S1, o1, he, hs, ht, hg, b1, a1⟩ := t_expr (AS := as.map .int) (S := S) (x1 := x1) (x4 := x4) (x5 := x5) (x6 := x6) k b0
  have a2 := t_due (AS := as.map .int) (S := S1) (x1 := x1) (x5 := x5) (x6 := x6) k S.length he hs ht
  have a3 := t_first (AS := as.map .int) (S := S1) (x1 := x1) (x6 := x6) k S.length e
  have a4 := t_text (AS := as.map .int) (S := S1) (x1 := fstS k e x1) (x6 := x6) k S.length he hs ht
  obtain ⟨cu, a5⟩ := t_back (AS := as.map .int) (S := S1) (x1 := fstS k e x1) (x6 := x6) k S.length he hs ht
  have hg2 : (S1 ++ [cu])[S.length]? = some o1 := by
    have := (List.getElem?_eq_some_iff.mp hg).1
    rw [List.getElem?_append_left this]
    exact hg
  obtain ⟨t, l, j, b, S2, g1, g2, g3, g4, a6⟩ := t_spread (AS := as.map .int) (S := S1 ++ [cu]) (x1 := fstS k e x1) (x6 := x6) k S.length he hs ht hg2 b1
  obtain ⟨cu2, a7⟩ := t_back2 (AS := as.map .int) (S := S2) (x1 := fstS k e x1) k S.length ht g1 g2 g3 g4
  refine ⟨e, S2 ++ [cu2], .fr (.loc S.length), .fr (exW e), .fr (.str (txt e)), .fr (.str t), he, hs, ht, ?_⟩
  unfold n_law_1b
  rw [seq_step a0, seq_step a1, seq_step a2, seq_step a3, seq_step a4, seq_step a5, seq_step a6]
  exact a7
end
section
variable {as : List Int} {x1 x2 x3 x4 x5 x6 : EV.Sl} {S : EV.Sto}
theorem l_some (h2 : EV.notOw (some x2) = true) {o : EV.Ob} (hb : IsBag o) (sg : Str) : ∃ (es : List Ex) (o2 : EV.Ob), es.length = 12 ∧ (∀ e ∈ es, IsLeaf e) ∧ IsBag o2 ∧ n_law_4 (EV.Fn gG gP 59) [.fr (.scr (as.map .int)), x1, x2, .fr (.loc S.length), x4, x5, x6, .fr (.str sg), .emp, .emp, .emp] (S ++ [o]) = .ok (.nx [.fr (.scr (as.map .int)), x1, x2, .fr (.loc S.length), x4, x5, x6, .fr (.str sg), .ow (.lst (tkW (es.map txt))), .emp, .emp]) (S ++ [o2]) := by
  obtain ⟨es, o2, l1, l2, b2, e2⟩ := lc_st (i := 2) (me := n_law_4_c0 (EV.Fn gG gP 59)) (σ := [.fr (.scr (as.map .int)), x1, .emp, .fr (.loc S.length), x4, x5, x6, .fr (.str sg), .emp, .emp, .emp]) (st := fun o => S ++ [o]) (P := IsLeaf) (f := fun e => .str (txt e)) (fun w o hb => by
    obtain ⟨e, o', he, b1, e1⟩ := side_ex (S := S ++ [o]) (n := S.length) (o := o) 53 (by simp) hb
    rw [set_lst, set_lst] at e1
    refine ⟨e, o', he, b1, ?_⟩
    show n_law_4_c0 (EV.Fn gG gP 59) [.fr (.scr (as.map .int)), x1, .fr w, .fr (.loc S.length), x4, x5, x6, .fr (.str sg), .emp, .emp, .emp] (S ++ [o]) = _
    unfold n_law_4_c0
    have ec : EV.mCall (EV.Fn gG gP 59) "_law_side" (EV.mCons (EV.mVar 3) EV.mNil) [] [.fr (.scr (as.map .int)), x1, .fr w, .fr (.loc S.length), x4, x5, x6, .fr (.str sg), .emp, .emp, .emp] (S ++ [o]) = .ok (exW e) (S ++ [o']) := e1
    rcases he with ⟨n, rfl, hn⟩ | ⟨t, rfl, ht⟩
    · have ei : EV.mIx (EV.mCall (EV.Fn gG gP 59) "_law_side" (EV.mCons (EV.mVar 3) EV.mNil) []) (EV.mC (.int 1)) [.fr (.scr (as.map .int)), x1, .fr w, .fr (.loc S.length), x4, x5, x6, .fr (.str sg), .emp, .emp, .emp] (S ++ [o]) = .ok (.int n) (S ++ [o']) := by
        rw [EV.r_ix, ec]; rfl
      have hlg : n.log2 < 1920 := by
        have : n.log2 < 20 := by
          by_cases q : n = 0
          · subst q; decide
          · exact (Nat.log2_lt q).mpr (by omega)
        omega
      rw [EV.r_blt, EV.r_cons, ei, EV.r_ok, EV.r_consF]
      show EV.olift (if n.log2 < 1920 then some (EV.W.str (numS n)) else none) _ = _
      rw [if_pos hlg]
      rfl
    · have ei : EV.mIx (EV.mCall (EV.Fn gG gP 59) "_law_side" (EV.mCons (EV.mVar 3) EV.mNil) []) (EV.mC (.int 1)) [.fr (.scr (as.map .int)), x1, .fr w, .fr (.loc S.length), x4, x5, x6, .fr (.str sg), .emp, .emp, .emp] (S ++ [o]) = .ok (.str t) (S ++ [o']) := by
        rw [EV.r_ix, ec]; rfl
      rw [EV.r_blt, EV.r_cons, ei, EV.r_ok, EV.r_consF]
      rfl) ((List.range 12).map fun i => .int (i : Nat)) o hb
  rw [List.length_map, List.length_range] at l1
  refine ⟨es, o2, l1, l2, b2, ?_⟩
  have fz : EV.frz [.fr (.scr (as.map .int)), x1, x2, .fr (.loc S.length), x4, x5, x6, .fr (.str sg), .emp, .emp, .emp] [3] = [.fr (.scr (as.map .int)), x1, x2, .fr (.loc S.length), x4, x5, x6, .fr (.str sg), .emp, .emp, .emp] := rfl
  have er : EV.mRng1 (EV.mC (.int 12)) [.fr (.scr (as.map .int)), x1, x2, .fr (.loc S.length), x4, x5, x6, .fr (.str sg), .emp, .emp, .emp] (S ++ [o]) = .ok ((List.range 12).map fun i => .int (i : Nat)) (S ++ [o]) := rng_i (k := 12) rfl (by omega)
  unfold n_law_4
  rw [EV.r_frz, fz, EV.r_setO, EV.r_lc, er, EV.r_ok, EV.r_lcF, if_pos ⟨by rw [List.length_map, List.length_range]; decide, by simpa using h2⟩, show EV.wwipe [.fr (.scr (as.map .int)), x1, x2, .fr (.loc S.length), x4, x5, x6, .fr (.str sg), .emp, .emp, .emp] [2] = [.fr (.scr (as.map .int)), x1, .emp, .fr (.loc S.length), x4, x5, x6, .fr (.str sg), .emp, .emp, .emp] from rfl, e2, show es.map (fun e => EV.W.str (txt e)) = tkW (es.map txt) by unfold tkW; rw [List.map_map]; rfl]
  rfl
end
section
variable {as : List Int} {x1 x2 x3 x4 x5 x6 : EV.Sl} {S : EV.Sto}
theorem l_many {o : EV.Ob} (hb : IsBag o) (K : Str) (es : List Ex) : ∃ (m : Nat) (o2 : EV.Ob), 9 ≤ m ∧ m ≤ 1200 ∧ IsBag o2 ∧ n_law_5 (EV.Fn gG gP 59) [.fr (.scr (as.map .int)), x1, x2, .fr (.loc S.length), x4, x5, x6, .fr (.str K), .ow (.lst (tkW (es.map txt))), .emp, .emp] (S ++ [o]) = .ok (.nx [.fr (.scr (as.map .int)), x1, x2, .fr (.loc S.length), x4, x5, x6, .fr (.str K), .ow (.lst (tkW (es.map txt))), .fr (.int m), .emp]) (S ++ [o2]) := by
  obtain ⟨r1, o1, a1, c1, b1, e1⟩ := take_ex 58 (S := S ++ [o]) (n := S.length) (m := 60) (get_last S o) hb (by decide) (by decide)
  rw [set_lst] at e1
  obtain ⟨r2, o2, a2, c2, b2, e2⟩ := take_ex 58 (S := S ++ [o1]) (n := S.length) (m := 60) (get_last S o1) b1 (by decide) (by decide)
  rw [set_lst] at e2
  obtain ⟨v, o3, hv, b3, e3⟩ := pick_ex 57 (S := S ++ [o2]) (n := S.length) (ws := [.int 9, .int 30, .int (9 + r1), .int (9 + r2), .int 1200]) (get_last S o2) b2 (by simp) (by simp)
  rw [set_lst] at e3
  obtain ⟨m, rfl, h1, h2⟩ : ∃ k : Nat, v = .int k ∧ 9 ≤ k ∧ k ≤ 1200 := by
    simp only [List.mem_cons, List.not_mem_nil, or_false] at hv
    rcases hv with rfl | rfl | rfl | rfl | rfl
    · exact ⟨9, rfl, by omega, by omega⟩
    · exact ⟨30, rfl, by omega, by omega⟩
    · exact ⟨(9 + r1).toNat, by rw [show (((9 + r1).toNat : Nat) : Int) = 9 + r1 by omega], by omega, by omega⟩
    · exact ⟨(9 + r2).toNat, by rw [show (((9 + r2).toNat : Nat) : Int) = 9 + r2 by omega], by omega, by omega⟩
    · exact ⟨1200, rfl, by omega, by omega⟩
  refine ⟨m, o3, h1, h2, b3, ?_⟩
  generalize tkW (es.map txt) = TW at *
  generalize as.map EV.W.int = AS at *
  generalize S ++ [o] = T0 at *
  generalize S ++ [o1] = T1 at *
  generalize S ++ [o2] = T2 at *
  generalize S ++ [o3] = T3 at *
  simp -implicitDefEqProofs [EV.LIM, EV.str_lit, evr, EV.r_for, EV.r_rng1, EV.wbin, EV.wun, EV.wcmp, EV.vw, EV.vwz, EV.wix, EV.wblt, EV.wtru, EV.wisi, EV.frz, EV.mkOwn, L2.atI, L2.ixN, List.map, List.length_cons, List.length_nil, List.replicate, List.getElem?_cons_zero, List.getElem?_cons_succ, List.set_cons_zero, List.set_cons_succ, List.append_nil, List.cons_append, List.nil_append, n_law_5, e1, e2, e3]
theorem l_row {es : List Ex} (hl : es.length = 12) (hle : ∀ e ∈ es, IsLeaf e) {k : K5} (hk : k.fn = false) {m : Nat} (h9 : 9 ≤ m) (hm : m ≤ 1200) (h2 : EV.notOw (some x2) = true) (gB : Nat) : ∃ e, Ch k e ∧ e.sz ≤ 1200 ∧ n_law_6 (EV.Fn gG gP 59) [.fr (.scr (as.map .int)), x1, x2, .fr (.loc gB), x4, x5, x6, .fr (.str k.opT), .ow (.lst (tkW (es.map txt))), .fr (.int m), .emp] S = .ok (.nx [.fr (.scr (as.map .int)), x1, x2, .fr (.loc gB), x4, x5, x6, .fr (.str k.opT), .ow (.lst (tkW (es.map txt))), .fr (.int m), .fr (.str (txt e))]) S := by
  have hlt : ∀ i : Nat, i % 12 < es.length := fun i => by rw [hl]; exact Nat.mod_lt _ (by decide)
  let g : Nat → Ex := fun i => es[i % 12]'(hlt i)
  have hg : ∀ i, IsLeaf (g i) := fun i => hle _ (List.getElem_mem _)
  obtain ⟨e, c1, c2, c3⟩ := row_ok hk (es := (List.range m).map g) (by
    intro z
    have := congrArg List.length z
    rw [List.length_map, List.length_range, List.length_nil] at this
    omega) fun b hb => by
    obtain ⟨i, _, rfl⟩ := List.mem_map.mp hb
    exact hg i
  rw [List.length_map, List.length_range] at c3
  refine ⟨e, c1, by omega, ?_⟩
  have fz : EV.frz [.fr (.scr (as.map .int)), x1, x2, .fr (.loc gB), x4, x5, x6, .fr (.str k.opT), .ow (.lst (tkW (es.map txt))), .fr (.int m), .emp] [9] = [.fr (.scr (as.map .int)), x1, x2, .fr (.loc gB), x4, x5, x6, .fr (.str k.opT), .ow (.lst (tkW (es.map txt))), .fr (.int m), .emp] := rfl
  have er : EV.mRng1 (EV.mVarB 9) [.fr (.scr (as.map .int)), x1, x2, .fr (.loc gB), x4, x5, x6, .fr (.str k.opT), .ow (.lst (tkW (es.map txt))), .fr (.int m), .emp] S = .ok ((List.range m).map fun i => .int (i : Nat)) S := rng_i (k := m) rfl (by omega)
  have em : EV.mLc (EV.mRng1 (EV.mVarB 9)) (EV.bName 2) EV.mYes (n_law_6_c0 (EV.Fn gG gP 59)) [2] [.fr (.scr (as.map .int)), x1, x2, .fr (.loc gB), x4, x5, x6, .fr (.str k.opT), .ow (.lst (tkW (es.map txt))), .fr (.int m), .emp] S = .ok (.lst ((List.range m).map fun i => .str (txt (g i)))) S := by
    refine lc_run er (by rw [List.length_map, List.length_range]; omega) (by simpa using h2) rfl ?_
    refine lc_idxA (wi := fun i : Nat => EV.W.int (i : Nat)) (f := fun i => .str (txt (g i))) (List.range m) fun i hi => ?_
    have hi := List.mem_range.mp hi
    show n_law_6_c0 (EV.Fn gG gP 59) [.fr (.scr (as.map .int)), x1, .fr (.int i), .fr (.loc gB), x4, x5, x6, .fr (.str k.opT), .ow (.lst (tkW (es.map txt))), .fr (.int m), .emp] S = _
    have hx : (tkW (es.map txt))[i % 12]? = some (.str (txt (g i))) := by
      unfold tkW
      rw [List.map_map, List.getElem?_map, List.getElem?_eq_getElem (hlt i)]
      rfl
    have hmo : (i : Int).fmod 12 = ((i % 12 : Nat) : Int) := by
      rw [Int.fmod_eq_emod_of_nonneg _ (by decide)]
      omega
    have hb : EV.mBin .Mod (EV.mBlt .int (EV.mCons (EV.mVarB 2) EV.mNil)) (EV.mC (.int 12)) [.fr (.scr (as.map .int)), x1, .fr (.int i), .fr (.loc gB), x4, x5, x6, .fr (.str k.opT), .ow (.lst (tkW (es.map txt))), .fr (.int m), .emp] S = .ok (.int (i % 12 : Nat)) S := by
      rw [← hmo]
      clear hx
      generalize tkW (es.map txt) = TW
      generalize as.map EV.W.int = AS
      simp -implicitDefEqProofs [EV.LIM, EV.str_lit, evr, EV.r_for, EV.r_rng1, EV.wbin, EV.wun, EV.wcmp, EV.vw, EV.vwz, EV.wix, EV.wblt, EV.wtru, EV.wisi, EV.frz, EV.mkOwn, L2.atI, L2.ixN, List.map, List.length_cons, List.length_nil, List.replicate, List.getElem?_cons_zero, List.getElem?_cons_succ, List.set_cons_zero, List.set_cons_succ, List.append_nil, List.cons_append, List.nil_append]
    unfold n_law_6_c0
    exact ix_l' rfl hb hx
  have hj : EV.mSm .join (EV.mVarB 7) (EV.mLc (EV.mRng1 (EV.mVarB 9)) (EV.bName 2) EV.mYes (n_law_6_c0 (EV.Fn gG gP 59)) [2]) [.fr (.scr (as.map .int)), x1, x2, .fr (.loc gB), x4, x5, x6, .fr (.str k.opT), .ow (.lst (tkW (es.map txt))), .fr (.int m), .emp] S = .ok (.str (txt e)) S := by
    unfold EV.mSm
    rw [show EV.mVarB 7 [.fr (.scr (as.map .int)), x1, x2, .fr (.loc gB), x4, x5, x6, .fr (.str k.opT), .ow (.lst (tkW (es.map txt))), .fr (.int m), .emp] S = .ok (.str k.opT) S from rfl, EV.r_ok, em, EV.r_ok]
    have hw : (List.range m).map (fun i => EV.W.str (txt (g i))) = ((List.range m).map fun i => txt (g i)).map .str := by rw [List.map_map]; rfl
    have hlen : ((((List.range m).map fun i => txt (g i))).map (·.length)).sum + ((List.range m).map fun i => txt (g i)).length * k.opT.length ≤ 16777216 := by
      have h1 : ∀ n : Nat, (((List.range n).map fun i => txt (g i)).map (·.length)).sum ≤ 220 * n := fun n => by
        induction n with
        | zero => simp
        | succ n ih =>
          obtain ⟨q1, _, q3, _⟩ := leaf_ok (hg n)
          have := txt_len _ q1
          rw [List.range_succ, List.map_append, List.map_append, List.sum_append]
          simp only [List.map_cons, List.map_nil, List.sum_cons, List.sum_nil]
          omega
      have h2 := h1 m
      have h3 := len_opT k
      have h4 : m * k.opT.length ≤ m * 3 := Nat.mul_le_mul_left _ h3
      rw [List.length_map, List.length_range]
      omega
    rw [hw]
    show EV.olift (match EV.wrd.wstrs (((List.range m).map fun i => txt (g i)).map EV.W.str) with
      | some ys => if (ys.map (·.length)).sum + ys.length * k.opT.length ≤ 16777216 then some (EV.W.str (Txt.join k.opT ys)) else none
      | none => none) S = _
    rw [wstrs_map]
    show EV.olift (if (((List.range m).map fun i => txt (g i)).map (·.length)).sum + ((List.range m).map fun i => txt (g i)).length * k.opT.length ≤ 16777216 then some (EV.W.str (Txt.join k.opT ((List.range m).map fun i => txt (g i)))) else none) S = _
    rw [if_pos hlen, join_eq, c2, List.map_map]
    rfl
  unfold n_law_6
  rw [EV.r_frz, fz, EV.r_set, hj]
  rfl
end
section
variable {as : List Int} {x1 x2 x3 x4 x5 x6 : EV.Sl} {S : EV.Sto}
theorem l_rowback {es : List Ex} {k : K5} {m gB : Nat} {e : Ex} (hc : Ch k e) (hs : e.sz ≤ 1200) : ∃ cu, n_law_7 (EV.Fn gG gP 59) [.fr (.scr (as.map .int)), x1, x2, .fr (.loc gB), x4, x5, x6, .fr (.str k.opT), .ow (.lst (tkW (es.map txt))), .fr (.int m), .fr (.str (txt e))] S = .ok (.nx [.fr (.scr (as.map .int)), x1, x2, .fr (.loc gB), x4, x5, x6, .fr (.str k.opT), .ow (.lst (tkW (es.map txt))), .fr (.int m), .fr (.str (txt e))]) (S ++ [cu]) := by
  obtain ⟨l, q1, q2⟩ := hc.row
  have hl := txt_len e hc.ok
  obtain ⟨cu, e1⟩ := back_ex (S := S) 12 (t := txt e) (j := 0) (by simpa using q1) (by omega) (p_top q2).2 (by omega)
  have hr := hc.hr
  have e2 := etx (S := S ++ [cu]) 36 hc.ok hc.nbo (by omega) (by omega)
  have e3 := same_str (S := S ++ [cu]) 58 (txt e)
  refine ⟨cu, ?_⟩
  have fz : EV.frz [.fr (.scr (as.map .int)), x1, x2, .fr (.loc gB), x4, x5, x6, .fr (.str k.opT), .ow (.lst (tkW (es.map txt))), .fr (.int m), .fr (.str (txt e))] [10, 10] = [.fr (.scr (as.map .int)), x1, x2, .fr (.loc gB), x4, x5, x6, .fr (.str k.opT), .ow (.lst (tkW (es.map txt))), .fr (.int m), .fr (.str (txt e))] := rfl
  unfold n_law_7
  rw [EV.r_frz, fz]
  refine no_same ?_
  generalize txt e = TE at *
  generalize exW e = WE at *
  generalize S ++ [cu] = S1 at *
  generalize tkW (es.map txt) = TW at *
  generalize as.map EV.W.int = AS at *
  generalize k.opT = KT at *
  simp -implicitDefEqProofs [EV.LIM, EV.str_lit, evr, EV.r_for, EV.r_rng1, EV.wbin, EV.wun, EV.wcmp, EV.vw, EV.vwz, EV.wix, EV.wblt, EV.wtru, EV.wisi, EV.frz, EV.mkOwn, L2.atI, L2.ixN, List.map, List.length_cons, List.length_nil, List.replicate, List.getElem?_cons_zero, List.getElem?_cons_succ, List.set_cons_zero, List.set_cons_succ, List.append_nil, List.cons_append, List.nil_append, e1, e2, e3]
theorem l_end {e1 : Ex} {x7 x8 x9 x10 : EV.Sl} (he : ExOk e1) (hs : e1.sz ≤ 8) (ht : e1.ht ≤ 7) : n_law_8 (EV.Fn gG gP 59) [.fr (.scr (as.map .int)), .fr (.tup [exW e1, .str (txt e1)]), x2, x3, x4, x5, x6, x7, x8, x9, x10] S = .ok (.rt (.bl true)) S := by
  have h1 := hR_ht e1
  have e2 := etx (S := S) 36 he (nbok_sz e1 (by omega)) (by omega) (by omega)
  have e3 := same_str (S := S) 58 (txt e1)
  generalize txt e1 = TE at *
  generalize exW e1 = WE at *
  generalize as.map EV.W.int = AS at *
  simp -implicitDefEqProofs [EV.LIM, EV.str_lit, evr, EV.r_for, EV.r_rng1, EV.wbin, EV.wun, EV.wcmp, EV.vw, EV.vwz, EV.wix, EV.wblt, EV.wtru, EV.wisi, EV.frz, EV.mkOwn, L2.atI, L2.ixN, List.map, List.length_cons, List.length_nil, List.replicate, List.getElem?_cons_zero, List.getElem?_cons_succ, List.set_cons_zero, List.set_cons_succ, List.append_nil, List.cons_append, List.nil_append, n_law_8, e2, e3]
end
theorem law_pure (as : List Int) (h : as.length ≤ 63) : ∃ S', EV.Fn gG gP 60 "law" [.scr (as.map EV.W.int)] [] = .ok (.bl true) S' := by
  rw [fe_law, if_pos (by rfl), ms_law, EV.r_run]
  show ∃ S', (EV.sSeq _ _ [.fr (.scr (as.map .int)), .emp, .emp, .emp, .emp, .emp, .emp, .emp, .emp, .emp, .emp] []).bind EV.runF = _
  have a0 : n_law_0 (EV.Fn gG gP 59) [.fr (.scr (as.map .int)), .emp, .emp, .emp, .emp, .emp, .emp, .emp, .emp, .emp, .emp] [] = .ok (.nx [.fr (.scr (as.map .int)), .fr .non, .emp, .emp, .emp, .emp, .emp, .emp, .emp, .emp, .emp]) [] := rfl
  obtain ⟨e1, S1, y3, y4, y5, y6, he, hs, ht, c1⟩ := turn (S := []) (x1 := .fr .non) (x3 := .emp) (x4 := .emp) (x5 := .emp) (x6 := .emp) as 0
  obtain ⟨e2, S2, z3, z4, z5, z6, _, _, _, c2⟩ := turn (S := S1) (x1 := fstS 0 e1 (.fr .non)) (x3 := y3) (x4 := y4) (x5 := y5) (x6 := y6) as 1
  have f1 : fstS 0 e1 (.fr .non) = .fr (.tup [exW e1, .str (txt e1)]) := rfl
  have f2 : fstS 1 e2 (fstS 0 e1 (.fr .non)) = .fr (.tup [exW e1, .str (txt e1)]) := rfl
  rw [f2] at c2
  have a1 : n_law_1 (EV.Fn gG gP 59) [.fr (.scr (as.map .int)), .fr .non, .emp, .emp, .emp, .emp, .emp, .emp, .emp, .emp, .emp] [] = .ok (.nx [.fr (.scr (as.map .int)), .fr (.tup [exW e1, .str (txt e1)]), .fr (.int (1 : Nat)), z3, z4, z5, z6, .emp, .emp, .emp, .emp]) S2 := by
    unfold n_law_1
    rw [EV.r_for, show EV.mRng1 (EV.mC (.int 2)) [.fr (.scr (as.map .int)), .fr .non, .emp, .emp, .emp, .emp, .emp, .emp, .emp, .emp, .emp] [] = .ok [.int (0 : Nat), .int (1 : Nat)] [] from rng_i (k := 2) rfl (by omega), EV.r_ok, EV.r_forF, EV.r_forC, EV.r_bname, EV.r_ok, EV.r_forG]
    refine (congrArg (fun r => EV.Res.bind r _) c1).trans ?_
    rw [EV.r_ok, EV.r_forHn, EV.r_forC, EV.r_bname, EV.r_ok, EV.r_forG]
    refine (congrArg (fun r => EV.Res.bind r _) c2).trans ?_
    rw [EV.r_ok, EV.r_forHn, EV.r_forN]
  obtain ⟨o2, b2, eb⟩ := bag_ex 58 as 2 S2
  have a2 : n_law_2 (EV.Fn gG gP 59) [.fr (.scr (as.map .int)), .fr (.tup [exW e1, .str (txt e1)]), .fr (.int (1 : Nat)), z3, z4, z5, z6, .emp, .emp, .emp, .emp] S2 = .ok (.nx [.fr (.scr (as.map .int)), .fr (.tup [exW e1, .str (txt e1)]), .fr (.int (1 : Nat)), .fr (.loc S2.length), z4, z5, z6, .emp, .emp, .emp, .emp]) (S2 ++ [o2]) := by
    have fz : EV.frz [.fr (.scr (as.map .int)), .fr (.tup [exW e1, .str (txt e1)]), .fr (.int (1 : Nat)), z3, z4, z5, z6, .emp, .emp, .emp, .emp] [0] = [.fr (.scr (as.map .int)), .fr (.tup [exW e1, .str (txt e1)]), .fr (.int (1 : Nat)), z3, z4, z5, z6, .emp, .emp, .emp, .emp] := rfl
    unfold n_law_2
    rw [EV.r_frz, fz, EV.r_set, show EV.mCall (EV.Fn gG gP 59) "_law_bag" (EV.mCons (EV.mVar 0) (EV.mCons (EV.mC (.int 2)) EV.mNil)) [] [.fr (.scr (as.map .int)), .fr (.tup [exW e1, .str (txt e1)]), .fr (.int (1 : Nat)), z3, z4, z5, z6, .emp, .emp, .emp, .emp] S2 = .ok (.loc S2.length) (S2 ++ [o2]) from eb]
    rfl
  obtain ⟨v, o3, hv, b3, e3⟩ := pick_ex 57 (S := S2 ++ [o2]) (n := S2.length) (ws := [.str " + ", .str " - ", .str " * "]) (get_last S2 o2) b2 (by simp) (by simp)
  rw [set_lst] at e3
  obtain ⟨k, hk, rfl⟩ : ∃ k : K5, k.fn = false ∧ v = .str k.opT := by
    simp only [List.mem_cons, List.not_mem_nil, or_false] at hv
    rcases hv with rfl | rfl | rfl
    · exact ⟨.add, rfl, rfl⟩
    · exact ⟨.sub, rfl, rfl⟩
    · exact ⟨.mul, rfl, rfl⟩
  have a3 : n_law_3 (EV.Fn gG gP 59) [.fr (.scr (as.map .int)), .fr (.tup [exW e1, .str (txt e1)]), .fr (.int (1 : Nat)), .fr (.loc S2.length), z4, z5, z6, .emp, .emp, .emp, .emp] (S2 ++ [o2]) = .ok (.nx [.fr (.scr (as.map .int)), .fr (.tup [exW e1, .str (txt e1)]), .fr (.int (1 : Nat)), .fr (.loc S2.length), z4, z5, z6, .fr (.str k.opT), .emp, .emp, .emp]) (S2 ++ [o3]) := by
    have fz : EV.frz [.fr (.scr (as.map .int)), .fr (.tup [exW e1, .str (txt e1)]), .fr (.int (1 : Nat)), .fr (.loc S2.length), z4, z5, z6, .emp, .emp, .emp, .emp] [3] = [.fr (.scr (as.map .int)), .fr (.tup [exW e1, .str (txt e1)]), .fr (.int (1 : Nat)), .fr (.loc S2.length), z4, z5, z6, .emp, .emp, .emp, .emp] := rfl
    unfold n_law_3
    rw [EV.r_frz, fz, EV.r_set, show EV.mCall (EV.Fn gG gP 59) "_law_pick" (EV.mCons (EV.mVar 3) (EV.mCons (EV.mLst (EV.mCons (EV.mC (.str " + ")) (EV.mCons (EV.mC (.str " - ")) (EV.mCons (EV.mC (.str " * ")) EV.mNil)))) EV.mNil)) [] [.fr (.scr (as.map .int)), .fr (.tup [exW e1, .str (txt e1)]), .fr (.int (1 : Nat)), .fr (.loc S2.length), z4, z5, z6, .emp, .emp, .emp, .emp] (S2 ++ [o2]) = .ok (.str k.opT) (S2 ++ [o3]) from e3]
    rfl
  obtain ⟨es, o4, l4, h4, b4, a4⟩ := l_some (as := as) (x1 := .fr (.tup [exW e1, .str (txt e1)])) (x2 := .fr (.int (1 : Nat))) (x4 := z4) (x5 := z5) (x6 := z6) (S := S2) rfl b3 k.opT
  obtain ⟨m, o5, h9, hm, b5, a5⟩ := l_many (as := as) (x1 := .fr (.tup [exW e1, .str (txt e1)])) (x2 := .fr (.int (1 : Nat))) (x4 := z4) (x5 := z5) (x6 := z6) (S := S2) b4 k.opT es
  obtain ⟨e, hc, hsz, a6⟩ := l_row (as := as) (x1 := .fr (.tup [exW e1, .str (txt e1)])) (x2 := .fr (.int (1 : Nat))) (x4 := z4) (x5 := z5) (x6 := z6) (S := S2 ++ [o5]) l4 h4 hk h9 hm rfl S2.length
  obtain ⟨cu, a7⟩ := l_rowback (as := as) (x1 := .fr (.tup [exW e1, .str (txt e1)])) (x2 := .fr (.int (1 : Nat))) (x4 := z4) (x5 := z5) (x6 := z6) (S := S2 ++ [o5]) (es := es) (m := m) (gB := S2.length) hc hsz
  refine ⟨(S2 ++ [o5]) ++ [cu], ?_⟩
  rw [seq_step a0, seq_step a1, seq_step a2, seq_step a3, seq_step a4, seq_step a5, seq_step a6, seq_step a7, l_end he hs ht]
  rfl

end R
theorem PySem.Challenge.cw_rungstead_k01_expression_text_and_back_holds : PySem.Challenge.rw_rungstead_k01_expression_text_and_back.Holds :=
  R.headT R.law_pure
#print axioms PySem.Challenge.cw_rungstead_k01_expression_text_and_back_holds
